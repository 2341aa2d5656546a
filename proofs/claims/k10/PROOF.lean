import PyProof.Rows.All
import Wide.All
import OpenK.AllK
import Wide.FinOn
import HandS.ForMost
import HandS.Deep
import HandS.TupAny
import HandS.TupLe
import HandS.IsInst
import HandS.Wide
import HandS.Flow
import HandS.Style
import HandS.Zip
import HandS.Conv
import HandS.Strs
import HandS.Codes
import KE.SortData
import KE.DataEq
import KE.DataCmp
import PyProof.StrBlock2
import PyProof.IsRules
import HandS.ExcOwn
import KE.KExcSuper
import HandS.ExcInit
import HandS.ExcField
import KE.GoesEnum
import HandS.WordsExc
import PySem.Challenge.RW_closersteps_k10_commands_parts_and_ways
set_option Elab.async false
set_option linter.all false
set_option maxRecDepth 100000
/-! An interpreter for the part of Python that the package uses, over data without addresses. -/
namespace Cs
open PySem

/-! ### data -/
/-- None, a bool, an int, a text, a tuple, a list, a dict (its keys, its values), a memory cell, the script (a list of others') -/
inductive D where
  | non | bl (b : Bool) | int (i : Int) | str (s : Str)
  | tup (ds : List D) | lst (ds : List D) | dct (ks vs : List D) | ref (n : Nat) | scr (ds : List D)
  deriving Inhabited
inductive Cell where
  | lst (ds : List D) | dct (ks vs : List D) | ins (cls : Str) (fs : List (Str × D))
  deriving Inhabited
abbrev Mem := List Cell
abbrev Sto := List (Option D)
structure Exc where
  cls : Str
  fs : List (Str × D)
inductive Res (α : Type) where
  | ok (a : α) (m : Mem)
  | exc (x : Exc) (m : Mem)
  | bad
inductive Fl where
  | nx | bk | ct | rt (d : D)
inductive SRes where
  | ok (f : Fl) (e : Sto) (m : Mem)
  | exc (x : Exc) (e : Sto) (m : Mem)
  | bad
abbrev FE := Sto → Mem → Res D
abbrev FB := Sto → Mem → Res Bool
abbrev FL := Sto → Mem → Res (List D)
abbrev FS := Sto → Mem → SRes

/-! ### equality, order, depth -/
mutual
def eqD : D → D → Bool
  | .non, .non => true
  | .bl a, .bl b => a == b
  | .bl a, .int j => (if a then 1 else 0) == j
  | .int i, .bl b => i == (if b then 1 else 0)
  | .int i, .int j => i == j
  | .str x, .str y => x == y
  | .lst xs, .lst ys => eqL xs ys
  | .tup xs, .tup ys => eqL xs ys
  | _, _ => false
def eqL : List D → List D → Bool
  | [], [] => true
  | x :: xs, y :: ys => eqD x y && eqL xs ys
  | _, _ => false
end
mutual
/-- no dict, no cell within -/
def plain : D → Bool
  | .lst xs => plainL xs
  | .tup xs => plainL xs
  | .dct _ _ => false
  | .ref _ => false
  | .scr _ => false
  | _ => true
def plainL : List D → Bool
  | [] => true
  | x :: xs => plain x && plainL xs
end
mutual
def dep : D → Nat
  | .lst xs => depL xs + 1
  | .tup xs => depL xs + 1
  | _ => 0
def depL : List D → Nat
  | [] => 0
  | x :: xs => max (dep x) (depL xs)
end
mutual
/-- all cells within stand below n -/
def low (n : Nat) : D → Bool
  | .lst xs => lowL n xs
  | .tup xs => lowL n xs
  | .dct ks vs => lowL n ks && lowL n vs
  | .ref k => decide (k < n)
  | .scr xs => lowL n xs
  | _ => true
def lowL (n : Nat) : List D → Bool
  | [] => true
  | x :: xs => low n x && lowL n xs
end
def Cell.low (n : Nat) : Cell → Bool
  | .lst ds => lowL n ds
  | .dct ks vs => lowL n ks && lowL n vs
  | .ins _ fs => lowL n (fs.map (·.2))

/-! ### what a value is worth in a memory -/
/-- a cell's list or dict as a value -/
def res (m : Mem) : D → D
  | .ref n => match m[n]? with
    | some (.lst ds) => .lst ds
    | some (.dct ks vs) => .dct ks vs
    | _ => .ref n
  | .scr ds => .lst ds
  | d => d
/-- the items of a list or tuple -/
def seqD (m : Mem) (d : D) : Option (List D) :=
  match res m d with
  | .lst ds => some ds
  | .tup ds => some ds
  | _ => none
def lstD (m : Mem) (d : D) : Option (List D) :=
  match res m d with
  | .lst ds => some ds
  | _ => none
/-- .. but the script -/
def lstX (m : Mem) (d : D) : Option (List D) :=
  match d with
  | .scr _ => none
  | d => lstD m d
def trD (m : Mem) (d : D) : Option Bool :=
  match res m d with
  | .non => some false
  | .bl b => some b
  | .int i => some (i != 0)
  | .str s => if s.length ≤ sizeLine then some ((s.length : Int) != 0) else none
  | .lst ds => some (!ds.isEmpty)
  | .tup ds => some (!ds.isEmpty)
  | _ => none
/-- a tuple that may be a key: of ints alone (no tuple of the module's constants is such) -/
def keyT (ds : List D) : Bool := ds.all fun d => match d with
  | .int _ => true
  | _ => false
/-- a tuple of texts, one at least: its methods may be called -/
def nmT : List D → Bool
  | [] => false
  | d :: r => (d :: r).all fun d => match d with
    | .str _ => true
    | _ => false
/-- what may be a key of a dict with these -/
def keyD (ks : List D) : D → Bool
  | .int _ => ks.all fun q => match q with
    | .tup _ => false
    | _ => true
  | .str _ => ks.all fun q => match q with
    | .tup _ => false
    | _ => true
  | .tup ds => keyT ds && ks.all fun q => match q with
    | .tup _ => true
    | _ => false
  | _ => false
/-- the place of a key -/
def findK (k : D) : List D → Option Nat
  | [] => none
  | x :: r => if eqD x k then some 0 else (findK k r).map (· + 1)
def getK (ks vs : List D) (k : D) : Option D := (findK k ks).bind fun i => vs[i]?
def putK (ks vs : List D) (k v : D) : List D × List D :=
  match findK k ks with
  | some i => (ks, vs.set i v)
  | none => (ks ++ [k], vs ++ [v])
def dropK (ks vs : List D) (k : D) : List D × List D :=
  match findK k ks with
  | some i => (ks.eraseIdx i, vs.eraseIdx i)
  | none => (ks, vs)

def cutD (xs : List D) (lo hi : Option Int) : List D := (xs.drop (HT.sIx xs.length 0 lo)).take (HT.sIx xs.length xs.length hi - HT.sIx xs.length 0 lo)

/-! ### operators -/
def mulOk (i j : Int) : Bool := decide (i.natAbs.log2 + j.natAbs.log2 < 1000000)
def binD (op : Operator) (a b : D) (m : Mem) : Option D :=
  match op, res m a, res m b with
  | .Add, .int i, .int j => some (.int (i + j))
  | .Add, .str x, .str y => if x.length + y.length ≤ sizeLine then some (.str (x ++ y)) else none
  | .Add, .tup xs, .tup ys => if xs.length + ys.length ≤ sizeLine then some (.tup (xs ++ ys)) else none
  | .Add, .lst xs, .lst ys => if xs.length + ys.length ≤ sizeLine then some (.lst (xs ++ ys)) else none
  | .Sub, .int i, .int j => some (.int (i - j))
  | .Mult, .int i, .int j => if mulOk i j then some (.int (i * j)) else none
  | .Mult, .str x, .int k => if 0 ≤ k ∧ k ≤ 1000 ∧ x.length ≤ 1000 then some (.str (Txt.mul x k)) else none
  | .FloorDiv, .int i, .int j => if 0 < j ∧ j < 1073741824 then some (.int (i / j)) else none
  | .Mod, .int i, .int j => if 0 < j then some (.int (i % j)) else none
  | .Pow, .int i, .int j => if 0 ≤ j ∧ j ≤ 1000000 ∧ i.natAbs < 2 ^ 64 then some (.int (i ^ j.toNat)) else none
  | _, _, _ => none
/-- whatever is in a list: it is not the empty one -/
def lst0 : D → D → Bool
  | .lst (_ :: _), .lst [] => true
  | _, _ => false
def eqOk (a b : D) : Bool := (plain a && plain b && decide (min (dep a) (dep b) ≤ 150)) || lst0 a b
def inD (x c : D) : Option Bool :=
  match c with
  | .lst ds => if plain x && plainL ds && decide (min (depL ds) (dep x) ≤ 150) then some (ds.any fun z => eqD z x) else none
  | .tup ds => if plain x && plainL ds && decide (min (depL ds) (dep x) ≤ 150) then some (ds.any fun z => eqD z x) else none
  | .str z => match x with
    | .str s => match s.cps.toList with
      | [c] => some (decide (c ∈ z.cps.toList))
      | _ => none
    | _ => none
  | .dct ks vs => if keyD ks x then some (getK ks vs x).isSome else none
  | _ => none
def ltS (x y : Str) : Bool := decide (x.cps.toList < y.cps.toList)
def cmpD (op : CmpOp) (a b : D) (m : Mem) : Option Bool :=
  match op with
  | .Eq => if eqOk (res m a) (res m b) then some (eqD (res m a) (res m b)) else none
  | .NotEq => if eqOk (res m a) (res m b) then some (!eqD (res m a) (res m b)) else none
  | .Lt => match a, b with
    | .int i, .int j => some (decide (i < j))
    | .str x, .str y => some (ltS x y)
    | _, _ => none
  | .LtE => match a, b with
    | .int i, .int j => some (decide (i ≤ j))
    | .str x, .str y => some (!ltS y x)
    | _, _ => none
  | .Gt => match a, b with
    | .int i, .int j => some (decide (j < i))
    | .str x, .str y => some (ltS y x)
    | _, _ => none
  | .GtE => match a, b with
    | .int i, .int j => some (decide (j ≤ i))
    | .str x, .str y => some (!ltS x y)
    | _, _ => none
  | .Is => match b with
    | .non => some (match a with | .non => true | _ => false)
    | .bl k => match a with
      | .bl j => some (j == k)
      | _ => some false
    | _ => none
  | .IsNot => match b with
    | .non => some (match a with | .non => false | _ => true)
    | .bl k => match a with
      | .bl j => some (!(j == k))
      | _ => some true
    | _ => none
  | .In => inD a (res m b)
  | .NotIn => (inD a (res m b)).map (!·)
def negD : D → Option D
  | .int i => some (.int (-i))
  | _ => none
def ixD (a b : D) (m : Mem) : Option D :=
  match res m a, b with
  | .lst ds, .int i => L2.atI ds i
  | .tup ds, .int i => L2.atI ds i
  | .str s, .int i => if s.length ≤ sizeLine then (L2.atI s.cps.toList i).map fun c => .str ⟨#[c]⟩ else none
  | .dct ks vs, k => if keyD ks k then getK ks vs k else none
  | _, _ => none
def slD (a : D) (lo hi : Option Int) (m : Mem) : Option D :=
  match res m a with
  | .lst ds => some (.lst (cutD ds lo hi))
  | .tup ds => some (.tup (cutD ds lo hi))
  | .str s => if s.length ≤ sizeLine then some (.str (L2.cutS s lo hi)) else none
  | _ => none
inductive Ty where
  | int | bool | str | tuple | list | dict
  deriving DecidableEq
def isiD (t : Ty) (d : D) : Option Bool :=
  match d with
  | .non => some false
  | .bl _ => some (t == .bool || t == .int)
  | .int _ => some (t == .int)
  | .str _ => some (t == .str)
  | .tup _ => some (t == .tuple)
  | .lst _ => some (t == .list)
  | .dct _ _ => some (t == .dict)
  | _ => none
def boolsD : List D → Option (List Bool)
  | [] => some []
  | .bl b :: r => (boolsD r).map (b :: ·)
  | _ :: _ => none

/-! ### order of data, sorting -/
mutual
def ltD : D → D → Bool
  | .int i, .int j => decide (i < j)
  | .str x, .str y => ltS x y
  | .tup xs, .tup ys => ltL xs ys
  | _, _ => false
def ltL : List D → List D → Bool
  | _, [] => false
  | [], _ :: _ => true
  | x :: xs, y :: ys => if eqD x y then ltL xs ys else ltD x y
end
mutual
/-- the data as the library's own -/
def py : D → PyData
  | .non => .none
  | .bl b => .bool b
  | .int i => .int i
  | .str s => .str s
  | .tup ds => .tuple (pyL ds)
  | .lst ds => .list (pyL ds)
  | .dct _ _ => .dict []
  | .ref _ => .dict []
  | .scr _ => .dict []
def pyL : List D → List PyData
  | [] => []
  | d :: r => py d :: pyL r
end
def isNonT (d : D) : Bool := match d with
  | .non => true
  | .tup _ => true
  | _ => false
def isTup1 (d : D) : Bool := match d with
  | .tup (_ :: _) => true
  | _ => false
/-- sorted as the library says -/
def sortL (ds : List D) : List D := ds.mergeSort (PySem.W.dataLe false py)
/-- what may be sorted: alike data, all tuples or none -/
def sortOk (ds : List D) : Bool := plainL ds && decide (depL ds ≤ 150) && (ds.all fun d => ds.all fun e => PySem.W.alike (py d) (py e)) && (ds.all isTup1 || ds.all fun d => !isNonT d)
def flatK : D → Bool
  | .int _ => true
  | .str _ => true
  | _ => false
def mergeD : List D → List D → List D → List D → List D × List D
  | ks, vs, k :: kr, v :: vr => let p := putK ks vs k v; mergeD p.1 p.2 kr vr
  | ks, vs, _, _ => (ks, vs)
/-- a list of pairs: the keys, the values -/
def pairsD : List D → Option (List D × List D)
  | [] => some ([], [])
  | .tup [k, v] :: r => if flatK k then (pairsD r).map fun p => (k :: p.1, v :: p.2) else none
  | _ :: _ => none
inductive Blt where
  | len | all | any | tuple | list | abs | int | str | sorted | min | max | dict
  deriving DecidableEq
def b1 (g : D → Mem → Option D) : List D → Mem → Option D
  | [a], m => g a m
  | _, _ => none
def b2 (g : D → D → Mem → Option D) : List D → Mem → Option D
  | [a, b], m => g a b m
  | _, _ => none
def lenB (a : D) (m : Mem) : Option D :=
  match res m a with
  | .lst ds => some (.int ds.length)
  | .tup ds => some (.int ds.length)
  | .dct ks _ => if ks.all flatK then some (.int ks.length) else none
  | .str s => if s.length ≤ sizeLine then some (.int s.length) else none
  | _ => none
def allB (a : D) (m : Mem) : Option D := (lstD m a).bind fun ds => (boolsD ds).map fun bs => .bl (bs.all id)
def anyB (a : D) (m : Mem) : Option D := (lstD m a).bind fun ds => (boolsD ds).map fun bs => .bl (bs.any id)
def absB (a : D) (m : Mem) : Option D :=
  match a with
  | .int i => some (.int (if i < 0 then -i else i))
  | _ => none
def intB (a : D) (m : Mem) : Option D :=
  match a with
  | .int i => some (.int i)
  | _ => none
def strB (a : D) (m : Mem) : Option D :=
  match a with
  | .int i => if i.natAbs.log2 < 1920 then some (.str (toString i)) else none
  | _ => none
def minB (a b : D) (m : Mem) : Option D :=
  match a, b with
  | .int i, .int j => some (.int (if j < i then j else i))
  | _, _ => none
def maxB (a b : D) (m : Mem) : Option D :=
  match a, b with
  | .int i, .int j => some (.int (if j > i then j else i))
  | _, _ => none
def sortB (a : D) (m : Mem) : Option D := (seqD m a).bind fun ds => if sortOk ds then some (.lst (sortL ds)) else none
def dictB (a : D) (m : Mem) : Option D := (lstD m a).bind fun ds => (pairsD ds).map fun p => .dct (mergeD [] [] p.1 p.2).1 (mergeD [] [] p.1 p.2).2
def bltD (f : Blt) : List D → Mem → Option D :=
  match f with
  | .len => b1 lenB
  | .all => b1 allB
  | .any => b1 anyB
  | .tuple => b1 fun a m => (seqD m a).map .tup
  | .list => b1 fun a m => (seqD m a).map .lst
  | .abs => b1 absB
  | .int => b1 intB
  | .str => b1 strB
  | .min => b2 minB
  | .max => b2 maxB
  | .sorted => b1 sortB
  | .dict => b1 dictB
inductive Mth where
  | append | extend | pop | get | index | update
  deriving DecidableEq
/-- what a method is called of -/
inductive Rk where
  | lst | tup | dct | str
  deriving DecidableEq
def rkD (m : Mem) (d : D) : Option Rk :=
  match res m d with
  | .lst _ => some .lst
  | .tup ds => if nmT ds then some .tup else none
  | .dct _ _ => some .dct
  | .str _ => some .str
  | _ => none
def setC (m : Mem) (n : Nat) (c : Cell) : Mem := m.set n c
def mthOk : Mth → Rk → Bool
  | .append, .lst => true
  | .extend, .lst => true
  | .pop, .lst => true
  | .get, .dct => true
  | .update, .dct => true
  | .index, .lst => true
  | .index, .tup => true
  | _, _ => false
/-- a method of a list in a cell -/
def cellM (n : Nat) (m : Mem) (g : List D → Option (D × List D)) : Option (D × Mem) :=
  match m[n]? with
  | some (.lst ds) => (g ds).map fun p => (p.1, setC m n (.lst p.2))
  | _ => none
def appM (o : D) (as : List D) (m : Mem) : Option (D × Mem) :=
  match o, as with
  | .ref n, [a] => cellM n m fun ds => if ds.length < sizeLine then some (.non, ds ++ [a]) else none
  | _, _ => none
def extM (o : D) (as : List D) (m : Mem) : Option (D × Mem) :=
  match o, as with
  | .ref n, [a] => (lstX m a).bind fun es => cellM n m fun ds => if ds.length + es.length ≤ sizeLine then some (.non, ds ++ es) else none
  | _, _ => none
def popM (o : D) (as : List D) (m : Mem) : Option (D × Mem) :=
  match o, as with
  | .ref n, [] => cellM n m fun ds => (ds[ds.length - 1]?).map fun d => (d, ds.dropLast)
  | _, _ => none
def getM (o : D) (as : List D) (m : Mem) : Option (D × Mem) :=
  match as with
  | [k] => (match res m o with
    | .dct ks vs => if keyD ks k then some ((getK ks vs k).getD .non, m) else none
    | _ => none)
  | [k, d] => (match res m o with
    | .dct ks vs => if keyD ks k then some ((getK ks vs k).getD d, m) else none
    | _ => none)
  | _ => none
def idxL (o : D) (as : List D) (m : Mem) : Option (D × Mem) :=
  match as with
  | [.str z] => (match res m o with
    | .lst ds => if nmT ds then (ds.findIdx? fun y => eqD y (.str z)).map fun (i : Nat) => (.int i, m) else none
    | _ => none)
  | _ => none
def idxT (o : D) (as : List D) (m : Mem) : Option (D × Mem) :=
  match as with
  | [.str z] => (match res m o with
    | .tup ds => if nmT ds then (ds.findIdx? fun y => eqD y (.str z)).map fun (i : Nat) => (.int i, m) else none
    | _ => none)
  | _ => none
/-- d.update(e), ints and texts as keys -/
def updM (o : D) (as : List D) (m : Mem) : Option (D × Mem) :=
  match o, as with
  | .ref n, [.dct kr vr] => (match m[n]? with
    | some (.dct ks vs) => if ks.all flatK && kr.all flatK && decide (ks.length + kr.length ≤ sizeLine) then
        some (.non, setC m n (.dct (mergeD ks vs kr vr).1 (mergeD ks vs kr vr).2)) else none
    | _ => none)
  | _, _ => none
def mthD (f : Mth) (k : Rk) : D → List D → Mem → Option (D × Mem) :=
  match f, k with
  | .append, .lst => appM
  | .extend, .lst => extM
  | .pop, .lst => popM
  | .get, .dct => getM
  | .update, .dct => updM
  | .index, .lst => idxL
  | .index, .tup => idxT
  | _, _ => fun _ _ _ => none

/-! ### combinators: expressions -/
def ofO (m : Mem) : Option D → Res D
  | some d => .ok d m
  | none => .bad
def fVar (i : Nat) : FE := fun e m => match e[i]? with
  | some (some d) => .ok d m
  | _ => .bad
def fCon (d : D) : FE := fun _ m => .ok d m
def fBad : FE := fun _ _ => .bad
def bnd {α β : Type} (r : Res α) (k : α → Mem → Res β) : Res β := match r with
  | .ok a m => k a m
  | .exc x m => .exc x m
  | .bad => .bad
def f1 (g : D → Mem → Res D) (fa : FE) : FE := fun e m => bnd (fa e m) g
def f2 (g : D → D → Mem → Res D) (fa fb : FE) : FE := fun e m => bnd (fa e m) fun a m => bnd (fb e m) fun b m => g a b m
def fBin (op : Operator) : FE → FE → FE := f2 fun a b m => ofO m (binD op a b m)
def fNeg : FE → FE := f1 fun a m => ofO m (negD a)
def fTr (fa : FE) : FB := fun e m => bnd (fa e m) fun a m => match trD m a with
  | some b => .ok b m
  | none => .bad
def fNotV (fa : FE) : FE := fun e m => bnd (fTr fa e m) fun b m => .ok (.bl !b) m
def fAndV (fa fb : FE) : FE := fun e m => bnd (fa e m) fun a m => match trD m a with
  | some true => fb e m
  | some false => .ok a m
  | none => .bad
def fOrV (fa fb : FE) : FE := fun e m => bnd (fa e m) fun a m => match trD m a with
  | some true => .ok a m
  | some false => fb e m
  | none => .bad
def fCmp (op : CmpOp) : FE → FE → FE := f2 fun a b m => ofO m ((cmpD op a b m).map .bl)
def cmpGo (v : D) : List (CmpOp × FE) → FE
  | [], _, _ => .bad
  | [(op, f)], e, m => bnd (f e m) fun b m => ofO m ((cmpD op v b m).map .bl)
  | (op, f) :: p :: r, e, m => bnd (f e m) fun b m => match cmpD op v b m with
    | some true => cmpGo b (p :: r) e m
    | some false => .ok (.bl false) m
    | none => .bad
def fCmpN (fa : FE) (l : List (CmpOp × FE)) : FE := fun e m => bnd (fa e m) fun v m => cmpGo v l e m
def fIf (ft : FB) (fa fb : FE) : FE := fun e m => bnd (ft e m) fun t m => if t then fa e m else fb e m
def fNil : FL := fun _ m => .ok [] m
def fCons (fa : FE) (fr : FL) : FL := fun e m => bnd (fa e m) fun a m => bnd (fr e m) fun r m => .ok (a :: r) m
def fTup (fs : FL) : FE := fun e m => bnd (fs e m) fun ds m => if ds.length ≤ sizeLine then .ok (.tup ds) m else .bad
def fLst (fs : FL) : FE := fun e m => bnd (fs e m) fun ds m => if ds.length ≤ sizeLine then .ok (.lst ds) m else .bad
def fIx : FE → FE → FE := f2 fun a b m => ofO m (ixD a b m)
/-- an optional part of a slice -/
def fPart (fa : Option FE) : Sto → Mem → Res (Option Int) := fun e m => match fa with
  | none => .ok none m
  | some f => bnd (f e m) fun d m => match d with
    | .int i => .ok (some i) m
    | _ => .bad
def fSl (fa : FE) (lo hi : Option FE) : FE := fun e m => bnd (fa e m) fun a m => bnd (fPart lo e m) fun l m => bnd (fPart hi e m) fun h m => ofO m (slD a l h m)
def fBlt (b : Blt) (fs : FL) : FE := fun e m => bnd (fs e m) fun ds m => ofO m (bltD b ds m)
def fIsi (t : Ty) (fa : FE) : FE := fun e m => bnd (fa e m) fun d m => ofO m ((isiD t (res m d)).map .bl)
def fCall (C : Str → List D → Mem → Res D) (f : Str) (fs : FL) : FE := fun e m => bnd (fs e m) fun ds m => C f ds m
def fMth (f : Mth) (fo : FE) (fs : FL) : FE := fun e m => bnd (fo e m) fun o m => match rkD m o with
  | some k => if mthOk f k then bnd (fs e m) fun ds m => match mthD f k o ds m with
      | some (d, m) => .ok d m
      | none => .bad
    else .bad
  | none => .bad
/-- {} -/
def fDct0 : FE := fun _ m => .ok (.dct [] []) m
/-- {k: v, ..}, keys written texts or ints -/
def fPairs : List (FE × FE) → Sto → Mem → Res (List D × List D)
  | [], _, m => .ok ([], []) m
  | (fk, fv) :: r, e, m => bnd (fk e m) fun k m => bnd (fv e m) fun v m => bnd (fPairs r e m) fun kv m => .ok (k :: kv.1, v :: kv.2) m
def fDct (fs : List (FE × FE)) : FE := fun e m => bnd (fPairs fs e m) fun kv m =>
  if kv.1.all flatK then .ok (.dct (mergeD [] [] kv.1 kv.2).1 (mergeD [] [] kv.1 kv.2).2) m else .bad

/-! ### targets -/
inductive Tgt where
  | name (i : Nat)
  | tup (ts : List Tgt)
mutual
def bindT : Tgt → D → Sto → Option Sto
  | .name i, d, e => some (e.set i (some d))
  | .tup ts, .tup ds, e => bindL ts ds e
  | .tup _, _, _ => none
def bindL : List Tgt → List D → Sto → Option Sto
  | [], [], e => some e
  | t :: ts, d :: ds, e => (bindT t d e).bind (bindL ts ds)
  | _, _, _ => none
end
mutual
def slotsT : Tgt → List Nat
  | .name i => [i]
  | .tup ts => slotsL ts
def slotsL : List Tgt → List Nat
  | [] => []
  | t :: r => slotsT t ++ slotsL r
end

/-! ### what is walked -/
/-- the items, and the cells that must stay as they are while they are walked -/
abbrev FI := Sto → Mem → Res (List D × List Nat)
def itL (m : Mem) (d : D) : Option (List D × List Nat) :=
  match d with
  | .lst ds => some (ds, [])
  | .scr ds => some (ds, [])
  | .ref n => match m[n]? with
    | some (.lst ds) => some (ds, [n])
    | _ => none
  | _ => none
def itOf (m : Mem) (d : D) : Option (List D × List Nat) :=
  match d with
  | .tup ds => some (ds, [])
  | .str z => some (z.cps.toList.map fun c => .str ⟨#[c]⟩, [])
  | d => itL m d
def iVal (fa : FE) : FI := fun e m => bnd (fa e m) fun d m => match itOf m d with
  | some p => .ok p m
  | none => .bad
/-- a name's list, tuple or text, or its dict's keys -/
def iVar (i : Nat) : FI := fun e m => match e[i]? with
  | some (some (.dct ks _)) => if ks.all flatK then .ok (ks, []) m else .bad
  | _ => iVal (fVar i) e m
def rangeL (a : Int) : Nat → List D
  | 0 => []
  | n + 1 => .int a :: rangeL (a + 1) n
def rngOk (i : Int) : Bool := decide (-(2 ^ 62) ≤ i) && decide (i < 2 ^ 62)
def jRng1 (fa : FE) : FI := fun e m => bnd (fa e m) fun d m => match d with
  | .int j => if rngOk j then .ok (rangeL 0 j.toNat, []) m else .bad
  | _ => .bad
def jRng2 (fa fb : FE) : FI := fun e m => bnd (fa e m) fun a m => bnd (fb e m) fun b m => match a, b with
  | .int i, .int j => if rngOk i && rngOk j then .ok (rangeL i (j - i).toNat, []) m else .bad
  | _, _ => .bad
def zipL : List D → List D → List D
  | x :: xs, y :: ys => .tup [x, y] :: zipL xs ys
  | _, _ => []
/-- no pair is of two texts -/
def zipOk : List D → List D → Bool
  | .str _ :: _, .str _ :: _ => false
  | _ :: xs, _ :: ys => zipOk xs ys
  | _, _ => true
def jZip (fa fb : FE) : FI := fun e m => bnd (fa e m) fun a m => bnd (fb e m) fun b m => match a, b with
  | .tup xs, .tup ys => if zipOk xs ys then .ok (zipL xs ys, []) m else .bad
  | a, b => match itL m a, itL m b with
    | some p, some q => if zipOk p.1 q.1 then .ok (zipL p.1 q.1, p.2 ++ q.2) m else .bad
    | _, _ => .bad
def enumL : Nat → List D → List D
  | _, [] => []
  | n, d :: r => .tup [.int n, d] :: enumL (n + 1) r
def jEnum (fa : FE) : FI := fun e m => bnd (fa e m) fun a m => match a with
  | .tup ds => .ok (enumL 0 ds, []) m
  | a => match itL m a with
    | some p => .ok (enumL 0 p.1, p.2) m
    | none => .bad

/-! ### the same data -/
mutual
def beqD : D → D → Bool
  | .non, .non => true
  | .bl a, .bl b => a == b
  | .int i, .int j => i == j
  | .str x, .str y => x.cps.toList == y.cps.toList
  | .tup xs, .tup ys => beqL xs ys
  | .lst xs, .lst ys => beqL xs ys
  | .dct ks vs, .dct ks' vs' => beqL ks ks' && beqL vs vs'
  | .ref n, .ref k => n == k
  | .scr xs, .scr ys => beqL xs ys
  | _, _ => false
def beqL : List D → List D → Bool
  | [], [] => true
  | x :: xs, y :: ys => beqD x y && beqL xs ys
  | _, _ => false
end
def beqF : List (Str × D) → List (Str × D) → Bool
  | [], [] => true
  | x :: xs, y :: ys => x.1.cps.toList == y.1.cps.toList && beqD x.2 y.2 && beqF xs ys
  | _, _ => false
def beqC : Cell → Cell → Bool
  | .lst xs, .lst ys => beqL xs ys
  | .dct ks vs, .dct ks' vs' => beqL ks ks' && beqL vs vs'
  | .ins c fs, .ins c' fs' => c.cps.toList == c'.cps.toList && beqF fs fs'
  | _, _ => false
/-- the cells at ns are as they were -/
def same (ns : List Nat) (m m' : Mem) : Bool := ns.all fun n => match m'[n]?, m[n]? with
  | some c, some c' => beqC c c'
  | none, none => true
  | _, _ => false

/-! ### comprehensions -/
/-- the env in a comprehension's block -/
def wipe : Sto → List Nat → Sto
  | e, [] => e
  | e, i :: r => (wipe e r).set i none
def lcGo (t : Tgt) (ft : FB) (fe : FE) (e : Sto) (ns : List Nat) (m0 : Mem) : List D → Mem → Res (List D)
  | [], m => .ok [] m
  | d :: r, m => match bindT t d e with
    | none => .bad
    | some e' => match ft e' m with
      | .ok true m1 => match fe e' m1 with
        | .ok v m2 => if same ns m0 m2 then match lcGo t ft fe e ns m0 r m2 with
            | .ok vs m3 => .ok (v :: vs) m3
            | _ => .bad
          else .bad
        | _ => .bad
      | .ok false m1 => if same ns m0 m1 then lcGo t ft fe e ns m0 r m1 else .bad
      | _ => .bad
def fLc (own : List Nat) (t : Tgt) (fi : FI) (ft : FB) (fe : FE) : FE := fun e m =>
  bnd (fi e m) fun p m => match lcGo t ft fe (wipe e own) p.2 m p.1 m with
    | .ok vs m' => if vs.length ≤ sizeLine then .ok (.lst vs) m' else .bad
    | _ => .bad
/-- two for clauses: the inner items by a comprehension of their own, joined -/
def lc2Go (t : Tgt) (ft : FB) (inner : Sto → Mem → Res (List D)) (e : Sto) (ns : List Nat) (m0 : Mem) : List D → Mem → Res (List D)
  | [], m => .ok [] m
  | d :: r, m => match bindT t d e with
    | none => .bad
    | some e' => match ft e' m with
      | .ok true m1 => match inner e' m1 with
        | .ok vs m2 => if same ns m0 m2 then match lc2Go t ft inner e ns m0 r m2 with
            | .ok ws m3 => .ok (vs ++ ws) m3
            | _ => .bad
          else .bad
        | _ => .bad
      | .ok false m1 => if same ns m0 m1 then lc2Go t ft inner e ns m0 r m1 else .bad
      | _ => .bad
def lcIn (t : Tgt) (fi : FI) (ft : FB) (fe : FE) (own1 : List Nat) : Sto → Mem → Res (List D) := fun e m =>
  bnd (fi e m) fun p m => lcGo t ft fe (wipe e own1) p.2 m p.1 m
def fLc2 (own : List Nat) (t : Tgt) (fi : FI) (ft : FB) (own1 : List Nat) (t1 : Tgt) (fi1 : FI) (ft1 : FB) (fe : FE) : FE := fun e m =>
  bnd (fi e m) fun p m => match lc2Go t ft (lcIn t1 fi1 ft1 fe own1) (wipe e own) p.2 m p.1 m with
    | .ok vs m' => if vs.length ≤ sizeLine then .ok (.lst vs) m' else .bad
    | _ => .bad
def tYes : FB := fun _ m => .ok true m

/-! ### combinators: statements -/
def sNx : FS := fun e m => .ok .nx e m
def sBad : FS := fun _ _ => .bad
def sSeq (a b : FS) : FS := fun e m => match a e m with
  | .ok .nx e m => b e m
  | r => r
def sBd {α : Type} (r : Res α) (e : Sto) (k : α → Mem → SRes) : SRes := match r with
  | .ok a m => k a m
  | .exc x m => .exc x e m
  | .bad => .bad
def sDrop (fa : FE) : FS := fun e m => sBd (fa e m) e fun _ m => .ok .nx e m
def sRet (fa : FE) : FS := fun e m => sBd (fa e m) e fun d m => .ok (.rt d) e m
def sRetN : FS := fun e m => .ok (.rt .non) e m
def sPass : FS := sNx
def sBreak : FS := fun e m => .ok .bk e m
def sCont : FS := fun e m => .ok .ct e m
def sIf (ft : FB) (a b : FS) : FS := fun e m => sBd (ft e m) e fun t m => if t then a e m else b e m
/-- into a new cell -/
def newC (d : D) (m : Mem) : Option (D × Mem) :=
  match d with
  | .lst ds => some (.ref m.length, m ++ [.lst ds])
  | .dct ks vs => some (.ref m.length, m ++ [.dct ks vs])
  | _ => none
def sSet (i : Nat) (fa : FE) : FS := fun e m => sBd (fa e m) e fun d m => .ok .nx (e.set i (some d)) m
/-- the value, a fresh list or dict, becomes a cell -/
def fNew (fa : FE) : FE := fun e m => bnd (fa e m) fun d m => match newC d m with
  | some p => .ok p.1 p.2
  | none => .bad
def sAsg (t : Tgt) (fa : FE) : FS := fun e m => sBd (fa e m) e fun d m => match bindT t d e with
  | some e' => .ok .nx e' m
  | none => .bad
def setsL : List Nat → List D → Sto → Sto
  | i :: is, d :: ds, e => setsL is ds (e.set i (some d))
  | _, _, e => e
/-- a, b = x, y -/
def sPar (is : List Nat) (fs : FL) : FS := fun e m => sBd (fs e m) e fun ds m => .ok .nx (setsL is ds e) m
/-- o[i] = v -/
def putD (o k v : D) (m : Mem) : Option Mem :=
  match o with
  | .ref n => match m[n]? with
    | some (.dct ks vs) => if keyD ks k && decide (ks.length < sizeLine) then some (setC m n (.dct (putK ks vs k v).1 (putK ks vs k v).2)) else none
    | some (.lst ds) => match k with
      | .int i => (L2.ixN ds.length i).map fun j => setC m n (.lst (ds.set j v))
      | _ => none
    | _ => none
  | _ => none
def sPut (fo fi fv : FE) : FS := fun e m => sBd (fv e m) e fun v m => sBd (fo e m) e fun o m => sBd (fi e m) e fun i m => match putD o i v m with
  | some m => .ok .nx e m
  | none => .bad
def augD (op : Operator) (a b : D) : Option D :=
  match op, a, b with
  | .Add, .int i, .int j => some (.int (i + j))
  | .Sub, .int i, .int j => some (.int (i - j))
  | _, _, _ => none
def dctAt (m : Mem) (o i : D) : Option D :=
  match res m o with
  | .dct ks vs => if keyD ks i then getK ks vs i else none
  | _ => none
/-- o[i] op= v, o a dict -/
def sAugP (op : Operator) (fo fi fv : FE) : FS := fun e m => sBd (fo e m) e fun o m => sBd (fi e m) e fun i m => match dctAt m o i with
  | some x => sBd (fv e m) e fun v m => match augD op x v with
    | some z => match putD o i z m with
      | some m => .ok .nx e m
      | none => .bad
    | none => .bad
  | none => .bad
/-- x op= v -/
def sAug (op : Operator) (i : Nat) (fv : FE) : FS := fun e m => match e[i]? with
  | some (some x) => sBd (fv e m) e fun v m => match augD op x v with
    | some z => .ok .nx (e.set i (some z)) m
    | none => .bad
  | _ => .bad
def forGo (t : Tgt) (b : FS) (ns : List Nat) (m0 : Mem) : List D → FS
  | [] => sNx
  | d :: r => fun e m => match bindT t d e with
    | none => .bad
    | some e' => match b e' m with
      | .ok .nx e m => if same ns m0 m then forGo t b ns m0 r e m else .bad
      | .ok .ct e m => if same ns m0 m then forGo t b ns m0 r e m else .bad
      | .ok .bk e m => .ok .nx e m
      | r => r
def sFor (t : Tgt) (fi : FI) (b : FS) : FS := fun e m => sBd (fi e m) e fun p m => forGo t b p.2 m p.1 e m
def whlGo (ft : FB) (b : FS) : Nat → FS
  | 0 => sBad
  | n + 1 => fun e m => match ft e m with
    | .ok true m => match b e m with
      | .ok .nx e m => whlGo ft b n e m
      | .ok .ct e m => whlGo ft b n e m
      | .ok .bk e m => .ok .nx e m
      | r => r
    | .ok false m => .ok .nx e m
    | .exc x m => .exc x e m
    | .bad => .bad
/-- at most so many turns -/
def manyTurns : Nat := 2 ^ 64
def sWhl (ft : FB) (b : FS) : FS := whlGo ft b manyTurns
/-! ### exceptions of the program's own -/
/-- what an own exception's __init__ takes -/
inductive XArg where
  | txt | num
def xArg : XArg → D → Bool
  | .txt, .str z => decide (z.length ≤ 1000)
  | .num, .int i => decide (i.natAbs < 2 ^ 30)
  | _, _ => false
/-- raise cls(a): the field f holds a -/
def sRaise (cls f : Str) (k : XArg) (fa : FE) : FS := fun e m => sBd (fa e m) e fun d m => if xArg k d then .exc ⟨cls, [(f, d)]⟩ e m else .bad
def strEq (a b : Str) : Bool := a.cps.toList == b.cps.toList
/-- what an except suite hands back -/
inductive Suite where
  | ret | retT (s : Str)
def Suite.val : Suite → D → D
  | .ret, d => d
  | .retT s, d => .tup [.str s, d]
/-- try: b / except cls as n: return n.f (or a tuple of a text and it) -/
def sTry (cls f : Str) (i : Nat) (s : Suite) (b : FS) : FS := fun e m => match b e m with
  | .exc y e1 m1 => if strEq y.cls cls then (match y.fs with
      | [(g, d)] => if strEq g f && decide (i < e1.length) then .ok (.rt (s.val d)) e1 m1 else .bad
      | _ => .bad) else .exc y e1 m1
  | r => r
end Cs

/-! The interpreter over the model's syntax: a node's meaning is a combinator over its parts' meanings. -/
namespace Cs
open PySem

theorem strEq_eq {a b : Str} (h : strEq a b = true) : a = b := by
  obtain ⟨⟨a⟩⟩ := a
  obtain ⟨⟨b⟩⟩ := b
  have : a = b := by simpa [strEq] using h
  rw [this]
theorem strEq_ne {a b : Str} (h : strEq a b = false) : a ≠ b := by
  rintro rfl
  simp [strEq] at h
def lkp {α : Type} (x : Str) : List (Str × α) → Option α
  | [] => none
  | (y, a) :: r => if strEq x y then some a else lkp x r
theorem lkp_lookup {α : Type} (x : Str) : ∀ l : List (Str × α), lkp x l = l.lookup x
  | [] => rfl
  | (y, a) :: r => by
    unfold lkp
    rw [List.lookup_cons]
    by_cases h : strEq x y = true
    · rw [if_pos h, strEq_eq h, beq_self_eq_true]
    · have e : x ≠ y := strEq_ne (by simpa using h)
      have e2 : (x == y) = false := by simpa using e
      rw [if_neg h, lkp_lookup x r, e2]
def ixOf (x : Str) : List Str → Option Nat
  | [] => none
  | y :: r => if strEq x y then some 0 else (ixOf x r).map (· + 1)
theorem ixOf_get {x : Str} : ∀ {N : List Str} {i : Nat}, ixOf x N = some i → N[i]? = some x
  | [], _, h => by simp [ixOf] at h
  | y :: r, i, h => by
    unfold ixOf at h
    split at h
    · rename_i e
      cases h
      rw [strEq_eq e]
      rfl
    · cases q : ixOf x r with
      | none => rw [q] at h; simp at h
      | some j =>
        rw [q] at h
        simp at h
        subst h
        simpa using ixOf_get q

/-- where one stands: the slots, the scope, the variables that hold cells, the module's constants, its defs, the built-ins, what a call gives -/
structure SC where
  N : List Str
  sc : Scope
  sc0 : Scope
  al : Str → Bool
  G : Str → Option D
  fn : Str → Bool
  bl : Str → Bool
  call : Str → List D → Mem → Res D
  hot : Str → Bool
  xc : Str → Option (Str × XArg)

/-- no name of the system -/
def okN (x : Str) : Bool := match x.cps.toList with
  | 95 :: 95 :: _ => false
  | _ => true
theorem okN_debug {x : Str} (h : okN x = true) : (x == ("__debug__" : Str)) = false := by
  rw [beq_eq_false_iff_ne]
  rintro rfl
  revert h
  decide +kernel
theorem okN_dict {x : Str} (h : okN x = true) : (x == ("__classdict__" : Str)) = false := by
  rw [beq_eq_false_iff_ne]
  rintro rfl
  revert h
  decide +kernel
theorem okN_name {x : Str} (h : okN x = true) : x ≠ ("__name__" : Str) := by
  rintro rfl
  revert h
  decide +kernel
def SC.vis (c : SC) (x : Str) : Bool := okN x && match lkp x c.sc.names with
  | some .local => true
  | some .cell => true
  | some .free => true
  | _ => false
def SC.loc (c : SC) (x : Str) : Bool := match lkp x c.sc0.names with
  | some .local => true
  | some .cell => true
  | _ => false
def SC.isLocal (c : SC) (x : Str) : Bool := match lkp x c.sc.names with
  | some .local => true
  | _ => false
def SC.gl (c : SC) (x : Str) : Bool := okN x && match lkp x c.sc.names with
  | some .globalImplicit => true
  | _ => false
def SC.slot (c : SC) (x : Str) : Option Nat := if c.vis x then ixOf x c.N else none
def SC.slotW (c : SC) (x : Str) : Option Nat := if c.loc x then ixOf x c.N else none

def tyTab : List (Str × Ty) := [("tuple", .tuple), ("str", .str), ("int", .int), ("bool", .bool), ("list", .list), ("dict", .dict)]
def bltTab : List (Str × Blt) := [("len", .len), ("tuple", .tuple), ("all", .all), ("any", .any), ("int", .int), ("list", .list), ("abs", .abs), ("str", .str), ("sorted", .sorted), ("min", .min), ("max", .max), ("dict", .dict)]
def mthTab : List (Str × Mth) := [("append", .append), ("extend", .extend), ("pop", .pop), ("get", .get), ("index", .index), ("update", .update)]

structure Ev where
  e : SC → Expr → FE
  s : SC → List Stmt → FS

/-- an argument (no star) -/
def unstar : Expr → Bool
  | .Starred _ _ => false
  | _ => true
def listF (f : Expr → FE) : List Expr → FL
  | [] => fNil
  | a :: r => fCons (f a) (listF f r)
def noStar (es : List Expr) : Bool := es.all unstar
/-- a test -/
def tstX (f : Expr → FE) : Nat → Expr → FB
  | 0, _ => fun _ _ => .bad
  | n + 1, e => match e with
    | .BoolOp .And vs p => match vs with
      | [a] => tstX f n a
      | a :: r => fun e m => bnd (tstX f n a e m) fun b m => if b then tstX f n (.BoolOp .And r p) e m else .ok false m
      | [] => fun _ _ => .bad
    | .BoolOp .Or vs p => match vs with
      | [a] => tstX f n a
      | a :: r => fun e m => bnd (tstX f n a e m) fun b m => if b then .ok true m else tstX f n (.BoolOp .Or r p) e m
      | [] => fun _ _ => .bad
    | .UnaryOp .Not a _ => fun e m => bnd (tstX f n a e m) fun b m => .ok (!b) m
    | .IfExp t a b _ => fun e m => bnd (tstX f n t e m) fun k m => if k then tstX f n a e m else tstX f n b e m
    | e => fTr (f e)
/-- and, or as values -/
def boolX (g : FE → FE → FE) (f : Expr → FE) : List Expr → FE
  | [] => fBad
  | [a] => f a
  | a :: r => g (f a) (boolX g f r)
def plainIx : Expr → Bool
  | .Slice _ _ _ _ => false
  | _ => true
/-- an object whose method is called: no bare call (super) -/
def attrOk : Expr → Bool
  | .Call (.Name _ _) [] [] _ => false
  | _ => true
mutual
def tgtX (c : SC) : Nat → Expr → Option Tgt
  | 0, _ => none
  | n + 1, e => match e with
    | .Name x _ => (c.slotW x).map .name
    | .Tuple es _ _ => (tgtsX c n es).map .tup
    | _ => none
def tgtsX (c : SC) : Nat → List Expr → Option (List Tgt)
  | 0, _ => none
  | _ + 1, [] => some []
  | n + 1, e :: r => match tgtX c n e, tgtsX c n r with
    | some t, some ts => some (t :: ts)
    | _, _ => none
end
/-- the slots of a comprehension's own names -/
def ownX (N : List Str) (scope : Scope) : List (Str × Nat) :=
  scope.names.filterMap fun y => match y.2 with
    | .local => (ixOf y.1 N).map fun i => (y.1, i)
    | .cell => (ixOf y.1 N).map fun i => (y.1, i)
    | _ => none
/-- a set literal as what is walked is folded: not here -/
def noSet : Expr → Bool
  | .Set _ _ _ => false
  | _ => true
def iterX (c : SC) (f : Expr → FE) (tg : Expr) : Expr → FI
  | .Call (.Name x p) args [] pos =>
    if c.gl x && c.bl x && strEq x "range" then (match args with
      | [a] => if noStar [a] then jRng1 (f a) else fun _ _ => .bad
      | [a, b] => if noStar [a, b] then jRng2 (f a) (f b) else fun _ _ => .bad
      | _ => fun _ _ => .bad)
    else if c.gl x && c.bl x && strEq x "zip" then (match args, tg with
      | [a, b], .Tuple _ _ _ => if noStar [a, b] then jZip (f a) (f b) else fun _ _ => .bad
      | _, _ => fun _ _ => .bad)
    else if c.gl x && c.bl x && strEq x "enumerate" then (match args, tg with
      | [a], .Tuple _ _ _ => if noStar [a] then jEnum (f a) else fun _ _ => .bad
      | _, _ => fun _ _ => .bad)
    else iVal (f (.Call (.Name x p) args [] pos))
  | e => if noSet e then iVal (f e) else fun _ _ => .bad
/-- .. in a comprehension of one clause: a name may hold a dict -/
def iterV (c : SC) (f : Expr → FE) (tg e : Expr) : FI := match e with
  | .Name x _ => match c.slot x with
    | some i => iVar i
    | none => iterX c f tg e
  | e => iterX c f tg e
def ifsX (f : Expr → FB) : List Expr → FB
  | [] => tYes
  | [c] => f c
  | _ => fun _ _ => .bad
def inner (c : SC) (scope : Scope) : SC := { c with sc := L2.relS scope c.sc, sc0 := scope, call := fun x => if c.hot x then fun _ _ => .bad else c.call x, hot := fun _ => false }
def tstN : Nat := 12
def lc1X (c : SC) (ev : SC → Expr → FE) (elt tg it : Expr) (ifs : List Expr) (scope : Scope) : FE :=
  match tgtX (inner c scope) 16 tg with
  | some t => if noSet it && L2.blkC c.N c.sc scope (ownX c.N scope) && (slotsT t).all (fun i => ((ownX c.N scope).map (·.2)).contains i) then
      fLc ((ownX c.N scope).map (·.2)) t (iterV c (ev c) tg it) (ifsX (tstX (ev (inner c scope)) tstN) ifs) (ev (inner c scope) elt) else fBad
  | none => fBad
def lc2X (c : SC) (ev : SC → Expr → FE) (elt tg it : Expr) (ifs : List Expr) (tg1 it1 : Expr) (ifs1 : List Expr) (scope : Scope) : FE :=
  match tgtX (inner c scope) 16 tg with
  | some t => match tgtX (inner c scope) 16 tg1 with
    | some t1 => if noSet it && noSet it1 && L2.blkC c.N c.sc scope (ownX c.N scope) && (slotsT t).all (fun i => ((ownX c.N scope).map (·.2)).contains i) && (slotsT t1).all (fun i => ((ownX c.N scope).map (·.2)).contains i) then
        fLc2 ((ownX c.N scope).map (·.2)) t (iterX c (ev c) tg it) (ifsX (tstX (ev (inner c scope)) tstN) ifs) (slotsT t1) t1 (iterX (inner c scope) (ev (inner c scope)) tg1 it1) (ifsX (tstX (ev (inner c scope)) tstN) ifs1) (ev (inner c scope) elt) else fBad
    | none => fBad
  | none => fBad
def lcX (c : SC) (ev : SC → Expr → FE) (elt : Expr) (gs : List Comprehension) (scope : Scope) : FE :=
  match gs with
  | [⟨tg, it, ifs, k⟩] => if k = 0 then lc1X c ev elt tg it ifs scope else fBad
  | [⟨tg, it, ifs, k⟩, ⟨tg1, it1, ifs1, k1⟩] => if k = 0 then (if k1 = 0 then lc2X c ev elt tg it ifs tg1 it1 ifs1 scope else fBad) else fBad
  | _ => fBad
/-- built-ins that give new lists -/
def mkName (x : Str) : Bool := strEq x "list" || strEq x "sorted" || strEq x "dict"
/-- an expression whose list or dict is new -/
def fresh : Expr → Bool
  | .List _ _ => true
  | .Dict _ _ _ => true
  | .ListComp _ _ _ _ => true
  | .BinOp _ .Add _ _ => true
  | .Call (.Name x _) _ [] _ => mkName x
  | .Subscript _ (.Slice _ _ _ _) _ => true
  | _ => false
def callX (c : SC) (f : Expr → FE) (x : Str) (args : List Expr) : FE :=
  if c.gl x && noStar args then
    if c.fn x && !mkName x then fCall c.call x (listF f args)
    else if c.bl x then
      match args with
      | [] => fBad
      | a :: r =>
        if strEq x "isinstance" then (match r with
          | [.Name t _] => if c.gl t && c.bl t then (match lkp t tyTab with
            | some ty => fIsi ty (f a)
            | none => fBad) else fBad
          | _ => fBad)
        else match lkp x bltTab with
          | some b => fBlt b (listF f (a :: r))
          | none => fBad
    else fBad
  else fBad
def mthX (f : Expr → FE) (o : Expr) (name : Str) (apos pos : Pos) (args : List Expr) : FE :=
  if noStar args && attrOk o && (apos.endLine == pos.line) && decide (args.length < 20) then match lkp name mthTab with
    | some b => fMth b (f o) (listF f args)
    | none => fBad
  else fBad
def dctX (f : Expr → FE) : List (Option Expr) → List Expr → Option (List (FE × FE))
  | [], [] => some []
  | some k :: ks, v :: vs => (dctX f ks vs).map ((f k, f v) :: ·)
  | _, _ => none
def stE (ev : SC → Expr → FE) (c : SC) (e : Expr) : FE :=
  match e with
  | .Name x _ => match c.slot x with
    | some i => fVar i
    | none => if c.gl x then (match c.G x with | some d => fCon d | none => fBad) else fBad
  | .Constant k _ _ => match k with
    | .none => fCon .non
    | .bool b => fCon (.bl b)
    | .int i => fCon (.int i)
    | .str s => fCon (.str s)
    | _ => fBad
  | .BinOp a op b _ => fBin op (ev c a) (ev c b)
  | .UnaryOp op a _ => match op with
    | .USub => fNeg (ev c a)
    | .Not => fNotV (ev c a)
    | _ => fBad
  | .BoolOp op vs _ => match op with
    | .And => boolX fAndV (ev c) vs
    | .Or => boolX fOrV (ev c) vs
  | .Compare a ops bs _ => match ops, bs with
    | [op], [b] => if noSet b then fCmp op (ev c a) (ev c b) else fBad
    | op :: op' :: ops, b :: d :: bs => if decide (ops.length = bs.length) && (b :: d :: bs).all noSet then fCmpN (ev c a) ((op, ev c b) :: (op', ev c d) :: ops.zip (bs.map (ev c))) else fBad
    | _, _ => fBad
  | .IfExp t a b _ => fIf (tstX (ev c) tstN t) (ev c a) (ev c b)
  | .Call fn args kws pos => match fn, kws with
    | .Name x _, [] => callX c (ev c) x args
    | .Attribute o name apos, [] => mthX (ev c) o name apos pos args
    | _, _ => fBad
  | .Subscript a i _ => match i with
    | .Slice lo hi st _ => match st with
      | none => fSl (ev c a) (lo.map (ev c)) (hi.map (ev c))
      | some _ => fBad
    | i => if plainIx i then fIx (ev c a) (ev c i) else fBad
  | .Tuple es _ _ => if noStar es then fTup (listF (ev c) es) else fBad
  | .List es _ => if noStar es then fLst (listF (ev c) es) else fBad
  | .Dict ks vs _ => match ks, vs with
    | [], [] => fDct0
    | k :: ks, v :: vs => if decide ((k :: ks).length ≤ 15) then (match dctX (ev c) (k :: ks) (v :: vs) with
      | some fs => fDct fs
      | none => fBad) else fBad
    | _, _ => fBad
  | .ListComp elt gs scope _ => lcX c ev elt gs scope
  | _ => fBad

/-- what a name is to hold: a new cell where it says so -/
def alX (c : SC) (f : Expr → FE) (x : Str) (e : Expr) : FE := if c.al x then (if fresh e then fNew (f e) else fBad) else f e
def setX (c : SC) (f : Expr → FE) (x : Str) (e : Expr) : FS :=
  match c.slotW x with
  | some i => sSet i (alX c f x e)
  | none => sBad
/-- x, y = a, b with plain locals on one line -/
def swp2 (c : SC) (x y : Str) (px py : Pos) : Bool := c.isLocal x && c.isLocal y && (px.line == px.line) && (py.line == px.line)
def swp3 (c : SC) (x y z : Str) (px py pz : Pos) : Bool := c.isLocal x && c.isLocal y && c.isLocal z && (px.line == px.line) && (py.line == px.line) && (pz.line == px.line)
def foldS (vs : List Expr) : Bool := vs.all (foldedForSure 8)
def foldC (vs : List Expr) : Bool := vs.all (constantsAlone 8)
/-- a tuple of targets, a written tuple: unpacked from the left -/
def asgT (c : SC) (f : Expr → FE) (tg e : Expr) : FS := match tgtX c 16 tg with
  | some t => sAsg t (f e)
  | none => sBad
/-- the parts of a written tuple, for these targets -/
def alL (c : SC) (f : Expr → FE) : List Expr → List Expr → FL
  | _, [] => fNil
  | [], v :: vs => fCons (f v) (alL c f [] vs)
  | t :: es, v :: vs => match t with
    | .Name x _ => fCons (alX c f x v) (alL c f es vs)
    | _ => fCons (f v) (alL c f es vs)
def asgP (c : SC) (f : Expr → FE) (tg : Expr) (es vs : List Expr) : FS := match tgtX c 16 tg with
  | some t => sAsg t (fTup (alL c f es vs))
  | none => sBad
def parX (c : SC) (f : Expr → FE) (tg e : Expr) (es vs : List Expr) : FS :=
  if !noStar vs then sBad
  else if foldS vs then asgP c f tg es vs
  else match es, vs with
  | [.Name x px, .Name y py], [a, b] =>
    if swp2 c x y px py then
      if foldC [a, b] then sBad else
      match c.slotW x, c.slotW y with
      | some i, some j => if decide (i ≠ j) && !strEq x y then sPar [i, j] (fCons (alX c f x a) (fCons (alX c f y b) fNil)) else sBad
      | _, _ => sBad
    else asgP c f tg es vs
  | [.Name x px, .Name y py, .Name z pz], [a, b, d] =>
    if swp3 c x y z px py pz then
      if foldC [a, b, d] then sBad else
      match c.slotW x, c.slotW y, c.slotW z with
      | some i, some j, some k => if decide (i ≠ j) && decide (i ≠ k) && decide (j ≠ k) && !strEq x y && !strEq x z && !strEq y z then
          sPar [i, j, k] (fCons (alX c f x a) (fCons (alX c f y b) (fCons (alX c f z d) fNil))) else sBad
      | _, _, _ => sBad
    else asgP c f tg es vs
  | es', _ => if decide (es'.length = 2) || decide (es'.length = 3) then sBad else asgP c f tg es vs
/-- what an except suite hands back, by its text -/
def suiteX (n f : Str) : List Stmt → Option Suite
  | [.Return (some (.Attribute (.Name x _) g _)) _] => if strEq x n && strEq g f then some .ret else none
  | [.Return (some (.Tuple [.Constant (.str s) _ _, .Attribute (.Name x _) g _] _ _)) _] => if strEq x n && strEq g f then some (.retT s) else none
  | _ => none
def tryX (r : Ev) (c : SC) (body : List Stmt) (x n : Str) (suite : List Stmt) : FS := match c.xc x, ixOf n c.N with
  | some (f, _), some i => if c.hot x && c.gl x && c.isLocal n && okN n then (match suiteX n f suite with
    | some s => sTry x f i s (r.s c body)
    | none => sBad) else sBad
  | _, _ => sBad
def raiseX (r : Ev) (c : SC) (x : Str) (a : Expr) : FS := match c.xc x with
  | some (f, k) => if c.hot x && c.gl x && unstar a then sRaise x f k (r.e c a) else sBad
  | none => sBad
def stS (r : Ev) (c : SC) (st : Stmt) : FS :=
  match st with
  | .Expr e _ => match e with
    | .Constant (.str _) _ _ => sNx
    | .Call .. => sDrop (r.e c e)
    | _ => sBad
  | .Pass _ => sNx
  | .Break _ => sBreak
  | .Continue _ => sCont
  | .Return v _ => match v with
    | some e => sRet (r.e c e)
    | none => sRetN
  | .Assign ts e _ => match ts with
    | [.Name x _] => setX c (r.e c) x e
    | [.Tuple es k p] => match e with
      | .Tuple vs k2 p2 => parX c (r.e c) (.Tuple es k p) (.Tuple vs k2 p2) es vs
      | e => asgT c (r.e c) (.Tuple es k p) e
    | [.Subscript o i _] => if plainIx i then sPut (r.e c o) (r.e c i) (r.e c e) else sBad
    | _ => sBad
  | .AugAssign t op e _ => match t with
    | .Name x _ => match c.slotW x with
      | some i => sAug op i (r.e c e)
      | none => sBad
    | .Subscript o i _ => if plainIx i then sAugP op (r.e c o) (r.e c i) (r.e c e) else sBad
    | _ => sBad
  | .If t a b _ => sIf (tstX (r.e c) tstN t) (r.s c a) (r.s c b)
  | .While t b orelse _ => match orelse with
    | [] => sWhl (tstX (r.e c) tstN t) (r.s c b)
    | _ => sBad
  | .For tg it b orelse _ => match orelse with
    | [] => match tgtX c 16 tg with
      | some t => if noSet it then sFor t (iterX c (r.e c) tg it) (r.s c b) else sBad
      | none => sBad
    | _ => sBad
  | .Raise v fr _ => match v, fr with
    | some (.Call (.Name x _) [a] [] _), none => raiseX r c x a
    | _, _ => sBad
  | .Try body hs orelse fin _ => match hs, orelse, fin with
    | [.ExceptHandler (some (.Name x _)) (some n) suite _], [], [] => tryX r c body x n suite
    | _, _, _ => sBad
  | _ => sBad
def stSs (r : Ev) (c : SC) : List Stmt → FS
  | [] => sNx
  | [st] => stS r c st
  | st :: rest => sSeq (stS r c st) (stSs r c rest)
def step (r : Ev) : Ev := ⟨fun c e => stE r.e c e, fun c l => stSs r c l⟩
def ev : Nat → Ev
  | 0 => ⟨fun _ _ => fBad, fun _ _ => sBad⟩
  | n + 1 => step (ev n)
/-- how deep a def's text may be -/
def deep : Nat := 40
end Cs

/-! How data stand in the abstract heap. -/
namespace Cs
open PySem L2

def kd : Key → D
  | .inl i => .int i
  | .inr s => .str s
def kdT (k : List Key) : D := .tup (k.map kd)
/-- a tuple whose object is known to bear no dict -/
def TupD (K : PySem.W.Frag) (F : Hp) (a : Addr) : Prop :=
  (∃ (o : Obj) (u : List V), F a = some (.frz o (.tup u)) ∧ o.cls = .type "tuple" ∧ o.dict = none) ∨ ∃ o, K.lookup a = some o ∧ o.cls = .type "tuple" ∧ o.dict = none
/-- a dict that is read: as it is, or locked while it is walked (then it is not empty) -/
def RdE (F : Hp) (a : Addr) (u : HO) : Prop := F a = some u ∨ (u ≠ .dK [] ∧ u ≠ .dT [] ∧ ∃ o, F a = some (.frz o u))
theorem RdE.rd {F : Hp} {a : Addr} {u : HO} (h : RdE F a u) : Rd F a u := h.imp id fun ⟨_, _, q⟩ => q
theorem RdE.mono {F F' : Hp} {a : Addr} {u : HO} (h : RdE F a u) (hF : ∀ a o, F a = some o → F' a = some o) : RdE F' a u :=
  h.imp (hF _ _) fun ⟨h1, h2, o, q⟩ => ⟨h1, h2, o, hF _ _ q⟩
mutual
/-- the value v is the data d: F what stands for ever, ι where the memory's cells stand -/
def Rep (K : PySem.W.Frag) (F : Hp) (ι : List Addr) : D → V → Prop
  | .non, v => v = .non
  | .bl b, v => v = .bl b
  | .int i, v => v = .int i
  | .str s, v => v = .str s
  | .tup ds, v => ∃ a vs, v = .ref a ∧ SqT K F a vs ∧ (keyT ds = true → F a = some (.tup vs)) ∧ (nmT ds = true → TupD K F a) ∧ Reps K F ι ds vs
  | .lst ds, v => ∃ a vs, v = .ref a ∧ F a = some (.lst vs) ∧ Reps K F ι ds vs
  | .scr ds, v => ∃ a vs, v = .ref a ∧ SqL K F a vs ∧ Reps K F ι ds vs
  | .dct ks ws, v => ∃ a, v = .ref a ∧ ((∃ kvs : List (Key × V), RdE F a (.dK kvs) ∧ ks = kvs.map (fun p => kd p.1) ∧ Reps K F ι ws (kvs.map (·.2))) ∨
      ∃ kvs : List (List Key × V), RdE F a (.dT kvs) ∧ ks = kvs.map (fun p => kdT p.1) ∧ Reps K F ι ws (kvs.map (·.2)))
  | .ref n, v => ∃ a, v = .ref a ∧ ι[n]? = some a
def Reps (K : PySem.W.Frag) (F : Hp) (ι : List Addr) : List D → List V → Prop
  | [], vs => vs = []
  | d :: ds, vs => ∃ v r, vs = v :: r ∧ Rep K F ι d v ∧ Reps K F ι ds r
end
/-- what a cell holds -/
def RepC (K : PySem.W.Frag) (F : Hp) (ι : List Addr) : Cell → HO → Prop
  | .lst ds, o => ∃ vs, o = .lst vs ∧ Reps K F ι ds vs
  | .dct ks ws, o => (∃ kvs : List (Key × V), o = .dK kvs ∧ ks = kvs.map (fun p => kd p.1) ∧ Reps K F ι ws (kvs.map (·.2))) ∨
      ∃ kvs : List (List Key × V), o = .dT kvs ∧ ks = kvs.map (fun p => kdT p.1) ∧ Reps K F ι ws (kvs.map (·.2))
  | .ins _ _, _ => False

section
variable {K : PySem.W.Frag} {F F' : Hp} {ι ι' : List Addr}
theorem SqT.mono {a : Addr} {xs : List V} (h : SqT K F a xs) (hF : ∀ a o, F a = some o → F' a = some o) : SqT K F' a xs := by
  rcases h with (h | ⟨o, h⟩) | h
  · exact .inl (.inl (hF _ _ h))
  · exact .inl (.inr ⟨o, hF _ _ h⟩)
  · exact .inr h
theorem SqL.mono {a : Addr} {xs : List V} (h : SqL K F a xs) (hF : ∀ a o, F a = some o → F' a = some o) : SqL K F' a xs := by
  rcases h with (h | ⟨o, h⟩) | h
  · exact .inl (.inl (hF _ _ h))
  · exact .inl (.inr ⟨o, hF _ _ h⟩)
  · exact .inr h
theorem TupD.mono {a : Addr} (h : TupD K F a) (hF : ∀ a o, F a = some o → F' a = some o) : TupD K F' a := by
  rcases h with ⟨o, u, h, r⟩ | h
  · exact .inl ⟨o, u, hF _ _ h, r⟩
  · exact .inr h
mutual
theorem Rep.mono (hF : ∀ a o, F a = some o → F' a = some o) (hi : ∀ (n : Nat) a, ι[n]? = some a → ι'[n]? = some a) : ∀ {d : D} {v : V}, Rep K F ι d v → Rep K F' ι' d v
  | .non, _, h => by simpa [Rep] using h
  | .bl _, _, h => by simpa [Rep] using h
  | .int _, _, h => by simpa [Rep] using h
  | .str _, _, h => by simpa [Rep] using h
  | .tup ds, _, h => by
    simp only [Rep] at h ⊢
    obtain ⟨a, vs, e, q, t, u, r⟩ := h
    exact ⟨a, vs, e, SqT.mono q hF, fun z => hF _ _ (t z), fun z => TupD.mono (u z) hF, Reps.mono hF hi r⟩
  | .lst ds, _, h => by
    simp only [Rep] at h ⊢
    obtain ⟨a, vs, e, q, r⟩ := h
    exact ⟨a, vs, e, hF _ _ q, Reps.mono hF hi r⟩
  | .scr ds, _, h => by
    simp only [Rep] at h ⊢
    obtain ⟨a, vs, e, q, r⟩ := h
    exact ⟨a, vs, e, SqL.mono q hF, Reps.mono hF hi r⟩
  | .dct ks ws, _, h => by
    simp only [Rep] at h ⊢
    obtain ⟨a, e, ⟨kvs, q, e2, r⟩ | ⟨kvs, q, e2, r⟩⟩ := h
    · exact ⟨a, e, .inl ⟨kvs, q.mono hF, e2, Reps.mono hF hi r⟩⟩
    · exact ⟨a, e, .inr ⟨kvs, q.mono hF, e2, Reps.mono hF hi r⟩⟩
  | .ref n, _, h => by
    simp only [Rep] at h ⊢
    obtain ⟨a, e, q⟩ := h
    exact ⟨a, e, hi _ _ q⟩
theorem Reps.mono (hF : ∀ a o, F a = some o → F' a = some o) (hi : ∀ (n : Nat) a, ι[n]? = some a → ι'[n]? = some a) : ∀ {ds : List D} {vs : List V}, Reps K F ι ds vs → Reps K F' ι' ds vs
  | [], _, h => by simpa [Reps] using h
  | d :: ds, _, h => by
    simp only [Reps] at h ⊢
    obtain ⟨v, r, e, h1, h2⟩ := h
    exact ⟨v, r, e, Rep.mono hF hi h1, Reps.mono hF hi h2⟩
end
theorem RepC.mono (hF : ∀ a o, F a = some o → F' a = some o) (hi : ∀ (n : Nat) a, ι[n]? = some a → ι'[n]? = some a) {c : Cell} {o : HO} (h : RepC K F ι c o) : RepC K F' ι' c o := by
  cases c with
  | lst ds =>
    obtain ⟨vs, e, r⟩ := h
    exact ⟨vs, e, Reps.mono hF hi r⟩
  | dct ks ws =>
    obtain ⟨kvs, e, e2, r⟩ | ⟨kvs, e, e2, r⟩ := h
    · exact .inl ⟨kvs, e, e2, Reps.mono hF hi r⟩
    · exact .inr ⟨kvs, e, e2, Reps.mono hF hi r⟩
  | ins _ _ => exact h
theorem Reps.length : ∀ {ds : List D} {vs : List V}, Reps K F ι ds vs → vs.length = ds.length
  | [], _, h => by simp [Reps] at h; simp [h]
  | d :: ds, _, h => by
    simp only [Reps] at h
    obtain ⟨v, r, rfl, _, h2⟩ := h
    simp [Reps.length h2]
theorem Reps.get : ∀ {ds : List D} {vs : List V} {i : Nat} {d : D}, Reps K F ι ds vs → ds[i]? = some d → ∃ v, vs[i]? = some v ∧ Rep K F ι d v
  | [], _, _, _, _, e => by simp at e
  | x :: ds, _, 0, d, h, e => by
    simp only [Reps] at h
    obtain ⟨v, r, rfl, h1, _⟩ := h
    simp at e; subst e
    exact ⟨v, rfl, h1⟩
  | x :: ds, _, i + 1, d, h, e => by
    simp only [Reps] at h
    obtain ⟨v, r, rfl, _, h2⟩ := h
    simpa using Reps.get (i := i) h2 (by simpa using e)
theorem Reps.getV {ds : List D} {vs : List V} {i : Nat} {v : V} (h : Reps K F ι ds vs) (e : vs[i]? = some v) : ∃ d, ds[i]? = some d ∧ Rep K F ι d v := by
  have hl := h.length
  have hi : i < vs.length := by
    by_cases q : i < vs.length
    · exact q
    · rw [List.getElem?_eq_none (by omega)] at e; cases e
  have e2 : ds[i]? = some ds[i] := List.getElem?_eq_getElem (by omega)
  obtain ⟨v', e3, r⟩ := h.get e2
  rw [e] at e3
  cases e3
  exact ⟨_, e2, r⟩
theorem Reps.append : ∀ {ds es : List D} {vs ws : List V}, Reps K F ι ds vs → Reps K F ι es ws → Reps K F ι (ds ++ es) (vs ++ ws)
  | [], _, _, _, h, h' => by simp [Reps] at h; subst h; simpa using h'
  | d :: ds, es, _, ws, h, h' => by
    simp only [Reps] at h
    obtain ⟨v, r, rfl, h1, h2⟩ := h
    simp only [List.cons_append, Reps]
    exact ⟨v, r ++ ws, rfl, h1, Reps.append h2 h'⟩
theorem Reps.take : ∀ {ds : List D} {vs : List V} (n : Nat), Reps K F ι ds vs → Reps K F ι (ds.take n) (vs.take n)
  | _, _, 0, _ => by simp [Reps]
  | [], _, _ + 1, h => by simp [Reps] at h; subst h; simp [Reps]
  | d :: ds, _, n + 1, h => by
    simp only [Reps] at h
    obtain ⟨v, r, rfl, h1, h2⟩ := h
    simp only [List.take_succ_cons, Reps]
    exact ⟨v, _, rfl, h1, Reps.take n h2⟩
theorem Reps.drop : ∀ {ds : List D} {vs : List V} (n : Nat), Reps K F ι ds vs → Reps K F ι (ds.drop n) (vs.drop n)
  | _, _, 0, h => by simpa using h
  | [], _, _ + 1, h => by simp [Reps] at h; subst h; simp [Reps]
  | d :: ds, _, n + 1, h => by
    simp only [Reps] at h
    obtain ⟨v, r, rfl, h1, h2⟩ := h
    simpa using Reps.drop n h2
theorem Reps.set : ∀ {ds : List D} {vs : List V} (i : Nat) {d : D} {v : V}, Reps K F ι ds vs → Rep K F ι d v → Reps K F ι (ds.set i d) (vs.set i v)
  | [], _, _, _, _, h, _ => by simp [Reps] at h; subst h; simp [Reps]
  | x :: ds, _, 0, d, v, h, hv => by
    simp only [Reps] at h
    obtain ⟨w, r, rfl, h1, h2⟩ := h
    simp only [List.set_cons_zero, Reps]
    exact ⟨v, r, rfl, hv, h2⟩
  | x :: ds, _, i + 1, d, v, h, hv => by
    simp only [Reps] at h
    obtain ⟨w, r, rfl, h1, h2⟩ := h
    simp only [List.set_cons_succ, Reps]
    exact ⟨w, _, rfl, h1, Reps.set i h2 hv⟩
theorem Reps.cut {ds : List D} {vs : List V} (lo hi : Option Int) (h : Reps K F ι ds vs) : Reps K F ι (cutD ds lo hi) (cutV vs lo hi) := by
  unfold cutD cutV
  rw [h.length]
  exact (h.drop _).take _
theorem Reps.one {d : D} {v : V} (h : Rep K F ι d v) : Reps K F ι [d] [v] := by simp only [Reps]; exact ⟨v, [], rfl, h, rfl⟩
theorem Reps.cons {d : D} {v : V} {ds : List D} {vs : List V} (h : Rep K F ι d v) (h2 : Reps K F ι ds vs) : Reps K F ι (d :: ds) (v :: vs) := by simp only [Reps]; exact ⟨v, vs, rfl, h, h2⟩
theorem Reps.nil : Reps K F ι [] [] := by simp only [Reps]
theorem Reps.of_cons {d : D} {ds : List D} {vs : List V} (h : Reps K F ι (d :: ds) vs) : ∃ v r, vs = v :: r ∧ Rep K F ι d v ∧ Reps K F ι ds r := by simpa only [Reps] using h
theorem Reps.of_nil {vs : List V} (h : Reps K F ι [] vs) : vs = [] := by simpa only [Reps] using h
theorem Rep.tupI {a : Addr} {ds : List D} {vs : List V} (h : F a = some (.tup vs)) (n : nmT ds = false) (r : Reps K F ι ds vs) : Rep K F ι (.tup ds) (.ref a) := by
  simp only [Rep]
  exact ⟨a, vs, rfl, SqT.of h, fun _ => h, fun z => (by rw [n] at z; cases z), r⟩
theorem nm_key {ds : List D} (h : nmT ds = true) : keyT ds = false := by
  cases ds with
  | nil => cases h
  | cons d r =>
    simp only [nmT] at h
    rw [List.all_cons, Bool.and_eq_true] at h
    unfold keyT
    rw [List.all_cons]
    cases d <;> simp at h ⊢
theorem Rep.tupN {a : Addr} {ds : List D} {vs : List V} {o : Obj} (h : F a = some (.frz o (.tup vs))) (hc : o.cls = .type "tuple") (hd : o.dict = none) (n : nmT ds = true) (r : Reps K F ι ds vs) : Rep K F ι (.tup ds) (.ref a) := by
  simp only [Rep]
  exact ⟨a, vs, rfl, .inl (.inr ⟨o, h⟩), fun z => (by rw [nm_key n] at z; cases z), fun _ => .inl ⟨o, _, h, hc, hd⟩, r⟩
theorem Rep.lstI {a : Addr} {ds : List D} {vs : List V} (h : F a = some (.lst vs)) (r : Reps K F ι ds vs) : Rep K F ι (.lst ds) (.ref a) := by simp only [Rep]; exact ⟨a, vs, rfl, h, r⟩
theorem Rep.tupE {v : V} {ds : List D} (h : Rep K F ι (.tup ds) v) : ∃ a vs, v = .ref a ∧ SqT K F a vs ∧ Reps K F ι ds vs := by
  simp only [Rep] at h
  obtain ⟨a, vs, e, q, _, _, r⟩ := h
  exact ⟨a, vs, e, q, r⟩
theorem Rep.tupK {v : V} {ds : List D} (h : Rep K F ι (.tup ds) v) (k : keyT ds = true) : ∃ a vs, v = .ref a ∧ F a = some (.tup vs) ∧ Reps K F ι ds vs := by
  simp only [Rep] at h
  obtain ⟨a, vs, e, _, t, _, r⟩ := h
  exact ⟨a, vs, e, t k, r⟩
theorem Rep.tupT {v : V} {ds : List D} (h : Rep K F ι (.tup ds) v) (k : nmT ds = true) : ∃ a vs, v = .ref a ∧ SqT K F a vs ∧ TupD K F a ∧ Reps K F ι ds vs := by
  simp only [Rep] at h
  obtain ⟨a, vs, e, q, _, u, r⟩ := h
  exact ⟨a, vs, e, q, u k, r⟩
theorem Rep.scrE {v : V} {ds : List D} (h : Rep K F ι (.scr ds) v) : ∃ a vs, v = .ref a ∧ SqL K F a vs ∧ Reps K F ι ds vs := by simpa only [Rep] using h
theorem Rep.lstE {v : V} {ds : List D} (h : Rep K F ι (.lst ds) v) : ∃ a vs, v = .ref a ∧ F a = some (.lst vs) ∧ Reps K F ι ds vs := by simpa only [Rep] using h
theorem Rep.refE {v : V} {n : Nat} (h : Rep K F ι (.ref n) v) : ∃ a, v = .ref a ∧ ι[n]? = some a := by simpa only [Rep] using h
theorem Rep.intE {v : V} {i : Int} (h : Rep K F ι (.int i) v) : v = .int i := by simpa only [Rep] using h
theorem Rep.strE {v : V} {i : Str} (h : Rep K F ι (.str i) v) : v = .str i := by simpa only [Rep] using h
theorem Rep.blE {v : V} {i : Bool} (h : Rep K F ι (.bl i) v) : v = .bl i := by simpa only [Rep] using h
theorem Rep.nonE {v : V} (h : Rep K F ι .non v) : v = .non := by simpa only [Rep] using h
theorem Rep.intI {i : Int} : Rep K F ι (.int i) (.int i) := by simp only [Rep]
theorem Rep.strI {i : Str} : Rep K F ι (.str i) (.str i) := by simp only [Rep]
theorem Rep.blI {i : Bool} : Rep K F ι (.bl i) (.bl i) := by simp only [Rep]
theorem Rep.nonI : Rep K F ι .non .non := by simp only [Rep]
end

/-! ### the memory, the frame -/
structure SimM (K : PySem.W.Frag) (F : Hp) (ι : List Addr) (m : Mem) (H : Hp) : Prop where
  sub : ∀ a o, F a = some o → H a = some o
  len : ι.length = m.length
  nd : ι.Nodup
  cell : ∀ (n : Nat) a c, ι[n]? = some a → m[n]? = some c → F a = none ∧ ∃ o, H a = some o ∧ RepC K F ι c o
structure Sim (K : PySem.W.Frag) (F : Hp) (ι : List Addr) (e : Sto) (m : Mem) (σ : St) (H : Hp) : Prop where
  mem : SimM K F ι m H
  len : e.length = σ.length
  loc : ∀ (i : Nat) d, e[i]? = some (some d) → ∃ v, σ[i]? = some (some v) ∧ Rep K F ι d v
/-- how the heap goes on -/
structure Ext (F : Hp) (ι : List Addr) (H : Hp) (F' : Hp) (ι' : List Addr) (H' : Hp) : Prop where
  f : ∀ a o, F a = some o → F' a = some o
  n : ∀ a, F' a ≠ none → F a ≠ none ∨ H a = none
  i : ∃ new, ι' = ι ++ new ∧ ∀ a ∈ new, H a = none
  k : ∀ a o, a ∉ ι → H a = some o → H' a = some o
  t : ∀ a, H' a = none → H a = none
theorem Ext.refl (F : Hp) (ι : List Addr) (H : Hp) : Ext F ι H F ι H := ⟨fun _ _ h => h, fun _ h => .inl h, ⟨[], by simp, by simp⟩, fun _ _ _ h => h, fun _ h => h⟩
theorem Ext.trans {F F1 F2 : Hp} {ι ι1 ι2 : List Addr} {H H1 H2 : Hp} (a : Ext F ι H F1 ι1 H1) (b : Ext F1 ι1 H1 F2 ι2 H2) : Ext F ι H F2 ι2 H2 where
  f := fun x o h => b.f x o (a.f x o h)
  n := fun x h => by
    rcases b.n x h with h | h
    · exact a.n x h
    · exact .inr (a.t x h)
  i := by
    obtain ⟨n1, e1, h1⟩ := a.i
    obtain ⟨n2, e2, h2⟩ := b.i
    refine ⟨n1 ++ n2, by rw [e2, e1, List.append_assoc], fun x hx => ?_⟩
    rcases List.mem_append.mp hx with hx | hx
    · exact h1 x hx
    · exact a.t x (h2 x hx)
  k := fun x o hx h => by
    obtain ⟨n1, e1, h1⟩ := a.i
    refine b.k x o ?_ (a.k x o hx h)
    rw [e1]
    intro q
    rcases List.mem_append.mp q with q | q
    · exact hx q
    · rw [h1 x q] at h; cases h
  t := fun x h => a.t x (b.t x h)
theorem Ext.ι {F F1 : Hp} {ι ι1 : List Addr} {H H1 : Hp} (a : Ext F ι H F1 ι1 H1) : ∀ (n : Nat) x, ι[n]? = some x → ι1[n]? = some x := fun n x h => by
  obtain ⟨n1, e1, _⟩ := a.i
  have : n < ι.length := by
    by_cases q : n < ι.length
    · exact q
    · rw [List.getElem?_eq_none (by omega)] at h; cases h
  rw [e1, List.getElem?_append_left this]
  exact h
section
variable {K : PySem.W.Frag} {F F1 : Hp} {ι ι1 : List Addr} {H H1 : Hp} {e : Sto} {m m1 : Mem} {σ : St}
theorem Rep.ext {d : D} {v : V} (h : Rep K F ι d v) (x : Ext F ι H F1 ι1 H1) : Rep K F1 ι1 d v := h.mono x.f x.ι
theorem Reps.ext {d : List D} {v : List V} (h : Reps K F ι d v) (x : Ext F ι H F1 ι1 H1) : Reps K F1 ι1 d v := h.mono x.f x.ι
/-- the frame stays as it was -/
theorem Sim.ext (s : Sim K F ι e m σ H) (x : Ext F ι H F1 ι1 H1) (sm : SimM K F1 ι1 m1 H1) : Sim K F1 ι1 e m1 σ H1 :=
  ⟨sm, s.len, fun i d h => let ⟨v, e, r⟩ := s.loc i d h; ⟨v, e, r.ext x⟩⟩
theorem Sim.set (s : Sim K F ι e m σ H) {i : Nat} {d : D} {v : V} (r : Rep K F ι d v) : Sim K F ι (e.set i (some d)) m (σ.set i (some v)) H := by
  refine ⟨s.mem, by rw [List.length_set, List.length_set]; exact s.len, fun j d' h => ?_⟩
  by_cases q : i = j
  · subst q
    have hi : i < e.length := by
      by_cases q : i < e.length
      · exact q
      · rw [List.getElem?_eq_none (by rw [List.length_set]; omega)] at h; cases h
    rw [List.getElem?_set_self hi] at h
    cases h
    exact ⟨v, List.getElem?_set_self (by rw [← s.len]; exact hi), r⟩
  · rw [List.getElem?_set_ne q] at h
    rw [List.getElem?_set_ne q]
    exact s.loc j d' h
theorem Sim.wipe (s : Sim K F ι e m σ H) : ∀ own : List Nat, Sim K F ι (Cs.wipe e own) m (L2.wipe σ own) H
  | [] => s
  | i :: r => by
    have ih := Sim.wipe s r
    show Sim K F ι ((Cs.wipe e r).set i none) m ((L2.wipe σ r).set i none) H
    refine ⟨ih.mem, by rw [List.length_set, List.length_set]; exact ih.len, fun j d h => ?_⟩
    by_cases q : i = j
    · subst q
      rw [List.getElem?_set_self'] at h
      cases z : (Cs.wipe e r)[i]? with
      | none => rw [z] at h; simp at h
      | some _ => rw [z] at h; simp at h
    · rw [List.getElem?_set_ne q] at h ⊢
      exact ih.loc j d h
/-- a new immutable object -/
theorem SimM.freeze (s : SimM K F ι m H) {p : Addr} {o : HO} (hF : F p = none) (hi : p ∉ ι) (hH : H p = some o) : SimM K (upd F p o) ι m H := by
  have hf : ∀ a u, F a = some u → upd F p o a = some u := fun a u h => by
    by_cases q : a = p
    · subst q; rw [hF] at h; cases h
    · rw [upd_ne q]; exact h
  refine ⟨fun a u h => ?_, s.len, s.nd, fun n a c h1 h2 => ?_⟩
  · by_cases q : a = p
    · subst q; rw [upd_same] at h; cases h; exact hH
    · rw [upd_ne q] at h; exact s.sub a u h
  · obtain ⟨h3, u, h4, r⟩ := s.cell n a c h1 h2
    have q : a ≠ p := fun z => hi (z ▸ List.mem_of_getElem? h1)
    exact ⟨by rw [upd_ne q]; exact h3, u, h4, r.mono hf fun _ _ h => h⟩
/-- an address that is free in the heap -/
theorem SimM.notin (s : SimM K F ι m H) {p : Addr} (h : H p = none) : p ∉ ι ∧ F p = none := by
  refine ⟨fun q => ?_, ?_⟩
  · obtain ⟨n, e⟩ := List.getElem?_of_mem q
    have hn : n < ι.length := by
      by_cases q : n < ι.length
      · exact q
      · rw [List.getElem?_eq_none (by omega)] at e; cases e
    have hm : n < m.length := by rw [← s.len]; exact hn
    have e2 : m[n]? = some m[n] := List.getElem?_eq_getElem hm
    obtain ⟨_, o, h2, _⟩ := s.cell n p _ e e2
    rw [h] at h2; cases h2
  · cases q : F p with
    | none => rfl
    | some o => rw [s.sub p o q] at h; cases h
/-- a new object in the heap, known to no one -/
theorem SimM.grow (s : SimM K F ι m H) {p : Addr} {o : HO} (h : H p = none) : SimM K F ι m (upd H p o) := by
  obtain ⟨h1, h2⟩ := s.notin h
  refine ⟨fun a u q => ?_, s.len, s.nd, fun n a c e1 e2 => ?_⟩
  · have z : a ≠ p := fun z => by subst z; rw [h2] at q; cases q
    rw [upd_ne z]; exact s.sub a u q
  · obtain ⟨h3, u, h4, r⟩ := s.cell n a c e1 e2
    have z : a ≠ p := fun z => h1 (z ▸ List.mem_of_getElem? e1)
    exact ⟨h3, u, by rw [upd_ne z]; exact h4, r⟩
theorem Ext.grow {p : Addr} {o : HO} (h : H p = none) : Ext F ι H F ι (upd H p o) where
  f := fun _ _ q => q
  n := fun _ q => .inl q
  i := ⟨[], by simp, by simp⟩
  k := fun a u _ q => by rw [upd_ne (fun z => by subst z; rw [h] at q; cases q)]; exact q
  t := fun a q => by
    by_cases z : a = p
    · subst z; exact h
    · rw [upd_ne z] at q; exact q
/-- a new object that stands for ever -/
theorem SimM.laid (s : SimM K F ι m H) {p : Addr} {o : HO} (h : H p = none) : SimM K (upd F p o) ι m (upd H p o) := by
  obtain ⟨h1, h2⟩ := s.notin h
  exact (s.grow h).freeze h2 h1 upd_same
theorem Ext.laid (s : SimM K F ι m H) {p : Addr} {o : HO} (h : H p = none) : Ext F ι H (upd F p o) ι (upd H p o) where
  f := fun a u q => by rw [upd_ne (fun z => by subst z; rw [(s.notin h).2] at q; cases q)]; exact q
  n := fun a q => by
    by_cases z : a = p
    · subst z; exact .inr h
    · rw [upd_ne z] at q; exact .inl q
  i := ⟨[], by simp, by simp⟩
  k := (Ext.grow (F := F) (ι := ι) h).k
  t := (Ext.grow (F := F) (ι := ι) h).t
end
end Cs

/-! An own exception's __init__: super().__init__(message), then self.p = p. -/
namespace Cs
open PySem L2 PySem.Spec PySem.W
abbrev envI (qual : Str) (scope : Scope) (L f : Addr) (cd : Value) (cc : Addr) : Env := ksEnv qual scope L f cd cc
/-- the context of its body -/
def cxI (CX : CXT) (P : Program) (w : World) (K : Frag) (mg : Str → Option Value) (base : Heap) (N : List Str) (qual : Str) (scope : Scope) (f : Addr) (cd : Value) (cc : Addr) (A : Around) (outer : List Env) (s : Shared) (H : Hp) (E : XK) : Cx where
  prog := P
  w := w
  K := K
  mg := mg
  base := base
  A := A.deeper (envI qual scope s.heap.objs.size f cd cc)
  N := N
  s_0 := s
  H_0 := H
  env := envI qual scope s.heap.objs.size f cd cc
  outer := outer
  stack := envI qual scope s.heap.objs.size f cd cc :: outer
  ex := []
  fn := fun _ => false
  calm := true
  pn := []
  xe := fun e s' => wpAny (model P w) (A.deeper (envI qual scope s.heap.objs.size f cd cc)) (leaving (envI qual scope s.heap.objs.size f cd cc) e) (fun _ s'' => CX outer H s E e s'') (fun e' s'' => CX outer H s E e' s'') s'
/-- its names -/
structure ScI (scope : Scope) (p : Str) : Prop where
  kind : scope.kind = .function
  co : scope.isCoroutine = false
  gen : scope.isGenerator = false
  self : scope.names.lookup ("self" : Str) = some .local
  par : scope.names.lookup p = some .local
  sup : scope.names.lookup ("super" : Str) = some .globalImplicit
  cls : scope.names.lookup ("__class__" : Str) = some .free
  nocell : ∀ x ∈ scope.names, x.2 ≠ .cell
  free : ∀ x, scope.names.lookup x = some .free → x = ("__class__" : Str)
  ne : p ≠ "self"
section
variable {CX : CXT} {P : Program} {w : World} {K : Frag} {mg : Str → Option Value} {base : Heap} {qual p : Str} {scope : Scope} {f cc D a : Addr} {cd cl u1 : Value} {cld : Option Addr} {csl : Array (Option Value)} {A : Around} {outer : List Env} {s : Shared} {H : Hp} {E : XK} {y : V} {h₀ : Heap} {tk : Nat}
theorem invI (S : ScI scope p) (hd : A.handled = none) (e0 : Env0 P w K mg base A outer s H) (hcc : K.lookup cc = some ⟨cl, cld, .cell (some (.ref D)), csl⟩) (rv : RelV y u1)
    (hns : h₀.Ns s.heap.objs.size (fun x => ([("self" : Str), p].zip [Value.ref a, u1]).reverse.lookup x)) (hk : ∀ b o, s.heap.get? b = some o → h₀.get? b = some o) :
    Inv (cxI CX P w K mg base [("self" : Str), p] qual scope f cd cc A outer s H E) [] [some (.ref a), some y] H { s with heap := h₀, toks := tk } := by
  have hb : base.get? cc = some ⟨cl, cld, .cell (some (.ref D)), csl⟩ := e0.mod.kin _ _ hcc
  have one : ∀ x c, List.lookup x [(("__class__" : Str), cc)] = some c → x = "__class__" ∧ c = cc := fun x c h => by
    simp only [List.lookup] at h
    split at h
    · rename_i q
      exact ⟨eq_of_beq q, (Option.some.inj h).symm⟩
    · cases h
  have hlt : cc < s.heap.objs.size := Heap.lt_size (e0.bs _ _ hb).1
  have noA : ∀ b : Addr, b ∉ (cxI CX P w K mg base [("self" : Str), p] qual scope f cd cc A outer s H E).ex := fun b z => absurd (show b ∈ ([] : List Addr) from z) (by simp)
  refine ⟨⟨e0.mod, S.kind, rfl, rfl, Nat.le_refl _, fun x z c h1 h2 => ?_, fun x hx => ?_, fun x c q => absurd (show false = true from q) (by decide), fun _ => hd, Around.frames_deeper e0.frames, .inr ⟨rfl, rfl⟩, fun b z => absurd z (noA b), e0.bs, e0.bsz, fun b _ _ => noA b, fun b z => absurd z (noA b), e0.funs, e0.frf⟩,
    rfl, e0.bare, Un.kept hk, ⟨_, hns, fun i x v h1 h2 h3 => ?_⟩, fun x c h => ?_, e0.hok.fresh (Nat.le_refl _), fun x c h => ?_, fun q hq => absurd (show q ∈ ([] : List (Addr × Obj)) from hq) (by simp), e0.hok.kept hk, rfl⟩
  · rw [(one x c h1).1, (one z c h2).1]
  · rcases hx with hx | hx
    · exact absurd rfl (S.nocell _ (PySem.mem_of_lookup (show scope.names.lookup x = some .cell from hx)))
    · rw [S.free x hx]
      exact ⟨cc, rfl⟩
  · have hns2 : ∀ q v, ([("self" : Str), p].zip [Value.ref a, u1]).reverse.lookup q = some v → True := fun _ _ _ => trivial
    match i, h1, h2 with
    | 0, h1, h2 =>
      cases h1; cases h2
      refine ⟨.ref a, rfl, .inl ⟨S.self, ?_⟩⟩
      show List.lookup ("self" : Str) [(p, u1), ("self", Value.ref a)] = some (.ref a)
      have : (("self" : Str) == p) = false := by rw [beq_eq_false_iff_ne]; exact fun e => S.ne e.symm
      simp only [List.lookup, this]
      rfl
    | 1, h1, h2 =>
      cases h1; cases h2
      refine ⟨u1, rv, .inl ⟨S.par, ?_⟩⟩
      show List.lookup p [(p, u1), ("self", Value.ref a)] = some u1
      simp [List.lookup]
    | n + 2, h1, h2 => cases h1
  · obtain ⟨_, rfl⟩ := one x c h
    exact ⟨_, _, hk _ _ (e0.bs _ _ hb).1, rfl⟩
  · obtain ⟨_, rfl⟩ := one x c h
    exact (e0.bs _ _ hb).2
/-- what it promises -/
def spX (D : Addr) (p : Str) (ok : V → Prop) : Sp := fun vs H Q _ => ∃ a y, vs = [.ref a, y] ∧ ok y ∧ H a = some (exo a D none) ∧ ∀ d, H d = none → d ≠ a → Q .non (upd (upd H d (exd d [(p, y)])) a (exo a D (some d)))
/-- what is asked of the class and the text -/
structure OwnI (K : Frag) (prog : Program) (D cda : Addr) (p : Str) : Prop extends OexC K D where
  no : findIn K (.ref D) p = some none
  sup : ks_superIn K D D "__init__" = some (some (.builtin "ValueError.__init__"))
  opq : nsIn K cStatics "thirdparty.any" = some none
  sub : subIn K (.ref D) (.type "ValueError") = some true
  subD : mroIn K D (.ref D) = some true
  file : ∃ ccl cdd vs ccs file tf, K.lookup cda = some ⟨ccl, cdd, .fields vs, ccs⟩ ∧ vs[2]? = some (.str file tf) ∧ ((prog.main.file : Str) == file) = true
  top : (prog.main.scope.names.lookup ("super" : Str)).isSome = false
abbrev msgI (l r : Expr) (q : Pos) : Expr := .BinOp l .Add r q
abbrev bodyI (msg : Expr) (p : Str) (q0 q1 q2 q3 q4 q5 q6 q7 q8 : Pos) : List Stmt :=
  [.Expr (.Call (.Attribute (.Call (.Name "super" q0) [] [] q1) "__init__" q2) [msg] [] q3) q4, .Assign [.Attribute (.Name "self" q5) p q6] (.Name p q7) q8]
theorem fn_init {k : Nat} {name : Str} {params : Arguments} {ml mr : Expr} {qm q0 q1 q2 q3 q4 q5 q6 q7 q8 : Pos} {dV kV doc pm ct oc : Value} {an od : Option Addr} {osl : Array (Option Value)} {cda : Addr} {ok : V → Prop} {ar : Arg}
    (S : ScI scope p) (O : OwnI K P D cda p) (hcc : K.lookup cc = some ⟨cl, cld, .cell (some (.ref D)), csl⟩)
    (lk : K.lookup f = some ⟨oc, od, .func (ksFn name qual params (bodyI (msgI ml mr qm) p q0 q1 q2 q3 q4 q5 q6 q7 q8) scope dV kV doc pm an (.ref cda) ct cc), osl⟩) (hcd : codeIn K (.ref cda) qual = true)
    (hp : (params.posonlyargs ++ params.args).head? = some ar) (har : ar.arg = "self") (hmg : mg "super" = none)
    (hmsg : ∀ (A : Around) (outer : List Env) (s : Shared) (H : Hp) (E : XK) (a : Addr) (y : V), ok y → ∃ t, PE (cxI CX P w K mg base [("self" : Str), p] qual scope f (.ref cda) cc A outer s H E) (msgI ml mr qm) t ∧ ∀ H1 Q, (∀ v, Q v H1) → t [some (.ref a), some y] H1 Q) (hev : (q2.endLine == q3.line) = true)
    (hpd : (p == ("__debug__" : Str)) = false) (hpc : (p == ("__classdict__" : Str)) = false) :
    FnOk P w K mg base CX (k + 1) f (ksFn name qual params (bodyI (msgI ml mr qm) p q0 q1 q2 q3 q4 q5 q6 q7 q8) scope dV kV doc pm an (.ref cda) ct cc) [("self" : Str), p] (spX D p ok) := by
  refine ⟨fun vs H Q E ⟨_, _, e, _⟩ => by rw [e]; rfl, fun A outer s H args us vs Q E hr e0 hb r hsp => ?_⟩
  obtain ⟨a, y, rfl, hok, ha, hq⟩ := hsp
  have KX : K.In s.heap := e0.mod.kin.keeps fun b o e => (e0.bs b o e).1
  have lim : s.heap.NoLimit := e0.mod.nolimit.keeps fun b o e => (e0.bs b o e).1
  match us, r with
  | [_, u1], .cons rfl (.cons rv .nil) =>
  refine ks_codeAny_call_defAt (fd := ksFn name qual params (bodyI (msgI ml mr qm) p q0 q1 q2 q3 q4 q5 q6 q7 q8) scope dV kV doc pm an (.ref cda) ct cc) hr.depth (KX _ _ lk) rfl lim (codeRec_of KX hcd) rfl hb S.nocell (fun x hx => ?_) (fun h₀ hns hk₀ => ?_) S.co S.gen S.kind
  · simp only [List.zip_cons_cons, List.zip_nil_right, List.mem_cons, List.not_mem_nil, or_false] at hx
    rcases hx with rfl | rfl
    · exact S.self
    · exact S.par
  · have I0 : Inv (cxI CX P w K mg base [("self" : Str), p] qual scope f (.ref cda) cc A outer s H E) [] [some (.ref a), some y] H { s with heap := h₀, toks := s.toks + ([("self" : Str), p].zip [Value.ref a, u1]).length } := invI S hr.hd e0 hcc rv hns hk₀
    obtain ⟨t, ht, hmq⟩ := hmsg A outer s H E a y hok
    obtain ⟨nm, qn, N, bs, bm, sn, sb, ab, col, dd, k0, k1, k2, k3, k5, hC, hbm⟩ := O.cls
    obtain ⟨ccl, cdd, vs, ccs, file, tf, hcode, hvs, hfile⟩ := O.file
    have X0 := I0.kIn
    obtain ⟨t1, hx⟩ := exo_at I0.hok ha
    have hcl : clsIn K D = some { name := nm, bases := bs, mro := .ref D :: bm, ns := N, qualname := qn, hasDict := true, slotNames := sn, subclasses := sb, abstract := ab, collection := col, hasDel := false } := by
      unfold clsIn
      rw [hC]
    have he : ∀ env, eval (.Call (.Attribute (.Call (.Name "super" q0) [] [] q1) "__init__" q2) [msgI ml mr qm] [] q3) env = (do
        let ov ← attributeBase (.Call (.Name "super" q0) [] [] q1) "__init__" env (eval (.Call (.Name "super" q0) [] [] q1) env)
        standAt q2.atName
        let (f, first) ← holding [ov] (getMethod ov "__init__" (do return (← importBound (.Call (.Name "super" q0) [] [] q1) env).getD true))
        callWith q3 f first (backTo q3 (starEach [msgI ml mr qm] env)) []) := fun env => by
      unfold eval methodCall calleeOf methodCallPos
      have e1 : methodCallForm ([msgI ml mr qm].length + ([] : List Keyword).length) (backTo q3 (starEach [msgI ml mr qm] env)) (backToKw q3 (keywordEach [] env)) = true := rfl
      rw [e1, hev]
      rfl
    refine ks_wpAt_execs_cons (ks_wpAt_Expr_any (ks_wpAt_MethodCall (M := model P w) ?_ (he _)) I0.quiet rfl)
    refine ks_wpAt_super_base (env := ksEnv qual scope s.heap.objs.size f (.ref cda) cc) S.sup S.cls rfl rfl (X0 _ _ lk) rfl hp rfl (X0 _ _ hcode) rfl hvs hfile O.top ?_
    obtain ⟨mb, g1, g2⟩ := I0.mod.blt
    refine ks_loadName_global S.kind S.sup (Calls.loadGlobal_builtin (env := ksEnv qual scope s.heap.objs.size f (.ref cda) cc) (I0.mod.glob.keeps I0.bk) hmg (g1.keeps I0.bk) ((g2 _ (by decide)).trans PyProof.Rows.Boot.«super») ⟨rfl, ?_⟩)
    refine wpAny_loadName_free S.kind S.cls rfl ⟨_, X0 _ _ hcc, rfl⟩ ?_
    rw [har]
    refine wpAny_loadName_local (v := Value.ref a) S.kind S.self hns ?_ ?_
    · show List.lookup ("self" : Str) [(p, u1), ("self", Value.ref a)] = some (.ref a)
      have : (("self" : Str) == p) = false := by rw [beq_eq_false_iff_ne]; exact fun e => S.ne e.symm
      simp only [List.lookup, this]
      rfl
    refine ks_wpAny_isType_cls (X0 _ _ hC) rfl ⟨rfl, ?_⟩
    refine ks_wpAny_call_super (X0 _ _ hC) rfl hx rfl (fun c e => by cases e) (looks_mroIn X0 O.subD) (fun h1 e1 kk1 => ?_)
    have nxa : a ≠ D := fun e => by
      have := X0 _ _ hC
      rw [← e, hx] at this
      cases this
    have hx1 := kk1 _ _ hx
    have X1 : K.In h1 := X0.keeps kk1
    have I1 : InstAt h1 a _ D none := ⟨hx1, rfl, rfl, trivial⟩
    have hsup := O.sup
    unfold ks_superIn at hsup
    rw [hcl, Option.bind_some] at hsup
    refine kxs_getMethod kxs_ValueError e1 (looks_opaque X1 O.opq) (l₀ := .ref D :: bm) ?_ rfl X1 hsup (I1.type.andThen (looks_subIn X1 O.sub)) nxa rfl ?_
    · exact fun A Q E s k q => wpAny_bind ((looks_clsIn X1 hcl) A _ E s k (wpAny_pure q))
    have kk2 : ∀ b o, h₀.get? b = some o → (h1.push (kxs_mw "ValueError.__init__" a)).get? b = some o := fun b o e => Heap.get?_push_of_some _ (kk1 b o e)
    have hsz : h₀.objs.size ≤ h1.objs.size := Nat.le_of_lt (Heap.lt_size e1)
    have hu : (h1.push (kxs_mw "ValueError.__init__" a)).get? h1.objs.size = some (kxs_mw "ValueError.__init__" a) := Heap.get?_push_size _ rfl
    have J0 := I0.kept (t' := s.toks + ([("self" : Str), p].zip [Value.ref a, u1]).length + 1) kk2
    have J : Inv (cxI CX P w K mg base [("self" : Str), p] qual scope f (.ref cda) cc A outer s H E) [(h1.objs.size, kxs_mw "ValueError.__init__" a)] [some (.ref a), some y] H ⟨h1.push (kxs_mw "ValueError.__init__" a), s.gens, s.drawn, s.toks + ([("self" : Str), p].zip [Value.ref a, u1]).length + 1, s.os⟩ :=
      J0.pins_of fun q hq => by
        obtain rfl : q = (h1.objs.size, kxs_mw "ValueError.__init__" a) := by simpa using hq
        refine ⟨hu, I0.hok.fresh hsz, fun e => ?_, I0.nofs hsz, fun v e => by cases e⟩
        have := I0.lt
        have e' : h1.objs.size = s.heap.objs.size := e
        have this' : s.heap.objs.size < h₀.objs.size := this
        omega
    refine kxs_callWith (i := "ValueError.__init__") (x := a) rfl (PySem.Calls.evalArgs_plain (thn ((pa_cons ht pa_nil).run q3 _ _ _ H _ J (show tCons t tNil [some (.ref a), some y] H fun xs H1 => H1 = H ∧ ∃ x, xs = [x] from hmq H _ fun v => ⟨rfl, v, rfl⟩)) fun us1 s1 hh => ?_))
    obtain ⟨xs, H1, J1, rx, eH, x, rfl⟩ := hh
    subst eH
    have hu1 := (J1.pin (h1.objs.size, kxs_mw "ValueError.__init__" a) (List.mem_append_right _ (List.mem_singleton.mpr rfl))).1
    refine ⟨hu1, ?_⟩
    obtain ⟨t2, hx2⟩ := exo_at J1.hok ha
    have hC2 := J1.kIn _ _ hC
    cases rx with
    | cons r1 r2 =>
    rename_i u2 us2
    cases r2
    obtain ⟨hp2, gn2, d2, tk2, os2⟩ := s1
    refine wpAny_call (codeAny_of_tree ?_)
    show wpAny _ (A.deeper (envI qual scope s.heap.objs.size f (.ref cda) cc)).in1 (callAny (.ref h1.objs.size) ⟨[u2], []⟩) _ _ _
    simp only [callAny]
    refine wpAny_bind (wpAny_load hu1 ?_)
    simp only [kxs_mw, show (Value.type "method-wrapper" == Value.type "method" || Value.type "method-wrapper" == Value.type "builtin_function_or_method" || Value.type "method-wrapper" == Value.type "method-wrapper") = true by decide, if_true]
    refine KFB.if_so (by decide) ?_
    refine wpAny_bind (check_bound_init F.excBase_ValueError.toExcCallFacts hC2 hx2 rfl ?_)
    refine wpAny_bind (wpAny_pure (wpAny_pure ?_))
    refine ⟨plainId_quiet F.excBase_ValueError.init.plain _, codeAny_builtin F.excBase_ValueError.initEntry ?_⟩
    refine exc_init_tree (cls := .ref D) (t0 := t2) (dv := none) (c2 := .none) (c3 := .none) (b4 := .bool false) hx2 (by rw [sizeLine_eq]; show 1 ≤ 16777216; omega) (fun h3 k3 e3 _ => ?_)
    have J2 := (J1.write (t' := tk2) (x := a) (e := a) (o := exo a D none) (by rw [ha]; exact True.intro) (.inl rfl) k3 ⟨_, e3⟩ (exo_ok e3))
    have eu : upd H1 a (exo a D none) = H1 := by
      funext b
      by_cases hb : b = a
      · rw [hb, upd_same, ha]
      · rw [upd_ne hb]
    rw [eu] at J2
    have J3 := J2.pins_of (pins' := []) fun q hq => by cases hq
    have S2 : PSs (cxI CX P w K mg base [("self" : Str), p] qual scope f (.ref cda) cc A outer s H1 E) [.Assign [.Attribute (.Name "self" q5) p q6] (.Name p q7) q8] (tSeq (tOst K p (tVar 0) (tVar 1)) tNext) :=
      pss_cons (ps_ost (pe_var (i := 0) rfl (.inl S.self)) (pe_var (i := 1) rfl (.inl S.par) hpd hpc)) pss_nil
    refine wpAt_of_wpAny (wpAny_mono (S2.run [] _ _ _ { nx := fun _ H' => Q .non H', rt := Q } J3 ?_) (fun fl s' hs => ?_) fun e s' hs => hs)
    · exact ⟨y, rfl, .ref a, rfl, a, D, rfl, O.toOexC, O.no, .inl ⟨ha, fun dx n ne => hq dx n ne⟩⟩
    · have fin : ∀ {σ' : L2.St} {H' : Hp} {v : V} {u : Value}, Inv (cxI CX P w K mg base [("self" : Str), p] qual scope f (.ref cda) cc A outer s H1 E) [] σ' H' s' → RelV v u → Q v H' → CE outer P w H1 s Q u s' :=
        fun {σ' H' v u} J rv q => ⟨v, H', J.os, J.bare, J.base, J.hok, rv, q⟩
      cases fl with
      | ret u =>
        obtain ⟨v, σ', H', J, rv, q⟩ := hs
        exact fin J rv q
      | next =>
        obtain ⟨σ', H', J, q⟩ := hs
        exact fin (v := V.non) (u := Value.none) J rfl q
      | brk =>
        obtain ⟨_, _, _, q⟩ := hs
        exact False.elim q
      | cont =>
        obtain ⟨_, _, _, q⟩ := hs
        exact False.elim q
end
end Cs

/-! Readings of the interpreter's meanings; the rules for expressions. -/
namespace Cs
open PySem L2 PySem.Spec

/-- what is wished of an exception -/
abbrev EW := Exc → Hp → List Addr → Mem → St → Hp → Prop
/-- how an answer stands: the heap ahead of all, what stands for ever, the cells, the heap -/
abbrev AR (α β : Type) := Hp → Hp → List Addr → Hp → α → β → Prop
def Out {α β : Type} (K : PySem.W.Frag) (W : EW) (R : AR α β) (F : Hp) (ι : List Addr) (σ : St) (H : Hp) (r : Res α) (Q : β → Hp → Prop) : Prop :=
  match r with
  | .ok a m => ∀ b F' ι' H', Ext F ι H F' ι' H' → SimM K F' ι' m H' → R H F' ι' H' a b → Q b H'
  | .exc x m => ∀ F' ι' H', Ext F ι H F' ι' H' → SimM K F' ι' m H' → W x F' ι' m σ H'
  | .bad => False
def T {α β : Type} (K : PySem.W.Frag) (W : EW) (R : AR α β) (f : Sto → Mem → Res α) : St → Hp → (β → Hp → Prop) → Prop := fun σ H Q =>
  ∃ F ι m e, Sim K F ι e m σ H ∧ Out K W R F ι σ H (f e m) Q
/-- an answer that does not lean on the heap ahead -/
def Down {α β : Type} (R : AR α β) : Prop := ∀ F ι H F1 ι1 H1 F' ι' H' a b, Ext F ι H F1 ι1 H1 → R H1 F' ι' H' a b → R H F' ι' H' a b
def RV (K : PySem.W.Frag) : AR D V := fun _ F ι _ d v => Rep K F ι d v
def RL (K : PySem.W.Frag) : AR (List D) (List V) := fun _ F ι _ d v => Reps K F ι d v
def RB : AR Bool Bool := fun _ _ _ _ a b => a = b
def RO : AR (Option Int) (Option Int) := fun _ _ _ _ a b => a = b
/-- a list or a dict is a new object that no one knows -/
def RN (K : PySem.W.Frag) : AR D V := fun H0 F ι H d v =>
  match d with
  | .lst ds => ∃ p vs, v = .ref p ∧ H0 p = none ∧ F p = none ∧ p ∉ ι ∧ H p = some (.lst vs) ∧ Reps K F ι ds vs
  | .dct ks ws => ∃ p o, v = .ref p ∧ H0 p = none ∧ F p = none ∧ p ∉ ι ∧ H p = some o ∧ RepC K F ι (.dct ks ws) o
  | d => Rep K F ι d v
theorem RV.down {K : PySem.W.Frag} : Down (RV K) := fun _ _ _ _ _ _ _ _ _ _ _ _ h => h
theorem RL.down {K : PySem.W.Frag} : Down (RL K) := fun _ _ _ _ _ _ _ _ _ _ _ _ h => h
theorem RB.down : Down RB := fun _ _ _ _ _ _ _ _ _ _ _ _ h => h
theorem RO.down : Down RO := fun _ _ _ _ _ _ _ _ _ _ _ _ h => h
theorem RN.down {K : PySem.W.Frag} : Down (RN K) := fun F ι H F1 ι1 H1 F' ι' H' a b x h => by
  unfold RN at h ⊢
  split at h
  · obtain ⟨p, vs, e, h0, r⟩ := h
    exact ⟨p, vs, e, x.t _ h0, r⟩
  · obtain ⟨p, vs, e, h0, r⟩ := h
    exact ⟨p, vs, e, x.t _ h0, r⟩
  · exact h
section
variable {K : PySem.W.Frag} {W : EW} {α β γ δ : Type} {R : AR α β} {F F' F1 : Hp} {ι ι' ι1 : List Addr} {H H' H1 : Hp} {σ : St} {m : Mem} {e : Sto}
theorem Out.shift {r : Res α} {Q : β → Hp → Prop} (h : Out K W R F ι σ H r Q) (x : Ext F ι H F1 ι1 H1) (hR : Down R) : Out K W R F1 ι1 σ H1 r Q := by
  cases r with
  | ok a m => exact fun b F' ι' H' x' s r => h b F' ι' H' (x.trans x') s (hR _ _ _ _ _ _ _ _ _ _ _ x r)
  | exc y m => exact fun F' ι' H' x' s => h F' ι' H' (x.trans x') s
  | bad => exact h
/-- the answer as it stands -/
theorem Out.now {a : α} {b : β} {Q : β → Hp → Prop} (h : Out K W R F ι σ H (.ok a m) Q) (s : SimM K F ι m H) (r : R H F ι H a b) : Q b H := h b F ι H (Ext.refl _ _ _) s r
theorem Out.of {a : α} {b : β} {Q : β → Hp → Prop} (h : Out K W R F ι σ H (.ok a m) Q) (x : Ext F ι H F1 ι1 H1) (s : SimM K F1 ι1 m H1) (r : R H F1 ι1 H1 a b) : Q b H1 := h b F1 ι1 H1 x s r
/-- one part first, then the rest -/
theorem Obnd {R' : AR γ δ} {f : Sto → Mem → Res α} {g : α → Mem → Res γ} {Q : δ → Hp → Prop} {P : β → Hp → Prop} (hR' : Down R') (s : Sim K F ι e m σ H)
    (o : Out K W R' F ι σ H (bnd (f e m) g) Q)
    (k : ∀ x F1 ι1 H1 m1 a, Sim K F1 ι1 e m1 σ H1 → R H F1 ι1 H1 a x → Ext F ι H F1 ι1 H1 → Out K W R' F1 ι1 σ H1 (g a m1) Q → P x H1) : T K W R f σ H P := by
  refine ⟨F, ι, m, e, s, ?_⟩
  cases q : f e m with
  | ok a m1 =>
    rw [q] at o
    have o : Out K W R' F ι σ H (g a m1) Q := o
    exact fun b F' ι' H' x sm r => k b F' ι' H' m1 a (s.ext x sm) r x (o.shift x hR')
  | exc y m1 =>
    rw [q] at o
    exact o
  | bad =>
    rw [q] at o
    exact o
end

/-- an exception of the program's own, as data: its class's name, its field -/
inductive AtV : D → V → Prop
  | str {z : Str} : AtV (.str z) (.str z)
  | int {i : Int} : AtV (.int i) (.int i)
def XRel (xc : Str → Option (Str × XArg)) (mg : Str → Option Value) (H : Hp) (y : Exc) (cls : Value) (dd : Option Addr) : Prop :=
  ∃ x f k d v C dx, y = ⟨x, [(f, d)]⟩ ∧ xc x = some (f, k) ∧ AtV d v ∧ mg x = some (.ref C) ∧ cls = .ref C ∧ dd = some dx ∧ H dx = some (.xd [(f, v)])
/-- what is wished of it, in the kit's words -/
def WXof (xc : Str → Option (Str × XArg)) (mg : Str → Option Value) (W : EW) : WX := fun cls dd σ H => ∃ y F ι m, XRel xc mg H y cls dd ∧ W y F ι m σ H
/-- what stands in the text of its class -/
structure XCls (K : PySem.W.Frag) (P : Program) (w : World) (mg : Str → Option Value) (base : Heap) (xc : Str → Option (Str × XArg)) (x f : Str) (k : XArg) : Prop where
  ok : ∃ C fI fd, mg x = some (.ref C) ∧ OexC K C ∧ PySem.W.findIn K (.ref C) "__init__" = some (some (.ref fI)) ∧ PySem.W.typeIn K (.ref fI) = some (.type "function") ∧
    FnOk P w K mg base (L2.CX P w) 1 fI fd [("self" : Str), f] (spX C f fun y => ∃ d, AtV d y ∧ xArg k d = true) ∧ Binds K fd [("self" : Str), f] [] ∧ XfC K C ∧ PySem.W.findIn K (.ref C) f = some none ∧
    ∀ x' f' k', xc x' = some (f', k') → ∃ C', mg x' = some (.ref C') ∧ PySem.W.exmOne K (.ref C) (.ref C') = some (strEq x x')
/-- where the interpreter stands is where the code stands -/
structure Ctx (X : Cx) (c : SC) (W : EW) : Prop where
  N : X.N = c.N
  nd : X.N.Nodup
  sc : X.env.scope = c.sc
  calm : X.calm = true
  room : Room 2 X.A
  glob : ∀ x d, c.G x = some d → ∃ u v, X.mg x = some u ∧ RelV v u ∧ ∀ F ι, Rep X.K F ι d v
  bl : ∀ x, c.bl x = true → X.mg x = none
  wr : ∀ x, c.loc x = true → L2.Loc X.env.scope x ∧ (X.fn x = true ∨ X.env.scope.names.lookup x = some .local)
  pass : PassesOwn (model X.prog X.w) X.A X.env X.xe
  tk : ∀ x, c.hot x = true → Takes X (WXof c.xc X.mg W)
  xcs : ∀ x f k, c.xc x = some (f, k) → XCls X.K X.prog X.w X.mg X.base c.xc x f k
  stk : ∀ x, c.hot x = true → X.stack = X.env :: X.outer ∧ X.env.frame = some X.env.locals
section
variable {X : Cx} {c : SC} {W : EW} {e : Expr} {t t' : TE}
theorem PE.weak (h : PE X e t) (k : ∀ σ H Q, t' σ H Q → t σ H Q) : PE X e t' := ⟨fun pins s σ H Q I q => h.run pins s σ H Q I (k σ H Q q)⟩
theorem PT.weak {t t' : TT} (h : PT X e t) (k : ∀ σ H Q, t' σ H Q → t σ H Q) : PT X e t' := ⟨fun pins s σ H Q I q => h.run pins s σ H Q I (k σ H Q q)⟩
theorem PA.weak {t t' : TA} {es : List Expr} (h : PA X es t) (k : ∀ σ H Q, t' σ H Q → t σ H Q) : PA X es t' := ⟨fun pos pins s σ H Q I q => h.run pos pins s σ H Q I (k σ H Q q)⟩
theorem Ctx.vis (x : Ctx X c W) {n : Str} (h : c.vis n = true) : Vis X.env.scope n := by
  unfold SC.vis at h
  rw [Bool.and_eq_true] at h
  replace h := h.2
  unfold Vis
  rw [x.sc, ← lkp_lookup]
  split at h
  · exact .inl (by assumption)
  · exact .inr (.inl (by assumption))
  · exact .inr (.inr (by assumption))
  · cases h
theorem Ctx.gl (x : Ctx X c W) {n : Str} (h : c.gl n = true) : Gl X n := by
  unfold SC.gl at h
  rw [Bool.and_eq_true] at h
  replace h := h.2
  unfold Gl Env.kindOf
  rw [x.sc, ← lkp_lookup]
  split at h <;> first | assumption | cases h
theorem SC.okV {c : SC} {n : Str} (h : c.vis n = true) : okN n = true := by
  unfold SC.vis at h
  rw [Bool.and_eq_true] at h
  exact h.1
theorem SC.okG {c : SC} {n : Str} (h : c.gl n = true) : okN n = true := by
  unfold SC.gl at h
  rw [Bool.and_eq_true] at h
  exact h.1
theorem Ctx.slot (x : Ctx X c W) {n : Str} {i : Nat} (h : c.slot n = some i) : X.N[i]? = some n ∧ Vis X.env.scope n ∧ okN n = true := by
  unfold SC.slot at h
  split at h
  · exact ⟨by rw [x.N]; exact ixOf_get h, x.vis (by assumption), SC.okV (by assumption)⟩
  · cases h
theorem Ctx.slotW (x : Ctx X c W) {n : Str} {i : Nat} (h : c.slotW n = some i) : X.N[i]? = some n ∧ L2.Loc X.env.scope n ∧ (X.fn n = true ∨ X.env.scope.names.lookup n = some .local) := by
  unfold SC.slotW at h
  split at h
  · exact ⟨by rw [x.N]; exact ixOf_get h, (x.wr _ (by assumption)).1, (x.wr _ (by assumption)).2⟩
  · cases h
theorem Ctx.hu (x : Ctx X c W) : X.A.units + 200 < cLine := by have := x.room.un; omega

/-! ### a part that is not bound to be new -/
theorem frz {K : PySem.W.Frag} {f : FE} {σ : St} {H : Hp} {Q : VK} (h : T K W (RV K) f σ H Q) : T K W (RN K) f σ H Q := by
  obtain ⟨F, ι, m, en, s, o⟩ := h
  refine ⟨F, ι, m, en, s, ?_⟩
  cases q : f en m with
  | ok d m1 =>
    rw [q] at o
    refine fun v F' ι' H' x sm r => ?_
    unfold RN at r
    split at r
    · obtain ⟨p, vs, rfl, h0, hF, hi, hH, rs⟩ := r
      have xx : Ext F ι H (upd F' p (.lst vs)) ι' H' := by
        refine ⟨fun a u z => ?_, fun a z => ?_, x.i, x.k, x.t⟩
        · by_cases w : a = p
          · subst w; rw [x.f _ _ z] at hF; cases hF
          · rw [upd_ne w]; exact x.f _ _ z
        · by_cases w : a = p
          · subst w; exact .inr h0
          · rw [upd_ne w] at z; exact x.n a z
      have sf := sm.freeze (o := .lst vs) hF hi hH
      refine o _ _ _ _ xx sf (Rep.lstI upd_same (rs.mono (fun a u z => ?_) fun _ _ z => z))
      rw [upd_ne (fun w => by subst w; rw [hF] at z; cases z)]; exact z
    · rename_i ks ws
      obtain ⟨p, u, rfl, h0, hF, hi, hH, rs⟩ := r
      have xx : Ext F ι H (upd F' p u) ι' H' := by
        refine ⟨fun a u z => ?_, fun a z => ?_, x.i, x.k, x.t⟩
        · by_cases w : a = p
          · subst w; rw [x.f _ _ z] at hF; cases hF
          · rw [upd_ne w]; exact x.f _ _ z
        · by_cases w : a = p
          · subst w; exact .inr h0
          · rw [upd_ne w] at z; exact x.n a z
      have sf := sm.freeze (o := u) hF hi hH
      have mono : ∀ a o, F' a = some o → upd F' p u a = some o := fun a o z => by
        rw [upd_ne (fun w => by subst w; rw [hF] at z; cases z)]; exact z
      refine o _ _ _ _ xx sf ?_
      show Rep K (upd F' p u) ι' (.dct ks ws) (.ref p)
      simp only [Rep]
      refine ⟨p, rfl, ?_⟩
      obtain ⟨kvs, e1, e2, r⟩ | ⟨kvs, e1, e2, r⟩ := rs
      · exact .inl ⟨kvs, .inl (by rw [upd_same, e1]), e2, r.mono mono fun _ _ z => z⟩
      · exact .inr ⟨kvs, .inl (by rw [upd_same, e1]), e2, r.mono mono fun _ _ z => z⟩
    · exact o _ _ _ _ x sm r
  | exc y m1 =>
    rw [q] at o
    exact o
  | bad =>
    rw [q] at o
    exact o
theorem PE.frz {f : FE} (h : PE X e (T X.K W (RN X.K) f)) : PE X e (T X.K W (RV X.K) f) := PE.weak h fun σ H Q h => Cs.frz h

/-! ### values -/
section
variable {K : PySem.W.Frag} {F : Hp} {ι : List Addr} {H : Hp} {m : Mem}
theorem SqL.sub {a : Addr} {xs : List V} (h : SqL K F a xs) (s : SimM K F ι m H) : SqL K H a xs := SqL.mono h s.sub
theorem SqT.sub {a : Addr} {xs : List V} (h : SqT K F a xs) (s : SimM K F ι m H) : SqT K H a xs := SqT.mono h s.sub
theorem SimM.at (s : SimM K F ι m H) {n : Nat} {a : Addr} {c : Cell} (h : ι[n]? = some a) (hc : m[n]? = some c) : ∃ o, H a = some o ∧ RepC K F ι c o := (s.cell n a c h hc).2
theorem res_ref (m : Mem) (n : Nat) : res m (.ref n) = match m[n]? with
    | some (.lst ds) => .lst ds
    | some (.dct ks vs) => .dct ks vs
    | _ => .ref n := rfl
/-- a list, by its value -/
theorem Rep.isLst (s : SimM K F ι m H) {d : D} {v : V} {ds : List D} (r : Rep K F ι d v) (h : res m d = .lst ds) : ∃ p vs, v = .ref p ∧ SqL K H p vs ∧ Reps K F ι ds vs := by
  cases d with
  | lst es =>
    have e : es = ds := by simpa [res] using h
    subst e
    obtain ⟨a, vs, rfl, q, rs⟩ := r.lstE
    exact ⟨a, vs, rfl, SqL.of (s.sub _ _ q), rs⟩
  | scr es =>
    have e : es = ds := by simpa [res] using h
    subst e
    obtain ⟨a, vs, rfl, q, rs⟩ := r.scrE
    exact ⟨a, vs, rfl, SqL.sub q s, rs⟩
  | ref n =>
    obtain ⟨a, rfl, q⟩ := r.refE
    rw [res_ref] at h
    cases z : m[n]? with
    | none => rw [z] at h; cases h
    | some c =>
      rw [z] at h
      cases c with
      | lst es =>
        cases h
        obtain ⟨o, h2, vs, rfl, rs⟩ := s.at q z
        exact ⟨a, vs, rfl, SqL.of h2, rs⟩
      | dct _ _ => cases h
      | ins _ _ => cases h
  | _ => simp [res] at h
/-- a list that is tracked -/
theorem Rep.isLstT (s : SimM K F ι m H) {d : D} {v : V} {ds : List D} (r : Rep K F ι d v) (h : lstX m d = some ds) : ∃ p vs, v = .ref p ∧ H p = some (.lst vs) ∧ Reps K F ι ds vs := by
  cases d with
  | lst es =>
    have e : es = ds := by simpa [lstX, lstD, res] using h
    subst e
    obtain ⟨a, vs, rfl, q, rs⟩ := r.lstE
    exact ⟨a, vs, rfl, s.sub _ _ q, rs⟩
  | ref n =>
    obtain ⟨a, rfl, q⟩ := r.refE
    have h : lstD m (.ref n) = some ds := h
    unfold lstD at h
    rw [res_ref] at h
    cases z : m[n]? with
    | none => rw [z] at h; cases h
    | some c =>
      rw [z] at h
      cases c with
      | lst es =>
        cases h
        obtain ⟨o, h2, vs, rfl, rs⟩ := s.at q z
        exact ⟨a, vs, rfl, h2, rs⟩
      | dct _ _ => cases h
      | ins _ _ => cases h
  | _ => simp [lstX, lstD, res] at h
theorem Rep.isTup (s : SimM K F ι m H) {d : D} {v : V} {ds : List D} (r : Rep K F ι d v) (h : res m d = .tup ds) : ∃ p vs, v = .ref p ∧ SqT K H p vs ∧ Reps K F ι ds vs ∧ Rep K F ι (.tup ds) (.ref p) := by
  cases d with
  | tup es =>
    have e : es = ds := by simpa [res] using h
    subst e
    obtain ⟨a, vs, rfl, q, rs⟩ := r.tupE
    exact ⟨a, vs, rfl, SqT.sub q s, rs, r⟩
  | ref n =>
    rw [res_ref] at h
    cases z : m[n]? with
    | none => rw [z] at h; cases h
    | some c =>
      rw [z] at h
      cases c <;> cases h
  | _ => simp [res] at h
theorem Rep.isInt {d : D} {v : V} {i : Int} (r : Rep K F ι d v) (h : res m d = .int i) : v = .int i := by
  cases d with
  | int j =>
    have e : j = i := by simpa [res] using h
    subst e
    exact r.intE
  | ref n =>
    rw [res_ref] at h
    cases z : m[n]? with
    | none => rw [z] at h; cases h
    | some c =>
      rw [z] at h
      cases c <;> cases h
  | _ => simp [res] at h
theorem Rep.isStr {d : D} {v : V} {i : Str} (r : Rep K F ι d v) (h : res m d = .str i) : v = .str i := by
  cases d with
  | str j =>
    have e : j = i := by simpa [res] using h
    subst e
    exact r.strE
  | ref n =>
    rw [res_ref] at h
    cases z : m[n]? with
    | none => rw [z] at h; cases h
    | some c =>
      rw [z] at h
      cases c <;> cases h
  | _ => simp [res] at h
/-- a new tuple comes: tracked as such, or with its object -/
def NewT (H : Hp) (vs : List V) (Q : VK) : Prop := ∀ p o, H p = none → o.cls = .type "tuple" → o.dict = none → Q (.ref p) (upd H p (.tup vs)) ∨ Q (.ref p) (upd H p (.frz o (.tup vs)))
theorem SimM.newT (s : SimM K F ι m H) {ds : List D} {vs : List V} {Q : VK} (r : Reps K F ι ds vs) (q : ∀ v F' H', Ext F ι H F' ι H' → SimM K F' ι m H' → Rep K F' ι (.tup ds) v → Q v H') : NewT H vs Q := by
  intro p o h hc hd
  cases n : nmT ds with
  | false => exact .inl (q _ _ _ (Ext.laid s h) (s.laid h) (Rep.tupI upd_same n (r.mono (Ext.laid s h (o := .tup vs)).f fun _ _ z => z)))
  | true => exact .inr (q _ _ _ (Ext.laid s h) (s.laid h) (Rep.tupN upd_same hc hd n (r.mono (Ext.laid s h (o := .frz o (.tup vs))).f fun _ _ z => z)))
/-- a new list, known to no one -/
theorem SimM.newL (s : SimM K F ι m H) {p : Addr} {ds : List D} {vs : List V} (h : H p = none) (r : Reps K F ι ds vs) :
    Ext F ι H F ι (upd H p (.lst vs)) ∧ SimM K F ι m (upd H p (.lst vs)) ∧ RN K H F ι (upd H p (.lst vs)) (.lst ds) (.ref p) :=
  ⟨Ext.grow h, s.grow h, ⟨p, vs, rfl, h, (s.notin h).2, (s.notin h).1, upd_same, r⟩⟩
end
end
end Cs

/-! The rules for expressions: names, constants, operators. -/
namespace Cs
open PySem L2 PySem.Spec
abbrev TV (X : Cx) (W : EW) (f : FE) : TE := T X.K W (RV X.K) f
abbrev TN (X : Cx) (W : EW) (f : FE) : TE := T X.K W (RN X.K) f
abbrev TLs (X : Cx) (W : EW) (f : FL) : TA := T X.K W (RL X.K) f
abbrev TBl (X : Cx) (W : EW) (f : FB) : TT := T X.K W RB f
section
variable {X : Cx} {c : SC} {W : EW} {a b e : Expr} {fa fb f : FE} {pos : Pos} {x : Str}
theorem d_bad : PE X e (TV X W fBad) := ⟨fun _ _ _ _ _ _ ⟨_, _, _, _, _, o⟩ => False.elim o⟩
theorem d_badN : PE X e (TN X W fBad) := ⟨fun _ _ _ _ _ _ ⟨_, _, _, _, _, o⟩ => False.elim o⟩
theorem d_var (C : Ctx X c W) {i : Nat} (h : c.slot x = some i) : PE X (.Name x pos) (TV X W (fVar i)) := by
  obtain ⟨h1, h2, h3⟩ := C.slot h
  refine PE.weak (pe_var h1 h2 (okN_debug h3) (okN_dict h3)) fun σ H Q ⟨F, ι, m, en, s, o⟩ => ?_
  unfold fVar at o
  split at o
  · rename_i d q
    obtain ⟨v, e1, r⟩ := s.loc i d q
    exact ⟨v, e1, o.now s.mem r⟩
  · exact False.elim o
theorem d_glob (C : Ctx X c W) {d : D} (hg : c.gl x = true) (h : c.G x = some d) : PE X (.Name x pos) (TV X W (fCon d)) := by
  obtain ⟨u, v, h1, h2, h3⟩ := C.glob x d h
  refine PE.weak (pe_glob (C.gl hg) h1 h2 (okN_debug (SC.okG hg))) fun σ H Q ⟨F, ι, m, en, s, o⟩ => ?_
  exact o.now s.mem (h3 F ι)
theorem d_int {i : Int} {j : Nat} : PE X (.Constant (.int i) j pos) (TV X W (fCon (.int i))) := PE.weak pe_int fun σ H Q ⟨F, ι, m, en, s, o⟩ => o.now s.mem Rep.intI
theorem d_str {i : Str} {j : Nat} : PE X (.Constant (.str i) j pos) (TV X W (fCon (.str i))) := PE.weak pe_str fun σ H Q ⟨F, ι, m, en, s, o⟩ => o.now s.mem Rep.strI
theorem d_bl {i : Bool} {j : Nat} : PE X (.Constant (.bool i) j pos) (TV X W (fCon (.bl i))) := PE.weak pe_bl fun σ H Q ⟨F, ι, m, en, s, o⟩ => o.now s.mem Rep.blI
theorem d_non {j : Nat} : PE X (.Constant .none j pos) (TV X W (fCon .non)) := PE.weak pe_non fun σ H Q ⟨F, ι, m, en, s, o⟩ => o.now s.mem Rep.nonI

/-! ### operators by values -/
/-- an operation on two values of data -/
def r2 (K : PySem.W.Frag) (R : AR D V) (g : D → D → Mem → Option D) : R2 := fun x y H Q =>
  ∃ F ι m a b d, SimM K F ι m H ∧ Rep K F ι a x ∧ Rep K F ι b y ∧ g a b m = some d ∧ ∀ v F' ι' H', Ext F ι H F' ι' H' → SimM K F' ι' m H' → R H F' ι' H' d v → Q v H'
def r1 (K : PySem.W.Frag) (R : AR D V) (g : D → Mem → Option D) : V → Hp → VK → Prop := fun x H Q =>
  ∃ F ι m a d, SimM K F ι m H ∧ Rep K F ι a x ∧ g a m = some d ∧ ∀ v F' ι' H', Ext F ι H F' ι' H' → SimM K F' ι' m H' → R H F' ι' H' d v → Q v H'
theorem ofO_out {K : PySem.W.Frag} {R : AR D V} {F : Hp} {ι : List Addr} {σ : L2.St} {H : Hp} {m : Mem} {o : Option D} {Q : V → Hp → Prop} (h : Out K W R F ι σ H (ofO m o) Q) :
    ∃ d, o = some d ∧ ∀ v F' ι' H', Ext F ι H F' ι' H' → SimM K F' ι' m H' → R H F' ι' H' d v → Q v H' := by
  cases o with
  | none => exact False.elim h
  | some d => exact ⟨d, rfl, h⟩
theorem T2 {K : PySem.W.Frag} {R : AR D V} (hR : Down R) {g : D → D → Mem → Option D} {σ : L2.St} {H : Hp} {Q : VK} (h : T K W R (f2 (fun a b m => ofO m (g a b m)) fa fb) σ H Q) :
    T K W (RV K) fa σ H fun x H1 => T K W (RV K) fb σ H1 fun y H2 => r2 K R g x y H2 Q := by
  obtain ⟨F, ι, m, e, s, o⟩ := h
  refine Obnd hR s o fun x F1 ι1 H1 m1 a s1 r1 x1 o1 => ?_
  refine Obnd hR s1 o1 fun y F2 ι2 H2 m2 b s2 r2 x2 o2 => ?_
  obtain ⟨d, e1, q⟩ := ofO_out o2
  exact ⟨F2, ι2, m2, a, b, d, s2.mem, Rep.ext r1 x2, r2, e1, q⟩
theorem T1 {K : PySem.W.Frag} {R : AR D V} (hR : Down R) {g : D → Mem → Option D} {σ : L2.St} {H : Hp} {Q : VK} (h : T K W R (f1 (fun a m => ofO m (g a m)) fa) σ H Q) :
    T K W (RV K) fa σ H fun x H1 => r1 K R g x H1 Q := by
  obtain ⟨F, ι, m, e, s, o⟩ := h
  refine Obnd hR s o fun x F1 ι1 H1 m1 a s1 r1 x1 o1 => ?_
  obtain ⟨d, e1, q⟩ := ofO_out o1
  exact ⟨F1, ι1, m1, a, d, s1.mem, r1, e1, q⟩

/-! ### + - * // % ** -/
open PyProof.Rows in
theorem op_catL : OpR X (binaryOp .Add) (fun x y H Q => ∃ l b xs zs, x = .ref l ∧ y = .ref b ∧ SqL X.K H l xs ∧ SqL X.K H b zs ∧ xs.length + zs.length ≤ sizeLine ∧ ∀ p, H p = none → Q (.ref p) (upd H p (.lst (xs ++ zs)))) := by
  intro pins s σ H x y v u Q I rx ry h
  obtain ⟨l, b, xs, zs, rfl, rfl, hH, hB, hz, q⟩ := h
  cases rx
  cases ry
  obtain ⟨its, r, ⟨⟨cls, dd, data, sl⟩, n, ho, hc, _, hd⟩, _⟩ := I.list hH
  obtain ⟨its2, r2, ⟨⟨cls2, dd2, data2, sl2⟩, n2, ho2, hc2, _, hd2⟩, _⟩ := I.list hB
  have hl := r.length
  have hl2 := r2.length
  simp only at hc hd hc2 hd2
  subst hc hd hc2 hd2
  have e : its.toArray ++ its2.toArray = (its ++ its2).toArray := by simp
  refine concat_meets ⟨_, ho, rfl⟩ ⟨_, ho2, rfl⟩ noFill_list_add seq_list_add PySem.F.slot_list_add PySem.F.entry_list_add (PySem.F.args_list_add_2 _ _) (list_addW l b its.toArray its2.toArray n n2 dd dd2 sl sl2 (by rw [List.size_toArray, List.size_toArray]; omega)) ⟨ho, ho2, ?_⟩
  rw [e]
  exact ⟨.ref _, _, I.lnew (t' := s.toks) (r.append r2) (by rw [List.length_append]; omega), rfl, q _ I.fresh⟩
open PyProof.Rows in
theorem op_mulS : OpR X (binaryOp .Mult) (fun x y H Q => ∃ i k, x = .str i ∧ y = .int k ∧ 0 ≤ k ∧ k ≤ 1000 ∧ i.length ≤ 1000 ∧ Q (.str (Txt.mul i k)) H) := by
  intro pins s σ H x y v u Q I rx ry h
  obtain ⟨i, k, rfl, rfl, h0, h1, h2, q⟩ := h
  obtain ⟨t, rfl⟩ := rx
  obtain ⟨t', rfl⟩ := ry
  refine SB.mul ⟨?_, fun _ _ => ?_, fun _ _ => ?_⟩ fun t' k' => ⟨.str _, H, I.tok k', ⟨t', rfl⟩, q⟩
  · have a1 : ¬ k < -(2 ^ 63 : Int) := by omega
    have a2 : ¬ k ≥ (2 ^ 63 : Int) := by omega
    rw [decide_eq_false a1, decide_eq_false a2]; rfl
  · have a1 : (1000 : Int) ≤ (2 ^ 63 - 1) / k := by
      have : 0 < k := by omega
      refine (Int.le_ediv_iff_mul_le this).mpr ?_
      omega
    omega
  · unfold PySem.Builtin.Str.tooLong
    have : i.length * k.toNat ≤ 1000 * 1000 := Nat.mul_le_mul h2 (by omega)
    have z : sizeLine = 16777216 := by decide
    simp only [decide_eq_false_iff_not]
    omega
/-- a new tuple is laid -/
theorem EP.newT {pins : List (Addr × Obj)} {σ : L2.St} {H : Hp} {Q : VK} {ys : List V} {its : List Value} {s1 : Shared} (I : L2.Inv X pins σ H s1) (r : Vals ys its) (hz : ys.length ≤ sizeLine) (q : NewT H ys Q) :
    EP X pins σ Q (.ref s1.heap.objs.size) { s1 with heap := s1.heap.push { cls := .type "tuple", data := .seq its.toArray } } := by
  have hf : H s1.heap.objs.size = none := I.hok.fresh (Nat.le_refl _)
  rcases q _ { cls := .type "tuple", data := .seq its.toArray } hf rfl rfl with q | q
  · exact ⟨.ref _, _, I.laid (t' := s1.toks) (fun b u e => Heap.get?_push_of_some _ e) (Nat.le_refl _) (show ObjOk X.prog X.w _ _ _ (.tup ys) from ⟨hz, its, r, ⟨_, Heap.get?_push_size _ rfl, rfl, _, rfl⟩⟩), rfl, q⟩
  · exact ⟨.ref _, _, I.laid (t' := s1.toks) (fun b u e => Heap.get?_push_of_some _ e) (Nat.le_refl _) (show ObjOk X.prog X.w _ _ _ (.frz _ (.tup ys)) from ⟨Heap.get?_push_size _ rfl, hz, its, r, ⟨_, Heap.get?_push_size _ rfl, rfl, _, rfl⟩⟩), rfl, q⟩
def tTupD (t : TA) : TE := fun σ H Q => t σ H fun xs H1 => xs.length ≤ sizeLine ∧ NewT H1 xs Q
open PyProof.Rows in
theorem pe_tupD {es : List Expr} {t : TA} {x1 : Nat} (h : PA X es t) : PE X (.Tuple es x1 pos) (tTupD t) := by
  refine ⟨fun pins s σ H Q I hq => ?_⟩
  exact wpAny_Tuple_spliced (thn (h.run pos pins s σ H _ I hq) fun us s1 ⟨xs, H1, I1, r, z, q⟩ => ⟨by rw [← r.length]; exact z, EP.newT I1 r z q⟩)
open PyProof.Rows in
theorem op_catD : OpR X (binaryOp .Add) (fun x y H Q => ∃ a b xs ys, x = .ref a ∧ y = .ref b ∧ SqT X.K H a xs ∧ SqT X.K H b ys ∧ xs.length + ys.length ≤ sizeLine ∧ (xs = [] → Q (.ref b) H) ∧ (xs ≠ [] → ys = [] → Q (.ref a) H) ∧ (xs ≠ [] → ys ≠ [] → NewT H (xs ++ ys) Q)) := by
  intro pins s σ H x y v u Q I rx ry h
  obtain ⟨a, b, xs, ys, rfl, rfl, ha, hb, hz, q0, q1, q2⟩ := h
  by_cases hx : xs = []
  · exact op_catA pins s σ H _ _ v u Q I rx ry ⟨a, b, xs, ys, rfl, rfl, ha, hb, hz, q0, q1, fun z => absurd hx z⟩
  · cases rx
    cases ry
    obtain ⟨its, r1, p1, _⟩ := I.tuple ha
    obtain ⟨its2, r2, p2, _⟩ := I.tuple hb
    refine HT.cat_tup p1 p2 (fun z => hx (r1.nil_iff.mp z)) (fun z => ⟨.ref a, H, I, rfl, q1 hx (r2.nil_iff.mp z)⟩) (fun z => ?_) (by rw [← r1.length, ← r2.length]; exact hz)
    exact EP.newT I (r1.append r2) (by rw [List.length_append]; exact hz) (q2 hx (fun w => z (r2.nil_iff.mpr w)))
open PyProof.Rows in
theorem sl_tupD : SlR X (fun x lo hi H Q => ∃ a xs, x = .ref a ∧ SqT X.K H a xs ∧ (HT.sIx xs.length 0 lo = 0 ∧ HT.sIx xs.length xs.length hi = xs.length → Q (.ref a) H) ∧ (¬ (HT.sIx xs.length 0 lo = 0 ∧ HT.sIx xs.length xs.length hi = xs.length) → NewT H (cutV xs lo hi) Q)) := by
  intro pins s σ H x v vl vu lo hi sl Q I rx hs pl pu h
  obtain ⟨a, xs, rfl, hx, q1, q2⟩ := h
  by_cases hw : HT.sIx xs.length 0 lo = 0 ∧ HT.sIx xs.length xs.length hi = xs.length
  · exact sl_tupA pins s σ H _ v vl vu lo hi sl Q I rx hs pl pu ⟨a, xs, rfl, hx, q1, fun z => absurd hw z⟩
  · cases rx
    obtain ⟨its, r, ht, hz⟩ := I.tuple hx
    have hlen : its.toArray.size = xs.length := by rw [List.size_toArray]; exact r.length.symm
    refine ⟨"tuple", _, PyProof.Rows.slot_tuple_getitem.lookup, ht.typeIs, ?_⟩
    refine HT.getItem_tuple_cut ht hs pl pu (by rw [hlen]; exact hw) ?_ (by rw [hlen]; exact hz)
    rw [hlen]
    exact EP.newT I ((r.drop (HT.sIx xs.length 0 lo)).take (HT.sIx xs.length xs.length hi - HT.sIx xs.length 0 lo)) (Nat.le_trans (cutV_length xs lo hi) hz) (q2 hw)
open PyProof.Rows in
theorem call_tupleD : CallR X (.type "tuple") (fun xs H Q => ∃ p ys, xs = [.ref p] ∧ ((SqL X.K H p ys ∧ NewT H ys Q) ∨ (SqT X.K H p ys ∧ Q (.ref p) H))) := by
  intro pins s σ H xs us Q I r h
  obtain ⟨p, ys, rfl, h⟩ := h
  rcases h with ⟨hq, q⟩ | ⟨hq, q⟩
  · obtain ⟨u, rfl, rx⟩ := vals1 r
    cases rx
    obtain ⟨its, r', pl, hz⟩ := I.list hq
    have hlen := r'.length
    refine call_tuple_list pl.isList (fun h' kp => ?_) (by simp only [List.size_toArray] <;> omega)
    have I1 : L2.Inv X pins σ H { s with heap := h' } := I.kept (t' := s.toks) kp
    exact EP.newT I1 r' hz q
  · exact call_tuple_of pins s σ H _ us Q I r ⟨p, ys, rfl, .inr ⟨hq, q⟩⟩
theorem mulOk_of {i j : Int} (h : mulOk i j = true) : CMulW i j := by
  unfold mulOk at h
  unfold CMulW
  exact of_decide_eq_true h
theorem opr_bin (op : Operator) : OpR X (binaryOp op) (r2 X.K (RN X.K) (binD op)) := by
  intro pins s σ H x y v u Q I rx ry h
  obtain ⟨F, ι, m, a, b, d, sm, ra, rb, e, q⟩ := h
  unfold binD at e
  split at e
  · rename_i i j e1 e2
    cases e
    exact op_add pins s σ H x y v u Q I rx ry ⟨i, j, ra.isInt e1, rb.isInt e2, q _ F ι H (Ext.refl F ι H) sm (Rep.intI (K := X.K) (F := F) (ι := ι))⟩
  · rename_i i j e1 e2
    split at e
    · rename_i hs
      cases e
      exact op_add_str pins s σ H x y v u Q I rx ry ⟨i, j, ra.isStr e1, rb.isStr e2, hs, q _ F ι H (Ext.refl F ι H) sm (Rep.strI (K := X.K) (F := F) (ι := ι))⟩
    · cases e
  · rename_i xs ys e1 e2
    split at e
    · rename_i hs
      cases e
      obtain ⟨p1, vs, rfl, q1, rs1, f1⟩ := ra.isTup sm e1
      obtain ⟨p2, ws, rfl, q2, rs2, f2⟩ := rb.isTup sm e2
      have l1 := rs1.length
      have l2 := rs2.length
      refine op_catD pins s σ H _ _ v u Q I rx ry ⟨p1, p2, vs, ws, rfl, rfl, q1, q2, by omega, fun z => ?_, fun _ z => ?_, fun _ _ => ?_⟩
      · subst z
        have : xs = [] := by cases xs with | nil => rfl | cons _ _ => simp at l1
        subst this
        exact q _ _ _ _ (Ext.refl _ _ _) sm f2
      · subst z
        have : ys = [] := by cases ys with | nil => rfl | cons _ _ => simp at l2
        subst this
        exact q _ _ _ _ (Ext.refl _ _ _) sm (by rw [List.append_nil]; exact f1)
      · exact sm.newT (rs1.append rs2) fun v F' H' x1 s1 r1 => q v F' ι H' x1 s1 r1
    · cases e
  · rename_i xs ys e1 e2
    split at e
    · rename_i hs
      cases e
      obtain ⟨p1, vs, rfl, q1, rs1⟩ := ra.isLst sm e1
      obtain ⟨p2, ws, rfl, q2, rs2⟩ := rb.isLst sm e2
      have l1 := rs1.length
      have l2 := rs2.length
      refine op_catL pins s σ H _ _ v u Q I rx ry ⟨p1, p2, vs, ws, rfl, rfl, q1, q2, by omega, fun p hp => ?_⟩
      obtain ⟨x1, s1, r1⟩ := sm.newL hp (rs1.append rs2)
      exact q _ _ _ _ x1 s1 r1
    · cases e
  · rename_i i j e1 e2
    cases e
    exact op_sub pins s σ H x y v u Q I rx ry ⟨i, j, ra.isInt e1, rb.isInt e2, q _ F ι H (Ext.refl F ι H) sm (Rep.intI (K := X.K) (F := F) (ι := ι))⟩
  · rename_i i j e1 e2
    split at e
    · rename_i hs
      cases e
      exact op_mulW pins s σ H x y v u Q I rx ry ⟨i, j, ra.isInt e1, rb.isInt e2, mulOk_of hs, q _ F ι H (Ext.refl F ι H) sm (Rep.intI (K := X.K) (F := F) (ι := ι))⟩
    · cases e
  · rename_i i j e1 e2
    split at e
    · rename_i hs
      cases e
      exact op_mulS pins s σ H x y v u Q I rx ry ⟨i, j, ra.isStr e1, rb.isInt e2, hs.1, hs.2.1, hs.2.2, q _ F ι H (Ext.refl F ι H) sm (Rep.strI (K := X.K) (F := F) (ι := ι))⟩
    · cases e
  · rename_i i j e1 e2
    split at e
    · rename_i hs
      cases e
      refine op_fdivN pins s σ H x y v u Q I rx ry ⟨i, j, ra.isInt e1, rb.isInt e2, ⟨by omega, by omega⟩, ?_⟩
      show Q (.int (i.fdiv j)) H
      have : (0 : Int) ≤ j := by omega
      rw [Int.fdiv_eq_ediv_of_nonneg _ this]
      exact q _ F ι H (Ext.refl F ι H) sm (Rep.intI (K := X.K) (F := F) (ι := ι))
    · cases e
  · rename_i i j e1 e2
    split at e
    · rename_i hs
      cases e
      exact op_mod pins s σ H x y v u Q I rx ry ⟨i, j, ra.isInt e1, rb.isInt e2, hs, q _ F ι H (Ext.refl F ι H) sm (Rep.intI (K := X.K) (F := F) (ι := ι))⟩
    · cases e
  · rename_i i j e1 e2
    split at e
    · rename_i hs
      cases e
      exact op_pow pins s σ H x y v u Q I rx ry ⟨i, j, ra.isInt e1, rb.isInt e2, hs, q _ F ι H (Ext.refl F ι H) sm (Rep.intI (K := X.K) (F := F) (ι := ι))⟩
    · cases e
  · cases e
theorem d_bin {op : Operator} (ha : PE X a (TV X W fa)) (hb : PE X b (TV X W fb)) : PE X (.BinOp a op b pos) (TN X W (fBin op fa fb)) :=
  PE.weak (pe_op (opr_bin op) ha hb) fun σ H Q h => T2 RN.down h
theorem un_of {op : UnaryOp} {g : D → Option D} (h : UnR X (unaryOp op) (r1 X.K (RV X.K) (fun a _ => g a))) (ha : PE X a (TV X W fa)) : PE X (.UnaryOp op a pos) (TV X W (f1 (fun a m => ofO m (g a)) fa)) :=
  PE.weak (pe_un h ha) fun σ H Q h => T1 RV.down h
theorem d_neg (ha : PE X a (TV X W fa)) : PE X (.UnaryOp .USub a pos) (TV X W (fNeg fa)) := by
  refine un_of (g := negD) (fun pins s σ H x v Q I rx h => ?_) ha
  obtain ⟨F, ι, m, a, d, sm, ra, e, q⟩ := h
  have e : negD a = some d := e
  unfold negD at e
  split at e
  · cases e
    exact un_neg pins s σ H x v Q I rx ⟨_, ra.intE, q _ F ι H (Ext.refl F ι H) sm (Rep.intI (K := X.K) (F := F) (ι := ι))⟩
  · cases e
end
end Cs

/-! Comparisons, truth. -/
namespace Cs
open PySem L2 PySem.Spec
mutual
theorem py_plain : ∀ d : D, plain d = true → (py d).plain = true
  | .non, _ => by simp [py, PyData.plain]
  | .bl _, _ => by simp [py, PyData.plain]
  | .int _, _ => by simp [py, PyData.plain]
  | .str _, _ => by simp [py, PyData.plain]
  | .tup ds, h => by simp only [py, PyData.plain]; exact pyL_plain ds (by simpa [plain] using h)
  | .lst ds, h => by simp only [py, PyData.plain]; exact pyL_plain ds (by simpa [plain] using h)
  | .dct _ _, h => by simp [plain] at h
  | .ref _, h => by simp [plain] at h
  | .scr _, h => by simp [plain] at h
theorem pyL_plain : ∀ d : List D, plainL d = true → PyData.plainAll (pyL d) = true
  | [], _ => by simp [pyL, PyData.plainAll]
  | d :: r, h => by
    simp only [plainL, Bool.and_eq_true] at h
    simp only [pyL, PyData.plainAll, Bool.and_eq_true]
    exact ⟨py_plain d h.1, pyL_plain r h.2⟩
end
mutual
theorem py_dep : ∀ d : D, plain d = true → (py d).depth = dep d
  | .non, _ => by simp [py, PyData.depth, dep]
  | .bl _, _ => by simp [py, PyData.depth, dep]
  | .int _, _ => by simp [py, PyData.depth, dep]
  | .str _, _ => by simp [py, PyData.depth, dep]
  | .tup ds, h => by simp only [py, PyData.depth, dep]; rw [pyL_dep ds (by simpa [plain] using h)]
  | .lst ds, h => by simp only [py, PyData.depth, dep]; rw [pyL_dep ds (by simpa [plain] using h)]
  | .dct _ _, h => by simp [plain] at h
  | .ref _, h => by simp [plain] at h
  | .scr _, h => by simp [plain] at h
theorem pyL_dep : ∀ d : List D, plainL d = true → PyData.depthAll (pyL d) = depL d
  | [], _ => by simp [pyL, PyData.depthAll, depL]
  | d :: r, h => by
    simp only [plainL, Bool.and_eq_true] at h
    simp only [pyL, PyData.depthAll, depL]
    rw [py_dep d h.1, pyL_dep r h.2]
end
mutual
theorem py_eqv : ∀ a b : D, plain a = true → plain b = true → PyData.eqv (py a) (py b) = eqD a b
  | .non, b, _, hb => by cases b <;> simp [py, PyData.eqv, eqD, plain] at hb ⊢
  | .bl _, b, _, hb => by cases b <;> simp [py, PyData.eqv, eqD, plain] at hb ⊢
  | .int _, b, _, hb => by cases b <;> simp [py, PyData.eqv, eqD, plain] at hb ⊢
  | .str _, b, _, hb => by cases b <;> simp [py, PyData.eqv, eqD, plain] at hb ⊢
  | .tup xs, b, ha, hb => by
    cases b with
    | tup ys =>
      simp only [py, PyData.eqv, eqD]
      exact pyL_eqv xs ys (by simpa [plain] using ha) (by simpa [plain] using hb)
    | _ => simp [py, PyData.eqv, eqD, plain] at hb ⊢
  | .lst xs, b, ha, hb => by
    cases b with
    | lst ys =>
      simp only [py, PyData.eqv, eqD]
      exact pyL_eqv xs ys (by simpa [plain] using ha) (by simpa [plain] using hb)
    | _ => simp [py, PyData.eqv, eqD, plain] at hb ⊢
  | .dct _ _, _, h, _ => by simp [plain] at h
  | .ref _, _, h, _ => by simp [plain] at h
  | .scr _, _, h, _ => by simp [plain] at h
theorem pyL_eqv : ∀ a b : List D, plainL a = true → plainL b = true → PyData.eqvAll (pyL a) (pyL b) = eqL a b
  | [], [], _, _ => by simp [pyL, PyData.eqvAll, eqL]
  | [], _ :: _, _, _ => by simp [pyL, PyData.eqvAll, eqL]
  | _ :: _, [], _, _ => by simp [pyL, PyData.eqvAll, eqL]
  | x :: xs, y :: ys, ha, hb => by
    simp only [plainL, Bool.and_eq_true] at ha hb
    simp only [pyL, PyData.eqvAll, eqL]
    rw [py_eqv x y ha.1 hb.1, pyL_eqv xs ys ha.2 hb.2]
end
theorem pyL_any (x : D) (hx : plain x = true) : ∀ ds : List D, plainL ds = true → ((pyL ds).any fun z => PyData.eqv z (py x)) = ds.any fun z => eqD z x
  | [], _ => by simp [pyL]
  | d :: r, h => by
    simp only [plainL, Bool.and_eq_true] at h
    simp only [pyL, List.any_cons]
    rw [py_eqv d x h.1 hx, pyL_any x hx r h.2]
mutual
theorem Rep.dp {K : PySem.W.Frag} {F : Hp} {ι : List Addr} {H : Hp} (hF : ∀ a o, F a = some o → H a = some o) : ∀ {d : D} {v : V}, plain d = true → Rep K F ι d v → Dp K H v (py d)
  | .non, _, _, r => by rw [r.nonE, py]; exact .non
  | .bl b, _, _, r => by rw [r.blE, py]; exact .bl b
  | .int b, _, _, r => by rw [r.intE, py]; exact .int b
  | .str b, _, _, r => by rw [r.strE, py]; exact .str b
  | .tup ds, _, h, r => by
    obtain ⟨a, vs, rfl, q, rs⟩ := r.tupE
    rw [py]
    exact .tup (SqT.mono q hF) (Reps.dp hF (by simpa [plain] using h) rs)
  | .lst ds, _, h, r => by
    obtain ⟨a, vs, rfl, q, rs⟩ := r.lstE
    rw [py]
    exact .lst (SqL.of (hF _ _ q)) (Reps.dp hF (by simpa [plain] using h) rs)
  | .dct _ _, _, h, _ => by simp [plain] at h
  | .ref _, _, h, _ => by simp [plain] at h
  | .scr _, _, h, _ => by simp [plain] at h
theorem Reps.dp {K : PySem.W.Frag} {F : Hp} {ι : List Addr} {H : Hp} (hF : ∀ a o, F a = some o → H a = some o) : ∀ {d : List D} {v : List V}, plainL d = true → Reps K F ι d v → DpAll K H v (pyL d)
  | [], _, _, r => by rw [r.of_nil, pyL]; exact .nil
  | d :: ds, _, h, r => by
    simp only [plainL, Bool.and_eq_true] at h
    obtain ⟨v, w, rfl, r1, r2⟩ := r.of_cons
    rw [pyL]
    exact .cons (Rep.dp hF h.1 r1) (Reps.dp hF h.2 r2)
end
section
variable {K : PySem.W.Frag} {F : Hp} {ι : List Addr} {H : Hp} {m : Mem}
/-- also of a cell that holds a list -/
theorem Rep.dpR (s : SimM K F ι m H) {d : D} {v : V} (h : plain (res m d) = true) (r : Rep K F ι d v) : Dp K H v (py (res m d)) := by
  cases d with
  | ref n =>
    obtain ⟨a, rfl, q⟩ := r.refE
    rw [res_ref] at h ⊢
    cases z : m[n]? with
    | none => rw [z] at h; simp [plain] at h
    | some c =>
      rw [z] at h
      cases c with
      | lst es =>
        obtain ⟨o, h2, vs, rfl, rs⟩ := s.at q z
        show Dp K H (.ref a) (py (.lst es))
        rw [py]
        exact .lst (SqL.of h2) (Reps.dp s.sub (by simpa [plain] using h) rs)
      | dct _ _ => simp [plain] at h
      | ins _ _ => simp [plain] at h
  | scr es =>
    obtain ⟨a, vs, rfl, q, rs⟩ := r.scrE
    show Dp K H (.ref a) (py (.lst es))
    have h : plain (.lst es) = true := h
    rw [py]
    exact .lst (SqL.sub q s) (Reps.dp s.sub (by simpa [plain] using h) rs)
  | _ => exact Rep.dp s.sub h r
end
end Cs
namespace Cs
open PySem L2 PySem.Spec
/-! ### dicts: the empty one serves both kinds of keys -/
section
variable {X : Cx} {pins : List (Addr × Obj)} {σ : L2.St} {H : Hp} {s : Shared} {a : Addr}
theorem Inv.d2t (I : L2.Inv X pins σ H s) (e : H a = some (.dK [])) : L2.Inv X pins σ (upd H a (.dT [])) s := by
  obtain ⟨z, hd, vs, rel, o, es, ep, h1, h2, h3, h4, h5, _⟩ := I.hok a _ e
  cases rel
  refine I.write (t' := s.toks) (h' := s.heap) (e := a) (by rw [e]; exact True.intro) (.inl rfl) (fun _ _ _ q => q) ⟨o, h1⟩ ?_
  refine ⟨Nat.zero_le _, hd, [], .nil, o, es, ep, h1, h2, h3, ?_, List.nodup_nil⟩
  cases q : es.toList with
  | nil => rfl
  | cons x r => rw [q] at h5; cases h5
theorem Inv.t2d (I : L2.Inv X pins σ H s) (e : H a = some (.dT [])) : L2.Inv X pins σ (upd H a (.dK [])) s := by
  obtain ⟨z, hd, vs, rel, o, es, ep, h1, h2, h3, h4, _⟩ := I.hok a _ e
  cases rel
  refine I.write (t' := s.toks) (h' := s.heap) (e := a) (by rw [e]; exact True.intro) (.inl rfl) (fun _ _ _ q => q) ⟨o, h1⟩ ?_
  have q : es = #[] := by
    have : es.toList = [] := h4
    simpa using this
  subst q
  refine ⟨Nat.zero_le _, hd, [], .nil, o, #[], ep, h1, h2, h3, ?_, .nil, List.nodup_nil⟩
  intro i hi
  simp at hi
theorem Inv.back (I : L2.Inv X pins σ (upd H a (.dT [])) s) (e : H a = some (.dK [])) : L2.Inv X pins σ H s := by
  have q := Inv.t2d (a := a) I upd_same
  rw [upd_upd] at q
  have : upd H a (.dK []) = H := by
    funext b
    by_cases z : b = a
    · subst z; rw [upd_same, e]
    · rw [upd_ne z]
  rw [this] at q
  exact q
theorem Inv.back' (I : L2.Inv X pins σ (upd H a (.dK [])) s) (e : H a = some (.dT [])) : L2.Inv X pins σ H s := by
  have q := Inv.d2t (a := a) I upd_same
  rw [upd_upd] at q
  have : upd H a (.dT []) = H := by
    funext b
    by_cases z : b = a
    · subst z; rw [upd_same, e]
    · rw [upd_ne z]
  rw [this] at q
  exact q
end
/-- a key as the library's -/
def kK : D → Option Key
  | .int i => some (.inl i)
  | .str s => some (.inr s)
  | _ => none
def kKT : List D → Option (List Key)
  | [] => some []
  | d :: r => match kK d, kKT r with
    | some k, some q => some (k :: q)
    | _, _ => none
theorem kd_eq (p q : Key) : eqD (kd p) (kd q) = decide (p = q) := by
  cases p <;> cases q <;> simp [kd, eqD]
  · rename_i a b
    by_cases h : a = b <;> simp [h]
  · rename_i a b
    by_cases h : a = b <;> simp [h]
theorem kdL_eq : ∀ p q : List Key, eqL (p.map kd) (q.map kd) = decide (p = q)
  | [], [] => by simp [eqL]
  | [], _ :: _ => by simp [eqL]
  | _ :: _, [] => by simp [eqL]
  | a :: p, b :: q => by
    simp only [List.map_cons, eqL, kd_eq, kdL_eq p q]
    by_cases h : a = b <;> by_cases h2 : p = q <;> simp [h, h2]
theorem kdT_eq (p q : List Key) : eqD (kdT p) (kdT q) = decide (p = q) := by
  simp only [kdT, eqD, kdL_eq]
section
variable {K : PySem.W.Frag} {F : Hp} {ι : List Addr} {H : Hp} {m : Mem} {κ : Type} [DecidableEq κ]
/-- a dict's keys by their data -/
theorem findK_map {g : κ → D} (hg : ∀ p q, eqD (g p) (g q) = decide (p = q)) (k : κ) : ∀ kvs : List (κ × V), (findK (g k) (kvs.map fun p => g p.1)) = kvs.findIdx? fun p => decide (p.1 = k)
  | [] => rfl
  | p :: r => by
    simp only [List.map_cons, findK, hg, List.findIdx?_cons, findK_map hg k r]
theorem getK_val {g : κ → D} (hg : ∀ p q, eqD (g p) (g q) = decide (p = q)) (k : κ) : ∀ {kvs : List (κ × V)} {ws : List D}, Reps K F ι ws (kvs.map (·.2)) →
    (match getK (kvs.map fun p => g p.1) ws (g k), valV kvs k with
      | some d, some v => Rep K F ι d v
      | none, none => True
      | _, _ => False)
  | [], ws, h => by
    simp [getK, findK, valV]
  | p :: r, ws, h => by
    cases ws with
    | nil => simp [Reps] at h
    | cons w ws =>
      obtain ⟨v, u, e, h1, h2⟩ := h.of_cons
      simp only [List.map_cons, List.cons.injEq] at e
      obtain ⟨rfl, rfl⟩ := e
      have ih := getK_val hg k h2
      unfold getK at ih ⊢
      simp only [List.map_cons, findK, hg]
      by_cases q : p.1 = k
      · rw [valV_pos q]
        simp [q]
        exact h1
      · rw [valV_neg q]
        simp only [q, decide_false, Bool.false_eq_true, if_false]
        cases z : findK (g k) (r.map fun p => g p.1) with
        | none => rw [z] at ih; simpa using ih
        | some i => rw [z] at ih; simpa using ih
theorem putK_map {g : κ → D} (hg : ∀ p q, eqD (g p) (g q) = decide (p = q)) (k : κ) {v : V} {d : D} (hv : Rep K F ι d v) : ∀ {kvs : List (κ × V)} {ws : List D}, (kvs.map (·.1)).Nodup → Reps K F ι ws (kvs.map (·.2)) →
    (putK (kvs.map fun p => g p.1) ws (g k) d).1 = (L2.putK kvs k v).map (fun p => g p.1) ∧ Reps K F ι (putK (kvs.map fun p => g p.1) ws (g k) d).2 ((L2.putK kvs k v).map (·.2)) := by
  intro kvs ws nd h
  have hl := h.length
  rw [List.length_map] at hl
  unfold putK L2.putK
  rw [findK_map hg]
  cases z : kvs.findIdx? fun p => decide (p.1 = k) with
  | none =>
    have hn : (kvs.any fun kv => decide (kv.1 = k)) = false := by
      rw [List.findIdx?_eq_none_iff] at z
      rw [List.any_eq_false]
      intro x hx
      simpa using z x hx
    rw [hn]
    simp only [Bool.false_eq_true, if_false, List.map_append, List.map_cons, List.map_nil]
    exact ⟨trivial, h.append (Reps.one hv)⟩
  | some i =>
    rw [List.findIdx?_eq_some_iff_getElem] at z
    obtain ⟨hi, z1, z2⟩ := z
    have hk : kvs[i].1 = k := by simpa using z1
    have hy : (kvs.any fun kv => decide (kv.1 = k)) = true := by
      rw [List.any_eq_true]
      exact ⟨kvs[i], List.getElem_mem hi, by simpa using z1⟩
    rw [hy]
    simp only [if_true]
    have e : (kvs.map fun kv => if kv.1 = k then (kv.1, v) else kv) = kvs.set i (kvs[i].1, v) := by
      apply List.ext_getElem
      · simp
      · intro j h1 h2
        rw [List.getElem_map]
        by_cases q : j = i
        · subst q
          rw [List.getElem_set_self, if_pos hk]
        · rw [List.getElem_set_ne (fun z => q z.symm)]
          have hj : j < kvs.length := by simpa using h1
          rw [if_neg]
          intro w
          have e1 : (kvs.map (·.1))[j]'(by simpa using hj) = (kvs.map (·.1))[i]'(by simpa using hi) := by
            rw [List.getElem_map, List.getElem_map, hk]; exact w
          have pw := List.pairwise_iff_getElem.mp nd
          rcases Nat.lt_trichotomy j i with l | l | l
          · exact pw j i (by simpa using hj) (by simpa using hi) l e1
          · exact q l
          · exact pw i j (by simpa using hi) (by simpa using hj) l e1.symm
    rw [e]
    refine ⟨?_, ?_⟩
    · rw [List.map_set]
      have : (kvs.map fun p => g p.1).set i (g kvs[i].1) = kvs.map fun p => g p.1 := by
        have q : (kvs.map fun p => g p.1)[i]? = some (g kvs[i].1) := by simp [hi]
        exact List.set_getElem_self (i := i) (as := kvs.map fun p => g p.1) (by simpa using hi) ▸ (by simp)
      rw [this]
    · rw [List.map_set]
      exact h.set i hv
end
theorem keyD_kd {ks : List D} {k : D} (h : keyD ks k = true) : (∃ q, k = kd q ∧ ∀ x ∈ ks, ∀ l, x ≠ .tup l) ∨ ∃ q, k = kdT q ∧ (∃ l, k = .tup l ∧ keyT l = true) ∧ ∀ x ∈ ks, ∃ l, x = .tup l := by
  unfold keyD at h
  split at h
  · rename_i i
    refine .inl ⟨.inl i, rfl, fun x hx l e => ?_⟩
    have := List.all_eq_true.mp h x hx
    rw [e] at this; simp at this
  · rename_i i
    refine .inl ⟨.inr i, rfl, fun x hx l e => ?_⟩
    have := List.all_eq_true.mp h x hx
    rw [e] at this; simp at this
  · rename_i ds
    rw [Bool.and_eq_true] at h
    have lem : ∀ ds : List D, keyT ds = true → ∃ q : List Key, ds = q.map kd := by
      intro ds
      induction ds with
      | nil => exact fun _ => ⟨[], rfl⟩
      | cons d r ih =>
        intro hk
        unfold keyT at hk
        rw [List.all_cons, Bool.and_eq_true] at hk
        obtain ⟨q, rfl⟩ := ih hk.2
        have h1 := hk.1
        split at h1
        · rename_i i
          exact ⟨.inl i :: q, rfl⟩
        · cases h1
    obtain ⟨q, rfl⟩ := lem ds h.1
    refine .inr ⟨q, rfl, ⟨_, rfl, h.1⟩, fun x hx => ?_⟩
    have := List.all_eq_true.mp h.2 x hx
    split at this
    · exact ⟨_, rfl⟩
    · cases this
  · cases h
section
variable {X : Cx} {pins : List (Addr × Obj)} {σ : L2.St} {H : Hp} {s : Shared} {F : Hp} {ι : List Addr} {m : Mem}
/-- what a dict's value says of the heap -/
theorem Rep.isDct {K : PySem.W.Frag} (sm : SimM K F ι m H) {d : D} {v : V} {ks ws : List D} (r : Rep K F ι d v) (h : res m d = .dct ks ws) : ∃ a o, v = .ref a ∧ RdE H a o ∧ RepC K F ι (.dct ks ws) o := by
  cases d with
  | dct k2 w2 =>
    have e : k2 = ks ∧ w2 = ws := by simpa [res] using h
    obtain ⟨rfl, rfl⟩ := e
    simp only [Rep] at r
    obtain ⟨a, rfl, ⟨kvs, h1, h2, h3⟩ | ⟨kvs, h1, h2, h3⟩⟩ := r
    · exact ⟨a, _, rfl, h1.mono sm.sub, .inl ⟨kvs, rfl, h2, h3⟩⟩
    · exact ⟨a, _, rfl, h1.mono sm.sub, .inr ⟨kvs, rfl, h2, h3⟩⟩
  | ref n =>
    obtain ⟨a, rfl, q⟩ := r.refE
    rw [res_ref] at h
    cases z : m[n]? with
    | none => rw [z] at h; cases h
    | some c =>
      rw [z] at h
      cases c with
      | lst es => cases h
      | dct k2 w2 =>
        cases h
        obtain ⟨o, h2, rs⟩ := sm.at q z
        exact ⟨a, o, rfl, .inl h2, rs⟩
      | ins _ _ => cases h
  | _ => simp [res] at h
theorem kd_kV {K : PySem.W.Frag} {q : Key} {y : V} (r : Rep K F ι (kd q) y) : y = kV q := by
  cases q with
  | inl i => exact r.intE
  | inr i => exact r.strE
theorem kdL_kV {K : PySem.W.Frag} : ∀ {q : List Key} {ys : List V}, Reps K F ι (q.map kd) ys → ys = q.map kV
  | [], _, r => r.of_nil
  | k :: q, _, r => by
    obtain ⟨v, w, rfl, r1, r2⟩ := Reps.of_cons r
    rw [kd_kV r1, kdL_kV r2]
    rfl
/-- d[y], y in d: over a heap in which an empty dict may be told otherwise -/
theorem dget (I : L2.Inv X pins σ H s) (sm : SimM X.K F ι m H) {d k : D} {x y : V} {ks ws : List D} (r : Rep X.K F ι d x) (h : res m d = .dct ks ws) (hk : keyD ks k = true) (rk : Rep X.K F ι k y) :
    ∃ a H' o, x = .ref a ∧ L2.Inv X pins σ H' s ∧ DGet H' a y o ∧ (∀ s', L2.Inv X pins σ H' s' → L2.Inv X pins σ H s') ∧
      (match getK ks ws k, o with
        | some d', some v' => Rep X.K F ι d' v'
        | none, none => True
        | _, _ => False) := by
  obtain ⟨a, o, rfl, hH, rc⟩ := r.isDct sm h
  rcases keyD_kd hk with ⟨q, rfl, hq⟩ | ⟨q, rfl, ⟨l, el, hl⟩, hq⟩
  · have ey := kd_kV rk
    subst ey
    obtain ⟨kvs, rfl, rfl, rs⟩ | ⟨kvs, rfl, rfl, rs⟩ := rc
    · exact ⟨a, H, _, rfl, I, .inl ⟨_, _, hH.rd, rfl, rfl⟩, fun _ q => q, getK_val kd_eq q rs⟩
    · cases kvs with
      | nil =>
        have e : ws = [] := List.eq_nil_of_length_eq_zero (by have := rs.length; simpa using this.symm)
        subst e
        replace hH : H a = some (.dT []) := hH.elim id fun z => absurd rfl z.2.1
        refine ⟨a, upd H a (.dK []), none, rfl, Inv.t2d I hH, .inl ⟨[], q, .inl upd_same, rfl, rfl⟩, fun s' q => Inv.back' q hH, ?_⟩
        simp [getK, findK]
      | cons p r => exact absurd rfl (hq (kdT p.1) (by simp) _)
  · obtain ⟨b, vs, rfl, hb, rv⟩ := rk.tupK (ds := q.map kd) (by
      have : q.map kd = l := by simpa [kdT] using el
      rw [this]; exact hl)
    have ev := kdL_kV rv
    subst ev
    have hb' := sm.sub _ _ hb
    obtain ⟨kvs, rfl, rfl, rs⟩ | ⟨kvs, rfl, rfl, rs⟩ := rc
    · cases kvs with
      | nil =>
        have e : ws = [] := List.eq_nil_of_length_eq_zero (by have := rs.length; simpa using this.symm)
        subst e
        replace hH : H a = some (.dK []) := hH.elim id fun z => absurd rfl z.1
        have hba : b ≠ a := ne_of hb' hH (by intro z; cases z)
        refine ⟨a, upd H a (.dT []), none, rfl, Inv.d2t I hH, .inr ⟨[], q, b, .inl upd_same, rfl, by rw [upd_ne hba]; exact hb', rfl⟩, fun s' q => Inv.back q hH, ?_⟩
        simp [getK, findK]
      | cons p r =>
        obtain ⟨l, e⟩ := hq (kd p.1) (by simp)
        cases z : p.1 <;> simp [z, kd] at e
    · exact ⟨a, H, _, rfl, I, .inr ⟨_, _, _, hH.rd, rfl, hb', rfl⟩, fun _ q => q, getK_val kdT_eq q rs⟩
/-- a cell is changed -/
theorem SimM.put {K : PySem.W.Frag} (sm : SimM K F ι m H) {n : Nat} {a : Addr} {c0 c : Cell} (hn : ι[n]? = some a) (hc : m[n]? = some c0) (u : HO) (ru : RepC K F ι c u) : Ext F ι H F ι (upd H a u) ∧ SimM K F ι (setC m n c) (upd H a u) := by
  obtain ⟨hF, o, hH, rc⟩ := sm.cell n a _ hn hc
  have hnm : n < m.length := by
    by_cases q : n < m.length
    · exact q
    · rw [List.getElem?_eq_none (by omega)] at hc; cases hc
  have ha : a ∈ ι := List.mem_of_getElem? hn
  refine ⟨⟨fun _ _ q => q, fun _ q => .inl q, ⟨[], by simp, by simp⟩, fun b w hb q => ?_, fun b q => ?_⟩, fun b w q => ?_, by rw [setC, List.length_set]; exact sm.len, sm.nd, fun j b c e1 e2 => ?_⟩
  · rw [upd_ne (fun z => by subst z; exact hb ha)]; exact q
  · by_cases z : b = a
    · subst z; rw [upd_same] at q; cases q
    · rw [upd_ne z] at q; exact q
  · have z : b ≠ a := fun z => by subst z; rw [hF] at q; cases q
    rw [upd_ne z]; exact sm.sub _ _ q
  · by_cases z : j = n
    · subst z
      rw [hn] at e1; cases e1
      unfold setC at e2
      rw [List.getElem?_set_self hnm] at e2
      cases e2
      exact ⟨hF, u, upd_same, ru⟩
    · unfold setC at e2
      rw [List.getElem?_set_ne (fun w => z w.symm)] at e2
      obtain ⟨h1, w, h2, h3⟩ := sm.cell j b c e1 e2
      have hb : b ≠ a := fun w => by
        subst w
        have pw := List.pairwise_iff_getElem.mp sm.nd
        obtain ⟨g1, q1⟩ := List.getElem?_eq_some_iff.mp e1
        obtain ⟨g2, q2⟩ := List.getElem?_eq_some_iff.mp hn
        rcases Nat.lt_trichotomy j n with l | l | l
        · exact pw j n g1 g2 l (q1.trans q2.symm)
        · exact z l
        · exact pw n j g2 g1 l (q2.trans q1.symm)
      exact ⟨h1, w, by rw [upd_ne hb]; exact h2, h3⟩
theorem paired_keys {α β κ : Type} {R : κ × α → κ × β → Prop} {xs : List (κ × α)} {ys : List (κ × β)} (h : Paired (fun p q => p.1 = q.1 ∧ R p q) xs ys) : xs.map (·.1) = ys.map (·.1) := by
  induction h with
  | nil => rfl
  | cons p _ ih => simp only [List.map_cons]; rw [p.1, ih]
/-- the heap behind d[y] = v -/
theorem dput (I : L2.Inv X pins σ H s) (sm : SimM X.K F ι m H) {n : Nat} {k d : D} {a : Addr} {y v : V} {ks ws : List D} (hn : ι[n]? = some a) (hc : m[n]? = some (.dct ks ws)) (hk : keyD ks k = true) (hl : ks.length < sizeLine)
    (rk : Rep X.K F ι k y) (rv : Rep X.K F ι d v) :
    ∃ H0 H1, L2.Inv X pins σ H0 s ∧ DPut H0 a y v H1 ∧ Ext F ι H F ι H1 ∧ SimM X.K F ι (setC m n (.dct (putK ks ws k d).1 (putK ks ws k d).2)) H1 := by
  obtain ⟨hF, o, hH, rc⟩ := sm.cell n a _ hn hc
  have hnm : n < m.length := by
    by_cases q : n < m.length
    · exact q
    · rw [List.getElem?_eq_none (by omega)] at hc; cases hc
  have fin : ∀ u : HO, RepC X.K F ι (.dct (putK ks ws k d).1 (putK ks ws k d).2) u → Ext F ι H F ι (upd H a u) ∧ SimM X.K F ι (setC m n (.dct (putK ks ws k d).1 (putK ks ws k d).2)) (upd H a u) := fun u ru => sm.put hn hc u ru
  rcases keyD_kd hk with ⟨q, rfl, hq⟩ | ⟨q, rfl, ⟨l, el, hl2⟩, hq⟩
  · have ey := kd_kV rk
    subst ey
    obtain ⟨kvs, rfl, rfl, rs⟩ | ⟨kvs, rfl, rfl, rs⟩ := rc
    · obtain ⟨_, _, vs, rel, o2, es, ep, _, _, _, _, _, nd⟩ := I.hok a _ hH
      have nd' : (kvs.map (·.1)).Nodup := by
        have : kvs.map (·.1) = vs.map (·.1) := paired_keys rel
        rw [this]; exact nd
      obtain ⟨p1, p2⟩ := putK_map kd_eq q rv nd' rs
      obtain ⟨x1, x2⟩ := fin (.dK (L2.putK kvs q v)) (.inl ⟨_, rfl, p1, p2⟩)
      exact ⟨H, _, I, DPut.k hH (by simpa using hl), x1, x2⟩
    · cases kvs with
      | nil =>
        have e : ws = [] := List.eq_nil_of_length_eq_zero (by have := rs.length; simpa using this.symm)
        subst e
        obtain ⟨x1, x2⟩ := fin (.dK [(q, v)]) (.inl ⟨_, rfl, by simp [putK, findK], by simpa [putK, findK] using Reps.one rv⟩)
        refine ⟨upd H a (.dK []), _, Inv.t2d I hH, .inl ⟨[], q, upd_same, rfl, by decide, rfl⟩, ?_⟩
        rw [upd_upd]
        exact ⟨x1, x2⟩
      | cons p r => exact absurd rfl (hq (kdT p.1) (by simp) _)
  · obtain ⟨b, vs, rfl, hb, rv2⟩ := rk.tupK (ds := q.map kd) (by
      have : q.map kd = l := by simpa [kdT] using el
      rw [this]; exact hl2)
    have ev := kdL_kV rv2
    subst ev
    have hb' := sm.sub _ _ hb
    obtain ⟨kvs, rfl, rfl, rs⟩ | ⟨kvs, rfl, rfl, rs⟩ := rc
    · cases kvs with
      | nil =>
        have e : ws = [] := List.eq_nil_of_length_eq_zero (by have := rs.length; simpa using this.symm)
        subst e
        have hba : b ≠ a := ne_of hb' hH (by intro z; cases z)
        obtain ⟨x1, x2⟩ := fin (.dT [(q, v)]) (.inr ⟨_, rfl, by simp [putK, findK], by simpa [putK, findK] using Reps.one rv⟩)
        refine ⟨upd H a (.dT []), _, Inv.d2t I hH, .inr ⟨[], q, b, upd_same, rfl, by rw [upd_ne hba]; exact hb', by decide, rfl⟩, ?_⟩
        rw [upd_upd]
        exact ⟨x1, x2⟩
      | cons p r =>
        obtain ⟨l, e⟩ := hq (kd p.1) (by simp)
        cases z : p.1 <;> simp [z, kd] at e
    · obtain ⟨_, _, xs, rel, o2, es, ep, _, _, _, _, nd⟩ := I.hok a _ hH
      have nd' : (kvs.map (·.1)).Nodup := by
        have : kvs.map (·.1) = xs.map (·.1) := paired_keys rel
        rw [this]; exact nd
      obtain ⟨p1, p2⟩ := putK_map kdT_eq q rv nd' rs
      obtain ⟨x1, x2⟩ := fin (.dT (L2.putK kvs q v)) (.inr ⟨_, rfl, p1, p2⟩)
      exact ⟨H, _, I, DPut.t hH hb' (by simpa using hl), x1, x2⟩
end
end Cs

/-! sorted(..) of lists and tuples. -/
namespace Cs
open PySem L2 PySem.Spec PyProof.Rows
section
variable {prog : Program} {w : World} {A : Around} {E : Value → Shared → Prop} {s : Shared}
theorem gather_tup {t : Addr} {us : List Value} {Q : List Value → Shared → Prop} (ht : ∃ o, s.heap.get? t = some o ∧ o.cls = .type "tuple" ∧ ∃ n, o.data = .seq us.toArray n)
    (h : Q us { s with heap := (s.heap.push (seqObj "list" #[] 0)).update s.heap.objs.size (Obj.mapSeq (· ++ us.toArray)) }) (hz : us.length ≤ sizeLine) :
    wpAny (model prog w) A (collect (.ref t)) Q E s := by
  obtain ⟨ob, h1, h2, k, h3⟩ := ht
  unfold collect
  refine wpAny_bind (wpAny_runValue (codeAny_builtin entry_proto_collect' ?_))
  show wpAny _ _ (do again (.builtin "list.__iadd__" ⟨[← newList [], .ref t], []⟩)) _ _ s
  refine wpAny_bind (wpAny_newList (wpAny_pure ⟨Code.quiet_builtin _ (by decide +kernel), codeAny_builtin entry_list_iadd' ?_⟩))
  show wpAny _ _ (Builtin.List.listExtendWith (.ref s.heap.objs.size) (.ref t) (.ref s.heap.objs.size)) _ _ { s with heap := s.heap.push (seqObj "list" #[] 0) }
  unfold Builtin.List.listExtendWith
  have g1 : (s.heap.push (seqObj "list" #[] 0)).get? t = some ob := Heap.get?_push_of_some _ h1
  have g2 : (s.heap.push (seqObj "list" #[] 0)).get? s.heap.objs.size = some (seqObj "list" #[] 0) := Heap.get?_push_size _ rfl
  refine wpAny_bind (wpAny_typeOf (T := "tuple") ⟨ob, g1, h2⟩ ?_)
  have ty : (Value.type "tuple" == Value.type "tuple") = true := by rfl
  rw [if_pos (by rw [ty]; simp)]
  refine wpAny_bind (listItems_at g1 h3 ?_)
  refine wpAny_bind (listItems_at (xs := #[]) (n := 0) g2 rfl ?_)
  rw [if_neg (by simp)]
  refine wpAny_bind (listUpdate_at (xs := #[]) (n := 0) g2 rfl ?_ (Nat.zero_le _) (by show (#[] ++ us.toArray).size ≤ sizeLine + 1; simp only [Array.size_append, List.size_toArray, List.length_nil]; omega))
  refine wpAny_pure ?_
  show wpAny (model prog w) A (do
      let ob ← load s.heap.objs.size
      match ob.data with
      | .seq ys _ => pure ys.toList
      | _ => unsupported "internal:collect") Q E { s with heap := (s.heap.push (seqObj "list" #[] 0)).update s.heap.objs.size (Obj.mapSeq (· ++ us.toArray)) }
  refine wpAny_bind (wpAny_load (get?_update_seq g2 _) ?_)
  show wpAny _ _ (pure ((#[] : Array Value) ++ us.toArray).toList) Q E _
  have e : ((#[] : Array Value) ++ us.toArray).toList = us := by simp
  rw [e]
  exact wpAny_pure h
/-- sorted of what is gathered from either -/
theorem sort_any {t : Addr} {us : List Value} {Q : Value → Shared → Prop} (hz : us.length ≤ sizeLine)
    (hc : ∀ {P : List Value → Shared → Prop} {A' : Around} {E' : Value → Shared → Prop}, P us { s with heap := (s.heap.push (seqObj "list" #[] 0)).update s.heap.objs.size (Obj.mapSeq (· ++ us.toArray)) } → wpAny (model prog w) A' (collect (.ref t)) P E' s)
    (body : ∀ E' : Value → Shared → Prop, wpAny (model prog w) A.in1.in1 (Builtin.«list.sort» ⟨[.ref (s.heap.objs.size + 1)], []⟩) (fun f s' => f = .done (.ret .none) ∧ Q (.ref (s.heap.objs.size + 1)) s') E' { s with heap := PySem.W.copyHeap s.heap us }) :
    wpAny (model prog w) A (call (.builtin "sorted") [.ref t]) Q E s := by
  refine call_function_entry_kw kind_sorted plain_sorted entry_sorted (args_sorted1 _) ?_
  unfold Builtin.«sorted»
  refine wpAny_bind (m := checkCount "sorted" 1 1 _) (wpAny_pure ?_)
  refine wpAny_bind (hc ?_)
  refine wpAny_bind (wpAny_newList ?_ hz)
  have e : ((s.heap.push (seqObj "list" #[] 0)).update s.heap.objs.size (Obj.mapSeq (· ++ us.toArray))).objs.size = s.heap.objs.size + 1 := by
    rw [Heap.size_update, size_push']
  show wpAny _ _ _ _ _ { s with heap := PySem.W.copyHeap s.heap us }
  rw [e]
  refine wpAny_bind (wpAny_holding (wpAny_call_entry_kw slot_list_sort ⟨_, PySem.W.copyHeap_at s.heap us, rfl⟩ entry_list_sort ?go (args_list_sort _)))
  case go =>
    show wpAny (model prog w) A.in1.in1 (Builtin.«list.sort» ⟨[.ref (s.heap.objs.size + 1)], []⟩) _ _ _
    refine wpAny_mono (body _) (fun f s' hf => ?_) fun _ _ e => e
    obtain ⟨rfl, hq⟩ := hf
    exact ⟨_, rfl, wpAny_pure ⟨_, rfl, hq⟩⟩
end
section
variable {X : Cx} {K : PySem.W.Frag} {F : Hp} {ι : List Addr} {H : Hp} {m : Mem} {σ : L2.St} {pins : List (Addr × Obj)} {s : Shared}
theorem each_reps {R : Value → D → Prop} : ∀ {ds : List D} {xs : List V} {us : List Value}, Reps K F ι ds xs → Vals xs us → (∀ d x u, d ∈ ds → Rep K F ι d x → RelV x u → R u d) → PySem.W.EachIs R us ds
  | [], xs, us, r, v, _ => by
    cases r.of_nil
    cases v
    exact .nil
  | d :: ds, xs, us, r, v, k => by
    obtain ⟨x, w, rfl, r1, r2⟩ := r.of_cons
    cases v with
    | cons h t => exact .cons (k d x _ List.mem_cons_self r1 h) (each_reps r2 t fun d x u hd => k d x u (List.mem_cons_of_mem _ hd))
theorem each_back : ∀ {us : List Value} {ds : List D}, PySem.W.EachIs (fun u d => ∃ x, Rep K F ι d x ∧ RelV x u) us ds → ∃ xs, Reps K F ι ds xs ∧ Vals xs us
  | [], [], _ => ⟨[], Reps.nil, .nil⟩
  | [], _ :: _, h => by cases h
  | _ :: _, [], h => by cases h
  | u :: us, d :: ds, h => by
    cases h with
    | cons h t =>
      obtain ⟨x, r, v⟩ := h
      obtain ⟨xs, rs, vs⟩ := each_back t
      exact ⟨x :: xs, Reps.cons r rs, .cons v vs⟩
theorem dep_le : ∀ {ds : List D} {d : D}, d ∈ ds → dep d ≤ depL ds
  | e :: ds, d, h => by
    simp only [depL]
    rcases List.mem_cons.mp h with rfl | h
    · exact Nat.le_max_left _ _
    · exact Nat.le_trans (dep_le h) (Nat.le_max_right _ _)
theorem plain_mem : ∀ {ds : List D} {d : D}, plainL ds = true → d ∈ ds → plain d = true
  | e :: ds, d, k, h => by
    simp only [plainL, Bool.and_eq_true] at k
    rcases List.mem_cons.mp h with rfl | h
    · exact k.1
    · exact plain_mem k.2 h
theorem sortable {ds : List D} (h : (ds.all isTup1 || ds.all fun d => !isNonT d) = true) : PySem.W.Sortable (ds.map py) := by
  rw [Bool.or_eq_true, List.all_eq_true, List.all_eq_true] at h
  rcases h with h | h
  · refine .inl fun d hd => ?_
    obtain ⟨e, he, rfl⟩ := List.mem_map.mp hd
    have q := h e he
    cases e with
    | tup es =>
      cases es with
      | nil => cases q
      | cons x r => exact ⟨py x, pyL r, by simp [py, pyL]⟩
    | _ => cases q
  · refine .inr fun d hd => ?_
    obtain ⟨e, he, rfl⟩ := List.mem_map.mp hd
    have q := h e he
    cases e with
    | tup es => cases q
    | non => cases q
    | _ => exact ⟨fun z => by simp [py] at z, fun xs z => by simp [py] at z⟩
theorem cr_sort (hu : X.A.units + 200 < cLine) : CallR X (.builtin "sorted") (fun vs H Q => ∃ a xs ds F ι m, vs = [.ref a] ∧ (SqL X.K H a xs ∨ SqT X.K H a xs) ∧ SimM X.K F ι m H ∧ Reps X.K F ι ds xs ∧ sortOk ds = true ∧
    ∀ ys p, H p = none → Reps X.K F ι (sortL ds) ys → Q (.ref p) (upd H p (.lst ys))) := by
  intro pins s σ H vs us Q I r h
  obtain ⟨a, xs, ds, F, ι, m, rfl, hq, sm, rs, ok, q⟩ := h
  rw [Vals.ref1 r]
  unfold sortOk at ok
  simp only [Bool.and_eq_true, decide_eq_true_eq] at ok
  obtain ⟨⟨⟨hp, hd⟩, hal⟩, hso⟩ := ok
  have hal' : PySem.W.AllAlike (ds.map py) := fun d h1 d' h2 => by
    obtain ⟨e, he, rfl⟩ := List.mem_map.mp h1
    obtain ⟨e', he', rfl⟩ := List.mem_map.mp h2
    exact List.all_eq_true.mp (List.all_eq_true.mp hal e he) e' he'
  obtain ⟨its, rv, hz, hc⟩ : ∃ its : List Value, Vals xs its ∧ xs.length ≤ sizeLine ∧ ∀ {P : List Value → Shared → Prop} {A' : Around} {E' : Value → Shared → Prop}, P its { s with heap := (s.heap.push (seqObj "list" #[] 0)).update s.heap.objs.size (Obj.mapSeq (· ++ its.toArray)) } →
      wpAny (model X.prog X.w) A' (collect (.ref a)) P E' s := by
    rcases hq with hq | hq
    · obtain ⟨its, rv, hl, hz⟩ := I.list hq
      exact ⟨its, rv, hz, fun hP => collect_list hl.isList hP (by rw [← rv.length]; exact hz)⟩
    · obtain ⟨its, rv, hl, hz⟩ := I.tuple hq
      obtain ⟨o, h1, h2, n, h3⟩ := hl
      exact ⟨its, rv, hz, fun hP => gather_tup ⟨o, h1, h2, n, h3⟩ hP (by rw [← rv.length]; exact hz)⟩
  have hl := rv.length
  have hl2 := rs.length
  have er : PySem.W.EachIs (fun v b => ∃ as, Reads s.heap v (py b) as) its ds := each_reps rs rv fun d x u hd rd ru => Dp.reads I _ _ _ (Rep.dp sm.sub (plain_mem hp hd) rd) ru
  have e : PySem.W.EachIs (fun u d => ∃ x, Rep X.K F ι d x ∧ RelV x u) its ds := each_reps rs rv fun d x u _ rd ru => ⟨x, rd, ru⟩
  have er' : PySem.W.EachIs (fun v b => ∃ as, Reads (PySem.W.sortingHeap (PySem.W.copyHeap s.heap its) (s.heap.objs.size + 1) its) v (py b) as) its ds := er.mono fun _ _ ⟨as, r⟩ => ⟨as, PyProof.Rows.Reads.keeps (fun _ _ => PySem.W.sorting_copy_old) r⟩
  refine sort_any (by omega) hc fun E' => PySem.W.list_sort_vals (κ := PySem.W.dataKind (PySem.W.sortingHeap (PySem.W.copyHeap s.heap its) (s.heap.objs.size + 1) its) (ds.map py)) (s := { s with heap := PySem.W.copyHeap s.heap its }) (PySem.W.copyHeap_at s.heap its)
    (PySem.W.SortsAt.data (s := { s with heap := PySem.W.sortingHeap (PySem.W.copyHeap s.heap its) (s.heap.objs.size + 1) its }) (PySem.W.each_map (R := fun v d => ∃ as, Reads (PySem.W.sortingHeap (PySem.W.copyHeap s.heap its) (s.heap.objs.size + 1) its) v d as) py er') hal' (sortable hso) (PySem.W.bound_map fun b hb => ?_)) (by omega) ⟨rfl, ?_⟩
  · rw [py_dep b (plain_mem hp hb)]
    have := dep_le hb
    show X.A.units + 1 + 1 + dep b < cLine
    omega
  · have eo := PySem.W.sortVals_data (h' := PySem.W.sortingHeap (PySem.W.copyHeap s.heap its) (s.heap.objs.size + 1) its) false e er' hal'
    obtain ⟨ys, ry, vy⟩ := each_back eo
    generalize PySem.W.sortVals (PySem.W.dataKind (PySem.W.sortingHeap (PySem.W.copyHeap s.heap its) (s.heap.objs.size + 1) its) (ds.map py)) false its its = out at vy eo ⊢
    obtain ⟨ep, he'⟩ := PyProof.Rows.sortedAll_at s.heap its out.toArray
    have hlen : ys.length ≤ sizeLine := by
      rw [ry.length, List.length_mergeSort]; omega
    exact ⟨.ref _, upd H (s.heap.objs.size + 1) (.lst ys), I.laid (t' := s.toks) (fun _ _ => PyProof.Rows.sortedAll_old) (Nat.le_succ _) ⟨hlen, out, ep, vy, he'⟩, rfl, q ys _ (I.hok.fresh (Nat.le_succ _)) ry⟩
end
end Cs

/-! Comparisons, truth, items by values. -/
namespace Cs
open PySem L2 PySem.Spec
section
variable {X : Cx} {c : SC} {W : EW} {a b e : Expr} {fa fb f : FE} {pos : Pos}
theorem one_sign {s : Str} {k : Nat} (h : s.cps.toList = [k]) : s = ⟨#[k]⟩ := by
  obtain ⟨⟨l⟩⟩ := s
  simp at h
  rw [h]
def isBlD : D → Bool → Bool
  | .bl i, j => i == j
  | _, _ => false
theorem is_bool {K : PySem.W.Frag} {F : Hp} {ι : List Addr} {a : D} {x : V} {v : Value} {j : Bool} (ra : Rep K F ι a x) (rx : RelV x v) :
    plainIs v (.bool j) = true ∧ (v == Value.bool j) = isBlD a j := by
  cases a with
  | non => cases ra.nonE; cases rx; exact ⟨rfl, rfl⟩
  | bl i =>
    cases ra.blE; cases rx
    refine ⟨rfl, ?_⟩
    show (Value.bool i == Value.bool j) = (i == j)
    cases i <;> cases j <;> rfl
  | int i => cases ra.intE; obtain ⟨t, rfl⟩ := rx; exact ⟨rfl, rfl⟩
  | str i => cases ra.strE; obtain ⟨t, rfl⟩ := rx; exact ⟨rfl, rfl⟩
  | tup ds => obtain ⟨p, _, rfl, _⟩ := ra.tupE; cases rx; exact ⟨rfl, rfl⟩
  | lst ds => obtain ⟨p, _, rfl, _⟩ := ra.lstE; cases rx; exact ⟨rfl, rfl⟩
  | dct ks ws => simp only [Rep] at ra; obtain ⟨p, rfl, _⟩ := ra; cases rx; exact ⟨rfl, rfl⟩
  | ref n => obtain ⟨p, rfl, _⟩ := ra.refE; cases rx; exact ⟨rfl, rfl⟩
  | scr ds => obtain ⟨p, _, rfl, _⟩ := ra.scrE; cases rx; exact ⟨rfl, rfl⟩
theorem opr_cmp (C : Ctx X c W) (op : CmpOp) : OpR X (compareOp op) (r2 X.K (RV X.K) (fun a b m => (cmpD op a b m).map .bl)) := by
  have hu := C.hu
  intro pins s σ H x y v u Q I rx ry h
  obtain ⟨F, ι, m, a, b, d, sm, ra, rb, e, q⟩ := h
  obtain ⟨k, e1, e2⟩ := Option.map_eq_some_iff.mp e
  subst e2
  have now : Q (.bl k) H := q (.bl k) F ι H (Ext.refl F ι H) sm (Rep.blI (K := X.K) (F := F) (ι := ι))
  have fin : ∀ {s'}, L2.Inv X pins σ H s' → EP X pins σ Q (.bool k) s' := fun I' => ⟨.bl k, H, I', rfl, now⟩
  clear q e
  -- == and !=
  have eqv : ∀ {x y : V} {v u : Value}, RelV x v → RelV y u → Rep X.K F ι a x → Rep X.K F ι b y → (plain (res m a) && plain (res m b) && decide (min (dep (res m a)) (dep (res m b)) ≤ 150)) = true → ∃ da db as bs, Reads s.heap v da as ∧ Reads s.heap u db bs ∧ da.plain = true ∧ db.plain = true ∧ X.A.units + min da.depth db.depth < cLine ∧ PyData.eqv da db = eqD (res m a) (res m b) := by
    intro x y v u rx ry ra rb ok
    simp only [Bool.and_eq_true, decide_eq_true_eq] at ok
    obtain ⟨⟨p1, p2⟩, p3⟩ := ok
    obtain ⟨as, r1⟩ := Dp.reads I _ x v (ra.dpR sm p1) rx
    obtain ⟨bs, r2⟩ := Dp.reads I _ y u (rb.dpR sm p2) ry
    exact ⟨_, _, as, bs, r1, r2, py_plain _ p1, py_plain _ p2, by rw [py_dep _ p1, py_dep _ p2]; omega, py_eqv _ _ p1 p2⟩
  have inl : ∀ ds : List D, plain a = true → plainL ds = true → min (depL ds) (dep a) ≤ 150 → ∃ as, (∃ bs, Reads s.heap v (py a) bs) ∧ PyData.plainAll (pyL ds) = true ∧ (py a).plain = true ∧ X.A.units + 1 + min (PyData.depthAll (pyL ds)) (py a).depth < cLine ∧ as = () := by
    intro ds p1 p2 p3
    obtain ⟨bs, r1⟩ := Dp.reads I _ x v (Rep.dp sm.sub p1 ra) rx
    exact ⟨(), ⟨bs, r1⟩, pyL_plain _ p2, py_plain _ p1, by rw [pyL_dep _ p2, py_dep _ p1]; omega, rfl⟩
  have l0 : lst0 (res m a) (res m b) = true → ∃ p b' d ds, res m a = .lst (d :: ds) ∧ res m b = .lst [] ∧ v = .ref p ∧ u = .ref b' ∧ ∃ its its2 : Array Value, s.heap.IsList p its ∧ s.heap.IsList b' its2 ∧ (its.size != its2.size) = true := by
    intro h
    unfold lst0 at h
    split at h
    · rename_i d ds e1 e2
      obtain ⟨p, vs, rfl, q1, r1⟩ := ra.isLst sm e1
      obtain ⟨p2, vs2, rfl, q2, r2⟩ := rb.isLst sm e2
      obtain ⟨its, rv, pl, _⟩ := I.list q1
      obtain ⟨its2, rv2, pl2, _⟩ := I.list q2
      refine ⟨p, p2, d, ds, e1, e2, rx, ry, its.toArray, its2.toArray, pl.isList, pl2.isList, ?_⟩
      have l1 := rv.length
      have l2 := rv2.length
      have l3 := r1.length
      have l4 := r2.length
      simp only [List.length_cons, List.length_nil] at l3 l4
      rw [List.size_toArray, List.size_toArray, bne_iff_ne]
      omega
    · cases h
  cases op with
  | Eq =>
    simp only [cmpD] at e1
    split at e1
    · rename_i ok
      unfold eqOk at ok
      rw [Bool.or_eq_true] at ok
      rcases ok with ok | ok
      case inr =>
        obtain ⟨p, b', d, ds, ea, eb, rfl, rfl, its, its2, h1, h2, h3⟩ := l0 ok
        rw [ea, eb] at e1
        simp only [eqD, eqL, Option.some.injEq] at e1
        subst e1
        exact (SeqAt.RcAt.lists_lengths h1 h2 h3 (by omega)) _ _ _ _ (fin I)
      obtain ⟨da, db, as, bs, r1, r2, p1, p2, hr, ev⟩ := eqv rx ry ra rb ok
      refine SeqAt.eq_plain r1 r2 p1 p2 hr ?_
      rw [ev, Option.some.inj e1]
      exact fin I
    · cases e1
  | NotEq =>
    simp only [cmpD] at e1
    split at e1
    · rename_i ok
      unfold eqOk at ok
      rw [Bool.or_eq_true] at ok
      rcases ok with ok | ok
      case inr =>
        obtain ⟨p, b', d, ds, ea, eb, rfl, rfl, its, its2, h1, h2, h3⟩ := l0 ok
        rw [ea, eb] at e1
        simp only [eqD, eqL, Bool.not_false, Option.some.injEq] at e1
        subst e1
        exact (SeqAt.RcNeAt.lists_lengths h1 h2 h3 (by omega)) _ _ _ _ (fin I)
      obtain ⟨da, db, as, bs, r1, r2, p1, p2, hr, ev⟩ := eqv rx ry ra rb ok
      refine SeqAt.ne_plain r1 r2 p1 p2 hr ?_
      rw [ev, Option.some.inj e1]
      exact fin I
    · cases e1
  | Lt =>
    simp only [cmpD] at e1
    split at e1
    · cases e1; exact op_lt pins s σ H x y v u Q I rx ry ⟨_, _, ra.intE, rb.intE, now⟩
    · cases e1; exact op_lt_str pins s σ H x y v u Q I rx ry ⟨_, _, ra.strE, rb.strE, now⟩
    · cases e1
  | LtE =>
    simp only [cmpD] at e1
    split at e1
    · cases e1; exact op_le pins s σ H x y v u Q I rx ry ⟨_, _, ra.intE, rb.intE, now⟩
    · cases e1; exact op_le_str pins s σ H x y v u Q I rx ry ⟨_, _, ra.strE, rb.strE, now⟩
    · cases e1
  | Gt =>
    simp only [cmpD] at e1
    split at e1
    · cases e1; exact op_gt pins s σ H x y v u Q I rx ry ⟨_, _, ra.intE, rb.intE, now⟩
    · cases e1; exact op_gt_str pins s σ H x y v u Q I rx ry ⟨_, _, ra.strE, rb.strE, now⟩
    · cases e1
  | GtE =>
    simp only [cmpD] at e1
    split at e1
    · cases e1; exact op_ge pins s σ H x y v u Q I rx ry ⟨_, _, ra.intE, rb.intE, now⟩
    · cases e1; exact op_ge_str pins s σ H x y v u Q I rx ry ⟨_, _, ra.strE, rb.strE, now⟩
    · cases e1
  | Is =>
    simp only [cmpD] at e1
    split at e1
    · have ey := rb.nonE
      subst ey
      refine op_isN pins s σ H x .non v u Q I rx ry ⟨rfl, ?_⟩
      have : decide (x = .non) = k := by
        have e1 := Option.some.inj e1
        subst e1
        cases a <;> simp [Rep] at ra <;> first | (rw [ra]; rfl) | (obtain ⟨p, rfl, _⟩ := ra; rfl) | (obtain ⟨p, _, rfl, _⟩ := ra; rfl) | skip
        all_goals (obtain ⟨p, h, _⟩ := ra; rw [h]; rfl)
      rw [this]; exact now
    · rename_i j
      have ey := rb.blE
      subst ey
      cases (show u = Value.bool j from ry)
      obtain ⟨p1, p2⟩ := is_bool (j := j) ra rx
      refine wpAny_is_plain p1 ?_
      rw [p2]
      have : isBlD a j = k := by
        clear eqv inl ra p2
        cases a <;> simpa [isBlD] using e1
      rw [this]
      exact fin I
    · cases e1
  | IsNot =>
    simp only [cmpD] at e1
    split at e1
    · have ey := rb.nonE
      subst ey
      refine op_notN pins s σ H x .non v u Q I rx ry ⟨rfl, ?_⟩
      have : (!decide (x = .non)) = k := by
        have e1 := Option.some.inj e1
        subst e1
        cases a <;> simp [Rep] at ra <;> first | (rw [ra]; rfl) | (obtain ⟨p, rfl, _⟩ := ra; rfl) | (obtain ⟨p, _, rfl, _⟩ := ra; rfl) | skip
        all_goals (obtain ⟨p, h, _⟩ := ra; rw [h]; rfl)
      rw [this]; exact now
    · rename_i j
      have ey := rb.blE
      subst ey
      cases (show u = Value.bool j from ry)
      obtain ⟨p1, p2⟩ := is_bool (j := j) ra rx
      refine wpAny_isNot_plain p1 ?_
      rw [p2]
      have : (!isBlD a j) = k := by
        clear eqv inl ra p2
        cases a <;> simpa [isBlD] using e1
      rw [this]
      exact fin I
    · cases e1
  | In =>
    simp only [cmpD, inD] at e1
    split at e1
    · rename_i ds e3
      split at e1
      · rename_i ok
        cases e1
        simp only [Bool.and_eq_true, decide_eq_true_eq] at ok
        obtain ⟨_, ⟨bs, r1⟩, h1, h2, h3, _⟩ := inl ds ok.1.1 ok.1.2 ok.2
        have pb : plain (res m b) = true := by rw [e3]; simp only [plain]; exact ok.1.2
        obtain ⟨as, r2⟩ := Dp.reads I _ y u (rb.dpR sm pb) ry
        rw [e3, py] at r2
        refine SeqAt.in_list_data r2 r1 h1 h2 h3 ?_
        rw [pyL_any a ok.1.1 ds ok.1.2]
        exact fin I
      · cases e1
    · rename_i ds e3
      split at e1
      · rename_i ok
        cases e1
        simp only [Bool.and_eq_true, decide_eq_true_eq] at ok
        obtain ⟨_, ⟨bs, r1⟩, h1, h2, h3, _⟩ := inl ds ok.1.1 ok.1.2 ok.2
        have pb : plain (res m b) = true := by rw [e3]; simp only [plain]; exact ok.1.2
        obtain ⟨as, r2⟩ := Dp.reads I _ y u (rb.dpR sm pb) ry
        rw [e3, py] at r2
        refine SeqAt.in_tuple_data r2 r1 h1 h2 h3 ?_
        rw [pyL_any a ok.1.1 ds ok.1.2]
        exact fin I
      · cases e1
    · rename_i z e3
      split at e1
      · rename_i t
        split at e1
        · rename_i g e4
          cases e1
          exact op_in_sign pins s σ H x y v u Q I rx ry ⟨g, z, by rw [ra.strE, one_sign e4], rb.isStr e3, now⟩
        · cases e1
      · cases e1
    · rename_i ks ws e3
      split at e1
      · rename_i ok
        cases e1
        obtain ⟨p, H', o, rfl, I', g, back, mt⟩ := dget I sm rb e3 ok ra
        cases (show u = Value.ref p from ry)
        refine d_in (by omega) I' g rx fun s3 I3 => ?_
        have : o.isSome = (getK ks ws a).isSome := by
          cases z : getK ks ws a <;> cases z2 : o <;> simp [z, z2] at mt ⊢
        rw [this]
        exact fin (back _ I3)
      · cases e1
    · cases e1
  | NotIn =>
    simp only [cmpD, inD] at e1
    split at e1
    · rename_i ds e3
      split at e1
      · rename_i ok
        cases e1
        simp only [Bool.and_eq_true, decide_eq_true_eq] at ok
        obtain ⟨_, ⟨bs, r1⟩, h1, h2, h3, _⟩ := inl ds ok.1.1 ok.1.2 ok.2
        have pb : plain (res m b) = true := by rw [e3]; simp only [plain]; exact ok.1.2
        obtain ⟨as, r2⟩ := Dp.reads I _ y u (rb.dpR sm pb) ry
        rw [e3, py] at r2
        refine SeqAt.notIn_list_data r2 r1 h1 h2 h3 ?_
        rw [pyL_any a ok.1.1 ds ok.1.2]
        exact fin I
      · cases e1
    · rename_i ds e3
      split at e1
      · rename_i ok
        cases e1
        simp only [Bool.and_eq_true, decide_eq_true_eq] at ok
        obtain ⟨_, ⟨bs, r1⟩, h1, h2, h3, _⟩ := inl ds ok.1.1 ok.1.2 ok.2
        have pb : plain (res m b) = true := by rw [e3]; simp only [plain]; exact ok.1.2
        obtain ⟨as, r2⟩ := Dp.reads I _ y u (rb.dpR sm pb) ry
        rw [e3, py] at r2
        refine SeqAt.notIn_tuple_data r2 r1 h1 h2 h3 ?_
        rw [pyL_any a ok.1.1 ds ok.1.2]
        exact fin I
      · cases e1
    · rename_i z e3
      split at e1
      · rename_i t
        split at e1
        · rename_i g e4
          cases e1
          exact op_notIn_sign pins s σ H x y v u Q I rx ry ⟨g, z, by rw [ra.strE, one_sign e4], rb.isStr e3, now⟩
        · cases e1
      · cases e1
    · rename_i ks ws e3
      split at e1
      · rename_i ok
        cases e1
        obtain ⟨p, H', o, rfl, I', g, back, mt⟩ := dget I sm rb e3 ok ra
        cases (show u = Value.ref p from ry)
        refine d_notIn (by omega) I' g rx fun s3 I3 => ?_
        have : o.isSome = (getK ks ws a).isSome := by
          cases z : getK ks ws a <;> cases z2 : o <;> simp [z, z2] at mt ⊢
        rw [this]
        exact fin (back _ I3)
      · cases e1
    · cases e1
end
end Cs

/-! Expressions: comparisons, truth, displays, items. -/
namespace Cs
open PySem L2 PySem.Spec
section
variable {X : Cx} {c : SC} {W : EW} {a b e : Expr} {fa fb f : FE} {pos : Pos} {K : PySem.W.Frag} {F : Hp} {ι : List Addr} {H : Hp} {m : Mem} {σ : L2.St}
theorem noSet_marks {op : CmpOp} (h : noSet b = true) : behindInMarks op b = false := by
  cases b <;> first | rfl | (simp [noSet] at h)
theorem noSet_last : ∀ {ops : List CmpOp} {bs : List Expr}, bs.all noSet = true → lastMarks ops bs = false
  | [], [], _ => by rfl
  | [], _ :: _, _ => by rfl
  | [op], [], _ => by rfl
  | _ :: _ :: _, [], _ => by rfl
  | [op], [b], h => by
    have hb : noSet b = true := by simpa using h
    exact noSet_marks hb
  | [op], _ :: _ :: _, h => by rfl
  | op :: op' :: ops, [b], h => by cases ops <;> rfl
  | op :: op' :: ops, b :: b' :: bs, h => by
    have ih := noSet_last (ops := op' :: ops) (bs := b' :: bs) (by
      rw [List.all_cons, Bool.and_eq_true] at h
      exact h.2)
    exact ih
theorem d_cmp (C : Ctx X c W) {op : CmpOp} (hs : noSet b = true) (ha : PE X a (TV X W fa)) (hb : PE X b (TV X W fb)) : PE X (.Compare a [op] [b] pos) (TV X W (fCmp op fa fb)) :=
  PE.weak (pe_cmpR (opr_cmp C op) ha hb (noSet_marks hs)) fun σ H Q h => T2 RV.down h
/-- a test that is a comparison -/
theorem trD_bl (k : Bool) : trD m (.bl k) = some k := rfl
theorem evalEach_map (env : PySem.Env) : ∀ bs : List Expr, evalEach bs env = bs.map fun b => eval b env
  | [] => rfl
  | b :: r => by show eval b env :: evalEach r env = _; rw [evalEach_map env r]; rfl
open PyProof.Rows in
/-- the rest of a chain -/
theorem chain_ok (C : Ctx X c W) {pins : List (Addr × Obj)} : ∀ (l : List (CmpOp × Expr × FE)), (∀ p ∈ l, PE X p.2.1 (TV X W p.2.2)) → ∀ {s : Shared} {H : Hp} {F : Hp} {ι : List Addr} {m : Mem} {en : Sto} {Q : VK} {d : D} {x : V} {v : Value},
    L2.Inv X pins σ H s → Sim X.K F ι en m σ H → Rep X.K F ι d x → RelV x v → Out X.K W (RV X.K) F ι σ H (cmpGo d (l.map fun p => (p.1, p.2.2)) en m) Q → 
    wpAny (model X.prog X.w) X.A (compareChain pos v (l.map (·.1)) (l.map fun p => eval p.2.1 X.env)) (EP X pins σ Q) X.xe s
  | [], _, s, H, F, ι, m, en, Q, d, x, v, I, sm, r, rx, o => False.elim o
  | [p], hp, s, H, F, ι, m, en, Q, d, x, v, I, sm, r, rx, o => by
    refine chain_last ?_
    have o : Out X.K W (RV X.K) F ι σ H (bnd (p.2.2 en m) fun b m => ofO m ((cmpD p.1 d b m).map .bl)) Q := o
    have t := Obnd (R := RV X.K) RV.down sm o (P := fun y H1 => r2 X.K (RV X.K) (fun a b m => (cmpD p.1 a b m).map .bl) x y H1 Q) fun y F1 ι1 H1 m1 b s1 rb x1 o1 => by
      obtain ⟨z, e1, q⟩ := ofO_out o1
      exact ⟨F1, ι1, m1, d, b, z, s1.mem, r.ext x1, rb, e1, q⟩
    exact thn ((hp p (by simp)).run pins s σ H _ I t) fun u s2 ⟨y, H2, I2, ry, q⟩ => opr_cmp C p.1 pins s2 σ H2 x y v u Q I2 rx ry q
  | p :: q :: l, hp, s, H, F, ι, m, en, Q, d, x, v, I, sm, r, rx, o => by
    refine chain_link ?_
    have o : Out X.K W (RV X.K) F ι σ H (bnd (p.2.2 en m) fun b m => match cmpD p.1 d b m with
      | some true => cmpGo b ((q :: l).map fun p => (p.1, p.2.2)) en m
      | some false => .ok (.bl false) m
      | none => .bad) Q := o
    -- what is behind the second value
    let P : VK := fun y H1 => ∃ F1 ι1 m1 b k, Sim X.K F1 ι1 en m1 σ H1 ∧ Rep X.K F1 ι1 d x ∧ Rep X.K F1 ι1 b y ∧ cmpD p.1 d b m1 = some k ∧ Out X.K W (RV X.K) F1 ι1 σ H1 (if k = true then cmpGo b ((q :: l).map fun p => (p.1, p.2.2)) en m1 else .ok (.bl false) m1) Q
    have t := Obnd (R := RV X.K) RV.down sm o (P := P) fun y F1 ι1 H1 m1 b s1 rb x1 o1 => by
      cases z : cmpD p.1 d b m1 with
      | none => rw [z] at o1; exact False.elim o1
      | some k =>
        rw [z] at o1
        refine ⟨F1, ι1, m1, b, k, s1, r.ext x1, rb, z, ?_⟩
        cases k with
        | true => simpa using o1
        | false => simpa using o1
    refine thn ((hp p (by simp)).run pins s σ H _ I t) fun u s2 ⟨y, H2, I2, ry, F1, ι1, m1, b, k, s1, rd, rb, z, o1⟩ => ?_
    have rr : r2 X.K (RV X.K) (fun a b m => (cmpD p.1 a b m).map .bl) x y H2 (fun w H3 => w = .bl k ∧ ∃ F3 ι3, Sim X.K F3 ι3 en m1 σ H3 ∧ Rep X.K F3 ι3 b y ∧ Out X.K W (RV X.K) F3 ι3 σ H3 (if k = true then cmpGo b ((q :: l).map fun p => (p.1, p.2.2)) en m1 else .ok (.bl false) m1) Q) := by
      refine ⟨F1, ι1, m1, d, b, .bl k, s1.mem, rd, rb, by show (cmpD p.1 d b m1).map D.bl = _; rw [z]; rfl, fun w F' ι' H' x' s' rw' => ⟨Rep.blE rw', F', ι', s1.ext x' s', rb.ext x', o1.shift x' RV.down⟩⟩
    refine thn (opr_cmp C p.1 pins s2 σ H2 x y v u _ I2 rx ry rr) fun w s3 ⟨z3, H3, I3, r3, e3, F3, ι3, s4, rb3, o3⟩ => ?_
    subst e3
    cases r3
    refine wpAny_truthy_bool ?_
    cases k with
    | true =>
      rw [if_pos rfl] at o3 ⊢
      exact chain_ok C (q :: l) (fun p hp' => hp p (List.mem_cons_of_mem _ hp')) I3 s4 rb3 ry o3
    | false =>
      rw [if_neg (by decide)] at o3 ⊢
      exact ⟨.bl false, H3, I3, rfl, o3.now s4.mem Rep.blI⟩
open PyProof.Rows in
theorem d_cmpN (C : Ctx X c W) {l : List (CmpOp × Expr × FE)} (h2 : 2 ≤ l.length) (hs : (l.map (·.2.1)).all noSet = true) (ha : PE X a (TV X W fa)) (hl : ∀ p ∈ l, PE X p.2.1 (TV X W p.2.2)) :
    PE X (.Compare a (l.map (·.1)) (l.map (·.2.1)) pos) (TV X W (fCmpN fa (l.map fun p => (p.1, p.2.2)))) := by
  match l, h2 with
  | p :: q :: l, _ =>
    refine ⟨fun pins s σ H Q I ⟨F, ι, m, en, sm, o⟩ => ?_⟩
    refine Compare_chain ?_ (noSet_last hs)
    have t := Obnd (R := RV X.K) RV.down sm o (P := fun x H1 => ∃ F1 ι1 m1 d, Sim X.K F1 ι1 en m1 σ H1 ∧ Rep X.K F1 ι1 d x ∧ Out X.K W (RV X.K) F1 ι1 σ H1 (cmpGo d ((p :: q :: l).map fun p => (p.1, p.2.2)) en m1) Q) fun x F1 ι1 H1 m1 d s1 r x1 o1 => ⟨F1, ι1, m1, d, s1, r, o1⟩
    refine thn (ha.run pins s σ H _ I t) fun v s1 ⟨x, H1, I1, rx, F1, ι1, m1, d, sm1, r, o1⟩ => ?_
    have := chain_ok (pos := pos) C (p :: q :: l) hl I1 sm1 r rx o1
    rw [evalEach_map]
    simpa [Function.comp_def] using this

/-! ### truth -/
theorem truV (s : SimM K F ι m H) {d : D} {x : V} {k : Bool} (r : Rep K F ι d x) (h : trD m d = some k) : TruV K x H k := by
  unfold trD at h
  split at h
  · rename_i e
    have : x = .non := by
      cases d with
      | non => exact r.nonE
      | ref n => rw [res_ref] at e; split at e <;> cases e
      | _ => simp [res] at e
    subst this
    exact (Option.some.inj h).symm
  · rename_i b e
    have : x = .bl b := by
      cases d with
      | bl j =>
        have e : j = b := by simpa [res] using e
        subst e; exact r.blE
      | ref n => rw [res_ref] at e; split at e <;> cases e
      | _ => simp [res] at e
    subst this
    exact (Option.some.inj h).symm
  · rename_i i e
    rw [r.isInt e]
    exact (Option.some.inj h).symm
  · rename_i i e
    rw [r.isStr e]
    split at h
    · exact ⟨by assumption, (Option.some.inj h).symm⟩
    · cases h
  · rename_i ds e
    obtain ⟨p, vs, rfl, q, rs⟩ := r.isLst s e
    refine .inl ⟨vs, q, ?_⟩
    rw [← Option.some.inj h]
    have := rs.length
    cases ds <;> cases vs <;> simp at this ⊢
  · rename_i ds e
    obtain ⟨p, vs, rfl, q, rs, _⟩ := r.isTup s e
    refine .inr (.inl ⟨vs, q, ?_⟩)
    rw [← Option.some.inj h]
    have := rs.length
    cases ds <;> cases vs <;> simp at this ⊢
  · cases h
/-- a value, then its truth -/
theorem Ttr {f : FE} {k : V → Hp → Prop} {Q : Bool → Hp → Prop} {en : Sto} (s : Sim K F ι en m σ H) (o : Out K W RB F ι σ H (fTr f en m) Q) : T K W (RV K) f σ H fun x H1 => ∃ k, TruV K x H1 k ∧ Q k H1 := by
  refine Obnd RB.down s o fun x F1 ι1 H1 m1 a s1 r x1 o1 => ?_
  cases z : trD m1 a with
  | none => rw [z] at o1; exact False.elim o1
  | some k =>
    rw [z] at o1
    exact ⟨k, truV s1.mem r z, o1.now s1.mem rfl⟩
theorem d_tr (ha : PE X a (TV X W fa)) (he : ∀ whole, isTrue a X.env whole = (do let v ← whole; standAt a.pos; holding [v] (truthy v))) : PT X a (TBl X W (fTr fa)) :=
  PT.weak (pt_truth ha he) fun σ H Q ⟨F, ι, m, en, s, o⟩ => Ttr (k := fun _ _ => True) s o
theorem d_notV (ha : PE X a (TV X W fa)) : PE X (.UnaryOp .Not a pos) (TV X W (fNotV fa)) := by
  refine PE.weak (pe_notT ha) fun σ H Q ⟨F, ι, m, en, s, o⟩ => ?_
  refine Obnd (f := fa) (Q := Q) (R' := RV X.K) (g := fun a m => match trD m a with | some b => .ok (.bl !b) m | none => .bad) RV.down s ?_ fun x F1 ι1 H1 m1 d s1 r x1 o1 => ?_
  · have o : Out X.K W (RV X.K) F ι σ H (bnd (fTr fa en m) fun b m => .ok (.bl !b) m) Q := o
    unfold fTr at o
    cases z : fa en m with
    | ok d m1 =>
      rw [z] at o
      simp only [bnd] at o ⊢
      cases z2 : trD m1 d <;> rw [z2] at o <;> exact o
    | exc y m1 => rw [z] at o; exact o
    | bad => rw [z] at o; exact o
  · cases z : trD m1 d with
    | none => rw [z] at o1; exact False.elim o1
    | some k =>
      rw [z] at o1
      exact ⟨k, truV s1.mem r z, o1.now s1.mem Rep.blI⟩
theorem d_andV {rest : List Expr} (ha : PE X a (TV X W fa)) (hb : PE X (.BoolOp .And (b :: rest) pos) (TV X W fb)) : PE X (.BoolOp .And (a :: b :: rest) pos) (TV X W (fAndV fa fb)) := by
  refine PE.weak (pe_andT ha hb) fun σ H Q ⟨F, ι, m, en, s, o⟩ => ?_
  refine Obnd RV.down s o fun x F1 ι1 H1 m1 d s1 r x1 o1 => ?_
  cases z : trD m1 d with
  | none => rw [z] at o1; exact False.elim o1
  | some k =>
    rw [z] at o1
    refine ⟨k, truV s1.mem r z, ?_⟩
    cases k with
    | true => exact ⟨F1, ι1, m1, en, s1, o1⟩
    | false => exact o1.now s1.mem r
theorem d_orV {rest : List Expr} (ha : PE X a (TV X W fa)) (hb : PE X (.BoolOp .Or (b :: rest) pos) (TV X W fb)) : PE X (.BoolOp .Or (a :: b :: rest) pos) (TV X W (fOrV fa fb)) := by
  refine PE.weak (pe_orT ha hb) fun σ H Q ⟨F, ι, m, en, s, o⟩ => ?_
  refine Obnd RV.down s o fun x F1 ι1 H1 m1 d s1 r x1 o1 => ?_
  cases z : trD m1 d with
  | none => rw [z] at o1; exact False.elim o1
  | some k =>
    rw [z] at o1
    refine ⟨k, truV s1.mem r z, ?_⟩
    cases k with
    | true => exact o1.now s1.mem r
    | false => exact ⟨F1, ι1, m1, en, s1, o1⟩
theorem d_one {op : BoolOp} (ha : PE X a (TV X W fa)) : PE X (.BoolOp op [a] pos) (TV X W fa) := pe_one ha
theorem d_boolA (f : Expr → FE) : ∀ vs : List Expr, (∀ v ∈ vs, PE X v (TV X W (f v))) → PE X (.BoolOp .And vs pos) (TV X W (boolX fAndV f vs))
  | [], _ => d_bad
  | [a], h => d_one (h a (by simp))
  | a :: b :: r, h => d_andV (h a (by simp)) (d_boolA f (b :: r) fun v hv => h v (List.mem_cons_of_mem _ hv))
theorem d_boolO (f : Expr → FE) : ∀ vs : List Expr, (∀ v ∈ vs, PE X v (TV X W (f v))) → PE X (.BoolOp .Or vs pos) (TV X W (boolX fOrV f vs))
  | [], _ => d_bad
  | [a], h => d_one (h a (by simp))
  | a :: b :: r, h => d_orV (h a (by simp)) (d_boolO f (b :: r) fun v hv => h v (List.mem_cons_of_mem _ hv))

/-! ### tests -/
theorem t_bad : PT X e (TBl X W fun _ _ => .bad) := ⟨fun _ _ _ _ _ _ ⟨_, _, _, _, _, o⟩ => False.elim o⟩
/-- a bool's value as a test's answer -/
theorem tst_cmp1 (C : Ctx X c W) {op : CmpOp} (hs : noSet b = true) (ha : PE X a (TV X W fa)) (hb : PE X b (TV X W fb)) : PT X (.Compare a [op] [b] pos) (TBl X W (fTr (fCmp op fa fb))) := by
  refine PT.weak (pt_cmpR (opr_cmp C op) ha hb (noSet_marks hs)) fun σ H Q ⟨F, ι, m, en, s, o⟩ => ?_
  refine T2 RV.down ⟨F, ι, m, en, s, ?_⟩
  have o : Out X.K W RB F ι σ H (bnd (fCmp op fa fb en m) fun a m => match trD m a with | some b => .ok b m | none => .bad) Q := o
  show Out X.K W (RV X.K) F ι σ H (fCmp op fa fb en m) _
  cases z : fCmp op fa fb en m with
  | bad => rw [z] at o; exact o
  | exc y m1 => rw [z] at o; exact o
  | ok d m1 =>
    rw [z] at o
    -- the value is a bool
    have hd : ∃ k, d = .bl k := by
      unfold fCmp f2 at z
      cases z1 : fa en m with
      | bad => rw [z1] at z; cases z
      | exc _ _ => rw [z1] at z; cases z
      | ok a1 m2 =>
        rw [z1] at z
        simp only [bnd] at z
        cases z2 : fb en m2 with
        | bad => rw [z2] at z; cases z
        | exc _ _ => rw [z2] at z; cases z
        | ok b1 m3 =>
          rw [z2] at z
          simp only [ofO] at z
          cases z3 : cmpD op a1 b1 m3 with
          | none => rw [z3] at z; cases z
          | some k => rw [z3] at z; cases z; exact ⟨k, rfl⟩
    obtain ⟨k, rfl⟩ := hd
    exact fun v F' ι' H' x sm r => ⟨k, Rep.blE r, o k F' ι' H' x sm rfl⟩
open PyProof.Rows in
/-- the rest of a chain that is a test -/
theorem tchain_ok (C : Ctx X c W) {pins : List (Addr × Obj)} : ∀ (l : List (CmpOp × Expr × FE)), (∀ p ∈ l, PE X p.2.1 (TV X W p.2.2)) → ∀ {s : Shared} {H : Hp} {F : Hp} {ι : List Addr} {m : Mem} {en : Sto} {Q : Bool → Hp → Prop} {d : D} {x : V} {v : Value},
    L2.Inv X pins σ H s → Sim X.K F ι en m σ H → Rep X.K F ι d x → RelV x v → Out X.K W RB F ι σ H (bnd (cmpGo d (l.map fun p => (p.1, p.2.2)) en m) fun a m => match trD m a with | some b => .ok b m | none => .bad) Q → 
    wpAny (model X.prog X.w) X.A (testChain pos v (l.map (·.1)) (l.map fun p => eval p.2.1 X.env)) (TP X pins σ Q) X.xe s
  | [], _, s, H, F, ι, m, en, Q, d, x, v, I, sm, r, rx, o => False.elim o
  | [p], hp, s, H, F, ι, m, en, Q, d, x, v, I, sm, r, rx, o => by
    refine test_last ?_
    have o : Out X.K W RB F ι σ H (bnd (p.2.2 en m) fun b m => match cmpD p.1 d b m with | some k => .ok k m | none => .bad) Q := by
      have o : Out X.K W RB F ι σ H (bnd (bnd (p.2.2 en m) fun b m => ofO m ((cmpD p.1 d b m).map .bl)) fun a m => match trD m a with | some b => .ok b m | none => .bad) Q := o
      cases z : p.2.2 en m with
      | ok b m1 =>
        rw [z] at o
        simp only [bnd] at o ⊢
        cases z2 : cmpD p.1 d b m1 <;> rw [z2] at o <;> exact o
      | exc y m1 => rw [z] at o; exact o
      | bad => rw [z] at o; exact o
    have t := Obnd (R := RV X.K) RB.down sm o (P := fun y H1 => r2 X.K (RV X.K) (fun a b m => (cmpD p.1 a b m).map .bl) x y H1 (fun z H2 => ∃ k, z = .bl k ∧ Q k H2)) fun y F1 ι1 H1 m1 b s1 rb x1 o1 => by
      cases z : cmpD p.1 d b m1 with
      | none => rw [z] at o1; exact False.elim o1
      | some k =>
        rw [z] at o1
        exact ⟨F1, ι1, m1, d, b, .bl k, s1.mem, r.ext x1, rb, by show (cmpD p.1 d b m1).map D.bl = _; rw [z]; rfl, fun w F' ι' H' x' s' rw' => ⟨k, Rep.blE rw', o1.of x' s' rfl⟩⟩
    refine thn ((hp p (by simp)).run pins s σ H _ I t) fun u s2 ⟨y, H2, I2, ry, q⟩ => thn (opr_cmp C p.1 pins s2 σ H2 x y v u _ I2 rx ry q) fun w s3 ⟨z3, H3, I3, r3, k, e3, q3⟩ => ?_
    subst e3
    cases r3
    exact wpAny_truthy_bool ⟨H3, I3, q3⟩
  | p :: q :: l, hp, s, H, F, ι, m, en, Q, d, x, v, I, sm, r, rx, o => by
    refine test_link ?_
    have o : Out X.K W RB F ι σ H (bnd (p.2.2 en m) fun b m => match cmpD p.1 d b m with
      | some true => bnd (cmpGo b ((q :: l).map fun p => (p.1, p.2.2)) en m) fun a m => match trD m a with | some b => .ok b m | none => .bad
      | some false => .ok false m
      | none => .bad) Q := by
      have o : Out X.K W RB F ι σ H (bnd (bnd (p.2.2 en m) fun b m => match cmpD p.1 d b m with
        | some true => cmpGo b ((q :: l).map fun p => (p.1, p.2.2)) en m
        | some false => .ok (.bl false) m
        | none => .bad) fun a m => match trD m a with | some b => .ok b m | none => .bad) Q := o
      cases z : p.2.2 en m with
      | ok b m1 =>
        rw [z] at o
        simp only [bnd] at o ⊢
        cases z2 : cmpD p.1 d b m1 with
        | none => rw [z2] at o; exact o
        | some k => rw [z2] at o; cases k <;> exact o
      | exc y m1 => rw [z] at o; exact o
      | bad => rw [z] at o; exact o
    let P : VK := fun y H1 => ∃ F1 ι1 m1 b k, Sim X.K F1 ι1 en m1 σ H1 ∧ Rep X.K F1 ι1 d x ∧ Rep X.K F1 ι1 b y ∧ cmpD p.1 d b m1 = some k ∧ Out X.K W RB F1 ι1 σ H1 (if k = true then (bnd (cmpGo b ((q :: l).map fun p => (p.1, p.2.2)) en m1) fun a m => match trD m a with | some b => .ok b m | none => .bad) else .ok false m1) Q
    have t := Obnd (R := RV X.K) RB.down sm o (P := P) fun y F1 ι1 H1 m1 b s1 rb x1 o1 => by
      cases z : cmpD p.1 d b m1 with
      | none => rw [z] at o1; exact False.elim o1
      | some k =>
        rw [z] at o1
        refine ⟨F1, ι1, m1, b, k, s1, r.ext x1, rb, z, ?_⟩
        cases k with
        | true => simpa using o1
        | false => simpa using o1
    refine thn ((hp p (by simp)).run pins s σ H _ I t) fun u s2 ⟨y, H2, I2, ry, F1, ι1, m1, b, k, s1, rd, rb, z, o1⟩ => ?_
    have rr : r2 X.K (RV X.K) (fun a b m => (cmpD p.1 a b m).map .bl) x y H2 (fun w H3 => w = .bl k ∧ ∃ F3 ι3, Sim X.K F3 ι3 en m1 σ H3 ∧ Rep X.K F3 ι3 b y ∧ Out X.K W RB F3 ι3 σ H3 (if k = true then (bnd (cmpGo b ((q :: l).map fun p => (p.1, p.2.2)) en m1) fun a m => match trD m a with | some b => .ok b m | none => .bad) else .ok false m1) Q) := by
      refine ⟨F1, ι1, m1, d, b, .bl k, s1.mem, rd, rb, by show (cmpD p.1 d b m1).map D.bl = _; rw [z]; rfl, fun w F' ι' H' x' s' rw' => ⟨Rep.blE rw', F', ι', s1.ext x' s', rb.ext x', o1.shift x' RB.down⟩⟩
    refine thn (opr_cmp C p.1 pins s2 σ H2 x y v u _ I2 rx ry rr) fun w s3 ⟨z3, H3, I3, r3, e3, F3, ι3, s4, rb3, o3⟩ => ?_
    subst e3
    cases r3
    refine wpAny_truthy_bool ?_
    cases k with
    | true =>
      rw [if_pos rfl] at o3 ⊢
      exact tchain_ok C (q :: l) (fun p hp' => hp p (List.mem_cons_of_mem _ hp')) I3 s4 rb3 ry o3
    | false =>
      rw [if_neg (by decide)] at o3 ⊢
      exact ⟨H3, I3, o3.now s4.mem rfl⟩
open PyProof.Rows in
theorem tst_cmpN (C : Ctx X c W) {l : List (CmpOp × Expr × FE)} (h2 : 2 ≤ l.length) (hs : (l.map (·.2.1)).all noSet = true) (ha : PE X a (TV X W fa)) (hl : ∀ p ∈ l, PE X p.2.1 (TV X W p.2.2)) :
    PT X (.Compare a (l.map (·.1)) (l.map (·.2.1)) pos) (TBl X W (fTr (fCmpN fa (l.map fun p => (p.1, p.2.2))))) := by
  match l, h2 with
  | p :: q :: l, _ =>
    refine ⟨fun pins s σ H Q I ⟨F, ι, m, en, sm, o⟩ => ?_⟩
    refine isTrue_chain ?_ (noSet_last hs)
    have o : Out X.K W RB F ι σ H (bnd (fa en m) fun v m => bnd (cmpGo v ((p :: q :: l).map fun p => (p.1, p.2.2)) en m) fun a m => match trD m a with | some b => .ok b m | none => .bad) Q := by
      have o : Out X.K W RB F ι σ H (bnd (bnd (fa en m) fun v m => cmpGo v ((p :: q :: l).map fun p => (p.1, p.2.2)) en m) fun a m => match trD m a with | some b => .ok b m | none => .bad) Q := o
      cases z : fa en m with
      | ok b m1 => rw [z] at o; exact o
      | exc y m1 => rw [z] at o; exact o
      | bad => rw [z] at o; exact o
    have t := Obnd (R := RV X.K) RB.down sm o (P := fun x H1 => ∃ F1 ι1 m1 d, Sim X.K F1 ι1 en m1 σ H1 ∧ Rep X.K F1 ι1 d x ∧ Out X.K W RB F1 ι1 σ H1 (bnd (cmpGo d ((p :: q :: l).map fun p => (p.1, p.2.2)) en m1) fun a m => match trD m a with | some b => .ok b m | none => .bad) Q) fun x F1 ι1 H1 m1 d s1 r x1 o1 => ⟨F1, ι1, m1, d, s1, r, o1⟩
    refine thn (ha.run pins s σ H _ I t) fun v s1 ⟨x, H1, I1, rx, F1, ι1, m1, d, sm1, r, o1⟩ => ?_
    have := tchain_ok (pos := pos) C (p :: q :: l) hl I1 sm1 r rx o1
    rw [evalEach_map]
    simpa [Function.comp_def] using this
theorem t_not {f : FB} (ha : PT X a (TBl X W f)) : PT X (.UnaryOp .Not a pos) (TBl X W fun e m => bnd (f e m) fun b m => .ok (!b) m) :=
  PT.weak (pt_not ha) fun σ H Q ⟨F, ι, m, en, s, o⟩ => Obnd RB.down s o fun x F1 ι1 H1 m1 d s1 r x1 o1 => by
    cases (show d = x from r)
    exact o1.now s1.mem rfl
theorem t_and1 {f : FB} (ha : PT X a (TBl X W f)) : PW X (.BoolOp .And [a] pos) (TBl X W f) := pw_and1 ha
theorem t_or1 {f : FB} (ha : PT X a (TBl X W f)) : PW X (.BoolOp .Or [a] pos) (TBl X W f) := pw_or1 ha
theorem PW.weak {t t' : TT} (h : PW X e t) (k : ∀ σ H Q, t' σ H Q → t σ H Q) : PW X e t' := ⟨fun w pins s σ H Q I q => h.run w pins s σ H Q I (k σ H Q q)⟩
theorem t_and {f g : FB} {rest : List Expr} (ha : PT X a (TBl X W f)) (hb : PW X (.BoolOp .And (b :: rest) pos) (TBl X W g)) :
    PW X (.BoolOp .And (a :: b :: rest) pos) (TBl X W fun e m => bnd (f e m) fun b m => if b then g e m else .ok false m) :=
  PW.weak (pw_and ha hb) fun σ H Q ⟨F, ι, m, en, s, o⟩ => Obnd RB.down s o fun x F1 ι1 H1 m1 d s1 r x1 o1 => by
    cases (show d = x from r)
    cases x with
    | true => exact ⟨F1, ι1, m1, en, s1, o1⟩
    | false => exact o1.now s1.mem rfl
theorem t_or {f g : FB} {rest : List Expr} (ha : PT X a (TBl X W f)) (hb : PW X (.BoolOp .Or (b :: rest) pos) (TBl X W g)) :
    PW X (.BoolOp .Or (a :: b :: rest) pos) (TBl X W fun e m => bnd (f e m) fun b m => if b then .ok true m else g e m) :=
  PW.weak (pw_or ha hb) fun σ H Q ⟨F, ι, m, en, s, o⟩ => Obnd RB.down s o fun x F1 ι1 H1 m1 d s1 r x1 o1 => by
    cases (show d = x from r)
    cases x with
    | true => exact o1.now s1.mem rfl
    | false => exact ⟨F1, ι1, m1, en, s1, o1⟩
theorem t_if {t : Expr} {f g h : FB} (ht : PT X t (TBl X W f)) (ha : PT X a (TBl X W g)) (hb : PT X b (TBl X W h)) :
    PT X (.IfExp t a b pos) (TBl X W fun e m => bnd (f e m) fun k m => if k then g e m else h e m) := by
  refine ⟨fun pins s σ H Q I ⟨F, ι, m, en, sm, o⟩ => ?_⟩
  have t1 := Obnd (R := RB) RB.down sm o (P := fun k H1 => ∃ F1 ι1 m1, Sim X.K F1 ι1 en m1 σ H1 ∧ Out X.K W RB F1 ι1 σ H1 (if k = true then g en m1 else h en m1) Q) fun x F1 ι1 H1 m1 d s1 r x1 o1 => by
    cases (show d = x from r)
    exact ⟨F1, ι1, m1, s1, o1⟩
  show wpAny _ _ (do if ← isTrue t X.env (eval t X.env) then isTrue a X.env (eval a X.env) else isTrue b X.env (eval b X.env)) _ _ s
  refine wpAny_bind (thn (ht.run pins s σ H _ I t1) fun k s1 ⟨H1, I1, F1, ι1, m1, sm1, o1⟩ => ?_)
  cases k with
  | true => exact ha.run pins s1 σ H1 Q I1 ⟨F1, ι1, m1, en, sm1, o1⟩
  | false => exact hb.run pins s1 σ H1 Q I1 ⟨F1, ι1, m1, en, sm1, o1⟩
end
end Cs

/-! Expressions: tests as a whole, displays, items, built-ins. -/
namespace Cs
open PySem L2 PySem.Spec
section
variable {X : Cx} {c : SC} {W : EW} {a b e : Expr} {fa fb f : FE} {pos : Pos} {K : PySem.W.Frag} {F : Hp} {ι : List Addr} {H : Hp} {m : Mem} {σ : L2.St}
theorem tst_ok (f : Expr → FE) (hf : ∀ e, PE X e (TV X W (f e))) (hc : ∀ a ops bs pos, PT X (.Compare a ops bs pos) (TBl X W (fTr (f (.Compare a ops bs pos))))) :
    ∀ n e, PT X e (TBl X W (tstX f n e)) ∧ (∀ op vs p, e = .BoolOp op vs p → PW X e (TBl X W (tstX f n e)))
  | 0, e => ⟨t_bad, fun op vs p he => ⟨fun _ _ _ _ _ _ _ ⟨_, _, _, _, _, o⟩ => False.elim o⟩⟩
  | n + 1, e => by
    have ih := tst_ok f hf hc n
    have bad : PW X e (TBl X W fun _ _ => .bad) := ⟨fun _ _ _ _ _ _ _ ⟨_, _, _, _, _, o⟩ => False.elim o⟩
    have bo : ∀ op vs p, e = .BoolOp op vs p → PW X e (TBl X W (tstX f (n + 1) e)) := by
      rintro op vs p rfl
      cases op with
      | And =>
        match vs with
        | [] => exact bad
        | [a] => exact t_and1 (ih a).1
        | a :: b :: r => exact t_and (ih a).1 ((ih (.BoolOp .And (b :: r) p)).2 _ _ _ rfl)
      | Or =>
        match vs with
        | [] => exact bad
        | [a] => exact t_or1 (ih a).1
        | a :: b :: r => exact t_or (ih a).1 ((ih (.BoolOp .Or (b :: r) p)).2 _ _ _ rfl)
    refine ⟨?_, bo⟩
    cases e with
    | BoolOp op vs p => exact (bo op vs p rfl).pt
    | UnaryOp op a p =>
      cases op with
      | Not => exact t_not (ih a).1
      | _ => exact d_tr (hf _) (fun _ => rfl)
    | IfExp t a b p => exact t_if (ih t).1 (ih a).1 (ih b).1
    | Compare a ops bs p => exact hc a ops bs p
    | _ => exact d_tr (hf _) (fun _ => rfl)
theorem d_ifExp {t : Expr} {g : FB} (ht : PT X t (TBl X W g)) (ha : PE X a (TV X W fa)) (hb : PE X b (TV X W fb)) : PE X (.IfExp t a b pos) (TV X W (fIf g fa fb)) :=
  PE.weak (pe_ifExp ht ha hb) fun σ H Q ⟨F, ι, m, en, s, o⟩ => Obnd RV.down s o fun x F1 ι1 H1 m1 d s1 r x1 o1 => by
    cases (show d = x from r)
    cases x with
    | true => exact ⟨F1, ι1, m1, en, s1, o1⟩
    | false => exact ⟨F1, ι1, m1, en, s1, o1⟩

/-! ### arguments, displays -/
theorem unstar_each {e : Expr} {es : List Expr} {env : PySem.Env} (h : unstar e = true) : starEach (e :: es) env = (false, eval e env) :: starEach es env := by
  cases e <;> first | rfl | (simp [unstar] at h)
theorem a_nil : PA X [] (TLs X W fNil) := PA.weak pa_nil fun σ H Q ⟨F, ι, m, en, s, o⟩ => o.now s.mem Reps.nil
theorem a_cons {es : List Expr} {fr : FL} (hs : unstar a = true) (ha : PE X a (TV X W fa)) (hr : PA X es (TLs X W fr)) : PA X (a :: es) (TLs X W (fCons fa fr)) :=
  PA.weak (pa_cons ha hr (unstar_each hs)) fun σ H Q ⟨F, ι, m, en, s, o⟩ => Obnd RL.down s o fun x F1 ι1 H1 m1 d s1 r x1 o1 => Obnd RL.down s1 o1 fun y F2 ι2 H2 m2 ds s2 r2 x2 o2 => o2.now s2.mem (Reps.cons (Rep.ext r x2) r2)
theorem a_list (f : Expr → FE) (hf : ∀ e, PE X e (TV X W (f e))) : ∀ es : List Expr, noStar es = true → PA X es (TLs X W (listF f es))
  | [], _ => a_nil
  | a :: r, h => by
    unfold noStar at h
    rw [List.all_cons, Bool.and_eq_true] at h
    exact a_cons h.1 (hf a) (a_list f hf r h.2)
theorem d_tup {es : List Expr} {k : Nat} {fs : FL} (h : PA X es (TLs X W fs)) : PE X (.Tuple es k pos) (TV X W (fTup fs)) :=
  PE.weak (pe_tupD h) fun σ H Q ⟨F, ι, m, en, s, o⟩ => Obnd RV.down s o fun vs F1 ι1 H1 m1 ds s1 r x1 o1 => by
    have hl := Reps.length r
    by_cases z : ds.length ≤ sizeLine
    · rw [if_pos z] at o1
      exact ⟨by omega, s1.mem.newT r fun v F' H' x2 s2 r2 => o1.of x2 s2 r2⟩
    · rw [if_neg z] at o1; exact False.elim o1
theorem d_lst {es : List Expr} {fs : FL} (h : PA X es (TLs X W fs)) : PE X (.List es pos) (TN X W (fLst fs)) :=
  PE.weak (pe_lst h) fun σ H Q ⟨F, ι, m, en, s, o⟩ => Obnd RN.down s o fun vs F1 ι1 H1 m1 ds s1 r x1 o1 => by
    have hl := Reps.length r
    by_cases z : ds.length ≤ sizeLine
    · rw [if_pos z] at o1
      refine ⟨by omega, fun p hp => ?_⟩
      obtain ⟨x2, s2, r2⟩ := s1.mem.newL hp r
      exact o1.of x2 s2 r2
    · rw [if_neg z] at o1; exact False.elim o1
theorem d_dct0 : PE X (.Dict [] [] pos) (TN X W fDct0) :=
  PE.weak pe_dnewK fun σ H Q ⟨F, ι, m, en, s, o⟩ => fun p hp => o.of (Ext.grow hp) (s.mem.grow hp) ⟨p, .dK [], rfl, hp, (s.mem.notin hp).2, (s.mem.notin hp).1, upd_same, .inl ⟨[], rfl, rfl, by simp [Reps]⟩⟩

/-! ### items -/
theorem atI_rep {ds : List D} {vs : List V} {i : Int} {d : D} (r : Reps K F ι ds vs) (h : atI ds i = some d) : ∃ v, atI vs i = some v ∧ Rep K F ι d v := by
  unfold atI at h ⊢
  rw [r.length]
  obtain ⟨j, e1, e2⟩ := Option.bind_eq_some_iff.mp h
  obtain ⟨v, e3, r3⟩ := r.get e2
  exact ⟨v, by rw [e1]; exact e3, r3⟩
theorem plainIx_ok {i : Expr} (h : plainIx i = true) : ∀ o u, subscripted i false o u = operate [o, u] (getItem o u) := by
  intro o u
  cases i <;> first | rfl | (simp [plainIx] at h)
open PyProof.Rows in
/-- an item, by values -/
theorem ixr (C : Ctx X c W) : IxR X (r2 X.K (RV X.K) ixD) := by
  have hu := C.hu
  intro value slice pins s σ H x y v u Q I rx ry h hs
  obtain ⟨F, ι, m, a, b, d, sm, ra, rb, e, q⟩ := h
  have fin : ∀ {w}, Rep X.K F ι d w → Q w H := fun {w} r => q w F ι H (Ext.refl F ι H) sm r
  unfold ixD at e
  split at e
  · rename_i ds i e1
    obtain ⟨p, vs, rfl, q1, rs⟩ := ra.isLst sm e1
    obtain ⟨w, h1, h2⟩ := atI_rep rs e
    exact ix_list value slice pins s σ H _ y v u Q I rx ry ⟨p, vs, i, w, rfl, rb.intE, q1, h1, fin h2⟩ hs
  · rename_i ds i e1
    obtain ⟨p, vs, rfl, q1, rs, _⟩ := ra.isTup sm e1
    obtain ⟨w, h1, h2⟩ := atI_rep rs e
    exact ix_tup value slice pins s σ H _ y v u Q I rx ry ⟨p, vs, i, w, rfl, rb.intE, q1, h1, fin h2⟩ hs
  · rename_i z i e1
    split at e
    · rename_i hz
      obtain ⟨g, h1, h2⟩ := Option.map_eq_some_iff.mp e
      subst h2
      exact ix_str value slice pins s σ H x y v u Q I rx ry ⟨z, i, g, ra.isStr e1, rb.intE, hz, h1, fin Rep.strI⟩ hs
    · cases e
  · rename_i ks ws e1
    split at e
    · rename_i ok
      obtain ⟨p, H', o, rfl, I', g, back, mt⟩ := dget I sm ra e1 ok rb
      cases (show v = Value.ref p from rx)
      rw [e] at mt
      cases z : o with
      | none => rw [z] at mt; exact False.elim mt
      | some w =>
        rw [z] at mt g
        have key : wpAny (model X.prog X.w) X.A (getItem (.ref p) u) (EP X pins σ Q) X.xe s := d_getItem (by omega) I' g ry fun w' s3 I3 rw' => ⟨w, H, back _ I3, rw', fin mt⟩
        have hT := dict_typeIs I' g
        unfold subscriptTail
        refine wpAny_bind ?_
        rw [getitemInPython_of_ne hT.not_modules]
        refine wpAny_bind (wpAny_specialOf hT PySem.F.slot_dict_getitem.lookup ?_)
        have fin : wpAny (model X.prog X.w) X.A (subscripted slice false (.ref p) u) (fun r s₃ => wpAny (model X.prog X.w) X.A (letTemporaryGo value (.ref p) r >>= fun _ => pure r) (EP X pins σ Q) X.xe s₃) X.xe s := by
          rw [hs]
          exact wpAny_operating (wpAny_mono key (fun r s₃ h₃ => wpAny_bind (wpAny_letTemporaryGo (wpAny_pure h₃))) fun _ _ x => x)
        first
          | exact wpAny_pure (wpAny_bind fin)
          | exact wpAny_bind (wpAny_pure (wpAny_bind fin))
          | exact wpAny_bind fin
    · cases e
  · cases e
theorem d_ix (C : Ctx X c W) (hi : plainIx b = true) (ha : PE X a (TV X W fa)) (hb : PE X b (TV X W fb)) : PE X (.Subscript a b pos) (TV X W (fIx fa fb)) :=
  PE.weak (pe_ix (ixr C) ha hb (plainIx_ok hi)) fun σ H Q h => T2 RV.down h
end
end Cs

/-! Dicts of pairs, their length, one put into another. -/
namespace Cs
open PySem L2 PySem.Spec
section
variable {X : Cx} {K : PySem.W.Frag} {F F1 : Hp} {ι ι1 : List Addr} {H H1 : Hp} {m m1 : Mem} {σ : L2.St} {pins : List (Addr × Obj)} {s : Shared}
theorem nd_put {κ : Type} [DecidableEq κ] {kvs : List (κ × V)} (k : κ) (v : V) (h : (kvs.map (·.1)).Nodup) : ((L2.putK kvs k v).map (·.1)).Nodup := by
  unfold L2.putK
  split
  · have : (kvs.map fun kv => if kv.1 = k then (kv.1, v) else kv).map (·.1) = kvs.map (·.1) := by
      rw [List.map_map]
      apply List.map_congr_left
      intro x _
      show (if x.1 = k then (x.1, v) else x).1 = x.1
      split <;> rfl
    rw [this]
    exact h
  · rename_i hn
    rw [List.map_append, List.nodup_append]
    refine ⟨h, by simp, fun x hx y hy => ?_⟩
    simp only [List.map_cons, List.map_nil, List.mem_singleton] at hy
    subst hy
    rintro rfl
    apply hn
    rw [List.any_eq_true]
    obtain ⟨p, hp, e⟩ := List.mem_map.mp hx
    exact ⟨p, hp, by simpa using e⟩
theorem merge_rep : ∀ (kr : List Key) (vr : List D) (vs : List V) (kvs : List (Key × V)) (ws : List D), (kvs.map (·.1)).Nodup → Reps K F ι ws (kvs.map (·.2)) → Reps K F ι vr vs → kr.length = vr.length →
    (mergeD (kvs.map fun p => kd p.1) ws (kr.map kd) vr).1 = (mergeK kvs (kr.zip vs)).map (fun p => kd p.1) ∧ Reps K F ι (mergeD (kvs.map fun p => kd p.1) ws (kr.map kd) vr).2 ((mergeK kvs (kr.zip vs)).map (·.2))
  | [], vr, vs, kvs, ws, nd, r, rv, hl => by
    cases vr with
    | nil => exact ⟨rfl, r⟩
    | cons _ _ => simp at hl
  | k :: kr, [], _, _, _, _, _, _, hl => by simp at hl
  | k :: kr, d :: vr, vs, kvs, ws, nd, r, rv, hl => by
    obtain ⟨v, vs, rfl, r1, r2⟩ := rv.of_cons
    obtain ⟨h1, h2⟩ := putK_map (g := kd) kd_eq k r1 nd r
    have ih := merge_rep kr vr vs (L2.putK kvs k v) _ (nd_put k v nd) h2 r2 (by simpa using hl)
    rw [← h1] at ih
    exact ih
theorem flat_kd : ∀ {ks : List D}, ks.all flatK = true → ∃ kr : List Key, ks = kr.map kd
  | [], _ => ⟨[], rfl⟩
  | k :: ks, h => by
    rw [List.all_cons, Bool.and_eq_true] at h
    obtain ⟨kr, rfl⟩ := flat_kd h.2
    cases k with
    | int i => exact ⟨.inl i :: kr, rfl⟩
    | str z => exact ⟨.inr z :: kr, rfl⟩
    | _ => cases h.1
theorem keys_rep : ∀ {kr : List Key} {us : List V}, Reps K F ι (kr.map kd) us → us = kr.map kV
  | [], us, r => r.of_nil
  | k :: kr, us, r => by
    obtain ⟨v, w, rfl, r1, r2⟩ := r.of_cons
    rw [keys_rep r2]
    cases k with
    | inl i => rw [Rep.intE r1]; rfl
    | inr z => rw [Rep.strE r1]; rfl
/-- a dict's ints and texts as keys, over a heap in which an empty dict may be told otherwise -/
theorem dk_flat (I : L2.Inv X pins σ H s) {a : Addr} {u : HO} {ks ws : List D} (h : RdE H a u) (rc : RepC X.K F ι (.dct ks ws) u) (hk : ks.all flatK = true) :
    ∃ H' kvs, L2.Inv X pins σ H' s ∧ Rd H' a (.dK kvs) ∧ (H a = some u → H' a = some (.dK kvs)) ∧ (∀ b, b ≠ a → H' b = H b) ∧ ks = kvs.map (fun p => kd p.1) ∧ Reps X.K F ι ws (kvs.map (·.2)) ∧ (∀ G s', G a = H' a → L2.Inv X pins σ G s' → L2.Inv X pins σ (fun b => if b = a then H a else G b) s') := by
  obtain ⟨kvs, rfl, rfl, rs⟩ | ⟨kvs, rfl, rfl, rs⟩ := rc
  · refine ⟨H, kvs, I, h.rd, fun q => q, fun _ _ => rfl, rfl, rs, fun G s' e q => ?_⟩
    have : (fun b => if b = a then H a else G b) = G := by
      funext b
      by_cases z : b = a
      · subst z; rw [if_pos rfl, e]
      · rw [if_neg z]
    rw [this]
    exact q
  · cases kvs with
    | nil =>
      have hH : H a = some (.dT []) := h.elim id fun z => absurd rfl z.2.1
      refine ⟨upd H a (.dK []), [], Inv.t2d I hH, .inl upd_same, fun _ => upd_same, fun b hb => upd_ne hb, rfl, rs, fun G s' e q => ?_⟩
      rw [upd_same] at e
      have := Inv.d2t q e
      have e2 : (fun b => if b = a then H a else G b) = upd G a (.dT []) := by
        funext b
        by_cases z : b = a
        · subst z; rw [if_pos rfl, upd_same, hH]
        · rw [if_neg z, upd_ne z]
      rw [e2]
      exact this
    | cons p r => simp [kdT, flatK] at hk
theorem pairsD_rep : ∀ {ds : List D} {ks ws : List D} {vs : List V}, pairsD ds = some (ks, ws) → SimM K F ι m H → Reps K F ι ds vs → ∃ (ps : List Addr) (kvs : List (Key × V)), vs = ps.map V.ref ∧ ks = kvs.map (fun p => kd p.1) ∧ Reps K F ι ws (kvs.map (·.2)) ∧
    Paired (fun p kv => SqT K H p [kV kv.1, kv.2]) ps kvs
  | [], ks, ws, vs, h, _, r => by
    simp only [pairsD, Option.some.injEq, Prod.mk.injEq] at h
    obtain ⟨rfl, rfl⟩ := h
    rw [r.of_nil]
    exact ⟨[], [], rfl, rfl, Reps.nil, .nil⟩
  | d :: ds, ks, ws, vs, h, sm, r => by
    unfold pairsD at h
    split at h
    · rename_i e
      cases e
    · rename_i k v rest e
      cases e
      split at h
      · rename_i hk
        obtain ⟨⟨k2, w2⟩, h1, h2⟩ := Option.map_eq_some_iff.mp h
        simp only [Prod.mk.injEq] at h2
        obtain ⟨rfl, rfl⟩ := h2
        obtain ⟨x, xs, rfl, r1, r2⟩ := r.of_cons
        obtain ⟨ps, kvs, rfl, rfl, rs, pr⟩ := pairsD_rep h1 sm r2
        obtain ⟨p, us, rfl, q, ru⟩ := r1.tupE
        obtain ⟨y1, us', rfl, ry1, ru'⟩ := ru.of_cons
        obtain ⟨y2, us'', rfl, ry2, ru''⟩ := ru'.of_cons
        rw [ru''.of_nil] at q
        obtain ⟨kk, ek⟩ : ∃ kk : Key, k = kd kk := by
          cases k with
          | int i => exact ⟨.inl i, rfl⟩
          | str z => exact ⟨.inr z, rfl⟩
          | _ => cases hk
        subst ek
        have e1 := kd_kV ry1
        subst e1
        exact ⟨p :: ps, (kk, y2) :: kvs, rfl, rfl, Reps.cons ry2 rs, .cons (SqT.mono q sm.sub) pr⟩
      · cases h
    · cases h
theorem update_meets {a b : Addr} {kvs more : List (Key × V)} {Q : Value → Shared → Prop} {A : Around} {E : Value → Shared → Prop} (I : L2.Inv X pins σ H s) (ha : H a = some (.dK kvs)) (hb : Rd H b (.dK more)) (hab : a ≠ b) (hz : kvs.length + more.length ≤ sizeLine)
    (h : ∀ s', L2.Inv X pins σ (upd H a (.dK (mergeK kvs more))) s' → Q .none s') : wpAny (model X.prog X.w) A (call (.builtin "dict.update") [.ref a, .ref b]) Q E s := by
  obtain ⟨z1, hd1, vs1, rel1, dd1⟩ := dk_rd I.hok (.inl ha)
  obtain ⟨z2, hd2, vs2, rel2, dd2⟩ := dk_rd I.hok hb
  have l1 : kvs.length = vs1.length := rel1.length
  have l2 : more.length = vs2.length := rel2.length
  refine call_meetsIn F.slot_dict_update dd1.typeIs F.entry_dict_update (F.args_dict_update_2 _ _) (meets_dict_update (mixKind X.prog X.w) a b hab hd2) ⟨vs1, vs2, dd1, dd2, by omega, fun h' hm _ hs => ?_⟩
  refine h _ ?_
  refine d_write I (by rw [ha]; exact True.intro) hs ?_ ?_
  · obtain ⟨o, _, _, e, _⟩ := hm
    exact ⟨o, e⟩
  · refine ⟨Nat.le_trans (length_mergeK more kvs) hz, hd1, merged vs1 vs2, KV.merge rel2 rel1, hm⟩
end
end Cs

/-! Slices, built-in functions, isinstance, calls of defs. -/
namespace Cs
open PySem L2 PySem.Spec
section
variable {X : Cx} {c : SC} {W : EW} {a b e : Expr} {fa fb f : FE} {pos : Pos} {K : PySem.W.Frag} {F : Hp} {ι : List Addr} {H : Hp} {m : Mem} {σ : L2.St}
/-! ### slices -/
theorem po_weak {o : Option Expr} {t t' : TO} (h : PO X o t) (k : ∀ σ H Q, t' σ H Q → t σ H Q) : PO X o t' := ⟨fun pins s σ H Q I q => h.run pins s σ H Q I (k σ H Q q)⟩
theorem d_part {o : Option Expr} (f : Expr → FE) (hf : ∀ e, PE X e (TV X W (f e))) : PO X o (T X.K W RO (fPart (o.map f))) := by
  cases o with
  | none => exact po_weak po_none fun σ H Q ⟨F, ι, m, en, s, o⟩ => o.now s.mem rfl
  | some e =>
    refine po_weak (po_some (hf e)) fun σ H Q ⟨F, ι, m, en, s, o⟩ => Obnd RO.down s o fun x F1 ι1 H1 m1 d s1 r x1 o1 => ?_
    cases d with
    | int i => exact ⟨i, Rep.intE r, o1.now s1.mem rfl⟩
    | _ => exact False.elim o1
theorem slr (C : Ctx X c W) : SlR X (fun x lo hi H Q => ∃ F ι m a d, SimM X.K F ι m H ∧ Rep X.K F ι a x ∧ slD a lo hi m = some d ∧ ∀ v F' ι' H', Ext F ι H F' ι' H' → SimM X.K F' ι' m H' → RN X.K H F' ι' H' d v → Q v H') := by
  intro pins s σ H x v vl vu lo hi sl Q I rx hs pl pu h
  obtain ⟨F, ι, m, a, d, sm, ra, e, q⟩ := h
  unfold slD at e
  split at e
  · rename_i ds e1
    cases e
    obtain ⟨p, vs, rfl, q1, rs⟩ := ra.isLst sm e1
    refine sl_list pins s σ H _ v vl vu lo hi sl Q I rx hs pl pu ⟨p, vs, rfl, q1, fun p hp => ?_⟩
    obtain ⟨x1, s1, r1⟩ := sm.newL hp (rs.cut lo hi)
    exact q _ _ _ _ x1 s1 r1
  · rename_i ds e1
    cases e
    obtain ⟨p, vs, rfl, q1, rs, rp⟩ := ra.isTup sm e1
    have hl := rs.length
    refine sl_tupD pins s σ H _ v vl vu lo hi sl Q I rx hs pl pu ⟨p, vs, rfl, q1, fun z => ?_, fun z => ?_⟩
    · rw [hl] at z
      refine q _ F ι H (Ext.refl _ _ _) sm ?_
      have : cutD ds lo hi = ds := by
        unfold cutD
        rw [z.1, z.2]
        simp
      rw [this]
      exact rp
    · exact sm.newT (rs.cut lo hi) fun v F' H' x1 s1 r1 => q v F' ι H' x1 s1 r1
  · rename_i z e1
    split at e
    · rename_i hz
      cases e
      exact sl_str pins s σ H x v vl vu lo hi sl Q I rx hs pl pu ⟨z, ra.isStr e1, hz, q _ F ι H (Ext.refl _ _ _) sm (Rep.strI (K := X.K) (F := F) (ι := ι))⟩
    · cases e
  · cases e
theorem d_sl (C : Ctx X c W) {lo hi : Option Expr} {p2 : Pos} (f : Expr → FE) (hf : ∀ e, PE X e (TV X W (f e))) (ha : PE X a (TV X W fa)) : PE X (.Subscript a (.Slice lo hi none p2) pos) (TN X W (fSl fa (lo.map f) (hi.map f))) := by
  refine PE.weak (pe_slice (slr C) ha (d_part f hf) (d_part f hf)) fun σ H Q ⟨F, ι, m, en, s, o⟩ => ?_
  refine Obnd RN.down s o fun x F1 ι1 H1 m1 d s1 r x1 o1 => ?_
  refine Obnd RN.down s1 o1 fun l F2 ι2 H2 m2 l' s2 r2 x2 o2 => ?_
  refine Obnd RN.down s2 o2 fun h F3 ι3 H3 m3 h' s3 r3 x3 o3 => ?_
  cases (show l' = l from r2)
  cases (show h' = h from r3)
  obtain ⟨z, e1, q⟩ := ofO_out o3
  exact ⟨F3, ι3, m3, d, z, s3.mem, (Rep.ext r x2).ext x3, e1, q⟩

/-! ### built-in functions -/
/-- a call of a built-in by values -/
def rBl (K : PySem.W.Frag) (g : List D → Mem → Option D) : List V → Hp → VK → Prop := fun xs H Q =>
  ∃ F ι m as d, SimM K F ι m H ∧ Reps K F ι as xs ∧ g as m = some d ∧ ∀ v F' ι' H', Ext F ι H F' ι' H' → SimM K F' ι' m H' → RN K H F' ι' H' d v → Q v H'
theorem Tbl {g : List D → Mem → Option D} {fs : FL} {Q : VK} {H : Hp} (h : T K W (RN K) (fun e m => bnd (fs e m) fun ds m => ofO m (g ds m)) σ H Q) : T K W (RL K) fs σ H fun xs H1 => rBl K g xs H1 Q := by
  obtain ⟨F, ι, m, e, s, o⟩ := h
  refine Obnd RN.down s o fun x F1 ι1 H1 m1 a s1 r x1 o1 => ?_
  obtain ⟨d, e1, q⟩ := ofO_out o1
  exact ⟨F1, ι1, m1, a, d, s1.mem, r, e1, q⟩
theorem bools_rep : ∀ {ds : List D} {bs : List Bool} {vs : List V}, boolsD ds = some bs → Reps K F ι ds vs → vs = bs.map V.bl
  | [], bs, vs, h, r => by
    cases (Option.some.inj h)
    rw [r.of_nil]; rfl
  | d :: ds, bs, vs, h, r => by
    obtain ⟨v, w, rfl, r1, r2⟩ := r.of_cons
    cases d with
    | bl b =>
      unfold boolsD at h
      obtain ⟨cs, h1, rfl⟩ := Option.map_eq_some_iff.mp h
      rw [r1.blE, bools_rep h1 r2]; rfl
    | _ => simp [boolsD] at h
theorem lstD_res {d : D} {ds : List D} (h : lstD m d = some ds) : res m d = .lst ds := by
  unfold lstD at h
  split at h
  · cases h; assumption
  · cases h
theorem seqD_res {d : D} {ds : List D} (h : seqD m d = some ds) : res m d = .lst ds ∨ res m d = .tup ds := by
  unfold seqD at h
  split at h
  · cases h; exact .inl (by assumption)
  · cases h; exact .inr (by assumption)
  · cases h
/-- the rules of a built-in, its name's kind -/
def bltV : Blt → Value
  | .len => .builtin "len"
  | .all => .builtin "all"
  | .any => .builtin "any"
  | .tuple => .type "tuple"
  | .list => .type "list"
  | .abs => .builtin "abs"
  | .int => .type "int"
  | .str => .type "str"
  | .sorted => .builtin "sorted"
  | .min => .builtin "min"
  | .max => .builtin "max"
  | .dict => .type "dict"
theorem Reps.one' {d : D} {vs : List V} (r : Reps K F ι [d] vs) : ∃ v, vs = [v] ∧ Rep K F ι d v := by
  obtain ⟨v, w, rfl, r1, r2⟩ := r.of_cons
  rw [r2.of_nil]
  exact ⟨v, rfl, r1⟩
theorem Reps.two' {d d' : D} {vs : List V} (r : Reps K F ι [d, d'] vs) : ∃ v v', vs = [v, v'] ∧ Rep K F ι d v ∧ Rep K F ι d' v' := by
  obtain ⟨v, w, rfl, r1, r2⟩ := r.of_cons
  obtain ⟨v', rfl, r3⟩ := r2.one'
  exact ⟨v, v', rfl, r1, r3⟩
theorem b1E {g : D → Mem → Option D} {as : List D} {d : D} {vs : List V} (h : b1 g as m = some d) (r : Reps K F ι as vs) : ∃ a x, vs = [x] ∧ Rep K F ι a x ∧ g a m = some d := by
  unfold b1 at h
  split at h
  · obtain ⟨x, e, rx⟩ := r.one'
    exact ⟨_, x, e, rx, h⟩
  · cases h
theorem b2E {g : D → D → Mem → Option D} {as : List D} {d : D} {vs : List V} (h : b2 g as m = some d) (r : Reps K F ι as vs) : ∃ a b x y, vs = [x, y] ∧ Rep K F ι a x ∧ Rep K F ι b y ∧ g a b m = some d := by
  unfold b2 at h
  split at h
  · obtain ⟨x, y, e, rx, ry⟩ := r.two'
    exact ⟨_, _, x, y, e, rx, ry, h⟩
  · cases h
theorem blt_ok (C : Ctx X c W) (f : Blt) : CallR X (bltV f) (rBl X.K (bltD f)) := by
  intro pins s σ H xs us Q I r h
  obtain ⟨F, ι, m, as, d, sm, ra, e, q⟩ := h
  have now : ∀ {v}, RN X.K H F ι H d v → Q v H := fun {v} w => q v F ι H (Ext.refl _ _ _) sm w
  cases f with
  | len =>
    obtain ⟨a, x, rfl, rx, e⟩ := b1E (g := lenB) e ra
    unfold lenB at e
    split at e
    · rename_i ds e1
      cases e
      obtain ⟨p, vs, rfl, q1, rs⟩ := rx.isLst sm e1
      refine call_len pins s σ H _ us Q I r ⟨_, _, rfl, .inl ⟨vs, q1, rs.length.symm⟩, now (Rep.intI (K := X.K) (F := F) (ι := ι))⟩
    · rename_i ds e1
      cases e
      obtain ⟨p, vs, rfl, q1, rs, _⟩ := rx.isTup sm e1
      refine call_len pins s σ H _ us Q I r ⟨_, _, rfl, .inr ⟨vs, q1, rs.length.symm⟩, now (Rep.intI (K := X.K) (F := F) (ι := ι))⟩
    · rename_i ks ws e1
      split at e
      · rename_i hk
        cases e
        obtain ⟨a', u, rfl, hH, rc⟩ := rx.isDct sm e1
        obtain ⟨H', kvs, I', hR, _, hNe, rfl, rs, back⟩ := dk_flat I hH rc hk
        obtain ⟨u', eu, ru⟩ := vals1 r
        subst eu
        cases (show u' = Value.ref a' from ru)
        have eH : (fun b => if b = a' then H a' else H' b) = H := by
          funext b
          by_cases z : b = a'
          · subst z; rw [if_pos rfl]
          · rw [if_neg z, hNe b z]
        refine d_len I' hR fun t s' I2 => ⟨.int _, H, eH ▸ back H' _ rfl I2, ⟨t, rfl⟩, ?_⟩
        rw [show (kvs.length : Int) = ((kvs.map fun p => kd p.1).length : Int) by simp]
        exact now (Rep.intI (K := X.K) (F := F) (ι := ι))
      · cases e
    · rename_i z e1
      split at e
      · rename_i hz
        cases e
        rw [rx.isStr e1] at r
        exact call_len pins s σ H _ us Q I r ⟨_, _, rfl, ⟨hz, rfl⟩, now (Rep.intI (K := X.K) (F := F) (ι := ι))⟩
      · cases e
    · cases e
  | all =>
    obtain ⟨a, x, rfl, rx, e⟩ := b1E (g := allB) e ra
    obtain ⟨ds, e1, e2⟩ := Option.bind_eq_some_iff.mp e
    obtain ⟨bs, e3, rfl⟩ := Option.map_eq_some_iff.mp e2
    obtain ⟨p, vs, rfl, q1, rs⟩ := rx.isLst sm (lstD_res e1)
    rw [bools_rep e3 rs] at q1
    exact cr_all C.calm pins s σ H _ us Q I r ⟨p, bs, rfl, q1, now (Rep.blI (K := X.K) (F := F) (ι := ι))⟩
  | any =>
    obtain ⟨a, x, rfl, rx, e⟩ := b1E (g := anyB) e ra
    obtain ⟨ds, e1, e2⟩ := Option.bind_eq_some_iff.mp e
    obtain ⟨bs, e3, rfl⟩ := Option.map_eq_some_iff.mp e2
    obtain ⟨p, vs, rfl, q1, rs⟩ := rx.isLst sm (lstD_res e1)
    rw [bools_rep e3 rs] at q1
    exact cr_any C.calm pins s σ H _ us Q I r ⟨p, bs, rfl, q1, now (Rep.blI (K := X.K) (F := F) (ι := ι))⟩
  | tuple =>
    obtain ⟨a, x, rfl, rx, e⟩ := b1E (g := fun a m => (seqD m a).map .tup) e ra
    obtain ⟨ds, e1, rfl⟩ := Option.map_eq_some_iff.mp e
    rcases seqD_res e1 with e2 | e2
    · obtain ⟨p, vs, rfl, q1, rs⟩ := rx.isLst sm e2
      exact call_tupleD pins s σ H _ us Q I r ⟨p, vs, rfl, .inl ⟨q1, sm.newT rs fun v F' H' x1 s1 r1 => q v F' ι H' x1 s1 r1⟩⟩
    · obtain ⟨p, vs, rfl, q1, rs, rp⟩ := rx.isTup sm e2
      exact call_tupleD pins s σ H _ us Q I r ⟨p, vs, rfl, .inr ⟨q1, now rp⟩⟩
  | list =>
    obtain ⟨a, x, rfl, rx, e⟩ := b1E (g := fun a m => (seqD m a).map .lst) e ra
    obtain ⟨ds, e1, rfl⟩ := Option.map_eq_some_iff.mp e
    rcases seqD_res e1 with e2 | e2
    · obtain ⟨p, vs, rfl, q1, rs⟩ := rx.isLst sm e2
      refine call_list_of pins s σ H _ us Q I r ⟨p, vs, rfl, .inl q1, fun p hp => ?_⟩
      obtain ⟨x1, s1, r1⟩ := sm.newL hp rs
      exact q _ _ _ _ x1 s1 r1
    · obtain ⟨p, vs, rfl, q1, rs, rp⟩ := rx.isTup sm e2
      refine call_list_of pins s σ H _ us Q I r ⟨p, vs, rfl, .inr q1, fun p hp => ?_⟩
      obtain ⟨x1, s1, r1⟩ := sm.newL hp rs
      exact q _ _ _ _ x1 s1 r1
  | abs =>
    obtain ⟨a, x, rfl, rx, e⟩ := b1E (g := absB) e ra
    unfold absB at e
    split at e
    · cases e
      exact call_abs pins s σ H _ us Q I r ⟨_, by rw [rx.intE], now (Rep.intI (K := X.K) (F := F) (ι := ι))⟩
    · cases e
  | int =>
    obtain ⟨a, x, rfl, rx, e⟩ := b1E (g := intB) e ra
    unfold intB at e
    split at e
    · cases e
      exact call_int1 pins s σ H _ us Q I r (.inl ⟨_, by rw [rx.intE], now (Rep.intI (K := X.K) (F := F) (ι := ι))⟩)
    · cases e
  | str =>
    obtain ⟨a, x, rfl, rx, e⟩ := b1E (g := strB) e ra
    unfold strB at e
    split at e
    · split at e
      · rename_i hz
        cases e
        exact call_str_int pins s σ H _ us Q I r ⟨_, by rw [rx.intE], hz, now (Rep.strI (K := X.K) (F := F) (ι := ι))⟩
      · cases e
    · cases e
  | sorted =>
    obtain ⟨a, x, rfl, rx, e⟩ := b1E (g := sortB) e ra
    obtain ⟨ds, e1, e2⟩ := Option.bind_eq_some_iff.mp e
    split at e2
    · rename_i ok
      cases e2
      have fin : ∀ {p : Addr} {vs : List V}, (SqL X.K H p vs ∨ SqT X.K H p vs) → x = .ref p → Reps X.K F ι ds vs → wpAny (model X.prog X.w) X.A (call (.builtin "sorted") us) (EP X pins σ Q) X.xe s := fun {p vs} hq ex rs =>
        cr_sort C.hu pins s σ H _ us Q I r ⟨p, vs, ds, F, ι, m, by rw [ex], hq, sm, rs, ok, fun ys p hp ry => by
          obtain ⟨x1, s1, r1⟩ := sm.newL hp ry
          exact q _ _ _ _ x1 s1 r1⟩
      rcases seqD_res e1 with e2 | e2
      · obtain ⟨p, vs, ex, q1, rs⟩ := rx.isLst sm e2
        exact fin (.inl q1) ex rs
      · obtain ⟨p, vs, ex, q1, rs, _⟩ := rx.isTup sm e2
        exact fin (.inr q1) ex rs
    · cases e2
  | min =>
    obtain ⟨a, b, x, y, rfl, rx, ry, e⟩ := b2E (g := minB) e ra
    unfold minB at e
    split at e
    · cases e
      exact call_min2 C.calm pins s σ H _ us Q I r ⟨_, _, by rw [rx.intE, ry.intE], now (Rep.intI (K := X.K) (F := F) (ι := ι))⟩
    · cases e
  | max =>
    obtain ⟨a, b, x, y, rfl, rx, ry, e⟩ := b2E (g := maxB) e ra
    unfold maxB at e
    split at e
    · cases e
      exact call_max2 C.calm pins s σ H _ us Q I r ⟨_, _, by rw [rx.intE, ry.intE], now (Rep.intI (K := X.K) (F := F) (ι := ι))⟩
    · cases e
  | dict =>
    obtain ⟨a, x, rfl, rx, e⟩ := b1E (g := dictB) e ra
    obtain ⟨ds, e1, e2⟩ := Option.bind_eq_some_iff.mp e
    obtain ⟨⟨ks, ws⟩, e3, rfl⟩ := Option.map_eq_some_iff.mp e2
    obtain ⟨p, vs, rfl, q1, rs⟩ := rx.isLst sm (lstD_res e1)
    obtain ⟨ps, kvs, rfl, rfl, rw2, pr⟩ := pairsD_rep e3 sm rs
    refine call_dictP C.calm pins s σ H _ us Q I r ⟨p, ps, kvs, rfl, q1, pr, fun p hp => ?_⟩
    obtain ⟨hi, hF⟩ := sm.notin hp
    have hl := rw2.length
    obtain ⟨g1, g2⟩ := merge_rep (kvs.map (·.1)) ws (kvs.map (·.2)) [] [] (by simp) Reps.nil rw2 (by simpa using hl)
    have ez : (kvs.map (·.1)).zip (kvs.map (·.2)) = kvs := by
      rw [List.zip_map', List.map_id'']
      intro x
      rfl
    rw [ez] at g1 g2
    simp only [List.map_nil, List.map_map] at g1 g2
    have x0 : Ext F ι H F ι (upd H p (.dK (mergeK [] kvs))) := Ext.grow hp
    exact q _ _ _ _ x0 (sm.grow hp) ⟨p, _, rfl, hp, hF, hi, upd_same, .inl ⟨_, rfl, g1, g2⟩⟩
theorem star_all : ∀ {es : List Expr} {env : PySem.Env}, noStar es = true → starEach es env = es.map fun e => (false, eval e env)
  | [], _, _ => rfl
  | a :: r, env, h => by
    unfold noStar at h
    rw [List.all_cons, Bool.and_eq_true] at h
    rw [unstar_each h.1, star_all h.2]
    rfl
theorem star_any {es : List Expr} {env : PySem.Env} {p : Pos} (h : noStar es = true) : (backTo p (starEach es env)).any (·.1) = false := by
  rw [star_all h]
  unfold backTo
  rw [List.any_eq_false]
  intro x hx
  simp only [List.map_map, List.mem_map] at hx
  obtain ⟨e, _, rfl⟩ := hx
  exact Bool.false_ne_true
theorem lkp_all {α : Type} {P : Str → α → Prop} {x : Str} {b : α} : ∀ (l : List (Str × α)), (∀ q ∈ l, P q.1 q.2) → lkp x l = some b → ∃ y, strEq x y = true ∧ P y b
  | [], _, h => by cases h
  | (y, a) :: r, hp, h => by
    unfold lkp at h
    split at h
    · rename_i e
      cases h
      exact ⟨y, e, hp _ List.mem_cons_self⟩
    · exact lkp_all r (fun q hq => hp q (List.mem_cons_of_mem _ hq)) h
theorem blt_boot {x : Str} {b : Blt} (h : lkp x bltTab = some b) : bootBuiltins x = some (bltV b) := by
  obtain ⟨y, e, q⟩ := lkp_all (P := fun y b => bootBuiltins y = some (bltV b)) bltTab (by
    intro q hq
    simp only [bltTab, List.mem_cons, List.not_mem_nil, or_false] at hq
    rcases hq with rfl | rfl | rfl | rfl | rfl | rfl | rfl | rfl | rfl | rfl | rfl | rfl <;> decide +kernel) h
  rw [strEq_eq e]
  exact q
def tyS : Ty → String
  | .int => "int"
  | .bool => "bool"
  | .str => "str"
  | .tuple => "tuple"
  | .list => "list"
  | .dict => "dict"
theorem ty_boot {x : Str} {b : Ty} (h : lkp x tyTab = some b) : bootBuiltins x = some (.type (tyS b)) := by
  simp only [tyTab, lkp] at h
  repeat' (split at h)
  all_goals first
    | (cases h; rename_i e; rw [strEq_eq e]; decide +kernel)
    | cases h
theorem d_blt (C : Ctx X c W) {x : Str} {f : Blt} {es : List Expr} {fs : FL} {p : Pos} (hx : lkp x bltTab = some f) (hg : c.gl x = true) (hb : c.bl x = true) (hs : noStar (a :: es) = true) (ha : PA X (a :: es) (TLs X W fs)) :
    PE X (.Call (.Name x p) (a :: es) [] pos) (TN X W (fBlt f fs)) := by
  have ok := SC.okG hg
  have h1 := blt_ok C f
  have h2 := blt_boot hx
  have hs' := hs
  unfold noStar at hs'
  rw [List.all_cons, Bool.and_eq_true] at hs'
  have e1 := unstar_each (env := X.env) (es := es) hs'.1
  have e2 := star_any (env := X.env) (p := pos) (es := es) hs'.2
  have main : PE X (.Call (.Name x p) (a :: es) [] pos) (tCB (rBl X.K (bltD f)) (TLs X W fs)) := by
    cases f with
    | dict => exact pe_callTy (T := "dict") h1 (C.gl hg) (C.bl x hb) h2 ha (okN_name ok) (okN_debug ok) e1 e2
    | tuple => exact pe_callTy (T := "tuple") h1 (C.gl hg) (C.bl x hb) h2 ha (okN_name ok) (okN_debug ok) e1 e2
    | list => exact pe_callTy (T := "list") h1 (C.gl hg) (C.bl x hb) h2 ha (okN_name ok) (okN_debug ok) e1 e2
    | int => exact pe_callTy (T := "int") h1 (C.gl hg) (C.bl x hb) h2 ha (okN_name ok) (okN_debug ok) e1 e2
    | str => exact pe_callTy (T := "str") h1 (C.gl hg) (C.bl x hb) h2 ha (okN_name ok) (okN_debug ok) e1 e2
    | len => exact pe_callB (id := "len") h1 (C.gl hg) (C.bl x hb) h2 ha (okN_name ok) (okN_debug ok) e1 e2
    | all => exact pe_callB (id := "all") h1 (C.gl hg) (C.bl x hb) h2 ha (okN_name ok) (okN_debug ok) e1 e2
    | any => exact pe_callB (id := "any") h1 (C.gl hg) (C.bl x hb) h2 ha (okN_name ok) (okN_debug ok) e1 e2
    | abs => exact pe_callB (id := "abs") h1 (C.gl hg) (C.bl x hb) h2 ha (okN_name ok) (okN_debug ok) e1 e2
    | sorted => exact pe_callB (id := "sorted") h1 (C.gl hg) (C.bl x hb) h2 ha (okN_name ok) (okN_debug ok) e1 e2
    | min => exact pe_callB (id := "min") h1 (C.gl hg) (C.bl x hb) h2 ha (okN_name ok) (okN_debug ok) e1 e2
    | max => exact pe_callB (id := "max") h1 (C.gl hg) (C.bl x hb) h2 ha (okN_name ok) (okN_debug ok) e1 e2
  exact PE.weak main fun σ H Q h => Tbl h

/-! ### isinstance -/
theorem kit_all (t : Ty) : kitB "NoneType" (tyS t) = some false ∧ kitB "bool" (tyS t) = some (t == .bool || t == .int) ∧ kitB "int" (tyS t) = some (t == .int) ∧ kitB "str" (tyS t) = some (t == .str) ∧
    kitB "tuple" (tyS t) = some (t == .tuple) ∧ kitB "list" (tyS t) = some (t == .list) ∧ kitB "dict" (tyS t) = some (t == .dict) := by
  cases t <;> decide +kernel
/-- .. wider: a locked dict of tuple keys -/
inductive TyY (K : PySem.W.Frag) (H : Hp) : V → Value → Prop where
  | x {x : V} {t : Value} (h : TyX K H x t) : TyY K H x t
  | fT {a : Addr} {o : Obj} {kvs : List (List Key × V)} (e : H a = some (.frz o (.dT kvs))) : TyY K H (.ref a) (.type "dict")
theorem call_isiY : CallR X (.builtin "isinstance") (fun xs H Q => ∃ (x c : V) (t u : Value) (b : Bool), xs = [x, c] ∧ ClsV c u ∧ TyY X.K H x t ∧ PySem.W.kitOne X.K t u = some b ∧ Q (.bl b) H) := by
  intro pins s σ H xs us Q I r h
  obtain ⟨x, c, t, u, b, rfl, k, ty, e, q⟩ := h
  cases ty with
  | x h => exact call_isi pins s σ H _ us Q I r ⟨x, c, t, u, b, rfl, k, h, e, q⟩
  | @fT a ob kvs ea =>
    cases r with
    | cons r1 r' =>
      cases r' with
      | cons r2 r'' =>
        cases r''
        have e2 := k.eq r2
        subst e2
        cases (show _ = Value.ref a from r1)
        obtain ⟨_, _, _, vs, _, o, es, ep, h1, h2, _⟩ := (show ObjOk X.prog X.w H s.heap a (.frz ob (.dT kvs)) from I.hok a _ ea)
        exact PySem.W.kia_one PySem.W.kitx_dict I.kIn ⟨o, h1, h2.1⟩ e (fun z => nomatch z) fun tk => ⟨.bl b, H, I.tok tk, rfl, q⟩
theorem isi_rep (s : SimM K F ι m H) {d : D} {x : V} {t : Ty} {b : Bool} (r : Rep K F ι d x) (h : isiD t (res m d) = some b) : ∃ u, TyY K H x u ∧ PySem.W.kitOne K u (.type (tyS t)) = some b := by
  obtain ⟨k1, k2, k3, k4, k5, k6, k7⟩ := kit_all t
  unfold isiD at h
  split at h
  · rename_i e
    have : x = .non := by
      cases d with
      | non => exact r.nonE
      | ref n => rw [res_ref] at e; split at e <;> cases e
      | _ => simp [res] at e
    subst this
    rw [← h]
    exact ⟨_, .x (.base .non), kit_ty k1⟩
  · rename_i b' e
    have : x = .bl b' := by
      cases d with
      | bl j =>
        have e : j = b' := by simpa [res] using e
        subst e; exact r.blE
      | ref n => rw [res_ref] at e; split at e <;> cases e
      | _ => simp [res] at e
    subst this
    rw [← h]
    exact ⟨_, .x (.base (.bl _)), kit_ty k2⟩
  · rename_i i e
    rw [r.isInt e, ← h]
    exact ⟨_, .x (.base (.int _)), kit_ty k3⟩
  · rename_i i e
    rw [r.isStr e, ← h]
    exact ⟨_, .x (.base (.str _)), kit_ty k4⟩
  · rename_i ds e
    obtain ⟨p, vs, rfl, q, rs, _⟩ := r.isTup s e
    rw [← h]
    rcases q with (q | ⟨o, q⟩) | ⟨o, its, n, q, hc, _⟩
    · exact ⟨_, .x (.base (.tup q)), kit_ty k5⟩
    · exact ⟨_, .x (.fTuple q), kit_ty k5⟩
    · exact ⟨_, .x (.kTuple q hc), kit_ty k5⟩
  · rename_i ds e
    obtain ⟨p, vs, rfl, q, rs⟩ := r.isLst s e
    rw [← h]
    rcases q with (q | ⟨o, q⟩) | ⟨o, its, n, q, hc, _⟩
    · exact ⟨_, .x (.base (.lst q)), kit_ty k6⟩
    · exact ⟨_, .x (.base (.frz q)), kit_ty k6⟩
    · exact ⟨_, .x (.kList q hc), kit_ty k6⟩
  · rename_i ks ws e
    obtain ⟨p, o, rfl, q, ⟨kvs, rfl, _⟩ | ⟨kvs, rfl, _⟩⟩ := r.isDct s e
    · rw [← h]
      rcases q with q | ⟨_, _, oo, q⟩
      · exact ⟨_, .x (.base (.dK q)), kit_ty k7⟩
      · exact ⟨_, .x (.fDict q), kit_ty k7⟩
    · rw [← h]
      rcases q with q | ⟨_, _, oo, q⟩
      · exact ⟨_, .x (.base (.dT q)), kit_ty k7⟩
      · exact ⟨_, .fT q, kit_ty k7⟩
  · cases h
theorem d_isi (C : Ctx X c W) {x t : Str} {ty : Ty} {p p2 : Pos} (ex : strEq x "isinstance" = true) (hx : lkp t tyTab = some ty) (hg : c.gl x = true) (hb : c.bl x = true) (hg2 : c.gl t = true) (hb2 : c.bl t = true) (hs : unstar a = true) (ha : PE X a (TV X W fa)) :
    PE X (.Call (.Name x p) [a, .Name t p2] [] pos) (TV X W (fIsi ty fa)) := by
  have ok := SC.okG hg
  have ok2 := SC.okG hg2
  have hboot : bootBuiltins x = some (.builtin "isinstance") := by rw [strEq_eq ex]; decide +kernel
  have e1 := unstar_each (env := X.env) (es := [.Name t p2]) hs
  refine PE.weak (pe_callB call_isiY (C.gl hg) (C.bl x hb) hboot (pa_cons ha (pa_cons (pe_bltn (v := .ty (tyS ty)) (C.gl hg2) (C.bl t hb2) (ty_boot hx) rfl (okN_name ok2) (okN_debug ok2)) pa_nil) e1) (okN_name ok) (okN_debug ok) e1 rfl) fun σ H Q ⟨F, ι, m, en, s, o⟩ => ?_
  refine Obnd RV.down s o fun v F1 ι1 H1 m1 d s1 r x1 o1 => ?_
  obtain ⟨d', e2, q⟩ := ofO_out o1
  obtain ⟨b, e3, rfl⟩ := Option.map_eq_some_iff.mp e2
  obtain ⟨u, k1, k2⟩ := isi_rep s1.mem r e3
  exact ⟨v, .ty (tyS ty), u, .type (tyS ty), b, rfl, .ty _, k1, k2, q _ _ _ _ (Ext.refl _ _ _) s1.mem (Rep.blI (K := X.K) (F := F1) (ι := ι1))⟩

/-! ### calls of defs -/
/-- what a def promises by the interpreter: E is wished of an exception of the program's own -/
def spI (K : PySem.W.Frag) (xc : Str → Option (Str × XArg)) (mg : Str → Option Value) (g : List D → Mem → Res D) (n : Nat) : Sp := fun vs H Q E =>
  vs.length = n ∧ ∃ F ι m ds, SimM K F ι m H ∧ Reps K F ι ds vs ∧ Out K (fun y _ _ _ _ H' => ∀ cls dd, XRel xc mg H' y cls dd → E cls dd H') (RV K) F ι [] H (g ds m) Q
/-- a def stands in the module and keeps what the interpreter says -/
structure CallOk (X : Cx) (xc : Str → Option (Str × XArg)) (h : Bool) (g : List D → Mem → Res D) (x : Str) : Prop where
  ok : ∃ k f fd ps n, FnOk X.prog X.w X.K X.mg X.base (L2.CX X.prog X.w) k f fd ps (spI X.K xc X.mg g n) ∧ Room k X.A ∧ X.mg x = some (.ref f) ∧ PySem.W.keepIn X.K (.ref f) = true ∧ Binds X.K fd ps [] ∧ (∀ ds m, g ds m ≠ .bad → ds.length = n) ∧ (h = false → ∀ ds m y m', g ds m ≠ .exc y m')
theorem call_in {h : Bool} {x : Str} {E : L2.St → XK} {fs : FL} {n : Nat} (hn : ∀ ds m, c.call x ds m ≠ .bad → ds.length = n) {F : Hp} {ι : List Addr} {m : Mem} {en : Sto} {Q : VK} {H : Hp} {σ : L2.St}
    (hE : ∀ ds m y m', c.call x ds m = .exc y m' → ∀ F' ι' H', W y F' ι' m' σ H' → ∀ cls dd, XRel c.xc X.mg H' y cls dd → E σ cls dd H')
    (s : Sim X.K F ι en m σ H) (o : Out X.K W (RV X.K) F ι σ H (fCall c.call x fs en m) Q) : T X.K W (RL X.K) fs σ H fun vs H1 => spI X.K c.xc X.mg (c.call x) n vs H1 Q (E σ) := by
  refine Obnd RV.down s o fun vs F1 ι1 H1 m1 ds s1 r x1 o1 => ?_
  have hb : c.call x ds m1 ≠ .bad := fun z => by rw [z] at o1; exact o1
  refine ⟨by rw [Reps.length r]; exact hn _ _ hb, F1, ι1, m1, ds, s1.mem, r, ?_⟩
  cases z : c.call x ds m1 with
  | bad => exact absurd z hb
  | ok d m' =>
    rw [z] at o1
    exact o1
  | exc y m' =>
    rw [z] at o1
    exact fun F' ι' H' x' s' cls dd q => hE _ _ _ _ z F' ι' H' (o1 F' ι' H' x' s') cls dd q
theorem pass00 {X : Cx} {σ : L2.St} : PassesAt (L2.CX X.prog X.w) X σ ((fun _ => E0) σ) := fun _ _ _ _ _ _ ⟨_, _, _, _, _, _, _, _, _, _, _, _, h⟩ => False.elim h
/-- what is wished of a call's exception -/
theorem call_E (C : Ctx X c W) {x : Str} (hx : c.hot x = false → ∀ ds m y m', c.call x ds m ≠ .exc y m') : ∃ E : L2.St → XK, (∀ σ, PassesAt (L2.CX X.prog X.w) X σ (E σ)) ∧
    ∀ σ ds m y m', c.call x ds m = .exc y m' → ∀ F' ι' H', W y F' ι' m' σ H' → ∀ cls dd, XRel c.xc X.mg H' y cls dd → E σ cls dd H' := by
  cases h : c.hot x with
  | false => exact ⟨fun _ => E0, fun σ => pass00, fun σ ds m y m' e => absurd e (hx h _ _ _ _)⟩
  | true => exact ⟨WE (WXof c.xc X.mg W), fun σ => passAt (C.tk x h) σ, fun σ ds m y m' e F' ι' H' q cls dd r => ⟨y, F', ι', m', r, q⟩⟩
theorem d_call (C : Ctx X c W) {x : Str} {es : List Expr} {fs : FL} {p : Pos} (ok : CallOk X c.xc (c.hot x) (c.call x) x) (hg : c.gl x = true) (hs : noStar (a :: es) = true) (ha : PA X (a :: es) (TLs X W fs)) :
    PE X (.Call (.Name x p) (a :: es) [] pos) (TV X W (fCall c.call x fs)) := by
  obtain ⟨k, f, fd, ps, n, FN, hr, hm, hk, hb, hn, hx⟩ := id ok.ok
  obtain ⟨E, hE1, hE2⟩ := call_E C hx
  have okn := SC.okG hg
  have hs' := hs
  unfold noStar at hs'
  rw [List.all_cons, Bool.and_eq_true] at hs'
  exact PE.weak (pe_callS FN hr (C.gl hg) hm hk hb hE1 ha (okN_debug okn) (unstar_each hs'.1) (star_any hs'.2)) fun σ H Q ⟨F, ι, m, en, s, o⟩ => call_in (h := c.hot x) hn (hE2 σ) s o
theorem d_call0 (C : Ctx X c W) {x : Str} {p : Pos} (ok : CallOk X c.xc (c.hot x) (c.call x) x) (hg : c.gl x = true) :
    PE X (.Call (.Name x p) [] [] pos) (TV X W (fCall c.call x fNil)) := by
  obtain ⟨k, f, fd, ps, n, FN, hr, hm, hk, hb, hn, hx⟩ := id ok.ok
  obtain ⟨E, hE1, hE2⟩ := call_E C hx
  have okn := SC.okG hg
  refine ⟨fun pins s σ H Q I h => ?_⟩
  refine wpAny_Call_Name_kw (L2.ld_glob I (C.gl hg) hm ?_ (okN_debug okn))
  obtain ⟨F, ι, m, en, sm, o⟩ := h
  have q := call_in (fs := fNil) (h := c.hot x) hn (hE2 σ) sm o
  obtain ⟨F2, ι2, m2, e2, s2, o2⟩ := q
  exact PySem.W.callWith_K0 I.kIn hk (run_fnS (us := []) FN hr hb (hE1 σ) I .nil (o2.now s2.mem Reps.nil))
end
end Cs

/-! Methods of lists, tuples, dicts. -/
namespace Cs
open PySem L2 PySem.Spec
section
variable {X : Cx} {c : SC} {W : EW} {a b e : Expr} {fa fb f : FE} {pos : Pos} {K : PySem.W.Frag} {F : Hp} {ι : List Addr} {H : Hp} {m : Mem} {σ : L2.St}
theorem strs_of : ∀ {ds : List D} {vs : List V}, (ds.all fun d => match d with | .str _ => true | _ => false) = true → Reps K F ι ds vs → ∃ ys : List Str, ds = ys.map D.str ∧ vs = ys.map V.str
  | [], vs, _, r => ⟨[], rfl, r.of_nil⟩
  | d :: ds, vs, h, r => by
    rw [List.all_cons, Bool.and_eq_true] at h
    obtain ⟨v, w, rfl, r1, r2⟩ := r.of_cons
    obtain ⟨ys, rfl, rfl⟩ := strs_of h.2 r2
    cases d with
    | str z => exact ⟨z :: ys, rfl, by rw [r1.strE]; rfl⟩
    | _ => simp at h
theorem nm_strs {ds : List D} {vs : List V} (h : nmT ds = true) (r : Reps K F ι ds vs) : ∃ ys : List Str, ds = ys.map D.str ∧ vs = ys.map V.str := by
  cases ds with
  | nil => cases h
  | cons d ds =>
    have h : ((d :: ds).all fun d => match d with | .str _ => true | _ => false) = true := h
    exact strs_of (ds := d :: ds) h r
theorem find_str (z : Str) : ∀ {ys : List Str} {i : Nat}, ((ys.map D.str).findIdx? fun y => eqD y (.str z)) = some i → ys[i]? = some z ∧ ∀ k, k < i → ys[k]? ≠ some z
  | [], i, h => by simp at h
  | y :: ys, i, h => by
    rw [List.map_cons, List.findIdx?_cons] at h
    simp only [eqD] at h
    by_cases e : y = z
    · subst e
      simp at h
      subst h
      exact ⟨rfl, fun k hk => absurd hk (Nat.not_lt_zero _)⟩
    · have e' : (y == z) = false := by simpa using e
      simp only [e', Bool.false_eq_true, if_false] at h
      obtain ⟨j, h1, rfl⟩ := Option.map_eq_some_iff.mp h
      obtain ⟨q1, q2⟩ := find_str z h1
      refine ⟨q1, fun k hk => ?_⟩
      cases k with
      | zero => simpa using e
      | succ k => simpa using q2 k (by omega)
/-- the type and the built-in of a method -/
def mthT : Mth → Rk → String × String
  | .append, _ => ("list", "list.append")
  | .extend, _ => ("list", "list.extend")
  | .pop, _ => ("list", "list.pop")
  | .get, _ => ("dict", "dict.get")
  | .update, _ => ("dict", "dict.update")
  | .index, .tup => ("tuple", "tuple.index")
  | .index, _ => ("list", "list.index")
theorem rk_lst {d : D} (h : rkD m d = some .lst) : ∃ ds, res m d = .lst ds := by
  unfold rkD at h
  split at h
  · exact ⟨_, by assumption⟩
  · split at h <;> cases h
  · cases h
  · cases h
  · cases h
theorem rk_tup {d : D} (h : rkD m d = some .tup) : ∃ ds, res m d = .tup ds ∧ nmT ds = true := by
  unfold rkD at h
  split at h
  · cases h
  · split at h
    · exact ⟨_, by assumption, by assumption⟩
    · cases h
  · cases h
  · cases h
  · cases h
theorem rk_dct {d : D} (h : rkD m d = some .dct) : ∃ ks ws, res m d = .dct ks ws := by
  unfold rkD at h
  split at h
  · cases h
  · split at h <;> cases h
  · exact ⟨_, _, by assumption⟩
  · cases h
  · cases h
theorem res_tup {d : D} {ds : List D} (h : res m d = .tup ds) : d = .tup ds := by
  cases d with
  | tup es => simpa [res] using h
  | ref n => rw [res_ref] at h; split at h <;> cases h
  | _ => simp [res] at h
/-- what is known of the receiver -/
theorem recv {pins : List (Addr × Obj)} {s : Shared} (I : L2.Inv X pins σ H s) (sm : SimM X.K F ι m H) {o : D} {x : V} {v : Value} {k : Rk} {f : Mth} (r : Rep X.K F ι o x) (rx : RelV x v) (hk : rkD m o = some k) (ok : mthOk f k = true) :
    s.TypeIs v (mthT f k).1 ∧ ∀ a, v = .ref a → ∃ ob, s.heap.get? a = some ob ∧ ob.dict = none := by
  have lst : k = .lst → s.TypeIs v "list" ∧ ∀ a, v = .ref a → ∃ ob, s.heap.get? a = some ob ∧ ob.dict = none := by
    rintro rfl
    obtain ⟨ds, e⟩ := rk_lst hk
    obtain ⟨p, vs, rfl, q, _⟩ := r.isLst sm e
    exact tyV_is I rx (.inl ⟨rfl, vs, q⟩)
  have dct : k = .dct → s.TypeIs v "dict" ∧ ∀ a, v = .ref a → ∃ ob, s.heap.get? a = some ob ∧ ob.dict = none := by
    rintro rfl
    obtain ⟨ks, ws, e⟩ := rk_dct hk
    obtain ⟨p, u, rfl, q, ⟨kvs, rfl, _⟩ | ⟨kvs, rfl, _⟩⟩ := r.isDct sm e
    · cases (show v = Value.ref p from rx)
      have := isD_at I (.inl ⟨kvs, q.rd⟩)
      exact ⟨this.1, this.2.1⟩
    · cases (show v = Value.ref p from rx)
      have := isD_at I (.inr ⟨kvs, q.rd⟩)
      exact ⟨this.1, this.2.1⟩
  have tup : k = .tup → s.TypeIs v "tuple" ∧ ∀ a, v = .ref a → ∃ ob, s.heap.get? a = some ob ∧ ob.dict = none := by
    rintro rfl
    obtain ⟨ds, e, n⟩ := rk_tup hk
    have := res_tup e
    subst this
    obtain ⟨p, vs, rfl, _, ⟨ob, u, q, hc, hd⟩ | ⟨ob, q, hc, hd⟩, _⟩ := r.tupT n
    · cases (show v = Value.ref p from rx)
      obtain ⟨e1, _⟩ := I.hok p _ (sm.sub _ _ q)
      refine ⟨⟨ob, e1, hc⟩, fun a z => ?_⟩
      cases z
      exact ⟨ob, e1, hd⟩
    · cases (show v = Value.ref p from rx)
      have e1 := I.kIn p ob q
      refine ⟨⟨ob, e1, hc⟩, fun a z => ?_⟩
      cases z
      exact ⟨ob, e1, hd⟩
  cases f <;> cases k <;> first | exact lst rfl | exact dct rfl | exact tup rfl | cases ok
/-- the call by values -/
theorem mth_call (C : Ctx X c W) {pins : List (Addr × Obj)} {s : Shared} (I : L2.Inv X pins σ H s) (sm : SimM X.K F ι m H) {o d : D} {as : List D} {m' : Mem} {x : V} {xs : List V} {v : Value} {us : List Value} {k : Rk} {f : Mth} {Q : VK}
    (r : Rep X.K F ι o x) (rs : Reps X.K F ι as xs) (rx : RelV x v) (rxs : Vals xs us) (e : mthD f k o as m = some (d, m'))
    (q : ∀ w F' ι' H', Ext F ι H F' ι' H' → SimM X.K F' ι' m' H' → Rep X.K F' ι' d w → Q w H') : wpAny (model X.prog X.w) X.A (call (.builtin (mthT f k).2) (v :: us)) (EP X pins σ Q) X.xe s := by
  have hu := C.hu
  have cell : ∀ {n : Nat} {g : List D → Option (D × List D)}, o = .ref n → cellM n m g = some (d, m') → ∃ p ds ds' vs, x = .ref p ∧ H p = some (.lst vs) ∧ Reps X.K F ι ds vs ∧ g ds = some (d, ds') ∧ ∀ ws w, Reps X.K F ι ds' ws → Rep X.K F ι d w → Q w (upd H p (.lst ws)) := by
    intro n g eo hg
    subst eo
    obtain ⟨p, rfl, hp⟩ := r.refE
    unfold cellM at hg
    split at hg
    · rename_i ds hc
      obtain ⟨⟨d1, ds'⟩, h1, h2⟩ := Option.map_eq_some_iff.mp hg
      simp only [Prod.mk.injEq] at h2
      obtain ⟨rfl, rfl⟩ := h2
      obtain ⟨u, h2, vs, rfl, rv⟩ := sm.at hp hc
      refine ⟨p, ds, ds', vs, rfl, h2, rv, h1, fun ws w rw' rd => ?_⟩
      obtain ⟨x1, s1⟩ := sm.put hp hc (.lst ws) (c := .lst ds') ⟨ws, rfl, rw'⟩
      exact q _ _ _ _ x1 s1 rd
    · cases hg
  have now : ∀ {w}, m' = m → Rep X.K F ι d w → Q w H := fun {w} z rw' => q w F ι H (Ext.refl _ _ _) (z ▸ sm) rw'
  cases f with
  | append =>
    cases k with
    | lst =>
      replace e : appM o as m = some (d, m') := e
      unfold appM at e
      split at e
      · rename_i n y
        obtain ⟨p, ds, ds', vs, rfl, hH, rv, hg, fin⟩ := cell rfl e
        obtain ⟨y', rfl, ry⟩ := rs.one'
        split at hg
        · rename_i hz
          cases hg
          exact mt_append pins s σ H _ _ v us Q I rx rxs ⟨p, vs, y', rfl, rfl, hH, by rw [rv.length]; exact hz, fin _ _ (rv.append (Reps.one ry)) Rep.nonI⟩
        · cases hg
      · cases e
    | _ => cases e
  | extend =>
    cases k with
    | lst =>
      replace e : extM o as m = some (d, m') := e
      unfold extM at e
      split at e
      · rename_i n y
        obtain ⟨es, e1, e2⟩ := Option.bind_eq_some_iff.mp e
        obtain ⟨p, ds, ds', vs, rfl, hH, rv, hg, fin⟩ := cell rfl e2
        obtain ⟨y', rfl, ry⟩ := rs.one'
        obtain ⟨p2, ws, rfl, hH2, rw2⟩ := ry.isLstT sm e1
        split at hg
        · rename_i hz
          cases hg
          exact mt_extend pins s σ H _ _ v us Q I rx rxs ⟨p, p2, vs, ws, rfl, rfl, hH, hH2, by rw [rv.length, rw2.length]; exact hz, fin _ _ (rv.append rw2) Rep.nonI⟩
        · cases hg
      · cases e
    | _ => cases e
  | pop =>
    cases k with
    | lst =>
      replace e : popM o as m = some (d, m') := e
      unfold popM at e
      split at e
      · rename_i n
        obtain ⟨p, ds, ds', vs, rfl, hH, rv, hg, fin⟩ := cell rfl e
        obtain ⟨d1, h1, h2⟩ := Option.map_eq_some_iff.mp hg
        simp only [Prod.mk.injEq] at h2
        obtain ⟨rfl, rfl⟩ := h2
        obtain ⟨w, h3, rw3⟩ := rv.get h1
        cases rs.of_nil
        refine mt_pop pins s σ H _ _ v us Q I rx rxs ⟨p, vs, w, rfl, rfl, hH, by rw [rv.length]; exact h3, fin _ _ ?_ rw3⟩
        rw [List.dropLast_eq_take, List.dropLast_eq_take, rv.length]
        exact rv.take _
      · cases e
    | _ => cases e
  | get =>
    cases k with
    | dct =>
      replace e : getM o as m = some (d, m') := e
      unfold getM at e
      split at e
      · rename_i key
        obtain ⟨y, rfl, ry⟩ := rs.one'
        split at e
        · rename_i ks ws e1
          split at e
          · rename_i ok
            simp only [Option.some.injEq, Prod.mk.injEq] at e
            obtain ⟨e2, e3⟩ := e
            obtain ⟨p, H', ov, rfl, I', g, back, mt⟩ := dget I sm r e1 ok ry
            cases (show v = Value.ref p from rx)
            obtain ⟨u, rfl, ru⟩ := rxs.one
            have : ∃ w, ov.getD .non = w ∧ Rep X.K F ι d w := by
              rw [← e2]
              cases z : getK ks ws key <;> cases z2 : ov <;> simp only [z, z2] at mt
              · exact ⟨_, rfl, Rep.nonI⟩
              · exact ⟨_, rfl, mt⟩
            obtain ⟨w, ew, rw'⟩ := this
            refine d_get1 (by omega) I' g ru fun w' s3 I3 rr => ⟨w, H, back _ I3, ?_, now e3.symm rw'⟩
            rw [← ew]; exact rr
          · cases e
        · cases e
      · rename_i key dft
        obtain ⟨y, y2, rfl, ry, ry2⟩ := rs.two'
        split at e
        · rename_i ks ws e1
          split at e
          · rename_i ok
            simp only [Option.some.injEq, Prod.mk.injEq] at e
            obtain ⟨e2, e3⟩ := e
            obtain ⟨p, H', ov, rfl, I', g, back, mt⟩ := dget I sm r e1 ok ry
            cases (show v = Value.ref p from rx)
            obtain ⟨u, u2, rfl, ru, ru2⟩ := rxs.two
            have : ∃ w, ov.getD y2 = w ∧ Rep X.K F ι d w := by
              rw [← e2]
              cases z : getK ks ws key <;> cases z2 : ov <;> simp only [z, z2] at mt
              · exact ⟨_, rfl, ry2⟩
              · exact ⟨_, rfl, mt⟩
            obtain ⟨w, ew, rw'⟩ := this
            refine d_get2 (by omega) I' g ru ru2 fun w' s3 I3 rr => ⟨w, H, back _ I3, ?_, now e3.symm rw'⟩
            rw [← ew]; exact rr
          · cases e
        · cases e
      · cases e
    | _ => cases e
  | update =>
    cases k with
    | dct =>
      replace e : updM o as m = some (d, m') := e
      unfold updM at e
      split at e
      · rename_i n kr vr
        split at e
        · rename_i ks ws hc
          split at e
          · rename_i ok
            have e := Option.some.inj e
            rw [Prod.mk.injEq] at e
            obtain ⟨rfl, rfl⟩ := e
            rw [Bool.and_eq_true, Bool.and_eq_true, decide_eq_true_eq] at ok
            obtain ⟨⟨k1, k2⟩, hz⟩ := ok
            obtain ⟨y', rfl, ry⟩ := rs.one'
            obtain ⟨p, rfl, hp⟩ := r.refE
            obtain ⟨hFp, u1, hH1, rc1⟩ := sm.cell _ _ _ hp hc
            obtain ⟨b, u2, rfl, hH2, rc2⟩ := ry.isDct sm (ks := kr) (ws := vr) rfl
            have hb : F b ≠ none := by
              simp only [Rep] at ry
              obtain ⟨b', eb, ⟨kvs, q1, _⟩ | ⟨kvs, q1, _⟩⟩ := ry
              · cases eb
                rcases q1 with q1 | ⟨_, _, oo, q1⟩ <;> rw [q1] <;> exact fun z => nomatch z
              · cases eb
                rcases q1 with q1 | ⟨_, _, oo, q1⟩ <;> rw [q1] <;> exact fun z => nomatch z
            have hpb : p ≠ b := fun z => hb (z ▸ hFp)
            obtain ⟨H1, kvs, I1, hR1, hU1, hN1, rfl, rs1, back1⟩ := dk_flat I (.inl hH1) rc1 k1
            have hH2' : RdE H1 b u2 := by
              rcases hH2 with z | ⟨z1, z2, oo, z⟩
              · exact .inl (by rw [hN1 b hpb.symm]; exact z)
              · exact .inr ⟨z1, z2, oo, by rw [hN1 b hpb.symm]; exact z⟩
            obtain ⟨H2, kvs2, I2, hR2, hU2, hN2, rfl, rs2, back2⟩ := dk_flat I1 hH2' rc2 k2
            have hp2 : H2 p = some (.dK kvs) := by rw [hN2 p hpb]; exact hU1 hH1
            cases (show v = Value.ref p from rx)
            obtain ⟨u', rfl, ru⟩ := rxs.one
            cases (show u' = Value.ref b from ru)
            simp only [List.length_map] at hz
            obtain ⟨_, _, vs, rel, o2, es, ep, _, _, _, _, _, nd⟩ := I2.hok p _ hp2
            have nd' : (kvs.map (·.1)).Nodup := by
              have : kvs.map (·.1) = vs.map (·.1) := paired_keys rel
              rw [this]; exact nd
            have hl := rs2.length
            obtain ⟨g1, g2⟩ := merge_rep (kvs2.map (·.1)) vr (kvs2.map (·.2)) kvs ws nd' rs1 rs2 (by simpa using hl)
            have ez : (kvs2.map (·.1)).zip (kvs2.map (·.2)) = kvs2 := by
              rw [List.zip_map', List.map_id'']
              intro x
              rfl
            rw [ez] at g1 g2
            simp only [List.map_map] at g1 g2
            obtain ⟨x1, s1⟩ := sm.put hp hc (.dK (mergeK kvs kvs2)) (c := .dct (mergeD (kvs.map fun p => kd p.1) ws (kvs2.map fun p => kd p.1) vr).1 (mergeD (kvs.map fun p => kd p.1) ws (kvs2.map fun p => kd p.1) vr).2) (.inl ⟨_, rfl, g1, g2⟩)
            refine update_meets I2 hp2 hR2 hpb hz fun s3 I3 => ⟨.non, upd H p (.dK (mergeK kvs kvs2)), ?_, rfl, q _ _ _ _ x1 s1 Rep.nonI⟩
            have e1 := back2 _ s3 (by rw [upd_ne hpb.symm]) I3
            have e2 := back1 (upd H1 p (.dK (mergeK kvs kvs2)))
            have e3 : (fun c => if c = b then H1 b else upd H2 p (.dK (mergeK kvs kvs2)) c) = upd H p (.dK (mergeK kvs kvs2)) := by
              funext c
              by_cases z : c = b
              · subst z; rw [if_pos rfl, upd_ne hpb.symm, hN1 c hpb.symm]
              · rw [if_neg z]
                by_cases z2 : c = p
                · subst z2; rw [upd_same, upd_same]
                · rw [upd_ne z2, upd_ne z2, hN2 c z, hN1 c z2]
            rw [e3] at e1
            exact e1
          · cases e
        · cases e
      · cases e
    | _ => cases e
  | index =>
    cases k with
    | lst =>
      replace e : idxL o as m = some (d, m') := e
      unfold idxL at e
      split at e
      · rename_i z
        obtain ⟨y, rfl, ry⟩ := rs.one'
        cases ry.strE
        split at e
        · rename_i ds e1
          split at e
          · rename_i n
            obtain ⟨i, h1, h2⟩ := Option.map_eq_some_iff.mp e
            simp only [Prod.mk.injEq] at h2
            obtain ⟨rfl, rfl⟩ := h2
            obtain ⟨p, vs, rfl, q1, rv⟩ := r.isLst sm e1
            obtain ⟨ys, rfl, rfl⟩ := nm_strs n rv
            obtain ⟨h3, h4⟩ := find_str z h1
            refine mt_index pins s σ H _ _ v us Q I rx rxs ⟨p, ys.map V.str, .str z, i, .str z, rfl, rfl, q1, rfl, ?_, ?_, ?_, fun k z' hk hz => ?_, now rfl Rep.intI⟩
            · rw [List.all_map, List.all_eq_true]; intro _ _; rfl
            · rw [List.getElem?_map, h3]; rfl
            · simp [eqV]
            · rw [List.getElem?_map] at hz
              obtain ⟨y, hy, rfl⟩ := Option.map_eq_some_iff.mp hz
              have : y ≠ z := fun w => h4 k hk (by rw [hy, w])
              simpa [eqV] using this
          · cases e
        · cases e
      · cases e
    | tup =>
      replace e : idxT o as m = some (d, m') := e
      unfold idxT at e
      split at e
      · rename_i z
        obtain ⟨y, rfl, ry⟩ := rs.one'
        cases ry.strE
        split at e
        · rename_i ds e1
          split at e
          · rename_i n
            obtain ⟨i, h1, h2⟩ := Option.map_eq_some_iff.mp e
            simp only [Prod.mk.injEq] at h2
            obtain ⟨rfl, rfl⟩ := h2
            obtain ⟨p, vs, rfl, q1, rv, _⟩ := r.isTup sm e1
            obtain ⟨ys, rfl, rfl⟩ := nm_strs n rv
            obtain ⟨h3, h4⟩ := find_str z h1
            exact mt_tup_index pins s σ H _ _ v us Q I rx rxs ⟨p, ys, z, i, rfl, rfl, q1, h3, h4, now rfl Rep.intI⟩
          · cases e
        · cases e
      · cases e
    | _ => cases e
end
end Cs

/-! Calls of methods; written dicts. -/
namespace Cs
open PySem L2 PySem.Spec
section
variable {X : Cx} {c : SC} {W : EW} {a b e : Expr} {fa fb f : FE} {pos : Pos} {K : PySem.W.Frag} {F : Hp} {ι : List Addr} {H : Hp} {m : Mem} {σ : L2.St}
theorem mth_slot {f : Mth} {name : Str} {x : Str} (hx : ∀ z, lkp z mthTab = some f → strEq z x = true) (h : lkp name mthTab = some f) : name = x := strEq_eq (hx name h)
theorem lkp_mth {f : Mth} {name : Str} (h : lkp name mthTab = some f) : (f = .append ∧ name = "append") ∨ (f = .extend ∧ name = "extend") ∨ (f = .pop ∧ name = "pop") ∨ (f = .get ∧ name = "get") ∨ (f = .index ∧ name = "index") ∨ (f = .update ∧ name = "update") := by
  obtain ⟨y, e, q⟩ := lkp_all (P := fun y f => (f = Mth.append ∧ y = ("append" : Str)) ∨ (f = .extend ∧ y = "extend") ∨ (f = .pop ∧ y = "pop") ∨ (f = .get ∧ y = "get") ∨ (f = .index ∧ y = "index") ∨ (f = .update ∧ y = "update")) mthTab (by
    intro q hq
    simp only [mthTab, List.mem_cons, List.not_mem_nil, or_false] at hq
    rcases hq with rfl | rfl | rfl | rfl | rfl | rfl <;> simp) h
  rw [strEq_eq e]
  exact q
theorem mth_facts {f : Mth} {k : Rk} {name : Str} (h : lkp name mthTab = some f) (ok : mthOk f k = true) : PlainAttrs (mthT f k).1 ∧ Slot (mthT f k).1 name (mthT f k).2 ∧ typeOf (.builtin (mthT f k).2) = pure (.type "method_descriptor") := by
  rcases lkp_mth h with ⟨rfl, rfl⟩ | ⟨rfl, rfl⟩ | ⟨rfl, rfl⟩ | ⟨rfl, rfl⟩ | ⟨rfl, rfl⟩ | ⟨rfl, rfl⟩
  · cases k with
    | lst => exact ⟨PySem.F.plainAttrs_list, PySem.F.slot_list_append, PySem.F.type_list_append⟩
    | _ => cases ok
  · cases k with
    | lst => exact ⟨PySem.F.plainAttrs_list, PySem.F.slot_list_extend, PySem.F.type_list_extend⟩
    | _ => cases ok
  · cases k with
    | lst => exact ⟨PySem.F.plainAttrs_list, PySem.F.slot_list_pop, PySem.F.type_list_pop⟩
    | _ => cases ok
  · cases k with
    | dct => exact ⟨PySem.F.plainAttrs_dict, PySem.F.slot_dict_get, PySem.F.type_dict_get⟩
    | _ => cases ok
  · cases k with
    | lst => exact ⟨PySem.F.plainAttrs_list, PySem.F.slot_list_index, PySem.F.type_list_index⟩
    | tup => exact ⟨PySem.F.plainAttrs_tuple, PySem.F.slot_tuple_index, PySem.F.type_tuple_index⟩
    | _ => cases ok
  · cases k with
    | dct => exact ⟨PySem.F.plainAttrs_dict, PySem.F.slot_dict_update, PySem.F.type_dict_update⟩
    | _ => cases ok
theorem attr_base {o : Expr} (name : Str) (env : PySem.Env) (h : attrOk o = true) : attributeBase o name env (eval o env) = eval o env := by
  cases o with
  | Call fn args kws pos =>
    cases fn with
    | Name x p =>
      cases args with
      | nil =>
        cases kws with
        | nil => cases h
        | cons _ _ => rfl
      | cons _ _ => rfl
    | _ => rfl
  | _ => rfl
theorem d_mth (C : Ctx X c W) {o : Expr} {fo : FE} {name : Str} {apos : Pos} {args : List Expr} {g : Expr → FE} {f : Mth} (hm : lkp name mthTab = some f) (hs : noStar args = true) (h2 : attrOk o = true) (hline : (apos.endLine == pos.line) = true) (hlen : args.length < 20)
    (ho : PE X o (TV X W fo)) (ha : PA X args (TLs X W (listF g args))) : PE X (.Call (.Attribute o name apos) args [] pos) (TV X W (fMth f fo (listF g args))) := by
  refine ⟨fun pins s σ H Q I ⟨F, ι, m, en, sim, o1⟩ => ?_⟩
  generalize hfs : listF g args = fs at o1 ha
  have hfew : ((backTo pos (starEach args X.env)).all (fun x => !x.1) && (backToKw pos (keywordEach [] X.env)).all (fun x => x.1.isSome)
      && decide (args.length + ([] : List Keyword).length + (if ([] : List Keyword).isEmpty then 0 else 1) < 30)) = true := by
    rw [Bool.and_eq_true, Bool.and_eq_true]
    refine ⟨⟨?_, rfl⟩, by simp; omega⟩
    have := star_any (env := X.env) (p := pos) hs
    rw [List.any_eq_false] at this
    rw [List.all_eq_true]
    intro x hx
    simpa using this x hx
  refine wpAny_Call_method_late (attr_base name X.env h2) hfew hline rfl ?_
  have main := Obnd (W := W) (R := RV X.K) (g := fun o m => match rkD m o with
    | some k => if mthOk f k then bnd (fs en m) fun ds m => match mthD f k o ds m with
        | some (d, m) => .ok d m
        | none => .bad
      else .bad
    | none => .bad) (f := fo) (Q := Q) (P := fun x H1 => ∃ F1 ι1 m1 d k, Sim X.K F1 ι1 en m1 σ H1 ∧ Rep X.K F1 ι1 d x ∧ rkD m1 d = some k ∧ mthOk f k = true ∧
      Out X.K W (RV X.K) F1 ι1 σ H1 (bnd (fs en m1) fun ds m => match mthD f k d ds m with
        | some (d, m) => .ok d m
        | none => .bad) Q) RV.down sim o1 fun x F1 ι1 H1 m1 d s1 r x1 o2 => by
      cases z : rkD m1 d with
      | none => simp only [z] at o2; exact False.elim o2
      | some k =>
        simp only [z] at o2
        cases ok : mthOk f k with
        | false => simp only [ok] at o2; exact False.elim o2
        | true => simp only [ok] at o2; exact ⟨F1, ι1, m1, d, k, s1, r, z, ok, o2⟩
  refine thn (ho.run pins s σ H _ I main) fun v s1 ⟨x, H1, I1, rx, F1, ι1, m1, d, k, sm1, r, z, ok, o2⟩ => ?_
  obtain ⟨pa, slot, hty⟩ := mth_facts hm ok
  obtain ⟨t1, t2⟩ := recv I1 sm1.mem r rx z ok
  refine ⟨_, _, pa, slot, hty, t1, t2, ?_⟩
  have fin := Obnd (W := W) (R := RL X.K) (f := fs) (g := fun ds m => match mthD f k d ds m with
        | some (d, m) => .ok d m
        | none => .bad) (Q := Q) (P := fun xs H2 => ∃ F2 ι2 m2 ds d' m', SimM X.K F2 ι2 m2 H2 ∧ Rep X.K F2 ι2 d x ∧ Reps X.K F2 ι2 ds xs ∧ mthD f k d ds m2 = some (d', m') ∧
        ∀ w F' ι' H', Ext F2 ι2 H2 F' ι' H' → SimM X.K F' ι' m' H' → Rep X.K F' ι' d' w → Q w H') RV.down sm1 o2 fun xs F2 ι2 H2 m2 ds s2 r2 x2 o3 => by
      cases z2 : mthD f k d ds m2 with
      | none => simp only [z2] at o3; exact False.elim o3
      | some p => simp only [z2] at o3; exact ⟨F2, ι2, m2, ds, p.1, p.2, s2.mem, r.ext x2, r2, z2, o3⟩
  cases args with
  | nil =>
    subst hfs
    obtain ⟨F2, ι2, m2, en2, s2, o2⟩ := fin
    obtain ⟨F3, ι3, m3, ds, d', m', sm3, rd, rds, e, q⟩ := o2.now s2.mem Reps.nil
    exact Calls.callWith_builtin rfl (PySem.evalArgs_none (mth_call C I1 sm3 rd rds rx .nil e q))
  | cons a r =>
    have hA := ha.run pos pins s1 σ H1 _ I1 fin
    have hs' := hs
    unfold noStar at hs'
    rw [List.all_cons, Bool.and_eq_true] at hs'
    rw [unstar_each hs'.1] at hA ⊢
    refine Calls.callWith_builtin (by show (false || (backTo pos (starEach r X.env)).any (·.1)) = false; rw [star_any hs'.2] <;> rfl) (Calls.evalArgs_plain ?_)
    exact thn hA fun us s2 ⟨vs, H2, I2, r2, F2, ι2, m2, ds, d', m', sm2, rd, rds, e, q⟩ => mth_call C I2 sm2 rd rds rx r2 e q
end
end Cs

/-! Targets; what is walked. -/
namespace Cs
open PySem L2 PySem.Spec
section
variable {X : Cx} {c : SC} {W : EW} {a b e : Expr} {fa fb f : FE} {pos : Pos} {K : PySem.W.Frag} {F F1 : Hp} {ι ι1 : List Addr} {H H1 : Hp} {m m1 : Mem} {σ : L2.St}
/-! ### targets -/
/-- the frame but for some slots -/
structure Off (is : List Nat) (σ σ' : L2.St) : Prop where
  len : σ'.length = σ.length
  at' : ∀ i : Nat, i ∉ is → σ'[i]? = σ[i]?
theorem Off.refl (is : List Nat) (σ : L2.St) : Off is σ σ := ⟨rfl, fun _ _ => rfl⟩
theorem Off.trans {is js : List Nat} {σ σ1 σ2 : L2.St} (h : Off is σ σ1) (h2 : Off js σ1 σ2) : Off (is ++ js) σ σ2 :=
  ⟨h2.len.trans h.len, fun i hi => (h2.at' i fun z => hi (List.mem_append_right _ z)).trans (h.at' i fun z => hi (List.mem_append_left _ z))⟩
theorem wipe_at (σ : L2.St) : ∀ (vs : List Nat) (i : Nat), (L2.wipe σ vs)[i]? = if i ∈ vs then (σ[i]?).map (fun _ => none) else σ[i]?
  | [], i => by simp [L2.wipe]
  | v :: vs, i => by
    have ih := wipe_at σ vs i
    show ((L2.wipe σ vs).set v none)[i]? = _
    by_cases q : v = i
    · subst q
      rw [List.getElem?_set_self', ih]
      by_cases q2 : v ∈ vs
      · rw [if_pos q2, if_pos List.mem_cons_self]
        cases σ[v]? <;> rfl
      · rw [if_neg q2, if_pos List.mem_cons_self]
        rfl
    · rw [List.getElem?_set_ne q, ih]
      have : (i ∈ v :: vs) ↔ i ∈ vs := by rw [List.mem_cons]; exact ⟨fun z => z.resolve_left (Ne.symm q), .inr⟩
      simp only [this]
theorem Off.wipe {is vs : List Nat} {σ σ' : L2.St} (h : Off is (L2.wipe σ vs) σ') (hs : ∀ i ∈ is, i ∈ vs) : L2.wipe σ' vs = L2.wipe σ vs := by
  apply List.ext_getElem?
  intro i
  rw [wipe_at, wipe_at]
  have hl := h.len
  rw [wipe_length] at hl
  by_cases q : i ∈ vs
  · rw [if_pos q, if_pos q]
    by_cases z : i < σ.length
    · rw [List.getElem?_eq_getElem z, List.getElem?_eq_getElem (by omega)]; rfl
    · rw [List.getElem?_eq_none (by omega), List.getElem?_eq_none (by omega)]
  · rw [if_neg q, if_neg q, h.at' i (fun z => q (hs i z)), wipe_at, if_neg q]
def gT (K : PySem.W.Frag) (t : Tgt) : TG := fun v σ H Q => ∃ F ι m e d e', Sim K F ι e m σ H ∧ Rep K F ι d v ∧ bindT t d e = some e' ∧ ∀ σ', Sim K F ι e' m σ' H → Off (slotsT t) σ σ' → Q σ' H
def gTs (K : PySem.W.Frag) (t : List Tgt) : TGs := fun vs σ H Q => ∃ F ι m e ds e', Sim K F ι e m σ H ∧ Reps K F ι ds vs ∧ bindL t ds e = some e' ∧ ∀ σ', Sim K F ι e' m σ' H → Off (slotsL t) σ σ' → Q σ' H
theorem pg_weak {t t' : TG} (h : PG X e t) (k : ∀ v σ H Q, t' v σ H Q → t v σ H Q) : PG X e t' := ⟨fun pins s σ H v u Q I r q => h.run pins s σ H v u Q I r (k v σ H Q q)⟩
theorem pgs_weak {es : List Expr} {t t' : TGs} (h : PGs X es t) (k : ∀ v σ H Q, t' v σ H Q → t v σ H Q) : PGs X es t' := ⟨fun pins s σ H v u Q I r q => h.run pins s σ H v u Q I r (k v σ H Q q)⟩
theorem bindL_len : ∀ {ts : List Tgt} {ds : List D} {e e' : Sto}, bindL ts ds e = some e' → ds.length = ts.length
  | [], [], _, _, _ => rfl
  | [], _ :: _, _, _, h => by simp [bindL] at h
  | _ :: _, [], _, _, h => by simp [bindL] at h
  | t :: ts, d :: ds, e, e', h => by
    unfold bindL at h
    obtain ⟨e1, _, h2⟩ := Option.bind_eq_some_iff.mp h
    rw [List.length_cons, List.length_cons, bindL_len h2]
theorem tgt_no {tg : Expr} {n : Nat} {t : Tgt} (h : tgtX c n tg = some t) : unstar tg = true := by
  cases n with
  | zero => simp [tgtX] at h
  | succ n =>
    cases tg with
    | Starred _ _ => simp [tgtX] at h
    | _ => rfl
theorem tgts_no : ∀ {n : Nat} {es : List Expr} {ts : List Tgt}, tgtsX c n es = some ts → noStar es = true ∧ ts.length = es.length
  | 0, _, _, h => by simp [tgtsX] at h
  | n + 1, [], ts, h => by
    simp only [tgtsX] at h
    cases h
    exact ⟨rfl, rfl⟩
  | n + 1, e :: r, ts, h => by
    simp only [tgtsX] at h
    cases h1 : tgtX c n e with
    | none => rw [h1] at h; simp at h
    | some t =>
      cases h2 : tgtsX c n r with
      | none => rw [h1, h2] at h; simp at h
      | some us =>
        rw [h1, h2] at h
        cases h
        obtain ⟨q1, q2⟩ := tgts_no h2
        refine ⟨?_, by simp [q2]⟩
        unfold noStar at q1 ⊢
        rw [List.all_cons, tgt_no h1, q1]; rfl
theorem assign_each : ∀ {es : List Expr} {env : PySem.Env}, noStar es = true → assignEach es env = es.map fun e => (false, assign e env)
  | [], _, _ => rfl
  | a :: r, env, h => by
    unfold noStar at h
    rw [List.all_cons, Bool.and_eq_true] at h
    have ih := assign_each (es := r) (env := env) h.2
    cases a with
    | Starred _ _ => cases h.1
    | _ => rw [List.map_cons, ← ih]; rfl
mutual
theorem d_tgt (C : Ctx X c W) : ∀ (n : Nat) (tg : Expr) (t : Tgt), tgtX c n tg = some t → PG X tg (gT X.K t)
  | 0, _, _, h => by simp [tgtX] at h
  | n + 1, tg, t, h => by
    cases tg with
    | Name x p =>
      simp only [tgtX] at h
      obtain ⟨i, h1, rfl⟩ := Option.map_eq_some_iff.mp h
      obtain ⟨q1, q2, q3⟩ := C.slotW h1
      refine pg_weak (pg_name C.nd q1 q2 q3) fun v σ H Q ⟨F, ι, m, e, d, e', s, r, hb, q⟩ => ?_
      simp only [bindT] at hb
      cases hb
      refine q _ (s.set r) ⟨by rw [List.length_set], fun j hj => ?_⟩
      rw [List.getElem?_set_ne]
      intro z
      exact hj (by simp [slotsT, z])
    | Tuple es k p =>
      simp only [tgtX] at h
      obtain ⟨ts, h1, rfl⟩ := Option.map_eq_some_iff.mp h
      obtain ⟨q1, q2⟩ := tgts_no h1
      have ae := assign_each (env := X.env) q1
      refine pg_weak (pg_tup C.calm (d_tgts C n es ts h1) (n := es.length) (by rw [ae, List.length_map]) ?_) fun v σ H Q ⟨F, ι, m, e, d, e', s, r, hb, q⟩ => ?_
      · rw [ae, List.findIdx?_eq_none_iff]
        intro x hx
        obtain ⟨_, _, rfl⟩ := List.mem_map.mp hx
        rfl
      · cases d with
        | tup ds =>
          simp only [bindT] at hb
          obtain ⟨a, vs, rfl, q3, rs⟩ := r.tupE
          exact ⟨a, vs, rfl, SqT.sub q3 s.mem, by rw [rs.length, bindL_len hb, q2], F, ι, m, e, ds, e', s, rs, hb, q⟩
        | _ => simp [bindT] at hb
    | _ => simp [tgtX] at h
theorem d_tgts (C : Ctx X c W) : ∀ (n : Nat) (es : List Expr) (ts : List Tgt), tgtsX c n es = some ts → PGs X es (gTs X.K ts)
  | 0, _, _, h => by simp [tgtsX] at h
  | n + 1, [], ts, h => by
    simp only [tgtsX] at h
    cases h
    refine pgs_weak pgs_nil fun vs σ H Q ⟨F, ι, m, e, ds, e', s, r, hb, q⟩ => ?_
    cases ds with
    | nil =>
      simp only [bindL] at hb
      cases hb
      exact ⟨r.of_nil, q σ s (Off.refl _ _)⟩
    | cons _ _ => simp [bindL] at hb
  | n + 1, e0 :: es, ts, h => by
    have hno := tgts_no h
    simp only [tgtsX] at h
    cases h1 : tgtX c n e0 with
    | none => rw [h1] at h; simp at h
    | some t =>
      cases h2 : tgtsX c n es with
      | none => rw [h1, h2] at h; simp at h
      | some us =>
        rw [h1, h2] at h
        cases h
        have ae := assign_each (env := X.env) hno.1
        refine pgs_weak (pgs_cons (d_tgt C n e0 t h1) (d_tgts C n es us h2) ?_) fun vs σ H Q ⟨F, ι, m, e, ds, e', s, r, hb, q⟩ => ?_
        · rw [ae, assign_each (tgts_no h2).1]; rfl
        · cases ds with
          | nil => simp [bindL] at hb
          | cons d ds =>
            unfold bindL at hb
            obtain ⟨e1, hb1, hb2⟩ := Option.bind_eq_some_iff.mp hb
            obtain ⟨v, w, rfl, r1, r2⟩ := r.of_cons
            exact ⟨v, w, rfl, F, ι, m, e, d, e1, s, r1, hb1, fun σ' s' o' => ⟨F, ι, m, e1, ds, e', s', r2, hb2, fun σ2 s2 o2 => q σ2 s2 (by
              show Off (slotsT t ++ slotsL us) σ σ2
              exact o'.trans o2)⟩⟩
end
end
end Cs

/-! enumerate over a tuple. -/
namespace Cs
open PySem L2 PySem.Spec PyProof.Rows
open Sem (wp)
set_option maxHeartbeats 1000000 in
theorem meets_enum1 {v : Value} {o : Obj} {H : Heap → Prop} (B : Begins v o H) :
    Meets (Builtin.«enumerate.__new__» ⟨[.type "enumerate", v], []⟩) (fun _ R s => H s.heap ∧
      R (.ok (.ret (.ref (s.heap.push o).objs.size))) { s with heap := (s.heap.push o).push { cls := .type "enumerate", data := .fields #[.none, .bool false, .ref s.heap.objs.size, rawInt 0, .none, .none] } }) :=
  .of_wp fun prog w A R s h => by
    obtain ⟨hp, g, d, tk, os⟩ := s; obtain ⟨h1, h⟩ := h
    have hsub := sub_enumerate
    have q1 : ∀ {A' : Around} {E : Value → Shared → Prop} {Q : Value → Shared → Prop}, Q (.ref hp.objs.size) ⟨hp.push o, g, d, tk, os⟩ → wpAny (model prog w) A' (pyIter v) Q E ⟨hp, g, d, tk, os⟩ :=
      fun q => B.iter prog w _ _ ⟨hp, g, d, tk, os⟩ _ h1 q
    wp_walk using q1
    refine wpAny_stack_any fun st => wpAny_pure ?_
    split
    · rename_i c _ _ _ _ _
      cases (c == Value.type "enumerate")
      · wp_walk using q1
        exact ⟨_, rfl, h⟩
      · wp_walk using q1
        exact ⟨_, rfl, h⟩
    · wp_walk using q1
      exact ⟨_, rfl, h⟩
theorem call_enum1 {prog : Program} {w : World} {A : Around} {E : Value → Shared → Prop} {s : Shared} {v : Value} {o : Obj} {H : Heap → Prop} {Q : Value → Shared → Prop} (B : Begins v o H) (h1 : H s.heap)
    (h : ∀ h', IsEnum h' (s.heap.objs.size + 1) s.heap.objs.size 0 .none → h'.get? s.heap.objs.size = some o → h'.objs.size = s.heap.objs.size + 2 →
      (∀ b o, s.heap.get? b = some o → h'.get? b = some o) → Q (.ref (s.heap.objs.size + 1)) { s with heap := h' }) :
    wpAny (model prog w) A (call (.type "enumerate") [v]) Q E s := by
  refine callType_new F.called_enumerate (by decide) (F.typeCall_enumerate_1 _) (F.newCall_enumerate_1 _) (fun obj => F.args_object_init_2 obj _) F.entry_enumerate_new
    (meets_enum1 B) ⟨h1, ?_⟩
  have hz : (s.heap.push o).objs.size = s.heap.objs.size + 1 := Heap.size_push ..
  show _ ∧ _
  rw [hz]
  have he : IsEnum ((s.heap.push o).push { cls := .type "enumerate", data := .fields #[.none, .bool false, .ref s.heap.objs.size, rawInt 0, .none, .none] }) (s.heap.objs.size + 1) s.heap.objs.size 0 .none := by
    have := Heap.get?_push_size (s.heap.push o) (o := { cls := .type "enumerate", data := .fields #[.none, .bool false, .ref s.heap.objs.size, rawInt 0, .none, .none] }) rfl
    rw [hz] at this; exact this
  refine ⟨⟨_, he, rfl⟩, h _ he (Heap.get?_push_of_some _ (Heap.get?_push_size _ B.free)) (by rw [Heap.size_push, hz]) fun b o x => Heap.get?_push_of_some _ (Heap.get?_push_of_some _ x)⟩
/-- the tuple at a as it stands at each turn, each item in a new pair -/
def IteT (K : PySem.W.Frag) (a : Addr) : It :=
  ⟨fun i H => ∃ (xs : List V) (x : V), SqT K H a xs ∧ xs[i]? = some x, fun i H v H' => ∃ T x, v = .ref T ∧ H T = none ∧ H' = upd H T (.tup [.int (i : Nat), x]) ∧ ∀ xs, SqT K H a xs → xs[i]? = some x, fun i H => ∃ xs : List V, SqT K H a xs ∧ xs.length ≤ i⟩
theorem turn_enumT {P : Program} {w : World} {K : PySem.W.Frag} {elts : List Expr} {kk : Nat} {tpos : Pos} (a e it : Addr) (hea : e ≠ a) (hia : it ≠ a) :
    Turn P w K (.Tuple elts kk tpos) (IteT K a) [e, it] e (fun i h => (∃ old, IsEnum h e it ((i : Nat) : Int) old) ∧ h.IsTupleIter it a i ∧ e ≠ it) where
  mem := by simp
  obj := fun i h st b hb => by
    obtain ⟨⟨old, he⟩, ⟨o, ho, hc, hd⟩, _⟩ := st
    have e' : b = e ∨ b = it := by simpa using hb
    rcases e' with z | z
    · rw [z]; exact ⟨_, he, fun v q => nomatch q⟩
    · rw [z]; exact ⟨o, ho, fun v q => by rw [hd] at q; cases q⟩
  keep := fun i h h' st k => let ⟨⟨old, he⟩, hi, hne⟩ := st; ⟨⟨old, k e (by simp) _ he⟩, hi.at fun o q => k it (by simp) o q, hne⟩
  item := by
    intro X hP hw hK hc i pins s σ H E I hf st hg
    subst hP hw hK
    obtain ⟨⟨old, he⟩, hit, hne⟩ := st
    obtain ⟨xs, x, hq, hx⟩ := hg
    obtain ⟨its, rv, p, hz⟩ := I.tuple hq
    obtain ⟨u, hu, ru⟩ := rv.get hx
    have hel : e < s.heap.objs.size := Heap.lt_size he
    have hil : it < s.heap.objs.size := by obtain ⟨_, q, _⟩ := hit; exact Heap.lt_size q
    have hlt : i < its.toArray.size := by
      have := (List.getElem?_eq_some_iff.mp hu).1
      simpa using this
    refine wpAny_pyNext_enum_itemD (Draws.tuple (show X.A.in1.handled = none from I.ok.hd hc) it a (Ne.symm hia) its.toArray) he ⟨hit, p⟩ hlt hne (by simp [hne, hea]) fun u2 h' tk hP ho hst' hT hsz hk => ?_
    obtain ⟨hit', _⟩ := hst'
    have eu : u2 = u := by
      have h1 : its[i]? = some u2 := by simpa using hP
      rw [hu] at h1
      exact (Option.some.inj h1).symm
    subst eu
    refine ⟨_, rfl, wpAny_letOwnedTupleGo_enum (s := { s with heap := h', toks := tk + 1 }) ho fun h'' he' sb => ?_⟩
    have hT2 : h''.get? s.heap.objs.size = some { cls := .type "tuple", data := .seq #[.int i tk, u2] } := (sb.2 _ (Nat.ne_of_gt hel)).trans hT
    have new : ObjOk X.prog X.w (upd H s.heap.objs.size (.tup [.int (i : Nat), x])) h'' s.heap.objs.size (.tup [.int (i : Nat), x]) :=
      ⟨by show 2 ≤ sizeLine; decide, [.int i tk, u2], .cons ⟨_, rfl⟩ (.cons ru .nil), ⟨_, hT2, rfl, _, rfl⟩⟩
    have I1 : Inv X pins σ (upd H s.heap.objs.size (.tup [.int (i : Nat), x])) { s with heap := h'', toks := tk + 1 } :=
      I.turnedNew (ch := [e, it]) (fun b ob hb q => (sb.2 b (fun z => hb (by simp [z]))).trans (hk b ob (fun z => hb (by simp [z])) (fun z => hb (by simp [z])) q)) hf (Nat.le_refl _) new
    refine ⟨.ref s.heap.objs.size, _, I1, rfl, ⟨_, x, rfl, I.hok.fresh (Nat.le_refl _), rfl, fun ys hy => by rw [I.tuple_inj hy hq]; exact hx⟩, ⟨⟨u2, ?_⟩, hit'.at fun o q => (sb.2 it (Ne.symm hne)).trans q, hne⟩, fun b hb => ?_⟩
    · have e1 : ((i + 1 : Nat) : Int) = (i : Int) + 1 := by omega
      rw [e1]; exact he'
    · have hb' : b < s.heap.objs.size := by
        have e' : b = e ∨ b = it := by simpa using hb
        rcases e' with z | z
        · rw [z]; exact hel
        · rw [z]; exact hil
      rw [upd_ne (Nat.ne_of_lt hb')]
      exact (hf b hb).1
  done := by
    intro X hP hw hK hc i pins s σ H E I hf st hg
    subst hP hw hK
    obtain ⟨⟨old, he⟩, hit, hne⟩ := st
    obtain ⟨xs, hq, hx⟩ := hg
    obtain ⟨its, rv, p, hz⟩ := I.tuple hq
    obtain ⟨f0, f1, f2, f3, f4, f5⟩ := hf it (by simp)
    have hl := rv.length
    have hn : its.toArray[i]? = none := by simp; omega
    have D : Draws X.prog X.w X.A.in1 it [it, a] i (fun _ _ => False) (fun j h => j = i ∧ h.IsTupleIter it a i ∧ h.IsTuple a its.toArray) := {
      live := fun _ _ st => let ⟨_, ⟨o, ho, _⟩, _⟩ := st; ⟨o, ho⟩
      frame := fun _ _ _ st hk => ⟨st.1, st.2.1.at fun o e => hk it (by simp) o e, st.2.2.at fun o e => hk a (by simp) o e⟩
      item := fun j s Q E hi st hQ => absurd st.1 (Nat.ne_of_lt hi)
      done := fun s Q E st hE => wpAny_nextOf_tuple_end (show X.A.in1.handled = none from I.ok.hd hc) st.2.1 st.2.2 hn hE }
    exact wpAny_pyNext_enum_endD D he ⟨rfl, hit, p⟩ fun h' eb => ⟨rfl, I.turned (t' := s.toks) (fun b o hb q => eb b o hb q) f0 f1 f3 f4 f5⟩
  self := fun A i s Q E st h => let ⟨⟨_, he⟩, _⟩ := st; wpAny_pyIter_enum he h
def iEnumA (K : PySem.W.Frag) (ta : TA) : TI := fun σ H R => ta σ H fun vs H1 => ∃ a xs, vs = [.ref a] ∧ ((SqL K H1 a xs ∧ R (Ite K a) H1) ∨ (SqT K H1 a xs ∧ R (IteT K a) H1))
theorem pi_enumA {X : Cx} {e : Expr} {ta : TA} {p pos tpos : Pos} {elts : List Expr} {kk : Nat} (hg : Gl X "enumerate") (hm : X.mg "enumerate" = none) (ha : PA X [e] ta) (hs : starEach [e] X.env = [(false, eval e X.env)] := by rfl) :
    PI X (.Tuple elts kk tpos) (.Call (.Name "enumerate" p) [e] [] pos) (iEnumA X.K ta) := by
  refine ⟨fun pins s σ H R I h => ?_⟩
  refine Call_ (ld_blt I hg hm boot_enumerate (PyProof.Rows.callWith_type1 (thn (ha.run pos pins s σ H _ I h) fun us s1 ⟨vs, H1, I1, r1, q1⟩ => ?_) hs rfl))
  obtain ⟨a, xs, ex, q1⟩ := q1
  subst ex
  cases r1 with
  | cons r rr =>
    cases rr
    cases r
    have fp : ∀ b ∈ [s1.heap.objs.size + 1, s1.heap.objs.size], FpOk X pins H1 b := fun b hb => by
      have e' : b = s1.heap.objs.size + 1 ∨ b = s1.heap.objs.size := by simpa using hb
      have hle : s1.heap.objs.size ≤ b := by
        rcases e' with z | z
        · rw [z]; exact Nat.le_add_right _ _
        · rw [z]; exact Nat.le_refl _
      exact I1.fpOk hle (I1.hok.fresh hle)
    rcases q1 with ⟨hq, q⟩ | ⟨hq, q⟩
    · obtain ⟨its, rv, p', hz⟩ := I1.list hq
      refine call_enumerate_list p'.isList fun h' he hit hsz hk => wpAny_pyIter_enum he ?_
      have I2 : Inv X pins σ H1 { s1 with heap := h' } := I1.kept (t' := s1.toks) hk
      exact ⟨s1.heap.objs.size + 1, [s1.heap.objs.size + 1, s1.heap.objs.size], _, _, H1, rfl, I2, turn_enum a (s1.heap.objs.size + 1) s1.heap.objs.size, ⟨⟨.none, he⟩, hit, Nat.succ_ne_self _⟩, fp, q⟩
    · obtain ⟨its, rv, p', hz⟩ := I1.tuple hq
      obtain ⟨oa, hoa, _⟩ := id p'
      have hal := Heap.lt_size hoa
      refine call_enum1 (begins_tuple a its.toArray) p' fun h' he hit hsz hk => wpAny_pyIter_enum he ?_
      have I2 : Inv X pins σ H1 { s1 with heap := h' } := I1.kept (t' := s1.toks) hk
      exact ⟨s1.heap.objs.size + 1, [s1.heap.objs.size + 1, s1.heap.objs.size], _, _, H1, rfl, I2, turn_enumT a (s1.heap.objs.size + 1) s1.heap.objs.size (Nat.ne_of_gt (Nat.lt_succ_of_lt hal)) (Nat.ne_of_gt hal), ⟨⟨.none, he⟩, ⟨_, hit, rfl, rfl⟩, Nat.succ_ne_self _⟩, fp, q⟩
end Cs

/-! What is walked. -/
namespace Cs
open PySem L2 PySem.Spec
section
variable {X : Cx} {c : SC} {W : EW} {a b e tg : Expr} {fa fb f : FE} {pos : Pos} {K : PySem.W.Frag} {F F1 : Hp} {ι ι1 : List Addr} {H H1 : Hp} {m m1 : Mem} {σ : L2.St}
/-- what stands for ever grows, the cells grow -/
structure Gr (F : Hp) (ι : List Addr) (F' : Hp) (ι' : List Addr) : Prop where
  f : ∀ a o, F a = some o → F' a = some o
  ι : ∀ (n : Nat) x, ι[n]? = some x → ι'[n]? = some x
theorem Ext.gr {F' : Hp} {ι' : List Addr} {H' : Hp} (x : Ext F ι H F' ι' H') : Gr F ι F' ι' := ⟨x.f, x.ι⟩
theorem Gr.refl (F : Hp) (ι : List Addr) : Gr F ι F ι := ⟨fun _ _ z => z, fun _ _ z => z⟩
theorem Gr.trans {F2 : Hp} {ι2 : List Addr} (x : Gr F ι F1 ι1) (y : Gr F1 ι1 F2 ι2) : Gr F ι F2 ι2 := ⟨fun _ _ z => y.f _ _ (x.f _ _ z), fun _ _ z => y.ι _ _ (x.ι _ _ z)⟩
theorem Reps.gr {d : List D} {v : List V} (h : Reps K F ι d v) (x : Gr F ι F1 ι1) : Reps K F1 ι1 d v := h.mono x.f x.ι
theorem Rep.gr {d : D} {v : V} (h : Rep K F ι d v) (x : Gr F ι F1 ι1) : Rep K F1 ι1 d v := h.mono x.f x.ι
theorem Sim.gr {en : Sto} (s : Sim K F ι en m σ H) (x : Gr F ι F1 ι1) (sm : SimM K F1 ι1 m1 H1) : Sim K F1 ι1 en m1 σ H1 :=
  ⟨sm, s.len, fun i d h => let ⟨v, e, r⟩ := s.loc i d h; ⟨v, e, r.gr x⟩⟩
/-- an iterator yields these, so long as the cells at ns stay as they are in m0 -/
structure JRep (K : PySem.W.Frag) (F : Hp) (ι : List Addr) (J : It) (ns : List Nat) (m0 : Mem) (ds : List D) : Prop where
  stop : ∀ F' ι' m' H', Gr F ι F' ι' → SimM K F' ι' m' H' → (∀ n ∈ ns, m'[n]? = m0[n]?) → J.stop ds.length H'
  go : ∀ F' ι' m' H', Gr F ι F' ι' → SimM K F' ι' m' H' → (∀ n ∈ ns, m'[n]? = m0[n]?) → ∀ (i : Nat) d, ds[i]? = some d → J.go i H' ∧
    ∀ x H'', J.yld i H' x H'' → ∃ F'', Ext F' ι' H' F'' ι' H'' ∧ SimM K F'' ι' m' H'' ∧ Rep K F'' ι' d x
def RI (K : PySem.W.Frag) : AR ((List D × List Nat) × Mem) It := fun _ F ι _ p J => JRep K F ι J p.1.2 p.2 p.1.1
theorem RI.down : Down (RI K) := fun _ _ _ _ _ _ _ _ _ _ _ _ h => h
def tagM (fi : FI) : Sto → Mem → Res ((List D × List Nat) × Mem) := fun e m => bnd (fi e m) fun p m => .ok (p, m) m
abbrev TJ (X : Cx) (W : EW) (fi : FI) : TI := T X.K W (RI X.K) (tagM fi)
theorem pi_weak {t t' : TI} (h : PI X tg e t) (k : ∀ σ H R, t' σ H R → t σ H R) : PI X tg e t' := ⟨fun pins s σ H R I q => h.run pins s σ H R I (k σ H R q)⟩
theorem bnd_bnd {α β γ : Type} (r : Res α) (g : α → Mem → Res β) (h : β → Mem → Res γ) : bnd (bnd r g) h = bnd r fun a m => bnd (g a m) h := by cases r <;> rfl
/-- a list, a tuple or a text -/
theorem pi_any {l : Expr} {tl : TE} (hl : PE X l tl) : PI X tg l (fun σ H R => tl σ H fun x H1 => (∃ a, x = .ref a ∧ (((∃ xs, SqL X.K H1 a xs) ∧ R (Itl X.K a) H1) ∨ ((∃ xs, SqT X.K H1 a xs) ∧ R (Itt X.K a) H1))) ∨ ∃ z, x = .str z ∧ R (Its z) H1) := by
  refine ⟨fun pins s σ H R I h => ?_⟩
  refine thn (hl.run pins s σ H _ I h) fun v s1 ⟨x, H1, I1, r1, q1⟩ => ?_
  rcases q1 with ⟨a, e, ⟨⟨xs, hq⟩, q⟩ | ⟨⟨xs, hq⟩, q⟩⟩ | ⟨z, e, q⟩
  · subst e
    cases r1
    obtain ⟨its, rv, p, hz⟩ := I1.list hq
    refine wpAny_pyIter_list p.isList ?_
    refine ⟨s1.heap.objs.size, [s1.heap.objs.size], _, _, H1, rfl, I1.kept (t' := s1.toks) fun b o e => Heap.get?_push_of_some _ e, turn_list a _, ⟨_, Heap.get?_push_size _ rfl, rfl, rfl⟩, fun b hb => ?_, q⟩
    have e : b = s1.heap.objs.size := by simpa using hb
    subst e
    exact I1.fpOk (Nat.le_refl _) (I1.hok.fresh (Nat.le_refl _))
  · subst e
    cases r1
    obtain ⟨its, rv, p, hz⟩ := I1.tuple hq
    refine wpAny_pyIter_tuple (show s1.heap.IsTuple a its.toArray from p) ?_
    refine ⟨s1.heap.objs.size, [s1.heap.objs.size], _, _, H1, rfl, I1.kept (t' := s1.toks) fun b o e => Heap.get?_push_of_some _ e, turn_tuple a _, ⟨_, Heap.get?_push_size _ rfl, rfl, rfl⟩, fun b hb => ?_, q⟩
    have e : b = s1.heap.objs.size := by simpa using hb
    subst e
    exact I1.fpOk (Nat.le_refl _) (I1.hok.fresh (Nat.le_refl _))
  · subst e
    obtain ⟨t, rfl⟩ := r1
    cases ha : z.cps.all (· < 128)
    · exact wpAny_pyIter_wide ha (pi_one (tk := s1.toks) I1 _ (turn_str _ z t "str_iterator" (.inr rfl)) ⟨_, Heap.get?_push_size _ rfl, rfl, rfl⟩ q)
    · exact wpAny_pyIter_ascii ha (pi_one (tk := s1.toks) I1 _ (turn_str _ z t "str_ascii_iterator" (.inl rfl)) ⟨_, Heap.get?_push_size _ rfl, rfl, rfl⟩ q)
/-- a list in sight stays in sight -/
structure LRep (K : PySem.W.Frag) (F : Hp) (ι : List Addr) (a : Addr) (ns : List Nat) (m0 : Mem) (ds : List D) : Prop where
  at' : ∀ F' ι' m' H', Gr F ι F' ι' → SimM K F' ι' m' H' → (∀ n ∈ ns, m'[n]? = m0[n]?) → ∃ vs, SqL K H' a vs ∧ Reps K F' ι' ds vs
theorem itL_rep (s : SimM K F ι m H) {d : D} {v : V} {p : List D × List Nat} (r : Rep K F ι d v) (h : itL m d = some p) : ∃ a, v = .ref a ∧ (∃ xs, SqL K H a xs) ∧ LRep K F ι a p.2 m p.1 := by
  cases d with
  | lst ds =>
    have e : (ds, []) = p := Option.some.inj h
    subst e
    obtain ⟨a, vs, rfl, q, rs⟩ := r.lstE
    exact ⟨a, rfl, ⟨vs, SqL.of (s.sub _ _ q)⟩, ⟨fun F' ι' m' H' x s' _ => ⟨vs, SqL.of (s'.sub _ _ (x.f _ _ q)), rs.gr x⟩⟩⟩
  | scr ds =>
    have e : (ds, []) = p := Option.some.inj h
    subst e
    obtain ⟨a, vs, rfl, q, rs⟩ := r.scrE
    exact ⟨a, rfl, ⟨vs, SqL.sub q s⟩, ⟨fun F' ι' m' H' x s' _ => ⟨vs, SqL.sub (SqL.mono q x.f) s', rs.gr x⟩⟩⟩
  | ref n =>
    unfold itL at h
    obtain ⟨a, rfl, q⟩ := r.refE
    simp only at h
    cases z : m[n]? with
    | none => rw [z] at h; cases h
    | some cc =>
      rw [z] at h
      cases cc with
      | lst ds =>
        cases h
        obtain ⟨o, h2, vs, rfl, rs⟩ := s.at q z
        refine ⟨a, rfl, ⟨vs, SqL.of h2⟩, ⟨fun F' ι' m' H' x s' hn => ?_⟩⟩
        obtain ⟨o', h3, vs', rfl, rs'⟩ := s'.at (x.ι _ _ q) ((hn n (by simp)).trans z)
        exact ⟨vs', SqL.of h3, rs'⟩
      | dct _ _ => cases h
      | ins _ _ => cases h
  | _ => cases h
theorem Reps.getS {ds : List D} {vs : List V} {i : Nat} {d : D} {x : V} (r : Reps K F ι ds vs) (h : ds[i]? = some d) (hx : vs[i]? = some x) : Rep K F ι d x := by
  obtain ⟨v, h1, h2⟩ := r.get h
  rw [hx] at h1
  cases h1
  exact h2
theorem LRep.j {p : Addr} {ns : List Nat} {ds : List D} (l : LRep K F ι p ns m ds) : JRep K F ι (Itl K p) ns m ds where
  stop := fun F' ι' m' H' x s hn => by
    obtain ⟨vs, q, rs⟩ := l.at' _ _ _ _ x s hn
    exact ⟨vs, q, Nat.le_of_eq rs.length⟩
  go := fun F' ι' m' H' x s hn i d hd => by
    obtain ⟨vs, q, rs⟩ := l.at' _ _ _ _ x s hn
    obtain ⟨v, hv, _⟩ := rs.get hd
    refine ⟨⟨vs, v, q, hv⟩, fun y H'' hy => ?_⟩
    obtain ⟨rfl, hy⟩ := hy
    exact ⟨F', Ext.refl _ _ _, s, rs.getS hd (hy vs q)⟩
theorem its_rep (z : Str) : JRep K F ι (Its z) [] m (z.cps.toList.map fun c => .str ⟨#[c]⟩) where
  stop := fun _ _ _ _ _ _ _ => by
    show z.cps.size ≤ _
    simp
  go := fun F' ι' m' H' x s hn i d hd => by
    rw [List.getElem?_map] at hd
    obtain ⟨c, h1, rfl⟩ := Option.map_eq_some_iff.mp hd
    have h1 : z.cps[i]? = some c := by simpa using h1
    have hi : i < z.cps.size := by
      by_cases q : i < z.cps.size
      · exact q
      · rw [Array.getElem?_eq_none (by omega)] at h1; cases h1
    refine ⟨hi, fun y H'' hy => ?_⟩
    obtain ⟨rfl, c', h2, rfl⟩ := hy
    rw [h1] at h2
    cases h2
    exact ⟨F', Ext.refl _ _ _, s, Rep.strI⟩
theorem itOf_rep (s : SimM K F ι m H) {d : D} {v : V} {p : List D × List Nat} (r : Rep K F ι d v) (h : itOf m d = some p) :
    (∃ a, v = .ref a ∧ (((∃ xs, SqL K H a xs) ∧ JRep K F ι (Itl K a) p.2 m p.1) ∨ ((∃ xs, SqT K H a xs) ∧ JRep K F ι (Itt K a) p.2 m p.1))) ∨ ∃ z, v = .str z ∧ JRep K F ι (Its z) p.2 m p.1 := by
  have lst : itL m d = some p → (∃ a, v = .ref a ∧ (((∃ xs, SqL K H a xs) ∧ JRep K F ι (Itl K a) p.2 m p.1) ∨ ((∃ xs, SqT K H a xs) ∧ JRep K F ι (Itt K a) p.2 m p.1))) ∨ ∃ z, v = .str z ∧ JRep K F ι (Its z) p.2 m p.1 := fun h => by
    obtain ⟨a, e, q, l⟩ := itL_rep s r h
    exact .inl ⟨a, e, .inl ⟨q, l.j⟩⟩
  cases d with
  | tup ds =>
    have e : (ds, []) = p := Option.some.inj h
    subst e
    obtain ⟨a, vs, rfl, q, rs⟩ := r.tupE
    refine .inl ⟨a, rfl, .inr ⟨⟨vs, SqT.sub q s⟩, ⟨fun F' ι' m' H' x s' _ => ⟨vs, SqT.sub (SqT.mono q x.f) s', Nat.le_of_eq rs.length⟩, fun F' ι' m' H' x s' _ i d hd => ?_⟩⟩⟩
    have q' := SqT.sub (SqT.mono q x.f) s'
    obtain ⟨v, hv, _⟩ := rs.get hd
    refine ⟨⟨vs, v, q', hv⟩, fun y H'' hy => ?_⟩
    obtain ⟨rfl, hy⟩ := hy
    exact ⟨F', Ext.refl _ _ _, s', (rs.gr x).getS hd (hy vs q')⟩
  | str z =>
    have e : (z.cps.toList.map fun c => D.str ⟨#[c]⟩, []) = p := Option.some.inj h
    subst e
    exact .inr ⟨z, r.strE, its_rep z⟩
  | _ => exact lst h
theorem d_val (ha : PE X a (TV X W fa)) : PI X tg a (TJ X W (iVal fa)) := by
  refine pi_weak (pi_any ha) fun σ H R ⟨F, ι, m, en, s, o⟩ => ?_
  unfold tagM iVal at o
  rw [bnd_bnd] at o
  refine Obnd RI.down s o fun x F1 ι1 H1 m1 d s1 r x1 o1 => ?_
  cases z : itOf m1 d with
  | none => simp only [z] at o1; exact False.elim o1
  | some p =>
    simp only [z] at o1
    rcases itOf_rep s1.mem r z with ⟨a, e, ⟨q, j⟩ | ⟨q, j⟩⟩ | ⟨y, e, j⟩
    · exact .inl ⟨a, e, .inl ⟨q, o1.now s1.mem j⟩⟩
    · exact .inl ⟨a, e, .inr ⟨q, o1.now s1.mem j⟩⟩
    · exact .inr ⟨y, e, o1.now s1.mem j⟩
/-! ### range -/
theorem rangeL_len : ∀ (n : Nat) (lo : Int), (rangeL lo n).length = n
  | 0, _ => rfl
  | n + 1, lo => by rw [rangeL, List.length_cons, rangeL_len n]
theorem rangeL_get : ∀ (n : Nat) (lo : Int) (i : Nat) (d : D), (rangeL lo n)[i]? = some d → i < n ∧ d = .int (lo + i)
  | 0, _, _, _, h => by simp [rangeL] at h
  | n + 1, lo, 0, d, h => by
    simp [rangeL] at h
    subst h
    exact ⟨by omega, by simp⟩
  | n + 1, lo, i + 1, d, h => by
    rw [rangeL, List.getElem?_cons_succ] at h
    obtain ⟨h1, rfl⟩ := rangeL_get n _ i d h
    exact ⟨by omega, by congr 1; omega⟩
theorem rng_rep (lo : Int) (n : Nat) : JRep K F ι (Itr lo n) [] m (rangeL lo n) where
  stop := fun _ _ _ _ _ _ _ => by rw [rangeL_len]; exact Nat.le_refl _
  go := fun F' ι' m' H' x s hn i d hd => by
    obtain ⟨h1, rfl⟩ := rangeL_get _ _ _ _ hd
    refine ⟨h1, fun y H'' hy => ?_⟩
    obtain ⟨rfl, rfl⟩ := hy
    exact ⟨F', Ext.refl _ _ _, s, Rep.intI⟩
theorem rngOk_iff {i : Int} (h : rngOk i = true) : -(2 ^ 62) ≤ i ∧ i < 2 ^ 62 := by
  unfold rngOk at h
  rw [Bool.and_eq_true, decide_eq_true_eq, decide_eq_true_eq] at h
  exact h
theorem star1 {es : List Expr} (h : noStar (a :: es) = true) : starEach (a :: es) X.env = (false, eval a X.env) :: starEach es X.env := by
  unfold noStar at h
  rw [List.all_cons, Bool.and_eq_true] at h
  exact unstar_each h.1
theorem noStar_tl {es : List Expr} (h : noStar (a :: es) = true) : noStar es = true := by
  unfold noStar at h ⊢
  rw [List.all_cons, Bool.and_eq_true] at h
  exact h.2
theorem d_rng1 (C : Ctx X c W) {x : Str} {p : Pos} (ex : strEq x "range" = true) (hg : c.gl x = true) (hb : c.bl x = true) (hs : noStar [a] = true) (ha : PE X a (TV X W fa)) : PI X tg (.Call (.Name x p) [a] [] pos) (TJ X W (jRng1 fa)) := by
  cases strEq_eq ex
  refine pi_weak (pi_range1 (C.gl hg) (C.bl _ hb) (pa_cons ha pa_nil (star1 hs)) (star1 hs)) fun σ H R ⟨F, ι, m, en, s, o⟩ => ?_
  unfold tagM jRng1 at o
  rw [bnd_bnd] at o
  refine Obnd RI.down s o fun x F1 ι1 H1 m1 d s1 r x1 o1 => ?_
  cases d with
  | int j =>
    simp only at o1
    cases z : rngOk j with
    | false => simp only [z] at o1; exact False.elim o1
    | true =>
      simp only [z] at o1
      obtain ⟨q1, q2⟩ := rngOk_iff z
      exact ⟨j, by rw [r.intE], q1, q2, o1.now s1.mem (rng_rep 0 _)⟩
  | _ => exact False.elim o1
theorem d_rng2 (C : Ctx X c W) {x : Str} {p : Pos} (ex : strEq x "range" = true) (hg : c.gl x = true) (hb : c.bl x = true) (hs : noStar [a, b] = true) (ha : PE X a (TV X W fa)) (hb' : PE X b (TV X W fb)) : PI X tg (.Call (.Name x p) [a, b] [] pos) (TJ X W (jRng2 fa fb)) := by
  cases strEq_eq ex
  have h1 := star1 (X := X) hs
  have h2 := star1 (X := X) (noStar_tl hs)
  refine pi_weak (pi_range2 (C.gl hg) (C.bl _ hb) (pa_cons ha (pa_cons hb' pa_nil h2) h1) (by rw [h1, h2]; rfl) (by rw [h2]; rfl)) fun σ H R ⟨F, ι, m, en, s, o⟩ => ?_
  unfold tagM jRng2 at o
  rw [bnd_bnd] at o
  simp only [bnd_bnd] at o
  refine Obnd RI.down s o fun x F1 ι1 H1 m1 d s1 r x1 o1 => ?_
  refine Obnd RI.down s1 o1 fun y F2 ι2 H2 m2 d2 s2 r2 x2 o2 => ?_
  cases d with
  | int i =>
    cases d2 with
    | int j =>
      simp only at o2
      cases z : rngOk i && rngOk j with
      | false => simp only [z] at o2; exact False.elim o2
      | true =>
        simp only [z] at o2
        rw [Bool.and_eq_true] at z
        obtain ⟨q1, q2⟩ := rngOk_iff z.1
        obtain ⟨q3, q4⟩ := rngOk_iff z.2
        exact ⟨i, j, by rw [Rep.intE r, Rep.intE r2], ⟨q1, q2, q3, q4⟩, o2.now s2.mem (rng_rep i _)⟩
    | _ => exact False.elim o2
  | _ => exact False.elim o2
/-! ### pairs -/
theorem pair_rep (s : SimM K F ι m H) {d1 d2 : D} {x y : V} {p : Addr} (hp : H p = none) (r1 : Rep K F ι d1 x) (r2 : Rep K F ι d2 y) (n : nmT [d1, d2] = false) :
    ∃ F'', Ext F ι H F'' ι (upd H p (.tup [x, y])) ∧ SimM K F'' ι m (upd H p (.tup [x, y])) ∧ Rep K F'' ι (.tup [d1, d2]) (.ref p) :=
  ⟨_, Ext.laid s hp, s.laid hp, Rep.tupI upd_same n ((Reps.cons r1 (Reps.one r2)).mono (Ext.laid s hp (o := .tup [x, y])).f fun _ _ z => z)⟩
theorem zipL_get : ∀ {xs ys : List D} {i : Nat} {d : D}, zipOk xs ys = true → (zipL xs ys)[i]? = some d → ∃ x y, xs[i]? = some x ∧ ys[i]? = some y ∧ d = .tup [x, y] ∧ nmT [x, y] = false
  | [], _, _, _, _, h => by simp [zipL] at h
  | _ :: _, [], _, _, _, h => by simp [zipL] at h
  | x :: xs, y :: ys, 0, d, ok, h => by
    simp [zipL] at h
    subst h
    refine ⟨x, y, rfl, rfl, rfl, ?_⟩
    cases x <;> cases y <;> simp [nmT, zipOk] at ok ⊢
  | x :: xs, y :: ys, i + 1, d, ok, h => by
    rw [zipL, List.getElem?_cons_succ] at h
    have ok' : zipOk xs ys = true := by
      cases x <;> cases y <;> simpa [zipOk] using ok
    simpa using zipL_get ok' h
theorem zipL_len : ∀ (xs ys : List D), (zipL xs ys).length = min xs.length ys.length
  | [], ys => by simp [zipL]
  | _ :: _, [] => by simp [zipL]
  | x :: xs, y :: ys => by simp [zipL, zipL_len xs ys]
theorem zip_rep {p q : Addr} {n1 n2 : List Nat} {xs ys : List D} (l : LRep K F ι p n1 m xs) (k : LRep K F ι q n2 m ys) (ok : zipOk xs ys = true) : JRep K F ι (Itz K p q) (n1 ++ n2) m (zipL xs ys) where
  stop := fun F' ι' m' H' x s hn => by
    obtain ⟨vs, h1, rs⟩ := l.at' _ _ _ _ x s fun n h => hn n (List.mem_append_left _ h)
    obtain ⟨ws, h2, rs2⟩ := k.at' _ _ _ _ x s fun n h => hn n (List.mem_append_right _ h)
    refine ⟨vs, ws, h1, h2, ?_⟩
    rw [zipL_len, rs.length, rs2.length]
    omega
  go := fun F' ι' m' H' x s hn i d hd => by
    obtain ⟨vs, h1, rs⟩ := l.at' _ _ _ _ x s fun n h => hn n (List.mem_append_left _ h)
    obtain ⟨ws, h2, rs2⟩ := k.at' _ _ _ _ x s fun n h => hn n (List.mem_append_right _ h)
    obtain ⟨d1, d2, e1, e2, rfl, hnm⟩ := zipL_get ok hd
    obtain ⟨v, hv, _⟩ := rs.get e1
    obtain ⟨w, hw, _⟩ := rs2.get e2
    refine ⟨⟨vs, ws, v, w, h1, h2, hv, hw⟩, fun y H'' hy => ?_⟩
    obtain ⟨t, x1, x2, rfl, ht, rfl, g1, g2⟩ := hy
    exact pair_rep s ht (rs.getS e1 (g1 vs h1)) (rs2.getS e2 (g2 ws h2)) hnm
theorem d_zip (C : Ctx X c W) {x : Str} {p tpos : Pos} {elts : List Expr} {kk : Nat} (ex : strEq x "zip" = true) (hg : c.gl x = true) (hb : c.bl x = true) (hs : noStar [a, b] = true) (ha : PE X a (TV X W fa)) (hb' : PE X b (TV X W fb)) :
    PI X (.Tuple elts kk tpos) (.Call (.Name x p) [a, b] [] pos) (TJ X W (jZip fa fb)) := by
  cases strEq_eq ex
  have h1 := star1 (X := X) hs
  have h2 := star1 (X := X) (noStar_tl hs)
  refine pi_weak (RZ.pi_zipA (C.gl hg) (C.bl _ hb) (pa_cons ha (pa_cons hb' pa_nil h2) h1) h1 (star_any (noStar_tl hs))) fun σ H R ⟨F, ι, m, en, s, o⟩ => ?_
  unfold tagM jZip at o
  rw [bnd_bnd] at o
  simp only [bnd_bnd] at o
  refine Obnd RI.down s o fun x F1 ι1 H1 m1 d s1 r x1 o1 => ?_
  refine Obnd RI.down s1 o1 fun y F2 ι2 H2 m2 d2 s2 r2 x2 o2 => ?_
  replace r := Rep.ext r x2
  have main : ∀ {p q}, itL m2 d = some p → itL m2 d2 = some q → zipOk p.1 q.1 = true → Out X.K W (RI X.K) F2 ι2 σ H2 (.ok ((zipL p.1 q.1, p.2 ++ q.2), m2) m2) R →
      ∃ a b xs ys, [x, y] = [.ref a, .ref b] ∧ ((SqL X.K H2 a xs ∧ SqL X.K H2 b ys ∧ R (Itz X.K a b) H2) ∨ (SqT X.K H2 a xs ∧ SqT X.K H2 b ys ∧ R (RZ.ItzT X.K a b) H2)) := fun {p q} e1 e2 ok o3 => by
    obtain ⟨a, ea, ⟨xs, ha⟩, la⟩ := itL_rep s2.mem r e1
    obtain ⟨b, eb, ⟨ys, hb⟩, lb⟩ := itL_rep s2.mem r2 e2
    exact ⟨a, b, xs, ys, by rw [ea, eb], .inl ⟨ha, hb, o3.now s2.mem (zip_rep la lb ok)⟩⟩
  split at o2
  · rename_i xs ys
    cases ok : zipOk xs ys with
    | false => simp only [ok] at o2; exact False.elim o2
    | true =>
      simp only [ok] at o2
      obtain ⟨a, vs, rfl, q1, rs1⟩ := r.tupE
      obtain ⟨b, ws, rfl, q2, rs2⟩ := r2.tupE
      refine ⟨a, b, vs, ws, rfl, .inr ⟨SqT.sub q1 s2.mem, SqT.sub q2 s2.mem, o2.now s2.mem ⟨fun F' ι' m' H' x s _ => ?_, fun F' ι' m' H' x s _ i d hd => ?_⟩⟩⟩
      · refine ⟨vs, ws, SqT.sub (SqT.mono q1 x.f) s, SqT.sub (SqT.mono q2 x.f) s, ?_⟩
        show vs.length ≤ (zipL xs ys).length ∨ ws.length ≤ (zipL xs ys).length
        rw [zipL_len, rs1.length, rs2.length]
        omega
      · obtain ⟨d1, d2, e1, e2, rfl, hnm⟩ := zipL_get ok hd
        have g1 := SqT.sub (SqT.mono q1 x.f) s
        have g2 := SqT.sub (SqT.mono q2 x.f) s
        obtain ⟨v, hv, _⟩ := rs1.get e1
        obtain ⟨w, hw, _⟩ := rs2.get e2
        refine ⟨⟨vs, ws, v, w, g1, g2, hv, hw⟩, fun y H'' hy => ?_⟩
        obtain ⟨t, x1, x2, rfl, ht, rfl, k1, k2⟩ := hy
        exact pair_rep s ht ((rs1.gr x).getS e1 (k1 vs g1)) ((rs2.gr x).getS e2 (k2 ws g2)) hnm
  · cases e1 : itL m2 d with
    | none => simp only [e1] at o2; exact False.elim o2
    | some p =>
      cases e2 : itL m2 d2 with
      | none => simp only [e1, e2] at o2; exact False.elim o2
      | some q =>
        simp only [e1, e2] at o2
        cases ok : zipOk p.1 q.1 with
        | false => simp only [ok] at o2; exact False.elim o2
        | true =>
          simp only [ok] at o2
          exact main e1 e2 ok o2
theorem enumL_len : ∀ (n : Nat) (xs : List D), (enumL n xs).length = xs.length
  | _, [] => rfl
  | n, _ :: xs => by rw [enumL, List.length_cons, enumL_len, List.length_cons]
theorem enumL_get : ∀ {n : Nat} {xs : List D} {i : Nat} {d : D}, (enumL n xs)[i]? = some d → ∃ x, xs[i]? = some x ∧ d = .tup [.int ((n + i : Nat) : Int), x]
  | _, [], _, _, h => by simp [enumL] at h
  | n, x :: xs, 0, d, h => by
    simp [enumL] at h
    subst h
    exact ⟨x, rfl, by simp⟩
  | n, x :: xs, i + 1, d, h => by
    rw [enumL, List.getElem?_cons_succ] at h
    obtain ⟨y, h1, rfl⟩ := enumL_get h
    exact ⟨y, by simpa using h1, by rw [show n + 1 + i = n + (i + 1) by omega]⟩
theorem d_enum (C : Ctx X c W) {x : Str} {p tpos : Pos} {elts : List Expr} {kk : Nat} (ex : strEq x "enumerate" = true) (hg : c.gl x = true) (hb : c.bl x = true) (hs : noStar [a] = true) (ha : PE X a (TV X W fa)) :
    PI X (.Tuple elts kk tpos) (.Call (.Name x p) [a] [] pos) (TJ X W (jEnum fa)) := by
  cases strEq_eq ex
  refine pi_weak (pi_enumA (C.gl hg) (C.bl _ hb) (pa_cons ha pa_nil (star1 hs)) (star1 hs)) fun σ H R ⟨F, ι, m, en, s, o⟩ => ?_
  unfold tagM jEnum at o
  rw [bnd_bnd] at o
  refine Obnd RI.down s o fun x F1 ι1 H1 m1 d s1 r x1 o1 => ?_
  have main : ∀ p, itL m1 d = some p → Out X.K W (RI X.K) F1 ι1 σ H1 (.ok ((enumL 0 p.1, p.2), m1) m1) R →
      ∃ a xs, [x] = [V.ref a] ∧ ((SqL X.K H1 a xs ∧ R (Ite X.K a) H1) ∨ (SqT X.K H1 a xs ∧ R (IteT X.K a) H1)) := fun p z o1 => by
    obtain ⟨a, rfl, ⟨xs, hq⟩, l⟩ := itL_rep s1.mem r z
    refine ⟨a, xs, rfl, .inl ⟨hq, o1.now s1.mem ⟨fun F' ι' m' H' x s hn => ?_, fun F' ι' m' H' x s hn i d hd => ?_⟩⟩⟩
    · obtain ⟨vs, h1, rs⟩ := l.at' _ _ _ _ x s hn
      exact ⟨vs, h1, by rw [enumL_len]; exact Nat.le_of_eq rs.length⟩
    · obtain ⟨vs, h1, rs⟩ := l.at' _ _ _ _ x s hn
      obtain ⟨d1, e1, rfl⟩ := enumL_get hd
      obtain ⟨v, hv, _⟩ := rs.get e1
      refine ⟨⟨vs, v, h1, hv⟩, fun y H'' hy => ?_⟩
      obtain ⟨t, x1, rfl, ht, rfl, k1⟩ := hy
      have := pair_rep s ht (Rep.intI (i := ((0 + i : Nat) : Int))) (rs.getS e1 (k1 vs h1)) rfl
      simpa using this
  cases d with
  | tup ds =>
    obtain ⟨a, vs, rfl, q1, rs1⟩ := r.tupE
    refine ⟨a, vs, rfl, .inr ⟨SqT.sub q1 s1.mem, o1.now s1.mem ⟨fun F' ι' m' H' x s _ => ?_, fun F' ι' m' H' x s _ i d hd => ?_⟩⟩⟩
    · refine ⟨vs, SqT.sub (SqT.mono q1 x.f) s, ?_⟩
      rw [enumL_len]
      exact Nat.le_of_eq rs1.length
    · have g1 := SqT.sub (SqT.mono q1 x.f) s
      obtain ⟨d1, e1, rfl⟩ := enumL_get hd
      obtain ⟨v, hv, _⟩ := rs1.get e1
      refine ⟨⟨vs, v, g1, hv⟩, fun y H'' hy => ?_⟩
      obtain ⟨t, x1, rfl, ht, rfl, k1⟩ := hy
      have := pair_rep s ht (Rep.intI (i := ((0 + i : Nat) : Int))) ((rs1.gr x).getS e1 (k1 vs g1)) rfl
      simpa using this
  | _ =>
    simp only at o1
    first
      | (split at o1
         · rename_i p z; exact main p z o1
         · exact False.elim o1)
      | exact False.elim o1
end
end Cs

/-! List comprehensions. -/
namespace Cs
open PySem L2 PySem.Spec
section
variable {X : Cx} {c : SC} {W : EW} {a b e tg : Expr} {fa fb f : FE} {pos : Pos} {K : PySem.W.Frag} {F F1 : Hp} {ι ι1 : List Addr} {H H1 : Hp} {m m1 : Mem} {σ : L2.St}
theorem Ctx.blk {W' : EW} (C : Ctx X c W) (s : Shared) (H : Hp) (scope : Scope) (Cc : Addr) (cl : List (Str × Addr)) (fp : List Addr) : Ctx (X.blk s H scope (compEnvC scope cl Cc X.env) fp) (inner c scope) W' where
  N := C.N
  nd := C.nd
  sc := by
    show relabel scope X.env = relS scope c.sc
    rw [← C.sc]
    rfl
  calm := C.calm
  room := C.room
  glob := C.glob
  bl := C.bl
  tk := fun x h => by cases (show false = true from h)
  xcs := C.xcs
  stk := fun x h => by cases (show false = true from h)
  wr := fun x h => by
    have h : (match lkp x scope.names with
      | some .local => true
      | some .cell => true
      | _ => false) = true := h
    have sc : (compEnvC scope cl Cc X.env).scope = relS scope c.sc := by
      show relabel scope X.env = relS scope c.sc
      rw [← C.sc]
      rfl
    have keep : ∀ {k : NameKind}, k ≠ .free → scope.names.lookup x = some k → (compEnvC scope cl Cc X.env).scope.names.lookup x = some k := fun {k} hk hl => by
      rw [sc]
      exact lookup_relS_keep hk hl
    rw [lkp_lookup] at h
    split at h
    · rename_i q
      have := keep (by decide) q
      exact ⟨.inl this, .inr this⟩
    · rename_i q
      have := keep (by decide) q
      refine ⟨.inr this, .inl ?_⟩
      show (scope.names.lookup x == some .cell) = true
      rw [q]; rfl
    · cases h
  pass := PassesOwn.never
/-- the iterator first, then the rest -/
theorem Oit {γ δ : Type} {R' : AR γ δ} {fi : FI} {g : (List D × List Nat) → Mem → Res γ} {Q : δ → Hp → Prop} {P : It → Hp → Prop} {en : Sto} (hR' : Down R') (s : Sim K F ι en m σ H)
    (o : Out K W R' F ι σ H (bnd (fi en m) g) Q)
    (k : ∀ J F1 ι1 H1 m1 p, Sim K F1 ι1 en m1 σ H1 → JRep K F1 ι1 J p.2 m1 p.1 → Ext F ι H F1 ι1 H1 → Out K W R' F1 ι1 σ H1 (g p m1) Q → P J H1) : T K W (RI K) (tagM fi) σ H P := by
  refine ⟨F, ι, m, en, s, ?_⟩
  unfold tagM
  cases q : fi en m with
  | ok p m1 =>
    rw [q] at o
    exact fun J F' ι' H' x sm r => k J F' ι' H' m1 p (s.ext x sm) r x (o.shift x hR')
  | exc y m1 =>
    rw [q] at o
    exact o
  | bad =>
    rw [q] at o
    exact o
/-- the list that is being made -/
structure DS (K : PySem.W.Frag) (A : Addr) (F : Hp) (ι : List Addr) (H : Hp) (acc : List D) (vs : List V) : Prop where
  h : H A = some (.lst vs)
  f : F A = none
  i : A ∉ ι
  r : Reps K F ι acc vs
theorem DS.ext {A : Addr} {acc : List D} {vs : List V} (d : DS K A F ι H acc vs) (x : Ext F ι H F1 ι1 H1) : DS K A F1 ι1 H1 acc vs where
  h := x.k _ _ d.i d.h
  f := by
    cases q : F1 A with
    | none => rfl
    | some o =>
      rcases x.n A (by rw [q]; exact fun z => nomatch z) with z | z
      · exact absurd d.f z
      · rw [d.h] at z; cases z
  i := fun q => by
    obtain ⟨new, e, h⟩ := x.i
    rw [e] at q
    rcases List.mem_append.mp q with q | q
    · exact d.i q
    · have := h A q
      rw [d.h] at this; cases this
  r := d.r.ext x
theorem SimM.put' (s : SimM K F ι m H) {A : Addr} {o : HO} (hF : F A = none) (hi : A ∉ ι) : SimM K F ι m (upd H A o) := by
  refine ⟨fun a u q => ?_, s.len, s.nd, fun n a c e1 e2 => ?_⟩
  · have z : a ≠ A := fun z => by subst z; rw [hF] at q; cases q
    rw [upd_ne z]; exact s.sub a u q
  · obtain ⟨h3, u, h4, r⟩ := s.cell n a c e1 e2
    have z : a ≠ A := fun z => hi (z ▸ List.mem_of_getElem? e1)
    exact ⟨h3, u, by rw [upd_ne z]; exact h4, r⟩
theorem Ext.put' {A : Addr} {o o' : HO} (x : Ext F ι H F1 ι1 H1) (hn : H A = none) (hA : H1 A = some o') : Ext F ι H F1 ι1 (upd H1 A o) where
  f := x.f
  n := x.n
  i := x.i
  k := fun a u hi q => by
    rw [upd_ne (fun z => by subst z; rw [hn] at q; cases q)]
    exact x.k a u hi q
  t := fun a q => by
    by_cases z : a = A
    · subst z; rw [upd_same] at q; cases q
    · rw [upd_ne z] at q; exact x.t a q
theorem DS.push {A : Addr} {acc : List D} {vs : List V} (d : DS K A F ι H acc vs) {y : D} {v : V} (r : Rep K F ι y v) : DS K A F ι (upd H A (.lst (vs ++ [v]))) (acc ++ [y]) (vs ++ [v]) :=
  ⟨upd_same, d.f, d.i, d.r.append (Reps.one r)⟩
section
variable {t : Tgt} {ft : FB} {fe : FE} {own : List Nat} {en : Sto} {A : Addr}
theorem lcGo_cons {ns : List Nat} {m0 : Mem} {d : D} {r : List D} {vs : List D} {mE : Mem} (h : lcGo t ft fe en ns m0 (d :: r) m = .ok vs mE) :
    ∃ e', bindT t d en = some e' ∧ ((∃ m1 v m2 ws, ft e' m = .ok true m1 ∧ fe e' m1 = .ok v m2 ∧ same ns m0 m2 = true ∧ lcGo t ft fe en ns m0 r m2 = .ok ws mE ∧ vs = v :: ws) ∨
      ∃ m1, ft e' m = .ok false m1 ∧ same ns m0 m1 = true ∧ lcGo t ft fe en ns m0 r m1 = .ok vs mE) := by
  unfold lcGo at h
  cases q : bindT t d en with
  | none => simp only [q] at h; cases h
  | some e' =>
    simp only [q] at h
    refine ⟨e', rfl, ?_⟩
    cases q1 : ft e' m with
    | ok b m1 =>
      simp only [q1] at h
      cases b with
      | true =>
        simp only at h
        cases q2 : fe e' m1 with
        | ok v m2 =>
          simp only [q2] at h
          cases q3 : same ns m0 m2 with
          | false => simp only [q3] at h; cases h
          | true =>
            simp only [q3, if_true] at h
            cases q4 : lcGo t ft fe en ns m0 r m2 with
            | ok ws m3 =>
              simp only [q4] at h
              cases h
              exact .inl ⟨m1, v, m2, ws, rfl, q2, q3, q4, rfl⟩
            | exc _ _ => simp only [q4] at h; cases h
            | bad => simp only [q4] at h; cases h
        | exc _ _ => simp only [q2] at h; cases h
        | bad => simp only [q2] at h; cases h
      | false =>
        simp only at h
        cases q3 : same ns m0 m1 with
        | false => simp only [q3] at h; cases h
        | true =>
          simp only [q3, if_true] at h
          exact .inr ⟨m1, rfl, q3, h⟩
    | exc _ _ => simp only [q1] at h; cases h
    | bad => simp only [q1] at h; cases h
theorem str_eq {x y : Str} (h : (x.cps.toList == y.cps.toList) = true) : x = y := strEq_eq h
mutual
theorem beqD_eq : ∀ {a b : D}, beqD a b = true → a = b
  | .non, b, h => by cases b <;> simp [beqD] at h <;> rfl
  | .bl _, b, h => by cases b <;> simp [beqD] at h <;> rw [h]
  | .int _, b, h => by cases b <;> simp [beqD] at h <;> rw [h]
  | .str x, b, h => by
    cases b with
    | str y => rw [str_eq (x := x) (y := y) (by simpa only [beqD] using h)]
    | _ => simp [beqD] at h
  | .tup xs, b, h => by
    cases b with
    | tup ys => rw [beqL_eq (a := xs) (b := ys) (by simpa only [beqD] using h)]
    | _ => simp [beqD] at h
  | .lst xs, b, h => by
    cases b with
    | lst ys => rw [beqL_eq (a := xs) (b := ys) (by simpa only [beqD] using h)]
    | _ => simp [beqD] at h
  | .scr xs, b, h => by
    cases b with
    | scr ys => rw [beqL_eq (a := xs) (b := ys) (by simpa only [beqD] using h)]
    | _ => simp [beqD] at h
  | .dct ks vs, b, h => by
    cases b with
    | dct ks' vs' =>
      simp only [beqD, Bool.and_eq_true] at h
      rw [beqL_eq h.1, beqL_eq h.2]
    | _ => simp [beqD] at h
  | .ref n, b, h => by cases b <;> simp [beqD] at h <;> rw [h]
theorem beqL_eq : ∀ {a b : List D}, beqL a b = true → a = b
  | [], [], _ => rfl
  | [], _ :: _, h => by simp [beqL] at h
  | _ :: _, [], h => by simp [beqL] at h
  | x :: xs, y :: ys, h => by
    simp only [beqL, Bool.and_eq_true] at h
    rw [beqD_eq h.1, beqL_eq h.2]
end
theorem beqF_eq : ∀ {a b : List (Str × D)}, beqF a b = true → a = b
  | [], [], _ => rfl
  | [], _ :: _, h => by simp [beqF] at h
  | _ :: _, [], h => by simp [beqF] at h
  | (x, d) :: xs, (y, d') :: ys, h => by
    simp only [beqF, Bool.and_eq_true] at h
    rw [str_eq h.1.1, beqD_eq h.1.2, beqF_eq h.2]
theorem beqC_eq {a b : Cell} (h : beqC a b = true) : a = b := by
  cases a with
  | lst xs =>
    cases b with
    | lst ys => rw [beqL_eq (a := xs) (b := ys) (by simpa only [beqC] using h)]
    | _ => simp [beqC] at h
  | dct ks vs =>
    cases b with
    | dct ks' vs' =>
      simp only [beqC, Bool.and_eq_true] at h
      rw [beqL_eq h.1, beqL_eq h.2]
    | _ => simp [beqC] at h
  | ins c fs =>
    cases b with
    | ins c' fs' =>
      simp only [beqC, Bool.and_eq_true] at h
      rw [str_eq h.1, beqF_eq h.2]
    | _ => simp [beqC] at h
theorem same_iff {ns : List Nat} {m m' : Mem} (h : same ns m m' = true) : ∀ n ∈ ns, m'[n]? = m[n]? := by
  unfold same at h
  rw [List.all_eq_true] at h
  intro n hn
  have := h n hn
  cases h1 : m'[n]? with
  | none =>
    cases h2 : m[n]? with
    | none => rfl
    | some c => rw [h1, h2] at this; cases this
  | some c =>
    cases h2 : m[n]? with
    | none => rw [h1, h2] at this; cases this
    | some c' => rw [h1, h2] at this; rw [beqC_eq this]
theorem drop_cons {α : Type} {l : List α} {i : Nat} {a : α} (h : l[i]? = some a) : l.drop i = a :: l.drop (i + 1) := by
  have hi : i < l.length := by
    by_cases q : i < l.length
    · exact q
    · rw [List.getElem?_eq_none (by omega)] at h; cases h
  rw [List.drop_eq_getElem_cons hi]
  rw [List.getElem?_eq_getElem hi] at h
  cases h
  rfl
/-- the target and the test of a turn -/
theorem turn_test {d : D} {x : V} {e' : Sto} {P : St → Bool → Hp → Prop} {b : Bool} {m2 : Mem} {own : List Nat} (s : Sim K F ι (Cs.wipe en own) m (L2.wipe σ own) H) (r : Rep K F ι d x) (hb : bindT t d (Cs.wipe en own) = some e') (hs : ∀ i ∈ slotsT t, i ∈ own)
    (ht : ft e' m = .ok b m2) (k : ∀ σ2 F3 ι3 H3, Sim K F3 ι3 e' m2 σ2 H3 → Ext F ι H F3 ι3 H3 → P σ2 b H3) :
    gT K t x (L2.wipe σ own) H fun σ2 H2 => L2.wipe σ2 own = L2.wipe σ own ∧ T K W RB ft σ2 H2 (P σ2) := by
  refine ⟨F, ι, m, _, d, e', s, r, hb, fun σ' s' off => ⟨off.wipe hs, F, ι, m, e', s', ?_⟩⟩
  rw [ht]
  intro b' F' ι' H' x sm eb
  cases (show b = b' from eb)
  exact k _ _ _ _ (s'.ext x sm) x

/-- the loop of one clause, onto a list that stands; Q is reached at its end -/
theorem lc_loop {ns : List Nat} {ds acc0 rest0 : List D} {vs0 : List V} {mE : Mem} {J : It} {Q : Hp → Prop} {F0 : Hp} {ι0 : List Addr} {H0 : Hp} (hs : ∀ i ∈ slotsT t, i ∈ own) (j : JRep K F1 ι1 J ns m1 ds) (sf : Sim K F1 ι1 en m1 σ H1)
    (x0 : Ext F0 ι0 H0 F1 ι1 H1) (hN : H0 A = none) (d0 : DS K A F1 ι1 H1 acc0 vs0) (hg : lcGo t ft fe (Cs.wipe en own) ns m1 ds m1 = .ok rest0 mE) (hz : acc0.length + rest0.length ≤ sizeLine)
    (fin : ∀ F ι H vs, Ext F0 ι0 H0 F ι H → SimM K F ι mE H → Gr F1 ι1 F ι → DS K A F ι H (acc0 ++ rest0) vs → Q H) :
    ∃ Wi : Nat → Nat → Hp → Prop, (∃ μ, Wi 0 μ H1) ∧ ∀ i μ H, Wi i μ H →
      (J.stop i H ∧ Q H) ∨ (J.go i H ∧ ∃ Nx : Hp → Prop, (∀ H', Nx H' → ∃ μ', μ' < μ ∧ Wi (i + 1) μ' H') ∧ ∀ x H', J.yld i H x H' → gT K t x (L2.wipe σ own) H' fun σ2 H2 => L2.wipe σ2 own = L2.wipe σ own ∧ T K W RB ft σ2 H2 fun b H3 =>
        if b = true then T K W (RV K) fe σ2 H3 fun y H4 => ∃ acc, H4 A = some (.lst acc) ∧ acc.length < sizeLine ∧ Nx (upd H4 A (.lst (acc ++ [y]))) else Nx H3) := by
  let Wi : Nat → Nat → Hp → Prop := fun i μ H => ∃ F ι m acc vs rest, μ = ds.length - i ∧ i ≤ ds.length ∧ SimM K F ι m H ∧ Ext F0 ι0 H0 F ι H ∧ Gr F1 ι1 F ι ∧ DS K A F ι H acc vs ∧ (∀ n ∈ ns, m[n]? = m1[n]?) ∧
    lcGo t ft fe (Cs.wipe en own) ns m1 (ds.drop i) m = .ok rest mE ∧ acc ++ rest = acc0 ++ rest0
  refine ⟨Wi, ⟨ds.length, F1, ι1, m1, acc0, vs0, rest0, by simp, Nat.zero_le _, sf.mem, x0, Gr.refl _ _, d0, fun _ _ => rfl, by simpa using hg, rfl⟩, ?_⟩
  rintro i μ H ⟨F, ι, m, acc, vs, rest, rfl, hi, sm, x1, g1, ds1, hn, hg1, he⟩
  by_cases hlt : i < ds.length
  · have hd : ds[i]? = some ds[i] := List.getElem?_eq_getElem hlt
    rw [drop_cons hd] at hg1
    obtain ⟨e', hb, hc⟩ := lcGo_cons hg1
    obtain ⟨go, yl⟩ := j.go _ _ _ _ g1 sm hn i _ hd
    have hacc : acc.length + rest.length ≤ sizeLine := by
      have := congrArg List.length he
      simp only [List.length_append] at this
      omega
    rcases hc with ⟨m2, v, m3, ws, ht, hf, hsm, hgr, rfl⟩ | ⟨m2, ht, hsm, hgr⟩
    · refine .inr ⟨go, Wi (i + 1) (ds.length - (i + 1)), fun H' h' => ⟨_, by omega, h'⟩, fun x H' hy => ?_⟩
      obtain ⟨F2, x2, s2, r2⟩ := yl x H' hy
      have sw : Sim K F2 ι (Cs.wipe en own) m (L2.wipe σ own) H' := (sf.wipe own).gr (g1.trans x2.gr) s2
      refine turn_test sw r2 hb hs ht fun σ2 F3 ι3 H3 s3 x3 => ?_
      rw [if_pos rfl]
      refine ⟨F3, ι3, m2, e', s3, ?_⟩
      rw [hf]
      intro y F4 ι4 H4 x4 s4 r4
      have d4 := ((ds1.ext x2).ext x3).ext x4
      have hl := ds1.r.length
      refine ⟨vs, d4.h, by simp only [List.length_cons] at hacc; omega, F4, ι4, m3, acc ++ [v], vs ++ [y], ws, rfl, by omega, s4.put' d4.f d4.i, (x1.trans (x2.trans (x3.trans x4))).put' hN d4.h, g1.trans ((x2.trans (x3.trans x4)).gr), d4.push r4, same_iff hsm, hgr, by rw [← he]; simp⟩
    · refine .inr ⟨go, Wi (i + 1) (ds.length - (i + 1)), fun H' h' => ⟨_, by omega, h'⟩, fun x H' hy => ?_⟩
      obtain ⟨F2, x2, s2, r2⟩ := yl x H' hy
      have sw : Sim K F2 ι (Cs.wipe en own) m (L2.wipe σ own) H' := (sf.wipe own).gr (g1.trans x2.gr) s2
      refine turn_test sw r2 hb hs ht fun σ2 F3 ι3 H3 s3 x3 => ?_
      rw [if_neg Bool.false_ne_true]
      exact ⟨F3, ι3, m2, acc, vs, rest, rfl, by omega, s3.mem, x1.trans (x2.trans x3), g1.trans ((x2.trans x3).gr), (ds1.ext x2).ext x3, same_iff hsm, hgr, he⟩
  · have e : i = ds.length := by omega
    subst e
    rw [List.drop_length] at hg1
    have hg1 : (Res.ok ([] : List D) m) = .ok rest mE := hg1
    cases hg1
    refine .inl ⟨j.stop _ _ _ _ g1 sm hn, fin _ _ _ vs x1 sm g1 ?_⟩
    rw [← he, List.append_nil]
    exact ds1
theorem lc_ok {fi : FI} {Q : VK} (hs : ∀ i ∈ slotsT t, i ∈ own) (h : T K W (RN K) (fLc own t fi ft fe) σ H Q) : tLc (T K W (RI K) (tagM fi)) (gT K t) (T K W RB ft) (T K W (RV K) fe) own σ H Q := by
  obtain ⟨F, ι, m, en, s, o⟩ := h
  refine Oit RN.down s o fun J F1 ι1 H1 m1 p s1 j x1 o1 => fun A hA => ?_
  cases q : lcGo t ft fe (Cs.wipe en own) p.2 m1 p.1 m1 with
  | exc _ _ => simp only [q] at o1; exact False.elim o1
  | bad => simp only [q] at o1; exact False.elim o1
  | ok all mE =>
    simp only [q] at o1
    by_cases hz : all.length ≤ sizeLine
    · rw [if_pos hz] at o1
      obtain ⟨hi, hF⟩ := s1.mem.notin hA
      refine lc_loop (F0 := F1) (ι0 := ι1) (H0 := H1) (acc0 := []) (vs0 := []) hs j (s1.ext (Ext.grow hA) (s1.mem.grow hA)) (Ext.grow hA) hA ⟨upd_same, hF, hi, Reps.nil⟩ q (by simpa using hz) fun F2 ι2 H2 vs x2 s2 g2 d2 => ?_
      exact o1.of x2 s2 ⟨A, vs, rfl, hA, d2.f, d2.i, d2.h, by simpa using d2.r⟩
    · rw [if_neg hz] at o1
      exact False.elim o1
theorem lc2Go_cons {inner : Sto → Mem → Res (List D)} {ns : List Nat} {m0 : Mem} {d : D} {r : List D} {vs : List D} {mE : Mem} (h : lc2Go t ft inner en ns m0 (d :: r) m = .ok vs mE) :
    ∃ e', bindT t d en = some e' ∧ ((∃ m1 us m2 ws, ft e' m = .ok true m1 ∧ inner e' m1 = .ok us m2 ∧ same ns m0 m2 = true ∧ lc2Go t ft inner en ns m0 r m2 = .ok ws mE ∧ vs = us ++ ws) ∨
      ∃ m1, ft e' m = .ok false m1 ∧ same ns m0 m1 = true ∧ lc2Go t ft inner en ns m0 r m1 = .ok vs mE) := by
  unfold lc2Go at h
  cases q : bindT t d en with
  | none => simp only [q] at h; cases h
  | some e' =>
    simp only [q] at h
    refine ⟨e', rfl, ?_⟩
    cases q1 : ft e' m with
    | ok b m1 =>
      simp only [q1] at h
      cases b with
      | true =>
        simp only at h
        cases q2 : inner e' m1 with
        | ok v m2 =>
          simp only [q2] at h
          cases q3 : same ns m0 m2 with
          | false => simp only [q3] at h; cases h
          | true =>
            simp only [q3, if_true] at h
            cases q4 : lc2Go t ft inner en ns m0 r m2 with
            | ok ws m3 =>
              simp only [q4] at h
              cases h
              exact .inl ⟨m1, v, m2, ws, rfl, q2, q3, q4, rfl⟩
            | exc _ _ => simp only [q4] at h; cases h
            | bad => simp only [q4] at h; cases h
        | exc _ _ => simp only [q2] at h; cases h
        | bad => simp only [q2] at h; cases h
      | false =>
        simp only at h
        cases q3 : same ns m0 m1 with
        | false => simp only [q3] at h; cases h
        | true =>
          simp only [q3, if_true] at h
          exact .inr ⟨m1, rfl, q3, h⟩
    | exc _ _ => simp only [q1] at h; cases h
    | bad => simp only [q1] at h; cases h
theorem lc2_ok {fi fi1 : FI} {t1 : Tgt} {ft1 : FB} {own1 : List Nat} {Q : VK} (hs : ∀ i ∈ slotsT t, i ∈ own) (hs1 : ∀ i ∈ slotsT t1, i ∈ own1) (h : T K W (RN K) (fLc2 own t fi ft own1 t1 fi1 ft1 fe) σ H Q) :
    tLc2 (T K W (RI K) (tagM fi)) (gT K t) (T K W RB ft) (T K W (RI K) (tagM fi1)) (gT K t1) (T K W RB ft1) (T K W (RV K) fe) own own1 σ H Q := by
  obtain ⟨F, ι, m, en, s, o⟩ := h
  refine Oit RN.down s o fun J F1 ι1 H1 m1 p s1 j x1 o1 => fun A hA => ?_
  cases q : lc2Go t ft (lcIn t1 fi1 ft1 fe own1) (Cs.wipe en own) p.2 m1 p.1 m1 with
  | exc _ _ => simp only [q] at o1; exact False.elim o1
  | bad => simp only [q] at o1; exact False.elim o1
  | ok all mE =>
    simp only [q] at o1
    by_cases hz : all.length ≤ sizeLine
    · rw [if_pos hz] at o1
      obtain ⟨hiA, hFA⟩ := s1.mem.notin hA
      have fin : ∀ F2 ι2 H2 vs, Ext F1 ι1 H1 F2 ι2 H2 → SimM K F2 ι2 mE H2 → DS K A F2 ι2 H2 all vs → Q (.ref A) H2 := fun F2 ι2 H2 vs x2 s2 d2 => o1.of x2 s2 ⟨A, vs, rfl, hA, d2.f, d2.i, d2.h, d2.r⟩
      let Wi : Nat → Nat → Hp → Prop := fun i μ H => ∃ F ι m acc vs rest, μ = p.1.length - i ∧ i ≤ p.1.length ∧ SimM K F ι m H ∧ Ext F1 ι1 H1 F ι H ∧ DS K A F ι H acc vs ∧ (∀ n ∈ p.2, m[n]? = m1[n]?) ∧
        lc2Go t ft (lcIn t1 fi1 ft1 fe own1) (Cs.wipe en own) p.2 m1 (p.1.drop i) m = .ok rest mE ∧ acc ++ rest = all
      refine ⟨Wi, ⟨p.1.length, F1, ι1, m1, [], [], all, by simp, Nat.zero_le _, s1.mem.grow hA, Ext.grow hA, ⟨upd_same, hFA, hiA, Reps.nil⟩, fun _ _ => rfl, by simpa using q, rfl⟩, ?_⟩
      rintro i μ H ⟨F, ι, m, acc, vs, rest, rfl, hi, sm, x1, ds1, hn, hg1, he⟩
      by_cases hlt : i < p.1.length
      · have hd : p.1[i]? = some p.1[i] := List.getElem?_eq_getElem hlt
        rw [drop_cons hd] at hg1
        obtain ⟨e', hb, hc⟩ := lc2Go_cons hg1
        obtain ⟨go, yl⟩ := j.go _ _ _ _ x1.gr sm hn i _ hd
        rcases hc with ⟨m2, us, m3, ws, ht, hf, hsm, hgr, rfl⟩ | ⟨m2, ht, hsm, hgr⟩
        · refine .inr ⟨go, Wi (i + 1) (p.1.length - (i + 1)), fun H' h' => ⟨_, by omega, h'⟩, fun x H' hy => ?_⟩
          obtain ⟨F2, x2, s2, r2⟩ := yl x H' hy
          have sw : Sim K F2 ι (Cs.wipe en own) m (L2.wipe σ own) H' := (s1.wipe own).gr (x1.gr.trans x2.gr) s2
          refine turn_test sw r2 hb hs ht fun σ2 F3 ι3 H3 s3 x3 => ?_
          rw [if_pos rfl]
          refine ⟨F3, ι3, m2, e', s3, ?_⟩
          unfold lcIn at hf
          unfold tagM
          cases z : fi1 e' m2 with
          | exc _ _ => rw [z] at hf; cases hf
          | bad => rw [z] at hf; cases hf
          | ok p1 m4 =>
            rw [z] at hf
            have hf : lcGo t1 ft1 fe (Cs.wipe e' own1) p1.2 m4 p1.1 m4 = .ok us m3 := hf
            intro J1 F4 ι4 H4 x4 s4 j4
            have d4 := ((ds1.ext x2).ext x3).ext x4
            refine lc_loop (F0 := F1) (ι0 := ι1) (H0 := H1) hs1 j4 ((s3.gr x4.gr s4)) (x1.trans (x2.trans (x3.trans x4))) hA d4 hf (by
              have := congrArg List.length he
              simp only [List.length_append] at this
              omega) fun F5 ι5 H5 vs5 x5 s5 g5 d5 => ?_
            exact ⟨F5, ι5, m3, acc ++ us, vs5, ws, rfl, by omega, s5, x5, d5, same_iff hsm, hgr, by rw [← he]; simp⟩
        · refine .inr ⟨go, Wi (i + 1) (p.1.length - (i + 1)), fun H' h' => ⟨_, by omega, h'⟩, fun x H' hy => ?_⟩
          obtain ⟨F2, x2, s2, r2⟩ := yl x H' hy
          have sw : Sim K F2 ι (Cs.wipe en own) m (L2.wipe σ own) H' := (s1.wipe own).gr (x1.gr.trans x2.gr) s2
          refine turn_test sw r2 hb hs ht fun σ2 F3 ι3 H3 s3 x3 => ?_
          rw [if_neg Bool.false_ne_true]
          exact ⟨F3, ι3, m2, acc, vs, rest, rfl, by omega, s3.mem, x1.trans (x2.trans x3), (ds1.ext x2).ext x3, same_iff hsm, hgr, he⟩
      · have e : i = p.1.length := by omega
        subst e
        rw [List.drop_length] at hg1
        have hg1 : (Res.ok ([] : List D) m) = .ok rest mE := hg1
        cases hg1
        refine .inl ⟨j.stop _ _ _ _ x1.gr sm hn, fin _ _ _ vs x1 sm ?_⟩
        rw [← he, List.append_nil]
        exact ds1
    · rw [if_neg hz] at o1
      exact False.elim o1
end
end
end Cs

/-! New cells; comprehensions in place; statements. -/
namespace Cs
open PySem L2 PySem.Spec
section
variable {X : Cx} {c : SC} {W : EW} {a b e tg : Expr} {fa fb f : FE} {pos : Pos} {K : PySem.W.Frag} {F F1 : Hp} {ι ι1 : List Addr} {H H1 : Hp} {m m1 : Mem} {σ : L2.St}
/-! ### new cells -/
theorem SimM.alloc (s : SimM K F ι m H) {p : Addr} {o : HO} {cc : Cell} (hF : F p = none) (hi : p ∉ ι) (hH : H p = some o) (r : RepC K F ι cc o) : SimM K F (ι ++ [p]) (m ++ [cc]) H := by
  have hι : ∀ (n : Nat) a, ι[n]? = some a → (ι ++ [p])[n]? = some a := fun n a q => by
    have : n < ι.length := by
      by_cases z : n < ι.length
      · exact z
      · rw [List.getElem?_eq_none (by omega)] at q; cases q
    rw [List.getElem?_append_left this]; exact q
  refine ⟨s.sub, by rw [List.length_append, List.length_append, s.len]; rfl, ?_, fun n a c e1 e2 => ?_⟩
  · rw [List.nodup_append]
    refine ⟨s.nd, by simp, fun x hx y hy => ?_⟩
    rw [List.mem_singleton.mp hy]
    exact fun z => hi (z ▸ hx)
  · by_cases q : n < ι.length
    · rw [List.getElem?_append_left q] at e1
      rw [List.getElem?_append_left (by rw [← s.len]; exact q)] at e2
      obtain ⟨h3, u, h4, r⟩ := s.cell n a c e1 e2
      exact ⟨h3, u, h4, r.mono (fun _ _ z => z) hι⟩
    · have hn : n = ι.length := by
        have : n < (ι ++ [p]).length := by
          by_cases z : n < (ι ++ [p]).length
          · exact z
          · rw [List.getElem?_eq_none (by omega)] at e1; cases e1
        rw [List.length_append, List.length_singleton] at this
        omega
      subst hn
      rw [List.getElem?_append_right (Nat.le_refl _), Nat.sub_self] at e1
      rw [s.len, List.getElem?_append_right (Nat.le_refl _), Nat.sub_self] at e2
      cases e1
      cases e2
      exact ⟨hF, o, hH, r.mono (fun _ _ z => z) hι⟩
theorem Ext.alloc {p : Addr} (x : Ext F ι H F1 ι1 H1) (hp : H p = none) : Ext F ι H F1 (ι1 ++ [p]) H1 where
  f := x.f
  n := x.n
  i := by
    obtain ⟨new, e, h⟩ := x.i
    refine ⟨new ++ [p], by rw [e, List.append_assoc], fun a ha => ?_⟩
    rcases List.mem_append.mp ha with z | z
    · exact h a z
    · rw [List.mem_singleton.mp z]; exact hp
  k := x.k
  t := x.t
theorem newT {Q : VK} (h : T K W (RV K) (fNew fa) σ H Q) : T K W (RN K) fa σ H Q := by
  obtain ⟨F, ι, m, en, s, o⟩ := h
  refine ⟨F, ι, m, en, s, ?_⟩
  unfold fNew at o
  cases q : fa en m with
  | exc y m1 => rw [q] at o; exact o
  | bad => rw [q] at o; exact o
  | ok d m1 =>
    rw [q] at o
    have o : Out K W (RV K) F ι σ H (match newC d m1 with
      | some p => Res.ok p.1 p.2
      | none => .bad) Q := o
    intro v F1 ι1 H1 x sm r
    cases d with
    | lst ds =>
      obtain ⟨p, vs, rfl, h0, hF, hi, hH, rs⟩ := r
      refine o _ _ (ι1 ++ [p]) _ (x.alloc h0) (sm.alloc hF hi hH ⟨vs, rfl, rs⟩) ?_
      show Rep K F1 (ι1 ++ [p]) (.ref m1.length) (.ref p)
      simp only [Rep]
      exact ⟨p, rfl, by rw [← sm.len, List.getElem?_append_right (Nat.le_refl _), Nat.sub_self]; rfl⟩
    | dct ks ws =>
      obtain ⟨p, u, rfl, h0, hF, hi, hH, rs⟩ := r
      refine o _ _ (ι1 ++ [p]) _ (x.alloc h0) (sm.alloc hF hi hH rs) ?_
      show Rep K F1 (ι1 ++ [p]) (.ref m1.length) (.ref p)
      simp only [Rep]
      exact ⟨p, rfl, by rw [← sm.len, List.getElem?_append_right (Nat.le_refl _), Nat.sub_self]; rfl⟩
    | _ => exact False.elim o

/-! ### statements: what is left behind -/
def OutS (K : PySem.W.Frag) (W : EW) (F : Hp) (ι : List Addr) (H : Hp) (r : SRes) (D : Ends) : Prop :=
  match r with
  | .ok f e m => ∀ F' ι' σ' H', Ext F ι H F' ι' H' → Sim K F' ι' e m σ' H' → match f with
    | .nx => D.nx σ' H'
    | .bk => D.bk σ' H'
    | .ct => D.ct σ' H'
    | .rt d => ∀ v, Rep K F' ι' d v → D.rt v H'
  | .exc x e m => ∀ F' ι' σ' H', Ext F ι H F' ι' H' → Sim K F' ι' e m σ' H' → W x F' ι' m σ' H'
  | .bad => False
def TSm (K : PySem.W.Frag) (W : EW) (f : FS) : TS := fun D σ H => ∃ F ι m e, Sim K F ι e m σ H ∧ OutS K W F ι H (f e m) D
abbrev TQ (X : Cx) (W : EW) (f : FS) : TS := TSm X.K W f
theorem PS.weak {st : Stmt} {t t' : TS} (h : PS X st t) (k : ∀ D σ H, t' D σ H → t D σ H) : PS X st t' := ⟨fun pins s σ H D I q => h.run pins s σ H D I (k D σ H q)⟩
theorem PSs.weak {st : List Stmt} {t t' : TS} (h : PSs X st t) (k : ∀ D σ H, t' D σ H → t D σ H) : PSs X st t' := ⟨fun pins s σ H D I q => h.run pins s σ H D I (k D σ H q)⟩
theorem OutS.shift {r : SRes} {D : Ends} (h : OutS K W F ι H r D) (x : Ext F ι H F1 ι1 H1) : OutS K W F1 ι1 H1 r D := by
  cases r with
  | ok f e m => exact fun F' ι' σ' H' x' s => h F' ι' σ' H' (x.trans x') s
  | exc y e m => exact fun F' ι' σ' H' x' s => h F' ι' σ' H' (x.trans x') s
  | bad => exact h
/-- an expression first, then the rest -/
theorem Sbnd {α β : Type} {R : AR α β} {f : Sto → Mem → Res α} {g : α → Mem → SRes} {en : Sto} {D : Ends} {P : β → Hp → Prop} (s : Sim K F ι en m σ H) (o : OutS K W F ι H (sBd (f en m) en g) D)
    (k : ∀ x F1 ι1 H1 m1 a, Sim K F1 ι1 en m1 σ H1 → R H F1 ι1 H1 a x → Ext F ι H F1 ι1 H1 → OutS K W F1 ι1 H1 (g a m1) D → P x H1) : T K W R f σ H P := by
  refine ⟨F, ι, m, en, s, ?_⟩
  cases q : f en m with
  | ok a m1 =>
    rw [q] at o
    exact fun b F' ι' H' x sm r => k b F' ι' H' m1 a (s.ext x sm) r x (OutS.shift o x)
  | exc y m1 =>
    rw [q] at o
    exact fun F' ι' H' x sm => o F' ι' σ H' x (s.ext x sm)
  | bad =>
    rw [q] at o
    exact o
theorem OutS.now {en : Sto} {D : Ends} (o : OutS K W F ι H (.ok .nx en m) D) (s : Sim K F ι en m σ H) : D.nx σ H := o F ι σ H (Ext.refl _ _ _) s
theorem OutS.of {en : Sto} {D : Ends} (o : OutS K W F ι H (.ok .nx en m) D) (x : Ext F ι H F1 ι1 H1) (s : Sim K F1 ι1 en m σ H1) : D.nx σ H1 := o F1 ι1 σ H1 x s
/-! ### the plain ones -/
theorem q_nx {st : Stmt} (h : PS X st tNext) : PS X st (TQ X W sNx) := PS.weak h fun D σ H ⟨F, ι, m, e, s, o⟩ => o.now s
theorem q_bk : PS X (.Break pos) (TQ X W sBreak) := PS.weak ps_break fun D σ H ⟨F, ι, m, e, s, o⟩ => o F ι σ H (Ext.refl _ _ _) s
theorem q_ct : PS X (.Continue pos) (TQ X W sCont) := PS.weak ps_continue fun D σ H ⟨F, ι, m, e, s, o⟩ => o F ι σ H (Ext.refl _ _ _) s
theorem q_ret (h : PE X e (TV X W f)) : PS X (.Return (some e) pos) (TQ X W (sRet f)) :=
  PS.weak (ps_ret h) fun D σ H ⟨F, ι, m, en, s, o⟩ => Sbnd s o fun x F1 ι1 H1 m1 d s1 r x1 o1 => o1 F1 ι1 σ H1 (Ext.refl _ _ _) s1 x r
theorem q_retN : PS X (.Return none pos) (TQ X W sRetN) := PS.weak ps_retN fun D σ H ⟨F, ι, m, en, s, o⟩ => o F ι σ H (Ext.refl _ _ _) s .non Rep.nonI
theorem q_drop (h : PE X e (TV X W f)) (hs : swapsWith e none pos.line X.env = pure false) : PS X (.Expr e pos) (TQ X W (sDrop f)) :=
  PS.weak (ps_expr h hs) fun D σ H ⟨F, ι, m, en, s, o⟩ => Sbnd s o fun x F1 ι1 H1 m1 d s1 r x1 o1 => o1.now s1
theorem q_if {x y : List Stmt} {ft : FB} {fx fy : FS} (ht : PT X e (T X.K W RB ft)) (hx : PSs X x (TQ X W fx)) (hy : PSs X y (TQ X W fy)) : PS X (.If e x y pos) (TQ X W (sIf ft fx fy)) :=
  PS.weak (ps_if ht hx hy) fun D σ H ⟨F, ι, m, en, s, o⟩ => Sbnd s o fun x F1 ι1 H1 m1 d s1 r x1 o1 => by
    cases (show d = x from r)
    cases x with
    | true => exact ⟨F1, ι1, m1, en, s1, o1⟩
    | false => exact ⟨F1, ι1, m1, en, s1, o1⟩
theorem q_seq {st : Stmt} {r : List Stmt} {fx fy : FS} (hx : PS X st (TQ X W fx)) (hy : PSs X r (TQ X W fy)) : PSs X (st :: r) (TQ X W (sSeq fx fy)) :=
  PSs.weak (pss_cons hx hy) fun D σ H ⟨F, ι, m, en, s, o⟩ => by
    refine ⟨F, ι, m, en, s, ?_⟩
    unfold sSeq at o
    cases q : fx en m with
    | ok fl e1 m1 =>
      rw [q] at o
      intro F' ι' σ' H' x' s'
      cases fl with
      | nx => exact ⟨F', ι', m1, e1, s', OutS.shift o x'⟩
      | bk => exact o F' ι' σ' H' x' s'
      | ct => exact o F' ι' σ' H' x' s'
      | rt d => exact o F' ι' σ' H' x' s'
    | exc y e1 m1 => rw [q] at o; exact o
    | bad => rw [q] at o; exact o
/-! ### names -/
/-- the name is set to the expression -/
def SetOk (X : Cx) (e : Expr) (t : TE) : Prop := ∀ (i : Nat) (x : Str) (p pos : Pos), X.N[i]? = some x → L2.Loc X.env.scope x → (X.fn x = true ∨ X.env.scope.names.lookup x = some .local) → PS X (.Assign [.Name x p] e pos) (tAsg t (gName i))
theorem SetOk.weak {t t' : TE} (h : SetOk X e t) (k : ∀ σ H Q, t' σ H Q → t σ H Q) : SetOk X e t' := fun i x p pos h1 h2 h3 => PS.weak (h i x p pos h1 h2 h3) fun D σ H q => k _ _ _ q
/-- an expression that is no comprehension -/
def noComp : Expr → Bool
  | .ListComp _ _ _ _ => false
  | .SetComp _ _ _ _ => false
  | .DictComp _ _ _ _ _ => false
  | _ => true
theorem sw_no (h : noComp e = true) (t : Option Expr) (l : Nat) : swapsWith e t l X.env = pure false := by
  cases e <;> first | rfl | cases h
theorem SetOk.of {t : TE} (C : Ctx X c W) (h : noComp e = true) (he : PE X e t) : SetOk X e t := fun i x p pos h1 h2 h3 => ps_set C.nd h1 h2 he (sw_no h _ _) h3
theorem q_set (C : Ctx X c W) {x : Str} {i : Nat} {p : Pos} (hi : c.slotW x = some i) (he : SetOk X e (TV X W f)) : PS X (.Assign [.Name x p] e pos) (TQ X W (sSet i f)) := by
  obtain ⟨h1, h2, h3⟩ := C.slotW hi
  exact PS.weak (he i x p pos h1 h2 h3) fun D σ H ⟨F, ι, m, en, s, o⟩ => Sbnd s o fun x F1 ι1 H1 m1 d s1 r x1 o1 => o1.now (s1.set r)
theorem q_asg (C : Ctx X c W) {n : Nat} {t : Tgt} (ht : tgtX c n tg = some t) (he : PE X e (TV X W f)) (hs : swapsWithSole [tg] e pos.line X.env = pure false) (hw : swappedStores [tg] e X.env = pure none) : PS X (.Assign [tg] e pos) (TQ X W (sAsg t f)) := by
  have h1 : (assignEach [tg] X.env).map (·.2) = [assign tg X.env] := by
    have hn : noStar [tg] = true := by
      unfold noStar
      rw [List.all_cons, tgt_no ht]; rfl
    rw [assign_each hn]; rfl
  refine PS.weak (ps_asg he (d_tgt C n tg t ht) hs hw h1) fun D σ H ⟨F, ι, m, en, s, o⟩ => Sbnd s o fun x F1 ι1 H1 m1 d s1 r x1 o1 => ?_
  cases q : bindT t d en with
  | none => simp only [q] at o1; exact False.elim o1
  | some e' =>
    simp only [q] at o1
    exact ⟨F1, ι1, m1, en, d, e', s1, r, q, fun σ' s' _ => o1.now s'⟩
/-! ### items -/
theorem set_put (C : Ctx X c W) : PSet X (fun o i v H Q => ∃ F ι m dO dI dV m', SimM X.K F ι m H ∧ Rep X.K F ι dO o ∧ Rep X.K F ι dI i ∧ Rep X.K F ι dV v ∧ putD dO dI dV m = some m' ∧ ∀ H', Ext F ι H F ι H' → SimM X.K F ι m' H' → Q H') := by
  have hu := C.hu
  intro pins s σ H o i v ov iv u Q I ro ri rv h
  obtain ⟨F, ι, m, dO, dI, dV, m', sm, rO, rI, rV, e, q⟩ := h
  cases dO with
  | ref n =>
    obtain ⟨p, rfl, hp⟩ := rO.refE
    unfold putD at e
    simp only at e
    cases z : m[n]? with
    | none => rw [z] at e; cases e
    | some cc =>
      rw [z] at e
      cases cc with
      | dct ks vs =>
        simp only at e
        cases ok : keyD ks dI && decide (ks.length < sizeLine) with
        | false => simp only [ok] at e; cases e
        | true =>
          simp only [ok] at e
          cases e
          rw [Bool.and_eq_true, decide_eq_true_eq] at ok
          obtain ⟨H0, H1, I0, g, x1, s1⟩ := dput I sm hp z ok.1 ok.2 rI rV
          cases (show ov = Value.ref p from ro)
          exact d_setItem (by omega) I0 g ri rv fun s' I' => ⟨H1, I', q _ x1 s1⟩
      | lst ds =>
        simp only at e
        cases dI with
        | int k =>
          simp only at e
          obtain ⟨j, h1, h2⟩ := Option.map_eq_some_iff.mp e
          subst h2
          obtain ⟨o', h3, vs, rfl, rs⟩ := sm.at hp z
          obtain ⟨x1, s1⟩ := sm.put hp z (.lst (vs.set j v)) (c := .lst (ds.set j dV)) ⟨_, rfl, rs.set j rV⟩
          exact set_list pins s σ H _ i v ov iv u Q I ro ri rv ⟨p, vs, k, j, rfl, rI.intE, h3, by rw [rs.length]; exact h1, q _ x1 s1⟩
        | _ => cases e
      | ins _ _ => cases e
  | _ => cases e
theorem sub_as {o i : Expr} {p : Pos} {env : PySem.Env} (h : plainIx i = true) : ∀ v, assign (.Subscript o i p) env v = (do
      let ov ← holding [v] (eval o env)
      let iv ← holding [v, ov] (eval i env)
      standAt p
      holding [v, ov, iv] (setItem ov iv v)
      release [v, ov, iv] []) := by
  intro v
  cases i <;> first | rfl | cases h
theorem q_put (C : Ctx X c W) {o i : Expr} {fo fi fv : FE} {p : Pos} (h : plainIx i = true) (ho : PE X o (TV X W fo)) (hi : PE X i (TV X W fi)) (he : PE X e (TV X W fv)) (hs : swapsWithSole [.Subscript o i p] e pos.line X.env = pure false)
    (hw : swappedStores [.Subscript o i p] e X.env = pure none) : PS X (.Assign [.Subscript o i p] e pos) (TQ X W (sPut fo fi fv)) := by
  refine PS.weak (ps_asg he (pg_sub ho hi (set_put C) (sub_as h)) hs hw rfl) fun D σ H ⟨F, ι, m, en, s, o⟩ => Sbnd s o fun v F1 ι1 H1 m1 dV s1 r1 x1 o1 => ?_
  refine Sbnd s1 o1 fun ov F2 ι2 H2 m2 dO s2 r2 x2 o2 => ?_
  refine Sbnd s2 o2 fun iv F3 ι3 H3 m3 dI s3 r3 x3 o3 => ?_
  cases q : putD dO dI dV m3 with
  | none => simp only [q] at o3; exact False.elim o3
  | some m' =>
    simp only [q] at o3
    exact ⟨F3, ι3, m3, dO, dI, dV, m', s3.mem, Rep.ext r2 x3, r3, (Rep.ext r1 x2).ext x3, q, fun H' x' s' => o3.of x' (s3.ext x' s')⟩
theorem get_dct (C : Ctx X c W) : PGet X (fun o i H Q => ∃ F ι m dO dI d, SimM X.K F ι m H ∧ Rep X.K F ι dO o ∧ Rep X.K F ι dI i ∧ dctAt m dO dI = some d ∧ ∀ v, Rep X.K F ι d v → Q v H) := by
  have hu := C.hu
  intro pins s σ H o i ov iv Q I ro ri h
  obtain ⟨F, ι, m, dO, dI, d, sm, rO, rI, e, q⟩ := h
  unfold dctAt at e
  split at e
  · rename_i ks ws e1
    split at e
    · rename_i ok
      obtain ⟨p, H', o, rfl, I', g, back, mt⟩ := dget I sm rO e1 ok rI
      cases (show ov = Value.ref p from ro)
      rw [e] at mt
      cases z : o with
      | none => rw [z] at mt; exact False.elim mt
      | some w =>
        rw [z] at mt g
        exact d_getItem (by omega) I' g ri fun w' s3 I3 rw' => ⟨w, H, back _ I3, rw', q _ mt⟩
    · cases e
  · cases e
theorem aug_ip (op : Operator) : PIp X op (fun x y H Q => ∃ F ι m a b d, SimM X.K F ι m H ∧ Rep X.K F ι a x ∧ Rep X.K F ι b y ∧ augD op a b = some d ∧ ∀ v, Rep X.K F ι d v → Q v H) := by
  intro pins s σ H x y v u Q I rx ry h
  obtain ⟨F, ι, m, a, b, d, sm, ra, rb, e, q⟩ := h
  unfold augD at e
  split at e
  · cases e
    exact ip_add pins s σ H x y v u Q I rx ry ⟨_, _, ra.intE, rb.intE, q _ Rep.intI⟩
  · cases e
    exact ip_sub pins s σ H x y v u Q I rx ry ⟨_, _, ra.intE, rb.intE, q _ Rep.intI⟩
  · cases e
theorem aug_st {i : Expr} (h : plainIx i = true) : ∀ ov iv new, augStore i ov iv new = (do holding [new, ov, iv] (setItem ov iv new); release [new, ov, iv] []; pure .next) := by
  intro ov iv new
  cases i <;> first | rfl | cases h
theorem q_augP (C : Ctx X c W) {op : Operator} {o i : Expr} {fo fi fv : FE} {p : Pos} (h : plainIx i = true) (ho : PE X o (TV X W fo)) (hi : PE X i (TV X W fi)) (he : PE X e (TV X W fv)) : PS X (.AugAssign (.Subscript o i p) op e pos) (TQ X W (sAugP op fo fi fv)) := by
  refine PS.weak (ps_augS ho hi (get_dct C) he (aug_ip op) (set_put C) (aug_st h)) fun D σ H ⟨F, ι, m, en, s, o⟩ => Sbnd s o fun ov F1 ι1 H1 m1 dO s1 r1 x1 o1 => ?_
  refine Sbnd s1 o1 fun iv F2 ι2 H2 m2 dI s2 r2 x2 o2 => ?_
  cases q : dctAt m2 dO dI with
  | none => simp only [q] at o2; exact False.elim o2
  | some d =>
    simp only [q] at o2
    refine ⟨F2, ι2, m2, dO, dI, d, s2.mem, Rep.ext r1 x2, r2, q, fun x rx => ?_⟩
    refine Sbnd s2 o2 fun y F3 ι3 H3 m3 dV s3 r3 x3 o3 => ?_
    cases q2 : augD op d dV with
    | none => simp only [q2] at o3; exact False.elim o3
    | some z =>
      simp only [q2] at o3
      refine ⟨F3, ι3, m3, d, dV, z, s3.mem, rx.ext x3, r3, q2, fun zv rz => ?_⟩
      cases q3 : putD dO dI z m3 with
      | none => simp only [q3] at o3; exact False.elim o3
      | some m' =>
        simp only [q3] at o3
        exact ⟨F3, ι3, m3, dO, dI, z, m', s3.mem, (Rep.ext r1 x2).ext x3, Rep.ext r2 x3, rz, q3, fun H' x' s' => o3.of x' (s3.ext x' s')⟩
theorem q_aug (C : Ctx X c W) {op : Operator} {x : Str} {i : Nat} {p : Pos} {fv : FE} (hi : c.slotW x = some i) (he : PE X e (TV X W fv)) : PS X (.AugAssign (.Name x p) op e pos) (TQ X W (sAug op i fv)) := by
  obtain ⟨h1, h2, h3⟩ := C.slotW hi
  refine PS.weak (ps_aug C.nd h1 h2 he (aug_ip op) h3) fun D σ H ⟨F, ι, m, en, s, o⟩ => ?_
  unfold sAug at o
  cases q : en[i]? with
  | none => simp only [q] at o; exact False.elim o
  | some oo =>
    cases oo with
    | none => simp only [q] at o; exact False.elim o
    | some d =>
      simp only [q] at o
      obtain ⟨v, e1, r⟩ := s.loc i d q
      refine ⟨v, e1, ?_⟩
      refine Sbnd s o fun y F1 ι1 H1 m1 dV s1 r1 x1 o1 => ?_
      cases q2 : augD op d dV with
      | none => simp only [q2] at o1; exact False.elim o1
      | some z =>
        simp only [q2] at o1
        exact ⟨F1, ι1, m1, d, dV, z, s1.mem, r.ext x1, r1, q2, fun zv rz => o1.now (s1.set rz)⟩
/-! ### loops -/
theorem q_whl (C : Ctx X c W) {ft : FB} {fx : FS} {x : List Stmt} (ht : PT X e (T X.K W RB ft)) (hx : PSs X x (TQ X W fx)) : PS X (.While e x [] pos) (TQ X W (sWhl ft fx)) := by
  refine PS.weak (ps_while C.pass ht hx) fun D σ H ⟨F, ι, m, en, s, o⟩ => ?_
  unfold sWhl at o
  generalize manyTurns = N at o
  refine ⟨fun μ σ H => ∃ F ι m en, Sim X.K F ι en m σ H ∧ OutS X.K W F ι H (whlGo ft fx μ en m) D, ⟨N, F, ι, m, en, s, o⟩, ?_⟩
  rintro μ σ H ⟨F, ι, m, en, s, o⟩
  cases μ with
  | zero => exact False.elim o
  | succ μ =>
    refine ⟨F, ι, m, en, s, ?_⟩
    unfold whlGo at o
    cases q : ft en m with
    | exc y m1 => simp only [q] at o; exact fun F' ι' H' x sm => o F' ι' σ H' x (s.ext x sm)
    | bad => simp only [q] at o; exact o
    | ok b m1 =>
      simp only [q] at o
      intro b' F1 ι1 H1 x1 s1 eb
      cases (show b = b' from eb)
      cases b with
      | false => exact o.of x1 (s.ext x1 s1)
      | true =>
        simp only at o
        rw [if_pos rfl]
        refine ⟨fun σ H => ∃ F ι m en, Sim X.K F ι en m σ H ∧ OutS X.K W F ι H (whlGo ft fx μ en m) D, fun σ' H' h => ⟨μ, Nat.lt_succ_self _, h⟩, F1, ι1, m1, en, s.ext x1 s1, ?_⟩
        have o := OutS.shift o x1
        cases q2 : fx en m1 with
        | exc y e2 m2 => simp only [q2] at o; exact o
        | bad => simp only [q2] at o; exact o
        | ok fl e2 m2 =>
          simp only [q2] at o
          cases fl with
          | nx => exact fun F' ι' σ' H' x' s' => ⟨F', ι', m2, e2, s', OutS.shift o x'⟩
          | ct => exact fun F' ι' σ' H' x' s' => ⟨F', ι', m2, e2, s', OutS.shift o x'⟩
          | bk => exact fun F' ι' σ' H' x' s' => o F' ι' σ' H' x' s'
          | rt d => exact fun F' ι' σ' H' x' s' => o F' ι' σ' H' x' s'
theorem q_for (C : Ctx X c W) {n : Nat} {t : Tgt} {fi : FI} {fx : FS} {x : List Stmt} (hno : noSet e = true) (ht : tgtX c n tg = some t) (hi : PI X tg e (TJ X W fi)) (hx : PSs X x (TQ X W fx)) : PS X (.For tg e x [] pos) (TQ X W (sFor t fi fx)) := by
  have hset : ∀ v, foldedSetIterable e X.env v = pure v := fun v => by cases e <;> first | rfl | cases hno
  refine PS.weak (ps_for C.pass C.calm hi (d_tgt C n tg t ht) hx hset) fun D σ H ⟨F, ι, m, en, s, o⟩ => ?_
  refine ⟨F, ι, m, en, s, ?_⟩
  unfold sFor at o
  unfold tagM
  cases q : fi en m with
  | exc y m1 => rw [q] at o; exact fun F' ι' H' x sm => o F' ι' σ H' x (s.ext x sm)
  | bad => rw [q] at o; exact o
  | ok p m1 =>
    rw [q] at o
    intro J F1 ι1 H1 x1 sm1 j
    have s1 := s.ext x1 sm1
    have o : OutS X.K W F1 ι1 H1 (forGo t fx p.2 m1 p.1 en m1) D := OutS.shift o x1
    have j : JRep X.K F1 ι1 J p.2 m1 p.1 := j
    let Wi : Nat → Nat → L2.St → Hp → Prop := fun i μ σ H => ∃ F ι m en, μ = p.1.length - i ∧ i ≤ p.1.length ∧ Sim X.K F ι en m σ H ∧ Gr F1 ι1 F ι ∧ (∀ n ∈ p.2, m[n]? = m1[n]?) ∧ OutS X.K W F ι H (forGo t fx p.2 m1 (p.1.drop i) en m) D
    refine ⟨Wi, ⟨p.1.length, F1, ι1, m1, en, by simp, Nat.zero_le _, s1, Gr.refl _ _, fun _ _ => rfl, by simpa using o⟩, ?_⟩
    rintro i μ σ H ⟨F, ι, m, en, rfl, hi, s, g, hn, o⟩
    by_cases hlt : i < p.1.length
    · have hd : p.1[i]? = some p.1[i] := List.getElem?_eq_getElem hlt
      rw [drop_cons hd] at o
      obtain ⟨go, yl⟩ := j.go _ _ _ _ g s.mem hn i _ hd
      refine .inr ⟨go, Wi (i + 1) (p.1.length - (i + 1)), fun σ' H' h' => ⟨_, by omega, h'⟩, fun v H' hy => ?_⟩
      obtain ⟨F2, x2, s2, r2⟩ := yl v H' hy
      have o := OutS.shift o x2
      unfold forGo at o
      cases q1 : bindT t p.1[i] en with
      | none => simp only [q1] at o; exact False.elim o
      | some e' =>
        simp only [q1] at o
        refine ⟨F2, ι, m, en, _, e', s.ext x2 s2, r2, q1, fun σ' s' _ => ⟨F2, ι, m, e', s', ?_⟩⟩
        cases q2 : fx e' m with
        | exc y e2 m2 => simp only [q2] at o; exact o
        | bad => simp only [q2] at o; exact o
        | ok fl e2 m2 =>
          simp only [q2] at o
          cases fl with
          | nx =>
            intro F' ι' σ' H' x' s'
            simp only at o
            cases sm : same p.2 m1 m2 with
            | false => simp only [sm] at o; exact False.elim o
            | true =>
              simp only [sm, if_true] at o
              exact ⟨F', ι', m2, e2, rfl, by omega, s', g.trans (x2.gr.trans x'.gr), same_iff sm, OutS.shift o x'⟩
          | ct =>
            intro F' ι' σ' H' x' s'
            simp only at o
            cases sm : same p.2 m1 m2 with
            | false => simp only [sm] at o; exact False.elim o
            | true =>
              simp only [sm, if_true] at o
              exact ⟨F', ι', m2, e2, rfl, by omega, s', g.trans (x2.gr.trans x'.gr), same_iff sm, OutS.shift o x'⟩
          | bk => exact fun F' ι' σ' H' x' s' => o F' ι' σ' H' x' s'
          | rt d => exact fun F' ι' σ' H' x' s' => o F' ι' σ' H' x' s'
    · have e : i = p.1.length := by omega
      subst e
      rw [List.drop_length] at o
      exact .inl ⟨j.stop _ _ _ _ g s.mem hn, o.now s⟩
end
end Cs

/-! Written dicts, comprehensions as expressions, several names at once. -/
namespace Cs
open PySem L2 PySem.Spec
section
variable {X : Cx} {c : SC} {W : EW} {a b e tg : Expr} {fa fb f : FE} {pos : Pos} {K : PySem.W.Frag} {F F1 : Hp} {ι ι1 : List Addr} {H H1 : Hp} {m m1 : Mem} {σ : L2.St}
/-! ### written dicts -/
def trs (X : Cx) (W : EW) (fs : List (FE × FE)) : List (TE × TE) := fs.map fun p => (TV X W p.1, TV X W p.2)
/-- one part first, the answer wished from an earlier place -/
theorem Obnd0 {α β γ δ : Type} {R : AR α β} {R' : AR γ δ} {f : Sto → Mem → Res α} {g : α → Mem → Res γ} {Q : δ → Hp → Prop} {P : β → Hp → Prop} {F0 : Hp} {ι0 : List Addr} {H0 : Hp} {en : Sto} (x0 : Ext F0 ι0 H0 F ι H) (s : Sim K F ι en m σ H)
    (o : Out K W R' F0 ι0 σ H0 (bnd (f en m) g) Q)
    (k : ∀ x F1 ι1 H1 m1 a, Sim K F1 ι1 en m1 σ H1 → R H F1 ι1 H1 a x → Ext F ι H F1 ι1 H1 → Out K W R' F0 ι0 σ H0 (g a m1) Q → P x H1) : T K W R f σ H P := by
  refine ⟨F, ι, m, en, s, ?_⟩
  cases q : f en m with
  | ok a m1 =>
    rw [q] at o
    exact fun b F' ι' H' x sm r => k b F' ι' H' m1 a (s.ext x sm) r x o
  | exc y m1 =>
    rw [q] at o
    exact fun F' ι' H' x sm => o F' ι' H' (x0.trans x) sm
  | bad =>
    rw [q] at o
    exact o
theorem pairs_ok {F0 : Hp} {ι0 : List Addr} {H0 : Hp} : ∀ {fs : List (FE × FE)} {F : Hp} {ι : List Addr} {m : Mem} {H : Hp} {en : Sto} {Q : List (V × V) → Hp → Prop} {R' : AR D V} {g : List D × List D → Mem → Res D} {QV : VK}, Ext F0 ι0 H0 F ι H → Sim X.K F ι en m σ H →
    Out X.K W R' F0 ι0 σ H0 (bnd (fPairs fs en m) g) QV →
    (∀ ks vs us ws F1 ι1 H1 m1, Sim X.K F1 ι1 en m1 σ H1 → Reps X.K F1 ι1 ks us → Reps X.K F1 ι1 vs ws → ks.length = fs.length → vs.length = fs.length → Ext F ι H F1 ι1 H1 → Out X.K W R' F0 ι0 σ H0 (g (ks, vs) m1) QV → Q (us.zip ws) H1) →
    tPairs (trs X W fs) σ H Q
  | [], F, ι, m, H, en, Q, R', g, QV, x0, s, o, k => k [] [] [] [] F ι H m s Reps.nil Reps.nil rfl rfl (Ext.refl _ _ _) o
  | (fk, fv) :: r, F, ι, m, H, en, Q, R', g, QV, x0, s, o, k => by
    unfold fPairs at o
    rw [bnd_bnd] at o
    simp only [bnd_bnd] at o
    refine Obnd0 x0 s o fun u F1 ι1 H1 m1 dk s1 r1 x1 o1 => ?_
    refine Obnd0 (x0.trans x1) s1 o1 fun w F2 ι2 H2 m2 dv s2 r2 x2 o2 => ?_
    refine pairs_ok (x0.trans (x1.trans x2)) s2 (g := fun kv m => g (dk :: kv.1, dv :: kv.2) m) o2 fun ks vs us ws F3 ι3 H3 m3 s3 r3 r4 l1 l2 x3 o3 => ?_
    exact k (dk :: ks) (dv :: vs) (u :: us) (w :: ws) F3 ι3 H3 m3 s3 (Reps.cons ((Rep.ext r1 x2).ext x3) r3) (Reps.cons (Rep.ext r2 x3) r4) (by simp [l1]) (by simp [l2]) (x1.trans (x2.trans x3)) o3
theorem pps_of (f : Expr → FE) (hf : ∀ e, PE X e (TV X W (f e))) : ∀ {ks : List (Option Expr)} {vs : List Expr} {fs : List (FE × FE)}, dctX f ks vs = some fs → PPs X pos ks vs (trs X W fs) ∧ ks.all (·.isSome) = true ∧ ks.length = vs.length ∧ fs.length = ks.length
  | [], [], fs, h => by
    have h : some [] = some fs := h
    cases h
    exact ⟨pps_nil, rfl, rfl, rfl⟩
  | some k :: ks, v :: vs, fs, h => by
    have h : (dctX f ks vs).map ((f k, f v) :: ·) = some fs := h
    obtain ⟨fs', h1, rfl⟩ := Option.map_eq_some_iff.mp h
    obtain ⟨q1, q2, q3, q4⟩ := pps_of f hf h1
    exact ⟨pps_cons (hf k) (hf v) q1, by rw [List.all_cons, q2]; rfl, by simp [q3], by simp [q4]⟩
  | none :: _, _, _, h => by cases h
  | some _ :: _, [], _, h => by cases h
  | [], _ :: _, _, h => by cases h
theorem d_dct (f : Expr → FE) (hf : ∀ e, PE X e (TV X W (f e))) {ks : List (Option Expr)} {vs : List Expr} {fs : List (FE × FE)} (h : dctX f ks vs = some fs) (h0 : ks ≠ []) (h15 : ks.length ≤ 15) : PE X (.Dict ks vs pos) (TN X W (fDct fs)) := by
  obtain ⟨q1, q2, q3, q4⟩ := pps_of (pos := pos) f hf h
  refine PE.weak (pe_disp q1 q2 q3 h0 h15) fun σ H Q ⟨F, ι, m, en, s, o⟩ => fun p hp => ?_
  unfold fDct at o
  obtain ⟨hi, hF⟩ := s.mem.notin hp
  have x0 : Ext F ι H F ι (upd H p (.dK [])) := Ext.grow hp
  refine pairs_ok x0 (s.ext x0 (s.mem.grow hp)) o fun kds vds us ws F1 ι1 H1 m1 s1 r1 r2 l1 l2 x1 o1 => ?_
  have hd : H1 p = some (.dK []) := x1.k _ _ hi upd_same
  refine ⟨hd, ?_⟩
  by_cases hfl : kds.all flatK = true
  · simp only [hfl, if_true] at o1
    obtain ⟨kr, rfl⟩ := flat_kd hfl
    have eu := keys_rep r1
    subst eu
    have hl1 := r1.length
    have hl2 := r2.length
    simp only [List.length_map] at hl1 l1
    refine ⟨kr.zip ws, ?_, ?_, ?_⟩
    · rw [List.zip_map_left]; rfl
    · rw [List.length_zip]; omega
    · have hF1 : F1 p = none := by
        cases z : F1 p with
        | none => rfl
        | some w =>
          rcases x1.n p (by rw [z]; exact fun q => nomatch q) with y | y
          · exact absurd hF y
          · rw [upd_same] at y; cases y
      have hi1 : p ∉ ι1 := fun z => by
        obtain ⟨new, e1, h1⟩ := x1.i
        rw [e1] at z
        rcases List.mem_append.mp z with z | z
        · exact hi z
        · have := h1 p z
          rw [upd_same] at this; cases this
      obtain ⟨g1, g2⟩ := merge_rep kr vds ws [] [] (by simp) Reps.nil r2 (by omega)
      exact o1 _ F1 ι1 _ ((x0.trans x1).put' hp hd) (s1.mem.put' hF1 hi1) ⟨p, _, rfl, hp, hF1, hi1, upd_same, .inl ⟨_, rfl, g1, g2⟩⟩
  · simp only [hfl] at o1
    exact False.elim o1
/-! ### comprehensions -/
theorem tYes_ok {Q : Bool → Hp → Prop} (h : T K W RB Cs.tYes σ H Q) : L2.tYes σ H Q := by
  obtain ⟨F, ι, m, en, s, o⟩ := h
  exact o.now s.mem rfl
theorem d_ifs {X : Cx} (f : Expr → FB) (hf : ∀ e, PT X e (T X.K W RB (f e))) (ifs : List Expr) : PTs X ifs (T X.K W RB (ifsX f ifs)) := by
  cases ifs with
  | nil => exact ⟨fun pins s σ H Q I h => pts_nil.run pins s σ H Q I (tYes_ok h)⟩
  | cons e r =>
    cases r with
    | nil => exact pts_one (hf e)
    | cons _ _ => exact ⟨fun pins s σ H Q I ⟨F, ι, m, en, s, o⟩ => False.elim o⟩
theorem set_by {x : Str} {p pos : Pos} {elt : Expr} {gs : List Comprehension} {scope : Scope} {pc : Pos} {t : TS} (h1 : swapsWith (.ListComp elt gs scope pc) (some (.Name x p)) pos.line X.env = pure false → PS X (.Assign [.Name x p] (.ListComp elt gs scope pc) pos) t)
    (h2 : X.env.scope.names.lookup x = some .local → swapsWith (.ListComp elt gs scope pc) (some (.Name x p)) pos.line X.env = pure true → PS X (.Assign [.Name x p] (.ListComp elt gs scope pc) pos) t) : PS X (.Assign [.Name x p] (.ListComp elt gs scope pc) pos) t := by
  have e : swapsWith (.ListComp elt gs scope pc) (some (.Name x p)) pos.line X.env = pure (X.env.blockKind == .function && X.env.kindOf x == some .local && p.line == pc.line && !(scope.names.any fun (n, k) => n == x && (k == .local || k == .cell))) := rfl
  cases q : (X.env.blockKind == .function && X.env.kindOf x == some .local && p.line == pc.line && !(scope.names.any fun (n, k) => n == x && (k == .local || k == .cell))) with
  | false => rw [q] at e; exact h1 e
  | true =>
    rw [q] at e
    simp only [Bool.and_eq_true, beq_iff_eq] at q
    exact h2 q.1.1.2 e
section
variable {elt it it1 tg1 : Expr} {ifs ifs1 : List Expr} {scope : Scope} {own : List (Str × Nat)} {fi fi1 : FI} {t t1 : Tgt} {ft ft1 : FB} {fe : FE} {n : Nat}
theorem d_lc (C : Ctx X c W) (hset : noSet it = true) (ok : blkC X.N X.env.scope scope own = true) (hs : ∀ i ∈ slotsT t, i ∈ own.map (·.2)) (ht : tgtX (inner c scope) n tg = some t) (hi : PI X tg it (TJ X W fi))
    (hif : ∀ (s : Shared) (H : Hp) (C : Addr) (cl : List (Str × Addr)) (fp : List Addr), PTs (X.blk s H scope (compEnvC scope cl C X.env) fp) ifs (T X.K W RB ft)) (he : ∀ (s : Shared) (H : Hp) (C : Addr) (cl : List (Str × Addr)) (fp : List Addr), PE (X.blk s H scope (compEnvC scope cl C X.env) fp) elt (T X.K W (RV X.K) fe)) :
    PE X (.ListComp elt [⟨tg, it, ifs, 0⟩] scope pos) (TN X W (fLc (own.map (·.2)) t fi ft fe)) ∧ SetOk X (.ListComp elt [⟨tg, it, ifs, 0⟩] scope pos) (TN X W (fLc (own.map (·.2)) t fi ft fe)) := by
  have hf : ∀ v, foldedSetIterable it X.env v = pure v := fun v => by cases it <;> first | rfl | cases hset
  have hg : ∀ (s : Shared) (H : Hp) (Cc : Addr) (cl : List (Str × Addr)) (fp : List Addr), PG (X.blk s H scope (compEnvC scope cl Cc X.env) fp) tg (gT X.K t) := fun s H Cc cl fp => d_tgt (W := W) (C.blk s H scope Cc cl fp) n tg t ht
  have main : PE X (.ListComp elt [⟨tg, it, ifs, 0⟩] scope pos) (TN X W (fLc (own.map (·.2)) t fi ft fe)) := PE.weak (pe_lc C.calm C.nd hi (blkOk_by ok) hg hif he hf) fun σ H Q h => lc_ok hs h
  refine ⟨main, fun i x p pos h1 h2 h3 => set_by (fun h => ps_set C.nd h1 h2 main h h3) fun hl h => ?_⟩
  exact PS.weak (ps_setLc C.calm C.nd h1 hl h hi (blkOk_by ok) hg hif he hf) fun D σ H h => lc_ok hs h
theorem d_lc2 (C : Ctx X c W) (hset : noSet it = true) (hset1 : noSet it1 = true) (ok : blkC X.N X.env.scope scope own = true) (hs : ∀ i ∈ slotsT t, i ∈ own.map (·.2)) (hs1 : ∀ i ∈ slotsT t1, i ∈ own.map (·.2)) (ht : tgtX (inner c scope) n tg = some t) (ht1 : tgtX (inner c scope) n tg1 = some t1) (hi : PI X tg it (TJ X W fi))
    (hif : ∀ (s : Shared) (H : Hp) (C : Addr) (cl : List (Str × Addr)) (fp : List Addr), PTs (X.blk s H scope (compEnvC scope cl C X.env) fp) ifs (T X.K W RB ft)) (he : ∀ (s : Shared) (H : Hp) (C : Addr) (cl : List (Str × Addr)) (fp : List Addr), PE (X.blk s H scope (compEnvC scope cl C X.env) fp) elt (T X.K W (RV X.K) fe))
    (hi1 : ∀ (s : Shared) (H : Hp) (C : Addr) (cl : List (Str × Addr)) (fp : List Addr), PI (X.blk s H scope (compEnvC scope cl C X.env) fp) tg1 it1 (T X.K W (RI X.K) (tagM fi1)))
    (hif1 : ∀ (s : Shared) (H : Hp) (C : Addr) (cl : List (Str × Addr)) (fp : List Addr), PTs (X.blk s H scope (compEnvC scope cl C X.env) fp) ifs1 (T X.K W RB ft1)) :
    PE X (.ListComp elt [⟨tg, it, ifs, 0⟩, ⟨tg1, it1, ifs1, 0⟩] scope pos) (TN X W (fLc2 (own.map (·.2)) t fi ft (slotsT t1) t1 fi1 ft1 fe)) ∧
    SetOk X (.ListComp elt [⟨tg, it, ifs, 0⟩, ⟨tg1, it1, ifs1, 0⟩] scope pos) (TN X W (fLc2 (own.map (·.2)) t fi ft (slotsT t1) t1 fi1 ft1 fe)) := by
  have hf : ∀ v, foldedSetIterable it X.env v = pure v := fun v => by cases it <;> first | rfl | cases hset
  have hf1 : ∀ env v, foldedSetIterable it1 env v = pure v := fun env v => by cases it1 <;> first | rfl | cases hset1
  have hg : ∀ (s : Shared) (H : Hp) (Cc : Addr) (cl : List (Str × Addr)) (fp : List Addr), PG (X.blk s H scope (compEnvC scope cl Cc X.env) fp) tg (gT X.K t) := fun s H Cc cl fp => d_tgt (W := W) (C.blk s H scope Cc cl fp) n tg t ht
  have hg1 : ∀ (s : Shared) (H : Hp) (Cc : Addr) (cl : List (Str × Addr)) (fp : List Addr), PG (X.blk s H scope (compEnvC scope cl Cc X.env) fp) tg1 (gT X.K t1) := fun s H Cc cl fp => d_tgt (W := W) (C.blk s H scope Cc cl fp) n tg1 t1 ht1
  have main : PE X (.ListComp elt [⟨tg, it, ifs, 0⟩, ⟨tg1, it1, ifs1, 0⟩] scope pos) (TN X W (fLc2 (own.map (·.2)) t fi ft (slotsT t1) t1 fi1 ft1 fe)) :=
    PE.weak (pe_lc2 C.calm C.nd hi (blkOk_by ok) hs1 hg hif hi1 hg1 hif1 he hf hf1) fun σ H Q h => lc2_ok hs (fun _ h => h) h
  refine ⟨main, fun i x p pos h1 h2 h3 => set_by (fun h => ps_set C.nd h1 h2 main h h3) fun hl h => ?_⟩
  exact PS.weak (ps_setLc2 C.calm C.nd h1 hl h hi (blkOk_by ok) hs1 hg hif hi1 hg1 hif1 he hf hf1) fun D σ H h => lc2_ok hs (fun _ h => h) h
end
/-! ### a, b = x, y -/
theorem sBd_bnd {α β : Type} (r : Res α) (g : α → Mem → Res β) (en : Sto) (k : β → Mem → SRes) : sBd (bnd r g) en k = sBd r en fun a m => sBd (g a m) en k := by cases r <;> rfl
theorem loc_ok (C : Ctx X c W) {x : Str} (h : c.isLocal x = true) : X.env.scope.names.lookup x = some .local := by
  unfold SC.isLocal at h
  rw [lkp_lookup, ← C.sc] at h
  split at h
  · assumption
  · cases h
theorem okFun (I : X.Ok) : X.env.blockKind = .function := by
  unfold Env.blockKind
  rw [I.kind]; rfl
theorem ps_ok {st : Stmt} {t : TS} (h : X.Ok → PS X st t) : PS X st t := ⟨fun pins s σ H D I q => (h I.ok).run pins s σ H D I q⟩
theorem str_ne {x y : Str} (h : (!strEq x y) = true) : x ≠ y := strEq_ne (by simpa using h)
theorem unst : ∀ {a : Expr}, unstar a = true → (match a with | .Starred _ _ => true | _ => false) = false := by
  intro a h
  cases a <;> first | rfl | cases h
theorem noStar_hd {es : List Expr} (h : noStar (a :: es) = true) : unstar a = true := by
  unfold noStar at h
  rw [List.all_cons, Bool.and_eq_true] at h
  exact h.1
theorem q_par2 (C : Ctx X c W) {x y : Str} {px py pt : Pos} {kt k2 pt2} {i j : Nat} (hi : c.slotW x = some i) (hj : c.slotW y = some j) (hij : i ≠ j) (hxy : x ≠ y) (h : swp2 c x y px py = true) (hs : noStar [a, b] = true) (hf : foldS [a, b] = false) (hc : foldC [a, b] = false)
    (ha : PE X a (TV X W fa)) (hb : PE X b (TV X W fb)) : PS X (.Assign [.Tuple [.Name x px, .Name y py] kt pt] (.Tuple [a, b] k2 pt2) pos) (TQ X W (sPar [i, j] (fCons fa (fCons fb fNil)))) := ps_ok fun O => by
  unfold swp2 at h
  simp only [Bool.and_eq_true] at h
  have lx := loc_ok C h.1.1.1
  have ly := loc_ok C h.1.1.2
  have kx : X.env.kindOf x = some .local := lx
  have ky : X.env.kindOf y = some .local := ly
  have hw : swappedStores [.Tuple [.Name x px, .Name y py] kt pt] (.Tuple [a, b] k2 pt2) X.env = pure (some [x, y]) := by
    unfold foldS at hf
    unfold foldC at hc
    have e1 : (x :: [y]).eraseDups.length = 2 := by
      have : (y == x) = false := by simpa using Ne.symm hxy
      simp [List.eraseDups_cons, this]
    simp only [swappedStores, okFun O]
    simp only [hf, hc, List.length_cons, List.length_nil, List.head?_cons, Option.map_some, Option.getD_some, Expr.pos, List.filterMap_cons, List.filterMap_nil, kx, ky, h.1.2, h.2]
    simp [e1, Pure.pure]
    exact ⟨unst (noStar_hd hs), unst (noStar_hd (noStar_tl hs))⟩
  refine PS.weak (ps_par C.calm C.nd (C.slotW hi).1 (C.slotW hj).1 hij lx ly (pa_cons ha (pa_cons hb pa_nil (star1 (noStar_tl hs))) (star1 hs)) hw) fun D σ H ⟨F, ι, m, en, s, o⟩ => ?_
  unfold sPar fCons at o
  rw [sBd_bnd] at o
  refine Sbnd s o fun x F1 ι1 H1 m1 d1 s1 r1 x1 o1 => ?_
  unfold fCons at o1
  rw [bnd_bnd, sBd_bnd] at o1
  refine Sbnd s1 o1 fun y F2 ι2 H2 m2 d2 s2 r2 x2 o2 => ?_
  have o2 : OutS X.K W F2 ι2 H2 (.ok .nx ((en.set i (some d1)).set j (some d2)) m2) D := o2
  exact ⟨x, y, rfl, o2.now ((s2.set (Rep.ext r1 x2)).set r2)⟩
theorem q_par3 (C : Ctx X c W) {d : Expr} {fd : FE} {x y z : Str} {px py pz pt : Pos} {kt k2 pt2} {i j l : Nat} (hi : c.slotW x = some i) (hj : c.slotW y = some j) (hl : c.slotW z = some l) (hij : i ≠ j) (hil : i ≠ l) (hjl : j ≠ l) (hxy : x ≠ y) (hxz : x ≠ z) (hyz : y ≠ z)
    (h : swp3 c x y z px py pz = true) (hs : noStar [a, b, d] = true) (hf : foldS [a, b, d] = false) (hc : foldC [a, b, d] = false)
    (ha : PE X a (TV X W fa)) (hb : PE X b (TV X W fb)) (hd : PE X d (TV X W fd)) : PS X (.Assign [.Tuple [.Name x px, .Name y py, .Name z pz] kt pt] (.Tuple [a, b, d] k2 pt2) pos) (TQ X W (sPar [i, j, l] (fCons fa (fCons fb (fCons fd fNil))))) := ps_ok fun O => by
  unfold swp3 at h
  simp only [Bool.and_eq_true] at h
  have lx := loc_ok C h.1.1.1.1.1
  have ly := loc_ok C h.1.1.1.1.2
  have lz := loc_ok C h.1.1.1.2
  have kx : X.env.kindOf x = some .local := lx
  have ky : X.env.kindOf y = some .local := ly
  have kz : X.env.kindOf z = some .local := lz
  have hw : swappedStores [.Tuple [.Name x px, .Name y py, .Name z pz] kt pt] (.Tuple [a, b, d] k2 pt2) X.env = pure (some [x, y, z]) := by
    unfold foldS at hf
    unfold foldC at hc
    have e1 : (x :: [y, z]).eraseDups.length = 3 := by
      have h1 : (y == x) = false := by simpa using Ne.symm hxy
      have h2 : (z == x) = false := by simpa using Ne.symm hxz
      have h3 : (z == y) = false := by simpa using Ne.symm hyz
      simp [List.eraseDups_cons, h1, h2, h3]
    simp only [swappedStores, okFun O]
    simp only [hf, hc, List.length_cons, List.length_nil, List.head?_cons, Option.map_some, Option.getD_some, Expr.pos, List.filterMap_cons, List.filterMap_nil, kx, ky, kz, h.1.1.2, h.1.2, h.2]
    simp [e1, Pure.pure]
    exact ⟨unst (noStar_hd hs), unst (noStar_hd (noStar_tl hs)), unst (noStar_hd (noStar_tl (noStar_tl hs)))⟩
  refine PS.weak (ps_par3 C.calm C.nd (C.slotW hi).1 (C.slotW hj).1 (C.slotW hl).1 hij hil hjl lx ly lz (pa_cons ha (pa_cons hb (pa_cons hd pa_nil (star1 (noStar_tl (noStar_tl hs)))) (star1 (noStar_tl hs))) (star1 hs)) hw) fun D σ H ⟨F, ι, m, en, s, o⟩ => ?_
  unfold sPar fCons at o
  rw [sBd_bnd] at o
  refine Sbnd s o fun x F1 ι1 H1 m1 d1 s1 r1 x1 o1 => ?_
  unfold fCons at o1
  rw [bnd_bnd, sBd_bnd] at o1
  refine Sbnd s1 o1 fun y F2 ι2 H2 m2 d2 s2 r2 x2 o2 => ?_
  unfold fCons at o2
  rw [bnd_bnd, bnd_bnd, sBd_bnd] at o2
  refine Sbnd s2 o2 fun z F3 ι3 H3 m3 d3 s3 r3 x3 o3 => ?_
  have o3 : OutS X.K W F3 ι3 H3 (.ok .nx (((en.set i (some d1)).set j (some d2)).set l (some d3)) m3) D := o3
  exact ⟨x, y, z, rfl, o3.now (((s3.set ((Rep.ext r1 x2).ext x3)).set (Rep.ext r2 x3)).set r3)⟩
/-! ### a tuple of targets, from the left -/
theorem sw_fold {es vs : List Expr} {k : Nat} {p : Pos} {k2 p2} (hs : noStar vs = true) (hf : foldS vs = true) : swappedStores [.Tuple es k p] (.Tuple vs k2 p2) X.env = pure none := by
  unfold foldS at hf
  simp only [swappedStores, hf]
  split
  · rfl
  · split
    · rfl
    · split <;> rfl
theorem sw_len {es vs : List Expr} {k : Nat} {p : Pos} {k2 p2} (h : (decide (es.length = 2) || decide (es.length = 3)) = false) : swappedStores [.Tuple es k p] (.Tuple vs k2 p2) X.env = pure none := by
  simp only [Bool.or_eq_false_iff, decide_eq_false_iff_not] at h
  simp only [swappedStores]
  rw [if_pos]
  · simp [h.1, h.2]
theorem sw_two (O : X.Ok) (C : Ctx X c W) {x y : Str} {px py : Pos} {k : Nat} {p : Pos} {k2 p2} (hs : noStar [a, b] = true) (h : swp2 c x y px py = false) : swappedStores [.Tuple [.Name x px, .Name y py] k p] (.Tuple [a, b] k2 p2) X.env = pure none := by
  have kx : (X.env.kindOf x == some .local) = c.isLocal x := by
    show (X.env.scope.names.lookup x == some .local) = c.isLocal x
    unfold SC.isLocal
    rw [C.sc, lkp_lookup]
    cases c.sc.names.lookup x with
    | none => rfl
    | some q => cases q <;> rfl
  have ky : (X.env.kindOf y == some .local) = c.isLocal y := by
    show (X.env.scope.names.lookup y == some .local) = c.isLocal y
    unfold SC.isLocal
    rw [C.sc, lkp_lookup]
    cases c.sc.names.lookup y with
    | none => rfl
    | some q => cases q <;> rfl
  unfold swp2 at h
  simp only [swappedStores, okFun O]
  simp only [List.length_cons, List.length_nil, List.head?_cons, Option.map_some, Option.getD_some, Expr.pos, List.filterMap_cons, List.filterMap_nil, kx, ky]
  have e2 := unst (noStar_hd hs)
  have e3 := unst (noStar_hd (noStar_tl hs))
  cases h1 : c.isLocal x <;> cases h2 : c.isLocal y <;> cases h3 : (py.line == px.line) <;> simp [h1, h2, h3, Pure.pure] at h ⊢
theorem sw_three (O : X.Ok) (C : Ctx X c W) {d : Expr} {x y z : Str} {px py pz : Pos} {k : Nat} {p : Pos} {k2 p2} (hs : noStar [a, b, d] = true) (h : swp3 c x y z px py pz = false) : swappedStores [.Tuple [.Name x px, .Name y py, .Name z pz] k p] (.Tuple [a, b, d] k2 p2) X.env = pure none := by
  have kk : ∀ x, (X.env.kindOf x == some .local) = c.isLocal x := fun x => by
    show (X.env.scope.names.lookup x == some .local) = c.isLocal x
    unfold SC.isLocal
    rw [C.sc, lkp_lookup]
    cases c.sc.names.lookup x with
    | none => rfl
    | some q => cases q <;> rfl
  unfold swp3 at h
  simp only [swappedStores, okFun O]
  simp only [List.length_cons, List.length_nil, List.head?_cons, Option.map_some, Option.getD_some, Expr.pos, List.filterMap_cons, List.filterMap_nil, kk]
  cases h1 : c.isLocal x <;> cases h2 : c.isLocal y <;> cases h4 : c.isLocal z <;> cases h3 : (py.line == px.line) <;> cases h5 : (pz.line == px.line) <;> simp [h1, h2, h3, h4, h5, Pure.pure] at h ⊢
end
end Cs

/-! A dict is walked: locked meanwhile. -/
namespace Cs
open PySem L2 PySem.Spec
/-- a dict that is not empty -/
def Dn (u : HO) : Prop := (∃ p r, u = .dK (p :: r)) ∨ ∃ p r, u = .dT (p :: r)
theorem Dn.mut {u : HO} (h : Dn u) : Mut (some u) := by
  rcases h with ⟨p, r, rfl⟩ | ⟨p, r, rfl⟩ <;> exact True.intro
def Lk (u u1 : HO) : Prop := u1 = u ∨ ∃ o, u1 = .frz o u
section
variable {K : PySem.W.Frag} {F F1 F' : Hp} {ι ι1 ι' : List Addr} {H H1 H' : Hp} {m m1 m' : Mem} {en : Sto} {σ : L2.St} {a : Addr} {u u1 u2 : HO}
theorem lk_tup (d : Dn u) (l : Lk u u1) {b : Addr} {xs : List V} (h : F a = some u1) (q : Rd F b (.tup xs)) : b ≠ a := by
  rintro rfl
  rcases q with q | ⟨o, q⟩
  · rw [h] at q
    rcases l with rfl | ⟨o, rfl⟩
    · rcases d with ⟨p, r, rfl⟩ | ⟨p, r, rfl⟩ <;> cases q
    · cases q
  · rw [h] at q
    rcases l with rfl | ⟨o, rfl⟩
    · rcases d with ⟨p, r, rfl⟩ | ⟨p, r, rfl⟩ <;> cases q
    · rcases d with ⟨p, r, rfl⟩ | ⟨p, r, rfl⟩ <;> cases q
theorem lk_lst (d : Dn u) (l : Lk u u1) {b : Addr} {xs : List V} (h : F a = some u1) (q : Rd F b (.lst xs)) : b ≠ a := by
  rintro rfl
  rcases q with q | ⟨o, q⟩
  · rw [h] at q
    rcases l with rfl | ⟨o, rfl⟩
    · rcases d with ⟨p, r, rfl⟩ | ⟨p, r, rfl⟩ <;> cases q
    · cases q
  · rw [h] at q
    rcases l with rfl | ⟨o, rfl⟩
    · rcases d with ⟨p, r, rfl⟩ | ⟨p, r, rfl⟩ <;> cases q
    · rcases d with ⟨p, r, rfl⟩ | ⟨p, r, rfl⟩ <;> cases q
theorem Rd.upd {b : Addr} {w : HO} (h : Rd F b w) (hb : b ≠ a) : Rd (upd F a u2) b w := by
  rcases h with h | ⟨o, h⟩
  · exact .inl (by rw [upd_ne hb]; exact h)
  · exact .inr ⟨o, by rw [upd_ne hb]; exact h⟩
theorem lk_rde (d : Dn u) (l1 : Lk u u1) (l2 : Lk u u2) (h : F a = some u1) {b : Addr} {w : HO} (hw : ∀ o v, w ≠ .frz o v) (q : RdE F b w) : RdE (upd F a u2) b w := by
  by_cases hb : b = a
  · subst hb
    have e : w = u := by
      rcases q with q | ⟨_, _, o, q⟩
      · rw [h] at q
        rcases l1 with rfl | ⟨o, rfl⟩
        · exact (Option.some.inj q).symm
        · exact absurd (Option.some.inj q).symm (hw _ _)
      · rw [h] at q
        rcases l1 with rfl | ⟨o', rfl⟩
        · rcases d with ⟨p, r, rfl⟩ | ⟨p, r, rfl⟩ <;> cases q
        · cases q; rfl
    subst e
    rcases l2 with rfl | ⟨o, rfl⟩
    · exact .inl upd_same
    · refine .inr ⟨?_, ?_, o, upd_same⟩
      · rcases d with ⟨p, r, rfl⟩ | ⟨p, r, rfl⟩ <;> exact fun z => by cases z
      · rcases d with ⟨p, r, rfl⟩ | ⟨p, r, rfl⟩ <;> exact fun z => by cases z
  · rcases q with q | ⟨h1, h2, o, q⟩
    · exact .inl (by rw [upd_ne hb]; exact q)
    · exact .inr ⟨h1, h2, o, by rw [upd_ne hb]; exact q⟩
mutual
theorem Rep.swap (d : Dn u) (l1 : Lk u u1) (l2 : Lk u u2) (h : F a = some u1) : ∀ {x : D} {v : V}, Rep K F ι x v → Rep K (upd F a u2) ι x v
  | .non, _, r => by simpa [Rep] using r
  | .bl _, _, r => by simpa [Rep] using r
  | .int _, _, r => by simpa [Rep] using r
  | .str _, _, r => by simpa [Rep] using r
  | .tup ds, _, r => by
    simp only [Rep] at r ⊢
    obtain ⟨b, vs, e, q, t, n, rs⟩ := r
    refine ⟨b, vs, e, ?_, fun z => ?_, fun z => ?_, Reps.swap d l1 l2 h rs⟩
    · rcases q with q | q
      · exact .inl (Rd.upd q (lk_tup d l1 h q))
      · exact .inr q
    · have := t z
      rw [upd_ne (lk_tup d l1 h (.inl this))]
      exact this
    · rcases n z with ⟨o, w, q, r⟩ | q
      · exact .inl ⟨o, w, by rw [upd_ne (lk_tup d l1 h (.inr ⟨o, q⟩))]; exact q, r⟩
      · exact .inr q
  | .lst ds, _, r => by
    simp only [Rep] at r ⊢
    obtain ⟨b, vs, e, q, rs⟩ := r
    exact ⟨b, vs, e, by rw [upd_ne (lk_lst d l1 h (.inl q))]; exact q, Reps.swap d l1 l2 h rs⟩
  | .scr ds, _, r => by
    simp only [Rep] at r ⊢
    obtain ⟨b, vs, e, q, rs⟩ := r
    refine ⟨b, vs, e, ?_, Reps.swap d l1 l2 h rs⟩
    rcases q with q | q
    · exact .inl (Rd.upd q (lk_lst d l1 h q))
    · exact .inr q
  | .dct ks ws, _, r => by
    simp only [Rep] at r ⊢
    obtain ⟨b, e, ⟨kvs, q, e2, rs⟩ | ⟨kvs, q, e2, rs⟩⟩ := r
    · exact ⟨b, e, .inl ⟨kvs, lk_rde d l1 l2 h (fun _ _ z => nomatch z) q, e2, Reps.swap d l1 l2 h rs⟩⟩
    · exact ⟨b, e, .inr ⟨kvs, lk_rde d l1 l2 h (fun _ _ z => nomatch z) q, e2, Reps.swap d l1 l2 h rs⟩⟩
  | .ref n, _, r => by simpa [Rep] using r
theorem Reps.swap (d : Dn u) (l1 : Lk u u1) (l2 : Lk u u2) (h : F a = some u1) : ∀ {xs : List D} {vs : List V}, Reps K F ι xs vs → Reps K (upd F a u2) ι xs vs
  | [], _, r => by simpa [Reps] using r
  | x :: xs, _, r => by
    simp only [Reps] at r ⊢
    obtain ⟨v, w, e, r1, r2⟩ := r
    exact ⟨v, w, e, Rep.swap d l1 l2 h r1, Reps.swap d l1 l2 h r2⟩
end
theorem RepC.swap (d : Dn u) (l1 : Lk u u1) (l2 : Lk u u2) (h : F a = some u1) {c : Cell} {o : HO} (r : RepC K F ι c o) : RepC K (upd F a u2) ι c o := by
  cases c with
  | lst ds =>
    obtain ⟨vs, e, r⟩ := r
    exact ⟨vs, e, r.swap d l1 l2 h⟩
  | dct ks ws =>
    obtain ⟨kvs, e, e2, r⟩ | ⟨kvs, e, e2, r⟩ := r
    · exact .inl ⟨kvs, e, e2, r.swap d l1 l2 h⟩
    · exact .inr ⟨kvs, e, e2, r.swap d l1 l2 h⟩
  | ins _ _ => exact r
theorem SimM.swap (s : SimM K F ι m H) (d : Dn u) (l1 : Lk u u1) (l2 : Lk u u2) (h : F a = some u1) : SimM K (upd F a u2) ι m (upd H a u2) where
  sub := fun b o q => by
    by_cases hb : b = a
    · subst hb; rw [upd_same] at q ⊢; exact q
    · rw [upd_ne hb] at q ⊢; exact s.sub b o q
  len := s.len
  nd := s.nd
  cell := fun n b c e1 e2 => by
    obtain ⟨h1, o, h2, r⟩ := s.cell n b c e1 e2
    have hb : b ≠ a := fun z => by subst z; rw [h] at h1; cases h1
    exact ⟨by rw [upd_ne hb]; exact h1, o, by rw [upd_ne hb]; exact h2, r.swap d l1 l2 h⟩
theorem Sim.swap (s : Sim K F ι en m σ H) (d : Dn u) (l1 : Lk u u1) (l2 : Lk u u2) (h : F a = some u1) : Sim K (upd F a u2) ι en m σ (upd H a u2) :=
  ⟨s.mem.swap d l1 l2 h, s.len, fun i x e => let ⟨v, e1, r⟩ := s.loc i x e; ⟨v, e1, r.swap d l1 l2 h⟩⟩
/-- from the lock back -/
theorem Ext.unlock {o : Obj} (d : Dn u) (h : F a = some u) (hH : H a = some u) (ha : a ∉ ι) (x : Ext (upd F a (.frz o u)) ι (upd H a (.frz o u)) F' ι' H') : F' a = some (.frz o u) ∧ H' a = some (.frz o u) ∧ Ext F ι H (upd F' a u) ι' (upd H' a u) := by
  have f1 : F' a = some (.frz o u) := x.f _ _ upd_same
  have h1 : H' a = some (.frz o u) := x.k _ _ ha upd_same
  refine ⟨f1, h1, fun b w q => ?_, fun b q => ?_, ?_, fun b w hb q => ?_, fun b q => ?_⟩
  · by_cases hb : b = a
    · subst hb; rw [upd_same]; rw [h] at q; exact q
    · rw [upd_ne hb]; exact x.f _ _ (by rw [upd_ne hb]; exact q)
  · by_cases hb : b = a
    · subst hb; exact .inl (by rw [h]; exact fun z => nomatch z)
    · rw [upd_ne hb] at q
      rcases x.n b q with z | z
      · exact .inl (by rw [upd_ne hb] at z; exact z)
      · exact .inr (by rw [upd_ne hb] at z; exact z)
  · obtain ⟨new, e, hn⟩ := x.i
    refine ⟨new, e, fun b hb => ?_⟩
    have := hn b hb
    by_cases hb : b = a
    · subst hb; rw [upd_same] at this; cases this
    · rw [upd_ne hb] at this; exact this
  · by_cases hb : b = a
    · subst hb; rw [upd_same]; rw [hH] at q; exact q
    · rw [upd_ne hb]; exact x.k _ _ (by assumption) (by rw [upd_ne hb]; exact q)
  · by_cases hb : b = a
    · subst hb; rw [upd_same] at q; cases q
    · rw [upd_ne hb] at q
      have := x.t b q
      rw [upd_ne hb] at this
      exact this
end
end Cs
namespace Cs
open PySem L2 PySem.Spec
section
variable {X : Cx} {c : SC} {W : EW} {K : PySem.W.Frag} {F F1 F' : Hp} {ι ι1 ι' : List Addr} {H H1 H' : Hp} {m m1 m' : Mem} {en : Sto} {σ : L2.St} {a : Addr} {u u1 u2 : HO}
theorem kd_rep (k : Key) : Rep K F ι (kd k) (kV k) := by
  cases k with
  | inl i => exact Rep.intI
  | inr i => exact Rep.strI
theorem walk_rep {o : Obj} {kvs : List (Key × V)} (h : F a = some (.frz o (.dK kvs))) : JRep K F ι (Itk a o kvs) [] m (kvs.map fun p => kd p.1) where
  stop := fun F' ι' m' H' x s _ => ⟨s.sub _ _ (x.f _ _ h), by rw [List.length_map]; exact Nat.le_refl _⟩
  go := fun F' ι' m' H' x s _ i d hd => by
    rw [List.getElem?_map] at hd
    obtain ⟨p, h1, rfl⟩ := Option.map_eq_some_iff.mp hd
    have hi : i < kvs.length := by
      by_cases q : i < kvs.length
      · exact q
      · rw [List.getElem?_eq_none (by omega)] at h1; cases h1
    refine ⟨⟨s.sub _ _ (x.f _ _ h), hi⟩, fun y H'' hy => ?_⟩
    obtain ⟨rfl, k, v, h2, rfl⟩ := hy
    rw [h1] at h2
    cases h2
    exact ⟨F', Ext.refl _ _ _, s, kd_rep _⟩
variable {t : Tgt} {ft : FB} {fe : FE} {own : List Nat}
/-- the walk of a locked dict -/
theorem lc_locked {o : Obj} {kvs : List (Key × V)} {i : Nat} {Q : VK} {all : List D} {mE : Mem} (hs : ∀ i ∈ slotsT t, i ∈ own) (s : Sim K F ι en m σ H) (hv : σ[i]? = some (some (.ref a))) (h : F a = some (.frz o (.dK kvs)))
    (q : lcGo t ft fe (Cs.wipe en own) [] m (kvs.map fun p => kd p.1) m = .ok all mE) (hz : all.length ≤ sizeLine)
    (fin : ∀ A F2 ι2 H2 vs, H A = none → Ext F ι H F2 ι2 H2 → SimM K F2 ι2 mE H2 → DS K A F2 ι2 H2 all vs → Q (.ref A) H2) :
    tLc (iKeys (tVar i)) (gT K t) (T K W RB ft) (T K W (RV K) fe) own σ H Q := by
  refine ⟨_, hv, a, o, rfl, .inl ⟨kvs, s.mem.sub _ _ h, fun A hA => ?_⟩⟩
  obtain ⟨hi, hF⟩ := s.mem.notin hA
  refine lc_loop (F0 := F) (ι0 := ι) (H0 := H) (acc0 := []) (vs0 := []) hs (walk_rep h) (s.ext (Ext.grow hA) (s.mem.grow hA)) (Ext.grow hA) hA ⟨upd_same, hF, hi, Reps.nil⟩ q (by simpa using hz) fun F2 ι2 H2 vs x2 s2 g2 d2 => ?_
  exact fin A F2 ι2 H2 vs hA x2 s2 (by simpa using d2)
/-- the locked dict is empty -/
theorem lc_empty {o : Obj} {i : Nat} {Q : VK} (hv : σ[i]? = some (some (.ref a))) (h : H a = some (.frz o (.dK [])) ∨ H a = some (.frz o (.dT []))) (fin : ∀ A, H A = none → Q (.ref A) (upd H A (.lst []))) :
    tLc (iKeys (tVar i)) (gT K t) (T K W RB ft) (T K W (RV K) fe) own σ H Q := by
  refine ⟨_, hv, a, o, rfl, ?_⟩
  rcases h with h | h
  · refine .inl ⟨[], h, fun A hA => ⟨fun i μ H' => H' = upd H A (.lst []), ⟨0, rfl⟩, ?_⟩⟩
    rintro i μ H' rfl
    exact .inl ⟨⟨by rw [upd_ne (fun z => by subst z; rw [hA] at h; cases h)]; exact h, Nat.zero_le _⟩, fin A hA⟩
  · refine .inr ⟨[], h, fun A hA => ⟨fun i μ H' => H' = upd H A (.lst []), ⟨0, rfl⟩, ?_⟩⟩
    rintro i μ H' rfl
    exact .inl ⟨⟨by rw [upd_ne (fun z => by subst z; rw [hA] at h; cases h)]; exact h, Nat.zero_le _⟩, fin A hA⟩
/-- what the comprehension of a name asks: a walk, a walk under lock, a walk of what is locked already -/
def tLcV (wi : TI) (i : Nat) (g : TG) (tt : TT) (te : TE) (own : List Nat) : TE := fun σ H Q => tLc wi g tt te own σ H Q ∨ tLc (iKeys (tVar i)) g tt te own σ H Q ∨ tLockE (tLc (iKeys (tVar i)) g tt te own) σ H Q
theorem lcV_ok {i : Nat} {Q : VK} (hs : ∀ i ∈ slotsT t, i ∈ own) (h : T K W (RN K) (fLc own t (iVar i) ft fe) σ H Q) : tLcV (T K W (RI K) (tagM (iVal (fVar i)))) i (gT K t) (T K W RB ft) (T K W (RV K) fe) own σ H Q := by
  obtain ⟨F, ι, m, en, s, o⟩ := h
  by_cases hd : ∃ ks ws, en[i]? = some (some (.dct ks ws))
  case neg =>
    refine .inl (lc_ok hs ⟨F, ι, m, en, s, ?_⟩)
    have e : iVar i en m = iVal (fVar i) en m := by
      unfold iVar
      split
      · exact absurd ⟨_, _, by assumption⟩ hd
      · rfl
    have : fLc own t (iVar i) ft fe en m = fLc own t (iVal (fVar i)) ft fe en m := by unfold fLc; rw [e]
    rw [← this]
    exact o
  obtain ⟨ks, ws, he⟩ := hd
  obtain ⟨v, hv, r⟩ := s.loc i _ he
  simp only [fLc, iVar, he] at o
  cases hk : ks.all flatK with
  | false => simp only [hk, Bool.false_eq_true, if_false, bnd] at o; exact False.elim o
  | true =>
  simp only [hk, if_true, bnd] at o
  cases q : lcGo t ft fe (Cs.wipe en own) [] m ks m with
  | exc _ _ => simp only [q] at o; exact False.elim o
  | bad => simp only [q] at o; exact False.elim o
  | ok all mE =>
    simp only [q] at o
    by_cases hz : all.length ≤ sizeLine
    case neg => rw [if_neg hz] at o; exact False.elim o
    rw [if_pos hz] at o
    simp only [Rep] at r
    -- the empty one
    have emp : ∀ u : HO, (u = .dK [] ∨ u = .dT []) → ks = [] → ∀ p, v = .ref p → F p = some u → tLockE (tLc (iKeys (tVar i)) (gT K t) (T K W RB ft) (T K W (RV K) fe) own) σ H Q := by
      rintro u hu rfl p rfl hF
      have q : Res.ok ([] : List D) m = .ok all mE := q
      cases q
      have hH := s.mem.sub _ _ hF
      refine ⟨p, u, hH, by rcases hu with rfl | rfl <;> exact True.intro, fun od => lc_empty (a := p) (o := od) hv (by rcases hu with rfl | rfl <;> simp [upd_same]) fun A hA => ?_⟩
      have hAp : A ≠ p := fun z => by subst z; rw [upd_same] at hA; cases hA
      have hA' : H A = none := by rw [upd_ne hAp] at hA; exact hA
      refine ⟨by rw [upd_ne hAp.symm, upd_same], ?_⟩
      have e : upd (upd (upd H p (.frz od u)) A (.lst [])) p u = upd H A (.lst []) := by
        funext b
        by_cases z : b = p
        · subst z; rw [upd_same, upd_ne hAp.symm]; exact hH.symm
        · rw [upd_ne z]
          by_cases z2 : b = A
          · subst z2; rw [upd_same, upd_same]
          · rw [upd_ne z2, upd_ne z2, upd_ne z]
      rw [e]
      obtain ⟨hi, hFA⟩ := s.mem.notin hA'
      exact o.of (Ext.grow hA') (s.mem.grow hA') ⟨A, [], rfl, hA', hFA, hi, upd_same, Reps.nil⟩
    obtain ⟨p, rfl, ⟨kvs, hF, rfl, rs⟩ | ⟨kvs, hF, rfl, rs⟩⟩ := r
    · cases kvs with
      | nil =>
        rcases hF with hF | ⟨h1, _⟩
        · exact .inr (.inr (emp _ (.inl rfl) rfl p rfl hF))
        · exact absurd rfl h1
      | cons kv kvs =>
        rcases hF with hF | ⟨_, _, od, hF⟩
        · refine .inr (.inr ⟨p, _, s.mem.sub _ _ hF, True.intro, fun od => ?_⟩)
          have dn : Dn (.dK (kv :: kvs)) := .inl ⟨_, _, rfl⟩
          have hi : p ∉ ι := fun z => by
            obtain ⟨n, hn⟩ := List.getElem?_of_mem z
            have hl : n < m.length := by
              have := s.mem.len
              have : n < ι.length := by
                by_cases q : n < ι.length
                · exact q
                · rw [List.getElem?_eq_none (by omega)] at hn; cases hn
              omega
            obtain ⟨h1, _⟩ := s.mem.cell n p m[n] hn (List.getElem?_eq_getElem hl)
            rw [hF] at h1; cases h1
          have sl := s.swap dn (.inl rfl) (.inr ⟨od, rfl⟩) hF
          refine lc_locked (a := p) (o := od) hs sl hv upd_same q hz fun A F2 ι2 H2 vs hA x2 s2 d2 => ?_
          obtain ⟨f1, h1, x3⟩ := x2.unlock dn hF (s.mem.sub _ _ hF) hi
          refine ⟨h1, ?_⟩
          have hAp : A ≠ p := fun z => by subst z; rw [upd_same] at hA; cases hA
          have hA' : H A = none := by rw [upd_ne hAp] at hA; exact hA
          exact o.of x3 (s2.swap dn (.inr ⟨od, rfl⟩) (.inl rfl) f1) ⟨A, vs, rfl, hA', by rw [upd_ne hAp]; exact d2.f, d2.i, by rw [upd_ne hAp]; exact d2.h, d2.r.swap dn (.inr ⟨od, rfl⟩) (.inl rfl) f1⟩
        · refine .inr (.inl (lc_locked (a := p) (o := od) hs s hv hF q hz fun A F2 ι2 H2 vs hA x2 s2 d2 => ?_))
          exact o.of x2 s2 ⟨A, vs, rfl, hA, d2.f, d2.i, d2.h, d2.r⟩
    · cases kvs with
      | nil =>
        rcases hF with hF | ⟨_, h1, _⟩
        · exact .inr (.inr (emp _ (.inr rfl) rfl p rfl hF))
        · exact absurd rfl h1
      | cons kv kvs =>
        simp [kdT, flatK] at hk
end
section
variable {X : Cx} {c : SC} {W : EW}
theorem PE.or {e : Expr} {t t' : TE} (h : PE X e t) (h' : PE X e t') : PE X e (fun σ H Q => t σ H Q ∨ t' σ H Q) := ⟨fun pins s σ H Q I q => q.elim (h.run pins s σ H Q I) (h'.run pins s σ H Q I)⟩
theorem PS.or {st : Stmt} {t t' : TS} (h : PS X st t) (h' : PS X st t') : PS X st (fun D σ H => t D σ H ∨ t' D σ H) := ⟨fun pins s σ H D I q => q.elim (h.run pins s σ H D I) (h'.run pins s σ H D I)⟩
variable {elt tg : Expr} {ifs : List Expr} {scope : Scope} {own : List (Str × Nat)} {t : Tgt} {ft : FB} {fe : FE} {n i : Nat} {x : Str} {p pos : Pos}
theorem d_lcV (C : Ctx X c W) (hx : c.slot x = some i) (ok : blkC X.N X.env.scope scope own = true) (hs : ∀ i ∈ slotsT t, i ∈ own.map (·.2)) (ht : tgtX (inner c scope) n tg = some t) (hi : PI X tg (.Name x p) (TJ X W (iVal (fVar i))))
    (hif : ∀ (s : Shared) (H : Hp) (C : Addr) (cl : List (Str × Addr)) (fp : List Addr), PTs (X.blk s H scope (compEnvC scope cl C X.env) fp) ifs (T X.K W RB ft)) (he : ∀ (s : Shared) (H : Hp) (C : Addr) (cl : List (Str × Addr)) (fp : List Addr), PE (X.blk s H scope (compEnvC scope cl C X.env) fp) elt (T X.K W (RV X.K) fe)) :
    PE X (.ListComp elt [⟨tg, .Name x p, ifs, 0⟩] scope pos) (TN X W (fLc (own.map (·.2)) t (iVar i) ft fe)) ∧ SetOk X (.ListComp elt [⟨tg, .Name x p, ifs, 0⟩] scope pos) (TN X W (fLc (own.map (·.2)) t (iVar i) ft fe)) := by
  obtain ⟨v1, v2, v3⟩ := C.slot hx
  have hf : ∀ v, foldedSetIterable (.Name x p) X.env v = pure v := fun v => rfl
  have hg : ∀ (s : Shared) (H : Hp) (Cc : Addr) (cl : List (Str × Addr)) (fp : List Addr), PG (X.blk s H scope (compEnvC scope cl Cc X.env) fp) tg (gT X.K t) := fun s H Cc cl fp => d_tgt (W := W) (C.blk s H scope Cc cl fp) n tg t ht
  have hk : PI X tg (.Name x p) (iKeys (tVar i)) := pi_keys (pe_var v1 v2 (okN_debug v3) (okN_dict v3))
  have p1 := pe_lc C.calm C.nd hi (blkOk_by ok) hg hif he hf (pos := pos)
  have p2 := pe_lc C.calm C.nd hk (blkOk_by ok) hg hif he hf (pos := pos)
  have main : PE X (.ListComp elt [⟨tg, .Name x p, ifs, 0⟩] scope pos) (TN X W (fLc (own.map (·.2)) t (iVar i) ft fe)) := PE.weak (PE.or p1 (PE.or p2 (pe_lock p2))) fun σ H Q h => lcV_ok hs h
  refine ⟨main, fun i' x' p' pos' h1 h2 h3 => set_by (fun h => ps_set C.nd h1 h2 main h h3) fun hl h => ?_⟩
  have q1 := ps_setLc C.calm C.nd h1 hl h hi (blkOk_by ok) hg hif he hf
  have q2 := ps_setLc C.calm C.nd h1 hl h hk (blkOk_by ok) hg hif he hf
  refine PS.weak (PS.or q1 (PS.or q2 (ps_lock q2))) fun D σ H h => ?_
  rcases lcV_ok hs h with h | h | ⟨d, u, h1, h2, h⟩
  · exact .inl h
  · exact .inr (.inl h)
  · exact .inr (.inr ⟨d, u, h1, h2, fun od => h od⟩)
end
end Cs

/-! The interpreter keeps its word. -/
namespace Cs
open PySem L2 PySem.Spec
/-- the defs that may be called keep what the interpreter says of them -/
def Calls (X : Cx) (c : SC) : Prop := ∀ x, c.fn x = true → CallOk X c.xc (c.hot x) (c.call x) x
/-- an expression's rules -/
structure EOk (X : Cx) (W : EW) (f : Expr → FE) (e : Expr) : Prop where
  pe : PE X e (TV X W (f e))
  pn : fresh e = true → PE X e (TN X W (f e))
  st : SetOk X e (TV X W (f e))
  sn : fresh e = true → SetOk X e (TN X W (f e))
  pt : ∀ a ops bs pos, e = .Compare a ops bs pos → PT X e (TBl X W (fTr (f e)))
def SndE (r : Ev) : Prop := ∀ X c W, Ctx X c W → Calls X c → ∀ e, EOk X W (r.e c) e
def SndS (r : Ev) : Prop := ∀ X c W, Ctx X c W → Calls X c → ∀ l, PSs X l (TQ X W (r.s c l))
section
variable {X : Cx} {c : SC} {W : EW} {a b e tg : Expr} {fa fb f : FE} {pos : Pos} {r : Ev}
theorem SetOk.bad {t : TE} (h : ∀ σ H Q, t σ H Q → False) : SetOk X e t := fun _ _ _ _ _ _ _ => ⟨fun _ _ _ _ _ _ q => (h _ _ _ q).elim⟩
theorem bad_no {K : PySem.W.Frag} {R : AR D V} {σ : L2.St} {H : Hp} {Q : VK} (h : T K W R fBad σ H Q) : False := by
  obtain ⟨_, _, _, _, _, o⟩ := h
  exact o
theorem SetOk.frz (h : SetOk X e (TN X W f)) : SetOk X e (TV X W f) := h.weak fun σ H Q q => Cs.frz q
/-- an expression whose answer is nothing new -/
theorem EOk.one {g : Expr → FE} (C : Ctx X c W) (hn : noComp e = true) (hf : fresh e = false) (hc : ∀ a ops bs pos, e ≠ .Compare a ops bs pos) (h : PE X e (TV X W (g e))) : EOk X W g e :=
  ⟨h, fun z => (by rw [hf] at z; cases z), SetOk.of C hn h, fun z => (by rw [hf] at z; cases z), fun a ops bs pos z => absurd z (hc a ops bs pos)⟩
/-- an expression whose answer may be new -/
theorem EOk.new {g : Expr → FE} (C : Ctx X c W) (hn : noComp e = true) (hc : ∀ a ops bs pos, e ≠ .Compare a ops bs pos) (h : PE X e (TN X W (g e))) : EOk X W g e :=
  ⟨PE.frz h, fun _ => h, SetOk.of C hn (PE.frz h), fun _ => SetOk.of C hn h, fun a ops bs pos z => absurd z (hc a ops bs pos)⟩
theorem EOk.bad {g : Expr → FE} (hg : g e = fBad) : EOk X W g e := by
  refine ⟨?_, fun _ => ?_, ?_, fun _ => ?_, fun _ _ _ _ _ => ?_⟩
  · rw [hg]; exact d_bad
  · rw [hg]; exact d_badN
  · rw [hg]; exact SetOk.bad fun _ _ _ h => bad_no h
  · rw [hg]; exact SetOk.bad fun _ _ _ h => bad_no h
  · rw [hg]; exact ⟨fun _ _ _ _ _ _ ⟨_, _, _, _, _, o⟩ => False.elim o⟩
theorem Calls.blk (K : Calls X c) (s : Shared) (H : Hp) (scope : Scope) (cenv : PySem.Env) (fp : List Addr) : Calls (X.blk s H scope cenv fp) (inner c scope) := fun x h => by
  obtain ⟨k, f, fd, ps, n, FN, hr, hm, hk, hb, hn, hx⟩ := (K x h).ok
  have e : (inner c scope).call x = if c.hot x then fun _ _ => .bad else c.call x := rfl
  cases hh : c.hot x with
  | false =>
    rw [hh] at e
    have e : (inner c scope).call x = c.call x := e
    exact ⟨k, f, fd, ps, n, by rw [e]; exact FN, hr, hm, hk, hb, by rw [e]; exact hn, fun _ => by rw [e]; exact hx hh⟩
  | true =>
    rw [hh] at e
    have e : (inner c scope).call x = fun _ _ => .bad := e
    exact ⟨k, f, fd, ps, n, by rw [e]; exact FN.imp fun vs H Q E ⟨_, _, _, _, _, _, _, o⟩ => False.elim o, hr, hm, hk, hb, fun ds m z => absurd (by rw [e]) z, fun _ ds m y m' z => by rw [e] at z; cases z⟩
theorem tst_of (S : SndE r) (C : Ctx X c W) (K : Calls X c) (n : Nat) (e : Expr) : PT X e (TBl X W (tstX (r.e c) n e)) := (tst_ok (r.e c) (fun e => (S X c W C K e).pe) (fun a ops bs pos => (S X c W C K _).pt a ops bs pos rfl) n e).1
theorem it_of (S : SndE r) (C : Ctx X c W) (K : Calls X c) (tg e : Expr) : PI X tg e (TJ X W (iterX c (r.e c) tg e)) := by
  have hp := fun e => (S X c W C K e).pe
  have bad : ∀ {e}, PI X tg e (TJ X W fun _ _ => .bad) := fun {e} => ⟨fun _ _ _ _ _ _ ⟨_, _, _, _, _, o⟩ => False.elim o⟩
  unfold iterX
  split
  · rename_i x p args pos
    split
    · rename_i h
      simp only [Bool.and_eq_true] at h
      split
      · split
        · exact d_rng1 C h.2 h.1.1 h.1.2 (by assumption) (hp _)
        · exact bad
      · split
        · exact d_rng2 C h.2 h.1.1 h.1.2 (by assumption) (hp _) (hp _)
        · exact bad
      · exact bad
    · split
      · rename_i h
        simp only [Bool.and_eq_true] at h
        split
        · split
          · exact d_zip C h.2 h.1.1 h.1.2 (by assumption) (hp _) (hp _)
          · exact bad
        · exact bad
      · split
        · rename_i h
          simp only [Bool.and_eq_true] at h
          split
          · split
            · exact d_enum C h.2 h.1.1 h.1.2 (by assumption) (hp _)
            · exact bad
          · exact bad
        · exact d_val (hp _)
  · split
    · exact d_val (hp _)
    · exact bad
theorem slots_ok {own : List Nat} {is : List Nat} (h : is.all (fun i => own.contains i) = true) : ∀ i ∈ is, i ∈ own := fun i hi => by
  have := List.all_eq_true.mp h i hi
  simpa using this
theorem lc_of (S : SndE r) (C : Ctx X c W) (K : Calls X c) (elt : Expr) (gs : List Comprehension) (scope : Scope) (pos : Pos) {g : Expr → FE} (hgv : g (.ListComp elt gs scope pos) = lcX c r.e elt gs scope) : EOk X W g (.ListComp elt gs scope pos) := by
  have bad : lcX c r.e elt gs scope = fBad → EOk X W g (.ListComp elt gs scope pos) := fun h => EOk.bad (hgv.trans h)
  have fin : ∀ {f : FE}, lcX c r.e elt gs scope = f → PE X (.ListComp elt gs scope pos) (TN X W f) ∧ SetOk X (.ListComp elt gs scope pos) (TN X W f) → EOk X W g (.ListComp elt gs scope pos) := fun {f} e h => by
    have e := hgv.trans e
    refine ⟨?_, fun _ => ?_, ?_, fun _ => ?_, fun _ _ _ _ z => (by cases z)⟩
    · rw [e]; exact PE.frz h.1
    · rw [e]; exact h.1
    · rw [e]; exact h.2.frz
    · rw [e]; exact h.2
  have pe : ∀ (e : Expr) (s : Shared) (H : Hp) (Cc : Addr) (cl : List (Str × Addr)) (fp : List Addr), PE (X.blk s H scope (compEnvC scope cl Cc X.env) fp) e (T X.K W (RV X.K) (r.e (inner c scope) e)) :=
    fun e s H Cc cl fp => (S _ _ W (C.blk s H scope Cc cl fp) (K.blk s H scope _ fp) e).pe
  have pt : ∀ (ifs : List Expr) (s : Shared) (H : Hp) (Cc : Addr) (cl : List (Str × Addr)) (fp : List Addr), PTs (X.blk s H scope (compEnvC scope cl Cc X.env) fp) ifs (T X.K W RB (ifsX (tstX (r.e (inner c scope)) tstN) ifs)) :=
    fun ifs s H Cc cl fp => d_ifs (X := X.blk s H scope (compEnvC scope cl Cc X.env) fp) _ (fun e => tst_of S (C.blk s H scope Cc cl fp) (K.blk s H scope _ fp) tstN e) ifs
  have hN : X.N = c.N := C.N
  have hsc : X.env.scope = c.sc := C.sc
  match gs with
  | [⟨tg, it, ifs, k⟩] =>
    by_cases hk0 : k = 0
    case neg => exact bad (by simp only [lcX, hk0, if_false])
    subst hk0
    cases ht : tgtX (inner c scope) 16 tg with
    | none => exact bad (by simp only [lcX, if_true, lc1X, ht])
    | some t =>
      cases hk : (noSet it && blkC c.N c.sc scope (ownX c.N scope) && (slotsT t).all fun i => ((ownX c.N scope).map (·.2)).contains i) with
      | false => exact bad (by simp only [lcX, if_true, lc1X, ht, hk, Bool.false_eq_true, if_false])
      | true =>
        refine fin (f := fLc ((ownX c.N scope).map (·.2)) t (iterV c (r.e c) tg it) (ifsX (tstX (r.e (inner c scope)) tstN) ifs) (r.e (inner c scope) elt)) (by simp only [lcX, if_true, lc1X, ht, hk]) ?_
        simp only [Bool.and_eq_true] at hk
        have old := d_lc (W := W) (pos := pos) C hk.1.1 (by rw [hN, hsc]; exact hk.1.2) (slots_ok hk.2) ht (it_of S C K tg it) (pt ifs) (pe elt)
        unfold iterV
        split
        · rename_i x p
          split
          · rename_i i hx
            exact d_lcV C hx (by rw [hN, hsc]; exact hk.1.2) (slots_ok hk.2) ht (d_val (d_var C hx)) (pt ifs) (pe elt)
          · exact old
        · exact old
  | [⟨tg, it, ifs, k⟩, ⟨tg1, it1, ifs1, k1⟩] =>
    by_cases hk0 : k = 0
    case neg => exact bad (by simp only [lcX, hk0, if_false])
    by_cases hk1 : k1 = 0
    case neg => exact bad (by simp only [lcX, hk1, if_false, ite_self])
    subst hk0
    subst hk1
    cases ht : tgtX (inner c scope) 16 tg with
    | none => exact bad (by simp only [lcX, if_true, lc2X, ht])
    | some t =>
      cases ht1 : tgtX (inner c scope) 16 tg1 with
      | none => exact bad (by simp only [lcX, if_true, lc2X, ht, ht1])
      | some t1 =>
        cases hk : (noSet it && noSet it1 && blkC c.N c.sc scope (ownX c.N scope) && ((slotsT t).all fun i => ((ownX c.N scope).map (·.2)).contains i) && (slotsT t1).all fun i => ((ownX c.N scope).map (·.2)).contains i) with
        | false => exact bad (by simp only [lcX, if_true, lc2X, ht, ht1, hk, Bool.false_eq_true, if_false])
        | true =>
          refine fin (f := fLc2 ((ownX c.N scope).map (·.2)) t (iterX c (r.e c) tg it) (ifsX (tstX (r.e (inner c scope)) tstN) ifs) (slotsT t1) t1 (iterX (inner c scope) (r.e (inner c scope)) tg1 it1) (ifsX (tstX (r.e (inner c scope)) tstN) ifs1) (r.e (inner c scope) elt)) (by simp only [lcX, if_true, lc2X, ht, ht1, hk]) ?_
          simp only [Bool.and_eq_true] at hk
          exact d_lc2 C hk.1.1.1.1 hk.1.1.1.2 (by rw [hN, hsc]; exact hk.1.1.2) (slots_ok hk.1.2) (slots_ok hk.2) ht ht1 (it_of S C K tg it) (pt ifs) (pe elt)
            (fun s H Cc cl fp => it_of S (C.blk s H scope Cc cl fp) (K.blk s H scope _ fp) tg1 it1) (pt ifs1)
  | [] => exact bad rfl
  | ⟨_, _, _, _⟩ :: ⟨_, _, _, _⟩ :: _ :: _ => exact bad rfl
theorem decide_lt20 {n : Nat} (h : decide (n < 20) = true) : n < 20 := of_decide_eq_true h
theorem call_of (S : SndE r) (C : Ctx X c W) (K : Calls X c) (x : Str) (p : Pos) (args : List Expr) (pos : Pos) {g : Expr → FE} (hgv : g (.Call (.Name x p) args [] pos) = callX c (r.e c) x args) : EOk X W g (.Call (.Name x p) args [] pos) := by
  have hp := fun e => (S X c W C K e).pe
  have bad : callX c (r.e c) x args = fBad → EOk X W g (.Call (.Name x p) args [] pos) := fun h => EOk.bad (hgv.trans h)
  have new : ∀ {f : FE}, callX c (r.e c) x args = f → PE X (.Call (.Name x p) args [] pos) (TN X W f) → EOk X W g (.Call (.Name x p) args [] pos) := fun {f} e h => EOk.new C rfl (fun _ _ _ _ z => by cases z) (by rw [hgv, e]; exact h)
  cases h0 : c.gl x && noStar args with
  | false => exact bad (by simp only [callX, h0, Bool.false_eq_true, if_false])
  | true =>
    have h0' := h0
    rw [Bool.and_eq_true] at h0'
    obtain ⟨hg, hs⟩ := h0'
    cases h1 : c.fn x && !mkName x with
    | true =>
      have e : callX c (r.e c) x args = fCall c.call x (listF (r.e c) args) := by simp only [callX, h0, h1, if_true]
      rw [Bool.and_eq_true] at h1
      have hf : fresh (.Call (.Name x p) args [] pos) = false := by
        show mkName x = false
        simpa using h1.2
      refine EOk.one C rfl hf (fun _ _ _ _ z => by cases z) ?_
      rw [hgv, e]
      cases args with
      | nil => exact d_call0 C (K x h1.1) hg
      | cons a es => exact d_call C (K x h1.1) hg hs (a_list (r.e c) hp _ hs)
    | false =>
      cases h2 : c.bl x with
      | false => exact bad (by simp only [callX, h0, h1, h2, Bool.false_eq_true, if_false, if_true])
      | true =>
        cases args with
        | nil => exact bad (by simp only [callX, h0, h1, h2, Bool.false_eq_true, if_false, if_true])
        | cons a es =>
          cases h3 : strEq x "isinstance" with
          | true =>
            match es with
            | [] => exact bad (by simp only [callX, h0, h1, h2, h3, Bool.false_eq_true, if_false, if_true])
            | b :: b2 :: es => exact bad (by
                cases b <;> simp only [callX, h0, h1, h2, h3, Bool.false_eq_true, if_false, if_true])
            | [b] =>
              cases b with
              | Name t p2 =>
                cases h4 : c.gl t && c.bl t with
                | false => exact bad (by simp only [callX, h0, h1, h2, h3, h4, Bool.false_eq_true, if_false, if_true])
                | true =>
                  cases h5 : lkp t tyTab with
                  | none => exact bad (by simp only [callX, h0, h1, h2, h3, h4, h5, Bool.false_eq_true, if_false, if_true])
                  | some ty =>
                    have e : callX c (r.e c) x [a, .Name t p2] = fIsi ty (r.e c a) := by simp only [callX, h0, h1, h2, h3, h4, h5, Bool.false_eq_true, if_false, if_true]
                    rw [Bool.and_eq_true] at h4
                    have hf : fresh (.Call (.Name x p) [a, .Name t p2] [] pos) = false := by
                      show mkName x = false
                      rw [strEq_eq h3]
                      decide +kernel
                    refine EOk.one C rfl hf (fun _ _ _ _ z => by cases z) ?_
                    rw [hgv, e]
                    exact d_isi C h3 h5 hg h2 h4.1 h4.2 (noStar_hd hs) (hp a)
              | _ => exact bad (by simp only [callX, h0, h1, h2, h3, Bool.false_eq_true, if_false, if_true])
          | false =>
            cases h4 : lkp x bltTab with
            | none => exact bad (by simp only [callX, h0, h1, h2, h3, h4, Bool.false_eq_true, if_false, if_true])
            | some b =>
              exact new (f := fBlt b (listF (r.e c) (a :: es))) (by simp only [callX, h0, h1, h2, h3, h4, Bool.false_eq_true, if_false, if_true]) (d_blt C h4 hg h2 hs (a_list (r.e c) hp _ hs))
theorem mth_of (S : SndE r) (C : Ctx X c W) (K : Calls X c) (o : Expr) (name : Str) (apos pos : Pos) (args : List Expr) {g : Expr → FE} (hgv : g (.Call (.Attribute o name apos) args [] pos) = mthX (r.e c) o name apos pos args) : EOk X W g (.Call (.Attribute o name apos) args [] pos) := by
  have hp := fun e => (S X c W C K e).pe
  have bad : mthX (r.e c) o name apos pos args = fBad → EOk X W g (.Call (.Attribute o name apos) args [] pos) := fun h => EOk.bad (hgv.trans h)
  cases h : noStar args && attrOk o && (apos.endLine == pos.line) && decide (args.length < 20) with
  | false => exact bad (by simp only [mthX, h, Bool.false_eq_true, if_false])
  | true =>
    cases h1 : lkp name mthTab with
    | none => exact bad (by simp only [mthX, h, h1, if_true])
    | some b =>
      have e : mthX (r.e c) o name apos pos args = fMth b (r.e c o) (listF (r.e c) args) := by simp only [mthX, h, h1, if_true]
      simp only [Bool.and_eq_true, decide_eq_true_eq] at h
      refine EOk.one C rfl rfl (fun _ _ _ _ z => by cases z) ?_
      rw [hgv, e]
      exact d_mth C h1 h.1.1.1 h.1.1.2 h.1.2 h.2 (hp o) (a_list (r.e c) hp _ h.1.1.1)
theorem cmp_zip {ops : List CmpOp} {bs : List Expr} (h : ops.length = bs.length) (f : Expr → FE) : ∃ l : List (CmpOp × Expr × FE), ops = l.map (·.1) ∧ bs = l.map (·.2.1) ∧ (∀ p ∈ l, p.2.2 = f p.2.1) ∧ ops.zip (bs.map f) = l.map fun p => (p.1, p.2.2) := by
  refine ⟨(ops.zip bs).map fun p => (p.1, p.2, f p.2), ?_, ?_, ?_, ?_⟩
  · rw [List.map_map]
    exact (List.map_fst_zip (Nat.le_of_eq h)).symm
  · rw [List.map_map]
    exact (List.map_snd_zip (Nat.le_of_eq h.symm)).symm
  · intro p hp
    obtain ⟨q, _, rfl⟩ := List.mem_map.mp hp
    rfl
  · rw [List.map_map, List.zip_map_right]
    rfl
theorem stE_ok (S : SndE r) (C : Ctx X c W) (K : Calls X c) : ∀ e, EOk X W (stE r.e c) e := by
  have hp := fun e => (S X c W C K e).pe
  intro e
  cases e with
  | Name x p =>
    refine EOk.one C rfl rfl (fun _ _ _ _ z => by cases z) ?_
    show PE X _ (TV X W (match c.slot x with
      | some i => fVar i
      | none => if c.gl x then (match c.G x with | some d => fCon d | none => fBad) else fBad))
    cases h : c.slot x with
    | some i => exact d_var C h
    | none =>
      simp only
      split
      · rename_i hg
        cases h2 : c.G x with
        | some d => exact d_glob C hg h2
        | none => exact d_bad
      · exact d_bad
  | Constant k n p =>
    refine EOk.one C rfl rfl (fun _ _ _ _ z => by cases z) ?_
    cases k with
    | none => exact d_non
    | bool b => exact d_bl
    | int i => exact d_int
    | str s => exact d_str
    | _ => exact d_bad
  | BinOp a op b p => exact EOk.new C rfl (fun _ _ _ _ z => by cases z) (d_bin (hp a) (hp b))
  | UnaryOp op a p =>
    refine EOk.one C rfl rfl (fun _ _ _ _ z => by cases z) ?_
    cases op with
    | USub => exact d_neg (hp a)
    | Not => exact d_notV (hp a)
    | _ => exact d_bad
  | BoolOp op vs p =>
    refine EOk.one C rfl rfl (fun _ _ _ _ z => by cases z) ?_
    cases op with
    | And => exact d_boolA (r.e c) vs fun v _ => hp v
    | Or => exact d_boolO (r.e c) vs fun v _ => hp v
  | Compare a ops bs p =>
    have bad : stE r.e c (.Compare a ops bs p) = fBad → EOk X W (stE r.e c) (.Compare a ops bs p) := EOk.bad
    have fin : ∀ {f : FE}, stE r.e c (.Compare a ops bs p) = f → PE X (.Compare a ops bs p) (TV X W f) → PT X (.Compare a ops bs p) (TBl X W (fTr f)) → EOk X W (stE r.e c) (.Compare a ops bs p) := fun {f} e h1 h2 =>
      ⟨by rw [e]; exact h1, fun z => (by cases z), SetOk.of C rfl (by rw [e]; exact h1), fun z => (by cases z), fun _ _ _ _ _ => (by rw [e]; exact h2)⟩
    match ops, bs with
    | [op], [b] =>
      cases h : noSet b with
      | false => exact bad (by simp only [stE, h, Bool.false_eq_true, if_false])
      | true => exact fin (f := fCmp op (r.e c a) (r.e c b)) (by simp only [stE, h, if_true]) (d_cmp C h (hp a) (hp b)) (tst_cmp1 C h (hp a) (hp b))
    | op :: op' :: ops, b :: d :: bs =>
      cases h : decide (ops.length = bs.length) && (b :: d :: bs).all noSet with
      | false => exact bad (by simp only [stE, h, Bool.false_eq_true, if_false])
      | true =>
        have e : stE r.e c (.Compare a (op :: op' :: ops) (b :: d :: bs) p) = fCmpN (r.e c a) ((op, r.e c b) :: (op', r.e c d) :: ops.zip (bs.map (r.e c))) := by simp only [stE, h, if_true]
        rw [Bool.and_eq_true, decide_eq_true_eq] at h
        obtain ⟨l, e1, e2, e3, e4⟩ := cmp_zip h.1 (r.e c)
        have hl : 2 ≤ ((op, b, r.e c b) :: (op', d, r.e c d) :: l).length := by simp
        have hmem : ∀ q ∈ (op, b, r.e c b) :: (op', d, r.e c d) :: l, PE X q.2.1 (TV X W q.2.2) := fun q hq => by
          rcases List.mem_cons.mp hq with z | hq
          · rw [z]; exact hp b
          · rcases List.mem_cons.mp hq with z | hq
            · rw [z]; exact hp d
            · rw [e3 q hq]; exact hp _
        have hns : (((op, b, r.e c b) :: (op', d, r.e c d) :: l).map (·.2.1)).all noSet = true := by
          rw [List.map_cons, List.map_cons, ← e2]; exact h.2
        have g1 := d_cmpN (pos := p) C hl hns (hp a) hmem
        have g2 := tst_cmpN (pos := p) C hl hns (hp a) hmem
        simp only [List.map_cons] at g1 g2
        rw [← e1, ← e2, ← e4] at g1 g2
        exact fin e g1 g2
    | [], _ => exact bad (by cases bs <;> rfl)
    | [_], [] => exact bad rfl
    | [_], _ :: _ :: _ => exact bad rfl
    | _ :: _ :: _, [] => exact bad rfl
    | _ :: _ :: _, [_] => exact bad rfl
  | IfExp t a b p => exact EOk.one C rfl rfl (fun _ _ _ _ z => by cases z) (d_ifExp (tst_of S C K tstN t) (hp a) (hp b))
  | Call fn args kws pos =>
    cases kws with
    | cons k ks => exact EOk.bad (by cases fn <;> rfl)
    | nil =>
      cases fn with
      | Name x p => exact call_of S C K x p args pos rfl
      | Attribute o name apos => exact mth_of S C K o name apos pos args rfl
      | _ => exact EOk.bad rfl
  | Subscript a i p =>
    have ix : plainIx i = true → stE r.e c (.Subscript a i p) = fIx (r.e c a) (r.e c i) → fresh (.Subscript a i p) = false → EOk X W (stE r.e c) (.Subscript a i p) := fun h e hf => EOk.one C rfl hf (fun _ _ _ _ z => by cases z) (by rw [e]; exact d_ix C h (hp a) (hp i))
    cases i with
    | Slice lo hi st p2 =>
      cases st with
      | none => exact EOk.new C rfl (fun _ _ _ _ z => by cases z) (d_sl C (r.e c) hp (hp a))
      | some _ => exact EOk.bad rfl
    | _ => exact ix rfl rfl rfl
  | Tuple es k p =>
    cases h : noStar es with
    | false => exact EOk.bad (by simp only [stE, h, Bool.false_eq_true, if_false])
    | true => exact EOk.one C rfl rfl (fun _ _ _ _ z => by cases z) (by
        have e : stE r.e c (.Tuple es k p) = fTup (listF (r.e c) es) := by simp only [stE, h, if_true]
        rw [e]; exact d_tup (a_list (r.e c) hp es h))
  | List es p =>
    cases h : noStar es with
    | false => exact EOk.bad (by simp only [stE, h, Bool.false_eq_true, if_false])
    | true => exact EOk.new C rfl (fun _ _ _ _ z => by cases z) (by
        have e : stE r.e c (.List es p) = fLst (listF (r.e c) es) := by simp only [stE, h, if_true]
        rw [e]; exact d_lst (a_list (r.e c) hp es h))
  | Dict ks vs p =>
    match ks, vs with
    | [], [] => exact EOk.new C rfl (fun _ _ _ _ z => by cases z) d_dct0
    | [], _ :: _ => exact EOk.bad rfl
    | _ :: _, [] => exact EOk.bad rfl
    | k :: ks, v :: vs =>
      cases h : decide ((k :: ks).length ≤ 15) with
      | false => exact EOk.bad (by simp only [stE, h, Bool.false_eq_true, if_false])
      | true =>
        cases h1 : dctX (r.e c) (k :: ks) (v :: vs) with
        | none => exact EOk.bad (by simp only [stE, h, h1, if_true])
        | some fs => exact EOk.new C rfl (fun _ _ _ _ z => by cases z) (by
            have e : stE r.e c (.Dict (k :: ks) (v :: vs) p) = fDct fs := by simp only [stE, h, h1, if_true]
            rw [e]; exact d_dct (r.e c) hp h1 (fun z => nomatch z) (of_decide_eq_true h))
  | ListComp elt gs scope p => exact lc_of S C K elt gs scope p rfl
  | _ => exact EOk.bad rfl
end
end Cs

/-! raise, try. -/
namespace Cs
open PySem L2 PySem.Spec
section
variable {X : Cx} {c : SC} {W : EW} {a b e tg : Expr} {fa fb f : FE} {pos : Pos} {K : PySem.W.Frag} {F F1 : Hp} {ι ι1 : List Addr} {H H1 : Hp} {m m1 : Mem} {σ : L2.St}
theorem q_bad {st : Stmt} : PS X st (TQ X W sBad) := ⟨fun _ _ _ _ _ _ ⟨_, _, _, _, _, o⟩ => False.elim o⟩
theorem AtV.of {k : XArg} {d : D} {v : V} (h : xArg k d = true) (r : Rep K F ι d v) : AtV d v := by
  unfold xArg at h
  split at h
  · rename_i z
    rw [show v = .str z from by simpa [Rep] using r]
    exact .str
  · rename_i i
    rw [show v = .int i from by simpa [Rep] using r]
    exact .int
  · cases h
theorem AtV.rep {d : D} {v : V} (h : AtV d v) : Rep K F ι d v := by
  cases h
  · exact Rep.strI
  · exact Rep.intI
theorem q_raise (C : Ctx X c W) {x fl : Str} {k : XArg} {p p2 : Pos} (hxc : c.xc x = some (fl, k)) (hh : c.hot x = true) (hg : c.gl x = true) (hu : unstar a = true) (ha : PE X a (TV X W fa)) :
    PS X (.Raise (some (.Call (.Name x p) [a] [] p2)) none pos) (TQ X W (sRaise x fl k fa)) := by
  obtain ⟨Cc, fI, fd, hm, OX, hI, hT, FN, hB, XF, hno, hex⟩ := (C.xcs x fl k hxc).ok
  have hs : starEach [a] X.env = (false, eval a X.env) :: starEach [] X.env := unstar_each hu
  have mk := pmk_oex (X := X) (x := x) (p := p) (pos := p2) (dvs := []) (ds := []) OX hI hT FN C.room hB .nil (fun _ _ _ _ _ _ _ ⟨_, _, _, _, _, _, _, _, _, _, _, _, h⟩ => False.elim h) (C.gl hg) hm (pa_cons ha pa_nil hs) (okN_debug (SC.okG hg)) hs rfl
  refine PS.weak (ps_raise C.calm (C.tk x hh) mk) fun D σ H ⟨F, ι, m, en, s, o⟩ => ?_
  show T X.K W (RV X.K) fa σ H fun v H1 => _
  refine Sbnd s o fun v F1 ι1 H1 m1 d s1 r x1 o1 => ?_
  unfold tNil
  refine ⟨by simp, fun q hq => ?_⟩
  cases hk : xArg k d with
  | false => simp only [hk, Bool.false_eq_true, if_false] at o1; exact False.elim o1
  | true =>
    simp only [hk, if_true] at o1
    have av := AtV.of hk r
    refine ⟨q, v, rfl, ⟨d, av, hk⟩, upd_same, fun dd hd hne => ⟨rfl, dd, [(fl, v)], upd_same, ?_, ?_, ?_⟩⟩
    · rw [upd_ne hne, upd_same]
    · rw [upd_ne hne] at hd
      exact hd
    · have hd' : H1 dd = none := by rw [upd_ne hne] at hd; exact hd
      have eH : upd (del (upd (upd (upd H1 q (exo q Cc none)) dd (exd dd [(fl, v)])) q (exo q Cc (some dd))) q) dd (.xd [(fl, v)]) = upd H1 dd (.xd [(fl, v)]) := by
        funext z
        by_cases h1 : z = dd
        · rw [h1, upd_same, upd_same]
        · rw [upd_ne h1, upd_ne h1]
          by_cases h2 : z = q
          · rw [h2, del_same, hq]
          · rw [del_ne h2, upd_ne h2, upd_ne h1, upd_ne h2]
      rw [eH]
      exact ⟨_, F1, ι1, m1, ⟨x, fl, k, d, v, Cc, dd, rfl, hxc, av, hm, rfl, rfl, upd_same⟩, o1 F1 ι1 σ _ (Ext.grow hd') (s1.ext (Ext.grow hd') (s1.mem.grow hd'))⟩
/-- a try's body, in its own context -/
theorem Ctx.try_ (C : Ctx X c W) (pn : List (Addr × Obj)) (xe : Value → Shared → Prop) {W' : EW} (tk : ∀ x, c.hot x = true → Takes (X.tr pn xe) (WXof c.xc X.mg W')) (ps : PassesOwn (model X.prog X.w) X.A X.env xe) : Ctx (X.tr pn xe) c W' :=
  ⟨C.N, C.nd, C.sc, C.calm, C.room, C.glob, C.bl, C.wr, ps, tk, C.xcs, C.stk⟩
theorem Calls.try_ (K : Calls X c) (pn : List (Addr × Obj)) (xe : Value → Shared → Prop) : Calls (X.tr pn xe) c := fun x h => ⟨(K x h).ok⟩
/-- a wish in the kit's words, in ours -/
def WE2 (xc : Str → Option (Str × XArg)) (mg : Str → Option Value) (W0 : WX) : EW := fun y _ _ _ σ H => ∀ cls dd, XRel xc mg H y cls dd → W0 cls dd σ H
theorem q_try (C : Ctx X c W) {x n fl : Str} {k : XArg} {i : Nat} {fb : FS} {s : Suite} {body : List Stmt} {b₀ : Stmt} {np pos' : Pos} {Cc : Addr} (hm0 : X.mg x = some (.ref Cc)) (ts : Addr → Value → Option Addr → TS)
    (hxc : c.xc x = some (fl, k)) (hh : c.hot x = true) (hg : c.gl x = true) (hl : c.isLocal n = true) (hi : ixOf n c.N = some i)
    (hb : ∀ (W' : EW) (pn : List (Addr × Obj)) (xe : Value → Shared → Prop), (∀ x, c.hot x = true → Takes (X.tr pn xe) (WXof c.xc X.mg W')) → PassesOwn (model X.prog X.w) X.A X.env xe → PSs (X.tr pn xe) body (TQ (X.tr pn xe) W' fb))
    (hsu : ∀ (a : Addr) (oe : Obj) (cls : Value) (d : Option Addr) (pn : List (Addr × Obj)), Zc cls d oe → (∃ vs, oe.data = .fields vs) → PSs (X.suite a ((a, oe) :: pn)) [b₀] (ts a cls d))
    (ht : ∀ (F : Hp) (ι : List Addr) (m : Mem) (d : D) (v : V) (a dx : Addr) (σ : L2.St) (H : Hp) (D : Ends), SimM X.K F ι m H → AtV d v → H a = none → H dx = some (.xd [(fl, v)]) → i < σ.length → (∀ v' F' H', Ext F ι H F' ι H' → SimM X.K F' ι m H' → Rep X.K F' ι (s.val d) v' → D.rt v' H') → ts a (.ref Cc) (some dx) D (σ.set i (some (.ref a))) H) :
    PS X (.Try body [.ExceptHandler (some (.Name x np)) (some n) [b₀] pos'] [] [] pos) (TQ X W (sTry x fl i s fb)) := by
  obtain ⟨Cc', fI, fd, hm, OX, hI, hT, FN, hB, XF, hno, hex⟩ := (C.xcs x fl k hxc).ok
  have e0 : Cc' = Cc := by
    have := hm.symm.trans hm0
    cases this
    rfl
  subst e0
  obtain ⟨hs1, hs2⟩ := C.stk x hh
  have hloc : X.env.kindOf n = some .local := by
    unfold SC.isLocal at hl
    show X.env.scope.names.lookup n = _
    rw [C.sc, ← lkp_lookup]
    split at hl
    · assumption
    · cases hl
  refine PS.weak (ps_try_as (c := .ref Cc') (tb := fun W0 => TQ X (WE2 c.xc X.mg W0) fb) hs1 hs2 C.nd (by rw [C.N]; exact ixOf_get hi) hloc ⟨C.gl hg, okN_debug (SC.okG hg), .inl hm⟩ (C.tk x hh) (fun W0 pn xe tkT ps => hb (WE2 c.xc X.mg W0) pn xe (fun _ _ => tkT.imp fun cls dd σ H ⟨y, F, ι, m, r, q⟩ => q cls dd r) ps)
    hsu) fun D σ H ⟨F, ι, m, en, sm, o⟩ => ?_
  refine ⟨F, ι, m, en, sm, ?_⟩
  unfold sTry at o
  cases z : fb en m with
  | bad => rw [z] at o; exact False.elim o
  | ok fl1 e1 m1 => rw [z] at o; exact o
  | exc y e1 m1 =>
    rw [z] at o
    intro F' ι' σ' H' x' s' cls dd r
    obtain ⟨x2, f2, k2, d, v, C2, dx, rfl, hx2, av, hm2, rfl, rfl, hdx⟩ := r
    obtain ⟨C3, fI3, fd3, hm3, _, _, _, _, _, _, _, hex3⟩ := (C.xcs x2 f2 k2 hx2).ok
    have e3 : C3 = C2 := by
      have := hm3.symm.trans hm2
      cases this
      rfl
    subst e3
    obtain ⟨C4, hm4, hx4⟩ := hex3 x fl k hxc
    have e4 : C4 = Cc' := by
      have := hm4.symm.trans hm
      cases this
      rfl
    subst e4
    refine ⟨strEq x2 x, hx4, fun hy q hq => ?_, fun hn => ?_⟩
    · have e5 := strEq_eq hy
      subst e5
      rw [hxc] at hx2
      cases hx2
      have e6 := hm3.symm.trans hm
      cases e6
      have e7 : strEq fl fl = true := by simp [strEq]
      cases hd : decide (i < e1.length) with
      | false => simp only [hy, e7, hd, Bool.and_false, Bool.false_eq_true, if_true, if_false] at o; exact False.elim o
      | true =>
      simp only [hy, e7, hd, Bool.and_self, if_true] at o
      have hlen : i < σ'.length := by
        rw [← s'.len]
        exact of_decide_eq_true hd
      exact ht F' ι' m1 d v q dx σ' H' _ s'.mem av hq hdx hlen fun v' F2 H2 x2 s2 r2 => o F2 ι' σ' H2 (x'.trans x2) (s'.ext x2 s2) v' r2
    · simp only [hn, Bool.false_eq_true, if_false] at o
      exact ⟨_, F', ι', m1, ⟨x2, f2, k2, d, v, C3, dx, rfl, hx2, av, hm2, rfl, rfl, hdx⟩, o F' ι' σ' H' x' s'⟩
/-- return n.f -/
theorem ts_ret {a : Addr} {oe : Obj} {cls : Value} {dd : Option Addr} {pn : List (Addr × Obj)} {Cc : Addr} {n fl : Str} {i : Nat} {p1 p2 p3 : Pos} (XF : XfC X.K Cc) (hno : PySem.W.findIn X.K (.ref Cc) fl = some none) (hz : Zc cls dd oe) (hv : ∃ vs, oe.data = .fields vs)
    (hN : X.N[i]? = some n) (hl : X.env.kindOf n = some .local) (hn : okN n = true) : PSs (X.suite a ((a, oe) :: pn)) [.Return (some (.Attribute (.Name n p1) fl p2)) p3] (fun D σ H => tXf a cls dd Cc fl (tVar i) σ H fun v H' => D.rt v H') :=
  pss_one (ps_ret (pe_xf XF hno hz hv (pe_var (X := X.suite a ((a, oe) :: pn)) hN (.inl hl) (okN_debug hn) (okN_dict hn))))
/-- return (s, n.f) -/
theorem ts_retT {a : Addr} {oe : Obj} {cls : Value} {dd : Option Addr} {pn : List (Addr × Obj)} {Cc : Addr} {n fl z : Str} {i : Nat} {j k2 : Nat} {p1 p2 p3 p4 p5 : Pos} (XF : XfC X.K Cc) (hno : PySem.W.findIn X.K (.ref Cc) fl = some none) (hz : Zc cls dd oe) (hv : ∃ vs, oe.data = .fields vs)
    (hN : X.N[i]? = some n) (hl : X.env.kindOf n = some .local) (hn : okN n = true) : PSs (X.suite a ((a, oe) :: pn)) [.Return (some (.Tuple [.Constant (.str z) j p4, .Attribute (.Name n p1) fl p2] k2 p5)) p3] (fun D σ H => tTupD (tCons (tC (.str z)) (tCons (tXf a cls dd Cc fl (tVar i)) tNil)) σ H fun v H' => D.rt v H') :=
  pss_one (ps_ret (pe_tupD (pa_cons pe_str (pa_cons (pe_xf XF hno hz hv (pe_var (X := X.suite a ((a, oe) :: pn)) hN (.inl hl) (okN_debug hn) (okN_dict hn))) pa_nil))))
theorem lookup1 {fl : Str} {v : V} : List.lookup fl [(fl, v)] = some v := by simp [List.lookup]
theorem try_of {r : Ev} (Z : SndS r) (C : Ctx X c W) (Kc : Calls X c) {body suite : List Stmt} {x n : Str} {np pos' : Pos} : PS X (.Try body [.ExceptHandler (some (.Name x np)) (some n) suite pos'] [] [] pos) (TQ X W (tryX r c body x n suite)) := by
  unfold tryX
  split
  · rename_i fl k i hxc hi
    split
    · rename_i h
      simp only [Bool.and_eq_true] at h
      obtain ⟨⟨⟨hh, hg⟩, hl⟩, hn⟩ := h
      have hN : X.N[i]? = some n := by rw [C.N]; exact ixOf_get hi
      have hloc : X.env.kindOf n = some .local := by
        unfold SC.isLocal at hl
        show X.env.scope.names.lookup n = _
        rw [C.sc, ← lkp_lookup]
        split at hl
        · assumption
        · cases hl
      have hb : ∀ (W' : EW) (pn : List (Addr × Obj)) (xe : Value → Shared → Prop), (∀ x, c.hot x = true → Takes (X.tr pn xe) (WXof c.xc X.mg W')) → PassesOwn (model X.prog X.w) X.A X.env xe → PSs (X.tr pn xe) body (TQ (X.tr pn xe) W' (r.s c body)) :=
        fun W' pn xe tk ps => Z _ c W' (C.try_ pn xe tk ps) (Kc.try_ pn xe) body
      split
      · rename_i s hs
        unfold suiteX at hs
        split at hs
        · split at hs
          · rename_i y p1 g p2 p3 hy
            cases hs
            rw [Bool.and_eq_true] at hy
            obtain ⟨hy1, hy2⟩ := hy
            rw [strEq_eq hy1, strEq_eq hy2]
            obtain ⟨Cc, fI, fd, hm, OX, hI, hT, FN, hB, XF, hno, hex⟩ := (C.xcs x fl k hxc).ok
            refine q_try C hm (fun a cls dd => fun D σ H => tXf a cls dd Cc fl (tVar i) σ H fun v H' => D.rt v H') hxc hh hg hl hi hb (fun a oe cls dd pn hz hv => ts_ret XF hno hz hv hN hloc hn) ?_
            intro F ι m d v q dx σ H D sm av hq hdx hlen o
            exact ⟨.ref q, by rw [List.getElem?_set_self hlen], rfl, rfl, dx, _, v, rfl, hdx, lookup1, o v F H (Ext.refl _ _ _) sm av.rep⟩
          · cases hs
        · split at hs
          · rename_i z j p4 y p1 g p2 k2 p5 p3 hy
            cases hs
            rw [Bool.and_eq_true] at hy
            obtain ⟨hy1, hy2⟩ := hy
            rw [strEq_eq hy1, strEq_eq hy2]
            obtain ⟨Cc, fI, fd, hm, OX, hI, hT, FN, hB, XF, hno, hex⟩ := (C.xcs x fl k hxc).ok
            refine q_try C hm (fun a cls dd => fun D σ H => tTupD (tCons (tC (.str z)) (tCons (tXf a cls dd Cc fl (tVar i)) tNil)) σ H fun v H' => D.rt v H') hxc hh hg hl hi hb (fun a oe cls dd pn hz hv => ts_retT XF hno hz hv hN hloc hn) ?_
            intro F ι m d v q dx σ H D sm av hq hdx hlen o
            exact ⟨.ref q, by rw [List.getElem?_set_self hlen], rfl, rfl, dx, _, v, rfl, hdx, lookup1, by show 2 ≤ sizeLine; rw [sizeLine_eq]; omega, sm.newT (Reps.cons Rep.strI (Reps.one av.rep)) fun v' F' H' x' s' r' => o v' F' H' x' s' r'⟩
          · cases hs
        · cases hs
      · exact q_bad
    · exact q_bad
  · exact q_bad
theorem raise_of {r : Ev} (S : SndE r) (C : Ctx X c W) {K : Calls X c} (x : Str) (a : Expr) {p p2 : Pos} : PS X (.Raise (some (.Call (.Name x p) [a] [] p2)) none pos) (TQ X W (raiseX r c x a)) := by
  unfold raiseX
  split
  · rename_i fl k hxc
    split
    · rename_i h
      simp only [Bool.and_eq_true] at h
      exact q_raise C hxc h.1.1 h.1.2 h.2 (S X c W C K a).pe
    · exact q_bad
  · exact q_bad
end
end Cs

/-! The interpreter keeps its word: statements. -/
namespace Cs
open PySem L2 PySem.Spec
section
variable {X : Cx} {c : SC} {W : EW} {a b e tg : Expr} {fa fb f : FE} {pos : Pos} {r : Ev}
theorem qs_bad {st : List Stmt} : PSs X st (TQ X W sBad) := ⟨fun _ _ _ _ _ _ ⟨_, _, _, _, _, o⟩ => False.elim o⟩
theorem al_ok (S : SndE r) (C : Ctx X c W) (K : Calls X c) (x : Str) (e : Expr) : PE X e (TV X W (alX c (r.e c) x e)) ∧ SetOk X e (TV X W (alX c (r.e c) x e)) := by
  have h := S X c W C K e
  unfold alX
  split
  · split
    · rename_i hf
      exact ⟨PE.weak (h.pn hf) fun σ H Q q => newT q, (h.sn hf).weak fun σ H Q q => newT q⟩
    · exact ⟨d_bad, SetOk.bad fun _ _ _ h => bad_no h⟩
  · exact ⟨h.pe, h.st⟩
theorem set_of (S : SndE r) (C : Ctx X c W) (K : Calls X c) (x : Str) (p pos : Pos) (e : Expr) : PS X (.Assign [.Name x p] e pos) (TQ X W (setX c (r.e c) x e)) := by
  unfold setX
  split
  · rename_i i hi
    exact q_set C hi (al_ok S C K x e).2
  · exact q_bad
theorem sole_no {t : Expr} (h : noComp e = true) (l : Nat) : swapsWithSole [t] e l X.env = pure false := sw_no h _ _
theorem sole_tup {es : List Expr} {k : Nat} {p : Pos} (l : Nat) : swapsWithSole [.Tuple es k p] e l X.env = pure false := by
  cases e <;> rfl
theorem sole_sub {o i : Expr} {p : Pos} (l : Nat) : swapsWithSole [.Subscript o i p] e l X.env = pure false := by
  cases e <;> rfl
theorem asgT_of (S : SndE r) (C : Ctx X c W) (K : Calls X c) {es : List Expr} {k : Nat} {p pos : Pos} (e : Expr) (hw : swappedStores [.Tuple es k p] e X.env = pure none) : PS X (.Assign [.Tuple es k p] e pos) (TQ X W (asgT c (r.e c) (.Tuple es k p) e)) := by
  unfold asgT
  cases h : tgtX c 16 (.Tuple es k p) with
  | none => exact q_bad
  | some t => exact q_asg C h (S X c W C K e).pe (sole_tup _) hw
theorem alL_of (S : SndE r) (C : Ctx X c W) (K : Calls X c) : ∀ (es vs : List Expr), noStar vs = true → PA X vs (TLs X W (alL c (r.e c) es vs))
  | es, [], _ => by
    cases es <;> exact a_nil
  | [], v :: vs, h => a_cons (noStar_hd h) (S X c W C K v).pe (alL_of S C K [] vs (noStar_tl h))
  | t :: es, v :: vs, h => by
    have ih := alL_of S C K es vs (noStar_tl h)
    cases t with
    | Name x p => exact a_cons (noStar_hd h) (al_ok S C K x v).1 ih
    | _ => exact a_cons (noStar_hd h) (S X c W C K v).pe ih
theorem asgP_of (S : SndE r) (C : Ctx X c W) (K : Calls X c) {es es' vs : List Expr} {k k2 : Nat} {p p2 pos : Pos} (hs : noStar vs = true) (hw : swappedStores [.Tuple es k p] (.Tuple vs k2 p2) X.env = pure none) : PS X (.Assign [.Tuple es k p] (.Tuple vs k2 p2) pos) (TQ X W (asgP c (r.e c) (.Tuple es k p) es' vs)) := by
  unfold asgP
  cases h : tgtX c 16 (.Tuple es k p) with
  | none => exact q_bad
  | some t => exact q_asg C h (d_tup (alL_of S C K es' vs hs)) (sole_tup _) hw
theorem par_of (S : SndE r) (C : Ctx X c W) (K : Calls X c) {es vs : List Expr} {k k2 : Nat} {p p2 pos : Pos} : PS X (.Assign [.Tuple es k p] (.Tuple vs k2 p2) pos) (TQ X W (parX c (r.e c) (.Tuple es k p) (.Tuple vs k2 p2) es vs)) := ps_ok fun O => by
  unfold parX
  cases hs : noStar vs with
  | false => exact q_bad
  | true =>
    cases hf : foldS vs with
    | true => exact asgP_of S C K hs (sw_fold hs hf)
    | false =>
      simp only [Bool.not_true, Bool.false_eq_true, if_false]
      split
      · rename_i x px y py a b
        cases h1 : swp2 c x y px py with
        | false => simp only [Bool.false_eq_true, if_false]; exact asgP_of S C K hs (sw_two O C hs h1)
        | true =>
          simp only [if_true]
          cases h2 : foldC [a, b] with
          | true => simp only [if_true]; exact q_bad
          | false =>
            simp only [Bool.false_eq_true, if_false]
            cases hi : c.slotW x with
            | none => exact q_bad
            | some i =>
              cases hj : c.slotW y with
              | none => exact q_bad
              | some j =>
                simp only
                cases h3 : decide (i ≠ j) && !strEq x y with
                | false => simp only [Bool.false_eq_true, if_false]; exact q_bad
                | true =>
                  simp only [if_true]
                  rw [Bool.and_eq_true, decide_eq_true_eq] at h3
                  exact q_par2 C hi hj h3.1 (str_ne h3.2) h1 hs hf h2 (al_ok S C K x a).1 (al_ok S C K y b).1
      · rename_i x px y py z pz a b d
        cases h1 : swp3 c x y z px py pz with
        | false => simp only [Bool.false_eq_true, if_false]; exact asgP_of S C K hs (sw_three O C hs h1)
        | true =>
          simp only [if_true]
          cases h2 : foldC [a, b, d] with
          | true => simp only [if_true]; exact q_bad
          | false =>
            simp only [Bool.false_eq_true, if_false]
            cases hi : c.slotW x with
            | none => exact q_bad
            | some i =>
              cases hj : c.slotW y with
              | none => exact q_bad
              | some j =>
                cases hl : c.slotW z with
                | none => exact q_bad
                | some l =>
                  simp only
                  cases h3 : decide (i ≠ j) && decide (i ≠ l) && decide (j ≠ l) && !strEq x y && !strEq x z && !strEq y z with
                  | false => simp only [Bool.false_eq_true, if_false]; exact q_bad
                  | true =>
                    simp only [if_true]
                    simp only [Bool.and_eq_true, decide_eq_true_eq] at h3
                    exact q_par3 C hi hj hl h3.1.1.1.1.1 h3.1.1.1.1.2 h3.1.1.1.2 (str_ne h3.1.1.2) (str_ne h3.1.2) (str_ne h3.2) h1 hs hf h2 (al_ok S C K x a).1 (al_ok S C K y b).1 (al_ok S C K z d).1
      · split
        · exact q_bad
        · rename_i h1
          exact asgP_of S C K hs (sw_len (by simpa using h1))
theorem stS_ok (S : SndE r) (Z : SndS r) (C : Ctx X c W) (K : Calls X c) : ∀ st, PS X st (TQ X W (stS r c st)) := by
  have hp := fun e => (S X c W C K e).pe
  have hq := Z X c W C K
  intro st
  cases st with
  | Expr e p =>
    cases e with
    | Constant k n p2 =>
      cases k with
      | str x => exact q_nx ps_doc
      | _ => exact q_bad
    | Call fn args kws p2 => exact q_drop (hp _) rfl
    | _ => exact q_bad
  | Pass p => exact q_nx ps_pass
  | Break p => exact q_bk
  | Continue p => exact q_ct
  | Return v p =>
    cases v with
    | some e => exact q_ret (hp e)
    | none => exact q_retN
  | Assign ts e p =>
    match ts with
    | [] => exact q_bad
    | t :: _ :: _ => cases t <;> exact q_bad
    | [t] =>
      cases t with
      | Name x p2 => exact set_of S C K x p2 p e
      | Tuple es k p2 =>
        cases e with
        | Tuple vs k2 p3 => exact par_of S C K
        | _ => exact asgT_of S C K _ rfl
      | Subscript o i p2 =>
        show PS X _ (TQ X W (if plainIx i then sPut (r.e c o) (r.e c i) (r.e c e) else sBad))
        split
        · rename_i h
          exact q_put C h (hp o) (hp i) (hp e) (sole_sub _) (by cases e <;> rfl)
        · exact q_bad
      | _ => exact q_bad
  | AugAssign t op e p =>
    cases t with
    | Name x p2 =>
      show PS X _ (TQ X W (match c.slotW x with
        | some i => sAug op i (r.e c e)
        | none => sBad))
      cases h : c.slotW x with
      | none => exact q_bad
      | some i => exact q_aug C h (hp e)
    | Subscript o i p2 =>
      show PS X _ (TQ X W (if plainIx i then sAugP op (r.e c o) (r.e c i) (r.e c e) else sBad))
      split
      · rename_i h
        exact q_augP C h (hp o) (hp i) (hp e)
      · exact q_bad
    | _ => exact q_bad
  | If t x y p => exact q_if (tst_of S C K tstN t) (hq x) (hq y)
  | While t x orelse p =>
    cases orelse with
    | nil => exact q_whl C (tst_of S C K tstN t) (hq x)
    | cons _ _ => exact q_bad
  | For tg it x orelse p =>
    cases orelse with
    | nil =>
      show PS X _ (TQ X W (match tgtX c 16 tg with
        | some t => if noSet it then sFor t (iterX c (r.e c) tg it) (r.s c x) else sBad
        | none => sBad))
      cases h : tgtX c 16 tg with
      | none => exact q_bad
      | some t =>
        simp only
        split
        · rename_i hno
          exact q_for C hno h (it_of S C K tg it) (hq x)
        · exact q_bad
    | cons _ _ => exact q_bad
  | Raise v fr p =>
    match v, fr with
    | some (.Call (.Name x p1) [a] [] p2), none => exact raise_of S C (K := K) x a
    | some (.Call (.Name x p1) [a] [] p2), some _ => exact q_bad
    | none, _ => exact q_bad
    | some v, fr =>
      cases v with
      | Call fn args kws p2 =>
        cases fn with
        | Name x p1 =>
          match args, kws, fr with
          | [], _, _ => exact q_bad
          | [a], [], none => exact raise_of S C (K := K) x a
          | [a], [], some _ => exact q_bad
          | [a], _ :: _, _ => exact q_bad
          | _ :: _ :: _, _, _ => exact q_bad
        | _ => exact q_bad
      | _ => exact q_bad
  | Try body hs orelse fin p =>
    cases hs with
    | nil => exact q_bad
    | cons h hs =>
      cases h with
      | ExceptHandler ty n suite p2 =>
        cases ty with
        | none => exact q_bad
        | some e =>
          cases e with
          | Name x np =>
            cases n with
            | none => exact q_bad
            | some n =>
              cases hs with
              | cons _ _ => exact q_bad
              | nil =>
                cases orelse with
                | cons _ _ => exact q_bad
                | nil =>
                  cases fin with
                  | cons _ _ => exact q_bad
                  | nil => exact try_of Z C K
          | _ => exact q_bad
  | _ => exact q_bad
theorem stSs_ok (S : SndE r) (Z : SndS r) (C : Ctx X c W) (K : Calls X c) : ∀ l, PSs X l (TQ X W (stSs r c l))
  | [] => PSs.weak pss_nil fun D σ H ⟨F, ι, m, e, s, o⟩ => o.now s
  | [st] => pss_one (stS_ok S Z C K st)
  | st :: st2 :: rest => q_seq (stS_ok S Z C K st) (stSs_ok S Z C K (st2 :: rest))
theorem ev_ok : ∀ n, SndE (ev n) ∧ SndS (ev n)
  | 0 => ⟨fun X c W C K e => EOk.bad rfl, fun X c W C K l => qs_bad⟩
  | n + 1 => ⟨fun X c W C K e => stE_ok (ev_ok n).1 C K e, fun X c W C K l => stSs_ok (ev_ok n).1 (ev_ok n).2 C K l⟩
end
end Cs

/-! Defs: what a call gives. -/
namespace Cs
open PySem L2 PySem.Spec
/-! ### what is left at the end of a call: the cells of the caller; newer ones are frozen -/
mutual
/-- g: what a newer cell is worth -/
def frz1 (n : Nat) (g : Nat → Option D) : D → Option D
  | .ref k => if k < n then some (.ref k) else g k
  | .tup ds => (frz1L n g ds).map .tup
  | .lst ds => (frz1L n g ds).map .lst
  | .dct ks vs => (frz1L n g vs).map fun vs => .dct ks vs
  | .scr ds => (frz1L n g ds).map .scr
  | d => some d
def frz1L (n : Nat) (g : Nat → Option D) : List D → Option (List D)
  | [] => some []
  | d :: ds => (frz1 n g d).bind fun d => (frz1L n g ds).map (d :: ·)
end
/-- a newer cell, k steps deep -/
def rsC (n : Nat) (m : Mem) : Nat → Nat → Option D
  | 0, _ => none
  | k + 1, i => match m[i]? with
    | some (.lst ds) => (frz1L n (rsC n m k) ds).map .lst
    | some (.dct ks vs) => (frz1L n (rsC n m k) vs).map fun vs => .dct ks vs
    | _ => none
def frzC (n : Nat) (m : Mem) : Cell → Option Cell
  | .lst ds => (frz1L n (rsC n m 8) ds).map .lst
  | .dct ks vs => (frz1L n (rsC n m 8) vs).map fun vs => .dct ks vs
  | .ins _ _ => none
def gcC (n : Nat) (m : Mem) (c c' : Cell) : Option Cell := if beqC c c' then some c else frzC n m c'
def gcM (n : Nat) (m : Mem) : Mem → Mem → Option Mem
  | [], _ => some []
  | c :: r, c' :: r' => (gcC n m c c').bind fun c'' => (gcM n m r r').map (c'' :: ·)
  | _ :: _, [] => none
/-- the answer d in the memory m', the caller's memory m -/
def gcR (d : D) (m m' : Mem) : Res D := match frz1 m.length (rsC m.length m' 8) d with
  | some d => match gcM m.length m' m m' with
    | some m => .ok d m
    | none => .bad
  | none => .bad

section
variable {K : PySem.W.Frag} {F F1 : Hp} {ι ι1 : List Addr} {H H1 : Hp} {m m1 : Mem} {σ : L2.St}
theorem lowL_kd {n : Nat} : ∀ kvs : List (Key × V), lowL n (kvs.map fun p => kd p.1) = true
  | [] => rfl
  | p :: r => by
    simp only [List.map_cons, lowL, Bool.and_eq_true]
    refine ⟨?_, lowL_kd r⟩
    cases p.1 <;> rfl
theorem lowL_k {n : Nat} : ∀ k : List Key, lowL n (k.map kd) = true
  | [] => rfl
  | p :: r => by
    simp only [List.map_cons, lowL, Bool.and_eq_true]
    refine ⟨?_, lowL_k r⟩
    cases p <;> rfl
theorem lowL_kdT {n : Nat} : ∀ kvs : List (List Key × V), lowL n (kvs.map fun p => kdT p.1) = true
  | [] => rfl
  | p :: r => by
    simp only [List.map_cons, lowL, Bool.and_eq_true]
    refine ⟨?_, lowL_kdT r⟩
    simp only [kdT, low]
    exact lowL_k _
mutual
theorem Rep.low : ∀ {d : D} {v : V}, Rep K F ι d v → low ι.length d = true
  | .non, _, _ => rfl
  | .bl _, _, _ => rfl
  | .int _, _, _ => rfl
  | .str _, _, _ => rfl
  | .tup ds, _, h => by
    obtain ⟨a, vs, _, _, r⟩ := h.tupE
    simp only [Cs.low]
    exact Reps.low r
  | .lst ds, _, h => by
    obtain ⟨a, vs, _, _, r⟩ := h.lstE
    simp only [Cs.low]
    exact Reps.low r
  | .scr ds, _, h => by
    obtain ⟨a, vs, _, _, r⟩ := h.scrE
    simp only [Cs.low]
    exact Reps.low r
  | .dct ks ws, _, h => by
    simp only [Rep] at h
    obtain ⟨a, _, ⟨kvs, _, e, r⟩ | ⟨kvs, _, e, r⟩⟩ := h
    · simp only [Cs.low, Bool.and_eq_true]
      exact ⟨by rw [e]; exact lowL_kd kvs, Reps.low r⟩
    · simp only [Cs.low, Bool.and_eq_true]
      exact ⟨by rw [e]; exact lowL_kdT kvs, Reps.low r⟩
  | .ref n, _, h => by
    obtain ⟨a, _, q⟩ := h.refE
    simp only [Cs.low, decide_eq_true_eq]
    by_cases z : n < ι.length
    · exact z
    · rw [List.getElem?_eq_none (by omega)] at q; cases q
theorem Reps.low : ∀ {ds : List D} {vs : List V}, Reps K F ι ds vs → lowL ι.length ds = true
  | [], _, _ => rfl
  | d :: ds, _, h => by
    obtain ⟨v, w, _, r1, r2⟩ := h.of_cons
    simp only [Cs.lowL, Bool.and_eq_true]
    exact ⟨Rep.low r1, Reps.low r2⟩
end
mutual
/-- what has no newer cell stays -/
theorem frz_low {n : Nat} {g : Nat → Option D} : ∀ {d : D}, low n d = true → frz1 n g d = some d
  | .non, _ => rfl
  | .bl _, _ => rfl
  | .int _, _ => rfl
  | .str _, _ => rfl
  | .tup ds, h => by simp only [low] at h; simp only [frz1, frzL_low h, Option.map_some]
  | .lst ds, h => by simp only [low] at h; simp only [frz1, frzL_low h, Option.map_some]
  | .scr ds, h => by simp only [low] at h; simp only [frz1, frzL_low h, Option.map_some]
  | .dct ks vs, h => by simp only [low, Bool.and_eq_true] at h; simp only [frz1, frzL_low h.2, Option.map_some]
  | .ref k, h => by simp only [low, decide_eq_true_eq] at h; simp only [frz1, if_pos h]
theorem frzL_low {n : Nat} {g : Nat → Option D} : ∀ {ds : List D}, lowL n ds = true → frz1L n g ds = some ds
  | [], _ => rfl
  | d :: ds, h => by
    simp only [lowL, Bool.and_eq_true] at h
    simp only [frz1L, frz_low h.1, frzL_low h.2, Option.bind_some, Option.map_some]
end
/-- .. is a list or a dict -/
def Big (g : Nat → Option D) : Prop := ∀ i d, g i = some d → (∃ ds, d = .lst ds) ∨ ∃ ks vs, d = .dct ks vs
theorem frz_int {n : Nat} {g : Nat → Option D} (hg : Big g) {d : D} {i : Int} (h : frz1 n g d = some (.int i)) : d = .int i := by
  cases d with
  | int j => simpa [frz1] using h
  | ref k =>
    simp only [frz1] at h
    split at h
    · cases h
    · rcases hg _ _ h with ⟨ds, e⟩ | ⟨ks, vs, e⟩ <;> cases e
  | tup ds => simp [frz1] at h
  | lst ds => simp [frz1] at h
  | scr ds => simp [frz1] at h
  | dct ks vs => simp [frz1] at h
  | _ => simp [frz1] at h
theorem frz_str {n : Nat} {g : Nat → Option D} (hg : Big g) {d : D} {i : Str} (h : frz1 n g d = some (.str i)) : d = .str i := by
  cases d with
  | str j => simpa [frz1] using h
  | ref k =>
    simp only [frz1] at h
    split at h
    · cases h
    · rcases hg _ _ h with ⟨ds, e⟩ | ⟨ks, vs, e⟩ <;> cases e
  | tup ds => simp [frz1] at h
  | lst ds => simp [frz1] at h
  | scr ds => simp [frz1] at h
  | dct ks vs => simp [frz1] at h
  | _ => simp [frz1] at h
theorem frzL_cons {n : Nat} {g : Nat → Option D} {d : D} {ds es : List D} (h : frz1L n g (d :: ds) = some es) : ∃ e es', es = e :: es' ∧ frz1 n g d = some e ∧ frz1L n g ds = some es' := by
  simp only [frz1L] at h
  obtain ⟨e, h1, h2⟩ := Option.bind_eq_some_iff.mp h
  obtain ⟨es', h3, rfl⟩ := Option.map_eq_some_iff.mp h2
  exact ⟨e, es', rfl, h1, h3⟩
theorem frzL_ints {n : Nat} {g : Nat → Option D} (hg : Big g) : ∀ {ds es : List D}, frz1L n g ds = some es → keyT es = true → keyT ds = true
  | [], _, _, _ => rfl
  | d :: ds, es, h, k => by
    obtain ⟨e, es', rfl, h1, h2⟩ := frzL_cons h
    unfold keyT at k ⊢
    rw [List.all_cons, Bool.and_eq_true] at k ⊢
    refine ⟨?_, frzL_ints hg h2 k.2⟩
    cases e with
    | int i => rw [frz_int hg h1]
    | _ => simp at k
theorem frzL_strs {n : Nat} {g : Nat → Option D} (hg : Big g) : ∀ {ds es : List D}, frz1L n g ds = some es → (es.all fun d => match d with | .str _ => true | _ => false) = true → (ds.all fun d => match d with | .str _ => true | _ => false) = true
  | [], _, _, _ => rfl
  | d :: ds, es, h, k => by
    obtain ⟨e, es', rfl, h1, h2⟩ := frzL_cons h
    rw [List.all_cons, Bool.and_eq_true] at k ⊢
    refine ⟨?_, frzL_strs hg h2 k.2⟩
    cases e with
    | str i => rw [frz_str hg h1]
    | _ => simp at k
theorem frzL_nm {n : Nat} {g : Nat → Option D} (hg : Big g) {ds es : List D} (h : frz1L n g ds = some es) (k : nmT es = true) : nmT ds = true := by
  cases ds with
  | nil =>
    simp only [frz1L] at h
    cases h
    cases k
  | cons d ds =>
    obtain ⟨e, es', rfl, h1, h2⟩ := frzL_cons h
    have k : ((e :: es').all fun d => match d with | .str _ => true | _ => false) = true := k
    exact frzL_strs hg h k
/-- the heap that stands for ever, with the newer cells -/
def Fz (F : Hp) (ι : List Addr) (n : Nat) (H : Hp) : Hp := fun a => if a ∈ ι.drop n then H a else F a
mutual
theorem frz_ok {n : Nat} {g : Nat → Option D} {F2 : Hp} (hg : Big g) (hF : ∀ a o, F a = some o → F2 a = some o) (hr : ∀ i d a, n ≤ i → g i = some d → ι[i]? = some a → Rep K F2 (ι.take n) d (.ref a)) :
    ∀ {d d' : D} {v : V}, Rep K F ι d v → frz1 n g d = some d' → Rep K F2 (ι.take n) d' v
  | .non, d', v, r, h => by simp only [frz1] at h; cases h; rw [r.nonE]; exact Rep.nonI
  | .bl _, d', v, r, h => by simp only [frz1] at h; cases h; rw [r.blE]; exact Rep.blI
  | .int _, d', v, r, h => by simp only [frz1] at h; cases h; rw [r.intE]; exact Rep.intI
  | .str _, d', v, r, h => by simp only [frz1] at h; cases h; rw [r.strE]; exact Rep.strI
  | .tup ds, d', v, r, h => by
    simp only [frz1] at h
    obtain ⟨es, h1, rfl⟩ := Option.map_eq_some_iff.mp h
    simp only [Rep] at r ⊢
    obtain ⟨a, vs, e, q, t, u, rs⟩ := r
    exact ⟨a, vs, e, SqT.mono q hF, fun z => hF _ _ (t (frzL_ints hg h1 z)), fun z => TupD.mono (u (frzL_nm hg h1 z)) hF, frzL_ok hg hF hr rs h1⟩
  | .lst ds, d', v, r, h => by
    simp only [frz1] at h
    obtain ⟨es, h1, rfl⟩ := Option.map_eq_some_iff.mp h
    simp only [Rep] at r ⊢
    obtain ⟨a, vs, e, q, rs⟩ := r
    exact ⟨a, vs, e, hF _ _ q, frzL_ok hg hF hr rs h1⟩
  | .scr ds, d', v, r, h => by
    simp only [frz1] at h
    obtain ⟨es, h1, rfl⟩ := Option.map_eq_some_iff.mp h
    simp only [Rep] at r ⊢
    obtain ⟨a, vs, e, q, rs⟩ := r
    exact ⟨a, vs, e, SqL.mono q hF, frzL_ok hg hF hr rs h1⟩
  | .dct ks ws, d', v, r, h => by
    simp only [frz1] at h
    obtain ⟨es, h1, rfl⟩ := Option.map_eq_some_iff.mp h
    simp only [Rep] at r ⊢
    obtain ⟨a, e, ⟨kvs, q, e2, rs⟩ | ⟨kvs, q, e2, rs⟩⟩ := r
    · exact ⟨a, e, .inl ⟨kvs, q.mono hF, e2, frzL_ok hg hF hr rs h1⟩⟩
    · exact ⟨a, e, .inr ⟨kvs, q.mono hF, e2, frzL_ok hg hF hr rs h1⟩⟩
  | .ref k, d', v, r, h => by
    obtain ⟨a, rfl, q⟩ := r.refE
    simp only [frz1] at h
    split at h
    · rename_i hk
      cases h
      simp only [Rep]
      exact ⟨a, rfl, by rw [List.getElem?_take_of_lt hk]; exact q⟩
    · exact hr k d' a (by omega) h q
theorem frzL_ok {n : Nat} {g : Nat → Option D} {F2 : Hp} (hg : Big g) (hF : ∀ a o, F a = some o → F2 a = some o) (hr : ∀ i d a, n ≤ i → g i = some d → ι[i]? = some a → Rep K F2 (ι.take n) d (.ref a)) :
    ∀ {ds ds' : List D} {vs : List V}, Reps K F ι ds vs → frz1L n g ds = some ds' → Reps K F2 (ι.take n) ds' vs
  | [], ds', vs, r, h => by
    simp only [frz1L] at h
    cases h
    rw [r.of_nil]
    exact Reps.nil
  | d :: ds, ds', vs, r, h => by
    obtain ⟨e, es', rfl, h1, h2⟩ := frzL_cons h
    obtain ⟨v, w, rfl, r1, r2⟩ := r.of_cons
    exact Reps.cons (frz_ok hg hF hr r1 h1) (frzL_ok hg hF hr r2 h2)
end
theorem rs_big (n : Nat) (m : Mem) : ∀ k, Big (rsC n m k)
  | 0 => fun i d h => by simp [rsC] at h
  | k + 1 => fun i d h => by
    simp only [rsC] at h
    split at h
    · obtain ⟨es, _, rfl⟩ := Option.map_eq_some_iff.mp h
      exact .inl ⟨_, rfl⟩
    · obtain ⟨es, _, rfl⟩ := Option.map_eq_some_iff.mp h
      exact .inr ⟨_, _, rfl⟩
    · cases h
theorem Fz_sub (s : SimM K F ι m H) (n : Nat) : ∀ a o, F a = some o → Fz F ι n H a = some o := fun a o h => by
  unfold Fz
  split
  · exact s.sub _ _ h
  · exact h
theorem rs_ok (s : SimM K F ι m H) (n : Nat) : ∀ k i d a, n ≤ i → rsC n m k i = some d → ι[i]? = some a → Rep K (Fz F ι n H) (ι.take n) d (.ref a)
  | 0, i, d, a, _, h, _ => by simp [rsC] at h
  | k + 1, i, d, a, hi, h, ha => by
    have ih := rs_ok s n k
    have hin : a ∈ ι.drop n := by
      have : (ι.drop n)[i - n]? = some a := by rw [List.getElem?_drop, show n + (i - n) = i by omega]; exact ha
      exact List.mem_of_getElem? this
    have hz : ∀ o, H a = some o → Fz F ι n H a = some o := fun o q => by unfold Fz; rw [if_pos hin]; exact q
    simp only [rsC] at h
    split at h
    · rename_i ds hm
      obtain ⟨es, h1, rfl⟩ := Option.map_eq_some_iff.mp h
      obtain ⟨o, ho, vs, rfl, rs⟩ := s.at ha hm
      exact Rep.lstI (hz _ ho) (frzL_ok (rs_big n m k) (Fz_sub s n) ih rs h1)
    · rename_i ks vs hm
      obtain ⟨es, h1, rfl⟩ := Option.map_eq_some_iff.mp h
      obtain ⟨o, ho, rc⟩ := s.at ha hm
      simp only [Rep]
      refine ⟨a, rfl, ?_⟩
      obtain ⟨kvs, rfl, e2, rs⟩ | ⟨kvs, rfl, e2, rs⟩ := rc
      · exact .inl ⟨kvs, .inl (hz _ ho), e2, frzL_ok (rs_big n m k) (Fz_sub s n) ih rs h1⟩
      · exact .inr ⟨kvs, .inl (hz _ ho), e2, frzL_ok (rs_big n m k) (Fz_sub s n) ih rs h1⟩
    · cases h
/-- a cell's content names cells that there are -/
theorem RepC.keep {c : Cell} {o o' : HO} {F2 : Hp} {ι2 : List Addr} (r0 : RepC K F ι c o) (r : RepC K F1 ι1 c o') (hF : ∀ a u, F1 a = some u → F2 a = some u) (hι : ∀ (n : Nat) a, n < ι.length → ι1[n]? = some a → ι2[n]? = some a) : RepC K F2 ι2 c o' := by
  have fz : ∀ {ds : List D} {vs ws : List V}, Reps K F ι ds vs → Reps K F1 ι1 ds ws → Reps K F2 ι2 ds ws := fun {ds vs ws} h0 h1 => by
    have h2 := frzL_ok (n := ι.length) (g := fun _ => none) (F2 := F2) (fun _ _ z => by cases z) hF (fun _ _ _ _ z => by cases z) h1 (frzL_low (Reps.low h0))
    refine h2.mono (fun _ _ z => z) fun n a z => ?_
    by_cases q : n < ι.length
    · rw [List.getElem?_take_of_lt q] at z; exact hι n a q z
    · rw [List.getElem?_eq_none (by rw [List.length_take]; omega)] at z; cases z
  cases c with
  | lst ds =>
    obtain ⟨vs, _, h0⟩ := r0
    obtain ⟨ws, e, h1⟩ := r
    exact ⟨ws, e, fz h0 h1⟩
  | dct ks vs =>
    have h0 : ∃ ws, Reps K F ι vs ws := by
      obtain ⟨kvs, _, _, h⟩ | ⟨kvs, _, _, h⟩ := r0
      · exact ⟨_, h⟩
      · exact ⟨_, h⟩
    obtain ⟨ws, h0⟩ := h0
    obtain ⟨kvs, e, e2, h1⟩ | ⟨kvs, e, e2, h1⟩ := r
    · exact .inl ⟨kvs, e, e2, fz h0 h1⟩
    · exact .inr ⟨kvs, e, e2, fz h0 h1⟩
  | ins _ _ => exact r0
theorem gcM_get {n : Nat} {mm : Mem} : ∀ {m m' m2 : Mem} {i : Nat} {c c' : Cell}, gcM n mm m m' = some m2 → m[i]? = some c → m'[i]? = some c' → ∃ c2, m2[i]? = some c2 ∧ gcC n mm c c' = some c2
  | [], _, _, _, _, _, _, h, _ => by simp at h
  | _ :: _, [], _, _, _, _, h, _, _ => by simp [gcM] at h
  | c0 :: r, c0' :: r', m2, i, c, c', h, h1, h2 => by
    simp only [gcM] at h
    obtain ⟨x, e1, e2⟩ := Option.bind_eq_some_iff.mp h
    obtain ⟨y, e3, rfl⟩ := Option.map_eq_some_iff.mp e2
    cases i with
    | zero =>
      simp at h1 h2
      subst h1
      subst h2
      exact ⟨x, rfl, e1⟩
    | succ i => simpa using gcM_get e3 (by simpa using h1) (by simpa using h2)
theorem gcM_len {n : Nat} {mm : Mem} : ∀ {m m' m2 : Mem}, gcM n mm m m' = some m2 → m2.length = m.length ∧ m.length ≤ m'.length
  | [], _, _, h => by simp only [gcM] at h; cases h; exact ⟨rfl, Nat.zero_le _⟩
  | _ :: _, [], _, h => by simp [gcM] at h
  | c0 :: r, c0' :: r', m2, h => by
    simp only [gcM] at h
    obtain ⟨x, e1, e2⟩ := Option.bind_eq_some_iff.mp h
    obtain ⟨y, e3, rfl⟩ := Option.map_eq_some_iff.mp e2
    have := gcM_len e3
    simp only [List.length_cons]
    omega
/-- behind a call -/
theorem gc_ok {d d' : D} {m2 : Mem} (s : SimM K F ι m H) (x : Ext F ι H F1 ι1 H1) (s1 : SimM K F1 ι1 m1 H1) {v : V} (r : Rep K F1 ι1 d v) (h : gcR d m m1 = .ok d' m2) : ∃ F2, Ext F ι H F2 ι H1 ∧ SimM K F2 ι m2 H1 ∧ Rep K F2 ι d' v := by
  unfold gcR at h
  split at h
  · rename_i e hd
    split at h
    · rename_i m3 hm
      cases h
      have hl := s.len
      obtain ⟨new, ei, hnew⟩ := x.i
      have ht : ι1.take m.length = ι := by rw [ei, ← hl, List.take_left']; rfl
      have hdrop : ι1.drop m.length = new := by rw [ei, ← hl, List.drop_left']; rfl
      refine ⟨Fz F1 ι1 m.length H1, ⟨fun a o z => Fz_sub s1 _ _ _ (x.f _ _ z), fun a z => ?_, ⟨[], by simp, by simp⟩, x.k, x.t⟩, ⟨fun a o z => ?_, ?_, s.nd, fun n a c e1 e2 => ?_⟩, ?_⟩
      · unfold Fz at z
        split at z
        · rename_i hin
          rw [hdrop] at hin
          exact .inr (hnew a hin)
        · exact x.n a z
      · unfold Fz at z
        split at z
        · exact z
        · exact s1.sub _ _ z
      · rw [(gcM_len hm).1, hl]
      · have hn : n < m.length := by
          by_cases q : n < ι.length
          · omega
          · rw [List.getElem?_eq_none (by omega)] at e1; cases e1
        have hn1 : n < m1.length := Nat.lt_of_lt_of_le hn (gcM_len hm).2
        obtain ⟨c2, g1, g2⟩ := gcM_get hm (List.getElem?_eq_getElem hn) (List.getElem?_eq_getElem hn1)
        rw [e2] at g1
        cases g1
        have ei1 : ι1[n]? = some a := x.ι _ _ e1
        obtain ⟨hFa, o, ho, rc⟩ := s1.cell n a _ ei1 (List.getElem?_eq_getElem hn1)
        obtain ⟨_, o0, _, rc0⟩ := s.cell n a _ e1 (List.getElem?_eq_getElem hn)
        have hout : a ∉ ι1.drop m.length := fun q => by
          rw [hdrop] at q
          obtain ⟨j, hj⟩ := List.getElem?_of_mem q
          have e3 : ι1[ι.length + j]? = some a := by rw [ei, List.getElem?_append_right (by omega), Nat.add_sub_cancel_left]; exact hj
          have hn2 : n < ι1.length := by
            by_cases q : n < ι1.length
            · exact q
            · rw [List.getElem?_eq_none (by omega)] at ei1; cases ei1
          have := (List.getElem?_inj hn2 s1.nd).mp (ei1.trans e3.symm)
          omega
        refine ⟨by unfold Fz; rw [if_neg hout]; exact hFa, o, ho, ?_⟩
        unfold gcC at g2
        split at g2
        · rename_i he
          cases g2
          rw [← beqC_eq he] at rc
          exact RepC.keep rc0 rc (Fz_sub s1 _) fun k b hk z => by
            rw [ei, List.getElem?_append_left hk] at z; exact z
        · cases hc : m1[n] with
          | lst ds =>
            rw [hc] at g2 rc
            obtain ⟨es, h1, rfl⟩ := Option.map_eq_some_iff.mp g2
            obtain ⟨vs, e, rs⟩ := rc
            exact ⟨vs, e, ht ▸ frzL_ok (rs_big _ _ 8) (Fz_sub s1 _) (rs_ok s1 _ 8) rs h1⟩
          | dct ks vs =>
            rw [hc] at g2 rc
            obtain ⟨es, h1, rfl⟩ := Option.map_eq_some_iff.mp g2
            obtain ⟨kvs, e, e2, rs⟩ | ⟨kvs, e, e2, rs⟩ := rc
            · exact .inl ⟨kvs, e, e2, ht ▸ frzL_ok (rs_big _ _ 8) (Fz_sub s1 _) (rs_ok s1 _ 8) rs h1⟩
            · exact .inr ⟨kvs, e, e2, ht ▸ frzL_ok (rs_big _ _ 8) (Fz_sub s1 _) (rs_ok s1 _ 8) rs h1⟩
          | ins _ _ => rw [hc] at g2; cases g2
      · have := frz_ok (rs_big _ _ 8) (Fz_sub s1 _) (rs_ok s1 m.length 8) r hd
        rw [ht] at this
        exact this
    · cases h
  · cases h
end
end Cs

/-! Programs: defs that call one another. -/
namespace Cs
open PySem L2 PySem.Spec PyProof.Rows
structure FD where
  st : Stmt
  N : List Str
  ps : List Str
  al : List Str
def inL (l : List Str) (x : Str) : Bool := l.any (strEq x)
/-- a program's defs, its constants, the built-ins it does not hide -/
structure PG' where
  defs : List (Str × FD)
  G : List (Str × D)
  bl : List Str
  rs : List Str := []
  xc : List (Str × (Str × XArg)) := []
def PG'.sc (p : PG') (call : Str → List D → Mem → Res D) (fd : FD) : SC :=
  { N := fd.N, sc := defScope fd.st, sc0 := defScope fd.st, al := inL fd.al, G := fun x => lkp x p.G, fn := fun x => (lkp x p.defs).isSome, bl := inL p.bl, call := call, hot := inL p.rs, xc := fun x => lkp x p.xc }
def startD (N : List Str) (as : List D) : Sto := as.map some ++ List.replicate (N.length - as.length) none
/-- what is handed back; where no cells were made, nothing is tidied -/
def endR (gc : Bool) (d : D) (m m' : Mem) : Res D := if gc then gcR d m m' else .ok d m'
def retF (gc : Bool) (m : Mem) : SRes → Res D
  | .ok .nx _ m' => endR gc .non m m'
  | .ok (.rt d) _ m' => endR gc d m m'
  | _ => .bad
/-- .. of a def that may raise -/
def retX (gc : Bool) (m : Mem) : SRes → Res D
  | .ok .nx _ m' => endR gc .non m m'
  | .ok (.rt d) _ m' => endR gc d m m'
  | .exc y _ m' => match y.fs with
    | [(_, d)] => match endR gc d m m' with
      | .ok _ m2 => .exc y m2
      | _ => .bad
    | _ => .bad
  | _ => .bad
def PG'.call (p : PG') : Nat → Str → List D → Mem → Res D
  | 0, _, _, _ => .bad
  | k + 1, x, as, m => match lkp x p.defs with
    | none => .bad
    | some fd => if as.length = fd.ps.length then (if inL p.rs x then retX else retF) (!fd.al.isEmpty) m ((ev deep).s (p.sc (p.call k) fd) (defBody fd.st) (startD fd.N as) m) else .bad
/-- the text stands in the heap -/
structure DefOk (K : PySem.W.Frag) (mg : Str → Option Value) (x : Str) (fd : FD) : Prop where
  fn : ∃ f fdata, Fun K x x fd.st f fdata ∧ mg x = some (.ref f) ∧ ∀ us : List Value, us.length = fd.ps.length → bindArgs fdata ⟨us, []⟩ = pure (fd.ps.zip us)
  sc : FnScope fd.N fd.ps (defScope fd.st)
structure PgOk (K : PySem.W.Frag) (mg : Str → Option Value) (p : PG') : Prop where
  defs : ∀ q ∈ p.defs, DefOk K mg q.1 q.2
  glob : ∀ q ∈ p.G, ∃ u v, mg q.1 = some u ∧ RelV v u ∧ ∀ F ι, Rep K F ι q.2 v
  bl : ∀ x ∈ p.bl, mg x = none
theorem lkp_mem {α : Type} {x : Str} {a : α} : ∀ {l : List (Str × α)}, lkp x l = some a → (x, a) ∈ l
  | [], h => by cases h
  | (y, b) :: r, h => by
    unfold lkp at h
    split at h
    · rename_i e
      cases h
      rw [strEq_eq e]
      exact List.mem_cons_self
    · exact List.mem_cons_of_mem _ (lkp_mem h)
theorem inL_mem {x : Str} {l : List Str} (h : inL l x = true) : x ∈ l := by
  unfold inL at h
  obtain ⟨y, hy, e⟩ := List.any_eq_true.mp h
  rw [strEq_eq e]
  exact hy
section
variable {P : Program} {w : World} {K : PySem.W.Frag} {mg : Str → Option Value} {base : Heap} {p : PG'}
theorem start_sim {F : Hp} {ι : List Addr} {m : Mem} {H : Hp} {N : List Str} {as : List D} {vs : List V} (s : SimM K F ι m H) (r : Reps K F ι as vs) : Sim K F ι (startD N as) m (L2.start N vs) H := by
  have hl := r.length
  refine ⟨s, ?_, fun i d h => ?_⟩
  · unfold startD L2.start
    simp [hl]
  · unfold startD at h
    unfold L2.start
    by_cases q : i < as.length
    · rw [List.getElem?_append_left (by simpa using q), List.getElem?_map] at h
      obtain ⟨a, h1, h2⟩ := Option.map_eq_some_iff.mp h
      cases h2
      obtain ⟨v, h3, h4⟩ := r.get h1
      refine ⟨v, ?_, h4⟩
      rw [List.getElem?_append_left (by rw [List.length_map]; omega), List.getElem?_map, h3]
      rfl
    · rw [List.getElem?_append_right (by rw [List.length_map]; omega), List.getElem?_replicate] at h
      split at h <;> cases h
/-- what is wished of an exception that leaves a def -/
abbrev EWx (p : PG') (mg : Str → Option Value) (E : XK) : EW := fun y _ _ _ _ H' => ∀ cls dd, XRel (fun x => lkp x p.xc) mg H' y cls dd → E cls dd H'
theorem ctx_of (O : PgOk K mg p) (OX : ∀ x f k, lkp x p.xc = some (f, k) → XCls K P w mg base (fun x => lkp x p.xc) x f k) {fd : FD} (S : FnScope fd.N fd.ps (defScope fd.st)) (call : Str → List D → Mem → Res D) (qual : Str) (f : Addr) (cdv : Value) (A : Around) (outer : List PySem.Env) (s : Shared) (H : Hp) (E : XK) {k : Nat}
    (hr : Room (k + 2) (A.deeper (envOfC qual (defScope fd.st) s.heap.objs.size f cdv))) : Ctx (cxOf (L2.CX P w) P w K mg base fd.N qual (defScope fd.st) f cdv A outer s H E) (p.sc call fd) (EWx p mg E) where
  N := rfl
  nd := S.nd
  sc := rfl
  calm := rfl
  room := hr.mono (Nat.le_add_left _ _)
  glob := fun x d h => O.glob (x, d) (lkp_mem h)
  bl := fun x h => O.bl x (inL_mem h)
  wr := fun x h => by
    refine ⟨?_, .inl rfl⟩
    have h : (match lkp x (defScope fd.st).names with
      | some .local => true
      | some .cell => true
      | _ => false) = true := h
    show L2.Loc (defScope fd.st) x
    unfold L2.Loc
    rw [lkp_lookup] at h
    split at h
    · exact .inl (by assumption)
    · exact .inr (by assumption)
    · cases h
  pass := passes_of rfl
  tk := fun x h => (takes_of (E := E) rfl rfl rfl rfl).imp fun cls dd σ H ⟨y, F, ι, m, r, q⟩ => q cls dd r
  xcs := fun x f k h => OX x f k h
  stk := fun x h => ⟨rfl, rfl⟩
theorem call_len {k : Nat} {x : Str} {fd : FD} (h : lkp x p.defs = some fd) {ds : List D} {m : Mem} (e : p.call k x ds m ≠ .bad) : ds.length = fd.ps.length := by
  cases k with
  | zero => exact absurd rfl e
  | succ k =>
    unfold PG'.call at e
    rw [h] at e
    simp only at e
    split at e
    · assumption
    · exact absurd rfl e
theorem gcR_noexc {m m1 : Mem} {d : D} {y : Exc} {m' : Mem} : gcR d m m1 ≠ .exc y m' := by
  unfold gcR; split
  · split <;> exact fun z => by cases z
  · exact fun z => by cases z
theorem retF_noexc {gc : Bool} {m : Mem} {r : SRes} {y : Exc} {m' : Mem} : retF gc m r ≠ .exc y m' := by
  unfold retF
  split
  · unfold endR; split
    · exact gcR_noexc
    · exact fun z => by cases z
  · unfold endR; split
    · exact gcR_noexc
    · exact fun z => by cases z
  · exact fun z => by cases z
theorem end_ok {F F1 : Hp} {ι ι1 : List Addr} {H H1 : Hp} {m m1 m2 : Mem} {gc : Bool} {d d' : D} {v : V} (s : SimM K F ι m H) (x : Ext F ι H F1 ι1 H1) (s1 : SimM K F1 ι1 m1 H1) (r : Rep K F1 ι1 d v) (h : endR gc d m m1 = .ok d' m2) : ∃ F2 ι2, Ext F ι H F2 ι2 H1 ∧ SimM K F2 ι2 m2 H1 ∧ Rep K F2 ι2 d' v := by
  unfold endR at h
  split at h
  · obtain ⟨F2, h1, h2, h3⟩ := gc_ok s x s1 r h
    exact ⟨F2, ι, h1, h2, h3⟩
  · cases h
    exact ⟨F1, ι1, x, s1, r⟩
theorem call_noexc {k : Nat} {x : Str} (hx : inL p.rs x = false) {ds : List D} {m m' : Mem} {y : Exc} : p.call k x ds m ≠ .exc y m' := by
  cases k with
  | zero => exact fun z => by cases z
  | succ k =>
    unfold PG'.call
    split
    · exact fun z => by cases z
    · split
      · rw [hx]; exact retF_noexc
      · exact fun z => by cases z
theorem fns (O : PgOk K mg p) (OX : ∀ x f k, lkp x p.xc = some (f, k) → XCls K P w mg base (fun x => lkp x p.xc) x f k) : ∀ (k : Nat) (x : Str) (fd : FD), lkp x p.defs = some fd → ∀ f fdata, Fun K x x fd.st f fdata → FnOk P w K mg base (L2.CX P w) (k + 2) f fdata fd.ps (spI K (fun x => lkp x p.xc) mg (p.call k x) fd.ps.length)
  | 0, x, fd, h, f, fdata, F => by
    refine ⟨fun vs H Q E q => q.1, fun A outer s H args us vs Q E _ _ _ _ q => ?_⟩
    obtain ⟨_, F, ι, m, ds, _, _, o⟩ := q
    exact False.elim o
  | k + 1, x, fd, h, f, fdata, F => by
    have D := O.defs _ (lkp_mem h)
    refine F.okX D.sc (fun vs H Q E q => q.1) fun cdv A outer s H vs Q E hr q => ?_
    have C := ctx_of (P := P) (w := w) (base := base) O OX D.sc (p.call k) x f cdv A outer s H E hr
    have Ca : Calls (cxOf (L2.CX P w) P w K mg base fd.N x (defScope fd.st) f cdv A outer s H E) (p.sc (p.call k) fd) := fun y hy => by
      have hy : (lkp y p.defs).isSome = true := hy
      obtain ⟨gd, hg⟩ := Option.isSome_iff_exists.mp hy
      obtain ⟨g, gdata, G1, G2, G3⟩ := (O.defs _ (lkp_mem hg)).fn
      exact ⟨k + 2, g, gdata, gd.ps, gd.ps.length, fns O OX k y gd hg g gdata G1, hr, G2, G1.kp, .all G3, fun ds m e => call_len hg e, fun hx ds m y m' => call_noexc hx⟩
    refine ⟨_, (ev_ok deep).2 _ _ _ C Ca (defBody fd.st), ?_⟩
    obtain ⟨_, F0, ι, m, ds, sm, rs, o⟩ := q
    refine ⟨F0, ι, m, startD fd.N ds, start_sim sm rs, ?_⟩
    unfold PG'.call at o
    rw [h] at o
    simp only at o
    split at o
    · cases z : (ev deep).s (p.sc (p.call k) fd) (defBody fd.st) (startD fd.N ds) m with
      | bad => rw [z] at o; split at o <;> exact False.elim o
      | exc y e1 m1 =>
        rw [z] at o
        split at o
        · unfold retX at o
          simp only at o
          split at o
          · rename_i g d hy
            split at o
            · rename_i d2 m2 he
              intro F' ι' σ' H' x' s' cls dd r
              have r0 := r
              obtain ⟨x2, f2, k2, d3, v, C2, dx, ey, hx2, av, hm2, _, _, _⟩ := r0
              have ed : d = d3 := by
                rw [ey] at hy
                simp only [List.cons.injEq, Prod.mk.injEq, and_true] at hy
                exact hy.2.symm
              subst ed
              obtain ⟨F2, ι2, e2, s2, r2⟩ := end_ok sm x' s'.mem av.rep he
              exact o F2 ι2 H' e2 s2 cls dd r
            · exact False.elim o
          · exact False.elim o
        · exact False.elim o
      | ok fl e1 m1 =>
        have ee : ∀ (d : Cs.D) (r : Res Cs.D), r = endR (!fd.al.isEmpty) d m m1 → Out K (EWx p mg E) (RV K) F0 ι [] H r Q → ∀ F' ι' σ' H', Ext F0 ι H F' ι' H' → Sim K F' ι' e1 m1 σ' H' → ∀ v, Rep K F' ι' d v → Q v H' := by
          intro d r er o F' ι' σ' H' x' s' v rv
          cases hr : endR (!fd.al.isEmpty) d m m1 with
          | bad => rw [er, hr] at o; exact False.elim o
          | exc y m2 =>
            unfold endR at hr
            split at hr
            · exact absurd hr gcR_noexc
            · cases hr
          | ok d2 m2 =>
            rw [er, hr] at o
            obtain ⟨F2, ι2, x2, s2, r2⟩ := end_ok sm x' s'.mem rv hr
            exact o _ _ _ _ x2 s2 r2
        rw [z] at o
        intro F' ι' σ' H' x' s'
        cases fl with
        | nx => exact ee .non _ (by split <;> rfl) o F' ι' σ' H' x' s' _ Rep.nonI
        | rt d1 => exact fun v rv => ee d1 _ (by split <;> rfl) o F' ι' σ' H' x' s' v rv
        | bk => split at o <;> exact False.elim o
        | ct => split at o <;> exact False.elim o
    · exact False.elim o
end
/-! ### the end -/
theorem law_sp {K : PySem.W.Frag} {xc : Str → Option (Str × XArg)} {mg : Str → Option Value} {g : List D → Mem → Res D} {H : Hp} {a : Addr} {ns : List Int} (h : g [.scr (ns.map .int)] [] = .ok (.bl true) []) (hS : SqL K H a (ns.map V.int)) : spI K xc mg g 1 [.ref a] H (fun v _ => v = .bl true) fun _ _ _ => False := by
  have hr : ∀ ns : List Int, Reps K H [] (ns.map .int) (ns.map V.int) := fun ns => by
    induction ns with
    | nil => exact Reps.nil
    | cons n r ih => exact Reps.cons Rep.intI ih
  refine ⟨rfl, H, [], [], [.scr (ns.map .int)], ⟨fun _ _ z => z, rfl, List.nodup_nil, fun n a c e => by cases e⟩, Reps.one ?_, ?_⟩
  · simp only [Rep]
    exact ⟨a, _, rfl, hS, hr ns⟩
  · rw [h]
    exact fun v F' ι' H' _ _ r => r.blE
/-- what a def's reading leaves out: the module it stands in -/
def spL (K : PySem.W.Frag) (p : PG') (k : Nat) (x : Str) : Sp := fun vs H Q E => ∃ (a : Addr) (ns : List Int), vs = [V.ref a] ∧ SqL K H a (ns.map V.int) ∧ p.call k x [.scr (ns.map .int)] [] = .ok (.bl true) [] ∧ ∀ v H', v = .bl true → Q v H'
theorem walk_cx {l : PySem.W.OpenLaw} {n : Nat} {q : Program} {loose : List Str} {XP : (Str → Option Value) → Heap → Prop} {YP : World → Heap → Prop} {d : DefRec} {K : Params → PySem.W.Frag} {p : PG'} {fd : FD} (k : Nat) (hk : k ≤ 200) (hn : l.most = some n) (hn2 : n ≤ sizeLine) (hdf : d.params.defaults = [])
    (hl : lkp d.name p.defs = some fd) (hps : fd.ps = [("script" : Str)]) (hY : ∀ (w : World) (h : Heap), YP w h → (K w.params).In h)
    (F : ∀ (w : World) (mg : Str → Option Value) (h : Heap), (K w.params).In h → h.Ns mainGlobals mg → PgOk (K w.params) mg p)
    (FX : ∀ (w : World) (mg : Str → Option Value) (h : Heap), (K w.params).In h → h.Ns mainGlobals mg → ∀ (base : Heap) (x f : Str) (k : XArg), lkp x p.xc = some (f, k) → XCls (K w.params) l.prog w mg base (fun x => lkp x p.xc) x f k)
    (law : ∀ ns : List Int, ns.length ≤ n → p.call k d.name [.scr (ns.map .int)] [] = .ok (.bl true) []) :
    PySem.W.WalkO q loose XP YP l.row.toRowW d [] (fun f vs => PySem.call f vs) := by
  refine walk_of (n := n) (k := k + 2) (x := ("script" : Str)) (CX := fun w => L2.CX l.prog w) (sp := fun w => spL (K w.params) p k d.name) hn hn2 hdf ⟨rfl, ?_, ?_⟩ hY (fun w mg fa h KX G hm => ?_) (fun w H a ns hlen _ hS => ⟨a, ns, rfl, hS, law ns hlen, fun v H' e => e⟩) fun _ _ _ _ _ ⟨_, _, _, _, _, _, _, _, _, _, _, _, z⟩ => z
  · have : callerA.depth + 3 * 202 + 5 < recursionLimit := by decide
    omega
  · have : callerA.units + 16 * 202 + 200 < cLine := by decide
    omega
  · have O := F w mg h KX G
    obtain ⟨f, fdata, F1, hmf, hb⟩ := (O.defs _ (lkp_mem hl)).fn
    have e := hm.symm.trans hmf
    cases e
    refine ⟨fdata, fun s u => ?_, fun base KB GB => ?_⟩
    · have := hb [u] (by rw [hps]; rfl)
      rw [hps] at this
      exact .of_eq this
    · have := fns (P := l.prog) (w := w) (base := base) O (FX w mg h KX G base) k d.name fd hl _ _ F1
      rw [hps] at this
      refine this.imp fun vs H Q E ⟨a, ns, e1, hS, e2, hq⟩ => ?_
      subst e1
      obtain ⟨h1, F0, ι, m, ds, sm, rs, o⟩ := law_sp (xc := fun x => lkp x p.xc) (mg := mg) e2 hS
      refine ⟨h1, F0, ι, m, ds, sm, rs, ?_⟩
      cases z : p.call k d.name ds m with
      | bad => rw [z] at o; exact False.elim o
      | ok d2 m2 =>
        rw [z] at o
        exact fun v F' ι' H' x' s' r => hq v H' (o v F' ι' H' x' s' r)
      | exc y m2 =>
        rw [z] at o
        exact fun F' ι' H' x' s' cls dd r => (o F' ι' H' x' s' cls dd r).elim
theorem walk_cs {l : PySem.W.OpenLaw} {n : Nat} {q : Program} {loose : List Str} {XP : (Str → Option Value) → Heap → Prop} {YP : World → Heap → Prop} {d : DefRec} {K : Params → PySem.W.Frag} {p : PG'} {fd : FD} (k : Nat) (hk : k ≤ 200) (hn : l.most = some n) (hn2 : n ≤ sizeLine) (hdf : d.params.defaults = [])
    (hl : lkp d.name p.defs = some fd) (hps : fd.ps = [("script" : Str)]) (hY : ∀ (w : World) (h : Heap), YP w h → (K w.params).In h)
    (F : ∀ (w : World) (mg : Str → Option Value) (h : Heap), (K w.params).In h → h.Ns mainGlobals mg → PgOk (K w.params) mg p)
    (law : ∀ ns : List Int, ns.length ≤ n → p.call k d.name [.scr (ns.map .int)] [] = .ok (.bl true) []) (hx : p.xc = [] := by rfl) :
    PySem.W.WalkO q loose XP YP l.row.toRowW d [] (fun f vs => PySem.call f vs) :=
  walk_cx k hk hn hn2 hdf hl hps hY F (fun w mg h _ _ base x f k e => by rw [hx] at e; cases e) law
end Cs

/-! The end: what stands in the heap behind the top. -/
namespace Cs
open PySem L2 PySem.Spec PyProof.Rows
theorem def_mk {K : PySem.W.Frag} {h : Heap} {mg : Str → Option Value} {x : Str} {st : Stmt} {N ps al : List Str} {f : Addr} {od an : Option Addr} {sl : Array (Option Value)} {oc kV dc pm cd ct : Value} (X : K.In h) (G : h.Ns mainGlobals mg)
    (a : PySem.W.nsIn K mainGlobals x = some (some (.ref f))) (l : K.lookup f = some ⟨oc, od, .func (PySem.W.fnOf x x (defArgs st) (defBody st) (defScope st) .none kV dc pm an cd ct), sl⟩) (c : PySem.W.codeIn K cd x = true) (k : PySem.W.keepIn K (.ref f) = true)
    (hs : C8.scC N ps (defScope st) = true)
    (hb : ∀ (kV dc pm : Value) (an : Option Addr) (cd ct : Value) (us : List Value), us.length = ps.length → bindArgs (PySem.W.fnOf x x (defArgs st) (defBody st) (defScope st) .none kV dc pm an cd ct) ⟨us, []⟩ = pure (ps.zip us)) : DefOk K mg x ⟨st, N, ps, al⟩ :=
  ⟨⟨f, _, fun_mk l c k, PySem.W.mg_of X G a, fun us hl => hb kV dc pm an cd ct us hl⟩, C8.fnScope_by hs⟩
theorem g_str {K : PySem.W.Frag} {h : Heap} {mg : Str → Option Value} {x z : Str} {t : Tok} (X : K.In h) (G : h.Ns mainGlobals mg) (a : PySem.W.nsIn K mainGlobals x = some (some (.str z t))) : ∃ u v, mg x = some u ∧ RelV v u ∧ ∀ F ι, Rep K F ι (.str z) v :=
  ⟨_, .str z, PySem.W.mg_of X G a, ⟨t, rfl⟩, fun _ _ => Rep.strI⟩
theorem g_int {K : PySem.W.Frag} {h : Heap} {mg : Str → Option Value} {x : Str} {z : Int} {t : Tok} (X : K.In h) (G : h.Ns mainGlobals mg) (a : PySem.W.nsIn K mainGlobals x = some (some (.int z t))) : ∃ u v, mg x = some u ∧ RelV v u ∧ ∀ F ι, Rep K F ι (.int z) v :=
  ⟨_, .int z, PySem.W.mg_of X G a, ⟨t, rfl⟩, fun _ _ => Rep.intI⟩
theorem b_none {K : PySem.W.Frag} {h : Heap} {mg : Str → Option Value} {x : Str} (X : K.In h) (G : h.Ns mainGlobals mg) (a : PySem.W.nsIn K mainGlobals x = some none) : mg x = none := PySem.W.mg_none_of X G a
theorem allC {α : Type} {P : α → Prop} {a : α} {l : List α} (h : P a) (t : ∀ q ∈ l, P q) : ∀ q ∈ a :: l, P q := fun q hq => by
  rcases List.mem_cons.mp hq with rfl | hq
  · exact h
  · exact t q hq
theorem allN {α : Type} {P : α → Prop} : ∀ q ∈ ([] : List α), P q := fun _ h => nomatch h
end Cs

/-! Words for the texts in short. -/
namespace Cs
open PySem L2 PySem.Spec
abbrev FF := List D → Mem → Res D
def fApp (g : FF) (fs : FL) : FE := fun e m => bnd (fs e m) fun ds m => g ds m
def tAnd (a b : FB) : FB := fun e m => bnd (a e m) fun k m => if k then b e m else .ok false m
def tOr (a b : FB) : FB := fun e m => bnd (a e m) fun k m => if k then .ok true m else b e m
def tNot (a : FB) : FB := fun e m => bnd (a e m) fun k m => .ok (!k) m
def tIfE (t a b : FB) : FB := fun e m => bnd (t e m) fun k m => if k then a e m else b e m
/-- a def's answer by its body -/
def runF (gc : Bool) (np nN : Nat) (b : FS) : FF := fun as m => if as.length = np then retF gc m (b (as.map some ++ List.replicate (nN - as.length) none) m) else .bad
theorem call_succ {p : PG'} {x : Str} {fd : FD} (h : lkp x p.defs = some fd) (k : Nat) (hh : inL p.rs x = false) : p.call (k + 1) x = runF (!fd.al.isEmpty) fd.ps.length fd.N.length ((ev deep).s (p.sc (p.call k) fd) (defBody fd.st)) := by
  funext as m
  unfold PG'.call
  rw [h, hh]
  rfl
/-- .. with its text in short -/
theorem call_by {p : PG'} {x : Str} {fd : FD} (h : lkp x p.defs = some fd) {k : Nat} {b : FS} {gc : Bool} {np nN : Nat} (hb : (ev deep).s (p.sc (p.call k) fd) (defBody fd.st) = b) (h1 : (!fd.al.isEmpty) = gc) (h2 : fd.ps.length = np) (h3 : fd.N.length = nN) (hh : inL p.rs x = false := by rfl) :
    p.call (k + 1) x = runF gc np nN b := by
  rw [call_succ h k hh, hb, h1, h2, h3]
/-- .. of a def that may raise -/
def runX (gc : Bool) (np nN : Nat) (b : FS) : FF := fun as m => if as.length = np then retX gc m (b (as.map some ++ List.replicate (nN - as.length) none) m) else .bad
theorem call_byX {p : PG'} {x : Str} {fd : FD} (h : lkp x p.defs = some fd) {k : Nat} {b : FS} {gc : Bool} {np nN : Nat} (hb : (ev deep).s (p.sc (p.call k) fd) (defBody fd.st) = b) (h1 : (!fd.al.isEmpty) = gc) (h2 : fd.ps.length = np) (h3 : fd.N.length = nN) (hh : inL p.rs x = true := by rfl) :
    p.call (k + 1) x = runX gc np nN b := by
  funext as m
  unfold PG'.call
  rw [h, hh]
  subst hb h1 h2 h3
  rfl
end Cs

/-! Words for the plain laws: what an answer is to be. -/
namespace Cs
open PySem
/-- the answer comes and is so -/
def okR {α : Type} (r : Res α) (Q : α → Mem → Prop) : Prop := ∃ a m, r = .ok a m ∧ Q a m
def okS (r : SRes) (Q : Fl → Sto → Mem → Prop) : Prop := ∃ f e m, r = .ok f e m ∧ Q f e m
section
variable {α β : Type} {Q : α → Mem → Prop} {m m' : Mem} {e e' : Sto}
theorem okR.mk {a : α} (h : Q a m) : okR (.ok a m) Q := ⟨a, m, rfl, h⟩
theorem okS.mk {f : Fl} {Q : Fl → Sto → Mem → Prop} (h : Q f e m) : okS (.ok f e m) Q := ⟨f, e, m, rfl, h⟩
theorem okR.imp {r : Res α} {P : α → Mem → Prop} (h : okR r P) (k : ∀ a m, P a m → Q a m) : okR r Q := let ⟨a, m, e, q⟩ := h; ⟨a, m, e, k a m q⟩
theorem okS.imp {r : SRes} {P Q : Fl → Sto → Mem → Prop} (h : okS r P) (k : ∀ f e m, P f e m → Q f e m) : okS r Q := let ⟨f, e, m, z, q⟩ := h; ⟨f, e, m, z, k f e m q⟩
theorem okR.bnd {r : Res β} {P : β → Mem → Prop} {g : β → Mem → Res α} (h : okR r P) (k : ∀ b m, P b m → okR (g b m) Q) : okR (Cs.bnd r g) Q := by
  obtain ⟨b, m, rfl, p⟩ := h
  exact k b m p
theorem okR.eq {r : Res α} {a : α} (h : okR r fun b m' => b = a ∧ m' = m) : r = .ok a m := by
  obtain ⟨b, m', rfl, rfl, rfl⟩ := h
  rfl
theorem okR.of {r : Res α} {a : α} (h : r = .ok a m) (q : Q a m) : okR r Q := ⟨a, m, h, q⟩
theorem okS.bd {r : Res β} {P : β → Mem → Prop} {g : β → Mem → SRes} {Q : Fl → Sto → Mem → Prop} (h : okR r P) (k : ∀ b m, P b m → okS (g b m) Q) : okS (sBd r e g) Q := by
  obtain ⟨b, m, rfl, p⟩ := h
  exact k b m p
theorem okS.seq {a b : FS} {Q : Fl → Sto → Mem → Prop} (h : okS (a e m) fun f e m => match f with
    | .nx => okS (b e m) Q
    | f => Q f e m) : okS (sSeq a b e m) Q := by
  obtain ⟨f, e1, m1, h1, h2⟩ := h
  unfold sSeq
  rw [h1]
  cases f with
  | nx => exact h2
  | bk => exact ⟨_, _, _, rfl, h2⟩
  | ct => exact ⟨_, _, _, rfl, h2⟩
  | rt d => exact ⟨_, _, _, rfl, h2⟩
/-- .. where the first goes on -/
theorem okS.seqN {a b : FS} {P : Sto → Mem → Prop} {Q : Fl → Sto → Mem → Prop} (h : okS (a e m) fun f e m => f = .nx ∧ P e m) (k : ∀ e m, P e m → okS (b e m) Q) : okS (sSeq a b e m) Q :=
  okS.seq (h.imp fun f e m ⟨z, q⟩ => by subst z; exact k e m q)
/-- a loop: I holds with what is left -/
theorem for_inv {t : Tgt} {b : FS} {ns : List Nat} {m0 : Mem} {Q : Fl → Sto → Mem → Prop} (I : List D → Sto → Mem → Prop) (hn : ∀ e m, I [] e m → Q .nx e m)
    (hs : ∀ d r e m, I (d :: r) e m → ∃ e', bindT t d e = some e' ∧ okS (b e' m) fun f e m => match f with
      | .nx => same ns m0 m = true ∧ I r e m
      | .ct => same ns m0 m = true ∧ I r e m
      | .bk => Q .nx e m
      | .rt d => Q (.rt d) e m) : ∀ (ds : List D) (e : Sto) (m : Mem), I ds e m → okS (forGo t b ns m0 ds e m) Q
  | [], e, m, h => okS.mk (hn e m h)
  | d :: r, e, m, h => by
    obtain ⟨e', h1, f, e2, m2, h2, h3⟩ := hs d r e m h
    unfold forGo
    rw [h1]
    simp only
    rw [h2]
    cases f with
    | nx =>
      simp only at h3 ⊢
      rw [if_pos h3.1]
      exact for_inv I hn hs r e2 m2 h3.2
    | ct =>
      simp only at h3 ⊢
      rw [if_pos h3.1]
      exact for_inv I hn hs r e2 m2 h3.2
    | bk => exact okS.mk h3
    | rt d => exact okS.mk h3
/-- .. with a measure that goes down -/
theorem whl_inv {t : FB} {b : FS} {Q : Fl → Sto → Mem → Prop} (I : Nat → Sto → Mem → Prop)
    (hs : ∀ n e m, I n e m → okR (t e m) fun k m => if k = true then okS (b e m) (fun f e m => match f with
      | .nx => ∃ n', n' < n ∧ I n' e m
      | .ct => ∃ n', n' < n ∧ I n' e m
      | .bk => Q .nx e m
      | .rt d => Q (.rt d) e m) else Q .nx e m) : ∀ (N n : Nat) (e : Sto) (m : Mem), n < N → I n e m → okS (whlGo t b N e m) Q
  | 0, n, e, m, h, _ => absurd h (Nat.not_lt_zero _)
  | N + 1, n, e, m, h, hi => by
    obtain ⟨k, m1, h1, h2⟩ := hs n e m hi
    unfold whlGo
    rw [h1]
    cases k with
    | false => exact okS.mk (by simpa using h2)
    | true =>
      rw [if_pos rfl] at h2
      obtain ⟨f, e2, m2, h3, h4⟩ := h2
      simp only
      rw [h3]
      cases f with
      | nx =>
        obtain ⟨n', hn, h5⟩ := h4
        exact whl_inv I hs N n' e2 m2 (by omega) h5
      | ct =>
        obtain ⟨n', hn, h5⟩ := h4
        exact whl_inv I hs N n' e2 m2 (by omega) h5
      | bk => exact okS.mk h4
      | rt d => exact okS.mk h4
theorem whl_ok {t : FB} {b : FS} {Q : Fl → Sto → Mem → Prop} (I : Nat → Sto → Mem → Prop) (n : Nat) (hn : n < 2 ^ 64) (hi : I n e m)
    (hs : ∀ n e m, I n e m → okR (t e m) fun k m => if k = true then okS (b e m) (fun f e m => match f with
      | .nx => ∃ n', n' < n ∧ I n' e m
      | .ct => ∃ n', n' < n ∧ I n' e m
      | .bk => Q .nx e m
      | .rt d => Q (.rt d) e m) else Q .nx e m) : okS (sWhl t b e m) Q := whl_inv I hs manyTurns n e m hn hi
end
/-! ### comprehensions without a trace -/
section
variable {t : Tgt} {ft : FB} {fe : FE} {e : Sto} {m m0 : Mem} {ns : List Nat}
theorem lcGo_pure {p : D → Bool} {g : D → D} (hm : same ns m0 m = true) : ∀ {ds : List D}, (∀ d ∈ ds, ∃ e', bindT t d e = some e' ∧ ft e' m = .ok (p d) m ∧ (p d = true → fe e' m = .ok (g d) m)) → lcGo t ft fe e ns m0 ds m = .ok ((ds.filter p).map g) m
  | [], _ => rfl
  | d :: r, h => by
    obtain ⟨e', h1, h2, h3⟩ := h d List.mem_cons_self
    have ih := lcGo_pure hm (ds := r) fun d hd => h d (List.mem_cons_of_mem _ hd)
    unfold lcGo
    rw [h1]
    simp only
    rw [h2]
    cases q : p d with
    | true =>
      simp only
      rw [h3 q]
      simp only
      rw [if_pos hm, ih, List.filter_cons_of_pos q, List.map_cons]
    | false =>
      simp only
      rw [if_pos hm, ih, List.filter_cons_of_neg (by rw [q]; exact Bool.false_ne_true)]
theorem lcGo_map {g : D → D} (hm : same ns m0 m = true) {ds : List D} (h : ∀ d ∈ ds, ∃ e', bindT t d e = some e' ∧ ft e' m = .ok true m ∧ fe e' m = .ok (g d) m) : lcGo t ft fe e ns m0 ds m = .ok (ds.map g) m := by
  have := lcGo_pure (p := fun _ => true) (g := g) hm (ds := ds) fun d hd => let ⟨e', h1, h2, h3⟩ := h d hd; ⟨e', h1, h2, fun _ => h3⟩
  rw [this, List.filter_eq_self.mpr (fun _ _ => rfl)]
theorem lc2Go_flat {inner : Sto → Mem → Res (List D)} {g : D → List D} (hm : same ns m0 m = true) : ∀ {ds : List D}, (∀ d ∈ ds, ∃ e', bindT t d e = some e' ∧ ft e' m = .ok true m ∧ inner e' m = .ok (g d) m) → lc2Go t ft inner e ns m0 ds m = .ok (ds.flatMap g) m
  | [], _ => rfl
  | d :: r, h => by
    obtain ⟨e', h1, h2, h3⟩ := h d List.mem_cons_self
    have ih := lc2Go_flat hm (ds := r) fun d hd => h d (List.mem_cons_of_mem _ hd)
    unfold lc2Go
    rw [h1]
    simp only
    rw [h2]
    simp only
    rw [h3]
    simp only
    rw [if_pos hm, ih, List.flatMap_cons]
theorem same_nil : same [] m0 m = true := rfl
mutual
theorem beqD_refl : ∀ d : D, beqD d d = true
  | .non => rfl
  | .bl b => by simp [beqD]
  | .int i => by simp [beqD]
  | .str s => by simp [beqD]
  | .tup ds => by simp only [beqD]; exact beqL_refl ds
  | .lst ds => by simp only [beqD]; exact beqL_refl ds
  | .scr ds => by simp only [beqD]; exact beqL_refl ds
  | .dct ks vs => by simp only [beqD, beqL_refl ks, beqL_refl vs, Bool.and_self]
  | .ref n => by simp [beqD]
theorem beqL_refl : ∀ ds : List D, beqL ds ds = true
  | [] => rfl
  | d :: ds => by simp only [beqL, beqD_refl d, beqL_refl ds, Bool.and_self]
end
theorem beqF_refl : ∀ ds : List (Str × D), beqF ds ds = true
  | [] => rfl
  | d :: ds => by simp only [beqF, beqD_refl d.2, beqF_refl ds, beq_self_eq_true, Bool.and_self]
theorem beqC_refl (c : Cell) : beqC c c = true := by
  cases c with
  | lst ds => exact beqL_refl ds
  | dct ks vs => simp only [beqC, beqL_refl ks, beqL_refl vs, Bool.and_self]
  | ins c fs => simp only [beqC, beqF_refl fs, beq_self_eq_true, Bool.and_self]
theorem same_refl : same ns m m = true := by
  unfold same
  rw [List.all_eq_true]
  intro n _
  cases m[n]? with
  | none => rfl
  | some c => exact beqC_refl c
theorem same_of (h : ∀ n ∈ ns, m[n]? = m0[n]?) : same ns m0 m = true := by
  unfold same
  rw [List.all_eq_true]
  intro n hn
  rw [h n hn]
  cases m0[n]? with
  | none => rfl
  | some c => exact beqC_refl c
/-! ### what is left behind a call -/
theorem gcC_refl {n : Nat} {mm : Mem} (c : Cell) : gcC n mm c c = some c := by
  unfold gcC
  rw [if_pos (beqC_refl c)]
theorem gcM_app {n : Nat} {mm : Mem} : ∀ (m x : Mem), gcM n mm m (m ++ x) = some m
  | [], _ => by cases ‹Mem› <;> rfl
  | c :: m, x => by
    rw [List.cons_append, gcM, gcC_refl, gcM_app m x]
    rfl
theorem gcM_self {n : Nat} {mm : Mem} (m : Mem) : gcM n mm m m = some m := by
  have := gcM_app (n := n) (mm := mm) m []
  rwa [List.append_nil] at this
/-- new cells only: the memory is as it was -/
theorem gcR_app {d d' : D} {x : Mem} (h : frz1 m.length (rsC m.length (m ++ x) 8) d = some d') : gcR d m (m ++ x) = .ok d' m := by
  unfold gcR
  rw [h]
  simp only
  rw [gcM_app]
theorem gcR_low {d : D} {x : Mem} (h : low m.length d = true) : gcR d m (m ++ x) = .ok d m := gcR_app (frz_low h)
end
/-! ### the combinators, at work -/
section
variable {α β : Type} {m : Mem} {e : Sto} {fa fb fo : FE} {fs fr : FL} {ft : FB} {a b : FS}
@[simp] theorem bnd_ok (x : α) (g : α → Mem → Res β) : bnd (.ok x m) g = g x m := (rfl)
@[simp] theorem bnd_bad (g : α → Mem → Res β) : bnd .bad g = .bad := (rfl)
@[simp] theorem sBd_ok (x : α) (g : α → Mem → SRes) : sBd (.ok x m) e g = g x m := (rfl)
@[simp] theorem sBd_bad (g : α → Mem → SRes) : sBd .bad e g = .bad := (rfl)
@[simp] theorem ofO_some (d : D) : ofO m (some d) = .ok d m := (rfl)
@[simp] theorem ofO_none : ofO m none = .bad := (rfl)
/-- what stands in a slot -/
def atV (e : Sto) (i : Nat) : Option D := (e[i]?).join
@[simp] theorem fVar_ap (i : Nat) : fVar i e m = ofO m (atV e i) := by
  unfold fVar atV
  cases e[i]? with
  | none => rfl
  | some o => cases o <;> rfl
@[simp] theorem atV_0 (x : Option D) (r : Sto) : atV (x :: r) 0 = x := by simp [atV]
@[simp] theorem atV_s (x : Option D) (r : Sto) (n : Nat) : atV (x :: r) (n + 1) = atV r n := by simp [atV]
@[simp] theorem fCon_ap (d : D) : fCon d e m = .ok d m := (rfl)
@[simp] theorem fBin_ap (op : Operator) : fBin op fa fb e m = bnd (fa e m) fun x m => bnd (fb e m) fun y m => ofO m (binD op x y m) := (rfl)
@[simp] theorem fNeg_ap : fNeg fa e m = bnd (fa e m) fun x m => ofO m (negD x) := (rfl)
/-- a truth value as an answer -/
def ofB (m : Mem) : Option Bool → Res Bool
  | some b => .ok b m
  | none => .bad
@[simp] theorem ofB_some (b : Bool) : ofB m (some b) = .ok b m := (rfl)
@[simp] theorem ofB_none : ofB m none = .bad := (rfl)
@[simp] theorem fTr_ap : fTr fa e m = bnd (fa e m) fun x m => ofB m (trD m x) := (rfl)
@[simp] theorem fNotV_ap : fNotV fa e m = bnd (fTr fa e m) fun b m => .ok (.bl !b) m := (rfl)
@[simp] theorem fAndV_ap : fAndV fa fb e m = bnd (fa e m) fun x m => bnd (ofB m (trD m x)) fun k m => if k then fb e m else .ok x m := by
  unfold fAndV
  congr
  funext x m
  cases trD m x with
  | none => rfl
  | some k => cases k <;> rfl
@[simp] theorem fOrV_ap : fOrV fa fb e m = bnd (fa e m) fun x m => bnd (ofB m (trD m x)) fun k m => if k then .ok x m else fb e m := by
  unfold fOrV
  congr
  funext x m
  cases trD m x with
  | none => rfl
  | some k => cases k <;> rfl
@[simp] theorem fCmp_ap (op : CmpOp) : fCmp op fa fb e m = bnd (fa e m) fun x m => bnd (fb e m) fun y m => bnd (ofB m (cmpD op x y m)) fun k m => .ok (.bl k) m := by
  show bnd (fa e m) (fun x m => bnd (fb e m) fun y m => ofO m ((cmpD op x y m).map .bl)) = _
  congr
  funext x m
  congr
  funext y m
  cases cmpD op x y m <;> rfl
@[simp] theorem fCmpN_ap (l : List (CmpOp × FE)) : fCmpN fa l e m = bnd (fa e m) fun v m => cmpGo v l e m := (rfl)
@[simp] theorem cmpGo_one (v : D) (op : CmpOp) : cmpGo v [(op, fb)] e m = bnd (fb e m) fun y m => bnd (ofB m (cmpD op v y m)) fun k m => .ok (.bl k) m := by
  show bnd (fb e m) (fun b m => ofO m ((cmpD op v b m).map .bl)) = _
  congr
  funext y m
  cases cmpD op v y m <;> rfl
@[simp] theorem cmpGo_more (v : D) (op : CmpOp) (p : CmpOp × FE) (l : List (CmpOp × FE)) : cmpGo v ((op, fb) :: p :: l) e m = bnd (fb e m) fun y m => bnd (ofB m (cmpD op v y m)) fun k m => if k then cmpGo y (p :: l) e m else .ok (.bl false) m := by
  show bnd (fb e m) _ = _
  congr
  funext y m
  cases h : cmpD op v y m with
  | none => simp only [h]; rfl
  | some k => cases k <;> simp only [h] <;> rfl
@[simp] theorem fIf_ap : fIf ft fa fb e m = bnd (ft e m) fun t m => if t then fa e m else fb e m := (rfl)
@[simp] theorem fNil_ap : fNil e m = .ok [] m := (rfl)
@[simp] theorem fCons_ap : fCons fa fr e m = bnd (fa e m) fun a m => bnd (fr e m) fun r m => .ok (a :: r) m := (rfl)
@[simp] theorem fTup_ap : fTup fs e m = bnd (fs e m) fun ds m => if ds.length ≤ sizeLine then .ok (.tup ds) m else .bad := (rfl)
@[simp] theorem fLst_ap : fLst fs e m = bnd (fs e m) fun ds m => if ds.length ≤ sizeLine then .ok (.lst ds) m else .bad := (rfl)
@[simp] theorem fIx_ap : fIx fa fb e m = bnd (fa e m) fun x m => bnd (fb e m) fun y m => ofO m (ixD x y m) := (rfl)
@[simp] theorem fPart_none : fPart none e m = .ok none m := (rfl)
def intO : D → Option Int
  | .int i => some i
  | _ => none
def ofI (m : Mem) : Option Int → Res (Option Int)
  | some i => .ok (some i) m
  | none => .bad
@[simp] theorem ofI_some (i : Int) : ofI m (some i) = .ok (some i) m := (rfl)
@[simp] theorem intO_int (i : Int) : intO (.int i) = some i := (rfl)
@[simp] theorem fPart_some : fPart (some fa) e m = bnd (fa e m) fun d m => ofI m (intO d) := by
  show bnd (fa e m) _ = _
  congr
  funext d m
  cases d <;> rfl
@[simp] theorem fSl_ap (lo hi : Option FE) : fSl fa lo hi e m = bnd (fa e m) fun a m => bnd (fPart lo e m) fun l m => bnd (fPart hi e m) fun h m => ofO m (slD a l h m) := (rfl)
@[simp] theorem fBlt_ap (f : Blt) : fBlt f fs e m = bnd (fs e m) fun ds m => ofO m (bltD f ds m) := (rfl)
@[simp] theorem fIsi_ap (t : Ty) : fIsi t fa e m = bnd (fa e m) fun d m => bnd (ofB m (isiD t (res m d))) fun k m => .ok (.bl k) m := by
  show bnd (fa e m) _ = _
  congr
  funext d m
  cases isiD t (res m d) <;> rfl
@[simp] theorem fApp_ap (g : FF) : fApp g fs e m = bnd (fs e m) g := (rfl)
def ofP (r : Option (D × Mem)) : Res D := match r with
  | some p => .ok p.1 p.2
  | none => .bad
@[simp] theorem ofP_some (d : D) : ofP (some (d, m)) = .ok d m := (rfl)
@[simp] theorem ofP_none : ofP none = .bad := (rfl)
/-- a method, of what kind the object is -/
def mthR (f : Mth) (o : D) (m0 : Mem) (ds : List D) (m : Mem) : Res D := match rkD m0 o with
  | some k => if mthOk f k then ofP (mthD f k o ds m) else .bad
  | none => .bad
theorem fMth_at (f : Mth) {o : D} {m1 m2 : Mem} {ds : List D} {k : Rk} (h : fo e m = .ok o m1) (hk : rkD m1 o = some k) (ok : mthOk f k = true) (hs : fs e m1 = .ok ds m2) : fMth f fo fs e m = ofP (mthD f k o ds m2) := by
  unfold fMth
  rw [h]
  simp only [bnd_ok, hk, ok, if_true, hs]
  cases mthD f k o ds m2 <;> rfl
@[simp] theorem fDct0_ap : fDct0 e m = .ok (.dct [] []) m := (rfl)
def ofN (r : Option (D × Mem)) : Res D := match r with
  | some p => .ok p.1 p.2
  | none => .bad
@[simp] theorem fNew_ap : fNew fa e m = bnd (fa e m) fun d m => ofP (newC d m) := by
  rfl
@[simp] theorem newC_lst (ds : List D) : newC (.lst ds) m = some (.ref m.length, m ++ [.lst ds]) := (rfl)
@[simp] theorem newC_dct (ks vs : List D) : newC (.dct ks vs) m = some (.ref m.length, m ++ [.dct ks vs]) := (rfl)
@[simp] theorem iVal_ap : iVal fa e m = bnd (fa e m) fun d m => match itOf m d with | some p => .ok p m | none => .bad := (rfl)
@[simp] theorem tAnd_ap {x y : FB} : tAnd x y e m = bnd (x e m) fun k m => if k then y e m else .ok false m := (rfl)
@[simp] theorem tOr_ap {x y : FB} : tOr x y e m = bnd (x e m) fun k m => if k then .ok true m else y e m := (rfl)
@[simp] theorem tNot_ap {x : FB} : tNot x e m = bnd (x e m) fun k m => .ok (!k) m := (rfl)
@[simp] theorem tIfE_ap {x y z : FB} : tIfE x y z e m = bnd (x e m) fun k m => if k then y e m else z e m := (rfl)
@[simp] theorem tYes_ap : tYes e m = .ok true m := (rfl)
/-! statements -/
def sThen (r : SRes) (b : FS) : SRes := match r with
  | .ok .nx e m => b e m
  | r => r
@[simp] theorem sSeq_ap : sSeq a b e m = sThen (a e m) b := by
  unfold sSeq sThen
  cases a e m with
  | ok f e m => cases f <;> rfl
  | exc _ _ _ => rfl
  | bad => rfl
@[simp] theorem sThen_nx : sThen (.ok .nx e m) b = b e m := (rfl)
@[simp] theorem sThen_bk : sThen (.ok .bk e m) b = .ok .bk e m := (rfl)
@[simp] theorem sThen_ct : sThen (.ok .ct e m) b = .ok .ct e m := (rfl)
@[simp] theorem sThen_rt (d : D) : sThen (.ok (.rt d) e m) b = .ok (.rt d) e m := (rfl)
@[simp] theorem sThen_bad : sThen .bad b = .bad := (rfl)
@[simp] theorem sNx_ap : sNx e m = .ok .nx e m := (rfl)
@[simp] theorem sBad_ap : sBad e m = .bad := (rfl)
@[simp] theorem sBreak_ap : sBreak e m = .ok .bk e m := (rfl)
@[simp] theorem sCont_ap : sCont e m = .ok .ct e m := (rfl)
@[simp] theorem sDrop_ap : sDrop fa e m = sBd (fa e m) e fun _ m => .ok .nx e m := (rfl)
@[simp] theorem sRet_ap : sRet fa e m = sBd (fa e m) e fun d m => .ok (.rt d) e m := (rfl)
@[simp] theorem sRetN_ap : sRetN e m = .ok (.rt .non) e m := (rfl)
@[simp] theorem sIf_ap : sIf ft a b e m = sBd (ft e m) e fun t m => if t then a e m else b e m := (rfl)
@[simp] theorem sSet_ap (i : Nat) : sSet i fa e m = sBd (fa e m) e fun d m => .ok .nx (e.set i (some d)) m := (rfl)
@[simp] theorem sPar_ap (is : List Nat) : sPar is fs e m = sBd (fs e m) e fun ds m => .ok .nx (setsL is ds e) m := (rfl)
@[simp] theorem setsL_cons (i : Nat) (is : List Nat) (d : D) (ds : List D) : setsL (i :: is) (d :: ds) e = setsL is ds (e.set i (some d)) := (rfl)
@[simp] theorem setsL_nil : setsL [] [] e = e := (rfl)
def sOf (e : Option Sto) (m : Mem) : SRes := match e with
  | some e => .ok .nx e m
  | none => .bad
@[simp] theorem sOf_some : sOf (some e) m = .ok .nx e m := (rfl)
@[simp] theorem sOf_none : sOf none m = .bad := (rfl)
@[simp] theorem sAsg_ap (t : Tgt) : sAsg t fa e m = sBd (fa e m) e fun d m => sOf (bindT t d e) m := by
  rfl
@[simp] theorem bindT_name (i : Nat) (d : D) : bindT (.name i) d e = some (e.set i (some d)) := by simp [bindT]
@[simp] theorem bindT_tup (ts : List Tgt) (ds : List D) : bindT (.tup ts) (.tup ds) e = bindL ts ds e := by simp [bindT]
@[simp] theorem bindL_nil : bindL [] [] e = some e := by simp [bindL]
@[simp] theorem bindL_cons (t : Tgt) (ts : List Tgt) (d : D) (ds : List D) : bindL (t :: ts) (d :: ds) e = (bindT t d e).bind (bindL ts ds) := by simp [bindL]
def sMem (e : Sto) : Option Mem → SRes
  | some m => .ok .nx e m
  | none => .bad
@[simp] theorem sMem_some : sMem e (some m) = .ok .nx e m := (rfl)
@[simp] theorem sMem_none : sMem e none = .bad := (rfl)
@[simp] theorem sPut_ap {fi fv : FE} : sPut fo fi fv e m = sBd (fv e m) e fun v m => sBd (fo e m) e fun o m => sBd (fi e m) e fun i m => sMem e (putD o i v m) := by
  rfl
@[simp] theorem sAugP_ap (op : Operator) {fi fv : FE} : sAugP op fo fi fv e m = sBd (fo e m) e fun o m => sBd (fi e m) e fun i m => sBd (ofO m (dctAt m o i)) e fun x m => sBd (fv e m) e fun v m => sBd (ofO m (augD op x v)) e fun z m => sMem e (putD o i z m) := by
  unfold sAugP
  congr
  funext o m
  congr
  funext i m
  cases dctAt m o i with
  | none => rfl
  | some x =>
    simp only [ofO_some, sBd_ok]
    congr
    funext v m
    cases augD op x v with
    | none => rfl
    | some z =>
      simp only [ofO_some, sBd_ok]
      cases putD o i z m <;> rfl
@[simp] theorem sFor_ap (t : Tgt) (fi : FI) : sFor t fi a e m = sBd (fi e m) e fun p m => forGo t a p.2 m p.1 e m := (rfl)
@[simp] theorem augD_add (i j : Int) : augD .Add (.int i) (.int j) = some (.int (i + j)) := (rfl)
@[simp] theorem augD_sub (i j : Int) : augD .Sub (.int i) (.int j) = some (.int (i - j)) := (rfl)
@[simp] theorem sAug_ap (op : Operator) (i : Nat) : sAug op i fa e m = sBd (ofO m (atV e i)) e fun x m => sBd (fa e m) e fun v m => sBd (ofO m (augD op x v)) e fun z m => .ok .nx (e.set i (some z)) m := by
  unfold sAug atV
  cases e[i]? with
  | none => rfl
  | some o =>
    cases o with
    | none => rfl
    | some x =>
      show sBd (fa e m) e _ = sBd (fa e m) e _
      congr
      funext v m
      cases augD op x v <;> rfl
/-! data -/
@[simp] theorem res_non : res m .non = .non := (rfl)
@[simp] theorem res_bl (b : Bool) : res m (.bl b) = .bl b := (rfl)
@[simp] theorem res_int (i : Int) : res m (.int i) = .int i := (rfl)
@[simp] theorem res_str (s : Str) : res m (.str s) = .str s := (rfl)
@[simp] theorem res_tupS (ds : List D) : res m (.tup ds) = .tup ds := (rfl)
@[simp] theorem res_lst (ds : List D) : res m (.lst ds) = .lst ds := (rfl)
@[simp] theorem res_dct (ks vs : List D) : res m (.dct ks vs) = .dct ks vs := (rfl)
@[simp] theorem res_scr (ds : List D) : res m (.scr ds) = .lst ds := (rfl)
@[simp] theorem trD_blS (b : Bool) : trD m (.bl b) = some b := (rfl)
@[simp] theorem trD_int (i : Int) : trD m (.int i) = some (i != 0) := (rfl)
@[simp] theorem trD_non : trD m .non = some false := (rfl)
@[simp] theorem cmp_lt (i j : Int) : cmpD .Lt (.int i) (.int j) m = some (decide (i < j)) := (rfl)
@[simp] theorem cmp_le (i j : Int) : cmpD .LtE (.int i) (.int j) m = some (decide (i ≤ j)) := (rfl)
@[simp] theorem cmp_gt (i j : Int) : cmpD .Gt (.int i) (.int j) m = some (decide (j < i)) := (rfl)
@[simp] theorem cmp_ge (i j : Int) : cmpD .GtE (.int i) (.int j) m = some (decide (j ≤ i)) := (rfl)
@[simp] theorem cmp_eqI (i j : Int) : cmpD .Eq (.int i) (.int j) m = some (i == j) := by simp [cmpD, eqOk, plain, dep, eqD]
@[simp] theorem cmp_neI (i j : Int) : cmpD .NotEq (.int i) (.int j) m = some (!(i == j)) := by simp [cmpD, eqOk, plain, dep, eqD]
@[simp] theorem cmp_eqS (i j : Str) : cmpD .Eq (.str i) (.str j) m = some (i == j) := by simp [cmpD, eqOk, plain, dep, eqD]
@[simp] theorem cmp_neS (i j : Str) : cmpD .NotEq (.str i) (.str j) m = some (!(i == j)) := by simp [cmpD, eqOk, plain, dep, eqD]
@[simp] theorem cmp_eqB (i j : Bool) : cmpD .Eq (.bl i) (.bl j) m = some (i == j) := by simp [cmpD, eqOk, plain, dep, eqD]
@[simp] theorem cmp_isN (d : D) : cmpD .Is d .non m = some (match d with | .non => true | _ => false) := (rfl)
@[simp] theorem cmp_notN (d : D) : cmpD .IsNot d .non m = some (match d with | .non => false | _ => true) := (rfl)
@[simp] theorem add_int (i j : Int) : binD .Add (.int i) (.int j) m = some (.int (i + j)) := (rfl)
@[simp] theorem sub_int (i j : Int) : binD .Sub (.int i) (.int j) m = some (.int (i - j)) := (rfl)
theorem mod_int (i j : Int) (h : 0 < j) : binD .Mod (.int i) (.int j) m = some (.int (i % j)) := by simp [binD, h]
theorem div_int (i j : Int) (h : 0 < j) (h2 : j < 1073741824) : binD .FloorDiv (.int i) (.int j) m = some (.int (i / j)) := by simp [binD, h, h2]
theorem mul_int (i j : Int) (h : mulOk i j = true) : binD .Mult (.int i) (.int j) m = some (.int (i * j)) := by simp [binD, h]
@[simp] theorem neg_int (i : Int) : negD (.int i) = some (.int (-i)) := (rfl)
@[simp] theorem len_lst (ds : List D) : bltD .len [.lst ds] m = some (.int ds.length) := (rfl)
@[simp] theorem len_tup (ds : List D) : bltD .len [.tup ds] m = some (.int ds.length) := (rfl)
@[simp] theorem len_scr (ds : List D) : bltD .len [.scr ds] m = some (.int ds.length) := (rfl)
@[simp] theorem int_int (i : Int) : bltD .int [.int i] m = some (.int i) := (rfl)
@[simp] theorem abs_int (i : Int) : bltD .abs [.int i] m = some (.int (if i < 0 then -i else i)) := (rfl)
@[simp] theorem tuple_lst (ds : List D) : bltD .tuple [.lst ds] m = some (.tup ds) := (rfl)
@[simp] theorem tuple_tup (ds : List D) : bltD .tuple [.tup ds] m = some (.tup ds) := (rfl)
@[simp] theorem list_lst (ds : List D) : bltD .list [.lst ds] m = some (.lst ds) := (rfl)
@[simp] theorem list_tup (ds : List D) : bltD .list [.tup ds] m = some (.lst ds) := (rfl)
@[simp] theorem isi_non (t : Ty) : isiD t .non = some false := (rfl)
@[simp] theorem isi_bl (t : Ty) (b : Bool) : isiD t (.bl b) = some (t == .bool || t == .int) := (rfl)
@[simp] theorem isi_int (t : Ty) (i : Int) : isiD t (.int i) = some (t == .int) := (rfl)
@[simp] theorem isi_str (t : Ty) (s : Str) : isiD t (.str s) = some (t == .str) := (rfl)
@[simp] theorem isi_tup (t : Ty) (ds : List D) : isiD t (.tup ds) = some (t == .tuple) := (rfl)
@[simp] theorem isi_lst (t : Ty) (ds : List D) : isiD t (.lst ds) = some (t == .list) := (rfl)
@[simp] theorem isi_dct (t : Ty) (ks vs : List D) : isiD t (.dct ks vs) = some (t == .dict) := (rfl)
theorem bools_map (bs : List Bool) : boolsD (bs.map .bl) = some bs := by
  induction bs with
  | nil => rfl
  | cons b r ih => rw [List.map_cons, boolsD, ih]; rfl
theorem all_map (bs : List Bool) : bltD .all [.lst (bs.map .bl)] m = some (.bl (bs.all id)) := by
  show ((lstD m (.lst (bs.map .bl))).bind fun ds => (boolsD ds).map fun bs => D.bl (bs.all id)) = _
  have : lstD m (.lst (bs.map .bl)) = some (bs.map .bl) := rfl
  rw [this, Option.bind_some, bools_map]
  rfl
theorem any_map (bs : List Bool) : bltD .any [.lst (bs.map .bl)] m = some (.bl (bs.any id)) := by
  show ((lstD m (.lst (bs.map .bl))).bind fun ds => (boolsD ds).map fun bs => D.bl (bs.any id)) = _
  have : lstD m (.lst (bs.map .bl)) = some (bs.map .bl) := rfl
  rw [this, Option.bind_some, bools_map]
  rfl
theorem atI_of {α : Type} {xs : List α} {i : Int} {v : α} (h0 : 0 ≤ i) (h : xs[i.toNat]? = some v) : L2.atI xs i = some v := by
  have : ((i.toNat : Nat) : Int) = i := by omega
  rw [← this]
  exact L2.atI_nat h
theorem ix_lst {ds : List D} {i : Int} {d : D} (h0 : 0 ≤ i) (h : ds[i.toNat]? = some d) : ixD (.lst ds) (.int i) m = some d := atI_of h0 h
theorem ix_tup {ds : List D} {i : Int} {d : D} (h0 : 0 ≤ i) (h : ds[i.toNat]? = some d) : ixD (.tup ds) (.int i) m = some d := atI_of h0 h
theorem ix_scr {ds : List D} {i : Int} {d : D} (h0 : 0 ≤ i) (h : ds[i.toNat]? = some d) : ixD (.scr ds) (.int i) m = some d := atI_of h0 h
@[simp] theorem ix_t0 (a : D) (r : List D) : ixD (.tup (a :: r)) (.int 0) m = some a := ix_tup (by omega) rfl
@[simp] theorem ix_t1 (a b : D) (r : List D) : ixD (.tup (a :: b :: r)) (.int 1) m = some b := ix_tup (by omega) rfl
@[simp] theorem ix_t2 (a b c : D) (r : List D) : ixD (.tup (a :: b :: c :: r)) (.int 2) m = some c := ix_tup (by omega) rfl
@[simp] theorem ix_t3 (a b c d : D) (r : List D) : ixD (.tup (a :: b :: c :: d :: r)) (.int 3) m = some d := ix_tup (by omega) rfl
/-! a call -/
@[simp] theorem endR_no (d : D) (m m' : Mem) : endR false d m m' = .ok d m' := (rfl)
@[simp] theorem endR_gc (d : D) (m m' : Mem) : endR true d m m' = gcR d m m' := (rfl)
@[simp] theorem retF_rt (gc : Bool) (d : D) (m' : Mem) : retF gc m (.ok (.rt d) e m') = endR gc d m m' := (rfl)
@[simp] theorem retF_nx (gc : Bool) (m' : Mem) : retF gc m (.ok .nx e m') = endR gc .non m m' := (rfl)
theorem runF_ap (gc : Bool) {np nN : Nat} {as : List D} (h : as.length = np) : runF gc np nN a as m = retF gc m (a (as.map some ++ List.replicate (nN - as.length) none) m) := by
  unfold runF
  rw [if_pos h]
/-! a list in the last cell -/
theorem app_last {m0 m1 : Mem} {i : Nat} {L : List D} {x : D} (he : atV e i = some (.ref m0.length)) (hl : m1.length = m0.length) (hf : fs e (m0 ++ [.lst L]) = .ok [x] (m1 ++ [.lst L])) (hz : L.length < sizeLine) :
    fMth .append (fVar i) fs e (m0 ++ [.lst L]) = .ok .non (m1 ++ [.lst (L ++ [x])]) := by
  have h1 : (m0 ++ [Cell.lst L])[m0.length]? = some (.lst L) := by simp
  have h2 : (m1 ++ [Cell.lst L])[m0.length]? = some (.lst L) := by rw [← hl]; simp
  refine (fMth_at .append (k := .lst) (fo := fVar i) (by rw [fVar_ap, he]; rfl) (by simp [rkD, Cs.res, h1]) rfl hf).trans ?_
  show ofP (appM (.ref m0.length) [x] (m1 ++ [.lst L])) = _
  simp only [appM, cellM, h2, hz, if_true, Option.map_some, ofP_some, setC]
  rw [← hl]
  simp
theorem rangeL_succ (j : Int) (n : Nat) : rangeL j (n + 1) = .int j :: rangeL (j + 1) n := rfl
theorem jRng1_ap {n : Int} (h : fa e m = .ok (.int n) m) (h1 : 0 ≤ n) (h2 : n < 2 ^ 62) : jRng1 fa e m = .ok (rangeL 0 n.toNat, []) m := by
  unfold jRng1
  rw [h]
  have : rngOk n = true := by
    unfold rngOk
    rw [Bool.and_eq_true, decide_eq_true_eq, decide_eq_true_eq]
    omega
  simp only [bnd_ok, this, if_true]
theorem jRng2_ap {i n : Int} (h : fa e m = .ok (.int i) m) (h' : fb e m = .ok (.int n) m) (h0 : -(2 ^ 62) ≤ i) (h2 : i < 2 ^ 62) (h3 : -(2 ^ 62) ≤ n) (h4 : n < 2 ^ 62) : jRng2 fa fb e m = .ok (rangeL i (n - i).toNat, []) m := by
  unfold jRng2
  have e1 : rngOk i = true := by
    unfold rngOk
    rw [Bool.and_eq_true, decide_eq_true_eq, decide_eq_true_eq]
    omega
  have e2 : rngOk n = true := by
    unfold rngOk
    rw [Bool.and_eq_true, decide_eq_true_eq, decide_eq_true_eq]
    omega
  rw [h]
  simp only [bnd_ok, h', e1, e2, Bool.and_self, if_true]
theorem size_big : (1000000 : Nat) < sizeLine := by rw [PySem.sizeLine_eq]; decide
end
theorem okS.thn {r : SRes} {b : FS} {Q : Fl → Sto → Mem → Prop} (h : okS r fun f e m => match f with
    | .nx => okS (b e m) Q
    | f => Q f e m) : okS (sThen r b) Q := by
  obtain ⟨f, e1, m1, rfl, h2⟩ := h
  cases f with
  | nx => exact h2
  | bk => exact ⟨_, _, _, rfl, h2⟩
  | ct => exact ⟨_, _, _, rfl, h2⟩
  | rt d => exact ⟨_, _, _, rfl, h2⟩
theorem okF {gc : Bool} {np nN : Nat} {b : FS} {as : List D} {m : Mem} {Q : D → Mem → Prop} (h : as.length = np) (k : okS (b (as.map some ++ List.replicate (nN - as.length) none) m) fun f _ m' => match f with
    | .nx => okR (endR gc .non m m') Q
    | .rt d => okR (endR gc d m m') Q
    | _ => False) : okR (runF gc np nN b as m) Q := by
  rw [runF_ap gc h]
  obtain ⟨f, e, m', h1, h2⟩ := k
  rw [h1]
  cases f with
  | nx => exact h2
  | rt d => exact h2
  | bk => exact h2.elim
  | ct => exact h2.elim
mutual
theorem low_plain {n : Nat} : ∀ d : D, plain d = true → low n d = true
  | .non, _ => rfl
  | .bl _, _ => rfl
  | .int _, _ => rfl
  | .str _, _ => rfl
  | .tup ds, h => by simp only [low]; exact lowL_plain ds (by simpa only [plain] using h)
  | .lst ds, h => by simp only [low]; exact lowL_plain ds (by simpa only [plain] using h)
  | .dct _ _, h => by simp [plain] at h
  | .ref _, h => by simp [plain] at h
  | .scr _, h => by simp [plain] at h
theorem lowL_plain {n : Nat} : ∀ ds : List D, plainL ds = true → lowL n ds = true
  | [], _ => rfl
  | d :: ds, h => by
    simp only [plainL, Bool.and_eq_true] at h
    simp only [lowL, Bool.and_eq_true]
    exact ⟨low_plain d h.1, lowL_plain ds h.2⟩
end
theorem plainL_ints : ∀ ds : List Int, plainL (ds.map .int) = true
  | [] => rfl
  | d :: ds => by simp only [List.map_cons, plainL, plain, plainL_ints ds, Bool.and_self]
/-- a plain answer, new cells only -/
theorem gcR_plain {d : D} {m x : Mem} (h : plain d = true) : gcR d m (m ++ x) = .ok d m := gcR_low (low_plain d h)
theorem pow_18 (m : Mem) : binD .Pow (.int 10) (.int 18) m = some (.int 1000000000000000000) := by
  have h : (0 : Int) ≤ 18 ∧ (18 : Int) ≤ 1000000 ∧ (10 : Int).natAbs < 2 ^ 64 := by omega
  show (if (0 : Int) ≤ 18 ∧ (18 : Int) ≤ 1000000 ∧ (10 : Int).natAbs < 2 ^ 64 then some (D.int ((10 : Int) ^ (18 : Int).toNat)) else none) = _
  rw [if_pos h]
  rfl
/-! ### loops, the wish left open -/
/-- what a turn is to reach -/
structure Turn (Q : Fl → Sto → Mem → Prop) (P : Sto → Mem → Prop) (Q' : Fl → Sto → Mem → Prop) : Prop where
  nx : ∀ e m, P e m → Q' .nx e m
  ct : ∀ e m, P e m → Q' .ct e m
  bk : ∀ e m, Q .nx e m → Q' .bk e m
  rt : ∀ d e m, Q (.rt d) e m → Q' (.rt d) e m
theorem forT {t : Tgt} {b : FS} {ns : List Nat} {m0 : Mem} {Q : Fl → Sto → Mem → Prop} {ds : List D} {e : Sto} {m : Mem} (I : List D → Sto → Mem → Prop) (h : I ds e m) (hn : ∀ e m, I [] e m → Q .nx e m)
    (hs : ∀ d r e m, I (d :: r) e m → ∃ e', bindT t d e = some e' ∧ ∀ Q', Turn Q (fun e m => same ns m0 m = true ∧ I r e m) Q' → okS (b e' m) Q') : okS (forGo t b ns m0 ds e m) Q :=
  for_inv I hn (fun d r e m hi => by
    obtain ⟨e', h1, h2⟩ := hs d r e m hi
    exact ⟨e', h1, h2 _ ⟨fun _ _ z => z, fun _ _ z => z, fun _ _ z => z, fun _ _ _ z => z⟩⟩) ds e m h
/-- .. over what no cell holds -/
theorem forT0 {t : Tgt} {b : FS} {m0 : Mem} {Q : Fl → Sto → Mem → Prop} {ds : List D} {e : Sto} {m : Mem} (I : List D → Sto → Mem → Prop) (h : I ds e m) (hn : ∀ e m, I [] e m → Q .nx e m)
    (hs : ∀ d r e m, I (d :: r) e m → ∃ e', bindT t d e = some e' ∧ ∀ Q', Turn Q (I r) Q' → okS (b e' m) Q') : okS (forGo t b [] m0 ds e m) Q :=
  forT I h hn fun d r e m hi => by
    obtain ⟨e', h1, h2⟩ := hs d r e m hi
    exact ⟨e', h1, fun Q' q => h2 Q' ⟨fun e m z => q.nx e m ⟨rfl, z⟩, fun e m z => q.ct e m ⟨rfl, z⟩, q.bk, q.rt⟩⟩
theorem whlT {t : FB} {b : FS} {Q : Fl → Sto → Mem → Prop} {e : Sto} {m : Mem} (I : Nat → Sto → Mem → Prop) (n : Nat) (hn : n < 2 ^ 64) (hi : I n e m)
    (hs : ∀ n e m, I n e m → (t e m = .ok false m ∧ Q .nx e m) ∨ (t e m = .ok true m ∧ ∀ Q', Turn Q (fun e m => ∃ n', n' < n ∧ I n' e m) Q' → okS (b e m) Q')) : okS (sWhl t b e m) Q :=
  whl_ok I n hn hi fun n e m h => by
    rcases hs n e m h with ⟨h1, h2⟩ | ⟨h1, h2⟩
    · exact okR.of h1 (by rw [if_neg Bool.false_ne_true]; exact h2)
    · exact okR.of h1 (by rw [if_pos rfl]; exact h2 _ ⟨fun _ _ z => z, fun _ _ z => z, fun _ _ z => z, fun _ _ _ z => z⟩)
theorem sl_of {n : Nat} (h : n ≤ 1000000) : n ≤ sizeLine := Nat.le_of_lt (Nat.lt_of_le_of_lt h size_big)
@[simp] theorem sl_1 : 1 ≤ sizeLine := sl_of (by omega)
@[simp] theorem sl_2 : 2 ≤ sizeLine := sl_of (by omega)
@[simp] theorem sl_3 : 3 ≤ sizeLine := sl_of (by omega)
@[simp] theorem sl_4 : 4 ≤ sizeLine := sl_of (by omega)
@[simp] theorem sl_5 : 5 ≤ sizeLine := sl_of (by omega)
@[simp] theorem sl_6 : 6 ≤ sizeLine := sl_of (by omega)
@[simp] theorem sl_7 : 7 ≤ sizeLine := sl_of (by omega)
@[simp] theorem sl_8 : 8 ≤ sizeLine := sl_of (by omega)
@[simp] theorem sl_9 : 9 ≤ sizeLine := sl_of (by omega)
@[simp] theorem sl_10 : 10 ≤ sizeLine := sl_of (by omega)
@[simp] theorem sl_11 : 11 ≤ sizeLine := sl_of (by omega)
@[simp] theorem sl_12 : 12 ≤ sizeLine := sl_of (by omega)
@[simp] theorem sl_13 : 13 ≤ sizeLine := sl_of (by omega)
@[simp] theorem sl_14 : 14 ≤ sizeLine := sl_of (by omega)
@[simp] theorem sl_15 : 15 ≤ sizeLine := sl_of (by omega)
@[simp] theorem sl_16 : 16 ≤ sizeLine := sl_of (by omega)
@[simp] theorem sl_17 : 17 ≤ sizeLine := sl_of (by omega)
@[simp] theorem sl_18 : 18 ≤ sizeLine := sl_of (by omega)
@[simp] theorem sl_19 : 19 ≤ sizeLine := sl_of (by omega)
@[simp] theorem sl_20 : 20 ≤ sizeLine := sl_of (by omega)
@[simp] theorem sl_21 : 21 ≤ sizeLine := sl_of (by omega)
@[simp] theorem sl_22 : 22 ≤ sizeLine := sl_of (by omega)
@[simp] theorem sl_23 : 23 ≤ sizeLine := sl_of (by omega)
@[simp] theorem sl_24 : 24 ≤ sizeLine := sl_of (by omega)
@[simp] theorem sl_25 : 25 ≤ sizeLine := sl_of (by omega)
@[simp] theorem sl_26 : 26 ≤ sizeLine := sl_of (by omega)
@[simp] theorem sl_27 : 27 ≤ sizeLine := sl_of (by omega)
@[simp] theorem sl_28 : 28 ≤ sizeLine := sl_of (by omega)
@[simp] theorem sl_29 : 29 ≤ sizeLine := sl_of (by omega)
@[simp] theorem sl_30 : 30 ≤ sizeLine := sl_of (by omega)
/-! ### plain data: size, equality -/
mutual
def szD : D → Nat
  | .tup ds => szL ds + 1
  | .lst ds => szL ds + 1
  | _ => 1
def szL : List D → Nat
  | [] => 0
  | d :: ds => szD d + szL ds
end
theorem szD_pos (d : D) : 1 ≤ szD d := by cases d <;> simp [szD]
theorem szL_len : ∀ ds : List D, ds.length ≤ szL ds
  | [] => Nat.le_refl _
  | d :: ds => by
    have := szD_pos d
    have := szL_len ds
    simp only [List.length_cons, szL]
    omega
theorem szL_app : ∀ a b : List D, szL (a ++ b) = szL a + szL b
  | [], b => by simp [szL]
  | d :: a, b => by simp only [List.cons_append, szL, szL_app a b]; omega
mutual
theorem eqD_refl : ∀ d : D, plain d = true → eqD d d = true
  | .non, _ => rfl
  | .bl _, _ => by simp [eqD]
  | .int _, _ => by simp [eqD]
  | .str _, _ => by simp [eqD]
  | .tup ds, h => by simp only [eqD]; exact eqL_refl ds (by simpa only [Cs.plain] using h)
  | .lst ds, h => by simp only [eqD]; exact eqL_refl ds (by simpa only [Cs.plain] using h)
  | .dct _ _, h => by simp [Cs.plain] at h
  | .ref _, h => by simp [Cs.plain] at h
  | .scr _, h => by simp [Cs.plain] at h
theorem eqL_refl : ∀ d : List D, plainL d = true → eqL d d = true
  | [], _ => rfl
  | d :: ds, h => by
    simp only [plainL, Bool.and_eq_true] at h
    simp only [eqL, eqD_refl d h.1, eqL_refl ds h.2, Bool.and_self]
end
theorem plainL_app : ∀ a b : List D, plainL (a ++ b) = (plainL a && plainL b)
  | [], b => by simp [plainL]
  | d :: a, b => by simp only [List.cons_append, plainL, plainL_app a b, Bool.and_assoc]
theorem plainL_mem {ds : List D} {d : D} (h : plainL ds = true) (hd : d ∈ ds) : plain d = true := plain_mem h hd
theorem plainL_of : ∀ {ds : List D}, (∀ d ∈ ds, plain d = true) → plainL ds = true
  | [], _ => rfl
  | d :: ds, h => by
    simp only [plainL, Bool.and_eq_true]
    exact ⟨h d List.mem_cons_self, plainL_of fun e he => h e (List.mem_cons_of_mem _ he)⟩
theorem depL_of {n : Nat} : ∀ {ds : List D}, (∀ d ∈ ds, dep d ≤ n) → depL ds ≤ n
  | [], _ => Nat.zero_le _
  | d :: ds, h => by
    simp only [depL]
    exact Nat.max_le.mpr ⟨h d List.mem_cons_self, depL_of fun e he => h e (List.mem_cons_of_mem _ he)⟩
/-- all of a list pops -/
theorem list_snoc {α : Type} {l : List α} (h : l ≠ []) : ∃ a x, l = a ++ [x] := ⟨l.dropLast, l.getLast h, (List.dropLast_concat_getLast h).symm⟩
section
variable {fa fb fo : FE} {fs : FL} {e : Sto} {m : Mem}
theorem ext_last {m0 m1 : Mem} {i : Nat} {L X : List D} (he : atV e i = some (.ref m0.length)) (hl : m1.length = m0.length) (hf : fs e (m0 ++ [.lst L]) = .ok [.lst X] (m1 ++ [.lst L])) (hz : L.length + X.length ≤ sizeLine) :
    fMth .extend (fVar i) fs e (m0 ++ [.lst L]) = .ok .non (m1 ++ [.lst (L ++ X)]) := by
  have h1 : (m0 ++ [Cell.lst L])[m0.length]? = some (.lst L) := by simp
  have h2 : (m1 ++ [Cell.lst L])[m0.length]? = some (.lst L) := by rw [← hl]; simp
  refine (fMth_at .extend (k := .lst) (fo := fVar i) (by rw [fVar_ap, he]; rfl) (by simp [rkD, Cs.res, h1]) rfl hf).trans ?_
  show ofP (extM (.ref m0.length) [.lst X] (m1 ++ [.lst L])) = _
  have h3 : lstX (m1 ++ [Cell.lst L]) (.lst X) = some X := rfl
  simp only [extM, h3, Option.bind_some, cellM, h2, hz, if_true, Option.map_some, ofP_some, setC]
  rw [← hl]
  simp
theorem pop_last {m0 : Mem} {i : Nat} {L : List D} {x : D} (he : atV e i = some (.ref m0.length)) : fMth .pop (fVar i) fNil e (m0 ++ [.lst (L ++ [x])]) = .ok x (m0 ++ [.lst L]) := by
  have h1 : (m0 ++ [Cell.lst (L ++ [x])])[m0.length]? = some (.lst (L ++ [x])) := by simp
  refine (fMth_at .pop (k := .lst) (fo := fVar i) (by rw [fVar_ap, he]; rfl) (by simp [rkD, Cs.res, h1]) rfl (fNil_ap ..)).trans ?_
  show ofP (popM (.ref m0.length) [] (m0 ++ [.lst (L ++ [x])])) = _
  have h3 : (L ++ [x])[(L ++ [x]).length - 1]? = some x := by simp
  simp only [popM, cellM, h1, h3, Option.map_some, ofP_some, setC]
  simp
theorem fLc_ap {own : List Nat} {t : Tgt} {fi : FI} {ft : FB} {fe : FE} {p : List D × List Nat} {vs : List D} (h : fi e m = .ok p m) (h2 : lcGo t ft fe (wipe e own) p.2 m p.1 m = .ok vs m) (hz : vs.length ≤ sizeLine) : fLc own t fi ft fe e m = .ok (.lst vs) m := by
  unfold fLc
  rw [h]
  simp only [bnd_ok, h2, hz, if_true]
theorem fLc2_ap {own own1 : List Nat} {t t1 : Tgt} {fi fi1 : FI} {ft ft1 : FB} {fe : FE} {p : List D × List Nat} {vs : List D} (h : fi e m = .ok p m) (h2 : lc2Go t ft (lcIn t1 fi1 ft1 fe own1) (wipe e own) p.2 m p.1 m = .ok vs m) (hz : vs.length ≤ sizeLine) : fLc2 own t fi ft own1 t1 fi1 ft1 fe e m = .ok (.lst vs) m := by
  unfold fLc2
  rw [h]
  simp only [bnd_ok, h2, hz, if_true]
theorem lcIn_ap {own1 : List Nat} {t : Tgt} {fi : FI} {ft : FB} {fe : FE} {p : List D × List Nat} {vs : List D} (h : fi e m = .ok p m) (h2 : lcGo t ft fe (wipe e own1) p.2 m p.1 m = .ok vs m) : lcIn t fi ft fe own1 e m = .ok vs m := by
  unfold lcIn
  rw [h]
  exact h2
@[simp] theorem wipe_nil : wipe e [] = e := (rfl)
@[simp] theorem wipe_cons (i : Nat) (r : List Nat) : wipe e (i :: r) = (wipe e r).set i none := (rfl)
theorem iVal_tup {ds : List D} (h : fa e m = .ok (.tup ds) m) : iVal fa e m = .ok (ds, []) m := by
  unfold iVal
  rw [h]
  rfl
theorem iVar_tup {i : Nat} {ds : List D} (h : atV e i = some (.tup ds)) : iVar i e m = .ok (ds, []) m := by
  have : e[i]? = some (some (.tup ds)) := by
    unfold atV at h
    cases q : e[i]? with
    | none => rw [q] at h; cases h
    | some x => rw [q] at h; simp at h; rw [h]
  unfold iVar
  rw [this]
  unfold iVal fVar
  rw [this]
  rfl
theorem iVar_lst {i : Nat} {ds : List D} (h : atV e i = some (.lst ds)) : iVar i e m = .ok (ds, []) m := by
  have : e[i]? = some (some (.lst ds)) := by
    unfold atV at h
    cases q : e[i]? with
    | none => rw [q] at h; cases h
    | some x => rw [q] at h; simp at h; rw [h]
  unfold iVar
  rw [this]
  unfold iVal fVar
  rw [this]
  rfl
theorem iVar_dct {i : Nat} {ks vs : List D} (h : atV e i = some (.dct ks vs)) (hk : ks.all flatK = true) : iVar i e m = .ok (ks, []) m := by
  have : e[i]? = some (some (.dct ks vs)) := by
    unfold atV at h
    cases q : e[i]? with
    | none => rw [q] at h; cases h
    | some x => rw [q] at h; simp at h; rw [h]
  unfold iVar
  rw [this]
  simp only [hk, if_true]
theorem iVal_lst {ds : List D} (h : fa e m = .ok (.lst ds) m) : iVal fa e m = .ok (ds, []) m := by
  unfold iVal
  rw [h]
  rfl
theorem iVal_str {s : Str} (h : fa e m = .ok (.str s) m) : iVal fa e m = .ok (s.cps.toList.map fun c => .str ⟨#[c]⟩, []) m := by
  unfold iVal
  rw [h]
  rfl
theorem cmp_eqD {a b : D} (ha : plain a = true) (hb : plain b = true) (hd : min (dep a) (dep b) ≤ 150) : cmpD .Eq a b m = some (eqD a b) := by
  have h1 : ∀ d : D, plain d = true → Cs.res m d = d := fun d h => by cases d <;> first | rfl | (simp [Cs.plain] at h)
  simp only [cmpD, h1 a ha, h1 b hb, eqOk, ha, hb, hd, Bool.and_self, decide_true, Bool.true_or, if_true]
theorem cmp_neD {a b : D} (ha : plain a = true) (hb : plain b = true) (hd : min (dep a) (dep b) ≤ 150) : cmpD .NotEq a b m = some (!eqD a b) := by
  have h1 : ∀ d : D, plain d = true → Cs.res m d = d := fun d h => by cases d <;> first | rfl | (simp [Cs.plain] at h)
  simp only [cmpD, h1 a ha, h1 b hb, eqOk, ha, hb, hd, Bool.and_self, decide_true, Bool.true_or, if_true]
@[simp] theorem cmp_neB (i j : Bool) : cmpD .NotEq (.bl i) (.bl j) m = some (!(i == j)) := by simp [cmpD, eqOk, Cs.plain, dep, eqD]
end
/-- the items by their places -/
def byIx (ds : List D) (f : D → D) : D → D
  | .int k => match ds[k.toNat]? with
    | some x => f x
    | none => .non
  | _ => .non
theorem range_mem : ∀ {n : Nat} {lo : Int} {d : D}, d ∈ rangeL lo n → ∃ k : Nat, k < n ∧ d = .int (lo + k)
  | 0, _, _, h => by simp [rangeL] at h
  | n + 1, lo, d, h => by
    rw [rangeL_succ] at h
    rcases List.mem_cons.mp h with rfl | h
    · exact ⟨0, by omega, by simp⟩
    · obtain ⟨k, h1, rfl⟩ := range_mem h
      exact ⟨k + 1, by omega, by congr 1; omega⟩
theorem range_byIx (f : D → D) : ∀ (pre ds : List D), (rangeL pre.length ds.length).map (byIx (pre ++ ds) f) = ds.map f
  | _, [] => rfl
  | pre, d :: ds => by
    rw [List.length_cons, rangeL_succ, List.map_cons, List.map_cons]
    have ih := range_byIx f (pre ++ [d]) ds
    rw [List.append_assoc] at ih
    have e : ((pre ++ [d]).length : Int) = (pre.length : Int) + 1 := by simp
    rw [e] at ih
    rw [show [d] ++ ds = d :: ds from rfl] at ih
    rw [ih]
    congr 1
    simp [byIx]
theorem range_by (f : D → D) (ds : List D) : (rangeL 0 ds.length).map (byIx ds f) = ds.map f := range_byIx f [] ds
theorem gcC_low {n : Nat} {mm : Mem} {c c' : Cell} (h : frzC n mm c' = some c') : gcC n mm c c' = some c' := by
  unfold gcC
  split
  · rename_i e
    rw [beqC_eq e]
  · exact h
theorem frzC_dct {n : Nat} {mm : Mem} {ks vs : List D} (h : plainL vs = true) : frzC n mm (.dct ks vs) = some (.dct ks vs) := by
  show (frz1L n (rsC n mm 8) vs).map (fun vs => Cell.dct ks vs) = _
  rw [frzL_low (lowL_plain vs h)]
  rfl
/-- the first cell changed, new cells behind -/
theorem gcR_first {d : D} {c c' : Cell} {r x : Mem} (hd : plain d = true) (hc : ∀ n mm, frzC n mm c' = some c') : gcR d (c :: r) (c' :: (r ++ x)) = .ok d (c' :: r) := by
  unfold gcR
  rw [frz_low (low_plain d hd)]
  simp only
  rw [gcM, gcC_low (hc _ _), Option.bind_some, gcM_app]
  rfl
/-- lo, lo + 1, .. -/
def intsL (lo : Int) : Nat → List Int
  | 0 => []
  | n + 1 => lo :: intsL (lo + 1) n
theorem rangeL_ints : ∀ (n : Nat) (lo : Int), rangeL lo n = (intsL lo n).map .int
  | 0, _ => rfl
  | n + 1, lo => by rw [rangeL_succ, intsL, List.map_cons, rangeL_ints n]
theorem intsL_len : ∀ (n : Nat) (lo : Int), (intsL lo n).length = n
  | 0, _ => rfl
  | n + 1, lo => by rw [intsL, List.length_cons, intsL_len n]
theorem intsL_mem : ∀ {n : Nat} {lo v : Int}, v ∈ intsL lo n ↔ lo ≤ v ∧ v < lo + n
  | 0, lo, v => by simp [intsL]
  | n + 1, lo, v => by
    rw [intsL, List.mem_cons, intsL_mem]
    omega
theorem add_tup {m : Mem} {xs ys : List D} (h : xs.length + ys.length ≤ sizeLine) : binD .Add (.tup xs) (.tup ys) m = some (.tup (xs ++ ys)) := by
  show (if xs.length + ys.length ≤ sizeLine then some (D.tup (xs ++ ys)) else none) = _
  rw [if_pos h]
theorem add_lst {m : Mem} {xs ys : List D} (h : xs.length + ys.length ≤ sizeLine) : binD .Add (.lst xs) (.lst ys) m = some (.lst (xs ++ ys)) := by
  show (if xs.length + ys.length ≤ sizeLine then some (D.lst (xs ++ ys)) else none) = _
  rw [if_pos h]
theorem add_str {m : Mem} {x y : Str} (h : x.length + y.length ≤ sizeLine) : binD .Add (.str x) (.str y) m = some (.str (x ++ y)) := by
  show (if x.length + y.length ≤ sizeLine then some (D.str (x ++ y)) else none) = _
  rw [if_pos h]
theorem snoc_ind {α : Type} {P : List α → Prop} (h0 : P []) (hs : ∀ l a, P l → P (l ++ [a])) (l : List α) : P l := by
  have : ∀ r : List α, P r.reverse := fun r => by
    induction r with
    | nil => exact h0
    | cons a r ih => rw [List.reverse_cons]; exact hs _ a ih
  have := this l.reverse
  rwa [List.reverse_reverse] at this
theorem all_true {m : Mem} {α : Type} (l : List α) : bltD .all [.lst (l.map fun _ => .bl true)] m = some (.bl true) := by
  have e : (l.map fun _ => D.bl true) = (l.map fun _ => true).map .bl := by rw [List.map_map]; rfl
  rw [e, all_map]
  congr 2
  rw [List.all_eq_true]
  intro x hx
  obtain ⟨_, _, rfl⟩ := List.mem_map.mp hx
  rfl
/-! ### texts in tuples -/
theorem plainL_strs : ∀ ns : List Str, plainL (ns.map .str) = true
  | [] => rfl
  | d :: ds => by simp only [List.map_cons, plainL, Cs.plain, plainL_strs ds, Bool.and_self]
theorem depL_strs : ∀ ns : List Str, depL (ns.map .str) = 0
  | [] => rfl
  | d :: ds => by simp only [List.map_cons, depL, dep, depL_strs ds, Nat.max_self]
theorem in_strs {m : Mem} (x : Str) (ns : List Str) : cmpD .In (.str x) (.tup (ns.map .str)) m = some (ns.any (· == x)) := by
  show inD (.str x) (.tup (ns.map .str)) = _
  simp only [inD, Cs.plain, plainL_strs, depL_strs, dep, Nat.min_self, Nat.zero_le, decide_true, Bool.and_self, if_true]
  rw [List.any_map]
  rfl
theorem nm_strsT {n : Str} {ns : List Str} : nmT ((n :: ns).map .str) = true := by
  show (((n :: ns).map D.str).all fun d => match d with | .str _ => true | _ => false) = true
  rw [List.all_eq_true]
  intro d hd
  obtain ⟨_, _, rfl⟩ := List.mem_map.mp hd
  rfl
/-- the place of a text, or None -/
def plD (ns : List Str) (x : Str) : D := match ns.findIdx? (· == x) with
  | some i => .int i
  | none => .non
theorem idx_if {e : Sto} {m : Mem} {i j : Nat} {x : Str} {ns : List Str} (hi : atV e i = some (.str x)) (hj : atV e j = some (.tup (ns.map .str))) :
    fIf (fTr (fCmp .In (fVar i) (fVar j))) (fMth .index (fVar j) (fCons (fVar i) fNil)) (fCon .non) e m = .ok (plD ns x) m := by
  simp only [fIf_ap, fTr_ap, fCmp_ap, fVar_ap, hi, hj, ofO_some, bnd_ok, in_strs, ofB_some, trD_blS]
  cases hf : ns.findIdx? (· == x) with
  | none =>
    have : ns.any (· == x) = false := by
      rw [List.findIdx?_eq_none_iff] at hf
      rw [List.any_eq_false]
      intro y hy
      simpa using hf y hy
    simp [this, plD, hf]
  | some k =>
    have : ns.any (· == x) = true := by
      obtain ⟨y, hy, he⟩ := List.findIdx?_eq_some_iff_findIdx_eq.mp hf |>.1 |> fun h => (⟨ns[k], List.getElem_mem h, by
        have := List.findIdx?_eq_some_iff_getElem.mp hf
        exact this.2.1⟩ : ∃ y, y ∈ ns ∧ (y == x) = true)
      exact List.any_eq_true.mpr ⟨y, hy, he⟩
    simp only [this, if_true]
    cases ns with
    | nil => simp at hf
    | cons n ns =>
      refine (fMth_at .index (k := .tup) (fo := fVar j) (m2 := m) (ds := [.str x]) (by rw [fVar_ap, hj]; rfl) (by simp only [rkD, res_tupS, nm_strsT, if_true]) rfl (by simp [hi])).trans ?_
      show ofP (idxT (.tup ((n :: ns).map .str)) [.str x] m) = _
      simp only [idxT, res_tupS, nm_strsT, if_true, plD, hf]
      rw [List.findIdx?_map]
      have : (n :: ns).findIdx? ((fun y => eqD y (D.str x)) ∘ D.str) = some k := hf
      rw [this]
      rfl
end Cs

/-! The end: tuples of the module. -/
namespace Cs
open PySem L2 PySem.Spec PyProof.Rows
/-- a value of the module: what stands there is this data -/
structure Gv (K : PySem.W.Frag) (d : D) (v : V) (u : Value) : Prop where
  rel : RelV v u
  rep : ∀ F ι, Rep K F ι d v
inductive GvL (K : PySem.W.Frag) : List D → List V → List Value → Prop
  | nil : GvL K [] [] []
  | cons {d : D} {v : V} {u : Value} {ds : List D} {vs : List V} {us : List Value} : Gv K d v u → GvL K ds vs us → GvL K (d :: ds) (v :: vs) (u :: us)
section
variable {K : PySem.W.Frag}
theorem gv_str {z : Str} {t : Tok} : Gv K (.str z) (.str z) (.str z t) := ⟨⟨t, rfl⟩, fun _ _ => Rep.strI⟩
theorem gv_int {z : Int} {t : Tok} : Gv K (.int z) (.int z) (.int z t) := ⟨⟨t, rfl⟩, fun _ _ => Rep.intI⟩
theorem gv_bl {z : Bool} : Gv K (.bl z) (.bl z) (.bool z) := ⟨rfl, fun _ _ => by simp [Rep]⟩
theorem gv_non : Gv K .non .non .none := ⟨rfl, fun _ _ => Rep.nonI⟩
theorem GvL.vals : ∀ {ds : List D} {vs : List V} {us : List Value}, GvL K ds vs us → Vals vs us
  | _, _, _, .nil => .nil
  | _, _, _, .cons h t => .cons h.rel t.vals
theorem GvL.reps : ∀ {ds : List D} {vs : List V} {us : List Value}, GvL K ds vs us → ∀ F ι, Reps K F ι ds vs
  | _, _, _, .nil, _, _ => Reps.nil
  | _, _, _, .cons h t, F, ι => Reps.cons (h.rep F ι) (t.reps F ι)
theorem gv_tup {p : Addr} {o : Obj} {its : Array Value} {n : Nat} {ds : List D} {xs : List V} (l : K.lookup p = some o) (hc : o.cls = .type "tuple") (hd : o.data = .seq its n) (hz : its.size ≤ sizeLine) (hl : GvL K ds xs its.toList) (hk : keyT ds = false) (hn : o.dict = none) : Gv K (.tup ds) (.ref p) (.ref p) :=
  ⟨rfl, fun F ι => by
    simp only [Rep]
    exact ⟨p, xs, rfl, .inr ⟨o, its, n, l, hc, hd, hz, hl.vals⟩, fun z => (nomatch (hk.symm.trans z)), fun _ => .inr ⟨o, l, hc, hn⟩, hl.reps F ι⟩⟩
theorem g_any {h : Heap} {mg : Str → Option Value} {x : Str} {d : D} {v : V} {u : Value} (X : K.In h) (G : h.Ns mainGlobals mg) (a : PySem.W.nsIn K mainGlobals x = some (some u)) (q : Gv K d v u) : ∃ u v, mg x = some u ∧ RelV v u ∧ ∀ F ι, Rep K F ι d v :=
  ⟨_, v, PySem.W.mg_of X G a, q.rel, q.rep⟩
end
end Cs

/-! The end: own exception classes. -/
namespace Cs
open PySem L2 PySem.Spec PyProof.Rows PySem.W
/-- super().__init__ of a class right above whose mro goes on as the other's -/
theorem sup_of {K : Frag} {C T : Addr} {cdC cdT : ClassData} {bm : List Value} {r : Option (Option Value)} {name : Str} (h1 : clsIn K C = some cdC) (e1 : cdC.mro = .ref C :: bm) (h2 : clsIn K T = some cdT) (e2 : cdT.mro = bm) (h3 : findIn K (.ref T) name = r) : ks_superIn K C C name = r := by
  unfold ks_superIn
  rw [h1, Option.bind_some, e1]
  have : ((Value.ref C :: bm).dropWhile (· != .ref C)).drop 1 = bm := by
    simp [List.dropWhile_cons]
  rw [this, ← h3, ← e2]
  unfold findIn
  unfold clsIn at h2
  split at h2
  · rename_i q
    cases h2
    simp only [q]
  · cases h2
theorem exm_of {K : Frag} {t : Value} {C : Addr} {cd : ClassData} {b : Bool} (h1 : subIn K (.ref C) (.type "BaseException") = some true) (h2 : clsIn K C = some cd) (h3 : typeIn K (.ref C) = some (.type "type")) (h4 : subIn K t (.ref C) = some b) : exmOne K t (.ref C) = some b := by
  unfold exmOne kitCls
  simp only [h1, h2, h3, h4, beq_self_eq_true, Option.isSome_some, Bool.and_self, if_true]
/-- the message: a text and the parameter -/
inductive MsgI (p : Str) : XArg → Expr → Expr → Prop
  | txt {z : Str} {j : Nat} {r1 r2 : Pos} (h : z.length ≤ 1000) : MsgI p .txt (.Constant (.str z) j r1) (.Name p r2)
  | num {z : Str} {j : Nat} {r1 r2 r3 r4 : Pos} (h : z.length ≤ 1000) (hl : ∀ i : Int, i.natAbs < 2 ^ 30 → (toString i : Str).length ≤ 1000) : MsgI p .num (.Constant (.str z) j r1) (.Call (.Name "str" r2) [.Name p r3] [] r4)
theorem log2_lt {n : Nat} (h : n < 2 ^ 30) : n.log2 < 1920 := by
  by_cases h0 : n = 0
  · subst h0; decide
  · have := (Nat.log2_lt h0).mpr h
    omega
section
variable {CX : CXT} {P : Program} {w : World} {K : Frag} {mg : Str → Option Value} {base : Heap} {qual p : Str} {scope : Scope} {f cc : Addr} {cd : Value}
theorem msg_ok {k : XArg} {ml mr : Expr} {qm : Pos} (S : ScI scope p) (hpd : okN p = true) (M : MsgI p k ml mr) (hstr : k = .num → mg "str" = none ∧ scope.names.lookup ("str" : Str) = some .globalImplicit) (A : Around) (outer : List Env) (s : Shared) (H : Hp) (E : XK) (a : Addr) (y : V) (hy : ∃ d, AtV d y ∧ xArg k d = true) :
    ∃ t, PE (cxI CX P w K mg base [("self" : Str), p] qual scope f cd cc A outer s H E) (msgI ml mr qm) t ∧ ∀ H1 Q, (∀ v, Q v H1) → t [some (.ref a), some y] H1 Q := by
  obtain ⟨d, av, hx⟩ := hy
  cases M with
  | txt h =>
    unfold xArg at hx
    cases av with
    | int => cases hx
    | str =>
      refine ⟨_, pe_op op_add_str pe_str (pe_var (i := 1) rfl (.inl S.par) (okN_debug hpd) (okN_dict hpd)), fun H1 Q q => ?_⟩
      rename_i z
      refine ⟨_, rfl, _, _, rfl, rfl, ?_, q _⟩
      have hz := of_decide_eq_true hx
      rw [sizeLine_eq]
      omega
  | num h hl =>
    unfold xArg at hx
    cases av with
    | str => cases hx
    | int =>
      obtain ⟨h1, h2⟩ := hstr rfl
      rename_i i
      have hi := of_decide_eq_true hx
      refine ⟨_, pe_op op_add_str pe_str (pe_callTy call_str_int (x := "str") h2 h1 PyProof.Rows.Boot.«str» (pa_cons (pe_var (i := 1) rfl (.inl S.par) (okN_debug hpd) (okN_dict hpd)) pa_nil)), fun H1 Q q => ?_⟩
      refine ⟨_, rfl, i, rfl, log2_lt hi, _, _, rfl, rfl, ?_, q _⟩
      have h3 := hl i hi
      rw [sizeLine_eq]
      omega
/-- a class of the module, as an exception of the program's own -/
theorem xcls_mk {h : Heap} {xc : Str → Option (Str × XArg)} {x : Str} {k : XArg} {ml mr : Expr} {qm q0 q1 q2 q3 q4 q5 q6 q7 q8 : Pos}
    {C T fI cda : Addr} {nm qn name : Str} {N : Addr} {bs bm : List Value} {sn : List Str} {sb : List Value} {ab : Bool} {col : Option Bool} {dd : Option Addr} {k0 k1 k2 k3 k5 : Option Value} {cdT : ClassData}
    {params : Arguments} {dV kV doc pm ct oc cl ccl : Value} {an od cld cdd : Option Addr} {osl csl ccs : Array (Option Value)} {vs : Array Value} {file : Str} {tf : Tok} {ar : Arg}
    (X : K.In h) (G : h.Ns mainGlobals mg) (M : MsgI p k ml mr) (hstr : k = .num → mg "str" = none ∧ scope.names.lookup ("str" : Str) = some .globalImplicit)
    (a : nsIn K mainGlobals x = some (some (.ref C)))
    (c1 : K.lookup C = some (excClassObj nm qn C N bs bm true sn sb ab col dd k0 k1 k2 k3 k5 "ValueError.__new__")) (c2 : PySem.HandSPX.refsVE bm = true)
    (c3 : findIn K (.ref C) "__setattr__" = some (some (.builtin "object.__setattr__"))) (c4 : subIn K (.ref C) (.type "BaseException") = some true) (c5 : typeIn K (.ref C) = some (.type "type")) (c6 : keepIn K (.ref C) = true)
    (c7 : findIn K (.ref C) "__init__" = some (some (.ref fI))) (c8 : typeIn K (.ref fI) = some (.type "function"))
    (c9 : K.lookup fI = some ⟨oc, od, .func (ksFn name qual params (bodyI (msgI ml mr qm) p q0 q1 q2 q3 q4 q5 q6 q7 q8) scope dV kV doc pm an (.ref cda) ct cc), osl⟩)
    (c10 : codeIn K (.ref cda) qual = true) (c11 : K.lookup cc = some ⟨cl, cld, .cell (some (.ref C)), csl⟩) (c12 : findIn K (.ref C) p = some none)
    (bT : bm = .ref T :: bm.drop 1) (cT : clsIn K T = some cdT) (mT : cdT.mro = bm) (fT : findIn K (.ref T) "__init__" = some (some (.builtin "ValueError.__init__")))
    (c14 : nsIn K cStatics "thirdparty.any" = some none) (c15 : subIn K (.ref C) (.type "ValueError") = some true) (c16 : mroIn K C (.ref C) = some true)
    (c17 : K.lookup cda = some ⟨ccl, cdd, .fields vs, ccs⟩) (c18 : vs[2]? = some (.str file tf)) (c19 : ((P.main.file : Str) == file) = true) (c20 : (P.main.scope.names.lookup ("super" : Str)).isSome = false)
    (c21 : ScI scope p) (c22 : (params.posonlyargs ++ params.args).head? = some ar) (c23 : ar.arg = "self") (c24 : nsIn K mainGlobals "super" = some none)
    (c25 : findIn K (.ref C) "__getattribute__" = some (some (.builtin "BaseException.__getattribute__"))) (c26 : findIn K (.ref C) "__getattr__" = some none) (c27 : hasDictIn K C = true)
    (c28 : (q2.endLine == q3.line) = true) (hpd : okN p = true)
    (hb : ∀ us : List Value, us.length = 2 → bindArgs (ksFn name qual params (bodyI (msgI ml mr qm) p q0 q1 q2 q3 q4 q5 q6 q7 q8) scope dV kV doc pm an (.ref cda) ct cc) ⟨us, []⟩ = pure ([("self" : Str), p].zip us))
    (hex : ∀ x' f' k', xc x' = some (f', k') → ∃ C', mg x' = some (.ref C') ∧ exmOne K (.ref C) (.ref C') = some (strEq x x')) : XCls K P w mg base xc x p k where
  ok := by
    have hcl : clsIn K C = some { name := nm, bases := bs, mro := .ref C :: bm, ns := N, qualname := qn, hasDict := true, slotNames := sn, subclasses := sb, abstract := ab, collection := col, hasDel := false } := by
      unfold clsIn
      rw [c1]
    have OX : OexC K C := ⟨⟨_, _, _, _, _, _, _, _, _, _, _, _, _, _, _, c1, c2⟩, c3, c4, c5, c6⟩
    have O : OwnI K P C cda p := ⟨OX, c12, sup_of hcl rfl cT mT fT, c14, c15, c16, ⟨_, _, _, _, _, _, c17, c18, c19⟩, c20⟩
    refine ⟨C, fI, _, mg_of X G a, OX, c7, c8, fn_init (k := 0) c21 O c11 c9 c10 c22 c23 (mg_none_of X G c24) (fun A outer s H E a y hy => msg_ok c21 hpd M hstr A outer s H E a y hy) c28 (okN_debug hpd) (okN_dict hpd), .all hb, ⟨c25, c26, c4, c27⟩, c12, hex⟩
end
/-- a look through the table of the classes -/
theorem xc_each {P : Str → Str → XArg → Prop} {l : List (Str × (Str × XArg))} (h : ∀ q ∈ l, P q.1 q.2.1 q.2.2) : ∀ x f k, lkp x l = some (f, k) → P x f k := fun x f k e => h _ (lkp_mem e)
theorem hex_mk {K : Frag} {h : Heap} {mg : Str → Option Value} {x x' : Str} {C C' : Addr} {cd : ClassData} {b : Bool} (X : K.In h) (G : h.Ns mainGlobals mg) (a : nsIn K mainGlobals x' = some (some (.ref C'))) (h1 : subIn K (.ref C') (.type "BaseException") = some true) (h2 : clsIn K C' = some cd) (h3 : typeIn K (.ref C') = some (.type "type")) (h4 : subIn K (.ref C) (.ref C') = some b) (hb : b = strEq x x') :
    ∃ C', mg x' = some (.ref C') ∧ exmOne K (.ref C) (.ref C') = some (strEq x x') := ⟨C', mg_of X G a, hb ▸ exm_of h1 h2 h3 h4⟩
theorem free_only {l : List (Str × NameKind)} (h : l.all (fun q => decide (q.2 = .free → q.1 = "__class__")) = true) : ∀ x, l.lookup x = some .free → x = ("__class__" : Str) := fun x e => by
  have := List.all_eq_true.mp h _ (PySem.mem_of_lookup e)
  exact of_decide_eq_true this rfl
end Cs

/-! Defs that many laws share: their texts in short. -/
namespace Com
open PySem Cs
def b_names_of : FS :=
  (sRet (fBlt .tuple (fCons (fLc [1] (.name 1) (iVar 0) tYes (fIx (fVar 1) (fCon (.int 0)))) fNil)))
def b_place_of (g_names_of : FF) : FS :=
  (sSeq (sSet 2 (fApp g_names_of (fCons (fVar 0) fNil))) (sRet (fIf (fTr (fCmp .In (fVar 1) (fVar 2))) (fMth .index (fVar 2) (fCons (fVar 1) fNil)) (fCon .non))))
def b_worth (g_place_of g_worth : FF) : FS :=
  (sSeq (sSet 4 (fIx (fVar 3) (fCon (.int 0)))) (sSeq (sIf (fTr (fCmp .Eq (fVar 4) (fCon (.str "number")))) (sRet (fIx (fVar 3) (fCon (.int 1)))) sNx) (sSeq (sIf (fTr (fCmp .In (fVar 4) (fTup (fCons (fCon (.str "name")) (fCons (fCon (.str "old")) fNil))))) (sRet (fIx (fIf (fTr (fCmp .Eq (fVar 4) (fCon (.str "name")))) (fVar 1) (fVar 2)) (fApp g_place_of (fCons (fVar 0) (fCons (fIx (fVar 3) (fCon (.int 1))) fNil))))) sNx) (sSeq (sPar [5, 6] (fCons (fApp g_worth (fCons (fVar 0) (fCons (fVar 1) (fCons (fVar 2) (fCons (fIx (fVar 3) (fCon (.int 2))) fNil))))) (fCons (fApp g_worth (fCons (fVar 0) (fCons (fVar 1) (fCons (fVar 2) (fCons (fIx (fVar 3) (fCon (.int 3))) fNil))))) fNil))) (sSeq (sIf (fTr (fCmp .In (fIx (fVar 3) (fCon (.int 1))) (fTup (fCons (fCon (.str "min")) (fCons (fCon (.str "max")) fNil))))) (sRet (fIf (fTr (fCmp .Eq (fIx (fVar 3) (fCon (.int 1))) (fCon (.str "min")))) (fBlt .min (fCons (fVar 5) (fCons (fVar 6) fNil))) (fBlt .max (fCons (fVar 5) (fCons (fVar 6) fNil))))) sNx) (sSeq (sIf (fTr (fCmp .Eq (fIx (fVar 3) (fCon (.int 1))) (fCon (.str "*")))) (sRet (fBin .Mult (fVar 5) (fVar 6))) sNx) (sRet (fIf (fTr (fCmp .Eq (fIx (fVar 3) (fCon (.int 1))) (fCon (.str "+")))) (fBin .Add (fVar 5) (fVar 6)) (fBin .Sub (fVar 5) (fVar 6))))))))))
def b_holds (g_holds g_worth : FF) : FS :=
  (sSeq (sSet 4 (fIx (fVar 3) (fCon (.int 0)))) (sSeq (sIf (fTr (fCmp .Eq (fVar 4) (fCon (.str "truth")))) (sRet (fIx (fVar 3) (fCon (.int 1)))) sNx) (sSeq (sIf (fTr (fCmp .Eq (fVar 4) (fCon (.str "not")))) (sRet (fNotV (fApp g_holds (fCons (fVar 0) (fCons (fVar 1) (fCons (fVar 2) (fCons (fIx (fVar 3) (fCon (.int 1))) fNil))))))) sNx) (sSeq (sIf (fTr (fCmp .In (fVar 4) (fCon (.tup [.str "and", .str "or"])))) (sSeq (sSet 5 (fApp g_holds (fCons (fVar 0) (fCons (fVar 1) (fCons (fVar 2) (fCons (fIx (fVar 3) (fCon (.int 1))) fNil)))))) (sRet (fIf (fTr (fCmp .Eq (fVar 5) (fCmp .Eq (fVar 4) (fCon (.str "and"))))) (fApp g_holds (fCons (fVar 0) (fCons (fVar 1) (fCons (fVar 2) (fCons (fIx (fVar 3) (fCon (.int 2))) fNil))))) (fVar 5)))) sNx) (sSeq (sPar [5, 6] (fCons (fApp g_worth (fCons (fVar 0) (fCons (fVar 1) (fCons (fVar 2) (fCons (fIx (fVar 3) (fCon (.int 1))) fNil))))) (fCons (fApp g_worth (fCons (fVar 0) (fCons (fVar 1) (fCons (fVar 2) (fCons (fIx (fVar 3) (fCon (.int 2))) fNil))))) fNil))) (sRet (fIf (fTr (fCmp .Eq (fVar 4) (fCon (.str "same")))) (fCmp .Eq (fVar 5) (fVar 6)) (fCmp .Lt (fVar 5) (fVar 6)))))))))
def b__law_draws : FS :=
  (sSeq (sSet 2 (fNew (fLst fNil))) (sSeq (sSet 3 (fCon (.int 7))) (sSeq (sFor (.name 4) (jRng1 (fBlt .len (fCons (fVar 0) fNil))) (sSeq (sSet 5 (fBlt .abs (fCons (fBlt .int (fCons (fIx (fVar 0) (fVar 4)) fNil)) fNil))) (sSeq (sSet 3 (fBin .Mod (fBlt .int (fCons (fBin .Add (fBin .Add (fBin .Mult (fVar 3) (fCon (.int 48271))) (fBin .Mod (fVar 5) (fCon (.int 1000003)))) (fVar 4)) fNil)) (fCon (.int 65537)))) (sSeq (sSet 6 (fCon (.int 0))) (sSeq (sIf (fTr (fCmp .GtE (fVar 5) (fBin .Pow (fCon (.int 10)) (fCon (.int 18))))) (sSet 6 (fVar 5)) (sSeq (sDrop (fMth .append (fVar 2) (fCons (fBin .Mod (fBlt .int (fCons (fVar 5) fNil)) (fCon (.int 997))) fNil))) (sDrop (fMth .append (fVar 2) (fCons (fBin .Mod (fBin .Mod (fBlt .int (fCons (fBin .Add (fBin .Mult (fVar 3) (fCon (.int 69621))) (fCon (.int 5))) fNil)) (fCon (.int 65521))) (fCon (.int 997))) fNil))))) (sFor (.name 7) (jRng1 (fCon (.int 60))) (sIf (fTr (fCmp .Gt (fVar 6) (fCon (.int 0)))) (sSeq (sDrop (fMth .append (fVar 2) (fCons (fBin .Mod (fBlt .int (fCons (fVar 6) fNil)) (fCon (.int 997))) fNil))) (sSet 6 (fBin .FloorDiv (fVar 6) (fCon (.int 997))))) sNx))))))) (sSeq (sFor (.name 4) (jRng1 (fVar 1)) (sSeq (sSet 3 (fBin .Mod (fBlt .int (fCons (fBin .Add (fBin .Add (fBin .Mult (fVar 3) (fCon (.int 16807))) (fVar 4)) (fCon (.int 1))) fNil)) (fCon (.int 65537)))) (sDrop (fMth .append (fVar 2) (fCons (fBin .Mod (fBlt .int (fCons (fVar 3) fNil)) (fCon (.int 997))) fNil))))) (sRet (fSl (fVar 2) none (some (fVar 1))))))))
def b__law_next : FS :=
  (sSeq (sAugP .Add (fVar 0) (fCon (.str "at")) (fCon (.int 1))) (sSeq (sIf (fTr (fCmp .Gt (fIx (fVar 0) (fCon (.str "at"))) (fBlt .len (fCons (fIx (fVar 0) (fCon (.str "draws"))) fNil)))) (sRet (fCon (.int 0))) sNx) (sRet (fBin .Mod (fBlt .int (fCons (fIx (fIx (fVar 0) (fCon (.str "draws"))) (fBin .Sub (fIx (fVar 0) (fCon (.str "at"))) (fCon (.int 1)))) fNil)) (fVar 1)))))
def b__law_pick (g__law_next : FF) : FS :=
  (sRet (fIx (fVar 1) (fApp g__law_next (fCons (fVar 0) (fCons (fBlt .len (fCons (fVar 1) fNil)) fNil)))))
def b__law_says : FS :=
  (sRet (fAndV (fIsi .bool (fVar 0)) (fCmp .Eq (fVar 0) (fVar 1))))
def b__law_same : FS :=
  (sSeq (sSet 2 (fNew (fLst (fCons (fTup (fCons (fVar 0) (fCons (fVar 1) fNil))) fNil)))) (sSeq (sWhl (fTr (fCmp .NotEq (fVar 2) (fLst fNil))) (sSeq (sAsg (.tup [.name 3, .name 4]) (fMth .pop (fVar 2) fNil)) (sIf (fTr (fIsi .dict (fVar 4))) (sSeq (sIf (tOr (tNot (fTr (fIsi .dict (fVar 3)))) (tOr (fTr (fCmp .NotEq (fBlt .len (fCons (fVar 3) fNil)) (fBlt .len (fCons (fVar 4) fNil)))) (fTr (fCmp .NotEq (fLc [5] (.name 5) (iVar 4) (fTr (fCmp .NotIn (fVar 5) (fVar 3))) (fVar 5)) (fLst fNil))))) (sRet (fCon (.bl false))) sNx) (sDrop (fMth .extend (fVar 2) (fCons (fLc [5] (.name 5) (iVar 4) tYes (fTup (fCons (fIx (fVar 3) (fVar 5)) (fCons (fIx (fVar 4) (fVar 5)) fNil)))) fNil)))) (sIf (fTr (fIsi .tuple (fVar 4))) (sSeq (sIf (tOr (tNot (fTr (fIsi .tuple (fVar 3)))) (fTr (fCmp .NotEq (fBlt .len (fCons (fVar 3) fNil)) (fBlt .len (fCons (fVar 4) fNil))))) (sRet (fCon (.bl false))) sNx) (sDrop (fMth .extend (fVar 2) (fCons (fLc [6] (.name 6) (jRng1 (fBlt .len (fCons (fVar 4) fNil))) tYes (fTup (fCons (fIx (fVar 3) (fVar 6)) (fCons (fIx (fVar 4) (fVar 6)) fNil)))) fNil)))) (sIf (tOr (fTr (fCmp .NotEq (fIsi .bool (fVar 3)) (fIsi .bool (fVar 4)))) (tOr (fTr (fCmp .NotEq (fIsi .int (fVar 3)) (fIsi .int (fVar 4)))) (tOr (fTr (fCmp .NotEq (fIsi .str (fVar 3)) (fIsi .str (fVar 4)))) (fTr (fCmp .NotEq (fVar 3) (fVar 4)))))) (sRet (fCon (.bl false))) sNx))))) (sRet (fCon (.bl true)))))
def b__law_frame (g__law_next : FF) : FS :=
  (sSeq (sSet 1 (fIx (fTup (fCons (fCon (.int 0)) (fCons (fCon (.int 0)) (fCons (fNeg (fCon (.int 1))) fNil)))) (fApp g__law_next (fCons (fVar 0) (fCons (fCon (.int 3)) fNil))))) (sSeq (sSet 2 (fNew (fLst (fCons (fTup (fCons (fCon (.str "x")) (fCons (fVar 1) (fCons (fBin .Add (fBin .Add (fVar 1) (fCon (.int 1))) (fApp g__law_next (fCons (fVar 0) (fCons (fCon (.int 4)) fNil)))) fNil)))) fNil)))) (sSeq (sIf (fTr (fCmp .Gt (fApp g__law_next (fCons (fVar 0) (fCons (fCon (.int 3)) fNil))) (fCon (.int 0)))) (sDrop (fMth .append (fVar 2) (fCons (fTup (fCons (fCon (.str "y")) (fCons (fCon (.int 0)) (fCons (fBin .Add (fCon (.int 1)) (fApp g__law_next (fCons (fVar 0) (fCons (fCon (.int 3)) fNil)))) fNil)))) fNil))) sNx) (sRet (fBlt .tuple (fCons (fVar 2) fNil))))))
def b__law_states : FS :=
  (sSeq (sSet 1 (fLst (fCons (fTup fNil) fNil))) (sSeq (sFor (.tup [.name 2, .name 3, .name 4]) (iVal (fVar 0)) (sSeq (sSet 5 (fLst fNil)) (sSeq (sFor (.name 6) (iVal (fVar 1)) (sSet 5 (fBin .Add (fVar 5) (fLc [7] (.name 7) (jRng2 (fVar 3) (fBin .Add (fVar 4) (fCon (.int 1)))) tYes (fBin .Add (fVar 6) (fTup (fCons (fVar 7) fNil))))))) (sSet 1 (fVar 5))))) (sRet (fVar 1))))
def b__law_expr (g__law_next g__law_pick g__law_expr : FF) : FS :=
  (sSeq (sSet 4 (fApp g__law_next (fCons (fVar 0) (fCons (fCon (.int 5)) fNil)))) (sSeq (sIf (tOr (fTr (fCmp .Eq (fVar 2) (fCon (.int 0)))) (fTr (fCmp .Lt (fVar 4) (fCon (.int 2))))) (sSeq (sSet 5 (fLc [6] (.name 6) (iVar 1) tYes (fIx (fVar 6) (fCon (.int 0))))) (sSeq (sIf (fTr (fCmp .Eq (fApp g__law_next (fCons (fVar 0) (fCons (fCon (.int 3)) fNil))) (fCon (.int 0)))) (sRet (fTup (fCons (fCon (.str "number")) (fCons (fIx (fTup (fCons (fCon (.int 0)) (fCons (fCon (.int 1)) (fCons (fCon (.int 2)) (fCons (fCon (.int 3)) (fCons (fNeg (fCon (.int 1))) fNil)))))) (fApp g__law_next (fCons (fVar 0) (fCons (fCon (.int 5)) fNil)))) fNil)))) sNx) (sRet (fTup (fCons (fIf (tAnd (fTr (fVar 3)) (fTr (fCmp .Eq (fApp g__law_next (fCons (fVar 0) (fCons (fCon (.int 3)) fNil))) (fCon (.int 0))))) (fCon (.str "old")) (fCon (.str "name"))) (fCons (fApp g__law_pick (fCons (fVar 0) (fCons (fVar 5) fNil))) fNil)))))) sNx) (sSeq (sSet 7 (fIx (fTup (fCons (fCon (.str "+")) (fCons (fCon (.str "-")) (fCons (fCon (.str "*")) (fCons (fCon (.str "min")) (fCons (fCon (.str "max")) (fCons (fCon (.str "+")) (fCons (fCon (.str "-")) fNil)))))))) (fApp g__law_next (fCons (fVar 0) (fCons (fCon (.int 7)) fNil))))) (sRet (fTup (fCons (fCon (.str "two")) (fCons (fVar 7) (fCons (fApp g__law_expr (fCons (fVar 0) (fCons (fVar 1) (fCons (fBin .Sub (fVar 2) (fCon (.int 1))) (fCons (fVar 3) fNil))))) (fCons (fApp g__law_expr (fCons (fVar 0) (fCons (fVar 1) (fCons (fBin .Sub (fVar 2) (fCon (.int 1))) (fCons (fVar 3) fNil))))) fNil)))))))))
def b__law_cond (g__law_next g__law_cond g__law_expr : FF) : FS :=
  (sSeq (sSet 4 (fApp g__law_next (fCons (fVar 0) (fCons (fCon (.int 7)) fNil)))) (sSeq (sIf (tAnd (fTr (fCmp .Gt (fVar 2) (fCon (.int 0)))) (fTr (fCmp .Eq (fVar 4) (fCon (.int 0))))) (sRet (fTup (fCons (fCon (.str "not")) (fCons (fApp g__law_cond (fCons (fVar 0) (fCons (fVar 1) (fCons (fBin .Sub (fVar 2) (fCon (.int 1))) (fCons (fVar 3) fNil))))) fNil)))) sNx) (sSeq (sIf (tAnd (fTr (fCmp .Gt (fVar 2) (fCon (.int 0)))) (fTr (fCmp .Lt (fVar 4) (fCon (.int 3))))) (sRet (fTup (fCons (fIx (fTup (fCons (fCon (.str "and")) (fCons (fCon (.str "or")) fNil))) (fBin .Sub (fVar 4) (fCon (.int 1)))) (fCons (fApp g__law_cond (fCons (fVar 0) (fCons (fVar 1) (fCons (fBin .Sub (fVar 2) (fCon (.int 1))) (fCons (fVar 3) fNil))))) (fCons (fApp g__law_cond (fCons (fVar 0) (fCons (fVar 1) (fCons (fBin .Sub (fVar 2) (fCon (.int 1))) (fCons (fVar 3) fNil))))) fNil))))) sNx) (sSeq (sIf (tAnd (fTr (fCmp .Eq (fVar 4) (fCon (.int 3)))) (fTr (fCmp .Eq (fApp g__law_next (fCons (fVar 0) (fCons (fCon (.int 3)) fNil))) (fCon (.int 0))))) (sRet (fTup (fCons (fCon (.str "truth")) (fCons (fCmp .Gt (fApp g__law_next (fCons (fVar 0) (fCons (fCon (.int 3)) fNil))) (fCon (.int 0))) fNil)))) sNx) (sRet (fTup (fCons (fIx (fTup (fCons (fCon (.str "same")) (fCons (fCon (.str "below")) fNil))) (fApp g__law_next (fCons (fVar 0) (fCons (fCon (.int 2)) fNil)))) (fCons (fApp g__law_expr (fCons (fVar 0) (fCons (fVar 1) (fCons (fCon (.int 1)) (fCons (fVar 3) fNil))))) (fCons (fApp g__law_expr (fCons (fVar 0) (fCons (fVar 1) (fCons (fCon (.int 1)) (fCons (fVar 3) fNil))))) fNil)))))))))
def b__law_worth (g__law_worth : FF) : FS :=
  (sSeq (sIf (fTr (fCmp .Eq (fIx (fVar 3) (fCon (.int 0))) (fCon (.str "number")))) (sRet (fIx (fVar 3) (fCon (.int 1)))) sNx) (sSeq (sIf (fTr (fCmp .In (fIx (fVar 3) (fCon (.int 0))) (fTup (fCons (fCon (.str "name")) (fCons (fCon (.str "old")) fNil))))) (sSeq (sSet 4 (fMth .index (fLc [5] (.name 5) (iVar 0) tYes (fIx (fVar 5) (fCon (.int 0)))) (fCons (fIx (fVar 3) (fCon (.int 1))) fNil))) (sRet (fIf (fTr (fCmp .Eq (fIx (fVar 3) (fCon (.int 0))) (fCon (.str "name")))) (fIx (fVar 1) (fVar 4)) (fIx (fVar 2) (fVar 4))))) sNx) (sSeq (sPar [6, 7] (fCons (fApp g__law_worth (fCons (fVar 0) (fCons (fVar 1) (fCons (fVar 2) (fCons (fIx (fVar 3) (fCon (.int 2))) fNil))))) (fCons (fApp g__law_worth (fCons (fVar 0) (fCons (fVar 1) (fCons (fVar 2) (fCons (fIx (fVar 3) (fCon (.int 3))) fNil))))) fNil))) (sSeq (sIf (fTr (fCmp .In (fIx (fVar 3) (fCon (.int 1))) (fTup (fCons (fCon (.str "min")) (fCons (fCon (.str "max")) fNil))))) (sRet (fIf (fTr (fCmp .Eq (fIx (fVar 3) (fCon (.int 1))) (fCon (.str "min")))) (fIf (fTr (fCmp .Lt (fVar 6) (fVar 7))) (fVar 6) (fVar 7)) (fIf (fTr (fCmp .Lt (fVar 6) (fVar 7))) (fVar 7) (fVar 6)))) sNx) (sRet (fIf (fTr (fCmp .Eq (fIx (fVar 3) (fCon (.int 1))) (fCon (.str "+")))) (fBin .Add (fVar 6) (fVar 7)) (fIf (fTr (fCmp .Eq (fIx (fVar 3) (fCon (.int 1))) (fCon (.str "-")))) (fBin .Sub (fVar 6) (fVar 7)) (fBin .Mult (fVar 6) (fVar 7)))))))))
def b__law_holds (g__law_holds g__law_worth : FF) : FS :=
  (sSeq (sIf (fTr (fCmp .Eq (fIx (fVar 3) (fCon (.int 0))) (fCon (.str "truth")))) (sRet (fIx (fVar 3) (fCon (.int 1)))) sNx) (sSeq (sIf (fTr (fCmp .Eq (fIx (fVar 3) (fCon (.int 0))) (fCon (.str "not")))) (sRet (fNotV (fApp g__law_holds (fCons (fVar 0) (fCons (fVar 1) (fCons (fVar 2) (fCons (fIx (fVar 3) (fCon (.int 1))) fNil))))))) sNx) (sSeq (sIf (fTr (fCmp .In (fIx (fVar 3) (fCon (.int 0))) (fTup (fCons (fCon (.str "and")) (fCons (fCon (.str "or")) fNil))))) (sSeq (sSet 4 (fTup (fCons (fApp g__law_holds (fCons (fVar 0) (fCons (fVar 1) (fCons (fVar 2) (fCons (fIx (fVar 3) (fCon (.int 1))) fNil))))) (fCons (fApp g__law_holds (fCons (fVar 0) (fCons (fVar 1) (fCons (fVar 2) (fCons (fIx (fVar 3) (fCon (.int 2))) fNil))))) fNil)))) (sRet (fIf (fTr (fCmp .Eq (fIx (fVar 3) (fCon (.int 0))) (fCon (.str "and")))) (fCmp .Eq (fVar 4) (fTup (fCons (fCon (.bl true)) (fCons (fCon (.bl true)) fNil)))) (fCmp .NotEq (fVar 4) (fTup (fCons (fCon (.bl false)) (fCons (fCon (.bl false)) fNil))))))) sNx) (sSeq (sPar [5, 6] (fCons (fApp g__law_worth (fCons (fVar 0) (fCons (fVar 1) (fCons (fVar 2) (fCons (fIx (fVar 3) (fCon (.int 1))) fNil))))) (fCons (fApp g__law_worth (fCons (fVar 0) (fCons (fVar 1) (fCons (fVar 2) (fCons (fIx (fVar 3) (fCon (.int 2))) fNil))))) fNil))) (sRet (fIf (fTr (fCmp .Eq (fIx (fVar 3) (fCon (.int 0))) (fCon (.str "same")))) (fCmp .Eq (fVar 5) (fVar 6)) (fCmp .Lt (fVar 5) (fVar 6))))))))
end Com

/-! Draws, what is drawn; the same is the same. -/
namespace Com
open PySem Cs
def c__law_next : FF := runF false 2 2 b__law_next
def c__law_pick : FF := runF false 2 2 (b__law_pick c__law_next)
def c__law_draws : FF := runF true 2 8 b__law_draws
def c__law_says : FF := runF false 2 2 b__law_says
def c__law_same : FF := runF true 2 7 b__law_same
def c_names_of : FF := runF false 1 2 b_names_of
def c_place_of : FF := runF false 2 3 (b_place_of c_names_of)
def c__law_states : FF := runF false 1 8 b__law_states
def c__law_frame : FF := runF true 1 3 (b__law_frame c__law_next)
/-- w: the draws, the place -/
def wc (ds : List Int) (k : Int) : Cell := .dct [.str "draws", .str "at"] [.lst (ds.map .int), .int k]
theorem w_at (ds : List Int) (k : Int) (r : Mem) : ixD (.ref 0) (.str "at") (wc ds k :: r) = some (.int k) := by rfl
theorem w_at' (ds : List Int) (k : Int) (r : Mem) : dctAt (wc ds k :: r) (.ref 0) (.str "at") = some (.int k) := by rfl
theorem w_draws (ds : List Int) (k : Int) (r : Mem) : ixD (.ref 0) (.str "draws") (wc ds k :: r) = some (.lst (ds.map .int)) := by rfl
theorem w_put (ds : List Int) (k j : Int) (r : Mem) : putD (.ref 0) (.str "at") (.int j) (wc ds k :: r) = some (wc ds j :: r) := by rfl
theorem next_ok (ds : List Int) (k n : Int) (hk : 0 ≤ k) (hn : 0 < n) (r : Mem) : okR (c__law_next [.ref 0, .int n] (wc ds k :: r)) fun d m => ∃ v : Int, d = .int v ∧ 0 ≤ v ∧ v < n ∧ m = wc ds (k + 1) :: r := by
  unfold c__law_next
  rw [runF_ap (np := 2) _ rfl]
  unfold b__law_next
  have h0 : (0 : Int) ≤ k := hk
  simp [w_at', w_at, w_put, w_draws, mod_int _ n hn]
  by_cases h : (ds.length : Int) < k + 1
  · simp [h]
    exact okR.mk ⟨0, rfl, by omega, hn, rfl⟩
  · obtain ⟨v, hv⟩ : ∃ v, ds[k.toNat]? = some v := ⟨ds[k.toNat]'(by omega), List.getElem?_eq_getElem _⟩
    have e : ixD (.lst (ds.map .int)) (.int k) (wc ds (k + 1) :: r) = some (.int v) := ix_lst hk (by rw [List.getElem?_map, hv]; rfl)
    have ek : k + 1 - 1 = k := by omega
    simp [h, w_at, w_draws, mod_int _ n hn, ek, e]
    exact okR.mk ⟨v % n, rfl, Int.emod_nonneg _ (by omega), Int.emod_lt_of_pos _ hn, rfl⟩
theorem pick_ok (ds : List Int) (k : Int) (hk : 0 ≤ k) (rows : List D) (hr : rows ≠ []) (r : Mem) : okR (c__law_pick [.ref 0, .lst rows] (wc ds k :: r)) fun d m => d ∈ rows ∧ m = wc ds (k + 1) :: r := by
  unfold c__law_pick
  rw [runF_ap (np := 2) _ rfl]
  unfold b__law_pick
  have hl : 0 < rows.length := List.length_pos_iff.mpr hr
  obtain ⟨d, m, e, v, rfl, h0, h1, rfl⟩ := next_ok ds k rows.length hk (by omega) r
  obtain ⟨x, hx⟩ : ∃ x, rows[v.toNat]? = some x := ⟨rows[v.toNat]'(by omega), List.getElem?_eq_getElem _⟩
  simp [e, ix_lst h0 hx]
  exact okR.mk ⟨List.mem_of_getElem? hx, rfl⟩
/-! ### the draws -/
theorem mulOk_small {i j : Int} (h1 : i.natAbs < 2 ^ 60) (h2 : j.natAbs < 2 ^ 60) : mulOk i j = true := by
  unfold mulOk
  rw [decide_eq_true_eq]
  have a : i.natAbs.log2 < 60 := by
    by_cases q : i.natAbs = 0
    · rw [q]; decide
    · exact (Nat.log2_lt q).mpr h1
  have b : j.natAbs.log2 < 60 := by
    by_cases q : j.natAbs = 0
    · rw [q]; decide
    · exact (Nat.log2_lt q).mpr h2
  omega
theorem draws_ok (many : Nat) (hmany : many ≤ 100000) (ns : List Int) (h : ns.length ≤ 63) (m : Mem) : okR (c__law_draws [.scr (ns.map .int), .int many] m) fun d m' => m' = m ∧ ∃ ds : List Int, d = .lst (ds.map .int) := by
  unfold c__law_draws
  refine okF rfl ?_
  unfold b__law_draws
  have hz := size_big
  have e1 : jRng1 (fBlt .len (fCons (fVar 0) fNil)) [some (.scr (ns.map .int)), some (.int many), some (.ref m.length), some (.int 7), none, none, none, none] (m ++ [.lst []]) = .ok (rangeL 0 ns.length, []) (m ++ [.lst []]) :=
    (jRng1_ap (n := ns.length) (by simp) (by omega) (by omega)).trans (by simp)
  simp [e1]
  refine okS.thn ?_
  refine forT0 (fun rem e m' => ∃ (ds : List Int) (mixed : Int) (j : Nat) (x4 x5 x6 x7 : Option D), e = [some (.scr (ns.map .int)), some (.int many), some (.ref m.length), some (.int mixed), x4, x5, x6, x7] ∧ m' = m ++ [.lst (ds.map .int)] ∧ 0 ≤ mixed ∧ mixed < 65537 ∧ j ≤ ns.length ∧ rem = rangeL j (ns.length - j) ∧ ds.length ≤ 62 * j)
    ⟨[], 7, 0, none, none, none, none, rfl, rfl, by omega, by omega, by omega, rfl, by simp⟩ ?_ ?_
  · rintro e m' ⟨ds, mixed, j, x4, x5, x6, x7, rfl, rfl, h1, h2, h3, h4, h5⟩
    show okS _ _
    have e2 : jRng1 (fVar 1) [some (.scr (ns.map .int)), some (.int many), some (.ref m.length), some (.int mixed), x4, x5, x6, x7] (m ++ [.lst (ds.map .int)]) = .ok (rangeL 0 many, []) (m ++ [.lst (ds.map .int)]) := jRng1_ap (n := many) (by simp) (by omega) (by omega)
    simp only [sSeq_ap, sFor_ap, e2, sBd_ok]
    refine okS.thn ?_
    refine forT0 (fun rem e m' => ∃ (ds : List Int) (mixed : Int) (q : Nat) (x4 : Option D), e = [some (.scr (ns.map .int)), some (.int many), some (.ref m.length), some (.int mixed), x4, x5, x6, x7] ∧ m' = m ++ [.lst (ds.map .int)] ∧ 0 ≤ mixed ∧ mixed < 65537 ∧ rem = rangeL q rem.length ∧ rem.length + q = many ∧ ds.length ≤ 4000 + q)
      ⟨ds, mixed, 0, x4, rfl, rfl, h1, h2, by rw [rangeL_len]; rfl, by simp [rangeL_len], by omega⟩ ?_ ?_
    · rintro e m' ⟨ds, mixed, q, x4, rfl, rfl, h1, h2, _, h3, h4⟩
      show okS _ _
      have e3 : slD (.ref m.length) none (some (many : Int)) (m ++ [Cell.lst (ds.map .int)]) = some (.lst (cutD (ds.map .int) none (some (many : Int)))) := by
        simp [slD, Cs.res]
      simp [e3]
      refine okS.mk ?_
      show okR (gcR _ _ _) _
      have e4 : cutD (ds.map D.int) none (some (many : Int)) = ((ds.drop (HT.sIx ds.length 0 none)).take (HT.sIx ds.length ds.length (some (many : Int)) - HT.sIx ds.length 0 none)).map .int := by
        unfold cutD
        rw [List.length_map, List.map_take, List.map_drop]
      rw [e4, gcR_plain (by simp only [Cs.plain]; exact plainL_ints _)]
      exact okR.mk ⟨rfl, _, rfl⟩
    · rintro d r e m' ⟨ds, mixed, k, x4, rfl, rfl, h1, h2, hk, h3, h4⟩
      simp only [List.length_cons] at hk h3
      rw [rangeL_succ] at hk
      obtain ⟨rfl, hk'⟩ := List.cons.inj hk
      refine ⟨_, rfl, fun Q2 t2 => ?_⟩
      have e16 : ∀ m, binD .Mult (.int mixed) (.int 16807) m = some (.int (mixed * 16807)) := fun m => mul_int _ _ (mulOk_small (by omega) (by omega))
      generalize hm : (mixed * 16807 + (k : Int) + 1) % 65537 = mixed'
      have hm0 : 0 ≤ mixed' := by rw [← hm]; exact Int.emod_nonneg _ (by omega)
      have hm1 : mixed' < 65537 := by rw [← hm]; exact Int.emod_lt_of_pos _ (by omega)
      have ea := app_last (e := [some (.scr (ns.map .int)), some (.int many), some (.ref m.length), some (.int mixed'), some (.int k), x5, x6, x7]) (m0 := m) (m1 := m) (i := 2) (L := ds.map .int) (x := .int (mixed' % 997)) (fs := fCons (fBin .Mod (fBlt .int (fCons (fVar 3) fNil)) (fCon (.int 997))) fNil) (by simp) rfl (by simp [mod_int]) (by rw [List.length_map]; omega)
      simp [e16, mod_int, hm, ea]
      refine okS.mk (t2.nx _ _ ⟨ds ++ [mixed' % 997], mixed', k + 1, some (.int k), rfl, by simp, hm0, hm1, hk', by omega, by simp; omega⟩)
  · rintro d r e m' ⟨ds, mixed, j, x4, x5, x6, x7, rfl, rfl, h1, h2, h3, h4, h5⟩
    obtain ⟨n, hn⟩ : ∃ n, ns.length - j = n + 1 := by
      cases q : ns.length - j with
      | zero => rw [q] at h4; cases h4
      | succ n => exact ⟨n, rfl⟩
    rw [hn, rangeL_succ] at h4
    cases h4
    obtain ⟨z, hz1⟩ : ∃ z, ns[j]? = some z := ⟨ns[j]'(by omega), List.getElem?_eq_getElem _⟩
    have ez : ∀ m, ixD (.scr (ns.map .int)) (.int j) m = some (.int z) := fun m => ix_scr (by omega) (by rw [List.getElem?_map]; simp [hz1])
    refine ⟨_, rfl, fun Q' tn => ?_⟩
    have e48 : ∀ m, binD .Mult (.int mixed) (.int 48271) m = some (.int (mixed * 48271)) := fun m => mul_int _ _ (mulOk_small (by omega) (by omega))
    generalize hc : (if z < 0 then -z else z) = cell
    have hc0 : 0 ≤ cell := by
      rw [← hc]
      split <;> omega
    generalize hm : (mixed * 48271 + cell % 1000003 + (j : Int)) % 65537 = mixed'
    have hm0 : 0 ≤ mixed' := by rw [← hm]; exact Int.emod_nonneg _ (by omega)
    have hm1 : mixed' < 65537 := by rw [← hm]; exact Int.emod_lt_of_pos _ (by omega)
    have e69 : ∀ m, binD .Mult (.int mixed') (.int 69621) m = some (.int (mixed' * 69621)) := fun m => mul_int _ _ (mulOk_small (by omega) (by omega))
    simp [ez, e48, mod_int, hc, hm, e69, pow_18]
    -- the inner loop, from where it stands
    have inner : ∀ (L : List Int) (rest : Int) (x : Option D), 0 ≤ rest → L.length ≤ 62 * j + 2 → okS (sFor (.name 7) (jRng1 (fCon (.int 60))) (sIf (fTr (fCmp .Gt (fVar 6) (fCon (.int 0)))) (sSeq (sDrop (fMth .append (fVar 2) (fCons (fBin .Mod (fBlt .int (fCons (fVar 6) fNil)) (fCon (.int 997))) fNil))) (sSet 6 (fBin .FloorDiv (fVar 6) (fCon (.int 997))))) sNx)
        [some (.scr (ns.map .int)), some (.int many), some (.ref m.length), some (.int mixed'), some (.int j), some (.int cell), some (.int rest), x] (m ++ [.lst (L.map .int)])) Q' := by
      intro L rest x hr hL
      have e2 : jRng1 (fCon (.int 60)) [some (.scr (ns.map .int)), some (.int many), some (.ref m.length), some (.int mixed'), some (.int j), some (.int cell), some (.int rest), x] (m ++ [.lst (L.map .int)]) = .ok (rangeL 0 60, []) (m ++ [.lst (L.map .int)]) := jRng1_ap (n := 60) (by simp) (by omega) (by omega)
      simp [e2]
      refine forT0 (fun rem e m' => ∃ (ds : List Int) (q : Nat) (rest : Int) (x : Option D), e = [some (.scr (ns.map .int)), some (.int many), some (.ref m.length), some (.int mixed'), some (.int j), some (.int cell), some (.int rest), x] ∧ m' = m ++ [.lst (ds.map .int)] ∧ 0 ≤ rest ∧ rem.length + q = 60 ∧ ds.length ≤ 62 * j + 2 + q)
        ⟨L, 0, rest, x, rfl, rfl, hr, by simp [rangeL_len], by omega⟩ ?_ ?_
      · rintro e m' ⟨ds, q, rest, x, rfl, rfl, g1, g2, g3⟩
        simp only [List.length_nil] at g2
        refine tn.nx _ _ ⟨ds, mixed', j + 1, _, _, _, _, rfl, rfl, hm0, hm1, by omega, ?_, by omega⟩
        rw [show ns.length - (j + 1) = n by omega]
        congr 1
      · rintro d r e m' ⟨ds, q, rest, x, rfl, rfl, g1, g2, g3⟩
        refine ⟨_, rfl, fun Q2 t2 => ?_⟩
        simp only [List.length_cons] at g2
        by_cases hp : 0 < rest
        · have ea := app_last (e := [some (.scr (ns.map .int)), some (.int many), some (.ref m.length), some (.int mixed'), some (.int j), some (.int cell), some (.int rest), some d]) (m0 := m) (m1 := m) (i := 2) (L := ds.map .int) (x := .int (rest % 997)) (fs := fCons (fBin .Mod (fBlt .int (fCons (fVar 6) fNil)) (fCon (.int 997))) fNil) (by simp) rfl (by simp [mod_int]) (by rw [List.length_map]; omega)
          simp [hp, ea, div_int]
          exact okS.mk (t2.nx _ _ ⟨ds ++ [rest % 997], q + 1, rest / 997, some d, rfl, by simp, Int.ediv_nonneg g1 (by omega), by omega, by simp; omega⟩)
        · simp [hp]
          exact okS.mk (t2.nx _ _ ⟨ds, q + 1, rest, some d, rfl, rfl, g1, by omega, by omega⟩)
    by_cases hp : (1000000000000000000 : Int) ≤ cell
    · simp only [hp, if_true, sThen_nx]
      exact inner ds cell x7 hc0 (by omega)
    · simp only [hp, if_false]
      have ea := app_last (e := [some (.scr (ns.map .int)), some (.int many), some (.ref m.length), some (.int mixed'), some (.int j), some (.int cell), some (.int 0), x7]) (m0 := m) (m1 := m) (i := 2) (L := ds.map .int) (x := .int (cell % 997)) (fs := fCons (fBin .Mod (fBlt .int (fCons (fVar 5) fNil)) (fCon (.int 997))) fNil) (by simp) rfl (by simp [mod_int]) (by rw [List.length_map]; omega)
      have eb := app_last (e := [some (.scr (ns.map .int)), some (.int many), some (.ref m.length), some (.int mixed'), some (.int j), some (.int cell), some (.int 0), x7]) (m0 := m) (m1 := m) (i := 2) (L := ds.map .int ++ [.int (cell % 997)]) (x := .int ((mixed' * 69621 + 5) % 65521 % 997)) (fs := fCons (fBin .Mod (fBin .Mod (fBlt .int (fCons (fBin .Add (fBin .Mult (fVar 3) (fCon (.int 69621))) (fCon (.int 5))) fNil)) (fCon (.int 65521))) (fCon (.int 997))) fNil) (by simp) rfl (by simp [mod_int, e69]) (by simp; omega)
      simp only [ea, eb, sBd_ok, sThen_nx, sDrop_ap]
      have := inner (ds ++ [cell % 997, (mixed' * 69621 + 5) % 65521 % 997]) 0 x7 (by omega) (by simp; omega)
      simpa using this
/-! ### the same is the same -/
theorem depW : ∀ {xs : List D}, depL (xs.map fun x => .tup [x, x]) ≤ 1 + depL xs
  | [] => Nat.zero_le _
  | x :: xs => by
    have := depW (xs := xs)
    simp only [List.map_cons, depL, dep]
    omega
theorem szW {xs : List D} : xs.length ≤ szL xs := szL_len xs
theorem getW {xs : List D} {k : Nat} {m : Mem} (h : k < xs.length) : ∃ x, ixD (.tup xs) (.int k) m = some x ∧ xs[k]? = some x := ⟨xs[k], ix_tup (by omega) (by simp [h]), List.getElem?_eq_getElem h⟩
theorem rangeW {g : D → D} : ∀ (xs : List D) (j : Nat), (∀ k x, xs[k]? = some x → g (.int ((j + k : Nat) : Int)) = .tup [x, x]) → (rangeL j xs.length).map g = xs.map fun x => .tup [x, x]
  | [], _, _ => rfl
  | x :: xs, j, h => by
    rw [List.length_cons, rangeL_succ, List.map_cons, List.map_cons]
    have h0 := h 0 x rfl
    rw [show ((j + 0 : Nat) : Int) = (j : Int) by omega] at h0
    rw [h0]
    congr 1
    have := rangeW (g := g) xs (j + 1) fun k y hy => by
      have := h (k + 1) y (by simpa using hy)
      rw [← this]
      congr 2
      omega
    rw [← this]
    rfl
theorem same_ok (d : D) (hp : plain d = true) (hd : dep d ≤ 100) (hz : szD d ≤ 1000000) (m : Mem) : c__law_same [d, d] m = .ok (.bl true) m := by
  apply okR.eq
  unfold c__law_same
  refine okF rfl ?_
  unfold b__law_same
  have hsz := size_big
  simp
  refine okS.thn ?_
  refine whlT (fun n e m' => ∃ (xs : List D) (x3 x4 x5 x6 : Option D), e = [some d, some d, some (.ref m.length), x3, x4, x5, x6] ∧ m' = m ++ [.lst (xs.map fun x => .tup [x, x])] ∧ plainL xs = true ∧ depL xs ≤ 100 ∧ szL xs ≤ 1000000 ∧ n = szL xs) (szL [d]) (by simp [szL]; omega)
    ⟨[d], none, none, none, none, rfl, rfl, by simp [plainL, hp], by simp [depL]; exact hd, by simp [szL]; exact hz, rfl⟩ ?_
  rintro n e m' ⟨xs, x3, x4, x5, x6, rfl, rfl, g1, g2, g3, rfl⟩
  have pW : plainL (xs.map fun x => D.tup [x, x]) = true := plainL_of fun y hy => by
    obtain ⟨x, hx, rfl⟩ := List.mem_map.mp hy
    simp [Cs.plain, plainL, plainL_mem g1 hx]
  have et : ∀ (e : Sto) (M : Mem), atV e 2 = some (.ref m.length) → M = m ++ [.lst (xs.map fun x => D.tup [x, x])] → fTr (fCmp .NotEq (fVar 2) (fLst fNil)) e M = .ok (!eqL (xs.map fun x => D.tup [x, x]) []) M := by
    intro e M he hM
    subst hM
    have : cmpD .NotEq (.ref m.length) (.lst []) (m ++ [Cell.lst (xs.map fun x => D.tup [x, x])]) = some (!eqL (xs.map fun x => D.tup [x, x]) []) := by
      have hd : min (depL (xs.map fun x => D.tup [x, x]) + 1) 1 ≤ 150 := by omega
      simp [cmpD, Cs.res, eqOk, Cs.plain, pW, dep, depL, hd, eqD, plainL]
    simp [he, this]
  rw [et _ _ (by simp) rfl]
  cases hx : xs with
  | nil =>
    refine .inl ⟨rfl, ?_⟩
    simp
    exact okS.mk (by simp [gcR_plain (d := .bl true) (m := m) (x := [Cell.lst []]) rfl]; exact okR.mk ⟨rfl, rfl⟩)
  | cons x0 xr =>
    refine .inr ⟨rfl, ?_⟩
    rw [← hx]
    obtain ⟨ys, y, rfl⟩ := list_snoc (l := xs) (by rw [hx]; exact fun z => nomatch z)
    intro Q' tn
    have ep := pop_last (m0 := m) (i := 2) (e := [some d, some d, some (.ref m.length), x3, x4, x5, x6]) (L := ys.map fun x => D.tup [x, x]) (x := .tup [y, y]) (by simp)
    have hy : plain y = true := plainL_mem g1 (by simp)
    have hys : plainL ys = true := by
      rw [plainL_app, Bool.and_eq_true] at g1
      exact g1.1
    have hdy : dep y ≤ 100 := Nat.le_trans (dep_le (ds := ys ++ [y]) (by simp)) g2
    have hdys : depL ys ≤ 100 := depL_of fun z hz => Nat.le_trans (dep_le (ds := ys ++ [y]) (by simp [hz])) g2
    rw [szL_app] at g3
    simp only [szL, Nat.add_zero] at g3
    have hpos := szD_pos y
    have next : ∀ (m2 : Mem) (e2 : Sto), (∃ x3 x4 x5 x6, e2 = [some d, some d, some (.ref m.length), x3, x4, x5, x6]) → m2 = m ++ [.lst (ys.map fun x => .tup [x, x])] → Q' .nx e2 m2 := by
      rintro m2 e2 ⟨x3, x4, x5, x6, rfl⟩ rfl
      exact tn.nx _ _ ⟨szL ys, by rw [szL_app]; simp only [szL]; omega, ys, x3, x4, x5, x6, rfl, rfl, hys, hdys, by omega, rfl⟩
    rw [List.map_append, List.map_cons, List.map_nil, sSeq_ap, sAsg_ap, ep]
    simp only [sBd_ok, bindT_tup, bindL_cons, bindL_nil, bindT_name, Option.bind_some, sOf_some, sThen_nx, List.set_cons_succ, List.set_cons_zero]
    cases y with
    | tup ds =>
      have hlen : ds.length ≤ 1000000 := by
        have := szL_len ds
        simp only [szD] at g3
        omega
      simp only [szD] at g3
      simp only [Cs.plain] at hy
      simp only [dep] at hdy
      have hx := ext_last (m0 := m) (m1 := m) (i := 2) (e := [some d, some d, some (.ref m.length), some (.tup ds), some (.tup ds), x5, x6]) (L := ys.map fun x => D.tup [x, x]) (X := ds.map fun x => D.tup [x, x])
        (fs := fCons (fLc [6] (.name 6) (jRng1 (fBlt .len (fCons (fVar 4) fNil))) tYes (fTup (fCons (fIx (fVar 3) (fVar 6)) (fCons (fIx (fVar 4) (fVar 6)) fNil)))) fNil) (by simp) rfl ?_ ?_
      · simp [hx]
        refine okS.mk (tn.nx _ _ ⟨szL (ys ++ ds), ?_, ys ++ ds, _, _, _, _, rfl, by simp, ?_, ?_, ?_, rfl⟩)
        · rw [szL_app, szL_app]; simp only [szL, szD]; omega
        · rw [plainL_app, hys, hy]; rfl
        · refine depL_of fun z hz => ?_
          rcases List.mem_append.mp hz with hz | hz
          · exact Nat.le_trans (dep_le hz) hdys
          · have := dep_le hz
            omega
        · rw [szL_app]; omega
      · have hl : fLc [6] (.name 6) (jRng1 (fBlt .len (fCons (fVar 4) fNil))) tYes (fTup (fCons (fIx (fVar 3) (fVar 6)) (fCons (fIx (fVar 4) (fVar 6)) fNil))) [some d, some d, some (.ref m.length), some (.tup ds), some (.tup ds), x5, x6] (m ++ [Cell.lst (ys.map fun x => D.tup [x, x])]) = .ok (.lst (ds.map fun x => D.tup [x, x])) (m ++ [Cell.lst (ys.map fun x => D.tup [x, x])]) := by
          refine fLc_ap (p := (rangeL 0 ds.length, [])) ((jRng1_ap (n := ds.length) (by simp) (by omega) (by omega)).trans (by simp)) ?_ (by rw [List.length_map]; omega)
          refine (lcGo_map (g := byIx ds fun x => D.tup [x, x]) same_nil fun k hk => ?_).trans (by rw [range_by])
          obtain ⟨k, hk2, rfl⟩ := range_mem hk
          obtain ⟨x, hx1, hx2⟩ := getW (xs := ds) (k := k) (m := m ++ [Cell.lst (ys.map fun x => D.tup [x, x])]) hk2
          refine ⟨_, rfl, rfl, ?_⟩
          simp [hx1, byIx, hx2]
        simp [hl]
      · have := szL_len ys
        have := szL_len ds
        simp only [List.length_map]
        omega
    | dct _ _ => simp [Cs.plain] at hy
    | ref _ => simp [Cs.plain] at hy
    | scr _ => simp [Cs.plain] at hy
    | lst ds =>
      have := cmp_neD (m := m ++ [Cell.lst (ys.map fun x => D.tup [x, x])]) hy hy (by omega)
      rw [eqD_refl _ hy] at this
      simp [this]
      exact okS.mk (next _ _ ⟨_, _, _, _, rfl⟩ rfl)
    | non =>
      have := cmp_neD (m := m ++ [Cell.lst (ys.map fun x => D.tup [x, x])]) hy hy (by omega)
      rw [eqD_refl _ hy] at this
      simp [this]
      exact okS.mk (next _ _ ⟨_, _, _, _, rfl⟩ rfl)
    | bl b =>
      simp
      exact okS.mk (next _ _ ⟨_, _, _, _, rfl⟩ rfl)
    | int b =>
      simp
      exact okS.mk (next _ _ ⟨_, _, _, _, rfl⟩ rfl)
    | str b =>
      simp
      exact okS.mk (next _ _ ⟨_, _, _, _, rfl⟩ rfl)
theorem says_ok (b c : Bool) (m : Mem) : c__law_says [.bl b, .bl c] m = .ok (.bl (b == c)) m := by
  unfold c__law_says b__law_says
  rw [runF_ap (np := 2) _ rfl]
  simp
theorem szL_le {n : Nat} : ∀ {l : List D}, (∀ d ∈ l, szD d ≤ n) → szL l ≤ n * l.length
  | [], _ => Nat.le_refl _
  | d :: l, h => by
    have h1 := h d List.mem_cons_self
    have h2 := szL_le (l := l) fun e he => h e (List.mem_cons_of_mem _ he)
    simp only [szL, List.length_cons, Nat.mul_add, Nat.mul_one]
    omega
theorem szL_one : ∀ {l : List D}, (∀ d ∈ l, szD d = 1) → szL l = l.length
  | [], _ => rfl
  | d :: l, h => by
    simp only [szL, List.length_cons, h d List.mem_cons_self, szL_one (l := l) fun e he => h e (List.mem_cons_of_mem _ he)]
    omega
end Com

namespace Com
open PySem
@[simp] theorem wd1 : (("number" : Str) == ("name" : Str)) = false := by decide
@[simp] theorem we1 : (("number" : Str) = ("name" : Str)) = False := eq_false (by decide)
@[simp] theorem wd2 : (("number" : Str) == ("old" : Str)) = false := by decide
@[simp] theorem we2 : (("number" : Str) = ("old" : Str)) = False := eq_false (by decide)
@[simp] theorem wd3 : (("number" : Str) == ("two" : Str)) = false := by decide
@[simp] theorem we3 : (("number" : Str) = ("two" : Str)) = False := eq_false (by decide)
@[simp] theorem wd4 : (("name" : Str) == ("number" : Str)) = false := by decide
@[simp] theorem we4 : (("name" : Str) = ("number" : Str)) = False := eq_false (by decide)
@[simp] theorem wd5 : (("name" : Str) == ("old" : Str)) = false := by decide
@[simp] theorem we5 : (("name" : Str) = ("old" : Str)) = False := eq_false (by decide)
@[simp] theorem wd6 : (("name" : Str) == ("two" : Str)) = false := by decide
@[simp] theorem we6 : (("name" : Str) = ("two" : Str)) = False := eq_false (by decide)
@[simp] theorem wd7 : (("old" : Str) == ("number" : Str)) = false := by decide
@[simp] theorem we7 : (("old" : Str) = ("number" : Str)) = False := eq_false (by decide)
@[simp] theorem wd8 : (("old" : Str) == ("name" : Str)) = false := by decide
@[simp] theorem we8 : (("old" : Str) = ("name" : Str)) = False := eq_false (by decide)
@[simp] theorem wd9 : (("old" : Str) == ("two" : Str)) = false := by decide
@[simp] theorem we9 : (("old" : Str) = ("two" : Str)) = False := eq_false (by decide)
@[simp] theorem wd10 : (("two" : Str) == ("number" : Str)) = false := by decide
@[simp] theorem we10 : (("two" : Str) = ("number" : Str)) = False := eq_false (by decide)
@[simp] theorem wd11 : (("two" : Str) == ("name" : Str)) = false := by decide
@[simp] theorem we11 : (("two" : Str) = ("name" : Str)) = False := eq_false (by decide)
@[simp] theorem wd12 : (("two" : Str) == ("old" : Str)) = false := by decide
@[simp] theorem we12 : (("two" : Str) = ("old" : Str)) = False := eq_false (by decide)
@[simp] theorem wd13 : (("+" : Str) == ("-" : Str)) = false := by decide
@[simp] theorem we13 : (("+" : Str) = ("-" : Str)) = False := eq_false (by decide)
@[simp] theorem wd14 : (("+" : Str) == ("*" : Str)) = false := by decide
@[simp] theorem we14 : (("+" : Str) = ("*" : Str)) = False := eq_false (by decide)
@[simp] theorem wd15 : (("+" : Str) == ("min" : Str)) = false := by decide
@[simp] theorem we15 : (("+" : Str) = ("min" : Str)) = False := eq_false (by decide)
@[simp] theorem wd16 : (("+" : Str) == ("max" : Str)) = false := by decide
@[simp] theorem we16 : (("+" : Str) = ("max" : Str)) = False := eq_false (by decide)
@[simp] theorem wd17 : (("-" : Str) == ("+" : Str)) = false := by decide
@[simp] theorem we17 : (("-" : Str) = ("+" : Str)) = False := eq_false (by decide)
@[simp] theorem wd18 : (("-" : Str) == ("*" : Str)) = false := by decide
@[simp] theorem we18 : (("-" : Str) = ("*" : Str)) = False := eq_false (by decide)
@[simp] theorem wd19 : (("-" : Str) == ("min" : Str)) = false := by decide
@[simp] theorem we19 : (("-" : Str) = ("min" : Str)) = False := eq_false (by decide)
@[simp] theorem wd20 : (("-" : Str) == ("max" : Str)) = false := by decide
@[simp] theorem we20 : (("-" : Str) = ("max" : Str)) = False := eq_false (by decide)
@[simp] theorem wd21 : (("*" : Str) == ("+" : Str)) = false := by decide
@[simp] theorem we21 : (("*" : Str) = ("+" : Str)) = False := eq_false (by decide)
@[simp] theorem wd22 : (("*" : Str) == ("-" : Str)) = false := by decide
@[simp] theorem we22 : (("*" : Str) = ("-" : Str)) = False := eq_false (by decide)
@[simp] theorem wd23 : (("*" : Str) == ("min" : Str)) = false := by decide
@[simp] theorem we23 : (("*" : Str) = ("min" : Str)) = False := eq_false (by decide)
@[simp] theorem wd24 : (("*" : Str) == ("max" : Str)) = false := by decide
@[simp] theorem we24 : (("*" : Str) = ("max" : Str)) = False := eq_false (by decide)
@[simp] theorem wd25 : (("min" : Str) == ("+" : Str)) = false := by decide
@[simp] theorem we25 : (("min" : Str) = ("+" : Str)) = False := eq_false (by decide)
@[simp] theorem wd26 : (("min" : Str) == ("-" : Str)) = false := by decide
@[simp] theorem we26 : (("min" : Str) = ("-" : Str)) = False := eq_false (by decide)
@[simp] theorem wd27 : (("min" : Str) == ("*" : Str)) = false := by decide
@[simp] theorem we27 : (("min" : Str) = ("*" : Str)) = False := eq_false (by decide)
@[simp] theorem wd28 : (("min" : Str) == ("max" : Str)) = false := by decide
@[simp] theorem we28 : (("min" : Str) = ("max" : Str)) = False := eq_false (by decide)
@[simp] theorem wd29 : (("max" : Str) == ("+" : Str)) = false := by decide
@[simp] theorem we29 : (("max" : Str) = ("+" : Str)) = False := eq_false (by decide)
@[simp] theorem wd30 : (("max" : Str) == ("-" : Str)) = false := by decide
@[simp] theorem we30 : (("max" : Str) = ("-" : Str)) = False := eq_false (by decide)
@[simp] theorem wd31 : (("max" : Str) == ("*" : Str)) = false := by decide
@[simp] theorem we31 : (("max" : Str) = ("*" : Str)) = False := eq_false (by decide)
@[simp] theorem wd32 : (("max" : Str) == ("min" : Str)) = false := by decide
@[simp] theorem we32 : (("max" : Str) = ("min" : Str)) = False := eq_false (by decide)
@[simp] theorem wd33 : (("truth" : Str) == ("not" : Str)) = false := by decide
@[simp] theorem we33 : (("truth" : Str) = ("not" : Str)) = False := eq_false (by decide)
@[simp] theorem wd34 : (("truth" : Str) == ("and" : Str)) = false := by decide
@[simp] theorem we34 : (("truth" : Str) = ("and" : Str)) = False := eq_false (by decide)
@[simp] theorem wd35 : (("truth" : Str) == ("or" : Str)) = false := by decide
@[simp] theorem we35 : (("truth" : Str) = ("or" : Str)) = False := eq_false (by decide)
@[simp] theorem wd36 : (("truth" : Str) == ("same" : Str)) = false := by decide
@[simp] theorem we36 : (("truth" : Str) = ("same" : Str)) = False := eq_false (by decide)
@[simp] theorem wd37 : (("truth" : Str) == ("below" : Str)) = false := by decide
@[simp] theorem we37 : (("truth" : Str) = ("below" : Str)) = False := eq_false (by decide)
@[simp] theorem wd38 : (("not" : Str) == ("truth" : Str)) = false := by decide
@[simp] theorem we38 : (("not" : Str) = ("truth" : Str)) = False := eq_false (by decide)
@[simp] theorem wd39 : (("not" : Str) == ("and" : Str)) = false := by decide
@[simp] theorem we39 : (("not" : Str) = ("and" : Str)) = False := eq_false (by decide)
@[simp] theorem wd40 : (("not" : Str) == ("or" : Str)) = false := by decide
@[simp] theorem we40 : (("not" : Str) = ("or" : Str)) = False := eq_false (by decide)
@[simp] theorem wd41 : (("not" : Str) == ("same" : Str)) = false := by decide
@[simp] theorem we41 : (("not" : Str) = ("same" : Str)) = False := eq_false (by decide)
@[simp] theorem wd42 : (("not" : Str) == ("below" : Str)) = false := by decide
@[simp] theorem we42 : (("not" : Str) = ("below" : Str)) = False := eq_false (by decide)
@[simp] theorem wd43 : (("and" : Str) == ("truth" : Str)) = false := by decide
@[simp] theorem we43 : (("and" : Str) = ("truth" : Str)) = False := eq_false (by decide)
@[simp] theorem wd44 : (("and" : Str) == ("not" : Str)) = false := by decide
@[simp] theorem we44 : (("and" : Str) = ("not" : Str)) = False := eq_false (by decide)
@[simp] theorem wd45 : (("and" : Str) == ("or" : Str)) = false := by decide
@[simp] theorem we45 : (("and" : Str) = ("or" : Str)) = False := eq_false (by decide)
@[simp] theorem wd46 : (("and" : Str) == ("same" : Str)) = false := by decide
@[simp] theorem we46 : (("and" : Str) = ("same" : Str)) = False := eq_false (by decide)
@[simp] theorem wd47 : (("and" : Str) == ("below" : Str)) = false := by decide
@[simp] theorem we47 : (("and" : Str) = ("below" : Str)) = False := eq_false (by decide)
@[simp] theorem wd48 : (("or" : Str) == ("truth" : Str)) = false := by decide
@[simp] theorem we48 : (("or" : Str) = ("truth" : Str)) = False := eq_false (by decide)
@[simp] theorem wd49 : (("or" : Str) == ("not" : Str)) = false := by decide
@[simp] theorem we49 : (("or" : Str) = ("not" : Str)) = False := eq_false (by decide)
@[simp] theorem wd50 : (("or" : Str) == ("and" : Str)) = false := by decide
@[simp] theorem we50 : (("or" : Str) = ("and" : Str)) = False := eq_false (by decide)
@[simp] theorem wd51 : (("or" : Str) == ("same" : Str)) = false := by decide
@[simp] theorem we51 : (("or" : Str) = ("same" : Str)) = False := eq_false (by decide)
@[simp] theorem wd52 : (("or" : Str) == ("below" : Str)) = false := by decide
@[simp] theorem we52 : (("or" : Str) = ("below" : Str)) = False := eq_false (by decide)
@[simp] theorem wd53 : (("same" : Str) == ("truth" : Str)) = false := by decide
@[simp] theorem we53 : (("same" : Str) = ("truth" : Str)) = False := eq_false (by decide)
@[simp] theorem wd54 : (("same" : Str) == ("not" : Str)) = false := by decide
@[simp] theorem we54 : (("same" : Str) = ("not" : Str)) = False := eq_false (by decide)
@[simp] theorem wd55 : (("same" : Str) == ("and" : Str)) = false := by decide
@[simp] theorem we55 : (("same" : Str) = ("and" : Str)) = False := eq_false (by decide)
@[simp] theorem wd56 : (("same" : Str) == ("or" : Str)) = false := by decide
@[simp] theorem we56 : (("same" : Str) = ("or" : Str)) = False := eq_false (by decide)
@[simp] theorem wd57 : (("same" : Str) == ("below" : Str)) = false := by decide
@[simp] theorem we57 : (("same" : Str) = ("below" : Str)) = False := eq_false (by decide)
@[simp] theorem wd58 : (("below" : Str) == ("truth" : Str)) = false := by decide
@[simp] theorem we58 : (("below" : Str) = ("truth" : Str)) = False := eq_false (by decide)
@[simp] theorem wd59 : (("below" : Str) == ("not" : Str)) = false := by decide
@[simp] theorem we59 : (("below" : Str) = ("not" : Str)) = False := eq_false (by decide)
@[simp] theorem wd60 : (("below" : Str) == ("and" : Str)) = false := by decide
@[simp] theorem we60 : (("below" : Str) = ("and" : Str)) = False := eq_false (by decide)
@[simp] theorem wd61 : (("below" : Str) == ("or" : Str)) = false := by decide
@[simp] theorem we61 : (("below" : Str) = ("or" : Str)) = False := eq_false (by decide)
@[simp] theorem wd62 : (("below" : Str) == ("same" : Str)) = false := by decide
@[simp] theorem we62 : (("below" : Str) = ("same" : Str)) = False := eq_false (by decide)
end Com

/-! Expressions, conditions: what they are worth, whether they hold. -/
namespace Com
open PySem Cs
abbrev Row := Str × Int × Int
def encR (r : Row) : D := .tup [.str r.1, .int r.2.1, .int r.2.2]
def enc (fr : List Row) : D := .tup (fr.map encR)
def encS (st : List Int) : D := .tup (st.map .int)
def nms (fr : List Row) : List Str := fr.map (·.1)
inductive Sg where | add | sub | mul | min | max
  deriving DecidableEq
def Sg.str : Sg → Str
  | .add => "+"
  | .sub => "-"
  | .mul => "*"
  | .min => "min"
  | .max => "max"
def Sg.ap : Sg → Int → Int → Int
  | .add, a, b => a + b
  | .sub, a, b => a - b
  | .mul, a, b => a * b
  | .min, a, b => if a < b then a else b
  | .max, a, b => if a < b then b else a
inductive E where
  | num (i : Int) | nam (x : Str) | old (x : Str) | two (s : Sg) (a b : E)
  deriving DecidableEq
def E.enc : E → D
  | .num i => .tup [.str "number", .int i]
  | .nam x => .tup [.str "name", .str x]
  | .old x => .tup [.str "old", .str x]
  | .two s a b => .tup [.str "two", .str s.str, a.enc, b.enc]
def look (ns : List Str) (st : List Int) (x : Str) : Int := match ns.findIdx? (· == x) with
  | some i => (st[i]?).getD 0
  | none => 0
def E.wor (ns : List Str) (st ol : List Int) : E → Int
  | .num i => i
  | .nam x => look ns st x
  | .old x => look ns ol x
  | .two s a b => s.ap (a.wor ns st ol) (b.wor ns st ol)
def E.leaves : E → Nat
  | .two _ a b => a.leaves + b.leaves
  | _ => 1
def E.deep : E → Nat
  | .two _ a b => max a.deep b.deep + 1
  | _ => 0
/-- names of these, numbers not too big, old values only where they may be -/
def E.fits (ns : List Str) (o : Bool) : E → Bool
  | .num i => decide (i.natAbs ≤ 999)
  | .nam x => ns.any (· == x)
  | .old x => o && ns.any (· == x)
  | .two _ a b => a.fits ns o && b.fits ns o
theorem E.leaves_pos : ∀ e : E, 1 ≤ e.leaves
  | .num _ => Nat.le_refl _
  | .nam _ => Nat.le_refl _
  | .old _ => Nat.le_refl _
  | .two _ a b => Nat.le_trans a.leaves_pos (Nat.le_add_right _ _)
def StOk (st : List Int) : Prop := ∀ v ∈ st, v.natAbs < 2 ^ 20
theorem look_lt {ns : List Str} {st : List Int} {x : Str} (h : StOk st) : (look ns st x).natAbs < 2 ^ 20 := by
  unfold look
  split
  · rename_i i _
    cases hi : st[i]? with
    | none => simp
    | some v => exact h v (List.mem_of_getElem? hi)
  · simp
theorem Sg.ap_lt (s : Sg) {a b : Int} {x y : Nat} (hx : 1 ≤ x) (hy : 1 ≤ y) (ha : a.natAbs < 2 ^ x) (hb : b.natAbs < 2 ^ y) : (s.ap a b).natAbs < 2 ^ (x + y) := by
  have h1 : 2 ^ x ≤ 2 ^ (x + y) := Nat.pow_le_pow_right (by omega) (by omega)
  have h2 : 2 ^ y ≤ 2 ^ (x + y) := Nat.pow_le_pow_right (by omega) (by omega)
  have h3 : 2 ^ x + 2 ^ y ≤ 2 ^ (x + y) := by
    rw [Nat.pow_add]
    have g1 : 2 ≤ 2 ^ x := Nat.le_trans (Nat.le_refl 2) (Nat.pow_le_pow_right (n := 2) (by omega) hx)
    have g2 : 2 ≤ 2 ^ y := Nat.le_trans (Nat.le_refl 2) (Nat.pow_le_pow_right (n := 2) (by omega) hy)
    have g3 := Nat.mul_le_mul_left (2 ^ x) g2
    have g4 := Nat.mul_le_mul_right (2 ^ y) g1
    omega
  cases s with
  | add => simp only [Sg.ap]; omega
  | sub => simp only [Sg.ap]; omega
  | mul =>
    simp only [Sg.ap]
    rw [Int.natAbs_mul, Nat.pow_add]
    exact Nat.mul_lt_mul'' ha hb
  | min => simp only [Sg.ap]; split <;> omega
  | max => simp only [Sg.ap]; split <;> omega
theorem E.wor_lt {ns : List Str} {st ol : List Int} {o : Bool} (hs : StOk st) (ho : StOk ol) : ∀ e : E, e.fits ns o = true → (e.wor ns st ol).natAbs < 2 ^ (20 * e.leaves)
  | .num i, h => by
    simp only [fits, decide_eq_true_eq] at h
    show i.natAbs < 1048576
    omega
  | .nam x, _ => look_lt hs
  | .old x, _ => look_lt ho
  | .two s a b, h => by
    simp only [fits, Bool.and_eq_true] at h
    have h1 := a.leaves_pos
    have h2 := b.leaves_pos
    have := s.ap_lt (x := 20 * a.leaves) (y := 20 * b.leaves) (by omega) (by omega) (a.wor_lt hs ho h.1) (b.wor_lt hs ho h.2)
    simp only [wor, leaves, Nat.mul_add]
    exact this
theorem mulOk_lt {i j : Int} {x y : Nat} (h1 : i.natAbs < 2 ^ x) (h2 : j.natAbs < 2 ^ y) (h : x + y < 1000000) (hx : 1 ≤ x) (hy : 1 ≤ y) : mulOk i j = true := by
  unfold mulOk
  rw [decide_eq_true_eq]
  have a : i.natAbs.log2 < x := by
    by_cases q : i.natAbs = 0
    · rw [q, Nat.log2_zero]; omega
    · exact (Nat.log2_lt q).mpr h1
  have b : j.natAbs.log2 < y := by
    by_cases q : j.natAbs = 0
    · rw [q, Nat.log2_zero]; omega
    · exact (Nat.log2_lt q).mpr h2
  omega
theorem names_ok (fr : List Row) (h : fr.length ≤ 1000) (m : Mem) : c_names_of [enc fr] m = .ok (.tup ((nms fr).map .str)) m := by
  have hz := size_big
  unfold c_names_of b_names_of
  rw [runF_ap (np := 1) _ rfl]
  have hl : fLc [1] (.name 1) (iVar 0) tYes (fIx (fVar 1) (fCon (.int 0))) [some (enc fr), none] m = .ok (.lst ((nms fr).map .str)) m := by
    refine fLc_ap (p := (fr.map encR, [])) (iVar_tup (by simp [enc])) ?_ (by simp [nms]; omega)
    refine (lcGo_map (g := fun d => match d with | .tup (x :: _) => x | _ => .non) same_nil fun d hd => ?_).trans ?_
    · obtain ⟨r, _, rfl⟩ := List.mem_map.mp hd
      refine ⟨_, rfl, rfl, ?_⟩
      simp [encR]
    · rw [List.map_map, nms, List.map_map]
      rfl
  simp [hl]
theorem place_ok (fr : List Row) (h : fr.length ≤ 1000) (x : Str) (m : Mem) : c_place_of [enc fr, .str x] m = .ok (plD (nms fr) x) m := by
  unfold c_place_of b_place_of
  rw [runF_ap (np := 2) _ rfl]
  have e1 := names_ok fr h m
  have e2 := idx_if (e := [some (enc fr), some (.str x), some (.tup ((nms fr).map .str))]) (m := m) (i := 1) (j := 2) (x := x) (ns := nms fr) (by simp) (by simp)
  simp [e1]
  simp only [fIf_ap, fTr_ap, fCmp_ap, fVar_ap, fCon_ap] at e2
  simp at e2
  rw [e2]
  rfl
end Com

namespace Com
open PySem Cs
/-- the defs that say what an expression is worth -/
structure Wth (p w : Nat → FF) : Prop where
  hp : ∀ k, p (k + 2) = c_place_of
  hw : ∀ k, w (k + 1) = runF false 4 7 (b_worth (p k) (w k))
theorem find_any {ns : List Str} {x : Str} (h : ns.any (· == x) = true) : ∃ i, ns.findIdx? (· == x) = some i ∧ i < ns.length := by
  cases hf : ns.findIdx? (· == x) with
  | none =>
    rw [List.findIdx?_eq_none_iff] at hf
    rw [List.any_eq_true] at h
    obtain ⟨y, hy, he⟩ := h
    rw [hf y hy] at he
    cases he
  | some i => exact ⟨i, rfl, (List.findIdx?_eq_some_iff_getElem.mp hf).1⟩
theorem look_ix {ns : List Str} {st : List Int} {x : Str} (h : ns.any (· == x) = true) (hl : st.length = ns.length) (m : Mem) : ∃ i : Nat, plD ns x = .int i ∧ ixD (encS st) (.int i) m = some (.int (look ns st x)) := by
  obtain ⟨i, h1, h2⟩ := find_any h
  refine ⟨i, by simp [plD, h1], ?_⟩
  refine ix_tup (by omega) ?_
  have h3 : st[i]? = some (st[i]'(by omega)) := List.getElem?_eq_getElem _
  rw [List.getElem?_map, show ((i : Int)).toNat = i by omega, h3]
  simp [look, h1, h3]
theorem in2 {m : Mem} (x a b : Str) : cmpD .In (.str x) (.tup [.str a, .str b]) m = some (a == x || b == x) := by
  have := in_strs (m := m) x [a, b]
  simpa using this
theorem min_int {m : Mem} (a b : Int) : bltD .min [.int a, .int b] m = some (.int (if b < a then b else a)) := by
  show (match D.int a, D.int b with
    | .int i, .int j => some (D.int (if j < i then j else i))
    | _, _ => none) = _
  rfl
theorem max_int {m : Mem} (a b : Int) : bltD .max [.int a, .int b] m = some (.int (if a < b then b else a)) := by
  show (match D.int a, D.int b with
    | .int i, .int j => some (D.int (if i < j then j else i))
    | _, _ => none) = _
  rfl
theorem atV_set {e : Sto} {i : Nat} {x : Option D} (h : i < e.length) : atV (e.set i x) i = x := by simp [atV, h]
/-- the place of a name among a frame's names -/
theorem lnames_ok (fr : List Row) (hf : fr.length ≤ 1000) (x : Str) (h : (nms fr).any (· == x) = true) {e : Sto} {m : Mem} {k : Str} (h0 : atV e 0 = some (enc fr)) (h3 : atV e 3 = some (.tup [.str k, .str x])) (hl : e.length = 8) :
    fMth .index (fLc [5] (.name 5) (iVar 0) tYes (fIx (fVar 5) (fCon (.int 0)))) (fCons (fIx (fVar 3) (fCon (.int 1))) fNil) e m = .ok (plD (nms fr) x) m := by
  have hl1 : fLc [5] (.name 5) (iVar 0) tYes (fIx (fVar 5) (fCon (.int 0))) e m = .ok (.lst ((nms fr).map .str)) m := by
    refine fLc_ap (p := (fr.map encR, [])) (iVar_tup (by simp [enc, h0])) ?_ (by simp [nms]; have := size_big; omega)
    refine (lcGo_map (g := fun d => match d with | .tup (x :: _) => x | _ => .non) same_nil fun d hd => ?_).trans ?_
    · obtain ⟨r, _, rfl⟩ := List.mem_map.mp hd
      refine ⟨_, rfl, rfl, ?_⟩
      have : atV ((wipe e [5]).set 5 (some (encR r))) 5 = some (encR r) := atV_set (by simp [hl])
      rw [fIx_ap, fVar_ap, this]
      simp [encR]
    · rw [List.map_map, nms, List.map_map]
      rfl
  obtain ⟨i, hi, hn⟩ := find_any h
  refine (fMth_at .index (k := .lst) (ds := [.str x]) (m2 := m) hl1 rfl rfl (by simp [h3])).trans ?_
  show ofP (idxL (.lst ((nms fr).map .str)) [.str x] m) = _
  obtain ⟨n, ns, hns⟩ : ∃ n ns, nms fr = n :: ns := by
    cases q : nms fr with
    | nil => rw [q] at hn; simp at hn
    | cons n ns => exact ⟨n, ns, rfl⟩
  rw [hns] at hi ⊢
  simp only [idxL, res_lst, nm_strsT, if_true, plD, hi]
  rw [List.findIdx?_map]
  have : (n :: ns).findIdx? ((fun y => eqD y (D.str x)) ∘ D.str) = some i := hi
  rw [this]
  rfl
theorem worth_ok {p w : Nat → FF} (W : Wth p w) {fr : List Row} (hf : fr.length ≤ 1000) {st ol : List Int} {olD : D} {o : Bool} (hs : st.length = fr.length) (ho : o = true → olD = encS ol ∧ ol.length = fr.length) (ss : StOk st) (so : StOk ol) :
    ∀ (e : E), e.fits (nms fr) o = true → e.leaves ≤ 20000 → ∀ k, e.deep + 3 ≤ k → ∀ m, w k [enc fr, encS st, olD, e.enc] m = .ok (.int (e.wor (nms fr) st ol)) m
  | .num i, h, _, k + 1, _, m => by
    rw [W.hw, runF_ap (np := 4) _ rfl]
    unfold b_worth
    simp [E.enc, E.wor]
  | .nam x, h, _, k + 3, _, m => by
    rw [W.hw, W.hp, runF_ap (np := 4) _ rfl]
    unfold b_worth
    have e1 := place_ok fr hf x m
    obtain ⟨i, h1, h2⟩ := look_ix (st := st) (m := m) h (by rw [hs, nms, List.length_map])
    simp [E.enc, E.wor, in2, e1, h1, h2]
  | .old x, h, _, k + 3, _, m => by
    simp only [E.fits, Bool.and_eq_true] at h
    obtain ⟨rfl, hl⟩ := ho h.1
    rw [W.hw, W.hp, runF_ap (np := 4) _ rfl]
    unfold b_worth
    have e1 := place_ok fr hf x m
    obtain ⟨i, h1, h2⟩ := look_ix (st := ol) (m := m) h.2 (by rw [hl, nms, List.length_map])
    simp [E.enc, E.wor, in2, e1, h1, h2]
  | .two s a b, h, hz, k + 1, hk, m => by
    simp only [E.fits, Bool.and_eq_true] at h
    simp only [E.leaves] at hz
    simp only [E.deep] at hk
    have e1 := worth_ok W hf hs ho ss so a h.1 (by omega) k (by omega) m
    have e2 := worth_ok W hf hs ho ss so b h.2 (by omega) k (by omega) m
    have p1 := a.leaves_pos
    have p2 := b.leaves_pos
    have hm := mulOk_lt (a.wor_lt ss so h.1) (b.wor_lt ss so h.2) (by omega) (by omega) (by omega)
    rw [W.hw, runF_ap (np := 4) _ rfl]
    unfold b_worth
    cases s <;> simp [E.enc, E.wor, in2, e1, e2, Sg.str, Sg.ap, mul_int _ _ hm, min_int, max_int]
    split <;> split <;> omega
/-- the law's own reckoning -/
theorem lworth_ok {w : Nat → FF} (W : ∀ k, w (k + 1) = runF false 4 8 (b__law_worth (w k))) {fr : List Row} (hf : fr.length ≤ 1000) {st ol : List Int} {olD : D} {o : Bool} (hs : st.length = fr.length) (ho : o = true → olD = encS ol ∧ ol.length = fr.length) (ss : StOk st) (so : StOk ol) :
    ∀ (e : E), e.fits (nms fr) o = true → e.leaves ≤ 20000 → ∀ k, e.deep + 1 ≤ k → ∀ m, w k [enc fr, encS st, olD, e.enc] m = .ok (.int (e.wor (nms fr) st ol)) m
  | .num i, h, _, k + 1, _, m => by
    rw [W, runF_ap (np := 4) _ rfl]
    unfold b__law_worth
    simp [E.enc, E.wor]
  | .nam x, h, _, k + 1, _, m => by
    rw [W, runF_ap (np := 4) _ rfl]
    unfold b__law_worth
    have e1 := lnames_ok fr hf x h (e := [some (enc fr), some (encS st), some olD, some (E.nam x).enc, none, none, none, none]) (m := m) (k := "name") rfl rfl rfl
    obtain ⟨i, h1, h2⟩ := look_ix (st := st) (m := m) h (by rw [hs, nms, List.length_map])
    simp only [E.enc] at e1
    simp [E.enc, E.wor, in2, e1, h1, h2]
  | .old x, h, _, k + 1, _, m => by
    simp only [E.fits, Bool.and_eq_true] at h
    obtain ⟨rfl, hl⟩ := ho h.1
    rw [W, runF_ap (np := 4) _ rfl]
    unfold b__law_worth
    have e1 := lnames_ok fr hf x h.2 (e := [some (enc fr), some (encS st), some (encS ol), some (E.old x).enc, none, none, none, none]) (m := m) (k := "old") rfl rfl rfl
    obtain ⟨i, h1, h2⟩ := look_ix (st := ol) (m := m) h.2 (by rw [hl, nms, List.length_map])
    simp only [E.enc] at e1
    simp [E.enc, E.wor, in2, e1, h1, h2]
  | .two s a b, h, hz, k + 1, hk, m => by
    simp only [E.fits, Bool.and_eq_true] at h
    simp only [E.leaves] at hz
    simp only [E.deep] at hk
    have e1 := lworth_ok W hf hs ho ss so a h.1 (by omega) k (by omega) m
    have e2 := lworth_ok W hf hs ho ss so b h.2 (by omega) k (by omega) m
    have p1 := a.leaves_pos
    have p2 := b.leaves_pos
    have hm := mulOk_lt (a.wor_lt ss so h.1) (b.wor_lt ss so h.2) (by omega) (by omega) (by omega)
    rw [W, runF_ap (np := 4) _ rfl]
    unfold b__law_worth
    cases s <;> simp [E.enc, E.wor, in2, e1, e2, Sg.str, Sg.ap, mul_int _ _ hm, min_int, max_int]
    · split <;> simp
    · split <;> simp
end Com

namespace Com
open PySem Cs
inductive Cd where
  | tru (b : Bool) | neg (c : Cd) | both (w : Bool) (a b : Cd) | cmp (w : Bool) (a b : E)
  deriving DecidableEq
def wBoth (w : Bool) : Str := if w then "and" else "or"
def wCmp (w : Bool) : Str := if w then "same" else "below"
def Cd.enc : Cd → D
  | .tru b => .tup [.str "truth", .bl b]
  | .neg c => .tup [.str "not", c.enc]
  | .both w a b => .tup [.str (wBoth w), a.enc, b.enc]
  | .cmp w a b => .tup [.str (wCmp w), a.enc, b.enc]
def Cd.hol (ns : List Str) (st ol : List Int) : Cd → Bool
  | .tru b => b
  | .neg c => !c.hol ns st ol
  | .both w a b => if w then a.hol ns st ol && b.hol ns st ol else a.hol ns st ol || b.hol ns st ol
  | .cmp w a b => if w then a.wor ns st ol == b.wor ns st ol else decide (a.wor ns st ol < b.wor ns st ol)
def Cd.deep : Cd → Nat
  | .tru _ => 0
  | .neg c => c.deep + 1
  | .both _ a b => max a.deep b.deep + 1
  | .cmp _ a b => max a.deep b.deep + 1
def Cd.fits (ns : List Str) (o : Bool) : Cd → Bool
  | .tru _ => true
  | .neg c => c.fits ns o
  | .both _ a b => a.fits ns o && b.fits ns o
  | .cmp _ a b => a.fits ns o && b.fits ns o && decide (a.leaves ≤ 20000) && decide (b.leaves ≤ 20000)
structure Hld (p w h : Nat → FF) : Prop extends Wth p w where
  hh : ∀ k, h (k + 1) = runF false 4 7 (b_holds (h k) (w k))
theorem holds_ok {p w h : Nat → FF} (W : Hld p w h) {fr : List Row} (hf : fr.length ≤ 1000) {st ol : List Int} {olD : D} {o : Bool} (hs : st.length = fr.length) (ho : o = true → olD = encS ol ∧ ol.length = fr.length) (ss : StOk st) (so : StOk ol) :
    ∀ (c : Cd), c.fits (nms fr) o = true → ∀ k, c.deep + 4 ≤ k → ∀ m, h k [enc fr, encS st, olD, c.enc] m = .ok (.bl (c.hol (nms fr) st ol)) m
  | .tru b, _, k + 1, _, m => by
    rw [W.hh, runF_ap (np := 4) _ rfl]
    unfold b_holds
    simp [Cd.enc, Cd.hol]
  | .neg c, h, k + 1, hk, m => by
    simp only [Cd.deep] at hk
    have e1 := holds_ok W hf hs ho ss so c h k (by omega) m
    rw [W.hh, runF_ap (np := 4) _ rfl]
    unfold b_holds
    simp [Cd.enc, Cd.hol, e1]
  | .both w a b, h, k + 1, hk, m => by
    simp only [Cd.fits, Bool.and_eq_true] at h
    simp only [Cd.deep] at hk
    have e1 := holds_ok W hf hs ho ss so a h.1 k (by omega) m
    have e2 := holds_ok W hf hs ho ss so b h.2 k (by omega) m
    rw [W.hh, runF_ap (np := 4) _ rfl]
    unfold b_holds
    generalize hu : a.hol (nms fr) st ol = u at *
    generalize hv : b.hol (nms fr) st ol = v at *
    cases w <;> cases u <;> simp [Cd.enc, Cd.hol, wBoth, in2, e1, e2, hu, hv]
  | .cmp w a b, h, k + 1, hk, m => by
    simp only [Cd.fits, Bool.and_eq_true, decide_eq_true_eq] at h
    simp only [Cd.deep] at hk
    have e1 := worth_ok W.toWth hf hs ho ss so a h.1.1.1 h.1.2 k (by omega) m
    have e2 := worth_ok W.toWth hf hs ho ss so b h.1.1.2 h.2 k (by omega) m
    rw [W.hh, runF_ap (np := 4) _ rfl]
    unfold b_holds
    cases w <;> simp [Cd.enc, Cd.hol, wCmp, in2, e1, e2]
theorem cmp_eqT {m : Mem} (a b c d : Bool) : cmpD .Eq (.tup [.bl a, .bl b]) (.tup [.bl c, .bl d]) m = some (a == c && b == d) := by
  simp [cmpD, eqOk, Cs.plain, plainL, dep, depL, eqD, eqL]
theorem cmp_neT {m : Mem} (a b c d : Bool) : cmpD .NotEq (.tup [.bl a, .bl b]) (.tup [.bl c, .bl d]) m = some (!(a == c && b == d)) := by
  simp [cmpD, eqOk, Cs.plain, plainL, dep, depL, eqD, eqL]
theorem lholds_ok {w h : Nat → FF} (W : ∀ k, w (k + 1) = runF false 4 8 (b__law_worth (w k))) (WH : ∀ k, h (k + 1) = runF false 4 7 (b__law_holds (h k) (w k))) {fr : List Row} (hf : fr.length ≤ 1000) {st ol : List Int} {olD : D} {o : Bool} (hs : st.length = fr.length) (ho : o = true → olD = encS ol ∧ ol.length = fr.length) (ss : StOk st) (so : StOk ol) :
    ∀ (c : Cd), c.fits (nms fr) o = true → ∀ k, c.deep + 2 ≤ k → ∀ m, h k [enc fr, encS st, olD, c.enc] m = .ok (.bl (c.hol (nms fr) st ol)) m
  | .tru b, _, k + 1, _, m => by
    rw [WH, runF_ap (np := 4) _ rfl]
    unfold b__law_holds
    simp [Cd.enc, Cd.hol]
  | .neg c, h, k + 1, hk, m => by
    simp only [Cd.deep] at hk
    have e1 := lholds_ok W WH hf hs ho ss so c h k (by omega) m
    rw [WH, runF_ap (np := 4) _ rfl]
    unfold b__law_holds
    simp [Cd.enc, Cd.hol, e1]
  | .both w a b, h, k + 1, hk, m => by
    simp only [Cd.fits, Bool.and_eq_true] at h
    simp only [Cd.deep] at hk
    have e1 := lholds_ok W WH hf hs ho ss so a h.1 k (by omega) m
    have e2 := lholds_ok W WH hf hs ho ss so b h.2 k (by omega) m
    rw [WH, runF_ap (np := 4) _ rfl]
    unfold b__law_holds
    generalize hu : a.hol (nms fr) st ol = u at *
    generalize hv : b.hol (nms fr) st ol = v at *
    cases w <;> cases u <;> cases v <;> simp [Cd.enc, Cd.hol, wBoth, in2, e1, e2, hu, hv, cmp_eqT, cmp_neT]
  | .cmp w a b, h, k + 1, hk, m => by
    simp only [Cd.fits, Bool.and_eq_true, decide_eq_true_eq] at h
    simp only [Cd.deep] at hk
    have e1 := lworth_ok W hf hs ho ss so a h.1.1.1 h.1.2 k (by omega) m
    have e2 := lworth_ok W hf hs ho ss so b h.1.1.2 h.2 k (by omega) m
    rw [WH, runF_ap (np := 4) _ rfl]
    unfold b__law_holds
    cases w <;> simp [Cd.enc, Cd.hol, wCmp, in2, e1, e2]
end Com

/-! Frames, states. -/
namespace Com
open PySem Cs
structure FrOk (fr : List Row) : Prop where
  len : fr.length ≤ 4
  lo : ∀ r ∈ fr, -100 ≤ r.2.1 ∧ r.2.1 ≤ r.2.2 ∧ r.2.2 ≤ 100 ∧ r.2.2 ≤ r.2.1 + 7
theorem plain_rows : ∀ fr : List Row, plainL (fr.map encR) = true
  | [] => rfl
  | r :: fr => by simp only [List.map_cons, encR, plainL, Cs.plain, plain_rows fr, Bool.and_self]
theorem plain_enc (fr : List Row) : Cs.plain (enc fr) = true := by
  simp only [enc, Cs.plain]
  exact plain_rows fr
theorem wc_frz (ds : List Int) (k : Int) (n : Nat) (mm : Mem) : frzC n mm (wc ds k) = some (wc ds k) := frzC_dct (by simp [plainL, Cs.plain, plainL_ints])
def grow (found : List (List Int)) (r : Row) : List (List Int) := found.flatMap fun st => (intsL r.2.1 (r.2.2 + 1 - r.2.1).toNat).map fun v => st ++ [v]
def states (fr : List Row) : List (List Int) := fr.foldl grow [[]]
theorem grow_map (found : List (List Int)) (r : Row) : (found.map encS).flatMap (fun d => match d with
    | .tup s => (intsL r.2.1 (r.2.2 + 1 - r.2.1).toNat).map fun v => D.tup (s ++ [.int v])
    | _ => []) = (grow found r).map encS := by
  unfold grow
  rw [List.map_flatMap, List.flatMap_map]
  congr 1
  funext st
  simp [encS]
theorem grow_len (found : List (List Int)) (r : Row) (h : r.2.2 ≤ r.2.1 + 7) : (grow found r).length ≤ found.length * 8 := by
  unfold grow
  induction found with
  | nil => simp
  | cons st found ih =>
    rw [List.flatMap_cons, List.length_append, List.length_map, intsL_len, List.length_cons]
    omega
theorem grow_each {found : List (List Int)} {r : Row} {n : Nat} (h : ∀ st ∈ found, st.length = n) : ∀ st ∈ grow found r, st.length = n + 1 := by
  intro st hst
  unfold grow at hst
  obtain ⟨s, h1, h2⟩ := List.mem_flatMap.mp hst
  obtain ⟨v, _, rfl⟩ := List.mem_map.mp h2
  simp [h s h1]
theorem states_snoc (fr : List Row) (r : Row) : states (fr ++ [r]) = grow (states fr) r := by simp [states]
theorem states_each (fr : List Row) : ∀ st ∈ states fr, st.length = fr.length := by
  refine snoc_ind (P := fun fr => ∀ st ∈ states fr, st.length = fr.length) ?_ (fun fr r ih => ?_) fr
  · intro st h; simp [states] at h; simp [h]
  · rw [states_snoc, List.length_append, List.length_singleton]
    exact grow_each ih
theorem states_len (fr : List Row) : (∀ r ∈ fr, r.2.2 ≤ r.2.1 + 7) → (states fr).length ≤ 8 ^ fr.length := by
  refine snoc_ind (P := fun fr => (∀ r ∈ fr, r.2.2 ≤ r.2.1 + 7) → (states fr).length ≤ 8 ^ fr.length) ?_ (fun fr r ih => ?_) fr
  · intro _; simp [states]
  · intro h
    have h1 := ih fun q hq => h q (List.mem_append_left _ hq)
    have h2 := grow_len (states fr) r (h r (by simp))
    rw [states_snoc, List.length_append, List.length_singleton, Nat.pow_succ]
    omega
theorem lstates_ok (fr : List Row) (h : FrOk fr) (m : Mem) : c__law_states [enc fr] m = .ok (.lst ((states fr).map encS)) m := by
  apply okR.eq
  unfold c__law_states
  refine okF rfl ?_
  unfold b__law_states
  have hsz := size_big
  have e1 : ∀ e, iVal (fVar 0) (some (enc fr) :: e) m = .ok (fr.map encR, []) m := fun e => iVal_tup (by simp [enc])
  simp [e1]
  refine okS.thn ?_
  refine forT0 (fun rem e m' => ∃ (dn rs : List Row) (x2 x3 x4 x5 x6 x7 : Option D), e = [some (enc fr), some (.lst ((states dn).map encS)), x2, x3, x4, x5, x6, x7] ∧ m' = m ∧ fr = dn ++ rs ∧ rem = rs.map encR)
    ⟨[], fr, none, none, none, none, none, none, rfl, rfl, rfl, rfl⟩ ?_ ?_
  · rintro e m' ⟨dn, rs, x2, x3, x4, x5, x6, x7, rfl, rfl, h1, h2⟩
    have : rs = [] := by simpa using h2.symm
    subst this
    rw [List.append_nil] at h1
    subst h1
    show okS _ _
    simp
    exact okS.mk (okR.mk ⟨rfl, rfl⟩)
  · rintro d r e m' ⟨dn, rs, x2, x3, x4, x5, x6, x7, rfl, rfl, h1, h2⟩
    cases rs with
    | nil => cases h2
    | cons q rs =>
      obtain ⟨rfl, rfl⟩ := List.cons.inj h2
      refine ⟨_, by simp [encR]; rfl, fun Q' tn => ?_⟩
      have hq : q ∈ fr := by rw [h1]; simp
      obtain ⟨g1, g2, g3, g4⟩ := h.lo q hq
      have hdn : dn.length ≤ 3 := by
        have := h.len
        rw [h1, List.length_append, List.length_cons] at this
        omega
      have hl : (states dn).length ≤ 512 := by
        have h3 := states_len dn fun q hq => (h.lo q (by rw [h1]; exact List.mem_append_left _ hq)).2.2.2
        have h4 : 8 ^ dn.length ≤ 8 ^ 3 := Nat.pow_le_pow_right (by omega) hdn
        omega
      have h3 : ∀ st ∈ states dn, st.length ≤ 4 := fun st hst => by rw [states_each dn st hst]; omega
      have e2 : ∀ x4 x5 x6 x7 e, iVal (fVar 1) (x4 :: some (.lst ((states dn).map encS)) :: x5 :: x6 :: x7 :: e) m' = .ok ((states dn).map encS, []) m' := fun _ _ _ _ _ => iVal_lst (by simp)
      simp [e2]
      refine okS.thn ?_
      refine forT0 (fun rem e m2 => ∃ (a b : List (List Int)) (x6 x7 : Option D), e = [some (enc fr), some (.lst ((states dn).map encS)), some (.str q.1), some (.int q.2.1), some (.int q.2.2), some (.lst ((grow a q).map encS)), x6, x7] ∧ m2 = m' ∧ states dn = a ++ b ∧ rem = b.map encS)
        ⟨[], states dn, x6, x7, rfl, rfl, rfl, rfl⟩ ?_ ?_
      · rintro e m2 ⟨a, b, x6, x7, rfl, rfl, k1, k2⟩
        have : b = [] := by simpa using k2.symm
        subst this
        rw [List.append_nil] at k1
        subst k1
        show okS _ _
        simp
        exact okS.mk (tn.nx _ _ ⟨dn ++ [q], rs, _, _, _, _, _, _, by rw [states_snoc], rfl, by rw [h1]; simp, rfl⟩)
      · rintro d r e m2 ⟨a, b, x6, x7, rfl, rfl, k1, k2⟩
        cases b with
        | nil => cases k2
        | cons st b =>
          obtain ⟨rfl, rfl⟩ := List.cons.inj k2
          refine ⟨_, rfl, fun Q2 t2 => ?_⟩
          have hst : st ∈ states dn := by rw [k1]; simp
          have hst3 := h3 st hst
          have hal : a.length ≤ 512 := by
            have := congrArg List.length k1
            rw [List.length_append] at this
            omega
          have hga := grow_len a q g4
          have el : ∀ e : Sto, atV e 3 = some (.int q.2.1) → atV e 4 = some (.int q.2.2) → atV e 6 = some (encS st) → e.length = 8 →
              fLc [7] (.name 7) (jRng2 (fVar 3) (fBin .Add (fVar 4) (fCon (.int 1)))) tYes (fBin .Add (fVar 6) (fTup (fCons (fVar 7) fNil))) e m2 = .ok (.lst ((grow [st] q).map encS)) m2 := by
            intro e a3 a4 a6 al
            obtain ⟨y0, y1, y2, y3, y4, y5, y6, y7, rfl⟩ : ∃ y0 y1 y2 y3 y4 y5 y6 y7, e = [y0, y1, y2, y3, y4, y5, y6, y7] := by
              match e, al with
              | [y0, y1, y2, y3, y4, y5, y6, y7], _ => exact ⟨_, _, _, _, _, _, _, _, rfl⟩
            simp only [atV_s, atV_0] at a3 a4 a6
            subst a3 a4 a6
            refine fLc_ap (p := (rangeL q.2.1 (q.2.2 + 1 - q.2.1).toNat, [])) (jRng2_ap (i := q.2.1) (n := q.2.2 + 1) (by simp) (by simp) (by omega) (by omega) (by omega) (by omega)) ?_ ?_
            · simp only [encS]
              rw [rangeL_ints]
              refine (lcGo_map (g := fun d => .tup (st.map .int ++ [d])) same_nil fun k hk => ?_).trans (by simp [grow, encS])
              obtain ⟨v, _, rfl⟩ := List.mem_map.mp hk
              refine ⟨_, rfl, rfl, ?_⟩
              simp
              rw [add_tup (by simp; omega)]
              rfl
            · rw [List.length_map]
              have := grow_len [st] q g4
              rw [List.length_singleton] at this
              omega
          have hg1 := grow_len [st] q g4
          rw [List.length_singleton] at hg1
          have ea : ∀ m, binD .Add (.lst ((grow a q).map encS)) (.lst ((grow [st] q).map encS)) m = some (.lst ((grow (a ++ [st]) q).map encS)) := fun m => by
            rw [add_lst (by rw [List.length_map, List.length_map]; omega), ← List.map_append]
            simp [grow]
          simp [el, ea]
          exact okS.mk (t2.nx _ _ ⟨a ++ [st], b, _, _, rfl, rfl, by rw [k1]; simp, rfl⟩)
theorem encS_plain (st : List Int) : Cs.plain (encS st) = true := by simp [encS, Cs.plain, plainL_ints]
theorem depL_ints : ∀ ds : List Int, depL (ds.map .int) = 0
  | [] => rfl
  | d :: ds => by simp only [List.map_cons, depL, dep, depL_ints ds, Nat.max_self]
theorem encS_dep (st : List Int) : dep (encS st) = 1 := by simp [encS, dep, depL_ints]
theorem encS_sz (st : List Int) : szD (encS st) = st.length + 1 := by
  simp only [encS, szD]
  rw [szL_one (fun d hd => by obtain ⟨_, _, rfl⟩ := List.mem_map.mp hd; rfl), List.length_map]
end Com

/-! What is drawn: frames, expressions, conditions. -/
namespace Com
open PySem Cs
theorem look_in {fr : List Row} : ∀ st ∈ states fr, (∀ r ∈ fr, -100 ≤ r.2.1 ∧ r.2.1 ≤ r.2.2 ∧ r.2.2 ≤ 100 ∧ r.2.2 ≤ r.2.1 + 7) → StOk st := by
  refine snoc_ind (P := fun fr => ∀ st ∈ states fr, (∀ r ∈ fr, -100 ≤ r.2.1 ∧ r.2.1 ≤ r.2.2 ∧ r.2.2 ≤ 100 ∧ r.2.2 ≤ r.2.1 + 7) → StOk st) ?_ (fun fr r ih => ?_) fr
  · intro st h _
    simp [states] at h
    subst h
    intro v hv
    cases hv
  · intro st hst hr
    rw [states_snoc] at hst
    unfold grow at hst
    obtain ⟨s, h1, h2⟩ := List.mem_flatMap.mp hst
    obtain ⟨v, hv, rfl⟩ := List.mem_map.mp h2
    rw [intsL_mem] at hv
    intro u hu
    rcases List.mem_append.mp hu with hu | hu
    · exact ih s h1 (fun q hq => hr q (List.mem_append_left _ hq)) u hu
    · rw [List.mem_singleton.mp hu]
      have := hr r (by simp)
      omega
theorem states_stOk {fr : List Row} (h : FrOk fr) {st : List Int} (hst : st ∈ states fr) : StOk st := look_in st hst h.lo
theorem gcR_wc {d : D} (hd : plain d = true) {ds : List Int} {k k' : Int} {r : Mem} {x : Mem} : gcR d (wc ds k :: r) (wc ds k' :: (r ++ x)) = .ok d (wc ds k' :: r) := gcR_first hd (wc_frz ds k')
/-- drawn: so, and the draws go on -/
def Drw (ds : List Int) (r : Mem) (P : D → Prop) (d : D) (m : Mem) : Prop := P d ∧ ∃ k, 0 ≤ k ∧ m = wc ds k :: r
theorem at_last (c : Cell) (r : Mem) (x : Cell) : (c :: (r ++ [x]))[r.length + 1]? = some x := List.getElem?_concat_length (l := c :: r) (a := x)
theorem tuple_ref {m : Mem} {n : Nat} {ds : List D} (h : m[n]? = some (.lst ds)) : bltD .tuple [.ref n] m = some (.tup ds) := by
  simp [bltD, b1, seqD, Cs.res, h]
theorem ix_pick {α : Type} {f : α → D} {l : List α} {v : Int} (h0 : 0 ≤ v) (h1 : v < l.length) (m : Mem) : ∃ a, a ∈ l ∧ ixD (.tup (l.map f)) (.int v) m = some (f a) := by
  have h2 : l[v.toNat]? = some (l[v.toNat]'(by omega)) := List.getElem?_eq_getElem _
  exact ⟨_, List.mem_of_getElem? h2, ix_tup h0 (by rw [List.getElem?_map, h2]; rfl)⟩
def FrN (fr : List Row) : Prop := FrOk fr ∧ fr ≠ [] ∧ (nms fr = [("x" : Str)] ∨ nms fr = [("x" : Str), ("y" : Str)])
/-- a frame to draw over -/
def FrW (fr : List Row) : Prop := fr.length ≤ 1000 ∧ fr ≠ []
theorem FrN.w {fr : List Row} (h : FrN fr) : FrW fr := ⟨by have := h.1.len; omega, h.2.1⟩
theorem frame_drw (ds : List Int) (k : Int) (hk : 0 ≤ k) (r : Mem) : okR (c__law_frame [.ref 0] (wc ds k :: r)) (Drw ds r fun d => ∃ fr, d = enc fr ∧ FrN fr) := by
  unfold c__law_frame
  refine okF rfl ?_
  unfold b__law_frame
  obtain ⟨d1, m1, e1, v1, rfl, a1, b1, rfl⟩ := next_ok ds k 3 hk (by omega) r
  obtain ⟨lo, hl, q1⟩ := ix_pick (f := D.int) (l := [0, 0, -1]) a1 (by simpa using b1) (wc ds (k + 1) :: r)
  have hlo : -1 ≤ lo ∧ lo ≤ 0 := by
    simp only [List.mem_cons, List.not_mem_nil, or_false] at hl
    omega
  simp only [List.map_cons, List.map_nil] at q1
  obtain ⟨d2, m2, e2, v2, rfl, a2, b2, rfl⟩ := next_ok ds (k + 1) 4 (by omega) (by omega) r
  obtain ⟨d3, m3, e3, v3, rfl, a3, b3, rfl⟩ := next_ok ds (k + 1 + 1) 3 (by omega) (by omega) (r ++ [.lst [encR ("x", lo, lo + 1 + v2)]])
  simp only [List.map_cons, List.map_nil, List.length_cons, List.length_nil, List.replicate, List.cons_append, List.nil_append]
  simp [e1, q1, e2]
  have hr : D.tup [.str "x", .int lo, .int (lo + 1 + v2)] = encR ("x", lo, lo + 1 + v2) := rfl
  rw [hr]
  simp [e3]
  by_cases hv : 0 < v3
  · obtain ⟨d4, m4, e4, v4, rfl, a4, b4, rfl⟩ := next_ok ds (k + 1 + 1 + 1) 3 (by omega) (by omega) (r ++ [.lst [encR ("x", lo, lo + 1 + v2)]])
    have ea := app_last (m0 := wc ds (k + 1 + 1 + 1) :: r) (m1 := wc ds (k + 1 + 1 + 1 + 1) :: r) (i := 2) (e := [some (.ref 0), some (.int lo), some (.ref (r.length + 1))]) (L := [encR ("x", lo, lo + 1 + v2)]) (x := encR ("y", 0, 1 + v4))
      (fs := fCons (fTup (fCons (fCon (.str "y")) (fCons (fCon (.int 0)) (fCons (fBin .Add (fCon (.int 1)) (fApp c__law_next (fCons (fVar 0) (fCons (fCon (.int 3)) fNil)))) fNil)))) fNil) (by simp) rfl (by simp [e4]; rfl) (by simp; have := size_big; omega)
    simp only [List.cons_append] at ea
    simp [hv, ea, tuple_ref (at_last _ _ _)]
    refine okS.mk ?_
    show okR (gcR _ _ _) _
    have hp : Cs.plain (enc [("x", lo, lo + 1 + v2), ("y", 0, 1 + v4)]) = true := plain_enc _
    have := gcR_wc hp (ds := ds) (k := k) (k' := k + 1 + 1 + 1 + 1) (r := r) (x := [.lst [encR ("x", lo, lo + 1 + v2), encR ("y", 0, 1 + v4)]])
    simp only [enc, List.map_cons, List.map_nil] at this
    rw [this]
    refine okR.mk ⟨⟨[("x", lo, lo + 1 + v2), ("y", 0, 1 + v4)], rfl, ⟨by simp, ?_⟩, by simp, .inr rfl⟩, _, by omega, rfl⟩
    intro q hq
    simp only [List.mem_cons, List.not_mem_nil, or_false] at hq
    rcases hq with rfl | rfl <;> simp only <;> omega
  · simp [hv, tuple_ref (at_last _ _ _)]
    refine okS.mk ?_
    show okR (gcR _ _ _) _
    have hp : Cs.plain (enc [("x", lo, lo + 1 + v2)]) = true := plain_enc _
    have := gcR_wc hp (ds := ds) (k := k) (k' := k + 1 + 1 + 1) (r := r) (x := [.lst [encR ("x", lo, lo + 1 + v2)]])
    simp only [enc, List.map_cons, List.map_nil] at this
    rw [this]
    refine okR.mk ⟨⟨[("x", lo, lo + 1 + v2)], rfl, ⟨by simp, ?_⟩, by simp, .inl rfl⟩, _, by omega, rfl⟩
    intro q hq
    simp only [List.mem_cons, List.not_mem_nil, or_false] at hq
    subst hq
    simp only
    omega
end Com

/-! What is drawn: expressions, conditions. -/
namespace Com
open PySem Cs
theorem lnames_lc (fr : List Row) (hf : fr.length ≤ 1000) {e : Sto} {m : Mem} {i j : Nat} (h0 : atV e i = some (enc fr)) (hl : j < e.length) :
    fLc [j] (.name j) (iVar i) tYes (fIx (fVar j) (fCon (.int 0))) e m = .ok (.lst ((nms fr).map .str)) m := by
  refine fLc_ap (p := (fr.map encR, [])) (iVar_tup (by simp [enc, h0])) ?_ (by simp [nms]; have := size_big; omega)
  refine (lcGo_map (g := fun d => match d with | .tup (x :: _) => x | _ => .non) same_nil fun d hd => ?_).trans ?_
  · obtain ⟨r, _, rfl⟩ := List.mem_map.mp hd
    refine ⟨_, rfl, rfl, ?_⟩
    have : atV ((wipe e [j]).set j (some (encR r))) j = some (encR r) := atV_set (by simp [hl])
    rw [fIx_ap, fVar_ap, this]
    simp [encR]
  · rw [List.map_map, nms, List.map_map]
    rfl
structure Drs (n p x : Nat → FF) : Prop where
  hn : ∀ k, n (k + 1) = c__law_next
  hp : ∀ k, p (k + 2) = c__law_pick
  hx : ∀ k, x (k + 1) = runF false 4 8 (b__law_expr (n k) (p k) (x k))
def ExOk (fr : List Row) (o : Bool) (n : Nat) (d : D) : Prop := ∃ e : E, d = e.enc ∧ e.fits (nms fr) o = true ∧ e.deep ≤ n ∧ e.leaves ≤ 2 ^ n
theorem sg_of {v : Int} (h0 : 0 ≤ v) (h1 : v < 7) (m : Mem) : ∃ s : Sg, ixD (.tup [.str "+", .str "-", .str "*", .str "min", .str "max", .str "+", .str "-"]) (.int v) m = some (.str s.str) := by
  obtain ⟨a, _, h⟩ := ix_pick (f := fun s : Sg => D.str s.str) (l := [.add, .sub, .mul, .min, .max, .add, .sub]) h0 (by simpa using h1) m
  exact ⟨a, h⟩
theorem two_pow_pos (n : Nat) : 1 ≤ 2 ^ n := Nat.one_le_two_pow
theorem leaf_ok {fr : List Row} (hf : FrW fr) (o : Bool) (ds : List Int) (r : Mem) (k : Int) (hk : 0 ≤ k) {a2 a4 a5 a6 a7 : Option D} :
    okS ((sSeq (sSet 5 (fLc [6] (.name 6) (iVar 1) tYes (fIx (fVar 6) (fCon (.int 0))))) (sSeq (sIf (fTr (fCmp .Eq (fApp c__law_next (fCons (fVar 0) (fCons (fCon (.int 3)) fNil))) (fCon (.int 0)))) (sRet (fTup (fCons (fCon (.str "number")) (fCons (fIx (fTup (fCons (fCon (.int 0)) (fCons (fCon (.int 1)) (fCons (fCon (.int 2)) (fCons (fCon (.int 3)) (fCons (fNeg (fCon (.int 1))) fNil)))))) (fApp c__law_next (fCons (fVar 0) (fCons (fCon (.int 5)) fNil)))) fNil)))) sNx) (sRet (fTup (fCons (fIf (tAnd (fTr (fVar 3)) (fTr (fCmp .Eq (fApp c__law_next (fCons (fVar 0) (fCons (fCon (.int 3)) fNil))) (fCon (.int 0))))) (fCon (.str "old")) (fCon (.str "name"))) (fCons (fApp c__law_pick (fCons (fVar 0) (fCons (fVar 5) fNil))) fNil))))))
      [some (.ref 0), some (enc fr), a2, some (.bl o), a4, a5, a6, a7] (wc ds k :: r)) fun f _ m => ∃ d, f = .rt d ∧ Drw ds r (ExOk fr o 0) d m := by
  have hl : fr.length ≤ 1000 := hf.1
  have e1 := lnames_lc fr hl (e := [some (.ref 0), some (enc fr), a2, some (.bl o), a4, a5, a6, a7]) (m := wc ds k :: r) (i := 1) (j := 6) (by simp) (by simp)
  obtain ⟨d1, m1, e2, v1, rfl, a1, b1, rfl⟩ := next_ok ds k 3 hk (by omega) r
  simp only [sSeq_ap, sSet_ap, e1, sBd_ok, sThen_nx, List.set_cons_succ, List.set_cons_zero]
  by_cases hv : v1 = 0
  · subst hv
    obtain ⟨d2, m2, e3, v2, rfl, a2, b2, rfl⟩ := next_ok ds (k + 1) 5 (by omega) (by omega) r
    obtain ⟨i, hi, q⟩ := ix_pick (f := D.int) (l := [0, 1, 2, 3, -1]) a2 (by simpa using b2) (wc ds (k + 1 + 1) :: r)
    simp only [List.map_cons, List.map_nil] at q
    simp [e2, e3, q]
    refine okS.mk ⟨_, rfl, ⟨.num i, rfl, ?_, Nat.le_refl _, Nat.le_refl _⟩, _, by omega, rfl⟩
    simp only [List.mem_cons, List.not_mem_nil, or_false] at hi
    simp only [E.fits, decide_eq_true_eq]
    omega
  · have hne : (nms fr).map D.str ≠ [] := by
      have := hf.2
      simpa [nms] using this
    have fin : ∀ (k' : Int), 0 ≤ k' → ∀ (q : Bool), (q = true → o = true) → okR (c__law_pick [.ref 0, .lst ((nms fr).map .str)] (wc ds k' :: r)) fun d m => ∃ x, d = .str x ∧ (nms fr).any (· == x) = true ∧ m = wc ds (k' + 1) :: r := by
      intro k' hk' q hq
      refine (pick_ok ds k' hk' _ hne r).imp ?_
      rintro d m ⟨h1, rfl⟩
      obtain ⟨x, hx, rfl⟩ := List.mem_map.mp h1
      exact ⟨x, rfl, List.any_eq_true.mpr ⟨x, hx, by simp⟩, rfl⟩
    simp [e2, hv]
    cases o with
    | false =>
      obtain ⟨d2, m2, e3, x, rfl, hx, rfl⟩ := fin (k + 1) (by omega) false (by simp)
      simp [e3]
      exact okS.mk ⟨_, rfl, ⟨.nam x, rfl, by simp only [E.fits, hx], Nat.le_refl _, Nat.le_refl _⟩, _, by omega, rfl⟩
    | true =>
      obtain ⟨d2, m2, e3, v2, rfl, a2, b2, rfl⟩ := next_ok ds (k + 1) 3 (by omega) (by omega) r
      obtain ⟨d3, m3, e4, x, rfl, hx, rfl⟩ := fin (k + 1 + 1) (by omega) false (by simp)
      by_cases hw : v2 = 0
      · simp [e3, e4, hw]
        exact okS.mk ⟨_, rfl, ⟨.old x, rfl, by simp only [E.fits, hx, Bool.true_and], Nat.le_refl _, Nat.le_refl _⟩, _, by omega, rfl⟩
      · simp [e3, e4, hw]
        exact okS.mk ⟨_, rfl, ⟨.nam x, rfl, by simp only [E.fits, hx], Nat.le_refl _, Nat.le_refl _⟩, _, by omega, rfl⟩
theorem ExOk.mono {fr : List Row} {o : Bool} {a b : Nat} {d : D} (h : a ≤ b) (q : ExOk fr o a d) : ExOk fr o b d := by
  obtain ⟨e, h1, h2, h3, h4⟩ := q
  exact ⟨e, h1, h2, by omega, Nat.le_trans h4 (Nat.pow_le_pow_right (by omega) h)⟩
theorem expr_drw {n p x : Nat → FF} (W : Drs n p x) {fr : List Row} (hf : FrW fr) (o : Bool) (ds : List Int) (r : Mem) : ∀ (dp : Nat) (K : Nat), dp + 4 ≤ K → ∀ k : Int, 0 ≤ k →
    okR (x K [.ref 0, enc fr, .int dp, .bl o] (wc ds k :: r)) (Drw ds r (ExOk fr o dp)) := by
  intro dp
  induction dp with
  | zero =>
    intro K hK k hk
    obtain ⟨K, rfl⟩ : ∃ K', K = K' + 3 := ⟨K - 3, by omega⟩
    rw [W.hx, W.hn, W.hp]
    refine okF rfl ?_
    unfold b__law_expr
    obtain ⟨d1, m1, e1, v1, rfl, a1, b1, rfl⟩ := next_ok ds k 5 hk (by omega) r
    rw [sSeq_ap, sSet_ap]
    simp only [List.map_cons, List.map_nil, List.length_cons, List.length_nil, List.replicate, List.cons_append, List.nil_append, fApp_ap, fCons_ap, fNil_ap, fVar_ap, fCon_ap, atV_0, ofO_some, bnd_ok, e1, sBd_ok, List.set_cons_succ, List.set_cons_zero, sThen_nx]
    rw [sSeq_ap, sIf_ap]
    refine okS.thn ?_
    simp only [tOr_ap, fTr_ap, fCmp_ap, fVar_ap, fCon_ap, atV_s, atV_0, ofO_some, bnd_ok, cmp_eqI, ofB_some, trD_blS, Int.ofNat_zero, beq_self_eq_true, if_true, sBd_ok]
    refine (leaf_ok hf o ds r (k + 1) (by omega)).imp ?_
    rintro f e m ⟨d, rfl, h⟩
    exact okR.mk h
  | succ dp ih =>
    intro K hK k hk
    obtain ⟨K, rfl⟩ : ∃ K', K = K' + 3 := ⟨K - 3, by omega⟩
    rw [W.hx, W.hn, W.hp]
    refine okF rfl ?_
    unfold b__law_expr
    obtain ⟨d1, m1, e1, v1, rfl, a1, b1, rfl⟩ := next_ok ds k 5 hk (by omega) r
    rw [sSeq_ap, sSet_ap]
    simp only [List.map_cons, List.map_nil, List.length_cons, List.length_nil, List.replicate, List.cons_append, List.nil_append, fApp_ap, fCons_ap, fNil_ap, fVar_ap, fCon_ap, atV_0, ofO_some, bnd_ok, e1, sBd_ok, List.set_cons_succ, List.set_cons_zero, sThen_nx]
    rw [sSeq_ap, sIf_ap]
    have hz : ((((dp + 1 : Nat) : Int)) == 0) = false := by
      rw [beq_eq_false_iff_ne]
      omega
    refine okS.thn ?_
    simp only [tOr_ap, fTr_ap, fCmp_ap, fVar_ap, fCon_ap, atV_s, atV_0, ofO_some, bnd_ok, cmp_eqI, ofB_some, trD_blS, hz, Bool.false_eq_true, if_false, cmp_lt, sBd_ok]
    by_cases hv : v1 < 2
    · simp only [hv, decide_true, if_true]
      refine (leaf_ok hf o ds r (k + 1) (by omega)).imp ?_
      rintro f e m ⟨d, rfl, h1, h2⟩
      exact okR.mk ⟨h1.mono (Nat.zero_le _), h2⟩
    · simp only [hv, decide_false, Bool.false_eq_true, if_false]
      refine okS.mk ?_
      show okS _ _
      obtain ⟨d2, m2, e2, v2, rfl, a2, b2, rfl⟩ := next_ok ds (k + 1) 7 (by omega) (by omega) r
      obtain ⟨s, es⟩ := sg_of a2 b2 (wc ds (k + 1 + 1) :: r)
      obtain ⟨d3, m3, e3, ⟨x1, rfl, p1, p2, p3⟩, k3, h3, rfl⟩ := ih (K + 2) (by omega) (k + 1 + 1) (by omega)
      obtain ⟨d4, m4, e4, ⟨x2, rfl, q1, q2, q3⟩, k4, h4, rfl⟩ := ih (K + 2) (by omega) k3 h3
      have hd : ((dp + 1 : Nat) : Int) - 1 = (dp : Int) := by omega
      simp [e2, es, hd, e3, e4]
      refine okS.mk (okR.mk ⟨⟨.two s x1 x2, rfl, by simp only [E.fits, p1, q1, Bool.and_self], by simp only [E.deep]; omega, by simp only [E.leaves, Nat.pow_succ]; omega⟩, _, h4, rfl⟩)
end Com

/-! What is drawn: conditions; forms as data. -/
namespace Com
open PySem Cs
structure Drc (n p x c : Nat → FF) : Prop extends Drs n p x where
  hc : ∀ k, c (k + 1) = runF false 4 5 (b__law_cond (n k) (c k) (x k))
def Cd.leaves : Cd → Nat
  | .tru _ => 1
  | .neg c => c.leaves + 1
  | .both _ a b => a.leaves + b.leaves
  | .cmp _ a b => a.leaves + b.leaves
def CdOk (fr : List Row) (o : Bool) (n : Nat) (d : D) : Prop := ∃ e : Cd, d = e.enc ∧ e.fits (nms fr) o = true ∧ e.deep ≤ n + 2 ∧ e.leaves ≤ 8 * 2 ^ n
theorem cond_rest {n p x c : Nat → FF} (W : Drc n p x c) {fr : List Row} (hf : FrW fr) (o : Bool) (ds : List Int) (r : Mem) (dp : Nat) : ∀ (K : Nat) (v1 : Int) (k : Int), 0 ≤ k → okS ((sSeq (sIf (tAnd (fTr (fCmp .Eq (fVar 4) (fCon (.int 3)))) (fTr (fCmp .Eq (fApp c__law_next (fCons (fVar 0) (fCons (fCon (.int 3)) fNil))) (fCon (.int 0))))) (sRet (fTup (fCons (fCon (.str "truth")) (fCons (fCmp .Gt (fApp c__law_next (fCons (fVar 0) (fCons (fCon (.int 3)) fNil))) (fCon (.int 0))) fNil)))) sNx) (sRet (fTup (fCons (fIx (fTup (fCons (fCon (.str "same")) (fCons (fCon (.str "below")) fNil))) (fApp c__law_next (fCons (fVar 0) (fCons (fCon (.int 2)) fNil)))) (fCons (fApp (x (K + 5)) (fCons (fVar 0) (fCons (fVar 1) (fCons (fCon (.int 1)) (fCons (fVar 3) fNil))))) (fCons (fApp (x (K + 5)) (fCons (fVar 0) (fCons (fVar 1) (fCons (fCon (.int 1)) (fCons (fVar 3) fNil))))) fNil))))))
      [some (.ref 0), some (enc fr), some (.int dp), some (.bl o), some (.int v1)] (wc ds k :: r)) fun f _ m => ∃ d, f = .rt d ∧ Drw ds r (CdOk fr o 0) d m := by
    intro K v1 k hk
    have cmpc : ∀ k : Int, 0 ≤ k → okS ((sRet (fTup (fCons (fIx (fTup (fCons (fCon (.str "same")) (fCons (fCon (.str "below")) fNil))) (fApp c__law_next (fCons (fVar 0) (fCons (fCon (.int 2)) fNil)))) (fCons (fApp (x (K + 5)) (fCons (fVar 0) (fCons (fVar 1) (fCons (fCon (.int 1)) (fCons (fVar 3) fNil))))) (fCons (fApp (x (K + 5)) (fCons (fVar 0) (fCons (fVar 1) (fCons (fCon (.int 1)) (fCons (fVar 3) fNil))))) fNil)))))
      [some (.ref 0), some (enc fr), some (.int dp), some (.bl o), some (.int v1)] (wc ds k :: r)) fun f _ m => ∃ d, f = .rt d ∧ Drw ds r (CdOk fr o 0) d m := by
      intro k hk
      obtain ⟨d2, m2, e2, v2, rfl, a2, b2, rfl⟩ := next_ok ds k 2 hk (by omega) r
      obtain ⟨s, _, es⟩ := ix_pick (f := fun w : Bool => D.str (wCmp w)) (l := [true, false]) a2 (by simpa using b2) (wc ds (k + 1) :: r)
      simp only [List.map_cons, List.map_nil, wCmp, if_true, Bool.false_eq_true, if_false] at es
      obtain ⟨d3, m3, e3, ⟨x1, rfl, p1, p2, p3⟩, k3, h3, rfl⟩ := expr_drw W.toDrs hf o ds r 1 (K + 5) (by omega) (k + 1) (by omega)
      obtain ⟨d4, m4, e4, ⟨x2, rfl, q1, q2, q3⟩, k4, h4, rfl⟩ := expr_drw W.toDrs hf o ds r 1 (K + 5) (by omega) k3 h3
      simp only [Int.natCast_one, Int.ofNat_one] at e3 e4
      simp [e2, es, e3, e4]
      exact okS.mk ⟨_, rfl, ⟨.cmp s x1 x2, by simp [Cd.enc, wCmp], by simp only [Cd.fits, p1, q1, Bool.true_and, Bool.and_eq_true, decide_eq_true_eq]; omega, by simp only [Cd.deep]; omega, by simp only [Cd.leaves]; omega⟩, _, h4, rfl⟩
    rw [sSeq_ap]
    obtain ⟨d1, m1, e1, v2, rfl, a1, b1, rfl⟩ := next_ok ds k 3 hk (by omega) r
    by_cases h3 : v1 = 3
    · by_cases h0 : v2 = 0
      · obtain ⟨d2, m2, e2, v3, rfl, a2, b2, rfl⟩ := next_ok ds (k + 1) 3 (by omega) (by omega) r
        simp [h3, e1, h0, e2]
        exact okS.mk ⟨_, rfl, ⟨.tru (decide (0 < v3)), rfl, rfl, by simp only [Cd.deep]; omega, by simp only [Cd.leaves]; omega⟩, _, by omega, rfl⟩
      · refine okS.thn ?_
        simp [h3, e1, h0]
        refine okS.mk ?_
        subst h3
        exact cmpc _ (by omega)
    · refine okS.thn ?_
      simp [h3]
      refine okS.mk ?_
      exact cmpc _ hk
theorem CdOk.mono {fr : List Row} {o : Bool} {a b : Nat} {d : D} (h : a ≤ b) (q : CdOk fr o a d) : CdOk fr o b d := by
  obtain ⟨e, h1, h2, h3, h4⟩ := q
  exact ⟨e, h1, h2, by omega, Nat.le_trans h4 (Nat.mul_le_mul_left 8 (Nat.pow_le_pow_right (by omega) h))⟩
theorem cond_drw {n p x c : Nat → FF} (W : Drc n p x c) {fr : List Row} (hf : FrW fr) (o : Bool) (ds : List Int) (r : Mem) : ∀ (dp : Nat) (K : Nat), dp + 6 ≤ K → ∀ k : Int, 0 ≤ k →
    okR (c K [.ref 0, enc fr, .int dp, .bl o] (wc ds k :: r)) (Drw ds r (CdOk fr o dp)) := by
  intro dp
  induction dp with
  | zero =>
    intro K hK k hk
    obtain ⟨K, rfl⟩ : ∃ K', K = K' + 6 := ⟨K - 6, by omega⟩
    rw [W.hc, W.hn]
    refine okF rfl ?_
    unfold b__law_cond
    obtain ⟨d1, m1, e1, v1, rfl, a1, b1, rfl⟩ := next_ok ds k 7 hk (by omega) r
    simp only [List.map_cons, List.map_nil, List.length_cons, List.length_nil, List.replicate, List.cons_append, List.nil_append]
    rw [sSeq_ap, sSet_ap]
    simp only [fApp_ap, fCons_ap, fNil_ap, fVar_ap, fCon_ap, atV_0, ofO_some, bnd_ok, e1, sBd_ok, List.set_cons_succ, List.set_cons_zero, sThen_nx]
    rw [sSeq_ap, sIf_ap]
    simp only [tAnd_ap, fTr_ap, fCmp_ap, fVar_ap, fCon_ap, atV_s, atV_0, ofO_some, bnd_ok, cmp_gt, ofB_some, trD_blS, Int.ofNat_zero, Int.lt_irrefl, decide_false, Bool.false_eq_true, if_false, sBd_ok, sNx_ap, sThen_nx]
    rw [sSeq_ap, sIf_ap]
    simp only [tAnd_ap, fTr_ap, fCmp_ap, fVar_ap, fCon_ap, atV_s, atV_0, ofO_some, bnd_ok, cmp_gt, ofB_some, trD_blS, Int.ofNat_zero, Int.lt_irrefl, decide_false, Bool.false_eq_true, if_false, sBd_ok, sNx_ap, sThen_nx]
    refine (cond_rest W hf o ds r 0 K v1 (k + 1) (by omega)).imp ?_
    rintro f e m ⟨d, rfl, h⟩
    exact okR.mk h
  | succ dp ih =>
    intro K hK k hk
    obtain ⟨K, rfl⟩ : ∃ K', K = K' + 6 := ⟨K - 6, by omega⟩
    rw [W.hc, W.hn]
    refine okF rfl ?_
    unfold b__law_cond
    have hd : ((dp + 1 : Nat) : Int) - 1 = (dp : Int) := by omega
    have hp : (0 : Int) < ((dp + 1 : Nat) : Int) := by omega
    obtain ⟨d1, m1, e1, v1, rfl, a1, b1, rfl⟩ := next_ok ds k 7 hk (by omega) r
    obtain ⟨d3, m3, e3, ⟨x1, rfl, p1, p2, p3⟩, k3, h3, rfl⟩ := ih (K + 5) (by omega) (k + 1) (by omega)
    obtain ⟨d4, m4, e4, ⟨x2, rfl, q1, q2, q3⟩, k4, h4, rfl⟩ := ih (K + 5) (by omega) k3 h3
    simp only [List.map_cons, List.map_nil, List.length_cons, List.length_nil, List.replicate, List.cons_append, List.nil_append]
    rw [sSeq_ap, sSet_ap]
    simp only [fApp_ap, fCons_ap, fNil_ap, fVar_ap, fCon_ap, atV_0, ofO_some, bnd_ok, e1, sBd_ok, List.set_cons_succ, List.set_cons_zero, sThen_nx]
    rw [sSeq_ap, sIf_ap]
    simp only [tAnd_ap, fTr_ap, fCmp_ap, fVar_ap, fCon_ap, atV_s, atV_0, ofO_some, bnd_ok, cmp_gt, cmp_eqI, hp, decide_true, if_true, ofB_some, trD_blS, sBd_ok]
    have hw : 1 ≤ 2 ^ dp := Nat.one_le_two_pow
    by_cases h0 : v1 = 0
    · simp only [h0, beq_self_eq_true, if_true]
      simp only [sRet_ap, fTup_ap, fCons_ap, fApp_ap, fBin_ap, fCon_ap, fNil_ap, fVar_ap, atV_s, atV_0, ofO_some, bnd_ok, sub_int, hd, e3, List.length_cons, List.length_nil, Nat.zero_add, Nat.reduceAdd, sl_2, if_true, sBd_ok, sThen_rt]
      refine okS.mk (okR.mk ⟨⟨.neg x1, rfl, p1, by simp only [Cd.deep]; omega, by simp only [Cd.leaves, Nat.pow_succ]; omega⟩, _, h3, rfl⟩)
    · have h0' : (v1 == 0) = false := by rw [beq_eq_false_iff_ne]; exact h0
      simp only [h0', Bool.false_eq_true, if_false, sNx_ap, sThen_nx]
      rw [sSeq_ap, sIf_ap]
      simp only [tAnd_ap, fTr_ap, fCmp_ap, fVar_ap, fCon_ap, atV_s, atV_0, ofO_some, bnd_ok, cmp_gt, cmp_lt, hp, decide_true, if_true, ofB_some, trD_blS, sBd_ok]
      by_cases h3' : v1 < 3
      · obtain ⟨s, _, es⟩ := ix_pick (f := fun w : Bool => D.str (wBoth w)) (l := [true, false]) (v := v1 - 1) (by omega) (by simp; omega) (wc ds (k + 1) :: r)
        simp only [List.map_cons, List.map_nil, wBoth, if_true, Bool.false_eq_true, if_false] at es
        simp [h3', es, hd, e3, e4]
        refine okS.mk (okR.mk ⟨⟨.both s x1 x2, by simp [Cd.enc, wBoth], by simp only [Cd.fits, p1, q1, Bool.and_self], by simp only [Cd.deep]; omega, by simp only [Cd.leaves, Nat.pow_succ]; omega⟩, _, h4, rfl⟩)
      · simp only [h3', decide_false, Bool.false_eq_true, if_false, sNx_ap, sThen_nx]
        refine (cond_rest W hf o ds r (dp + 1) K v1 (k + 1) (by omega)).imp ?_
        rintro f e m ⟨d, rfl, h1, h2⟩
        exact okR.mk ⟨h1.mono (Nat.zero_le _), h2⟩
end Com

/-! Forms as data: plain, their depth and size, when equal. -/
namespace Com
open PySem Cs
theorem E.plain_enc : ∀ e : E, Cs.plain e.enc = true
  | .num _ => rfl
  | .nam _ => rfl
  | .old _ => rfl
  | .two s a b => by simp [E.enc, Cs.plain, plainL, a.plain_enc, b.plain_enc]
theorem E.dep_enc : ∀ e : E, dep e.enc = e.deep + 1
  | .num _ => rfl
  | .nam _ => rfl
  | .old _ => rfl
  | .two s a b => by simp only [E.enc, dep, depL, a.dep_enc, b.dep_enc, E.deep]; omega
theorem E.sz_enc : ∀ e : E, szD e.enc + 3 ≤ 6 * e.leaves
  | .num _ => by simp [E.enc, szD, szL, E.leaves]
  | .nam _ => by simp [E.enc, szD, szL, E.leaves]
  | .old _ => by simp [E.enc, szD, szL, E.leaves]
  | .two s a b => by
    have := a.sz_enc
    have := b.sz_enc
    simp only [E.enc, szD, szL, E.leaves]
    omega
theorem Sg.str_inj : ∀ {a b : Sg}, a.str = b.str → a = b := by
  intro a b
  cases a <;> cases b <;> simp [Sg.str]
theorem Sg.str_beq (a b : Sg) : (a.str == b.str) = decide (a = b) := by
  by_cases h : a = b
  · simp [h]
  · have : a.str ≠ b.str := fun q => h (Sg.str_inj q)
    simp [h, this]
theorem dec_and {p q r : Prop} [Decidable p] [Decidable q] [Decidable r] (h : r ↔ p ∧ q) : (decide p && decide q) = decide r := by
  by_cases hp : p <;> by_cases hq : q <;> simp [hp, hq, h]
theorem E.eq_enc : ∀ a b : E, eqD a.enc b.enc = decide (a = b)
  | .num i, b => by
    cases b with
    | num j => by_cases h : i = j <;> simp [E.enc, eqD, eqL, h]
    | _ => simp [E.enc, eqD, eqL]
  | .nam i, b => by
    cases b with
    | nam j => by_cases h : i = j <;> simp [E.enc, eqD, eqL, h]
    | _ => simp [E.enc, eqD, eqL]
  | .old i, b => by
    cases b with
    | old j => by_cases h : i = j <;> simp [E.enc, eqD, eqL, h]
    | _ => simp [E.enc, eqD, eqL]
  | .two s x y, b => by
    cases b with
    | two t u v =>
      have h1 := E.eq_enc x u
      have h2 := E.eq_enc y v
      simp only [E.enc, eqD, eqL, beq_self_eq_true, Bool.true_and, Bool.and_true, h1, h2, Sg.str_beq]
      by_cases g1 : s = t <;> by_cases g2 : x = u <;> by_cases g3 : y = v <;> simp [g1, g2, g3]
    | _ => simp [E.enc, eqD, eqL]
theorem cmp_eqE {m : Mem} {a b : E} (h : a.deep ≤ 140) : cmpD .Eq a.enc b.enc m = some (decide (a = b)) := by
  rw [cmp_eqD a.plain_enc b.plain_enc (by rw [a.dep_enc, b.dep_enc]; omega), E.eq_enc]
theorem cmp_eqE' {m : Mem} {a b : E} (h : b.deep ≤ 140) : cmpD .Eq a.enc b.enc m = some (decide (a = b)) := by
  rw [cmp_eqD a.plain_enc b.plain_enc (by rw [a.dep_enc, b.dep_enc]; omega), E.eq_enc]
theorem Cd.plain_enc : ∀ e : Cd, Cs.plain e.enc = true
  | .tru _ => rfl
  | .neg c => by simp [Cd.enc, Cs.plain, plainL, c.plain_enc]
  | .both _ a b => by simp [Cd.enc, Cs.plain, plainL, a.plain_enc, b.plain_enc]
  | .cmp _ a b => by simp [Cd.enc, Cs.plain, plainL, a.plain_enc, b.plain_enc]
theorem Cd.dep_enc : ∀ e : Cd, dep e.enc ≤ e.deep + 1
  | .tru _ => by simp [Cd.enc, dep, depL]
  | .neg c => by have := c.dep_enc; simp only [Cd.enc, dep, depL, Cd.deep]; omega
  | .both _ a b => by have := a.dep_enc; have := b.dep_enc; simp only [Cd.enc, dep, depL, Cd.deep]; omega
  | .cmp _ a b => by have := a.dep_enc; have := b.dep_enc; simp only [Cd.enc, dep, depL, Cd.deep]; omega
theorem Cd.sz_enc : ∀ e : Cd, szD e.enc + 2 ≤ 6 * e.leaves
  | .tru _ => by simp [Cd.enc, szD, szL, Cd.leaves]
  | .neg c => by have := c.sz_enc; simp only [Cd.enc, szD, szL, Cd.leaves]; omega
  | .both _ a b => by have := a.sz_enc; have := b.sz_enc; simp only [Cd.enc, szD, szL, Cd.leaves]; omega
  | .cmp _ a b => by have := a.sz_enc; have := b.sz_enc; simp only [Cd.enc, szD, szL, Cd.leaves]; omega
theorem wBoth_beq (a b : Bool) : (wBoth a == wBoth b) = (a == b) := by cases a <;> cases b <;> simp [wBoth]
theorem wCmp_beq (a b : Bool) : (wCmp a == wCmp b) = (a == b) := by cases a <;> cases b <;> simp [wCmp]
theorem eqT_hd (a b : Str) (x y : List D) : eqD (.tup (.str a :: x)) (.tup (.str b :: y)) = ((a == b) && eqL x y) := by simp only [eqD, eqL]
theorem eqL_hd (a b : D) (x y : List D) : eqL (a :: x) (b :: y) = (eqD a b && eqL x y) := by simp only [eqL]
theorem eqB_hd (a b : Bool) : eqD (.bl a) (.bl b) = (a == b) := by simp only [eqD]
theorem eqL_nil : eqL [] [] = true := by simp only [eqL]
theorem Cd.eq_enc : ∀ a b : Cd, eqD a.enc b.enc = decide (a = b)
  | .tru i, .tru j => by simp only [Cd.enc, eqT_hd, eqL_hd, eqB_hd, eqL_nil]; cases i <;> cases j <;> simp
  | .tru i, .neg _ => by simp [Cd.enc, eqT_hd]
  | .tru i, .both w _ _ => by cases w <;> simp [Cd.enc, eqT_hd, wBoth]
  | .tru i, .cmp w _ _ => by cases w <;> simp [Cd.enc, eqT_hd, wCmp]
  | .neg c, .tru _ => by simp [Cd.enc, eqT_hd]
  | .neg c, .neg d => by
    have := Cd.eq_enc c d
    simp [Cd.enc, eqT_hd, eqL_hd, eqL_nil, this]
  | .neg c, .both w _ _ => by cases w <;> simp [Cd.enc, eqT_hd, wBoth]
  | .neg c, .cmp w _ _ => by cases w <;> simp [Cd.enc, eqT_hd, wCmp]
  | .both w x y, .tru _ => by cases w <;> simp [Cd.enc, eqT_hd, wBoth]
  | .both w x y, .neg _ => by cases w <;> simp [Cd.enc, eqT_hd, wBoth]
  | .both w x y, .both t u v => by
    have h1 := Cd.eq_enc x u
    have h2 := Cd.eq_enc y v
    simp only [Cd.enc, eqT_hd, eqL_hd, eqL_nil, Bool.and_true, h1, h2, wBoth_beq]
    by_cases g2 : x = u <;> by_cases g3 : y = v <;> cases w <;> cases t <;> simp [g2, g3]
  | .both w x y, .cmp t _ _ => by cases w <;> cases t <;> simp [Cd.enc, eqT_hd, wBoth, wCmp]
  | .cmp w x y, .tru _ => by cases w <;> simp [Cd.enc, eqT_hd, wCmp]
  | .cmp w x y, .neg _ => by cases w <;> simp [Cd.enc, eqT_hd, wCmp]
  | .cmp w x y, .both t _ _ => by cases w <;> cases t <;> simp [Cd.enc, eqT_hd, wBoth, wCmp]
  | .cmp w x y, .cmp t u v => by
    have h1 := E.eq_enc x u
    have h2 := E.eq_enc y v
    simp only [Cd.enc, eqT_hd, eqL_hd, eqL_nil, Bool.and_true, h1, h2, wCmp_beq]
    by_cases g2 : x = u <;> by_cases g3 : y = v <;> cases w <;> cases t <;> simp [g2, g3]
theorem cmp_eqC {m : Mem} {a b : Cd} (h : a.deep ≤ 140) : cmpD .Eq a.enc b.enc m = some (decide (a = b)) := by
  have := a.dep_enc
  rw [cmp_eqD a.plain_enc b.plain_enc (by omega), Cd.eq_enc]
end Com

/-! Names, expressions and conditions told from other values: the defs' texts. -/
namespace Com
open PySem Cs
/-! ### words differ as texts do -/
theorem map_toNat_inj : ∀ {a b : List Char}, a.map Char.toNat = b.map Char.toNat → a = b
  | [], [], _ => rfl
  | [], _ :: _, h => by simp at h
  | _ :: _, [], h => by simp at h
  | c :: a, d :: b, h => by
    simp only [List.map_cons, List.cons.injEq] at h
    rw [map_toNat_inj h.2, Char.toNat_inj.mp h.1]
@[simp] theorem ofS_inj {a b : String} : (Str.ofString a = Str.ofString b) = (a = b) := by
  apply propext
  constructor
  · intro h
    rw [Str.ofString_eq_toList, Str.ofString_eq_toList] at h
    simp only [Str.mk.injEq] at h
    have h := congrArg Array.toList h
    simp only at h
    exact String.toList_inj.mp (map_toNat_inj h)
  · rintro rfl; rfl
@[simp] theorem ofS_beq {a b : String} : (Str.ofString a == Str.ofString b) = (a == b) := by
  by_cases h : a = b
  · subst h; simp
  · have : ¬ Str.ofString a = Str.ofString b := by rw [ofS_inj]; exact h
    rw [beq_eq_false_iff_ne.mpr h, beq_eq_false_iff_ne.mpr this]
def b_is_integer : FS :=
  (sRet (fAndV (fIsi .int (fVar 0)) (fNotV (fIsi .bool (fVar 0)))))
def b_is_name : FS :=
  (sSeq (sIf (tOr (tNot (fTr (fIsi .str (fVar 0)))) (tOr (tNot (fTr (fCmpN (fCon (.int 1)) [(.LtE, (fBlt .len (fCons (fVar 0) fNil))), (.LtE, (fCon (.int 12)))]))) (fTr (fCmp .NotIn (fIx (fVar 0) (fCon (.int 0))) (fCon (.str "abcdefghijklmnopqrstuvwxyz")))))) (sRet (fCon (.bl false))) sNx) (sRet (fBlt .all (fCons (fLc [1] (.name 1) (iVar 0) tYes (fCmp .In (fVar 1) (fBin .Add (fCon (.str "abcdefghijklmnopqrstuvwxyz")) (fCon (.str "0123456789"))))) fNil))))
def b_is_word : FS :=
  (sRet (fAndV (fIsi .str (fVar 0)) (fCmp .In (fVar 0) (fVar 1))))
def b_is_value (g_is_integer g_names_of g_is_name g_is_word g_is_value : FF) : FS :=
  (sSeq (sIf (tOr (tNot (fTr (fIsi .tuple (fVar 1)))) (tOr (fTr (fCmp .NotIn (fBlt .len (fCons (fVar 1) fNil)) (fTup (fCons (fCon (.int 2)) (fCons (fCon (.int 4)) fNil))))) (tNot (fTr (fIsi .str (fIx (fVar 1) (fCon (.int 0)))))))) (sRet (fCon (.bl false))) sNx) (sSeq (sIf (fTr (fCmp .Eq (fIx (fVar 1) (fCon (.int 0))) (fCon (.str "number")))) (sRet (fAndV (fCmp .Eq (fBlt .len (fCons (fVar 1) fNil)) (fCon (.int 2))) (fAndV (fApp g_is_integer (fCons (fIx (fVar 1) (fCon (.int 1))) fNil)) (fCmpN (fNeg (fCon (.int 999))) [(.LtE, (fIx (fVar 1) (fCon (.int 1)))), (.LtE, (fCon (.int 999)))])))) sNx) (sSeq (sIf (fTr (fCmp .In (fIx (fVar 1) (fCon (.int 0))) (fTup (fCons (fCon (.str "name")) (fCons (fCon (.str "old")) fNil))))) (sSeq (sSet 3 (fAndV (fCmp .Eq (fBlt .len (fCons (fVar 1) fNil)) (fCon (.int 2))) (fAndV (fApp g_is_name (fCons (fIx (fVar 1) (fCon (.int 1))) fNil)) (fCmp .In (fIx (fVar 1) (fCon (.int 1))) (fApp g_names_of (fCons (fVar 0) fNil)))))) (sRet (fAndV (fVar 3) (fOrV (fVar 2) (fCmp .Eq (fIx (fVar 1) (fCon (.int 0))) (fCon (.str "name"))))))) sNx) (sSeq (sIf (tOr (fTr (fCmp .NotEq (fIx (fVar 1) (fCon (.int 0))) (fCon (.str "two")))) (tOr (fTr (fCmp .NotEq (fBlt .len (fCons (fVar 1) fNil)) (fCon (.int 4)))) (tNot (fTr (fApp g_is_word (fCons (fIx (fVar 1) (fCon (.int 1))) (fCons (fCon (.tup [.str "+", .str "-", .str "*", .str "min", .str "max"])) fNil))))))) (sRet (fCon (.bl false))) sNx) (sRet (fAndV (fApp g_is_value (fCons (fVar 0) (fCons (fIx (fVar 1) (fCon (.int 2))) (fCons (fVar 2) fNil)))) (fApp g_is_value (fCons (fVar 0) (fCons (fIx (fVar 1) (fCon (.int 3))) (fCons (fVar 2) fNil))))))))))
def b_is_truth (g_is_truth g_is_value : FF) : FS :=
  (sSeq (sIf (tOr (tNot (fTr (fIsi .tuple (fVar 1)))) (tOr (fTr (fCmp .NotIn (fBlt .len (fCons (fVar 1) fNil)) (fTup (fCons (fCon (.int 2)) (fCons (fCon (.int 3)) fNil))))) (tNot (fTr (fIsi .str (fIx (fVar 1) (fCon (.int 0)))))))) (sRet (fCon (.bl false))) sNx) (sSeq (sIf (fTr (fCmp .Eq (fIx (fVar 1) (fCon (.int 0))) (fCon (.str "truth")))) (sRet (fAndV (fCmp .Eq (fBlt .len (fCons (fVar 1) fNil)) (fCon (.int 2))) (fOrV (fCmp .Is (fIx (fVar 1) (fCon (.int 1))) (fCon (.bl true))) (fCmp .Is (fIx (fVar 1) (fCon (.int 1))) (fCon (.bl false)))))) sNx) (sSeq (sIf (fTr (fCmp .Eq (fIx (fVar 1) (fCon (.int 0))) (fCon (.str "not")))) (sRet (fAndV (fCmp .Eq (fBlt .len (fCons (fVar 1) fNil)) (fCon (.int 2))) (fApp g_is_truth (fCons (fVar 0) (fCons (fIx (fVar 1) (fCon (.int 1))) (fCons (fVar 2) fNil)))))) sNx) (sSeq (sIf (fTr (fCmp .NotEq (fBlt .len (fCons (fVar 1) fNil)) (fCon (.int 3)))) (sRet (fCon (.bl false))) sNx) (sSeq (sIf (fTr (fCmp .In (fIx (fVar 1) (fCon (.int 0))) (fTup (fCons (fCon (.str "same")) (fCons (fCon (.str "below")) fNil))))) (sRet (fAndV (fApp g_is_value (fCons (fVar 0) (fCons (fIx (fVar 1) (fCon (.int 1))) (fCons (fVar 2) fNil)))) (fApp g_is_value (fCons (fVar 0) (fCons (fIx (fVar 1) (fCon (.int 2))) (fCons (fVar 2) fNil)))))) sNx) (sRet (fAndV (fCmp .In (fIx (fVar 1) (fCon (.int 0))) (fCon (.tup [.str "and", .str "or"]))) (fAndV (fApp g_is_truth (fCons (fVar 0) (fCons (fIx (fVar 1) (fCon (.int 1))) (fCons (fVar 2) fNil)))) (fApp g_is_truth (fCons (fVar 0) (fCons (fIx (fVar 1) (fCon (.int 2))) (fCons (fVar 2) fNil))))))))))))
def c_is_integer : FF := runF false 1 1 (b_is_integer)
def c_is_name : FF := runF false 1 2 (b_is_name)
def c_is_word : FF := runF false 2 2 (b_is_word)
end Com

/-! Names, numbers: what is one. -/
namespace Com
open PySem Cs
def LET : Str := "abcdefghijklmnopqrstuvwxyz"
def FIG : Str := "0123456789"
def isLet (c : Nat) : Bool := decide (c ∈ LET.cps.toList)
def isLF (c : Nat) : Bool := decide (c ∈ (LET ++ FIG).cps.toList)
/-- a name, by its signs -/
def nmL : List Nat → Bool
  | [] => false
  | c :: r => decide (r.length < 12) && isLet c && (c :: r).all isLF
def nmS (z : Str) : Bool := nmL z.cps.toList
theorem str_len (z : Str) : z.length = z.cps.toList.length := by simp [Str.length]
theorem iVar_str {e : Sto} {m : Mem} {i : Nat} {z : Str} (h : atV e i = some (.str z)) : iVar i e m = .ok (z.cps.toList.map fun c => .str ⟨#[c]⟩, []) m := by
  have : e[i]? = some (some (.str z)) := by
    unfold atV at h
    cases q : e[i]? with
    | none => rw [q] at h; cases h
    | some x => rw [q] at h; simp at h; rw [h]
  unfold iVar
  rw [this]
  unfold iVal fVar
  rw [this]
  rfl
theorem in_chr (c : Nat) (z : Str) (m : Mem) : cmpD .In (.str ⟨#[c]⟩) (.str z) m = some (decide (c ∈ z.cps.toList)) := by
  show inD (.str ⟨#[c]⟩) (.str z) = _
  simp [inD]
theorem notin_chr (c : Nat) (z : Str) (m : Mem) : cmpD .NotIn (.str ⟨#[c]⟩) (.str z) m = some (!decide (c ∈ z.cps.toList)) := by
  show (inD (.str ⟨#[c]⟩) (.str z)).map (!·) = _
  simp [inD]
theorem len_str {m : Mem} {z : Str} (h : z.length ≤ 100000) : bltD .len [.str z] m = some (.int z.length) := by
  show lenB (.str z) m = _
  have : z.length ≤ sizeLine := sl_of (by omega)
  simp [lenB, this]
theorem ix_str0 {m : Mem} {z : Str} {c : Nat} {r : List Nat} (h : z.length ≤ 100000) (hz : z.cps.toList = c :: r) : ixD (.str z) (.int 0) m = some (.str ⟨#[c]⟩) := by
  have : z.length ≤ sizeLine := sl_of (by omega)
  simp [ixD, this, hz, L2.atI, L2.ixN]
theorem isname_str (z : Str) (h : z.length ≤ 100000) (m : Mem) : c_is_name [.str z] m = .ok (.bl (nmS z)) m := by
  unfold c_is_name
  rw [runF_ap (np := 1) _ rfl]
  unfold b_is_name
  have hl := str_len z
  have e1 := len_str (m := m) h
  unfold nmS
  cases hz : z.cps.toList with
  | nil =>
    rw [hz] at hl
    simp [e1, hl, nmL]
  | cons c r =>
    rw [hz] at hl
    simp only [List.length_cons] at hl
    have e2 := ix_str0 (m := m) h hz
    have e3 : cmpD .NotIn (.str ⟨#[c]⟩) (.str "abcdefghijklmnopqrstuvwxyz") m = some (!isLet c) := notin_chr c LET m
    have h1 : (1 : Int) ≤ z.length := by omega
    by_cases h12 : r.length < 12
    case neg =>
      have h2 : ¬ (z.length : Int) ≤ 12 := by omega
      simp [e1, h1, h2, nmL, h12]
    have h2 : (z.length : Int) ≤ 12 := by omega
    cases hc : isLet c with
    | false =>
      simp [e1, h1, h2, e2, e3, nmL, h12, hc]
    | true =>
      have hz9 : ("abcdefghijklmnopqrstuvwxyz" : Str).length + ("0123456789" : Str).length ≤ sizeLine := sl_of (by decide)
      have ea : ∀ m, binD .Add (.str "abcdefghijklmnopqrstuvwxyz") (.str "0123456789") m = some (.str (LET ++ FIG)) := fun m => by
        simp only [binD, res_str, hz9, if_true]
        rfl
      have el : ∀ e : Sto, e = [some (.str z), none] → fLc [1] (.name 1) (iVar 0) Cs.tYes (fCmp .In (fVar 1) (fBin .Add (fCon (.str "abcdefghijklmnopqrstuvwxyz")) (fCon (.str "0123456789")))) e m = .ok (.lst ((z.cps.toList.map isLF).map .bl)) m := by
        rintro e rfl
        refine fLc_ap (p := (z.cps.toList.map fun c => .str ⟨#[c]⟩, [])) (iVar_str (by simp)) ?_ (by rw [List.length_map, List.length_map, hz]; exact sl_of (by simp only [List.length_cons]; omega))
        refine (lcGo_map (g := fun d => match d with | .str ⟨⟨[c]⟩⟩ => .bl (isLF c) | _ => .non) same_nil fun k hk => ?_).trans ?_
        · obtain ⟨c', _, rfl⟩ := List.mem_map.mp hk
          refine ⟨_, rfl, rfl, ?_⟩
          have : cmpD .In (.str ⟨#[c']⟩) (.str (LET ++ FIG)) m = some (isLF c') := in_chr c' (LET ++ FIG) m
          simp [ea, this]
        · rw [List.map_map, List.map_map]
          rfl
      rw [hz] at el
      have ha := all_map (m := m) ((c :: r).map isLF)
      simp at ha
      simp [e1, h1, h2, e2, e3, el, ha, nmL, h12, hc]
/-- no cell within -/
def flat0 : D → Bool
  | .ref _ => false
  | .scr _ => false
  | _ => true
theorem isname_not (d : D) (h : flat0 d = true) (hs : ∀ z, d ≠ .str z) (m : Mem) : c_is_name [d] m = .ok (.bl false) m := by
  unfold c_is_name
  rw [runF_ap (np := 1) _ rfl]
  unfold b_is_name
  cases d with
  | str z => exact absurd rfl (hs z)
  | ref n => cases h
  | scr n => cases h
  | _ => simp
def isI : D → Bool
  | .int _ => true
  | _ => false
theorem isint_ok (d : D) (h : flat0 d = true) (m : Mem) : c_is_integer [d] m = .ok (.bl (isI d)) m := by
  unfold c_is_integer
  rw [runF_ap (np := 1) _ rfl]
  unfold b_is_integer
  cases d with
  | ref n => cases h
  | scr n => cases h
  | _ => simp [isI]
theorem isword_not (d : D) (h : flat0 d = true) (hs : ∀ z, d ≠ .str z) (ws : D) (m : Mem) : c_is_word [d, ws] m = .ok (.bl false) m := by
  unfold c_is_word
  rw [runF_ap (np := 2) _ rfl]
  unfold b_is_word
  cases d with
  | str z => exact absurd rfl (hs z)
  | ref n => cases h
  | scr n => cases h
  | _ => simp
theorem isword_str (z : Str) (ws : List Str) (m : Mem) : c_is_word [.str z, .tup (ws.map .str)] m = .ok (.bl (ws.any (· == z))) m := by
  unfold c_is_word
  rw [runF_ap (np := 2) _ rfl]
  unfold b_is_word
  have := in_strs (m := m) z ws
  simp [this]
end Com

/-! Expressions and conditions told from other values. -/
namespace Com
open PySem Cs
mutual
/-- texts, numbers, tuples, lists: no dict, no cell, no long text -/
def fine : D → Bool
  | .str z => decide (z.length ≤ 1000)
  | .tup ds => fineL ds
  | .lst ds => fineL ds
  | .dct _ _ => false
  | .ref _ => false
  | .scr _ => false
  | _ => true
def fineL : List D → Bool
  | [] => true
  | d :: ds => fine d && fineL ds
end
mutual
theorem fine_plain : ∀ d : D, fine d = true → Cs.plain d = true
  | .non, _ => rfl
  | .bl _, _ => rfl
  | .int _, _ => rfl
  | .str _, _ => rfl
  | .tup ds, h => by simp only [fine] at h; simp only [Cs.plain]; exact fine_plainL ds h
  | .lst ds, h => by simp only [fine] at h; simp only [Cs.plain]; exact fine_plainL ds h
  | .dct _ _, h => by simp [fine] at h
  | .ref _, h => by simp [fine] at h
  | .scr _, h => by simp [fine] at h
theorem fine_plainL : ∀ d : List D, fineL d = true → plainL d = true
  | [], _ => rfl
  | d :: ds, h => by
    simp only [fineL, Bool.and_eq_true] at h
    simp only [plainL, fine_plain d h.1, fine_plainL ds h.2, Bool.and_self]
end
theorem fine_flat0 {d : D} (h : fine d = true) : flat0 d = true := by
  cases d with
  | ref _ => simp [fine] at h
  | scr _ => simp [fine] at h
  | _ => rfl
def n999 : D → Bool
  | .int i => decide (-999 ≤ i) && decide (i ≤ 999)
  | _ => false
def isSgS (z : Str) : Bool := (["+", "-", "*", "min", "max"] : List Str).any (· == z)
def inS (ws : List Str) : D → Bool
  | .str z => ws.any (· == z)
  | _ => false
def isTr : D → Bool
  | .bl _ => true
  | _ => false
/-- an expression of these names, with old values or without -/
def isE (ns : List Str) (o : Bool) : D → Bool
  | .tup [.str w, x] => if w = "number" then n999 x else if w = "name" then inS ns x else if w = "old" then inS ns x && o else false
  | .tup [.str w, s, a, b] => decide (w = "two") && inS ["+", "-", "*", "min", "max"] s && isE ns o a && isE ns o b
  | _ => false
def isC (ns : List Str) (o : Bool) : D → Bool
  | .tup [.str w, x] => if w = "truth" then isTr x else if w = "not" then isC ns o x else false
  | .tup [.str w, a, b] => if w = "same" ∨ w = "below" then isE ns o a && isE ns o b else if w = "and" ∨ w = "or" then isC ns o a && isC ns o b else false
  | _ => false
structure Vl (i n m w v : Nat → FF) : Prop where
  hi : ∀ k, i (k + 1) = c_is_integer
  hn : ∀ k, n (k + 1) = c_names_of
  hm : ∀ k, m (k + 1) = c_is_name
  hw : ∀ k, w (k + 1) = c_is_word
  hv : ∀ k, v (k + 1) = runF false 3 4 (b_is_value (i k) (n k) (m k) (w k) (v k))
theorem in_ints2 (i a b : Int) (m : Mem) : cmpD .NotIn (.int i) (.tup [.int a, .int b]) m = some (!(a == i || b == i)) := by
  show (inD (.int i) (.tup [.int a, .int b])).map (!·) = _
  simp [inD, Cs.plain, plainL, dep, depL, eqD]
theorem len_tupN {m : Mem} (ds : List D) : bltD .len [.tup ds] m = some (.int ds.length) := rfl
theorem ix_h (a : D) (r : List D) (m : Mem) : ixD (.tup (a :: r)) (.int 0) m = some a := ix_tup (by omega) rfl
theorem isi_fine {d : D} (t : Ty) (h : fine d = true) (m : Mem) : Cs.res m d = d := by
  cases d with
  | ref _ => simp [fine] at h
  | scr _ => simp [fine] at h
  | _ => rfl
theorem isiS (d : D) (h : fine d = true) : isiD .str d = some (match d with | .str _ => true | _ => false) := by
  cases d with
  | ref _ => simp [fine] at h
  | scr _ => simp [fine] at h
  | _ => rfl
def isS : D → Bool
  | .str _ => true
  | _ => false
/-- the test ahead of all: a tuple of so many, a text first -/
def hd2 (a b : Nat) : D → Bool
  | .tup (.str _ :: r) => decide (r.length + 1 = a) || decide (r.length + 1 = b)
  | _ => false
theorem head_ok (d : D) (h : fine d = true) (a b : Nat) (ha : 1 ≤ a) (hb : 1 ≤ b) {e : Sto} {m : Mem} (he : atV e 1 = some d) :
    (tOr (tNot (fTr (fIsi .tuple (fVar 1)))) (tOr (fTr (fCmp .NotIn (fBlt .len (fCons (fVar 1) fNil)) (fTup (fCons (fCon (.int a)) (fCons (fCon (.int b)) fNil))))) (tNot (fTr (fIsi .str (fIx (fVar 1) (fCon (.int 0)))))))) e m = .ok (!hd2 a b d) m := by
  cases d with
  | tup ds =>
    cases ds with
    | nil =>
      have h1 : (a : Int) ≠ 0 := by omega
      have h2 : (b : Int) ≠ 0 := by omega
      simp [he, in_ints2, hd2, h1, h2]
      intro q
      exact absurd (q (by omega)) (by omega)
    | cons x r =>
      simp only [fine, fineL, Bool.and_eq_true] at h
      have e1 := ix_h x r m
      have e2 := isi_fine .str h.1 m
      have e3 := isiS x h.1
      have e4 : ((a : Int) == ((r.length : Int) + 1)) = decide (r.length + 1 = a) := by
        by_cases q : r.length + 1 = a
        · have : (a : Int) = (r.length : Int) + 1 := by omega
          simp [q, this]
        · have : ¬ (a : Int) = (r.length : Int) + 1 := by omega
          simp [q, this]
      have e5 : ((b : Int) == ((r.length : Int) + 1)) = decide (r.length + 1 = b) := by
        by_cases q : r.length + 1 = b
        · have : (b : Int) = (r.length : Int) + 1 := by omega
          simp [q, this]
        · have : ¬ (b : Int) = (r.length : Int) + 1 := by omega
          simp [q, this]
      have e6 := in_ints2 ((r.length : Int) + 1) a b m
      rw [e4, e5] at e6
      by_cases q1 : r.length + 1 = a <;> by_cases q2 : r.length + 1 = b <;> cases x <;> simp_all [hd2]
  | ref _ => simp [fine] at h
  | scr _ => simp [fine] at h
  | _ => simp [he, hd2]

theorem names_str (fr : List Row) : (nms fr).map D.str = (nms fr).map D.str := rfl
theorem n999_eq (i : Int) : n999 (.int i) = (decide (-999 ≤ i) && decide (i ≤ 999)) := rfl
theorem hd2_no {a b : Nat} {d : D} (h : hd2 a b d = false) (ns : List Str) (o : Bool) (ha : a = 2) (hb : b = 4) : isE ns o d = false := by
  subst ha hb
  unfold isE
  split
  · simp [hd2] at h
  · simp [hd2] at h
  · rfl
theorem isvalue_ok {i n mm w v : Nat → FF} (W : Vl i n mm w v) {fr : List Row} (hf : fr.length ≤ 1000) (hnm : ∀ z ∈ nms fr, nmS z = true) (o : Bool) : ∀ (k : Nat) (d : D), fine d = true → dep d + 2 ≤ k → ∀ m, v k [enc fr, d, .bl o] m = .ok (.bl (isE (nms fr) o d)) m
  | 0, _, _, hk, _ => by omega
  | 1, _, _, hk, _ => by omega
  | k + 2, d, h, hk, m => by
    rw [W.hv, W.hi, W.hn, W.hm, W.hw, runF_ap (np := 3) _ rfl]
    unfold b_is_value
    have e0 := head_ok d h 2 4 (by omega) (by omega) (e := [some (enc fr), some d, some (.bl o), none]) (m := m) (by simp)
    rw [show ((2 : Nat) : Int) = 2 from rfl, show ((4 : Nat) : Int) = 4 from rfl] at e0
    have e1 := names_ok fr hf m
    rw [sSeq_ap, sIf_ap]
    simp only [List.map_cons, List.map_nil, List.length_cons, List.length_nil, List.replicate, List.cons_append, List.nil_append]
    rw [e0]
    cases hh : hd2 2 4 d with
    | false =>
      rw [hd2_no hh _ _ rfl rfl]
      simp
    | true =>
      obtain ⟨w, r, rfl, hr⟩ : ∃ w r, d = .tup (.str w :: r) ∧ (r.length = 1 ∨ r.length = 3) := by
        unfold hd2 at hh
        split at hh
        · rename_i w r
          simp only [Bool.or_eq_true, decide_eq_true_eq] at hh
          exact ⟨w, r, rfl, by omega⟩
        · cases hh
      simp only [fine, fineL, Bool.and_eq_true] at h
      simp only [dep, depL] at hk
      rcases hr with hr | hr
      · match r, hr with
        | [x], _ =>
          simp only [fineL, Bool.and_eq_true] at h
          simp only [depL] at hk
          have i1 := isint_ok x (fine_flat0 h.2.1) m
          by_cases q1 : w = "number"
          · subst q1
            cases x with
            | int i =>
              by_cases g1 : -999 ≤ i
              · by_cases g2 : i ≤ 999 <;> simp [i1, isI, isE, n999, g1, g2]
              · simp [i1, isI, isE, n999, g1]
            | _ => simp [i1, isI, isE, n999]
          have q1' : (w == ("number" : Str)) = false := by rw [beq_eq_false_iff_ne]; exact q1
          by_cases q2 : w = "name" ∨ w = "old"
          · have i2 : cmpD .In (.str w) (.tup [.str "name", .str "old"]) m = some true := by
              rw [in2]
              rcases q2 with rfl | rfl <;> simp
            cases x with
            | str z =>
              have i3 := isname_str z (by have := h.2.1; simp [fine] at this; omega) m
              have i4 := in_strs (m := m) z (nms fr)
              have i5 : (nmS z && (nms fr).any (· == z)) = (nms fr).any (· == z) := by
                cases q : (nms fr).any (· == z) with
                | false => simp
                | true =>
                  obtain ⟨y, hy, e⟩ := List.any_eq_true.mp q
                  rw [← eq_of_beq e, hnm y hy]
                  rfl
              cases hz : nmS z with
              | false =>
                rw [hz] at i5
                simp only [Bool.false_and] at i5
                rcases q2 with rfl | rfl <;> simp [i2, i3, hz, isE, inS, ← i5]
              | true =>
                cases q : (nms fr).any (· == z) with
                | false =>
                  rw [q] at i4
                  rcases q2 with rfl | rfl <;> simp [i2, i3, hz, isE, inS, q, e1, i4]
                | true =>
                  rw [q] at i4
                  rcases q2 with rfl | rfl <;> cases o <;> simp [i2, i3, hz, isE, inS, q, e1, i4]
            | ref _ => simp [fine] at h
            | scr _ => simp [fine] at h
            | _ =>
              have i3 := isname_not _ (fine_flat0 h.2.1) (fun z => by simp) m
              rcases q2 with rfl | rfl <;> simp [i2, i3, isE, inS]
          · have q2' : ¬ w = "name" ∧ ¬ w = "old" := ⟨fun z => q2 (.inl z), fun z => q2 (.inr z)⟩
            have i2 : cmpD .In (.str w) (.tup [.str "name", .str "old"]) m = some false := by
              rw [in2]
              simp only [Option.some.injEq, Bool.or_eq_false_iff, beq_eq_false_iff_ne]
              exact ⟨fun z => q2'.1 z.symm, fun z => q2'.2 z.symm⟩
            by_cases q3 : w = "two"
            · subst q3
              simp [i2, isE]
            · have q3' : (w == ("two" : Str)) = false := by rw [beq_eq_false_iff_ne]; exact q3
              simp [i2, isE, q1, q1', q2', q3']
      · match r, hr with
        | [s, a, b], _ =>
          simp only [fineL, Bool.and_eq_true] at h
          simp only [depL] at hk
          have ra := isvalue_ok W hf hnm o (k + 1) a h.2.2.1 (by omega) m
          have rb := isvalue_ok W hf hnm o (k + 1) b h.2.2.2.1 (by omega) m
          by_cases q1 : w = "number"
          · subst q1; simp [isE]
          have q1' : (w == ("number" : Str)) = false := by rw [beq_eq_false_iff_ne]; exact q1
          by_cases q2 : w = "name" ∨ w = "old"
          · have i2 : cmpD .In (.str w) (.tup [.str "name", .str "old"]) m = some true := by
              rw [in2]
              rcases q2 with rfl | rfl <;> simp
            rcases q2 with rfl | rfl <;> simp [i2, isE]
          have q2' : ¬ w = "name" ∧ ¬ w = "old" := ⟨fun z => q2 (.inl z), fun z => q2 (.inr z)⟩
          have i2 : cmpD .In (.str w) (.tup [.str "name", .str "old"]) m = some false := by
            rw [in2]
            simp only [Option.some.injEq, Bool.or_eq_false_iff, beq_eq_false_iff_ne]
            exact ⟨fun z => q2'.1 z.symm, fun z => q2'.2 z.symm⟩
          by_cases q3 : w = "two"
          · subst q3
            cases s with
            | str z =>
              have i6 : c_is_word [.str z, .tup [.str "+", .str "-", .str "*", .str "min", .str "max"]] m = .ok (.bl (inS ["+", "-", "*", "min", "max"] (.str z))) m := isword_str z ["+", "-", "*", "min", "max"] m
              cases q : inS ["+", "-", "*", "min", "max"] (.str z) <;> cases qa : isE (nms fr) o a <;> simp [i2, i6, isE, q, ra, rb, qa]
            | ref _ => simp [fine] at h
            | scr _ => simp [fine] at h
            | _ =>
              have i6 := isword_not _ (fine_flat0 h.2.1) (fun z => by simp) (.tup [.str "+", .str "-", .str "*", .str "min", .str "max"]) m
              simp [i2, i6, isE, inS]
          · have q3' : (w == ("two" : Str)) = false := by rw [beq_eq_false_iff_ne]; exact q3
            simp [i2, isE, q1', q3, q3']
theorem hd2_noC {a b : Nat} {d : D} (h : hd2 a b d = false) (ns : List Str) (o : Bool) (ha : a = 2) (hb : b = 3) : isC ns o d = false := by
  subst ha hb
  unfold isC
  split
  · simp [hd2] at h
  · simp [hd2] at h
  · rfl
structure Tv (i n m w v t : Nat → FF) : Prop extends Vl i n m w v where
  ht : ∀ k, t (k + 1) = runF false 3 3 (b_is_truth (t k) (v k))
theorem isnt {b : Bool} (d : D) (m : Mem) : cmpD .Is d (.bl b) m = some (match d with | .bl j => j == b | _ => false) := by
  cases d <;> rfl
theorem istruth_ok {i n mm w v t : Nat → FF} (W : Tv i n mm w v t) {fr : List Row} (hf : fr.length ≤ 1000) (hnm : ∀ z ∈ nms fr, nmS z = true) (o : Bool) : ∀ (k : Nat) (d : D), fine d = true → dep d + 3 ≤ k → ∀ m, t k [enc fr, d, .bl o] m = .ok (.bl (isC (nms fr) o d)) m
  | 0, _, _, hk, _ => by omega
  | k + 1, d, h, hk, m => by
    rw [W.ht, runF_ap (np := 3) _ rfl]
    unfold b_is_truth
    have e0 := head_ok d h 2 3 (by omega) (by omega) (e := [some (enc fr), some d, some (.bl o)]) (m := m) (by simp)
    rw [show ((2 : Nat) : Int) = 2 from rfl, show ((3 : Nat) : Int) = 3 from rfl] at e0
    rw [sSeq_ap, sIf_ap]
    simp only [List.map_cons, List.map_nil, List.length_cons, List.length_nil, Nat.zero_add, Nat.reduceAdd, Nat.sub_self, List.replicate, List.cons_append, List.nil_append, List.append_nil]
    rw [e0]
    cases hh : hd2 2 3 d with
    | false =>
      rw [hd2_noC hh _ _ rfl rfl]
      simp
    | true =>
      obtain ⟨w, r, rfl, hr⟩ : ∃ w r, d = .tup (.str w :: r) ∧ (r.length = 1 ∨ r.length = 2) := by
        unfold hd2 at hh
        split at hh
        · rename_i w r
          simp only [Bool.or_eq_true, decide_eq_true_eq] at hh
          exact ⟨w, r, rfl, by omega⟩
        · cases hh
      simp only [fine, fineL, Bool.and_eq_true] at h
      simp only [dep, depL] at hk
      rcases hr with hr | hr
      · match r, hr with
        | [x], _ =>
          simp only [fineL, Bool.and_eq_true] at h
          simp only [depL] at hk
          by_cases q1 : w = "truth"
          · subst q1
            cases x with
            | bl b => cases b <;> simp [isnt, isC, isTr]
            | _ => simp [isnt, isC, isTr]
          have q1' : (w == ("truth" : Str)) = false := by rw [beq_eq_false_iff_ne]; exact q1
          by_cases q2 : w = "not"
          · subst q2
            have ra := istruth_ok W hf hnm o k x h.2.1 (by omega) m
            simp [isC, ra]
          · have q2' : (w == ("not" : Str)) = false := by rw [beq_eq_false_iff_ne]; exact q2
            simp [isC, q1, q2, q1', q2']
      · match r, hr with
        | [a, b], _ =>
          simp only [fineL, Bool.and_eq_true] at h
          simp only [depL] at hk
          have ra := istruth_ok W hf hnm o k a h.2.1 (by omega) m
          have rb := istruth_ok W hf hnm o k b h.2.2.1 (by omega) m
          have va := isvalue_ok W.toVl hf hnm o k a h.2.1 (by omega) m
          have vb := isvalue_ok W.toVl hf hnm o k b h.2.2.1 (by omega) m
          by_cases q1 : w = "truth"
          · subst q1; simp [isC]
          have q1' : (w == ("truth" : Str)) = false := by rw [beq_eq_false_iff_ne]; exact q1
          by_cases q2 : w = "not"
          · subst q2; simp [isC]
          have q2' : (w == ("not" : Str)) = false := by rw [beq_eq_false_iff_ne]; exact q2
          by_cases q3 : w = "same" ∨ w = "below"
          · have i2 : cmpD .In (.str w) (.tup [.str "same", .str "below"]) m = some true := by
              rw [in2]
              rcases q3 with rfl | rfl <;> simp
            cases qa : isE (nms fr) o a <;> simp [q1', q2', i2, va, vb, qa, isC, q3]
          have i2 : cmpD .In (.str w) (.tup [.str "same", .str "below"]) m = some false := by
            rw [in2]
            simp only [Option.some.injEq, Bool.or_eq_false_iff, beq_eq_false_iff_ne]
            exact ⟨fun z => q3 (.inl z.symm), fun z => q3 (.inr z.symm)⟩
          by_cases q4 : w = "and" ∨ w = "or"
          · have i3 : cmpD .In (.str w) (.tup [.str "and", .str "or"]) m = some true := by
              rw [in2]
              rcases q4 with rfl | rfl <;> simp
            cases qa : isC (nms fr) o a <;> simp [q1', q2', i2, i3, ra, rb, qa, isC, q3, q4]
          · have i3 : cmpD .In (.str w) (.tup [.str "and", .str "or"]) m = some false := by
              rw [in2]
              simp only [Option.some.injEq, Bool.or_eq_false_iff, beq_eq_false_iff_ne]
              exact ⟨fun z => q4 (.inl z.symm), fun z => q4 (.inr z.symm)⟩
            simp [q1', q2', i2, i3, isC, q3, q4]
end Com

/-! Dicts of names that are the same. -/
namespace Com
open PySem Cs
/-- a dict of names to True -/
def dK (l : List Str) : D := .dct (l.map .str) (l.map fun _ => .bl true)
theorem findK_str (x : Str) : ∀ l : List Str, findK (.str x) (l.map .str) = l.findIdx? (· == x)
  | [] => rfl
  | y :: l => by
    simp only [List.map_cons, findK, eqD, List.findIdx?_cons, findK_str x l]
theorem flat_strs : ∀ l : List Str, (l.map D.str).all flatK = true
  | [] => rfl
  | x :: l => by simp only [List.map_cons, List.all_cons, flatK, flat_strs l, Bool.and_self]
theorem getK_dK {l : List Str} {x : Str} (h : x ∈ l) : getK (l.map .str) (l.map fun _ => D.bl true) (.str x) = some (.bl true) := by
  unfold getK
  rw [findK_str]
  cases hf : l.findIdx? (· == x) with
  | none =>
    rw [List.findIdx?_eq_none_iff] at hf
    have := hf x h
    simp at this
  | some i =>
    have := (List.findIdx?_eq_some_iff_getElem.mp hf).1
    simp [this]
theorem keyD_strs (l : List Str) (x : Str) : keyD (l.map .str) (.str x) = true := by
  simp only [keyD, List.all_map, List.all_eq_true]
  intro y _
  rfl
theorem lst_repl (n : Nat) (d : D) : List.replicate (n + 1) d = List.replicate n d ++ [d] := List.replicate_succ'
theorem plain_repl (n : Nat) {d : D} (h : Cs.plain d = true) : plainL (List.replicate n d) = true := plainL_of fun e he => by rw [List.eq_of_mem_replicate he]; exact h
theorem map_repl (d : D) : ∀ l : List Str, (l.map D.str).map (fun _ => d) = List.replicate l.length d
  | [] => rfl
  | _ :: l => by
    have := map_repl d l
    simp only [List.map_cons, List.length_cons, List.replicate_succ, this]
theorem same_dK (l : List Str) (hl : l.length ≤ 1000) (m : Mem) : c__law_same [dK l, dK l] m = .ok (.bl true) m := by
  apply okR.eq
  unfold c__law_same
  refine okF rfl ?_
  unfold b__law_same
  have hsz := size_big
  simp
  refine okS.thn ?_
  refine whlT (fun n e m' => ∃ (x3 x4 x5 x6 : Option D), e = [some (dK l), some (dK l), some (.ref m.length), x3, x4, x5, x6] ∧ ((n = 5000 ∧ m' = m ++ [.lst [.tup [dK l, dK l]]]) ∨ ∃ j, n = j ∧ j ≤ l.length ∧ m' = m ++ [.lst (List.replicate j (.tup [.bl true, .bl true]))])) 5000 (by omega)
    ⟨none, none, none, none, rfl, .inl ⟨rfl, rfl⟩⟩ ?_
  rintro n e m' ⟨x3, x4, x5, x6, rfl, h⟩
  rcases h with ⟨rfl, rfl⟩ | ⟨j, hnj, hj, rfl⟩
  · refine .inr ⟨?_, ?_⟩
    · have : cmpD .NotEq (.ref m.length) (.lst []) (m ++ [Cell.lst [.tup [dK l, dK l]]]) = some true := by
        simp [cmpD, Cs.res, eqOk, lst0, Cs.plain, plainL, dK, eqD, eqL]
      simp [this]
    · intro Q' tn
      have ep := pop_last (m0 := m) (i := 2) (e := [some (dK l), some (dK l), some (.ref m.length), x3, x4, x5, x6]) (L := []) (x := .tup [dK l, dK l]) (by simp)
      simp only [List.nil_append] at ep
      rw [sSeq_ap, sAsg_ap, ep]
      simp only [sBd_ok, bindT_tup, bindL_cons, bindL_nil, bindT_name, Option.bind_some, sOf_some, sThen_nx, List.set_cons_succ, List.set_cons_zero]
      have el : ∀ e : Sto, e = [some (dK l), some (dK l), some (.ref m.length), some (dK l), some (dK l), x5, x6] → fLc [5] (.name 5) (iVar 4) (fTr (fCmp .NotIn (fVar 5) (fVar 3))) (fVar 5) e (m ++ [Cell.lst []]) = .ok (.lst []) (m ++ [Cell.lst []]) := by
        rintro e rfl
        refine fLc_ap (p := (l.map .str, [])) (iVar_dct (ks := l.map .str) (vs := l.map fun _ => .bl true) (by simp; rfl) (flat_strs l)) ?_ (by simp)
        refine (lcGo_pure (p := fun _ => false) (g := fun d => d) same_nil fun d hd => ?_).trans (by simp)
        obtain ⟨x, hx, rfl⟩ := List.mem_map.mp hd
        refine ⟨_, rfl, ?_, fun h => by cases h⟩
        have : cmpD .NotIn (.str x) (dK l) (m ++ [Cell.lst []]) = some false := by
          show (inD (.str x) (dK l)).map (!·) = _
          simp only [inD, dK, keyD_strs, if_true, getK_dK hx]
          rfl
        simp [this]
      have el2 : ∀ e : Sto, e = [some (dK l), some (dK l), some (.ref m.length), some (dK l), some (dK l), x5, x6] → fLc [5] (.name 5) (iVar 4) Cs.tYes (fTup (fCons (fIx (fVar 3) (fVar 5)) (fCons (fIx (fVar 4) (fVar 5)) fNil))) e (m ++ [Cell.lst []]) = .ok (.lst (List.replicate l.length (.tup [.bl true, .bl true]))) (m ++ [Cell.lst []]) := by
        rintro e rfl
        refine fLc_ap (p := (l.map .str, [])) (iVar_dct (ks := l.map .str) (vs := l.map fun _ => .bl true) (by simp; rfl) (flat_strs l)) ?_ (by rw [List.length_replicate]; omega)
        refine (lcGo_map (g := fun _ => .tup [.bl true, .bl true]) same_nil fun d hd => ?_).trans (by rw [map_repl])
        obtain ⟨x, hx, rfl⟩ := List.mem_map.mp hd
        refine ⟨_, rfl, rfl, ?_⟩
        have : ixD (dK l) (.str x) (m ++ [Cell.lst []]) = some (.bl true) := by
          show (if keyD (l.map .str) (.str x) then getK (l.map .str) (l.map fun _ => D.bl true) (.str x) else none) = _
          rw [keyD_strs, getK_dK hx]
          rfl
        simp [this]
      have elen : ∀ m, bltD .len [dK l] m = some (.int l.length) := fun m => by
        show (if (l.map D.str).all flatK = true then some (D.int (l.map D.str).length) else none) = _
        rw [flat_strs, if_pos rfl, List.length_map]
      have edct : ∀ m, isiD .dict (Cs.res m (dK l)) = some true := fun m => rfl
      have hx := ext_last (m0 := m) (m1 := m) (i := 2) (e := [some (dK l), some (dK l), some (.ref m.length), some (dK l), some (dK l), x5, x6]) (L := []) (X := List.replicate l.length (.tup [.bl true, .bl true]))
        (fs := fCons (fLc [5] (.name 5) (iVar 4) Cs.tYes (fTup (fCons (fIx (fVar 3) (fVar 5)) (fCons (fIx (fVar 4) (fVar 5)) fNil)))) fNil) (by simp) rfl (by simp [el2]) (by simp; omega)
      simp [edct, elen, el, cmpD, eqOk, Cs.plain, plainL, dep, depL, eqD, eqL, hx]
      exact okS.mk (tn.nx _ _ ⟨l.length, by omega, _, _, _, _, rfl, .inr ⟨l.length, rfl, Nat.le_refl _, by simp⟩⟩)
  · obtain rfl := hnj.symm
    have et : cmpD .NotEq (.ref m.length) (.lst []) (m ++ [Cell.lst (List.replicate j (.tup [.bl true, .bl true]))]) = some (decide (0 < j)) := by
      have hp : plainL (List.replicate j (D.tup [.bl true, .bl true])) = true := plain_repl j rfl
      have hd : min (depL (List.replicate j (D.tup [.bl true, .bl true])) + 1) 1 ≤ 150 := by omega
      cases j with
      | zero => simp [cmpD, Cs.res, eqOk, Cs.plain, plainL, dep, depL, eqD, eqL]
      | succ j =>
        rw [List.replicate_succ] at hp hd ⊢
        simp [cmpD, Cs.res, eqOk, Cs.plain, hp, dep, hd, eqD, eqL, plainL, depL, lst0]
    cases j with
    | zero =>
      refine .inl ⟨?_, ?_⟩
      · simp only [List.replicate_zero] at et
        simp [et]
      · simp
        exact okS.mk (by simp [gcR_plain (d := .bl true) (m := m) (x := [Cell.lst []]) rfl]; exact okR.mk ⟨rfl, rfl⟩)
    | succ j =>
      refine .inr ⟨by simp [et], ?_⟩
      intro Q' tn
      rw [lst_repl]
      have ep := pop_last (m0 := m) (i := 2) (e := [some (dK l), some (dK l), some (.ref m.length), x3, x4, x5, x6]) (L := List.replicate j (.tup [.bl true, .bl true])) (x := .tup [.bl true, .bl true]) (by simp)
      rw [sSeq_ap, sAsg_ap, ep]
      simp
      exact okS.mk (tn.nx _ _ ⟨j, by omega, _, _, _, _, rfl, .inr ⟨j, rfl, by omega, rfl⟩⟩)
end Com

/-! Commands. -/
namespace Com
open PySem Cs
inductive W3 where
  | skip | abort | magic
  deriving DecidableEq
def W3.str : W3 → Str
  | .skip => "skip"
  | .abort => "abort"
  | .magic => "magic"
/-- commands, as the laws draw them -/
inductive Cm where
  | word (w : W3)
  | set (ps : List (Str × E))
  | asr (w : Bool) (c : Cd)
  | seq (w : Bool) (a b : Cm)
  | if2 (g : Cd) (a : Cm) (h : Cd) (b : Cm)
  | do1 (g : Cd) (a : Cm)
  | spec (ns : List Str) (p q : Cd)
  | var (x : Str) (lo hi : Int) (a : Cm)
def wAsr (w : Bool) : Str := if w then "assert" else "assume"
def wSeq (w : Bool) : Str := if w then "then" else "any"
def encP (p : Str × E) : D := .tup [.str p.1, p.2.enc]
def Cm.enc : Cm → D
  | .word w => .tup [.str w.str]
  | .set ps => .tup [.str "set", .tup (ps.map encP)]
  | .asr w c => .tup [.str (wAsr w), c.enc]
  | .seq w a b => .tup [.str (wSeq w), a.enc, b.enc]
  | .if2 g a h b => .tup [.str "if", .tup [.tup [g.enc, a.enc], .tup [h.enc, b.enc]]]
  | .do1 g a => .tup [.str "do", .tup [.tup [g.enc, a.enc]]]
  | .spec ns p q => .tup [.str "spec", .tup (ns.map .str), p.enc, q.enc]
  | .var x lo hi a => .tup [.str "var", .str x, .int lo, .int hi, a.enc]
def Cm.parts : Cm → List Cm
  | .seq _ a b => [a, b]
  | .if2 _ a _ b => [a, b]
  | .do1 _ a => [a]
  | .var _ _ _ a => [a]
  | _ => []
/-- other parts in their stead -/
def Cm.with : Cm → List Cm → Cm
  | .seq w _ _, [a, b] => .seq w a b
  | .if2 g _ h _, [a, b] => .if2 g a h b
  | .do1 g _, [a] => .do1 g a
  | .var x l h _, [a] => .var x l h a
  | c, _ => c
def Cm.dp : Cm → Nat
  | .seq _ a b => max a.dp b.dp + 1
  | .if2 _ a _ b => max a.dp b.dp + 1
  | .do1 _ a => a.dp + 1
  | .var _ _ _ a => a.dp + 1
  | _ => 0
theorem Cm.parts_dp {c d : Cm} (h : d ∈ c.parts) : d.dp < c.dp := by
  cases c <;> simp only [Cm.parts, List.mem_cons, List.not_mem_nil, or_false] at h
  · rcases h with rfl | rfl <;> simp only [Cm.dp] <;> omega
  · rcases h with rfl | rfl <;> simp only [Cm.dp] <;> omega
  · subst h; simp only [Cm.dp]; omega
  · subst h; simp only [Cm.dp]; omega
theorem Cm.with_parts (c : Cm) : c.with c.parts = c := by cases c <;> rfl
theorem Cm.parts_len (c : Cm) : c.parts.length ≤ 2 := by cases c <;> simp [Cm.parts]
def Cm.wd : Cm → Str
  | .word w => w.str
  | .set _ => "set"
  | .asr w _ => wAsr w
  | .seq w _ _ => wSeq w
  | .if2 _ _ _ _ => "if"
  | .do1 _ _ => "do"
  | .spec _ _ _ => "spec"
  | .var _ _ _ _ => "var"
theorem Cm.enc_tup (c : Cm) : ∃ r, c.enc = .tup (.str c.wd :: r) := by cases c <;> exact ⟨_, rfl⟩
end Com

/-! A frame with one name more: in order. -/
namespace Com
open PySem Cs
theorem row_alike (r q : Row) : PySem.W.alike (py (encR r)) (py (encR q)) = true := by simp [encR, py, pyL, PySem.W.alike, PySem.W.alikeAll]
theorem rows_sort (rs : List Row) : sortOk (rs.map encR) = true := by
  unfold sortOk
  simp only [Bool.and_eq_true, decide_eq_true_eq, Bool.or_eq_true, List.all_eq_true]
  refine ⟨⟨⟨plain_rows rs, ?_⟩, ?_⟩, .inl ?_⟩
  · have : depL (rs.map encR) ≤ 1 := depL_of fun d hd => by
      obtain ⟨r, _, rfl⟩ := List.mem_map.mp hd
      simp [encR, dep, depL]
    omega
  · intro d hd d' hd'
    obtain ⟨r, _, rfl⟩ := List.mem_map.mp hd
    obtain ⟨q, _, rfl⟩ := List.mem_map.mp hd'
    exact row_alike r q
  · intro d hd
    obtain ⟨r, _, rfl⟩ := List.mem_map.mp hd
    rfl
def leR (r q : Row) : Bool := PySem.W.dataLe false py (encR r) (encR q)
/-- rows in order -/
def srtR (rs : List Row) : List Row := rs.mergeSort leR
theorem sort_rows (rs : List Row) : sortL (rs.map encR) = (srtR rs).map encR := by
  unfold sortL srtR
  rw [List.map_mergeSort (r := leR) (s := PySem.W.dataLe false py) (f := encR) (fun _ _ _ _ => rfl)]
theorem sorted_rows (rs : List Row) (m : Mem) : bltD .sorted [.tup (rs.map encR)] m = some (.lst ((srtR rs).map encR)) := by
  show (((seqD m (.tup (rs.map encR))).bind fun ds => if sortOk ds then some (D.lst (sortL ds)) else none)) = _
  have : seqD m (.tup (rs.map encR)) = some (rs.map encR) := rfl
  rw [this, Option.bind_some, rows_sort, sort_rows]
  rfl
theorem srtR_mem {rs : List Row} {r : Row} : r ∈ srtR rs ↔ r ∈ rs := List.mem_mergeSort
theorem srtR_len (rs : List Row) : (srtR rs).length = rs.length := List.length_mergeSort _
theorem srtR_any (rs : List Row) (z : Str) : (nms (srtR rs)).any (· == z) = (nms rs).any (· == z) := by
  unfold nms
  rw [List.any_map, List.any_map, Bool.eq_iff_iff, List.any_eq_true, List.any_eq_true]
  constructor
  · rintro ⟨r, h, e⟩; exact ⟨r, srtR_mem.mp h, e⟩
  · rintro ⟨r, h, e⟩; exact ⟨r, srtR_mem.mpr h, e⟩
theorem leR_lt {r q : Row} (h : ltS r.1 q.1 = true) : leR r q = true := by
  unfold leR
  rw [PySem.W.dataLe_eq]
  have hne : q.1 ≠ r.1 := by
    intro e
    unfold ltS at h
    rw [e, decide_eq_true_eq] at h
    exact List.lt_irrefl _ h
  have h2 : PySem.W.dataLt (py (encR q)) (py (encR r)) = false := by
    show PySem.W.dataLt (.tuple (.str q.1 :: _)) (.tuple (.str r.1 :: _)) = false
    rw [PySem.W.dataLt_tuple, PySem.W.dataLt_cons (by simp [PySem.W.alike])]
    have : PyData.eqv (.str q.1) (.str r.1) = false := by simpa [PyData.eqv] using hne
    rw [this, if_neg (by simp), PySem.W.dataLt_str, decide_eq_false_iff_not]
    unfold ltS at h
    rw [decide_eq_true_eq] at h
    exact fun q => List.lt_asymm h q
  simp only [cond_false, h2, Bool.not_false]
theorem srtR_ord {rs : List Row} (h : rs.Pairwise fun a b => ltS a.1 b.1 = true) : srtR rs = rs :=
  List.mergeSort_of_pairwise (h.imp fun h => leR_lt h)
end Com

/-! Commands told from other values. -/
namespace Com
open PySem Cs
/-- texts in order, each above the one ahead -/
def ascS : List Str → Bool
  | a :: b :: r => ltS a b && ascS (b :: r)
  | _ => true
/-- names of these, in order -/
def strsD : List D → Option (List Str)
  | [] => some []
  | .str z :: r => (strsD r).map (z :: ·)
  | _ => none
def isNs (ns : List Str) : D → Bool
  | .tup ds => (match strsD ds with
    | some zs => zs.all (fun z => nmS z && ns.any (· == z)) && ascS zs
    | none => false)
  | _ => false
/-- pairs of names and expressions -/
def prsD (ns : List Str) : List D → Option (List Str)
  | [] => some []
  | .tup [.str z, e] :: r => if nmS z && ns.any (· == z) && isE ns false e then (prsD ns r).map (z :: ·) else none
  | _ => none
def isPr (ns : List Str) : D → Bool
  | .tup [] => false
  | .tup ds => (match prsD ns ds with
    | some zs => ascS zs
    | none => false)
  | _ => false
def isRg : D → D → Option (Int × Int)
  | .int a, .int b => if -99 ≤ a ∧ a ≤ b ∧ b ≤ 99 then some (a, b) else none
  | _, _ => none
mutual
/-- a command over this frame -/
def isK (fr : List Row) : D → Bool
  | .tup [.str w] => w == "skip" || w == "abort" || w == "magic"
  | .tup [.str w, x] => if w = "set" then isPr (nms fr) x else if w = "if" ∨ w = "do" then isG fr x else if w = "assert" ∨ w = "assume" then isC (nms fr) false x else false
  | .tup [.str w, a, b] => if w = "then" ∨ w = "any" then isK fr a && isK fr b else false
  | .tup [.str w, a, p, q] => if w = "spec" then isNs (nms fr) a && isC (nms fr) false p && isC (nms fr) true q else false
  | .tup [.str w, .str z, lo, hi, a] => if w = "var" then (if nmS z && !(nms fr).any (· == z) then (match isRg lo hi with
    | some (l, h) => isK (srtR (fr ++ [(z, l, h)])) a
    | none => false) else false) else false
  | _ => false
def isG (fr : List Row) : D → Bool
  | .tup (g :: gs) => isGs fr (g :: gs)
  | _ => false
def isGs (fr : List Row) : List D → Bool
  | [] => true
  | .tup [c, a] :: r => isC (nms fr) false c && isK fr a && isGs fr r
  | _ => false
end
end Com

/-! Words: all of a comprehension; rows that ascend. -/
namespace Com
open PySem Cs
theorem boolsD_map (p : D → Bool) : ∀ ds : List D, boolsD (ds.map fun d => .bl (p d)) = some (ds.map p)
  | [] => rfl
  | d :: ds => by simp only [List.map_cons, boolsD, boolsD_map p ds, Option.map_some]
theorem all_mapD {m : Mem} (p : D → Bool) (ds : List D) : bltD .all [.lst (ds.map fun d => .bl (p d))] m = some (.bl (ds.all p)) := by
  show ((some (ds.map fun d => D.bl (p d))).bind fun ds => (boolsD ds).map fun bs => D.bl (bs.all id)) = _
  rw [Option.bind_some, boolsD_map, Option.map_some, List.all_map]
  rfl
/-- a comprehension over a tuple, one name -/
theorem lc_one {fi : FI} {fe : FE} {ds : List D} {g : D → D} {e : Sto} {m : Mem} {j : Nat} (hi : fi e m = .ok (ds, []) m) (hz : ds.length ≤ sizeLine) (h : ∀ d ∈ ds, fe ((wipe e [j]).set j (some d)) m = .ok (g d) m) :
    fLc [j] (.name j) fi Cs.tYes fe e m = .ok (.lst (ds.map g)) m :=
  fLc_ap (p := (ds, [])) hi (lcGo_map (g := g) same_nil fun d hd => ⟨_, rfl, rfl, h d hd⟩) (by rwa [List.length_map])
theorem lc_all {fi : FI} {fe : FE} {ds : List D} {p : D → Bool} {e : Sto} {m : Mem} {j : Nat} (hi : fi e m = .ok (ds, []) m) (hz : ds.length ≤ sizeLine) (h : ∀ d ∈ ds, fe ((wipe e [j]).set j (some d)) m = .ok (.bl (p d)) m) :
    fBlt .all (fCons (fLc [j] (.name j) fi Cs.tYes fe) fNil) e m = .ok (.bl (ds.all p)) m := by
  have h1 := lc_one (g := fun d => .bl (p d)) hi hz h
  simp only [fBlt_ap, fCons_ap, fNil_ap, h1, bnd_ok, all_mapD, ofO_some]
/-- .. some picked -/
theorem lc_pick {fi : FI} {ft : FB} {fe : FE} {ds : List D} {p : D → Bool} {g : D → D} {e : Sto} {m : Mem} {j : Nat} (hi : fi e m = .ok (ds, []) m) (hz : ds.length ≤ sizeLine) (h : ∀ d ∈ ds, ft ((wipe e [j]).set j (some d)) m = .ok (p d) m ∧ (p d = true → fe ((wipe e [j]).set j (some d)) m = .ok (g d) m)) :
    fLc [j] (.name j) fi ft fe e m = .ok (.lst ((ds.filter p).map g)) m :=
  fLc_ap (p := (ds, [])) hi (lcGo_pure (p := p) (g := g) same_nil fun d hd => ⟨_, rfl, (h d hd).1, (h d hd).2⟩) (by rw [List.length_map]; exact Nat.le_trans (List.length_filter_le _ _) hz)
def ascL : List Str → List Bool
  | a :: b :: r => ltS a b :: ascL (b :: r)
  | _ => []
theorem ascL_all : ∀ zs : List Str, (ascL zs).all id = ascS zs
  | [] => rfl
  | [_] => rfl
  | a :: b :: r => by simp only [ascL, ascS, List.all_cons, id, ascL_all (b :: r)]
def gA (l : List Str) : D → Bool
  | .int k => match l[k.toNat]?, l[k.toNat + 1]? with
    | some a, some b => ltS a b
    | _, _ => false
  | _ => false
theorem asc_go : ∀ (zs pre : List Str), (rangeL pre.length (zs.length - 1)).map (gA (pre ++ zs)) = ascL zs
  | [], _ => rfl
  | [_], _ => rfl
  | a :: b :: r, pre => by
    have ih := asc_go (b :: r) (pre ++ [a])
    have e1 : (a :: b :: r).length - 1 = ((b :: r).length - 1) + 1 := by simp
    rw [e1, rangeL_succ, List.map_cons, ascL]
    congr 1
    · simp [gA]
    · rw [List.append_assoc, List.singleton_append] at ih
      rw [← ih, List.length_append, List.length_singleton]
      congr 2
theorem asc_all (zs : List Str) : ((rangeL 0 (zs.length - 1)).all (gA zs)) = ascS zs := by
  have := asc_go zs []
  simp only [List.length_nil, List.nil_append] at this
  rw [← ascL_all, ← this, List.all_map]
  rfl
end Com

/-! Comprehensions that draw. -/
namespace Com
open PySem Cs
/-- .. the memory changed -/
theorem fLcM_ap {own : List Nat} {t : Tgt} {fi : FI} {ft : FB} {fe : FE} {p : List D × List Nat} {vs : List D} {e : Sto} {m m1 m' : Mem} (h : fi e m = .ok p m1) (h2 : lcGo t ft fe (wipe e own) p.2 m1 p.1 m1 = .ok vs m') (hz : vs.length ≤ sizeLine) : fLc own t fi ft fe e m = .ok (.lst vs) m' := by
  unfold fLc
  rw [h]
  simp only [bnd_ok, h2, hz, if_true]
theorem lcD_map {α β : Type} {t : Tgt} {fe : FE} {e : Sto} {f : α → D} {h : β → D} {π : β → α} {P : β → Prop} {ds : List Int} {r m0 : Mem} : ∀ (l : List α),
    (∀ a ∈ l, ∃ e', bindT t (f a) e = some e' ∧ ∀ k, 0 ≤ k → ∃ k' q, 0 ≤ k' ∧ fe e' (wc ds k :: r) = .ok (h q) (wc ds k' :: r) ∧ π q = a ∧ P q) →
    ∀ k, 0 ≤ k → ∃ (k' : Int) (qs : List β), 0 ≤ k' ∧ lcGo t Cs.tYes fe e [] m0 (l.map f) (wc ds k :: r) = .ok (qs.map h) (wc ds k' :: r) ∧ qs.map π = l ∧ ∀ q ∈ qs, P q
  | [], _, k, hk => ⟨k, [], hk, rfl, rfl, fun _ h => nomatch h⟩
  | a :: l, H, k, hk => by
    obtain ⟨e', b1, b2⟩ := H a List.mem_cons_self
    obtain ⟨k1, q, hk1, s1, s2, s3⟩ := b2 k hk
    obtain ⟨k2, qs, hk2, t1, t2, t3⟩ := lcD_map (m0 := m0) l (fun a ha => H a (List.mem_cons_of_mem _ ha)) k1 hk1
    refine ⟨k2, q :: qs, hk2, ?_, by simp [s2, t2], fun x hx => ?_⟩
    · simp only [List.map_cons, lcGo, b1, tYes_ap, s1, same_nil, if_true, t1]
    · rcases List.mem_cons.mp hx with rfl | hx
      · exact s3
      · exact t3 x hx
theorem lcD_filter {α β : Type} {t : Tgt} {ft : FB} {fe : FE} {e : Sto} {f : α → D} {h : β → D} {π : β → α} {P : β → Prop} {ds : List Int} {r m0 : Mem} : ∀ (l : List α),
    (∀ a ∈ l, ∃ e', bindT t (f a) e = some e' ∧ ∀ k, 0 ≤ k → ∃ k' b, 0 ≤ k' ∧ ft e' (wc ds k :: r) = .ok b (wc ds k' :: r) ∧ (b = true → ∃ k2 q, 0 ≤ k2 ∧ fe e' (wc ds k' :: r) = .ok (h q) (wc ds k2 :: r) ∧ π q = a ∧ P q)) →
    ∀ k, 0 ≤ k → ∃ (k' : Int) (qs : List β), 0 ≤ k' ∧ lcGo t ft fe e [] m0 (l.map f) (wc ds k :: r) = .ok (qs.map h) (wc ds k' :: r) ∧ (qs.map π).Sublist l ∧ ∀ q ∈ qs, P q
  | [], _, k, hk => ⟨k, [], hk, rfl, List.Sublist.slnil, fun _ h => nomatch h⟩
  | a :: l, H, k, hk => by
    obtain ⟨e', b1, b2⟩ := H a List.mem_cons_self
    obtain ⟨k1, b, hk1, s1, s2⟩ := b2 k hk
    cases b with
    | false =>
      obtain ⟨k2, qs, hk2, t1, t2, t3⟩ := lcD_filter (m0 := m0) l (fun a ha => H a (List.mem_cons_of_mem _ ha)) k1 hk1
      exact ⟨k2, qs, hk2, by simp only [List.map_cons, lcGo, b1, s1, same_nil, if_true, t1], t2.cons _, t3⟩
    | true =>
      obtain ⟨k1', q, hk1', u1, u2, u3⟩ := s2 rfl
      obtain ⟨k2, qs, hk2, t1, t2, t3⟩ := lcD_filter (m0 := m0) l (fun a ha => H a (List.mem_cons_of_mem _ ha)) k1' hk1'
      refine ⟨k2, q :: qs, hk2, ?_, by simpa [u2] using t2, fun x hx => ?_⟩
      · simp only [List.map_cons, lcGo, b1, s1, u1, same_nil, if_true, t1]
      · rcases List.mem_cons.mp hx with rfl | hx
        · exact u3
        · exact t3 x hx
theorem lcT_pure {α : Type} {t : Tgt} {ft : FB} {fe : FE} {e : Sto} {f : α → D} {p : α → Bool} {g : α → D} {m m0 : Mem} : ∀ (l : List α),
    (∀ a ∈ l, ∃ e', bindT t (f a) e = some e' ∧ ft e' m = .ok (p a) m ∧ (p a = true → fe e' m = .ok (g a) m)) → lcGo t ft fe e [] m0 (l.map f) m = .ok ((l.filter p).map g) m
  | [], _ => rfl
  | a :: l, H => by
    obtain ⟨e', b1, b2, b3⟩ := H a List.mem_cons_self
    have ih := lcT_pure (m0 := m0) l fun a ha => H a (List.mem_cons_of_mem _ ha)
    cases q : p a with
    | false =>
      rw [q] at b2
      simp only [List.map_cons, lcGo, b1, b2, same_nil, if_true, ih, List.filter_cons_of_neg (show ¬ p a = true by rw [q]; exact Bool.false_ne_true)]
    | true =>
      rw [q] at b2
      simp only [List.map_cons, lcGo, b1, b2, b3 q, same_nil, if_true, ih, List.filter_cons_of_pos q]
/-- the first statement goes on -/
theorem okS.sq {a b : FS} {e e' : Sto} {m m' : Mem} {Q : Fl → Sto → Mem → Prop} (h : a e m = .ok .nx e' m') (k : okS (b e' m') Q) : okS (sSeq a b e m) Q := by
  rw [sSeq_ap, h]
  exact k
/-- pick from a tuple -/
theorem pickT_ok (ds : List Int) (k : Int) (hk : 0 ≤ k) (rows : List D) (hr : rows ≠ []) (r : Mem) : okR (c__law_pick [.ref 0, .tup rows] (wc ds k :: r)) fun d m => d ∈ rows ∧ m = wc ds (k + 1) :: r := by
  unfold c__law_pick
  refine okF rfl ?_
  unfold b__law_pick
  have hl : 0 < rows.length := List.length_pos_iff.mpr hr
  obtain ⟨d1, m1, e1, v1, rfl, a1, b1, rfl⟩ := next_ok ds k rows.length hk (by omega) r
  have : v1.toNat < rows.length := by omega
  have e2 : ixD (.tup rows) (.int v1) (wc ds (k + 1) :: r) = some rows[v1.toNat] := ix_tup a1 (by simp [this])
  simp [e1, e2]
  exact okS.mk (okR.mk ⟨List.getElem_mem _, rfl⟩)
end Com

/-! Commands that fit a frame. -/
namespace Com
open PySem Cs
def Cm.fits : List Row → Cm → Prop
  | _, .word _ => True
  | fr, .set ps => ps ≠ [] ∧ ascS (ps.map (·.1)) = true ∧ ∀ p ∈ ps, p.1 ∈ nms fr ∧ p.2.fits (nms fr) false = true
  | fr, .asr _ c => c.fits (nms fr) false = true
  | fr, .seq _ a b => a.fits fr ∧ b.fits fr
  | fr, .if2 g a h b => g.fits (nms fr) false = true ∧ a.fits fr ∧ h.fits (nms fr) false = true ∧ b.fits fr
  | fr, .do1 g a => g.fits (nms fr) false = true ∧ a.fits fr
  | fr, .spec ns p q => ascS ns = true ∧ (∀ x ∈ ns, x ∈ nms fr) ∧ p.fits (nms fr) false = true ∧ q.fits (nms fr) true = true
  | fr, .var x lo hi a => nmS x = true ∧ (∀ y ∈ nms fr, ltS y x = true) ∧ -99 ≤ lo ∧ lo ≤ hi ∧ hi ≤ 99 ∧ a.fits (fr ++ [(x, lo, hi)])
/-- a frame in order, its names names -/
structure FrG (fr : List Row) : Prop where
  ord : fr.Pairwise fun a b => ltS a.1 b.1 = true
  nm : ∀ z ∈ nms fr, nmS z = true
theorem FrG.snoc {fr : List Row} (h : FrG fr) {x : Str} {lo hi : Int} (h1 : nmS x = true) (h2 : ∀ y ∈ nms fr, ltS y x = true) : FrG (fr ++ [(x, lo, hi)]) where
  ord := by
    rw [List.pairwise_append]
    refine ⟨h.ord, List.pairwise_singleton _ _, fun a ha b hb => ?_⟩
    rw [List.mem_singleton] at hb
    subst hb
    exact h2 a.1 (List.mem_map.mpr ⟨a, ha, rfl⟩)
  nm := fun z hz => by
    simp only [nms, List.map_append, List.map_cons, List.map_nil, List.mem_append, List.mem_singleton] at hz
    rcases hz with hz | rfl
    · exact h.nm z hz
    · exact h1
theorem any_mem {ns : List Str} {x : Str} : (ns.any (· == x)) = true ↔ x ∈ ns := by
  rw [List.any_eq_true]
  exact ⟨fun ⟨y, h1, h2⟩ => (eq_of_beq h2) ▸ h1, fun h => ⟨x, h, by simp⟩⟩
theorem E.isE_enc {ns : List Str} {o : Bool} : ∀ e : E, e.fits ns o = true → isE ns o e.enc = true
  | .num i, h => by
    simp only [E.fits, decide_eq_true_eq] at h
    simp only [E.enc, isE, n999, if_true, Bool.and_eq_true, decide_eq_true_eq]
    omega
  | .nam x, h => by
    simp only [E.fits] at h
    simp [E.enc, isE, inS]
    simpa using h
  | .old x, h => by
    simp only [E.fits, Bool.and_eq_true] at h
    simp [E.enc, isE, inS]
    exact ⟨by simpa using h.2, h.1⟩
  | .two s a b, h => by
    simp only [E.fits, Bool.and_eq_true] at h
    have h1 := E.isE_enc a h.1
    have h2 := E.isE_enc b h.2
    cases s <;> simp [E.enc, isE, inS, Sg.str, h1, h2]
theorem Cd.isC_enc {ns : List Str} {o : Bool} : ∀ e : Cd, e.fits ns o = true → isC ns o e.enc = true
  | .tru b, h => by simp [Cd.enc, isC, isTr]
  | .neg c, h => by
    simp only [Cd.fits] at h
    simp [Cd.enc, isC, Cd.isC_enc c h]
  | .both w a b, h => by
    simp only [Cd.fits, Bool.and_eq_true] at h
    have h1 := Cd.isC_enc a h.1
    have h2 := Cd.isC_enc b h.2
    cases w <;> simp [Cd.enc, isC, wBoth, h1, h2]
  | .cmp w a b, h => by
    simp only [Cd.fits, Bool.and_eq_true] at h
    have h1 := E.isE_enc a h.1.1.1
    have h2 := E.isE_enc b h.1.1.2
    cases w <;> simp [Cd.enc, isC, wCmp, h1, h2]
theorem strsD_map : ∀ zs : List Str, strsD (zs.map .str) = some zs
  | [] => rfl
  | z :: zs => by simp only [List.map_cons, strsD, strsD_map zs, Option.map_some]
theorem prsD_map {ns : List Str} (hn : ∀ z ∈ ns, nmS z = true) : ∀ ps : List (Str × E), (∀ p ∈ ps, p.1 ∈ ns ∧ p.2.fits ns false = true) → prsD ns (ps.map encP) = some (ps.map (·.1))
  | [], _ => rfl
  | p :: ps, h => by
    have h1 := h p List.mem_cons_self
    have h2 := prsD_map hn ps fun q hq => h q (List.mem_cons_of_mem _ hq)
    simp only [List.map_cons, encP, prsD, hn _ h1.1, any_mem.mpr h1.1, E.isE_enc _ h1.2, Bool.and_self, if_true]
    rw [h2]
    rfl
theorem Cm.isK_enc : ∀ (c : Cm) (fr : List Row), FrG fr → c.fits fr → isK fr c.enc = true
  | .word w, fr, _, _ => by cases w <;> simp [Cm.enc, isK, W3.str]
  | .set ps, fr, g, h => by
    obtain ⟨h1, h2, h3⟩ := h
    have h4 := prsD_map g.nm ps h3
    cases ps with
    | nil => exact absurd rfl h1
    | cons p ps =>
      simp only [Cm.enc, isK, if_true]
      rw [show (D.tup ((p :: ps).map encP)) = D.tup (encP p :: ps.map encP) from rfl]
      simp only [isPr]
      rw [List.map_cons] at h4
      rw [h4]
      exact h2
  | .asr w c, fr, g, h => by
    have := Cd.isC_enc c h
    cases w <;> simp [Cm.enc, isK, wAsr, this]
  | .seq w a b, fr, g, h => by
    have h1 := Cm.isK_enc a fr g h.1
    have h2 := Cm.isK_enc b fr g h.2
    cases w <;> simp [Cm.enc, isK, wSeq, h1, h2]
  | .if2 c a d b, fr, g, h => by
    have h1 := Cm.isK_enc a fr g h.2.1
    have h2 := Cm.isK_enc b fr g h.2.2.2
    have h3 := Cd.isC_enc c h.1
    have h4 := Cd.isC_enc d h.2.2.1
    simp [Cm.enc, isK, isG, isGs, h1, h2, h3, h4]
  | .do1 c a, fr, g, h => by
    have h1 := Cm.isK_enc a fr g h.2
    have h3 := Cd.isC_enc c h.1
    simp [Cm.enc, isK, isG, isGs, h1, h3]
  | .spec ns p q, fr, g, h => by
    obtain ⟨h1, h2, h3, h4⟩ := h
    have h3 := Cd.isC_enc p h3
    have h4 := Cd.isC_enc q h4
    have h5 : isNs (nms fr) (.tup (ns.map .str)) = true := by
      simp only [isNs, strsD_map, h1, Bool.and_true, List.all_eq_true, Bool.and_eq_true]
      exact fun x hx => ⟨g.nm _ (h2 x hx), any_mem.mpr (h2 x hx)⟩
    simp [Cm.enc, isK, h3, h4, h5]
  | .var x lo hi a, fr, g, h => by
    obtain ⟨h1, h2, h3, h4, h5, h6⟩ := h
    have g' := g.snoc (lo := lo) (hi := hi) h1 h2
    have h7 := Cm.isK_enc a _ g' h6
    have h8 : (nms fr).any (· == x) = false := by
      rw [Bool.eq_false_iff]
      intro q
      have := h2 x (any_mem.mp q)
      unfold ltS at this
      rw [decide_eq_true_eq] at this
      exact List.lt_irrefl _ this
    have h9 : isRg (.int lo) (.int hi) = some (lo, hi) := by simp only [isRg]; rw [if_pos ⟨h3, h4, h5⟩]
    simp only [Cm.enc, isK, if_true, h1, h8, h9, Bool.not_false, Bool.and_self, srtR_ord g'.ord, h7]
end Com

/-! Commands drawn: texts of the defs. -/
namespace Com
open PySem Cs
def b__law_some (g__law_next : FF) : FS :=
  (sSeq (sSet 2 (fLc [3] (.name 3) (iVar 1) tYes (fIx (fVar 3) (fCon (.int 0))))) (sSeq (sSet 4 (fLc [5] (.name 5) (iVar 2) (fTr (fCmp .Gt (fApp g__law_next (fCons (fVar 0) (fCons (fCon (.int 3)) fNil))) (fCon (.int 0)))) (fVar 5))) (sRet (fBlt .tuple (fCons (fIf (fTr (fCmp .NotEq (fVar 4) (fLst fNil))) (fVar 4) (fSl (fVar 2) none (some (fCon (.int 1))))) fNil)))))
def b__law_pairs (g__law_some g__law_expr : FF) : FS :=
  (sRet (fBlt .tuple (fCons (fLc [2] (.name 2) (iVal (fApp g__law_some (fCons (fVar 0) (fCons (fVar 1) fNil)))) tYes (fTup (fCons (fVar 2) (fCons (fApp g__law_expr (fCons (fVar 0) (fCons (fVar 1) (fCons (fCon (.int 1)) (fCons (fCon (.bl false)) fNil))))) fNil)))) fNil)))
def b__law_spec (g__law_next g__law_cond g__law_some : FF) : FS :=
  (sSeq (sSet 2 (fIf (fTr (fCmp .Gt (fApp g__law_next (fCons (fVar 0) (fCons (fCon (.int 3)) fNil))) (fCon (.int 0)))) (fTup (fCons (fCon (.str "truth")) (fCons (fCon (.bl true)) fNil))) (fApp g__law_cond (fCons (fVar 0) (fCons (fVar 1) (fCons (fCon (.int 1)) (fCons (fCon (.bl false)) fNil))))))) (sRet (fTup (fCons (fCon (.str "spec")) (fCons (fApp g__law_some (fCons (fVar 0) (fCons (fVar 1) fNil))) (fCons (fVar 2) (fCons (fApp g__law_cond (fCons (fVar 0) (fCons (fVar 1) (fCons (fCon (.int 2)) (fCons (fCmp .Eq (fApp g__law_next (fCons (fVar 0) (fCons (fCon (.int 2)) fNil))) (fCon (.int 0))) fNil))))) fNil)))))))
def b__law_count (g__law_pick g__law_next : FF) : FS :=
  (sSeq (sAsg (.tup [.name 2, .name 3, .name 4]) (fApp g__law_pick (fCons (fVar 0) (fCons (fVar 1) fNil)))) (sSeq (sIf (fTr (fCmp .Eq (fApp g__law_next (fCons (fVar 0) (fCons (fCon (.int 2)) fNil))) (fCon (.int 0)))) (sRet (fTup (fCons (fCon (.str "do")) (fCons (fTup (fCons (fTup (fCons (fTup (fCons (fCon (.str "below")) (fCons (fTup (fCons (fCon (.str "name")) (fCons (fVar 2) fNil))) (fCons (fTup (fCons (fCon (.str "number")) (fCons (fVar 4) fNil))) fNil)))) (fCons (fTup (fCons (fCon (.str "set")) (fCons (fTup (fCons (fTup (fCons (fVar 2) (fCons (fTup (fCons (fCon (.str "two")) (fCons (fCon (.str "+")) (fCons (fTup (fCons (fCon (.str "name")) (fCons (fVar 2) fNil))) (fCons (fTup (fCons (fCon (.str "number")) (fCons (fCon (.int 1)) fNil))) fNil))))) fNil))) fNil)) fNil))) fNil))) fNil)) fNil)))) sNx) (sRet (fTup (fCons (fCon (.str "do")) (fCons (fTup (fCons (fTup (fCons (fTup (fCons (fCon (.str "below")) (fCons (fTup (fCons (fCon (.str "number")) (fCons (fVar 3) fNil))) (fCons (fTup (fCons (fCon (.str "name")) (fCons (fVar 2) fNil))) fNil)))) (fCons (fTup (fCons (fCon (.str "set")) (fCons (fTup (fCons (fTup (fCons (fVar 2) (fCons (fTup (fCons (fCon (.str "two")) (fCons (fCon (.str "-")) (fCons (fTup (fCons (fCon (.str "name")) (fCons (fVar 2) fNil))) (fCons (fTup (fCons (fCon (.str "number")) (fCons (fCon (.int 1)) fNil))) fNil))))) fNil))) fNil)) fNil))) fNil))) fNil)) fNil))))))
def b__law_command (g__law_next g__law_spec g__law_pick g__law_cond g__law_pairs g__law_command g__law_count : FF) : FS :=
  (sSeq (sSet 3 (fApp g__law_next (fCons (fVar 0) (fCons (fCon (.int 14)) fNil)))) (sSeq (sIf (tOr (fTr (fCmp .Eq (fVar 2) (fCon (.int 0)))) (fTr (fCmp .Lt (fVar 3) (fCon (.int 4))))) (sSeq (sIf (fTr (fCmp .Eq (fVar 3) (fCon (.int 0)))) (sRet (fApp g__law_spec (fCons (fVar 0) (fCons (fVar 1) fNil)))) sNx) (sSeq (sIf (fTr (fCmp .Eq (fApp g__law_next (fCons (fVar 0) (fCons (fCon (.int 6)) fNil))) (fCon (.int 0)))) (sRet (fApp g__law_pick (fCons (fVar 0) (fCons (fLst (fCons (fTup (fCons (fCon (.str "skip")) fNil)) (fCons (fTup (fCons (fCon (.str "abort")) fNil)) (fCons (fTup (fCons (fCon (.str "magic")) fNil)) (fCons (fTup (fCons (fCon (.str "assert")) (fCons (fApp g__law_cond (fCons (fVar 0) (fCons (fVar 1) (fCons (fCon (.int 1)) (fCons (fCon (.bl false)) fNil))))) fNil))) (fCons (fTup (fCons (fCon (.str "assume")) (fCons (fApp g__law_cond (fCons (fVar 0) (fCons (fVar 1) (fCons (fCon (.int 1)) (fCons (fCon (.bl false)) fNil))))) fNil))) fNil)))))) fNil)))) sNx) (sRet (fTup (fCons (fCon (.str "set")) (fCons (fApp g__law_pairs (fCons (fVar 0) (fCons (fVar 1) fNil))) fNil)))))) sNx) (sSeq (sIf (fTr (fCmp .Lt (fVar 3) (fCon (.int 7)))) (sRet (fTup (fCons (fCon (.str "then")) (fCons (fApp g__law_command (fCons (fVar 0) (fCons (fVar 1) (fCons (fBin .Sub (fVar 2) (fCon (.int 1))) fNil)))) (fCons (fApp g__law_command (fCons (fVar 0) (fCons (fVar 1) (fCons (fBin .Sub (fVar 2) (fCon (.int 1))) fNil)))) fNil))))) sNx) (sSeq (sIf (fTr (fCmp .Lt (fVar 3) (fCon (.int 10)))) (sSeq (sSet 4 (fApp g__law_cond (fCons (fVar 0) (fCons (fVar 1) (fCons (fCon (.int 1)) (fCons (fCon (.bl false)) fNil)))))) (sSeq (sSet 5 (fIf (fTr (fCmp .Eq (fApp g__law_next (fCons (fVar 0) (fCons (fCon (.int 2)) fNil))) (fCon (.int 0)))) (fTup (fCons (fCon (.str "not")) (fCons (fVar 4) fNil))) (fApp g__law_cond (fCons (fVar 0) (fCons (fVar 1) (fCons (fCon (.int 1)) (fCons (fCon (.bl false)) fNil))))))) (sRet (fTup (fCons (fCon (.str "if")) (fCons (fTup (fCons (fTup (fCons (fVar 4) (fCons (fApp g__law_command (fCons (fVar 0) (fCons (fVar 1) (fCons (fBin .Sub (fVar 2) (fCon (.int 1))) fNil)))) fNil))) (fCons (fTup (fCons (fVar 5) (fCons (fApp g__law_command (fCons (fVar 0) (fCons (fVar 1) (fCons (fBin .Sub (fVar 2) (fCon (.int 1))) fNil)))) fNil))) fNil))) fNil)))))) sNx) (sSeq (sIf (fTr (fCmp .Eq (fVar 3) (fCon (.int 10)))) (sRet (fTup (fCons (fCon (.str "any")) (fCons (fApp g__law_command (fCons (fVar 0) (fCons (fVar 1) (fCons (fBin .Sub (fVar 2) (fCon (.int 1))) fNil)))) (fCons (fApp g__law_command (fCons (fVar 0) (fCons (fVar 1) (fCons (fBin .Sub (fVar 2) (fCon (.int 1))) fNil)))) fNil))))) sNx) (sSeq (sIf (tOr (fTr (fCmp .Eq (fVar 3) (fCon (.int 11)))) (fTr (fCmp .Gt (fBlt .len (fCons (fVar 1) fNil)) (fCon (.int 2))))) (sRet (fApp g__law_count (fCons (fVar 0) (fCons (fVar 1) fNil)))) sNx) (sSeq (sIf (fTr (fCmp .Eq (fVar 3) (fCon (.int 12)))) (sRet (fTup (fCons (fCon (.str "do")) (fCons (fTup (fCons (fTup (fCons (fApp g__law_cond (fCons (fVar 0) (fCons (fVar 1) (fCons (fCon (.int 1)) (fCons (fCon (.bl false)) fNil))))) (fCons (fApp g__law_command (fCons (fVar 0) (fCons (fVar 1) (fCons (fBin .Sub (fVar 2) (fCon (.int 1))) fNil)))) fNil))) fNil)) fNil)))) sNx) (sSeq (sSet 6 (fIf (tOr (fTr (fCmp .Lt (fBlt .len (fCons (fVar 1) fNil)) (fCon (.int 2)))) (fTr (fCmp .NotEq (fIx (fIx (fVar 1) (fNeg (fCon (.int 1)))) (fCon (.int 0))) (fCon (.str "z"))))) (fCon (.str "z")) (fCon (.str "zz")))) (sSeq (sSet 7 (fBlt .tuple (fCons (fBlt .sorted (fCons (fBin .Add (fVar 1) (fTup (fCons (fTup (fCons (fVar 6) (fCons (fCon (.int 0)) (fCons (fBin .Add (fCon (.int 1)) (fApp g__law_next (fCons (fVar 0) (fCons (fCon (.int 2)) fNil)))) fNil)))) fNil))) fNil)) fNil))) (sRet (fTup (fCons (fCon (.str "var")) (fCons (fVar 6) (fCons (fCon (.int 0)) (fCons (fIx (fLc [8] (.name 8) (iVar 7) (fTr (fCmp .Eq (fIx (fVar 8) (fCon (.int 0))) (fVar 6))) (fIx (fVar 8) (fCon (.int 2)))) (fCon (.int 0))) (fCons (fApp g__law_command (fCons (fVar 0) (fCons (fVar 7) (fCons (fBin .Sub (fVar 2) (fCon (.int 1))) fNil)))) fNil))))))))))))))))
def c__law_some : FF := runF false 2 6 (b__law_some c__law_next)
def c__law_count : FF := runF false 2 5 (b__law_count c__law_pick c__law_next)
end Com

/-! Commands drawn. -/
namespace Com
open PySem Cs
def FrS (fr : List Row) : Prop := (nms fr = [("x" : Str)] ∨ nms fr = [("x" : Str), ("y" : Str)] ∨ nms fr = [("x" : Str), ("z" : Str)] ∨ nms fr = [("x" : Str), ("y" : Str), ("z" : Str)] ∨ nms fr = [("x" : Str), ("z" : Str), ("zz" : Str)]) ∧ ∀ r ∈ fr, -100 ≤ r.2.1 ∧ r.2.1 ≤ r.2.2 ∧ r.2.2 ≤ 100
theorem FrS.len {fr : List Row} (h : FrS fr) : 1 ≤ fr.length ∧ fr.length ≤ 3 := by
  have e : fr.length = (nms fr).length := by simp [nms]
  rcases h.1 with h | h | h | h | h <;> rw [e, h] <;> simp
theorem FrS.w {fr : List Row} (h : FrS fr) : FrW fr := ⟨by have := h.len; omega, fun e => by have := h.len; rw [e] at this; simp at this⟩
theorem FrS.ordN {fr : List Row} (h : FrS fr) : (nms fr).Pairwise fun a b => ltS a b = true := by
  rcases h.1 with h | h | h | h | h <;> rw [h] <;> decide +kernel
theorem FrS.g {fr : List Row} (h : FrS fr) : FrG fr where
  ord := by
    have := h.ordN
    unfold nms at this
    rwa [List.pairwise_map] at this
  nm := by
    rcases h.1 with h | h | h | h | h <;> rw [h] <;> decide +kernel
theorem FrN.s {fr : List Row} (h : FrN fr) : FrS fr := ⟨by rcases h.2.2 with h | h <;> simp [h], fun r hr => by have := h.1.lo r hr; omega⟩
theorem ascS_pw : ∀ {zs : List Str}, zs.Pairwise (fun a b => ltS a b = true) → ascS zs = true
  | [], _ => rfl
  | [_], _ => rfl
  | a :: b :: r, h => by
    rw [List.pairwise_cons] at h
    simp only [ascS, h.1 b List.mem_cons_self, ascS_pw h.2, Bool.and_self]
theorem some_drw {fr : List Row} (hf : FrS fr) (ds : List Int) (r : Mem) (k : Int) (hk : 0 ≤ k) :
    okR (c__law_some [.ref 0, enc fr] (wc ds k :: r)) (Drw ds r fun d => ∃ zs : List Str, d = .tup (zs.map .str) ∧ zs ≠ [] ∧ zs.Sublist (nms fr)) := by
  unfold c__law_some
  refine okF rfl ?_
  unfold b__law_some
  have e1 := lnames_lc fr hf.w.1 (e := [some (.ref 0), some (enc fr), none, none, none, none]) (m := wc ds k :: r) (i := 1) (j := 3) (by simp) (by simp)
  have e0 : List.map some [D.ref 0, enc fr] ++ List.replicate (6 - [D.ref 0, enc fr].length) none = [some (.ref 0), some (enc fr), none, none, none, none] := rfl
  rw [e0, sSeq_ap, sSet_ap, e1]
  simp only [sBd_ok, sThen_nx, List.set_cons_succ, List.set_cons_zero]
  obtain ⟨k2, qs, hk2, e2, s2, _⟩ := lcD_filter (m0 := wc ds k :: r) (ds := ds) (r := r) (t := .name 5) (ft := (fTr (fCmp .Gt (fApp c__law_next (fCons (fVar 0) (fCons (fCon (.int 3)) fNil))) (fCon (.int 0))))) (fe := fVar 5) (e := [some (.ref 0), some (enc fr), some (.lst ((nms fr).map .str)), none, none, none]) (f := D.str) (h := D.str) (π := fun z : Str => z) (P := fun _ => True) (nms fr) (fun a ha => by
    refine ⟨_, rfl, fun k hk => ?_⟩
    obtain ⟨d1, m1, e1, v, rfl, a1, b1, rfl⟩ := next_ok ds k 3 hk (by omega) r
    exact ⟨k + 1, decide (0 < v), by omega, by simp [e1], fun _ => ⟨k + 1, a, by omega, by simp, rfl, trivial⟩⟩) k hk
  rw [List.map_id'] at s2
  have hl : qs.length ≤ 10 := by
    have := s2.length_le
    have := hf.len
    simp only [nms, List.length_map] at *
    omega
  have e3 : fLc [5] (.name 5) (iVar 2) (fTr (fCmp .Gt (fApp c__law_next (fCons (fVar 0) (fCons (fCon (.int 3)) fNil))) (fCon (.int 0)))) (fVar 5) [some (.ref 0), some (enc fr), some (.lst ((nms fr).map .str)), none, none, none] (wc ds k :: r) = .ok (.lst (qs.map .str)) (wc ds k2 :: r) :=
    fLcM_ap (p := ((nms fr).map .str, [])) (vs := qs.map .str) (iVar_lst rfl) e2 (sl_of (by rw [List.length_map]; omega))
  rw [sSeq_ap, sSet_ap, e3]
  simp only [sBd_ok, sThen_nx, List.set_cons_succ, List.set_cons_zero]
  have hne : nms fr ≠ [] := by have := hf.len; intro e; simp [nms] at e; rw [e] at this; simp at this
  obtain ⟨x, xs, hx⟩ : ∃ x xs, nms fr = x :: xs := by cases q : nms fr with | nil => exact absurd q hne | cons x xs => exact ⟨x, xs, rfl⟩
  have c1 : slD (.lst ((nms fr).map .str)) none (some 1) (wc ds k2 :: r) = some (.lst [.str x]) := by
    rw [hx]; simp [slD, cutD, HT.sIx]
  have c2 : cmpD .NotEq (.lst (qs.map .str)) (.lst []) (wc ds k2 :: r) = some !qs.isEmpty := by
    rw [cmp_neD (by simp only [Cs.plain]; exact plainL_strs _) rfl (by simp only [dep, depL]; omega)]
    cases qs <;> rfl
  by_cases hq : qs = []
  · subst hq
    simp [c1]
    simp at c2
    simp [c2]
    exact okS.mk (okR.mk ⟨⟨[x], by rw [hx]; simp [cutD, HT.sIx], by simp, by rw [hx]; simp⟩, _, hk2, rfl⟩)
  · have : qs.isEmpty = false := by simpa using hq
    rw [this] at c2
    simp [c2]
    exact okS.mk (okR.mk ⟨⟨qs, rfl, hq, s2⟩, _, hk2, rfl⟩)
end Com

/-! Commands drawn. -/
namespace Com
open PySem Cs
structure Drk (n p x c so pr sp co cm : Nat → FF) : Prop extends Drc n p x c where
  hs : ∀ k, so (k + 2) = c__law_some
  hpr : ∀ k, pr (k + 1) = runF false 2 3 (b__law_pairs (so k) (x k))
  hsp : ∀ k, sp (k + 1) = runF false 2 3 (b__law_spec (n k) (c k) (so k))
  hco : ∀ k, co (k + 3) = c__law_count
  hcm : ∀ k, cm (k + 1) = runF false 3 9 (b__law_command (n k) (sp k) (p k) (c k) (pr k) (cm k) (co k))
/-- a command, so deep at most -/
def CmOk (fr : List Row) (n : Nat) (d : D) : Prop := ∃ c : Cm, d = c.enc ∧ c.fits fr ∧ c.dp ≤ n + 1 ∧ dep d ≤ 8 + 3 * n ∧ szD d + 300 ≤ 600 * 2 ^ n
theorem CmOk.mono {fr : List Row} {a b : Nat} {d : D} (h : a ≤ b) (q : CmOk fr a d) : CmOk fr b d := by
  obtain ⟨c, h1, h2, h3, h4, h5⟩ := q
  exact ⟨c, h1, h2, by omega, by omega, Nat.le_trans h5 (Nat.mul_le_mul_left 600 (Nat.pow_le_pow_right (by omega) h))⟩
section
variable {n p x c so pr sp co cm : Nat → FF} (W : Drk n p x c so pr sp co cm) {fr : List Row} (hf : FrS fr) (ds : List Int) (r : Mem)
include W hf
theorem pairs_drw (K : Nat) (hK : 6 ≤ K) (k : Int) (hk : 0 ≤ k) :
    okR (pr K [.ref 0, enc fr] (wc ds k :: r)) (Drw ds r fun d => ∃ ps : List (Str × E), d = .tup (ps.map encP) ∧ ps ≠ [] ∧ ps.length ≤ 3 ∧ ascS (ps.map (·.1)) = true ∧ ∀ q ∈ ps, q.1 ∈ nms fr ∧ q.2.fits (nms fr) false = true ∧ q.2.deep ≤ 1 ∧ q.2.leaves ≤ 2) := by
  obtain ⟨K, rfl⟩ : ∃ j, K = j + 3 := ⟨K - 3, by omega⟩
  rw [W.hpr, W.hs]
  refine okF rfl ?_
  unfold b__law_pairs
  have e0 : List.map some [D.ref 0, enc fr] ++ List.replicate (3 - [D.ref 0, enc fr].length) none = [some (.ref 0), some (enc fr), none] := rfl
  obtain ⟨d1, m1, e1, ⟨zs, rfl, z1, z2⟩, k1, hk1, rfl⟩ := some_drw hf ds r k hk
  have hl := z2.length_le
  have hl2 := hf.len
  simp only [nms, List.length_map] at hl
  obtain ⟨k2, ps, hk2, e2, s1, s2⟩ := lcD_map (m0 := wc ds k1 :: r) (ds := ds) (r := r) (t := .name 2) (fe := (fTup (fCons (fVar 2) (fCons (fApp (x (K + 2)) (fCons (fVar 0) (fCons (fVar 1) (fCons (fCon (.int 1)) (fCons (fCon (.bl false)) fNil))))) fNil)))) (e := [some (.ref 0), some (enc fr), none]) (f := D.str) (h := encP) (π := fun q : Str × E => q.1) (P := fun q => q.2.fits (nms fr) false = true ∧ q.2.deep ≤ 1 ∧ q.2.leaves ≤ 2) zs (fun a ha => by
    refine ⟨_, rfl, fun k hk => ?_⟩
    obtain ⟨d3, m3, e3, ⟨q, rfl, p1, p2, p3⟩, k3, h3, rfl⟩ := expr_drw W.toDrs hf.w false ds r 1 (K + 2) (by omega) k hk
    simp only [Int.natCast_one, Int.ofNat_one] at e3
    exact ⟨k3, (a, q), h3, by simp [e3, encP], rfl, p1, p2, p3⟩) k1 hk1
  have e3 : fLc [2] (.name 2) (iVal (fApp c__law_some (fCons (fVar 0) (fCons (fVar 1) fNil)))) Cs.tYes (fTup (fCons (fVar 2) (fCons (fApp (x (K + 2)) (fCons (fVar 0) (fCons (fVar 1) (fCons (fCon (.int 1)) (fCons (fCon (.bl false)) fNil))))) fNil))) [some (.ref 0), some (enc fr), none] (wc ds k :: r) = .ok (.lst (ps.map encP)) (wc ds k2 :: r) :=
    fLcM_ap (p := (zs.map .str, [])) (vs := ps.map encP) (m1 := wc ds k1 :: r) (by simp [e1, itOf]) e2 (sl_of (by
      have := congrArg List.length s1
      simp only [List.length_map] at this ⊢
      omega))
  rw [e0]
  simp [e3]
  have hne : ps ≠ [] := by intro e; subst e; exact z1 s1.symm
  refine okS.mk (okR.mk ⟨⟨ps, rfl, hne, ?_, ?_, ?_⟩, _, hk2, rfl⟩)
  · have := congrArg List.length s1
    simp only [List.length_map] at this
    omega
  · rw [show (ps.map fun x => x.1) = zs from s1]
    exact ascS_pw (hf.ordN.sublist z2)
  · rintro q y hq
    refine ⟨z2.subset ?_, s2 (q, y) hq⟩
    rw [← s1]
    exact List.mem_map.mpr ⟨(q, y), hq, rfl⟩
theorem spec_drw (K : Nat) (hK : 9 ≤ K) (k : Int) (hk : 0 ≤ k) : okR (sp K [.ref 0, enc fr] (wc ds k :: r)) (Drw ds r (CmOk fr 0)) := by
  obtain ⟨K, rfl⟩ : ∃ j, K = j + 3 := ⟨K - 3, by omega⟩
  rw [W.hsp, W.hs, W.hn]
  refine okF rfl ?_
  unfold b__law_spec
  have e0 : List.map some [D.ref 0, enc fr] ++ List.replicate (3 - [D.ref 0, enc fr].length) none = [some (.ref 0), some (enc fr), none] := rfl
  rw [e0]
  have hl2 := hf.len
  have rest : ∀ (k : Int) (P : Cd), 0 ≤ k → P.fits (nms fr) false = true → P.deep ≤ 3 → P.leaves ≤ 16 → okS ((sRet (fTup (fCons (fCon (.str "spec")) (fCons (fApp c__law_some (fCons (fVar 0) (fCons (fVar 1) fNil))) (fCons (fVar 2) (fCons (fApp (c (K + 2)) (fCons (fVar 0) (fCons (fVar 1) (fCons (fCon (.int 2)) (fCons (fCmp .Eq (fApp c__law_next (fCons (fVar 0) (fCons (fCon (.int 2)) fNil))) (fCon (.int 0))) fNil))))) fNil)))))) [some (.ref 0), some (enc fr), some P.enc] (wc ds k :: r)) fun f _ m => ∃ d, f = .rt d ∧ Drw ds r (CmOk fr 0) d m := by
    intro k P hk hP hP2 hP3
    obtain ⟨d1, m1, e1, ⟨zs, rfl, z1, z2⟩, k1, hk1, rfl⟩ := some_drw hf ds r k hk
    obtain ⟨d2, m2, e2, v, rfl, a2, b2, rfl⟩ := next_ok ds k1 2 hk1 (by omega) r
    obtain ⟨d3, m3, e3, ⟨q, rfl, q1, q2, q3⟩, k3, hk3, rfl⟩ := cond_drw W.toDrc hf.w (v == 0) ds r 2 (K + 2) (by omega) (k1 + 1) (by omega)
    simp only [show ((2 : Nat) : Int) = 2 from rfl] at e3
    simp [e1, e2, e3]
    have hl := z2.length_le
    simp only [nms, List.length_map] at hl
    refine okS.mk ⟨_, rfl, ⟨.spec zs P q, rfl, ⟨ascS_pw (hf.ordN.sublist z2), fun x hx => z2.subset hx, hP, ?_⟩, by simp [Cm.dp], ?_, ?_⟩, _, hk3, rfl⟩
    · cases hv : v == 0 with
      | true => rw [hv] at q1; exact q1
      | false =>
        rw [hv] at q1
        have key : ∀ e : E, e.fits (nms fr) false = true → e.fits (nms fr) true = true := fun e => by
          induction e with
          | num i => exact id
          | nam x => exact id
          | old x => intro h; simp [E.fits] at h
          | two s a b ia ib => intro h; simp only [E.fits, Bool.and_eq_true] at h ⊢; exact ⟨ia h.1, ib h.2⟩
        have key2 : ∀ e : Cd, e.fits (nms fr) false = true → e.fits (nms fr) true = true := fun e => by
          induction e with
          | tru b => exact id
          | neg c ic => exact ic
          | both w a b ia ib => intro h; simp only [Cd.fits, Bool.and_eq_true] at h ⊢; exact ⟨ia h.1, ib h.2⟩
          | cmp w a b => intro h; simp only [Cd.fits, Bool.and_eq_true] at h ⊢; exact ⟨⟨⟨key a h.1.1.1, key b h.1.1.2⟩, h.1.2⟩, h.2⟩
        exact key2 q q1
    · have h1 := P.dep_enc
      have h2 := q.dep_enc
      have h3 := depL_strs zs
      simp only [dep, depL, h3]
      omega
    · have h1 := P.sz_enc
      have h2 := q.sz_enc
      have h3 := szL_one (l := zs.map D.str) (fun d hd => by obtain ⟨z, _, rfl⟩ := List.mem_map.mp hd; rfl)
      simp only [szD, szL, h3, List.length_map]
      omega
  obtain ⟨d1, m1, e1, v, rfl, a1, b1, rfl⟩ := next_ok ds k 3 hk (by omega) r
  by_cases hv : 0 < v
  · refine okS.sq (e' := [some (.ref 0), some (enc fr), some (Cd.tru true).enc]) (m' := wc ds (k + 1) :: r) (by simp [e1, hv, Cd.enc]) ?_
    refine (rest (k + 1) (.tru true) (by omega) rfl (by simp [Cd.deep]) (by simp [Cd.leaves])).imp ?_
    rintro f e m ⟨d, rfl, h⟩
    exact okR.mk h
  · obtain ⟨d3, m3, e3, ⟨q, rfl, q1, q2, q3⟩, k3, hk3, rfl⟩ := cond_drw W.toDrc hf.w false ds r 1 (K + 2) (by omega) (k + 1) (by omega)
    simp only [Int.natCast_one, Int.ofNat_one] at e3
    refine okS.sq (e' := [some (.ref 0), some (enc fr), some q.enc]) (m' := wc ds k3 :: r) (by simp [e1, hv, e3]) ?_
    refine (rest k3 q hk3 q1 (by omega) (by omega)).imp ?_
    rintro f e m ⟨d, rfl, h⟩
    exact okR.mk h
end
end Com

/-! Commands drawn. -/
namespace Com
open PySem Cs
theorem count_drw {fr : List Row} (hf : FrS fr) (ds : List Int) (r : Mem) (k : Int) (hk : 0 ≤ k) : okR (c__law_count [.ref 0, enc fr] (wc ds k :: r)) (Drw ds r (CmOk fr 0)) := by
  unfold c__law_count
  refine okF rfl ?_
  unfold b__law_count
  have e0 : List.map some [D.ref 0, enc fr] ++ List.replicate (5 - [D.ref 0, enc fr].length) none = [some (.ref 0), some (enc fr), none, none, none] := rfl
  have hne : fr.map encR ≠ [] := by have := hf.w.2; simpa using this
  obtain ⟨d1, m1, e1, h1, rfl⟩ := pickT_ok ds k hk (fr.map encR) hne r
  obtain ⟨⟨x, lo, hi⟩, hx, rfl⟩ := List.mem_map.mp h1
  have hb := hf.2 _ hx
  simp only at hb
  have hn : x ∈ nms fr := List.mem_map.mpr ⟨_, hx, rfl⟩
  have hn2 := any_mem.mpr hn
  rw [e0]
  have e1' : c__law_pick [.ref 0, enc fr] (wc ds k :: r) = .ok (encR (x, lo, hi)) (wc ds (k + 1) :: r) := e1
  refine okS.sq (e' := [some (.ref 0), some (enc fr), some (.str x), some (.int lo), some (.int hi)]) (m' := wc ds (k + 1) :: r) (by simp [e1', encR]) ?_
  obtain ⟨d2, m2, e2, v, rfl, a2, b2, rfl⟩ := next_ok ds (k + 1) 2 (by omega) (by omega) r
  have hN : (nms fr) ≠ [] := by intro e; rw [e] at hn; cases hn
  by_cases hv : v = 0
  · simp [e2, hv]
    refine okS.mk (okR.mk ⟨⟨.do1 (.cmp false (.nam x) (.num hi)) (.set [(x, .two .add (.nam x) (.num 1))]), ?_, ?_, by simp [Cm.dp], ?_, ?_⟩, _, by omega, rfl⟩)
    · simp [Cm.enc, Cd.enc, E.enc, wCmp, encP, Sg.str]
    · refine ⟨?_, by simp, rfl, ?_⟩
      · simp [Cd.fits, E.fits, E.leaves, hn]; omega
      · intro p hp
        rw [List.mem_singleton] at hp
        subst hp
        exact ⟨hn, by simp only [E.fits, hn2]; decide⟩
    · simp [dep, depL]
    · simp [szD, szL]
  · simp [e2, hv]
    refine okS.mk (okR.mk ⟨⟨.do1 (.cmp false (.num lo) (.nam x)) (.set [(x, .two .sub (.nam x) (.num 1))]), ?_, ?_, by simp [Cm.dp], ?_, ?_⟩, _, by omega, rfl⟩)
    · simp [Cm.enc, Cd.enc, E.enc, wCmp, encP, Sg.str]
    · refine ⟨?_, by simp, rfl, ?_⟩
      · simp [Cd.fits, E.fits, E.leaves, hn]; omega
      · intro p hp
        rw [List.mem_singleton] at hp
        subst hp
        exact ⟨hn, by simp only [E.fits, hn2]; decide⟩
    · simp [dep, depL]
    · simp [szD, szL]
end Com

/-! Commands drawn. -/
namespace Com
open PySem Cs
/-- the first statement hands back -/
theorem okS.sr {a b : FS} {e e' : Sto} {m m' : Mem} {d : D} {Q : Fl → Sto → Mem → Prop} (h : a e m = .ok (.rt d) e' m') (k : Q (.rt d) e' m') : okS (sSeq a b e m) Q := by
  rw [sSeq_ap, h]
  exact okS.mk k
section
variable {n p x c so pr sp co cm : Nat → FF} (W : Drk n p x c so pr sp co cm) {fr : List Row} (hf : FrS fr) (ds : List Int) (r : Mem)
include W
abbrev cLeaf (c pr sp : Nat → FF) (K : Nat) : FS := (sSeq (sIf (fTr (fCmp .Eq (fVar 3) (fCon (.int 0)))) (sRet (fApp (sp K) (fCons (fVar 0) (fCons (fVar 1) fNil)))) sNx) (sSeq (sIf (fTr (fCmp .Eq (fApp c__law_next (fCons (fVar 0) (fCons (fCon (.int 6)) fNil))) (fCon (.int 0)))) (sRet (fApp c__law_pick (fCons (fVar 0) (fCons (fLst (fCons (fTup (fCons (fCon (.str "skip")) fNil)) (fCons (fTup (fCons (fCon (.str "abort")) fNil)) (fCons (fTup (fCons (fCon (.str "magic")) fNil)) (fCons (fTup (fCons (fCon (.str "assert")) (fCons (fApp (c K) (fCons (fVar 0) (fCons (fVar 1) (fCons (fCon (.int 1)) (fCons (fCon (.bl false)) fNil))))) fNil))) (fCons (fTup (fCons (fCon (.str "assume")) (fCons (fApp (c K) (fCons (fVar 0) (fCons (fVar 1) (fCons (fCon (.int 1)) (fCons (fCon (.bl false)) fNil))))) fNil))) fNil)))))) fNil)))) sNx) (sRet (fTup (fCons (fCon (.str "set")) (fCons (fApp (pr K) (fCons (fVar 0) (fCons (fVar 1) fNil))) fNil))))))
abbrev cRest (c cm : Nat → FF) (K : Nat) : FS := (sSeq (sIf (fTr (fCmp .Lt (fVar 3) (fCon (.int 7)))) (sRet (fTup (fCons (fCon (.str "then")) (fCons (fApp (cm K) (fCons (fVar 0) (fCons (fVar 1) (fCons (fBin .Sub (fVar 2) (fCon (.int 1))) fNil)))) (fCons (fApp (cm K) (fCons (fVar 0) (fCons (fVar 1) (fCons (fBin .Sub (fVar 2) (fCon (.int 1))) fNil)))) fNil))))) sNx) (sSeq (sIf (fTr (fCmp .Lt (fVar 3) (fCon (.int 10)))) (sSeq (sSet 4 (fApp (c K) (fCons (fVar 0) (fCons (fVar 1) (fCons (fCon (.int 1)) (fCons (fCon (.bl false)) fNil)))))) (sSeq (sSet 5 (fIf (fTr (fCmp .Eq (fApp c__law_next (fCons (fVar 0) (fCons (fCon (.int 2)) fNil))) (fCon (.int 0)))) (fTup (fCons (fCon (.str "not")) (fCons (fVar 4) fNil))) (fApp (c K) (fCons (fVar 0) (fCons (fVar 1) (fCons (fCon (.int 1)) (fCons (fCon (.bl false)) fNil))))))) (sRet (fTup (fCons (fCon (.str "if")) (fCons (fTup (fCons (fTup (fCons (fVar 4) (fCons (fApp (cm K) (fCons (fVar 0) (fCons (fVar 1) (fCons (fBin .Sub (fVar 2) (fCon (.int 1))) fNil)))) fNil))) (fCons (fTup (fCons (fVar 5) (fCons (fApp (cm K) (fCons (fVar 0) (fCons (fVar 1) (fCons (fBin .Sub (fVar 2) (fCon (.int 1))) fNil)))) fNil))) fNil))) fNil)))))) sNx) (sSeq (sIf (fTr (fCmp .Eq (fVar 3) (fCon (.int 10)))) (sRet (fTup (fCons (fCon (.str "any")) (fCons (fApp (cm K) (fCons (fVar 0) (fCons (fVar 1) (fCons (fBin .Sub (fVar 2) (fCon (.int 1))) fNil)))) (fCons (fApp (cm K) (fCons (fVar 0) (fCons (fVar 1) (fCons (fBin .Sub (fVar 2) (fCon (.int 1))) fNil)))) fNil))))) sNx) (sSeq (sIf (tOr (fTr (fCmp .Eq (fVar 3) (fCon (.int 11)))) (fTr (fCmp .Gt (fBlt .len (fCons (fVar 1) fNil)) (fCon (.int 2))))) (sRet (fApp c__law_count (fCons (fVar 0) (fCons (fVar 1) fNil)))) sNx) (sSeq (sIf (fTr (fCmp .Eq (fVar 3) (fCon (.int 12)))) (sRet (fTup (fCons (fCon (.str "do")) (fCons (fTup (fCons (fTup (fCons (fApp (c K) (fCons (fVar 0) (fCons (fVar 1) (fCons (fCon (.int 1)) (fCons (fCon (.bl false)) fNil))))) (fCons (fApp (cm K) (fCons (fVar 0) (fCons (fVar 1) (fCons (fBin .Sub (fVar 2) (fCon (.int 1))) fNil)))) fNil))) fNil)) fNil)))) sNx) (sSeq (sSet 6 (fIf (tOr (fTr (fCmp .Lt (fBlt .len (fCons (fVar 1) fNil)) (fCon (.int 2)))) (fTr (fCmp .NotEq (fIx (fIx (fVar 1) (fNeg (fCon (.int 1)))) (fCon (.int 0))) (fCon (.str "z"))))) (fCon (.str "z")) (fCon (.str "zz")))) (sSeq (sSet 7 (fBlt .tuple (fCons (fBlt .sorted (fCons (fBin .Add (fVar 1) (fTup (fCons (fTup (fCons (fVar 6) (fCons (fCon (.int 0)) (fCons (fBin .Add (fCon (.int 1)) (fApp c__law_next (fCons (fVar 0) (fCons (fCon (.int 2)) fNil)))) fNil)))) fNil))) fNil)) fNil))) (sRet (fTup (fCons (fCon (.str "var")) (fCons (fVar 6) (fCons (fCon (.int 0)) (fCons (fIx (fLc [8] (.name 8) (iVar 7) (fTr (fCmp .Eq (fIx (fVar 8) (fCon (.int 0))) (fVar 6))) (fIx (fVar 8) (fCon (.int 2)))) (fCon (.int 0))) (fCons (fApp (cm K) (fCons (fVar 0) (fCons (fVar 7) (fCons (fBin .Sub (fVar 2) (fCon (.int 1))) fNil)))) fNil))))))))))))))
include hf
set_option maxHeartbeats 2000000 in
theorem leaf_drw (K : Nat) (hK : 10 ≤ K) (k : Int) (hk : 0 ≤ k) (x2 : Option D) (v : Int) : okS (cLeaf c pr sp K [some (.ref 0), some (enc fr), x2, some (.int v), none, none, none, none, none] (wc ds k :: r)) fun f _ m => ∃ d, f = .rt d ∧ Drw ds r (CmOk fr 0) d m := by
  unfold cLeaf
  by_cases hv : v = 0
  · obtain ⟨d, m, e1, h1⟩ := spec_drw W hf ds r K (by omega) k hk
    exact okS.sr (d := d) (e' := [some (.ref 0), some (enc fr), x2, some (.int v), none, none, none, none, none]) (m' := m) (by simp [hv, e1]) ⟨d, rfl, h1⟩
  refine okS.sq (e' := [some (.ref 0), some (enc fr), x2, some (.int v), none, none, none, none, none]) (m' := wc ds k :: r) (by simp [hv]) ?_
  obtain ⟨d1, m1, e1, u, rfl, a1, b1, rfl⟩ := next_ok ds k 6 hk (by omega) r
  by_cases hu : u = 0
  · obtain ⟨_, _, e2, ⟨q1, rfl, f1, g1, l1⟩, k2, hk2, rfl⟩ := cond_drw W.toDrc hf.w false ds r 1 K (by omega) (k + 1) (by omega)
    obtain ⟨_, _, e3, ⟨q2, rfl, f2, g2, l2⟩, k3, hk3, rfl⟩ := cond_drw W.toDrc hf.w false ds r 1 K (by omega) k2 hk2
    simp only [Int.natCast_one, Int.ofNat_one] at e2 e3
    obtain ⟨d4, m4, e4, h4, rfl⟩ := pick_ok ds k3 hk3 [.tup [.str "skip"], .tup [.str "abort"], .tup [.str "magic"], .tup [.str "assert", q1.enc], .tup [.str "assume", q2.enc]] (by simp) r
    refine okS.sr (d := d4) (e' := [some (.ref 0), some (enc fr), x2, some (.int v), none, none, none, none, none]) (m' := wc ds (k3 + 1) :: r) (by simp [e1, hu, e2, e3, e4]) ⟨d4, rfl, ?_, _, by omega, rfl⟩
    have d1 := q1.dep_enc
    have d2 := q2.dep_enc
    have s1 := q1.sz_enc
    have s2 := q2.sz_enc
    simp only [List.mem_cons, List.not_mem_nil, or_false] at h4
    rcases h4 with rfl | rfl | rfl | rfl | rfl
    · exact ⟨.word .skip, rfl, trivial, by simp [Cm.dp], by simp [dep, depL], by simp [szD, szL]⟩
    · exact ⟨.word .abort, rfl, trivial, by simp [Cm.dp], by simp [dep, depL], by simp [szD, szL]⟩
    · exact ⟨.word .magic, rfl, trivial, by simp [Cm.dp], by simp [dep, depL], by simp [szD, szL]⟩
    · exact ⟨.asr true q1, rfl, f1, by simp [Cm.dp], by simp only [dep, depL]; omega, by simp only [szD, szL]; omega⟩
    · exact ⟨.asr false q2, rfl, f2, by simp [Cm.dp], by simp only [dep, depL]; omega, by simp only [szD, szL]; omega⟩
  · refine okS.sq (e' := [some (.ref 0), some (enc fr), x2, some (.int v), none, none, none, none, none]) (m' := wc ds (k + 1) :: r) (by simp [e1, hu]) ?_
    obtain ⟨_, _, e2, ⟨ps, rfl, p1, p2, p3, p4⟩, k2, hk2, rfl⟩ := pairs_drw W hf ds r K (by omega) (k + 1) (by omega)
    simp [e2]
    have hd : depL (ps.map encP) ≤ 3 := depL_of fun d hd => by
      obtain ⟨q, hq, rfl⟩ := List.mem_map.mp hd
      have := (p4 q hq).2.2.1
      have := E.dep_enc q.2
      simp only [encP, dep, depL]
      omega
    have hz := szL_le (n := 11) (l := ps.map encP) fun d hd => by
      obtain ⟨q, hq, rfl⟩ := List.mem_map.mp hd
      have := (p4 q hq).2.2.2
      have := E.sz_enc q.2
      simp only [encP, szD, szL]
      omega
    rw [List.length_map] at hz
    refine okS.mk ⟨_, rfl, ⟨.set ps, rfl, ⟨p1, p3, fun q hq => ⟨(p4 q hq).1, (p4 q hq).2.1⟩⟩, by simp [Cm.dp], ?_, ?_⟩, _, hk2, rfl⟩
    · simp only [dep, depL]; omega
    · simp only [szD, szL]; omega
end
end Com

/-! Commands drawn. -/
namespace Com
open PySem Cs
theorem fr1 {fr : List Row} {a : Str} (h : nms fr = [a]) : ∃ lo hi, fr = [(a, lo, hi)] := by
  match fr, h with
  | [(b, lo, hi)], h => simp [nms] at h; subst h; exact ⟨lo, hi, rfl⟩
theorem fr2 {fr : List Row} {a b : Str} (h : nms fr = [a, b]) : ∃ lo hi lo' hi', fr = [(a, lo, hi), (b, lo', hi')] := by
  match fr, h with
  | [(c, lo, hi), (d, lo', hi')], h => simp [nms] at h; obtain ⟨rfl, rfl⟩ := h; exact ⟨lo, hi, lo', hi', rfl⟩
/-- the name of a var, by the frame -/
def newN (fr : List Row) : Str := if nms fr = [("x" : Str), ("z" : Str)] then "zz" else "z"
theorem newN_ok {fr : List Row} (hf : FrS fr) (h2 : fr.length ≤ 2) (m : Mem) {a0 a2 a3 a4 a5 a6 a7 a8 : Option D} :
    (fIf (tOr (fTr (fCmp .Lt (fBlt .len (fCons (fVar 1) fNil)) (fCon (.int 2)))) (fTr (fCmp .NotEq (fIx (fIx (fVar 1) (fNeg (fCon (.int 1)))) (fCon (.int 0))) (fCon (.str "z"))))) (fCon (.str "z")) (fCon (.str "zz"))) [a0, some (enc fr), a2, a3, a4, a5, a6, a7, a8] m = .ok (.str (newN fr)) m := by
  have last : ∀ (u v : D) m, ixD (.tup [u, v]) (.int (-1)) m = some v := fun u v m => by simp [ixD, L2.atI, L2.ixN]
  rcases hf.1 with h | h | h | h | h
  · obtain ⟨lo, hi, rfl⟩ := fr1 h
    simp [enc, newN, nms]
  · obtain ⟨lo, hi, lo', hi', rfl⟩ := fr2 h
    simp [enc, newN, nms, last, encR]
  · obtain ⟨lo, hi, lo', hi', rfl⟩ := fr2 h
    simp [enc, newN, nms, last, encR]
  · have : fr.length = (nms fr).length := by simp [nms]
    rw [h] at this; simp at this; omega
  · have : fr.length = (nms fr).length := by simp [nms]
    rw [h] at this; simp at this; omega
theorem FrS.more {fr : List Row} (hf : FrS fr) (h2 : fr.length ≤ 2) {v : Int} (h0 : 0 ≤ v) (h1 : v < 2) : FrS (fr ++ [(newN fr, 0, 1 + v)]) ∧ nmS (newN fr) = true ∧ (∀ y ∈ nms fr, ltS y (newN fr) = true) ∧ newN fr ∉ nms fr := by
  have hr : ∀ x : Str, ∀ r ∈ fr ++ [(x, 0, 1 + v)], -100 ≤ r.2.1 ∧ r.2.1 ≤ r.2.2 ∧ r.2.2 ≤ 100 := fun x r hr => by
    rw [List.mem_append, List.mem_singleton] at hr
    rcases hr with hr | rfl
    · exact hf.2 r hr
    · simp only; omega
  have hn : ∀ x : Str, nms (fr ++ [(x, 0, 1 + v)]) = nms fr ++ [x] := fun x => by simp [nms]
  rcases hf.1 with h | h | h | h | h
  · have e : newN fr = "z" := by simp [newN, h]
    rw [e, h]
    exact ⟨⟨by simp [hn, h], hr _⟩, by decide +kernel, by decide +kernel, by decide +kernel⟩
  · have e : newN fr = "z" := by simp [newN, h]
    rw [e, h]
    exact ⟨⟨by simp [hn, h], hr _⟩, by decide +kernel, by decide +kernel, by decide +kernel⟩
  · have e : newN fr = "zz" := by simp [newN, h]
    rw [e, h]
    exact ⟨⟨by simp [hn, h], hr _⟩, by decide +kernel, by decide +kernel, by decide +kernel⟩
  · have : fr.length = (nms fr).length := by simp [nms]
    rw [h] at this; simp at this; omega
  · have : fr.length = (nms fr).length := by simp [nms]
    rw [h] at this; simp at this; omega
theorem hi_ok {fr : List Row} {x : Str} {lo hi : Int} (hl : fr.length ≤ 100) (hx : x ∉ nms fr) {e : Sto} {m : Mem} (h7 : atV e 7 = some (enc (fr ++ [(x, lo, hi)]))) (h6 : (wipe e [8])[6]? = some (some (.str x))) (he : e.length = 9) :
    fIx (fLc [8] (.name 8) (iVar 7) (fTr (fCmp .Eq (fIx (fVar 8) (fCon (.int 0))) (fVar 6))) (fIx (fVar 8) (fCon (.int 2)))) (fCon (.int 0)) e m = .ok (.int hi) m := by
  have hw : (wipe e [8]).length = 9 := by simp [he]
  have e1 := lc_pick (p := fun d => match d with | .tup (.str y :: _) => y == x | _ => false) (g := fun d => match d with | .tup [_, _, h] => h | _ => .non) (ft := (fTr (fCmp .Eq (fIx (fVar 8) (fCon (.int 0))) (fVar 6)))) (fe := (fIx (fVar 8) (fCon (.int 2)))) (j := 8) (m := m) (iVar_tup (ds := (fr ++ [(x, lo, hi)]).map encR) h7) (sl_of (by simp; omega)) (fun d hd => by
    obtain ⟨⟨y, a, b⟩, _, rfl⟩ := List.mem_map.mp hd
    have a8 : atV ((wipe e [8]).set 8 (some (encR (y, a, b)))) 8 = some (encR (y, a, b)) := atV_set (by omega)
    have a6 : atV ((wipe e [8]).set 8 (some (encR (y, a, b)))) 6 = some (.str x) := by
      unfold atV
      rw [List.getElem?_set_ne (by omega), h6]
      rfl
    simp only [encR] at a8 a6
    simp only [fTr_ap, fCmp_ap, fIx_ap, fVar_ap, fCon_ap, encR, a8, a6, ofO_some, bnd_ok, ix_t0, ix_t2, cmp_eqS, ofB_some, trD_blS, true_and, implies_true])
  have e2 : (((fr ++ [(x, lo, hi)]).map encR).filter fun d => match d with | .tup (.str y :: _) => y == x | _ => false) = [encR (x, lo, hi)] := by
    rw [List.map_append, List.filter_append]
    have : ((fr.map encR).filter fun d => match d with | .tup (.str y :: _) => y == x | _ => false) = [] := by
      rw [List.filter_eq_nil_iff]
      intro d hd
      obtain ⟨q, hq, rfl⟩ := List.mem_map.mp hd
      simp only [encR, beq_iff_eq]
      intro h
      exact hx (List.mem_map.mpr ⟨q, hq, h⟩)
    rw [this]
    simp [encR]
  rw [e2] at e1
  rw [fIx_ap, e1]
  simp [encR]
  exact congrArg (ofO m) (ix_lst (by omega) rfl)
theorem sort_more {fr : List Row} {x : Str} {hi : D} {f : FE} {v : Int} (hf : FrS (fr ++ [(x, 0, v)])) (hl : fr.length ≤ 100) {e : Sto} {m m' : Mem} (h1 : atV e 1 = some (enc fr)) (h6 : atV e 6 = some (.str x)) (hg : f e m = .ok (.int v) m') :
    fBlt .tuple (fCons (fBlt .sorted (fCons (fBin .Add (fVar 1) (fTup (fCons (fTup (fCons (fVar 6) (fCons (fCon (.int 0)) (fCons f fNil)))) fNil))) fNil)) fNil) e m = .ok (enc (fr ++ [(x, 0, v)])) m' := by
  have ea : binD .Add (enc fr) (.tup [.tup [.str x, .int 0, .int v]]) m' = some (.tup ((fr ++ [(x, 0, v)]).map encR)) := by
    unfold enc
    rw [add_tup (sl_of (by simp; omega))]
    simp [encR]
  have es := sorted_rows (fr ++ [(x, 0, v)]) m'
  rw [srtR_ord hf.g.ord] at es
  simp only [fBlt_ap, fCons_ap, fNil_ap, fBin_ap, fTup_ap, fVar_ap, fCon_ap, h1, h6, hg, bnd_ok, ofO_some, List.length_cons, List.length_nil, Nat.zero_add, Nat.reduceAdd, sl_1, sl_3, if_true, ea, es, tuple_lst]
  rfl
end Com

/-! Commands drawn. -/
namespace Com
open PySem Cs
section
variable {n p x c so pr sp co cm : Nat → FF} (W : Drk n p x c so pr sp co cm) (ds : List Int) (r : Mem)
include W
set_option maxHeartbeats 4000000 in
theorem rest_drw {fr : List Row} (hf : FrS fr) (dp : Nat) (K : Nat) (hK : dp + 13 ≤ K) (ih : ∀ fr : List Row, FrS fr → ∀ k, 0 ≤ k → okR (cm K [.ref 0, enc fr, .int dp] (wc ds k :: r)) (Drw ds r (CmOk fr dp))) (k : Int) (hk : 0 ≤ k) (v : Int) :
    okS (cRest c cm K [some (.ref 0), some (enc fr), some (.int (dp + 1 : Int)), some (.int v), none, none, none, none, none] (wc ds k :: r)) fun f _ m => ∃ d, f = .rt d ∧ Drw ds r (CmOk fr (dp + 1)) d m := by
  unfold cRest
  have hd : ((dp : Int) + 1 - 1) = (dp : Int) := by omega
  have hp : (2 : Nat) ^ (dp + 1) = 2 * 2 ^ dp := by rw [Nat.pow_succ]; omega
  have hp1 : 1 ≤ 2 ^ dp := Nat.one_le_two_pow
  by_cases h7 : v < 7
  · obtain ⟨_, _, e1, ⟨a, rfl, a1, a2, a3, a4⟩, k1, hk1, rfl⟩ := ih fr hf k hk
    obtain ⟨_, _, e2, ⟨b, rfl, b1, b2, b3, b4⟩, k2, hk2, rfl⟩ := ih fr hf k1 hk1
    refine okS.sr (d := (Cm.seq true a b).enc) (e' := [some (.ref 0), some (enc fr), some (.int (dp + 1 : Int)), some (.int v), none, none, none, none, none]) (m' := wc ds k2 :: r) (by simp [h7, hd, e1, e2, Cm.enc, wSeq]) ?_
    exact ⟨_, rfl, ⟨.seq true a b, rfl, ⟨a1, b1⟩, by simp only [Cm.dp]; omega, by simp only [Cm.enc, dep, depL]; omega, by simp only [Cm.enc, szD, szL]; omega⟩, _, hk2, rfl⟩
  refine okS.sq (e' := [some (.ref 0), some (enc fr), some (.int (dp + 1 : Int)), some (.int v), none, none, none, none, none]) (m' := wc ds k :: r) (by simp [h7]) ?_
  by_cases h10 : v < 10
  · obtain ⟨_, _, e1, ⟨g, rfl, g1, g2, g3⟩, k1, hk1, rfl⟩ := cond_drw W.toDrc hf.w false ds r 1 K (by omega) k hk
    obtain ⟨_, _, e2, u, rfl, u1, u2, rfl⟩ := next_ok ds k1 2 hk1 (by omega) r
    simp only [Int.natCast_one, Int.ofNat_one] at e1
    have two : ∀ (h : Cd) (k2 : Int), 0 ≤ k2 → h.fits (nms fr) false = true → h.deep ≤ 4 → h.leaves ≤ 17 → okS ((sRet (fTup (fCons (fCon (.str "if")) (fCons (fTup (fCons (fTup (fCons (fVar 4) (fCons (fApp (cm K) (fCons (fVar 0) (fCons (fVar 1) (fCons (fBin .Sub (fVar 2) (fCon (.int 1))) fNil)))) fNil))) (fCons (fTup (fCons (fVar 5) (fCons (fApp (cm K) (fCons (fVar 0) (fCons (fVar 1) (fCons (fBin .Sub (fVar 2) (fCon (.int 1))) fNil)))) fNil))) fNil))) fNil)))) [some (.ref 0), some (enc fr), some (.int (dp + 1 : Int)), some (.int v), some g.enc, some h.enc, none, none, none] (wc ds k2 :: r)) fun f _ m => ∃ d, f = .rt d ∧ Drw ds r (CmOk fr (dp + 1)) d m := by
      intro h k2 hk2 h1 h2 h3
      obtain ⟨_, _, e3, ⟨a, rfl, a1, a2, a3, a4⟩, k3, hk3, rfl⟩ := ih fr hf k2 hk2
      obtain ⟨_, _, e4, ⟨b, rfl, b1, b2, b3, b4⟩, k4, hk4, rfl⟩ := ih fr hf k3 hk3
      simp [hd, e3, e4]
      have d1 := g.dep_enc
      have d2 := h.dep_enc
      have s1 := g.sz_enc
      have s2 := h.sz_enc
      exact okS.mk ⟨_, rfl, ⟨.if2 g a h b, rfl, ⟨g1, a1, h1, b1⟩, by simp only [Cm.dp]; omega, by simp only [dep, depL]; omega, by simp only [szD, szL]; omega⟩, _, hk4, rfl⟩
    rw [sSeq_ap, sIf_ap]
    simp only [fTr_ap, fCmp_ap, fVar_ap, fCon_ap, atV_s, atV_0, ofO_some, bnd_ok, cmp_lt, h10, decide_true, ofB_some, trD_blS, sBd_ok, if_true]
    refine okS.thn ?_
    refine okS.sq (e' := [some (.ref 0), some (enc fr), some (.int (dp + 1 : Int)), some (.int v), some g.enc, none, none, none, none]) (m' := wc ds k1 :: r) (by simp [e1]) ?_
    by_cases hu : u = 0
    · refine okS.sq (e' := [some (.ref 0), some (enc fr), some (.int (dp + 1 : Int)), some (.int v), some g.enc, some (Cd.neg g).enc, none, none, none]) (m' := wc ds (k1 + 1) :: r) (by simp [e2, hu, Cd.enc]) ?_
      refine (two (.neg g) (k1 + 1) (by omega) g1 (by simp only [Cd.deep]; omega) (by simp only [Cd.leaves]; omega)).imp ?_
      rintro f e m ⟨d, rfl, h⟩
      exact ⟨d, rfl, h⟩
    · obtain ⟨_, _, e3, ⟨h, rfl, h1, h2, h3⟩, k3, hk3, rfl⟩ := cond_drw W.toDrc hf.w false ds r 1 K (by omega) (k1 + 1) (by omega)
      simp only [Int.natCast_one, Int.ofNat_one] at e3
      refine okS.sq (e' := [some (.ref 0), some (enc fr), some (.int (dp + 1 : Int)), some (.int v), some g.enc, some h.enc, none, none, none]) (m' := wc ds k3 :: r) (by simp [e2, hu, e3]) ?_
      refine (two h k3 hk3 h1 (by omega) (by omega)).imp ?_
      rintro f e m ⟨d, rfl, h⟩
      exact ⟨d, rfl, h⟩
  refine okS.sq (e' := [some (.ref 0), some (enc fr), some (.int (dp + 1 : Int)), some (.int v), none, none, none, none, none]) (m' := wc ds k :: r) (by simp [h10]) ?_
  by_cases h11 : v = 10
  · obtain ⟨_, _, e1, ⟨a, rfl, a1, a2, a3, a4⟩, k1, hk1, rfl⟩ := ih fr hf k hk
    obtain ⟨_, _, e2, ⟨b, rfl, b1, b2, b3, b4⟩, k2, hk2, rfl⟩ := ih fr hf k1 hk1
    refine okS.sr (d := (Cm.seq false a b).enc) (e' := [some (.ref 0), some (enc fr), some (.int (dp + 1 : Int)), some (.int v), none, none, none, none, none]) (m' := wc ds k2 :: r) (by simp [h11, hd, e1, e2, Cm.enc, wSeq]) ?_
    exact ⟨_, rfl, ⟨.seq false a b, rfl, ⟨a1, b1⟩, by simp only [Cm.dp]; omega, by simp only [Cm.enc, dep, depL]; omega, by simp only [Cm.enc, szD, szL]; omega⟩, _, hk2, rfl⟩
  refine okS.sq (e' := [some (.ref 0), some (enc fr), some (.int (dp + 1 : Int)), some (.int v), none, none, none, none, none]) (m' := wc ds k :: r) (by simp [h11]) ?_
  have el : ∀ m, bltD .len [enc fr] m = some (.int fr.length) := fun m => by
    show some (D.int ((fr.map encR).length : Nat)) = _
    rw [List.length_map]
  by_cases h12 : v = 11 ∨ 2 < fr.length
  · obtain ⟨d, m, e1, h1, k1, hk1, rfl⟩ := count_drw hf ds r k hk
    obtain ⟨K, rfl⟩ : ∃ j, K = j + 3 := ⟨K - 3, by omega⟩
    refine okS.sr (d := d) (e' := [some (.ref 0), some (enc fr), some (.int (dp + 1 : Int)), some (.int v), none, none, none, none, none]) (m' := wc ds k1 :: r) ?_ ⟨d, rfl, h1.mono (by omega), k1, hk1, rfl⟩
    rcases h12 with rfl | h12
    · simp [e1]
    · have : (2 : Int) < (fr.length : Int) := by omega
      by_cases q : v = 11 <;> simp [q, el, this, e1]
  have h12a : ¬ v = 11 := fun z => h12 (.inl z)
  have h12b : fr.length ≤ 2 := by omega
  have h12c : ¬ (2 : Int) < (fr.length : Int) := by omega
  refine okS.sq (e' := [some (.ref 0), some (enc fr), some (.int (dp + 1 : Int)), some (.int v), none, none, none, none, none]) (m' := wc ds k :: r) (by simp [h12a, el, h12c]) ?_
  by_cases h13 : v = 12
  · obtain ⟨_, _, e1, ⟨g, rfl, g1, g2, g3⟩, k1, hk1, rfl⟩ := cond_drw W.toDrc hf.w false ds r 1 K (by omega) k hk
    simp only [Int.natCast_one, Int.ofNat_one] at e1
    obtain ⟨_, _, e2, ⟨a, rfl, a1, a2, a3, a4⟩, k2, hk2, rfl⟩ := ih fr hf k1 hk1
    have d1 := g.dep_enc
    have s1 := g.sz_enc
    refine okS.sr (d := (Cm.do1 g a).enc) (e' := [some (.ref 0), some (enc fr), some (.int (dp + 1 : Int)), some (.int v), none, none, none, none, none]) (m' := wc ds k2 :: r) (by simp [h13, hd, e1, e2, Cm.enc]) ?_
    exact ⟨_, rfl, ⟨.do1 g a, rfl, ⟨g1, a1⟩, by simp only [Cm.dp]; omega, by simp only [Cm.enc, dep, depL]; omega, by simp only [Cm.enc, szD, szL]; omega⟩, _, hk2, rfl⟩
  refine okS.sq (e' := [some (.ref 0), some (enc fr), some (.int (dp + 1 : Int)), some (.int v), none, none, none, none, none]) (m' := wc ds k :: r) (by simp [h13]) ?_
  have en := newN_ok hf h12b (wc ds k :: r) (a0 := some (.ref 0)) (a2 := some (.int (dp + 1 : Int))) (a3 := some (.int v)) (a4 := none) (a5 := none) (a6 := none) (a7 := none) (a8 := none)
  refine okS.sq (e' := [some (.ref 0), some (enc fr), some (.int (dp + 1 : Int)), some (.int v), none, none, some (.str (newN fr)), none, none]) (m' := wc ds k :: r) (by rw [sSet_ap, en]; rfl) ?_
  obtain ⟨_, _, e2, u, rfl, u1, u2, rfl⟩ := next_ok ds k 2 hk (by omega) r
  obtain ⟨f1, f2, f3, f4⟩ := hf.more h12b u1 u2
  have es := sort_more (fr := fr) (x := newN fr) (hi := .non) (v := 1 + u) (f := (fBin .Add (fCon (.int 1)) (fApp c__law_next (fCons (fVar 0) (fCons (fCon (.int 2)) fNil))))) f1 (by omega) (e := [some (.ref 0), some (enc fr), some (.int (dp + 1 : Int)), some (.int v), none, none, some (.str (newN fr)), none, none]) (m := wc ds k :: r) (m' := wc ds (k + 1) :: r) rfl rfl (by simp [e2])
  refine okS.sq (e' := [some (.ref 0), some (enc fr), some (.int (dp + 1 : Int)), some (.int v), none, none, some (.str (newN fr)), some (enc (fr ++ [(newN fr, 0, 1 + u)])), none]) (m' := wc ds (k + 1) :: r) (by rw [sSet_ap, es]; rfl) ?_
  have eh := hi_ok (fr := fr) (x := newN fr) (lo := 0) (hi := 1 + u) (by omega) f4 (e := [some (.ref 0), some (enc fr), some (.int (dp + 1 : Int)), some (.int v), none, none, some (.str (newN fr)), some (enc (fr ++ [(newN fr, 0, 1 + u)])), none]) (m := wc ds (k + 1) :: r) rfl rfl rfl
  obtain ⟨_, _, e5, ⟨a, rfl, a1, a2, a3, a4⟩, k5, hk5, rfl⟩ := ih _ f1 (k + 1) (by omega)
  rw [sRet_ap, fTup_ap]
  simp only [fCons_ap, eh, fNil_ap, fCon_ap, fVar_ap, fApp_ap, fBin_ap, atV_s, atV_0, ofO_some, bnd_ok, sub_int, hd, e5, List.length_cons, List.length_nil, Nat.zero_add, Nat.reduceAdd, sl_5, if_true, sBd_ok]
  exact okS.mk ⟨_, rfl, ⟨.var (newN fr) 0 (1 + u) a, rfl, ⟨f2, f3, by omega, by omega, by omega, a1⟩, by simp only [Cm.dp]; omega, by simp only [dep, depL]; omega, by simp only [szD, szL]; omega⟩, _, hk5, rfl⟩
theorem cmd_drw : ∀ (dp K : Nat), 2 * dp + 14 ≤ K → ∀ fr : List Row, FrS fr → ∀ k, 0 ≤ k → okR (cm K [.ref 0, enc fr, .int dp] (wc ds k :: r)) (Drw ds r (CmOk fr dp)) := by
  intro dp
  induction dp with
  | zero =>
    intro K hK fr hf k hk
    obtain ⟨K, rfl⟩ : ∃ j, K = j + 4 := ⟨K - 4, by omega⟩
    rw [W.hcm, W.hn, W.hp, W.hco]
    refine okF rfl ?_
    unfold b__law_command
    obtain ⟨_, _, e1, v, rfl, a1, b1, rfl⟩ := next_ok ds k 14 hk (by omega) r
    refine okS.sq (e' := [some (.ref 0), some (enc fr), some (.int 0), some (.int v), none, none, none, none, none]) (m' := wc ds (k + 1) :: r) (by simp [e1]) ?_
    rw [sSeq_ap, sIf_ap]
    simp only [tOr_ap, fTr_ap, fCmp_ap, fVar_ap, fCon_ap, atV_s, atV_0, ofO_some, bnd_ok, cmp_eqI, ofB_some, trD_blS, beq_self_eq_true, if_true, sBd_ok]
    refine okS.thn ((leaf_drw W hf ds r (K + 3) (by omega) (k + 1) (by omega) (some (.int 0)) v).imp ?_)
    rintro f e m ⟨d, rfl, h⟩
    exact okR.mk h
  | succ dp ih =>
    intro K hK fr hf k hk
    obtain ⟨K, rfl⟩ : ∃ j, K = j + 4 := ⟨K - 4, by omega⟩
    rw [W.hcm, W.hn, W.hp, W.hco]
    refine okF rfl ?_
    unfold b__law_command
    obtain ⟨_, _, e1, v, rfl, a1, b1, rfl⟩ := next_ok ds k 14 hk (by omega) r
    refine okS.sq (e' := [some (.ref 0), some (enc fr), some (.int (dp + 1 : Int)), some (.int v), none, none, none, none, none]) (m' := wc ds (k + 1) :: r) (by simp [e1]) ?_
    have hz : (((dp : Int) + 1) == 0) = false := by rw [beq_eq_false_iff_ne]; omega
    by_cases h4 : v < 4
    · rw [sSeq_ap, sIf_ap]
      simp only [tOr_ap, fTr_ap, fCmp_ap, fVar_ap, fCon_ap, atV_s, atV_0, ofO_some, bnd_ok, cmp_eqI, cmp_lt, hz, h4, decide_true, ofB_some, trD_blS, Bool.false_eq_true, if_false, if_true, sBd_ok]
      refine okS.thn ((leaf_drw W hf ds r (K + 3) (by omega) (k + 1) (by omega) (some (.int (dp + 1 : Int))) v).imp ?_)
      rintro f e m ⟨d, rfl, h⟩
      exact okR.mk ⟨h.1.mono (by omega), h.2⟩
    · refine okS.sq (e' := [some (.ref 0), some (enc fr), some (.int (dp + 1 : Int)), some (.int v), none, none, none, none, none]) (m' := wc ds (k + 1) :: r) (by simp [hz, h4]) ?_
      refine (rest_drw W ds r hf dp (K + 3) (by omega) (fun fr hf k hk => ih (K + 3) (by omega) fr hf k hk) (k + 1) (by omega) v).imp ?_
      rintro f e m ⟨d, rfl, h⟩
      exact okR.mk h
end
end Com

/-! Forms as data: fine ones; sizes of what stands within. -/
namespace Com
open PySem Cs
theorem E.fine_enc {ns : List Str} (hn : ∀ z ∈ ns, z.length ≤ 1000) {o : Bool} : ∀ e : E, e.fits ns o = true → fine e.enc = true
  | .num i, _ => by simp [E.enc, fine, fineL]; decide
  | .nam x, h => by
    simp only [E.fits, List.any_eq_true] at h
    obtain ⟨y, hy, e⟩ := h
    have := hn y hy
    rw [eq_of_beq e] at this
    simp only [E.enc, fine, fineL, Bool.and_eq_true, decide_eq_true_eq]
    exact ⟨by decide, this, trivial⟩
  | .old x, h => by
    simp only [E.fits, Bool.and_eq_true, List.any_eq_true] at h
    obtain ⟨_, y, hy, e⟩ := h
    have := hn y hy
    rw [eq_of_beq e] at this
    simp only [E.enc, fine, fineL, Bool.and_eq_true, decide_eq_true_eq]
    exact ⟨by decide, this, trivial⟩
  | .two s a b, h => by
    simp only [E.fits, Bool.and_eq_true] at h
    simp only [E.enc, fine, fineL, Bool.and_eq_true, decide_eq_true_eq]
    exact ⟨by decide, by cases s <;> decide, E.fine_enc hn a h.1, E.fine_enc hn b h.2, trivial⟩
theorem Cd.fine_enc {ns : List Str} (hn : ∀ z ∈ ns, z.length ≤ 1000) {o : Bool} : ∀ e : Cd, e.fits ns o = true → fine e.enc = true
  | .tru _, _ => by simp [Cd.enc, fine, fineL]; decide
  | .neg c, h => by
    simp only [Cd.fits] at h
    simp only [Cd.enc, fine, fineL, Bool.and_eq_true, decide_eq_true_eq]
    exact ⟨by decide, Cd.fine_enc hn c h, trivial⟩
  | .both w a b, h => by
    simp only [Cd.fits, Bool.and_eq_true] at h
    simp only [Cd.enc, fine, fineL, Bool.and_eq_true, decide_eq_true_eq]
    exact ⟨by cases w <;> decide, Cd.fine_enc hn a h.1, Cd.fine_enc hn b h.2, trivial⟩
  | .cmp w a b, h => by
    simp only [Cd.fits, Bool.and_eq_true] at h
    simp only [Cd.enc, fine, fineL, Bool.and_eq_true, decide_eq_true_eq]
    exact ⟨by cases w <;> decide, E.fine_enc hn a h.1.1.1, E.fine_enc hn b h.1.1.2, trivial⟩
theorem nmS_len {z : Str} (h : nmS z = true) : z.length ≤ 1000 := by
  unfold nmS at h
  rw [str_len]
  cases q : z.cps.toList with
  | nil => simp
  | cons c r =>
    rw [q] at h
    simp only [nmL, Bool.and_eq_true, decide_eq_true_eq] at h
    simp only [List.length_cons]
    omega
theorem fineL_of : ∀ {ds : List D}, (∀ d ∈ ds, fine d = true) → fineL ds = true
  | [], _ => rfl
  | d :: ds, h => by
    simp only [fineL, Bool.and_eq_true]
    exact ⟨h d List.mem_cons_self, fineL_of fun e he => h e (List.mem_cons_of_mem _ he)⟩
theorem Cm.fine_enc : ∀ (c : Cm) (fr : List Row), FrG fr → c.fits fr → fine c.enc = true
  | .word w, fr, _, _ => by cases w <;> simp [Cm.enc, fine, fineL] <;> decide
  | .set ps, fr, g, h => by
    have hn : ∀ z ∈ nms fr, z.length ≤ 1000 := fun z hz => nmS_len (g.nm z hz)
    obtain ⟨h1, h2, h3⟩ := h
    simp only [Cm.enc, fine, fineL, Bool.and_eq_true, decide_eq_true_eq]
    refine ⟨by decide, fineL_of fun d hd => ?_, trivial⟩
    obtain ⟨p, hp, rfl⟩ := List.mem_map.mp hd
    have := h3 p hp
    simp only [encP, fine, fineL, Bool.and_eq_true, decide_eq_true_eq]
    exact ⟨hn _ this.1, E.fine_enc hn _ this.2, trivial⟩
  | .asr w c, fr, g, h => by
    have hn : ∀ z ∈ nms fr, z.length ≤ 1000 := fun z hz => nmS_len (g.nm z hz)
    simp only [Cm.enc, fine, fineL, Bool.and_eq_true, decide_eq_true_eq]
    exact ⟨by cases w <;> decide, Cd.fine_enc hn c h, trivial⟩
  | .seq w a b, fr, g, h => by
    simp only [Cm.enc, fine, fineL, Bool.and_eq_true, decide_eq_true_eq]
    exact ⟨by cases w <;> decide, Cm.fine_enc a fr g h.1, Cm.fine_enc b fr g h.2, trivial⟩
  | .if2 c a d b, fr, g, h => by
    have hn : ∀ z ∈ nms fr, z.length ≤ 1000 := fun z hz => nmS_len (g.nm z hz)
    simp only [Cm.enc, fine, fineL, Bool.and_eq_true, decide_eq_true_eq]
    exact ⟨by decide, ⟨⟨Cd.fine_enc hn c h.1, Cm.fine_enc a fr g h.2.1, trivial⟩, ⟨Cd.fine_enc hn d h.2.2.1, Cm.fine_enc b fr g h.2.2.2, trivial⟩, trivial⟩, trivial⟩
  | .do1 c a, fr, g, h => by
    have hn : ∀ z ∈ nms fr, z.length ≤ 1000 := fun z hz => nmS_len (g.nm z hz)
    simp only [Cm.enc, fine, fineL, Bool.and_eq_true, decide_eq_true_eq]
    exact ⟨by decide, ⟨⟨Cd.fine_enc hn c h.1, Cm.fine_enc a fr g h.2, trivial⟩, trivial⟩, trivial⟩
  | .spec ns p q, fr, g, h => by
    have hn : ∀ z ∈ nms fr, z.length ≤ 1000 := fun z hz => nmS_len (g.nm z hz)
    obtain ⟨h1, h2, h3, h4⟩ := h
    simp only [Cm.enc, fine, fineL, Bool.and_eq_true, decide_eq_true_eq]
    refine ⟨by decide, fineL_of fun d hd => ?_, Cd.fine_enc hn p h3, Cd.fine_enc hn q h4, trivial⟩
    obtain ⟨z, hz, rfl⟩ := List.mem_map.mp hd
    simp only [fine, decide_eq_true_eq]
    exact hn z (h2 z hz)
  | .var x lo hi a, fr, g, h => by
    obtain ⟨h1, h2, h3, h4, h5, h6⟩ := h
    simp only [Cm.enc, fine, fineL, Bool.and_eq_true, decide_eq_true_eq]
    exact ⟨by decide, nmS_len h1, trivial, trivial, Cm.fine_enc a _ (g.snoc h1 h2) h6, trivial⟩
theorem Cm.plain_enc : ∀ c : Cm, Cs.plain c.enc = true
  | .word w => by cases w <;> rfl
  | .set ps => by
    simp only [Cm.enc, Cs.plain, plainL, Bool.true_and, Bool.and_true]
    refine plainL_of fun d hd => ?_
    obtain ⟨p, _, rfl⟩ := List.mem_map.mp hd
    simp only [encP, Cs.plain, plainL, E.plain_enc, Bool.and_self]
  | .asr w c => by simp only [Cm.enc, Cs.plain, plainL, Cd.plain_enc, Bool.and_self]
  | .seq w a b => by simp only [Cm.enc, Cs.plain, plainL, a.plain_enc, b.plain_enc, Bool.and_self]
  | .if2 c a d b => by simp only [Cm.enc, Cs.plain, plainL, a.plain_enc, b.plain_enc, Cd.plain_enc, Bool.and_self]
  | .do1 c a => by simp only [Cm.enc, Cs.plain, plainL, a.plain_enc, Cd.plain_enc, Bool.and_self]
  | .spec ns p q => by simp only [Cm.enc, Cs.plain, plainL, Cd.plain_enc, plainL_strs, Bool.and_self]
  | .var x lo hi a => by simp only [Cm.enc, Cs.plain, plainL, a.plain_enc, Bool.and_self]
theorem Cm.parts_sz {c d : Cm} (h : d ∈ c.parts) : dep d.enc ≤ dep c.enc ∧ szD d.enc ≤ szD c.enc := by
  cases c <;> simp only [Cm.parts, List.mem_cons, List.not_mem_nil, or_false] at h
  · rcases h with rfl | rfl <;> simp only [Cm.enc, dep, depL, szD, szL] <;> omega
  · rcases h with rfl | rfl <;> simp only [Cm.enc, dep, depL, szD, szL] <;> omega
  · subst h; simp only [Cm.enc, dep, depL, szD, szL]; omega
  · subst h; simp only [Cm.enc, dep, depL, szD, szL]; omega
end Com

namespace K10
open PySem Cs
/-- the i-th statement of the text -/
def top (i : Nat) : Stmt := PySem.Challenge.pw_closersteps_k10_commands_parts_and_ways.main.body.getD i (.Pass ⟨0, 0, 0, 0⟩)
def f_is_integer : FD := ⟨top 7, ["thing"], ["thing"], []⟩
def f_is_number : FD := ⟨top 8, ["thing"], ["thing"], []⟩
def f_is_name : FD := ⟨top 9, ["thing", "sign"], ["thing"], []⟩
def f_is_ascending : FD := ⟨top 10, ["row", "k"], ["row"], []⟩
def f_is_range : FD := ⟨top 13, ["low", "high"], ["low", "high"], []⟩
def f_names_of : FD := ⟨top 14, ["frame", "own"], ["frame"], []⟩
def f_with_name : FD := ⟨top 15, ["frame", "name", "low", "high"], ["frame", "name", "low", "high"], []⟩
def f_is_word : FD := ⟨top 20, ["thing", "words"], ["thing", "words"], []⟩
def f_is_value : FD := ⟨top 21, ["frame", "thing", "has_old", "is_there"], ["frame", "thing", "has_old"], []⟩
def f_is_truth : FD := ⟨top 22, ["frame", "thing", "has_old"], ["frame", "thing", "has_old"], []⟩
def f_is_expr : FD := ⟨top 23, ["frame", "thing"], ["frame", "thing"], []⟩
def f_is_cond : FD := ⟨top 24, ["frame", "thing"], ["frame", "thing"], []⟩
def f_is_post : FD := ⟨top 25, ["frame", "thing"], ["frame", "thing"], []⟩
def f_is_pairs : FD := ⟨top 28, ["frame", "thing", "own"], ["frame", "thing"], []⟩
def f_is_names : FD := ⟨top 29, ["frame", "thing", "own"], ["frame", "thing"], []⟩
def f_are_guarded : FD := ⟨top 30, ["frame", "thing", "own"], ["frame", "thing"], []⟩
def f_is_command : FD := ⟨top 31, ["frame", "thing", "word"], ["frame", "thing"], []⟩
def f_is_local : FD := ⟨top 32, ["frame", "thing"], ["frame", "thing"], []⟩
def f_parts_of : FD := ⟨top 33, ["command", "_", "own"], ["command"], []⟩
def f_with_parts : FD := ⟨top 34, ["command", "parts", "guard", "_", "part"], ["command", "parts"], []⟩
def f_inner_frame : FD := ⟨top 35, ["frame", "command"], ["frame", "command"], []⟩
def f_is_way : FD := ⟨top 36, ["thing", "own"], ["thing"], []⟩
def f_part_at : FD := ⟨top 37, ["command", "way", "place", "parts"], ["command", "way"], []⟩
def f_frame_at : FD := ⟨top 38, ["frame", "command", "way", "place", "parts"], ["frame", "command", "way"], []⟩
def f_with_part : FD := ⟨top 39, ["command", "way", "part", "parts", "later"], ["command", "way", "part"], []⟩
def f_ways_of : FD := ⟨top 40, ["command", "found", "place", "own", "way"], ["command"], ["found"]⟩
def f__law_draws : FD := ⟨top 42, ["script", "many", "draws", "mixed", "k", "cell", "rest", "turn"], ["script", "many"], ["draws"]⟩
def f__law_next : FD := ⟨top 43, ["w", "many"], ["w", "many"], []⟩
def f__law_pick : FD := ⟨top 44, ["w", "rows"], ["w", "rows"], []⟩
def f__law_says : FD := ⟨top 45, ["seen", "due"], ["seen", "due"], []⟩
def f__law_same : FD := ⟨top 46, ["seen", "due", "waiting", "one", "other", "key", "k"], ["seen", "due"], ["waiting"]⟩
def f__law_frame : FD := ⟨top 47, ["w", "low", "rows"], ["w"], ["rows"]⟩
def f__law_expr : FD := ⟨top 49, ["w", "frame", "deep", "old", "kind", "names", "own", "sign"], ["w", "frame", "deep", "old"], []⟩
def f__law_cond : FD := ⟨top 50, ["w", "frame", "deep", "old", "kind"], ["w", "frame", "deep", "old"], []⟩
def f__law_some : FD := ⟨top 53, ["w", "frame", "names", "own", "found", "name"], ["w", "frame"], []⟩
def f__law_pairs : FD := ⟨top 54, ["w", "frame", "name"], ["w", "frame"], []⟩
def f__law_spec : FD := ⟨top 55, ["w", "frame", "pre"], ["w", "frame"], []⟩
def f__law_count : FD := ⟨top 56, ["w", "frame", "name", "low", "high"], ["w", "frame"], []⟩
def f__law_command : FD := ⟨top 57, ["w", "frame", "deep", "kind", "guard", "other", "name", "inner", "own"], ["w", "frame", "deep"], []⟩
def f__law_within : FD := ⟨top 58, ["command", "word", "rows", "more", "guard", "own", "found", "k", "way", "inner"], ["command"], []⟩
def f__law_put : FD := ⟨top 59, ["command", "way", "part", "word", "k", "guard", "own"], ["command", "way", "part"], []⟩
def f__law_wrong : FD := ⟨top 60, ["frame", "true", "x", "rows"], ["frame"], []⟩
def f__law_tried : FD := ⟨top 61, ["command", "way", "part", "error"], ["command", "way", "part"], []⟩
def f_law : FD := ⟨top 62, ["script", "w", "turn", "frame", "command", "rows", "thing", "good", "way", "more", "own", "inner", "other", "rest", "part", "wider", "bad"], ["script"], ["w"]⟩
def pg : PG' :=
  { defs := [(("is_integer" : Str), f_is_integer), (("is_number" : Str), f_is_number), (("is_name" : Str), f_is_name), (("is_ascending" : Str), f_is_ascending), (("is_range" : Str), f_is_range), (("names_of" : Str), f_names_of), (("with_name" : Str), f_with_name), (("is_word" : Str), f_is_word), (("is_value" : Str), f_is_value), (("is_truth" : Str), f_is_truth), (("is_expr" : Str), f_is_expr), (("is_cond" : Str), f_is_cond), (("is_post" : Str), f_is_post), (("is_pairs" : Str), f_is_pairs), (("is_names" : Str), f_is_names), (("are_guarded" : Str), f_are_guarded), (("is_command" : Str), f_is_command), (("is_local" : Str), f_is_local), (("parts_of" : Str), f_parts_of), (("with_parts" : Str), f_with_parts), (("inner_frame" : Str), f_inner_frame), (("is_way" : Str), f_is_way), (("part_at" : Str), f_part_at), (("frame_at" : Str), f_frame_at), (("with_part" : Str), f_with_part), (("ways_of" : Str), f_ways_of), (("_law_draws" : Str), f__law_draws), (("_law_next" : Str), f__law_next), (("_law_pick" : Str), f__law_pick), (("_law_says" : Str), f__law_says), (("_law_same" : Str), f__law_same), (("_law_frame" : Str), f__law_frame), (("_law_expr" : Str), f__law_expr), (("_law_cond" : Str), f__law_cond), (("_law_some" : Str), f__law_some), (("_law_pairs" : Str), f__law_pairs), (("_law_spec" : Str), f__law_spec), (("_law_count" : Str), f__law_count), (("_law_command" : Str), f__law_command), (("_law_within" : Str), f__law_within), (("_law_put" : Str), f__law_put), (("_law_wrong" : Str), f__law_wrong), (("_law_tried" : Str), f__law_tried), (("law" : Str), f_law)]
    G := [("LETTERS", .str "abcdefghijklmnopqrstuvwxyz"), ("FIGURES", .str "0123456789"), ("MOST_NAME", .int 12), ("WIDEST", .int 99), ("SIGNS", .tup [.str "+", .str "-", .str "*", .str "min", .str "max"]), ("BOTH", .tup [.str "and", .str "or"]), ("MOST_NUMBER", .int 999), ("ALONE", .tup [.str "skip", .str "abort", .str "magic"])]
    bl := ["len", "tuple", "all", "int", "list", "abs", "str", "sorted", "range", "zip", "isinstance", "bool", "dict", "enumerate", "ValueError", "super"]
    rs := ["with_part", "Unfit"]
    xc := [("Unfit", ("word", .txt))] }
-- OTHER (1, 'ClassDef')
-- OTHER (2, 'ClassDef')
theorem e_is_integer (C : Str → List D → Mem → Res D) : (ev deep).s (pg.sc C f_is_integer) (L2.defBody f_is_integer.st) = Com.b_is_integer := by kernel_rfl
abbrev b_is_integer := @Com.b_is_integer
def b_is_number (g_is_integer : FF) : FS :=
  (sRet (fAndV (fApp g_is_integer (fCons (fVar 0) fNil)) (fCmp .GtE (fVar 0) (fCon (.int 0)))))
theorem e_is_number (C : Str → List D → Mem → Res D) : (ev deep).s (pg.sc C f_is_number) (L2.defBody f_is_number.st) = b_is_number (C "is_integer") := by kernel_rfl
theorem e_is_name (C : Str → List D → Mem → Res D) : (ev deep).s (pg.sc C f_is_name) (L2.defBody f_is_name.st) = Com.b_is_name := by kernel_rfl
abbrev b_is_name := @Com.b_is_name
def b_is_ascending : FS :=
  (sRet (fBlt .all (fCons (fLc [1] (.name 1) (jRng1 (fBin .Sub (fBlt .len (fCons (fVar 0) fNil)) (fCon (.int 1)))) tYes (fCmp .Lt (fIx (fVar 0) (fVar 1)) (fIx (fVar 0) (fBin .Add (fVar 1) (fCon (.int 1)))))) fNil)))
theorem e_is_ascending (C : Str → List D → Mem → Res D) : (ev deep).s (pg.sc C f_is_ascending) (L2.defBody f_is_ascending.st) = b_is_ascending := by kernel_rfl
def b_is_range (g_is_integer : FF) : FS :=
  (sRet (fAndV (fApp g_is_integer (fCons (fVar 0) fNil)) (fAndV (fApp g_is_integer (fCons (fVar 1) fNil)) (fCmpN (fNeg (fCon (.int 99))) [(.LtE, (fVar 0)), (.LtE, (fVar 1)), (.LtE, (fCon (.int 99)))]))))
theorem e_is_range (C : Str → List D → Mem → Res D) : (ev deep).s (pg.sc C f_is_range) (L2.defBody f_is_range.st) = b_is_range (C "is_integer") := by kernel_rfl
theorem e_names_of (C : Str → List D → Mem → Res D) : (ev deep).s (pg.sc C f_names_of) (L2.defBody f_names_of.st) = Com.b_names_of := by kernel_rfl
abbrev b_names_of := @Com.b_names_of
def b_with_name : FS :=
  (sRet (fBlt .tuple (fCons (fBlt .sorted (fCons (fBin .Add (fVar 0) (fTup (fCons (fTup (fCons (fVar 1) (fCons (fVar 2) (fCons (fVar 3) fNil)))) fNil))) fNil)) fNil)))
theorem e_with_name (C : Str → List D → Mem → Res D) : (ev deep).s (pg.sc C f_with_name) (L2.defBody f_with_name.st) = b_with_name := by kernel_rfl
theorem e_is_word (C : Str → List D → Mem → Res D) : (ev deep).s (pg.sc C f_is_word) (L2.defBody f_is_word.st) = Com.b_is_word := by kernel_rfl
abbrev b_is_word := @Com.b_is_word
theorem e_is_value (C : Str → List D → Mem → Res D) : (ev deep).s (pg.sc C f_is_value) (L2.defBody f_is_value.st) = Com.b_is_value (C "is_integer") (C "names_of") (C "is_name") (C "is_word") (C "is_value") := by kernel_rfl
abbrev b_is_value := @Com.b_is_value
theorem e_is_truth (C : Str → List D → Mem → Res D) : (ev deep).s (pg.sc C f_is_truth) (L2.defBody f_is_truth.st) = Com.b_is_truth (C "is_truth") (C "is_value") := by kernel_rfl
abbrev b_is_truth := @Com.b_is_truth
def b_is_expr (g_is_value : FF) : FS :=
  (sRet (fApp g_is_value (fCons (fVar 0) (fCons (fVar 1) (fCons (fCon (.bl false)) fNil)))))
theorem e_is_expr (C : Str → List D → Mem → Res D) : (ev deep).s (pg.sc C f_is_expr) (L2.defBody f_is_expr.st) = b_is_expr (C "is_value") := by kernel_rfl
def b_is_cond (g_is_truth : FF) : FS :=
  (sRet (fApp g_is_truth (fCons (fVar 0) (fCons (fVar 1) (fCons (fCon (.bl false)) fNil)))))
theorem e_is_cond (C : Str → List D → Mem → Res D) : (ev deep).s (pg.sc C f_is_cond) (L2.defBody f_is_cond.st) = b_is_cond (C "is_truth") := by kernel_rfl
def b_is_post (g_is_truth : FF) : FS :=
  (sRet (fApp g_is_truth (fCons (fVar 0) (fCons (fVar 1) (fCons (fCon (.bl true)) fNil)))))
theorem e_is_post (C : Str → List D → Mem → Res D) : (ev deep).s (pg.sc C f_is_post) (L2.defBody f_is_post.st) = b_is_post (C "is_truth") := by kernel_rfl
def b_is_pairs (g_is_name g_is_expr g_names_of g_is_ascending : FF) : FS :=
  (sSeq (sIf (tOr (tNot (fTr (fIsi .tuple (fVar 1)))) (fTr (fCmp .Eq (fVar 1) (fTup fNil)))) (sRet (fCon (.bl false))) sNx) (sSeq (sIf (tNot (fTr (fBlt .all (fCons (fLc [2] (.name 2) (iVar 1) tYes (fAndV (fIsi .tuple (fVar 2)) (fAndV (fCmp .Eq (fBlt .len (fCons (fVar 2) fNil)) (fCon (.int 2))) (fApp g_is_name (fCons (fIx (fVar 2) (fCon (.int 0))) fNil))))) fNil)))) (sRet (fCon (.bl false))) sNx) (sSeq (sIf (tNot (fTr (fBlt .all (fCons (fLc [2] (.name 2) (iVar 1) tYes (fAndV (fCmp .In (fIx (fVar 2) (fCon (.int 0))) (fApp g_names_of (fCons (fVar 0) fNil))) (fApp g_is_expr (fCons (fVar 0) (fCons (fIx (fVar 2) (fCon (.int 1))) fNil))))) fNil)))) (sRet (fCon (.bl false))) sNx) (sRet (fApp g_is_ascending (fCons (fLc [2] (.name 2) (iVar 1) tYes (fIx (fVar 2) (fCon (.int 0)))) fNil))))))
theorem e_is_pairs (C : Str → List D → Mem → Res D) : (ev deep).s (pg.sc C f_is_pairs) (L2.defBody f_is_pairs.st) = b_is_pairs (C "is_name") (C "is_expr") (C "names_of") (C "is_ascending") := by kernel_rfl
def b_is_names (g_names_of g_is_name g_is_ascending : FF) : FS :=
  (sSeq (sIf (tOr (tNot (fTr (fIsi .tuple (fVar 1)))) (tNot (fTr (fBlt .all (fCons (fLc [2] (.name 2) (iVar 1) tYes (fAndV (fApp g_is_name (fCons (fVar 2) fNil)) (fCmp .In (fVar 2) (fApp g_names_of (fCons (fVar 0) fNil))))) fNil))))) (sRet (fCon (.bl false))) sNx) (sRet (fApp g_is_ascending (fCons (fVar 1) fNil))))
theorem e_is_names (C : Str → List D → Mem → Res D) : (ev deep).s (pg.sc C f_is_names) (L2.defBody f_is_names.st) = b_is_names (C "names_of") (C "is_name") (C "is_ascending") := by kernel_rfl
def b_are_guarded (g_is_command g_is_cond : FF) : FS :=
  (sSeq (sIf (tOr (tNot (fTr (fIsi .tuple (fVar 1)))) (fTr (fCmp .Eq (fVar 1) (fTup fNil)))) (sRet (fCon (.bl false))) sNx) (sSeq (sIf (tNot (fTr (fBlt .all (fCons (fLc [2] (.name 2) (iVar 1) tYes (fAndV (fIsi .tuple (fVar 2)) (fCmp .Eq (fBlt .len (fCons (fVar 2) fNil)) (fCon (.int 2))))) fNil)))) (sRet (fCon (.bl false))) sNx) (sRet (fBlt .all (fCons (fLc [2] (.name 2) (iVar 1) tYes (fAndV (fApp g_is_cond (fCons (fVar 0) (fCons (fIx (fVar 2) (fCon (.int 0))) fNil))) (fApp g_is_command (fCons (fVar 0) (fCons (fIx (fVar 2) (fCon (.int 1))) fNil))))) fNil)))))
theorem e_are_guarded (C : Str → List D → Mem → Res D) : (ev deep).s (pg.sc C f_are_guarded) (L2.defBody f_are_guarded.st) = b_are_guarded (C "is_command") (C "is_cond") := by kernel_rfl
def b_is_command (g_is_pairs g_are_guarded g_is_cond g_is_command g_is_post g_is_names g_is_local : FF) : FS :=
  (sSeq (sIf (tOr (tNot (fTr (fIsi .tuple (fVar 1)))) (tOr (fTr (fCmp .Eq (fVar 1) (fTup fNil))) (tNot (fTr (fIsi .str (fIx (fVar 1) (fCon (.int 0)))))))) (sRet (fCon (.bl false))) sNx) (sSeq (sSet 2 (fIx (fVar 1) (fCon (.int 0)))) (sSeq (sIf (fTr (fCmp .In (fVar 2) (fCon (.tup [.str "skip", .str "abort", .str "magic"])))) (sRet (fCmp .Eq (fBlt .len (fCons (fVar 1) fNil)) (fCon (.int 1)))) sNx) (sSeq (sIf (fTr (fCmp .In (fVar 2) (fTup (fCons (fCon (.str "set")) (fCons (fCon (.str "if")) (fCons (fCon (.str "do")) fNil)))))) (sRet (fAndV (fCmp .Eq (fBlt .len (fCons (fVar 1) fNil)) (fCon (.int 2))) (fIf (fTr (fCmp .Eq (fVar 2) (fCon (.str "set")))) (fApp g_is_pairs (fCons (fVar 0) (fCons (fIx (fVar 1) (fCon (.int 1))) fNil))) (fApp g_are_guarded (fCons (fVar 0) (fCons (fIx (fVar 1) (fCon (.int 1))) fNil)))))) sNx) (sSeq (sIf (fTr (fCmp .In (fVar 2) (fTup (fCons (fCon (.str "assert")) (fCons (fCon (.str "assume")) fNil))))) (sRet (fAndV (fCmp .Eq (fBlt .len (fCons (fVar 1) fNil)) (fCon (.int 2))) (fApp g_is_cond (fCons (fVar 0) (fCons (fIx (fVar 1) (fCon (.int 1))) fNil))))) sNx) (sSeq (sIf (fTr (fCmp .In (fVar 2) (fTup (fCons (fCon (.str "then")) (fCons (fCon (.str "any")) fNil))))) (sRet (fAndV (fCmp .Eq (fBlt .len (fCons (fVar 1) fNil)) (fCon (.int 3))) (fAndV (fApp g_is_command (fCons (fVar 0) (fCons (fIx (fVar 1) (fCon (.int 1))) fNil))) (fApp g_is_command (fCons (fVar 0) (fCons (fIx (fVar 1) (fCon (.int 2))) fNil)))))) sNx) (sSeq (sIf (fTr (fCmp .Eq (fVar 2) (fCon (.str "spec")))) (sRet (fAndV (fCmp .Eq (fBlt .len (fCons (fVar 1) fNil)) (fCon (.int 4))) (fAndV (fApp g_is_names (fCons (fVar 0) (fCons (fIx (fVar 1) (fCon (.int 1))) fNil))) (fAndV (fApp g_is_cond (fCons (fVar 0) (fCons (fIx (fVar 1) (fCon (.int 2))) fNil))) (fApp g_is_post (fCons (fVar 0) (fCons (fIx (fVar 1) (fCon (.int 3))) fNil))))))) sNx) (sRet (fAndV (fCmp .Eq (fVar 2) (fCon (.str "var"))) (fApp g_is_local (fCons (fVar 0) (fCons (fVar 1) fNil))))))))))))
theorem e_is_command (C : Str → List D → Mem → Res D) : (ev deep).s (pg.sc C f_is_command) (L2.defBody f_is_command.st) = b_is_command (C "is_pairs") (C "are_guarded") (C "is_cond") (C "is_command") (C "is_post") (C "is_names") (C "is_local") := by kernel_rfl
def b_is_local (g_is_range g_names_of g_is_name g_is_command g_with_name : FF) : FS :=
  (sSeq (sIf (tOr (fTr (fCmp .NotEq (fBlt .len (fCons (fVar 1) fNil)) (fCon (.int 5)))) (tOr (tNot (fTr (fApp g_is_name (fCons (fIx (fVar 1) (fCon (.int 1))) fNil)))) (tOr (fTr (fCmp .In (fIx (fVar 1) (fCon (.int 1))) (fApp g_names_of (fCons (fVar 0) fNil)))) (tNot (fTr (fApp g_is_range (fCons (fIx (fVar 1) (fCon (.int 2))) (fCons (fIx (fVar 1) (fCon (.int 3))) fNil)))))))) (sRet (fCon (.bl false))) sNx) (sRet (fApp g_is_command (fCons (fApp g_with_name (fCons (fVar 0) (fCons (fIx (fVar 1) (fCon (.int 1))) (fCons (fIx (fVar 1) (fCon (.int 2))) (fCons (fIx (fVar 1) (fCon (.int 3))) fNil))))) (fCons (fIx (fVar 1) (fCon (.int 4))) fNil)))))
theorem e_is_local (C : Str → List D → Mem → Res D) : (ev deep).s (pg.sc C f_is_local) (L2.defBody f_is_local.st) = b_is_local (C "is_range") (C "names_of") (C "is_name") (C "is_command") (C "with_name") := by kernel_rfl
def b_parts_of : FS :=
  (sSeq (sIf (fTr (fCmp .In (fIx (fVar 0) (fCon (.int 0))) (fTup (fCons (fCon (.str "then")) (fCons (fCon (.str "any")) fNil))))) (sRet (fSl (fVar 0) (some (fCon (.int 1))) none)) sNx) (sSeq (sIf (fTr (fCmp .In (fIx (fVar 0) (fCon (.int 0))) (fTup (fCons (fCon (.str "if")) (fCons (fCon (.str "do")) fNil))))) (sRet (fBlt .tuple (fCons (fLc [1, 2] (.tup [.name 1, .name 2]) (iVal (fIx (fVar 0) (fCon (.int 1)))) tYes (fVar 2)) fNil))) sNx) (sRet (fIf (fTr (fCmp .Eq (fIx (fVar 0) (fCon (.int 0))) (fCon (.str "var")))) (fTup (fCons (fIx (fVar 0) (fCon (.int 4))) fNil)) (fTup fNil)))))
theorem e_parts_of (C : Str → List D → Mem → Res D) : (ev deep).s (pg.sc C f_parts_of) (L2.defBody f_parts_of.st) = b_parts_of := by kernel_rfl
def b_with_parts : FS :=
  (sSeq (sIf (fTr (fCmp .In (fIx (fVar 0) (fCon (.int 0))) (fTup (fCons (fCon (.str "then")) (fCons (fCon (.str "any")) fNil))))) (sRet (fBin .Add (fSl (fVar 0) none (some (fCon (.int 1)))) (fBlt .tuple (fCons (fVar 1) fNil)))) sNx) (sSeq (sIf (fTr (fCmp .In (fIx (fVar 0) (fCon (.int 0))) (fTup (fCons (fCon (.str "if")) (fCons (fCon (.str "do")) fNil))))) (sRet (fTup (fCons (fIx (fVar 0) (fCon (.int 0))) (fCons (fBlt .tuple (fCons (fLc [2, 3, 4] (.tup [.tup [.name 2, .name 3], .name 4]) (jZip (fIx (fVar 0) (fCon (.int 1))) (fVar 1)) tYes (fTup (fCons (fVar 2) (fCons (fVar 4) fNil)))) fNil)) fNil)))) sNx) (sRet (fIf (fTr (fCmp .Eq (fIx (fVar 0) (fCon (.int 0))) (fCon (.str "var")))) (fBin .Add (fSl (fVar 0) none (some (fCon (.int 4)))) (fBlt .tuple (fCons (fVar 1) fNil))) (fVar 0)))))
theorem e_with_parts (C : Str → List D → Mem → Res D) : (ev deep).s (pg.sc C f_with_parts) (L2.defBody f_with_parts.st) = b_with_parts := by kernel_rfl
def b_inner_frame (g_with_name : FF) : FS :=
  (sRet (fIf (fTr (fCmp .Eq (fIx (fVar 1) (fCon (.int 0))) (fCon (.str "var")))) (fApp g_with_name (fCons (fVar 0) (fCons (fIx (fVar 1) (fCon (.int 1))) (fCons (fIx (fVar 1) (fCon (.int 2))) (fCons (fIx (fVar 1) (fCon (.int 3))) fNil))))) (fVar 0)))
theorem e_inner_frame (C : Str → List D → Mem → Res D) : (ev deep).s (pg.sc C f_inner_frame) (L2.defBody f_inner_frame.st) = b_inner_frame (C "with_name") := by kernel_rfl
def b_is_way (g_is_number : FF) : FS :=
  (sRet (fAndV (fIsi .tuple (fVar 0)) (fBlt .all (fCons (fLc [1] (.name 1) (iVar 0) tYes (fApp g_is_number (fCons (fVar 1) fNil))) fNil))))
theorem e_is_way (C : Str → List D → Mem → Res D) : (ev deep).s (pg.sc C f_is_way) (L2.defBody f_is_way.st) = b_is_way (C "is_number") := by kernel_rfl
def b_part_at (g_parts_of : FF) : FS :=
  (sSeq (sFor (.name 2) (iVal (fVar 1)) (sSeq (sSet 3 (fApp g_parts_of (fCons (fVar 0) fNil))) (sSeq (sIf (fTr (fCmp .GtE (fVar 2) (fBlt .len (fCons (fVar 3) fNil)))) (sRet (fCon .non)) sNx) (sSet 0 (fIx (fVar 3) (fVar 2)))))) (sRet (fVar 0)))
theorem e_part_at (C : Str → List D → Mem → Res D) : (ev deep).s (pg.sc C f_part_at) (L2.defBody f_part_at.st) = b_part_at (C "parts_of") := by kernel_rfl
def b_frame_at (g_parts_of g_inner_frame : FF) : FS :=
  (sSeq (sFor (.name 3) (iVal (fVar 2)) (sSeq (sSet 4 (fApp g_parts_of (fCons (fVar 1) fNil))) (sSeq (sIf (fTr (fCmp .GtE (fVar 3) (fBlt .len (fCons (fVar 4) fNil)))) (sRet (fCon .non)) sNx) (sPar [0, 1] (fCons (fApp g_inner_frame (fCons (fVar 0) (fCons (fVar 1) fNil))) (fCons (fIx (fVar 4) (fVar 3)) fNil)))))) (sRet (fVar 0)))
theorem e_frame_at (C : Str → List D → Mem → Res D) : (ev deep).s (pg.sc C f_frame_at) (L2.defBody f_frame_at.st) = b_frame_at (C "parts_of") (C "inner_frame") := by kernel_rfl
def b_with_part (g_parts_of g_with_part g_with_parts : FF) : FS :=
  (sSeq (sIf (fTr (fCmp .Eq (fVar 1) (fTup fNil))) (sRet (fVar 2)) sNx) (sSeq (sSet 3 (fApp g_parts_of (fCons (fVar 0) fNil))) (sSeq (sIf (fTr (fCmp .GtE (fIx (fVar 1) (fCon (.int 0))) (fBlt .len (fCons (fVar 3) fNil)))) (sRaise "Unfit" "word" .txt (fCon (.str "way"))) sNx) (sSeq (sSet 4 (fApp g_with_part (fCons (fIx (fVar 3) (fIx (fVar 1) (fCon (.int 0)))) (fCons (fSl (fVar 1) (some (fCon (.int 1))) none) (fCons (fVar 2) fNil))))) (sRet (fApp g_with_parts (fCons (fVar 0) (fCons (fBin .Add (fBin .Add (fSl (fVar 3) none (some (fIx (fVar 1) (fCon (.int 0))))) (fTup (fCons (fVar 4) fNil))) (fSl (fVar 3) (some (fBin .Add (fIx (fVar 1) (fCon (.int 0))) (fCon (.int 1)))) none)) fNil))))))))
theorem e_with_part (C : Str → List D → Mem → Res D) : (ev deep).s (pg.sc C f_with_part) (L2.defBody f_with_part.st) = b_with_part (C "parts_of") (C "with_part") (C "with_parts") := by kernel_rfl
def b_ways_of (g_parts_of g_ways_of : FF) : FS :=
  (sSeq (sSet 1 (fNew (fLst (fCons (fTup fNil) fNil)))) (sSeq (sFor (.tup [.name 2, .name 3]) (jEnum (fApp g_parts_of (fCons (fVar 0) fNil))) (sDrop (fMth .extend (fVar 1) (fCons (fLc [4] (.name 4) (iVal (fApp g_ways_of (fCons (fVar 3) fNil))) tYes (fBin .Add (fTup (fCons (fVar 2) fNil)) (fVar 4))) fNil)))) (sRet (fBlt .tuple (fCons (fVar 1) fNil)))))
theorem e_ways_of (C : Str → List D → Mem → Res D) : (ev deep).s (pg.sc C f_ways_of) (L2.defBody f_ways_of.st) = b_ways_of (C "parts_of") (C "ways_of") := by kernel_rfl
theorem e__law_draws (C : Str → List D → Mem → Res D) : (ev deep).s (pg.sc C f__law_draws) (L2.defBody f__law_draws.st) = Com.b__law_draws := by kernel_rfl
abbrev b__law_draws := @Com.b__law_draws
theorem e__law_next (C : Str → List D → Mem → Res D) : (ev deep).s (pg.sc C f__law_next) (L2.defBody f__law_next.st) = Com.b__law_next := by kernel_rfl
abbrev b__law_next := @Com.b__law_next
theorem e__law_pick (C : Str → List D → Mem → Res D) : (ev deep).s (pg.sc C f__law_pick) (L2.defBody f__law_pick.st) = Com.b__law_pick (C "_law_next") := by kernel_rfl
abbrev b__law_pick := @Com.b__law_pick
theorem e__law_says (C : Str → List D → Mem → Res D) : (ev deep).s (pg.sc C f__law_says) (L2.defBody f__law_says.st) = Com.b__law_says := by kernel_rfl
abbrev b__law_says := @Com.b__law_says
theorem e__law_same (C : Str → List D → Mem → Res D) : (ev deep).s (pg.sc C f__law_same) (L2.defBody f__law_same.st) = Com.b__law_same := by kernel_rfl
abbrev b__law_same := @Com.b__law_same
theorem e__law_frame (C : Str → List D → Mem → Res D) : (ev deep).s (pg.sc C f__law_frame) (L2.defBody f__law_frame.st) = Com.b__law_frame (C "_law_next") := by kernel_rfl
abbrev b__law_frame := @Com.b__law_frame
theorem e__law_expr (C : Str → List D → Mem → Res D) : (ev deep).s (pg.sc C f__law_expr) (L2.defBody f__law_expr.st) = Com.b__law_expr (C "_law_next") (C "_law_pick") (C "_law_expr") := by kernel_rfl
abbrev b__law_expr := @Com.b__law_expr
theorem e__law_cond (C : Str → List D → Mem → Res D) : (ev deep).s (pg.sc C f__law_cond) (L2.defBody f__law_cond.st) = Com.b__law_cond (C "_law_next") (C "_law_cond") (C "_law_expr") := by kernel_rfl
abbrev b__law_cond := @Com.b__law_cond
theorem e__law_some (C : Str → List D → Mem → Res D) : (ev deep).s (pg.sc C f__law_some) (L2.defBody f__law_some.st) = Com.b__law_some (C "_law_next") := by kernel_rfl
abbrev b__law_some := @Com.b__law_some
theorem e__law_pairs (C : Str → List D → Mem → Res D) : (ev deep).s (pg.sc C f__law_pairs) (L2.defBody f__law_pairs.st) = Com.b__law_pairs (C "_law_some") (C "_law_expr") := by kernel_rfl
abbrev b__law_pairs := @Com.b__law_pairs
theorem e__law_spec (C : Str → List D → Mem → Res D) : (ev deep).s (pg.sc C f__law_spec) (L2.defBody f__law_spec.st) = Com.b__law_spec (C "_law_next") (C "_law_cond") (C "_law_some") := by kernel_rfl
abbrev b__law_spec := @Com.b__law_spec
theorem e__law_count (C : Str → List D → Mem → Res D) : (ev deep).s (pg.sc C f__law_count) (L2.defBody f__law_count.st) = Com.b__law_count (C "_law_pick") (C "_law_next") := by kernel_rfl
abbrev b__law_count := @Com.b__law_count
theorem e__law_command (C : Str → List D → Mem → Res D) : (ev deep).s (pg.sc C f__law_command) (L2.defBody f__law_command.st) = Com.b__law_command (C "_law_next") (C "_law_spec") (C "_law_pick") (C "_law_cond") (C "_law_pairs") (C "_law_command") (C "_law_count") := by kernel_rfl
abbrev b__law_command := @Com.b__law_command
def b__law_within (g__law_within : FF) : FS :=
  (sSeq (sAsg (.tup [.name 1, .name 2, .name 3]) (fTup (fCons (fIx (fVar 0) (fCon (.int 0))) (fCons (fLst fNil) (fCons (fTup fNil) fNil))))) (sSeq (sIf (fTr (fCmp .In (fVar 1) (fTup (fCons (fCon (.str "then")) (fCons (fCon (.str "any")) fNil))))) (sSet 2 (fBlt .list (fCons (fSl (fVar 0) (some (fCon (.int 1))) none) fNil))) sNx) (sSeq (sIf (fTr (fCmp .In (fVar 1) (fTup (fCons (fCon (.str "if")) (fCons (fCon (.str "do")) fNil))))) (sSet 2 (fLc [4, 5] (.tup [.name 4, .name 5]) (iVal (fIx (fVar 0) (fCon (.int 1)))) tYes (fVar 5))) sNx) (sSeq (sIf (fTr (fCmp .Eq (fVar 1) (fCon (.str "var")))) (sAsg (.tup [.name 2, .name 3]) (fTup (fCons (fLst (fCons (fIx (fVar 0) (fCon (.int 4))) fNil)) (fCons (fTup (fCons (fSl (fVar 0) (some (fCon (.int 1))) (some (fCon (.int 4)))) fNil)) fNil)))) sNx) (sSeq (sSet 6 (fLst (fCons (fTup (fCons (fTup fNil) (fCons (fTup fNil) (fCons (fVar 0) fNil)))) fNil))) (sSeq (sFor (.name 7) (jRng1 (fBlt .len (fCons (fVar 2) fNil))) (sSet 6 (fBin .Add (fVar 6) (fLc [8, 9, 5] (.tup [.name 8, .name 9, .name 5]) (iVal (fApp g__law_within (fCons (fIx (fVar 2) (fVar 7)) fNil))) tYes (fTup (fCons (fBin .Add (fTup (fCons (fVar 7) fNil)) (fVar 8)) (fCons (fBin .Add (fVar 3) (fVar 9)) (fCons (fVar 5) fNil)))))))) (sRet (fVar 6))))))))
theorem e__law_within (C : Str → List D → Mem → Res D) : (ev deep).s (pg.sc C f__law_within) (L2.defBody f__law_within.st) = b__law_within (C "_law_within") := by kernel_rfl
def b__law_put (g__law_put : FF) : FS :=
  (sSeq (sIf (fTr (fCmp .Eq (fVar 1) (fTup fNil))) (sRet (fVar 2)) sNx) (sSeq (sPar [3, 4] (fCons (fIx (fVar 0) (fCon (.int 0))) (fCons (fIx (fVar 1) (fCon (.int 0))) fNil))) (sSeq (sIf (fTr (fCmp .In (fVar 3) (fTup (fCons (fCon (.str "then")) (fCons (fCon (.str "any")) fNil))))) (sRet (fBin .Add (fBin .Add (fSl (fVar 0) none (some (fBin .Add (fVar 4) (fCon (.int 1))))) (fTup (fCons (fApp g__law_put (fCons (fIx (fVar 0) (fBin .Add (fVar 4) (fCon (.int 1)))) (fCons (fSl (fVar 1) (some (fCon (.int 1))) none) (fCons (fVar 2) fNil)))) fNil))) (fSl (fVar 0) (some (fBin .Add (fVar 4) (fCon (.int 2)))) none))) sNx) (sSeq (sIf (fTr (fCmp .Eq (fVar 3) (fCon (.str "var")))) (sRet (fBin .Add (fSl (fVar 0) none (some (fCon (.int 4)))) (fTup (fCons (fApp g__law_put (fCons (fIx (fVar 0) (fCon (.int 4))) (fCons (fSl (fVar 1) (some (fCon (.int 1))) none) (fCons (fVar 2) fNil)))) fNil)))) sNx) (sSeq (sAsg (.tup [.name 5, .name 6]) (fIx (fIx (fVar 0) (fCon (.int 1))) (fVar 4))) (sRet (fTup (fCons (fVar 3) (fCons (fBin .Add (fBin .Add (fSl (fIx (fVar 0) (fCon (.int 1))) none (some (fVar 4))) (fTup (fCons (fTup (fCons (fVar 5) (fCons (fApp g__law_put (fCons (fVar 6) (fCons (fSl (fVar 1) (some (fCon (.int 1))) none) (fCons (fVar 2) fNil)))) fNil))) fNil))) (fSl (fIx (fVar 0) (fCon (.int 1))) (some (fBin .Add (fVar 4) (fCon (.int 1)))) none)) fNil)))))))))
theorem e__law_put (C : Str → List D → Mem → Res D) : (ev deep).s (pg.sc C f__law_put) (L2.defBody f__law_put.st) = b__law_put (C "_law_put") := by kernel_rfl
def b__law_wrong : FS :=
  (sSeq (sPar [1, 2] (fCons (fTup (fCons (fCon (.str "truth")) (fCons (fCon (.bl true)) fNil))) (fCons (fIx (fIx (fVar 0) (fCon (.int 0))) (fCon (.int 0))) fNil))) (sSeq (sSet 3 (fLst (fCons (fCon .non) (fCons (fCon (.int 7)) (fCons (fCon (.str "skip")) (fCons (fLst fNil) (fCons (fTup fNil) (fCons (fLst (fCons (fCon (.str "skip")) fNil)) (fCons (fTup (fCons (fCon (.str "skip")) (fCons (fCon (.int 1)) fNil))) (fCons (fTup (fCons (fCon (.str "skips")) fNil)) (fCons (fTup (fCons (fCon .non) fNil)) (fCons (fTup (fCons (fCon (.str "abort")) (fCons (fTup fNil) fNil))) (fCons (fTup (fCons (fCon (.str "set")) fNil)) (fCons (fTup (fCons (fCon (.str "set")) (fCons (fTup fNil) fNil))) (fCons (fTup (fCons (fCon (.str "set")) (fCons (fLst (fCons (fTup (fCons (fVar 2) (fCons (fTup (fCons (fCon (.str "number")) (fCons (fCon (.int 1)) fNil))) fNil))) fNil)) fNil))) fNil))))))))))))))) (sSeq (sSet 3 (fBin .Add (fVar 3) (fLst (fCons (fTup (fCons (fCon (.str "set")) (fCons (fTup (fCons (fTup (fCons (fVar 2) fNil)) fNil)) fNil))) (fCons (fTup (fCons (fCon (.str "set")) (fCons (fTup (fCons (fTup (fCons (fCon (.str "q")) (fCons (fTup (fCons (fCon (.str "number")) (fCons (fCon (.int 1)) fNil))) fNil))) fNil)) fNil))) (fCons (fTup (fCons (fCon (.str "set")) (fCons (fTup (fCons (fTup (fCons (fVar 2) (fCons (fTup (fCons (fCon (.str "old")) (fCons (fVar 2) fNil))) fNil))) fNil)) fNil))) fNil)))))) (sSeq (sSet 3 (fBin .Add (fVar 3) (fLst (fCons (fTup (fCons (fCon (.str "set")) (fCons (fTup (fCons (fTup (fCons (fVar 2) (fCons (fTup (fCons (fCon (.str "number")) (fCons (fCon (.int 1)) fNil))) fNil))) (fCons (fTup (fCons (fVar 2) (fCons (fTup (fCons (fCon (.str "number")) (fCons (fCon (.int 2)) fNil))) fNil))) fNil))) fNil))) (fCons (fTup (fCons (fCon (.str "set")) (fCons (fTup (fCons (fTup (fCons (fVar 2) (fCons (fTup (fCons (fCon (.str "number")) (fCons (fCon (.int 1000)) fNil))) fNil))) fNil)) fNil))) (fCons (fTup (fCons (fCon (.str "set")) (fCons (fTup (fCons (fVar 2) (fCons (fTup (fCons (fCon (.str "number")) (fCons (fCon (.int 1)) fNil))) fNil))) fNil))) (fCons (fTup (fCons (fCon (.str "then")) (fCons (fTup (fCons (fCon (.str "skip")) fNil)) fNil))) fNil))))))) (sSeq (sSet 3 (fBin .Add (fVar 3) (fLst (fCons (fTup (fCons (fCon (.str "then")) (fCons (fTup (fCons (fCon (.str "skip")) fNil)) (fCons (fTup (fCons (fCon (.str "skip")) fNil)) (fCons (fTup (fCons (fCon (.str "skip")) fNil)) fNil))))) (fCons (fTup (fCons (fCon (.str "then")) (fCons (fTup (fCons (fCon (.str "skip")) fNil)) (fCons (fCon .non) fNil)))) (fCons (fTup (fCons (fCon (.str "any")) (fCons (fCon .non) (fCons (fTup (fCons (fCon (.str "skip")) fNil)) fNil)))) fNil)))))) (sSeq (sSet 3 (fBin .Add (fVar 3) (fLst (fCons (fTup (fCons (fCon (.str "if")) (fCons (fTup fNil) fNil))) (fCons (fTup (fCons (fCon (.str "if")) (fCons (fTup (fCons (fTup (fCons (fVar 1) fNil)) fNil)) fNil))) (fCons (fTup (fCons (fCon (.str "if")) (fCons (fTup (fCons (fTup (fCons (fTup (fCons (fCon (.str "skip")) fNil)) (fCons (fVar 1) fNil))) fNil)) fNil))) (fCons (fTup (fCons (fCon (.str "if")) (fCons (fLst (fCons (fTup (fCons (fVar 1) (fCons (fTup (fCons (fCon (.str "skip")) fNil)) fNil))) fNil)) fNil))) (fCons (fTup (fCons (fCon (.str "do")) (fCons (fTup (fCons (fTup (fCons (fVar 1) (fCons (fCon .non) fNil))) fNil)) fNil))) fNil)))))))) (sSeq (sSet 3 (fBin .Add (fVar 3) (fLst (fCons (fTup (fCons (fCon (.str "do")) (fCons (fTup (fCons (fTup (fCons (fCon .non) (fCons (fTup (fCons (fCon (.str "skip")) fNil)) fNil))) fNil)) fNil))) (fCons (fTup (fCons (fCon (.str "assert")) (fCons (fTup (fCons (fCon (.str "same")) (fCons (fTup (fCons (fCon (.str "old")) (fCons (fVar 2) fNil))) (fCons (fTup (fCons (fCon (.str "number")) (fCons (fCon (.int 1)) fNil))) fNil)))) fNil))) (fCons (fTup (fCons (fCon (.str "assert")) fNil)) (fCons (fTup (fCons (fCon (.str "assume")) (fCons (fCon .non) fNil))) fNil))))))) (sSeq (sSet 3 (fBin .Add (fVar 3) (fLst (fCons (fTup (fCons (fCon (.str "spec")) (fCons (fTup (fCons (fVar 2) fNil)) (fCons (fVar 1) fNil)))) (fCons (fTup (fCons (fCon (.str "spec")) (fCons (fLst (fCons (fVar 2) fNil)) (fCons (fVar 1) (fCons (fVar 1) fNil))))) (fCons (fTup (fCons (fCon (.str "spec")) (fCons (fTup (fCons (fCon (.str "q")) fNil)) (fCons (fVar 1) (fCons (fVar 1) fNil))))) (fCons (fTup (fCons (fCon (.str "spec")) (fCons (fTup (fCons (fVar 2) (fCons (fVar 2) fNil))) (fCons (fVar 1) (fCons (fVar 1) fNil))))) fNil))))))) (sSeq (sSet 3 (fBin .Add (fVar 3) (fLst (fCons (fTup (fCons (fCon (.str "spec")) (fCons (fTup (fCons (fVar 2) fNil)) (fCons (fTup (fCons (fCon (.str "same")) (fCons (fTup (fCons (fCon (.str "old")) (fCons (fVar 2) fNil))) (fCons (fTup (fCons (fCon (.str "old")) (fCons (fVar 2) fNil))) fNil)))) (fCons (fVar 1) fNil))))) (fCons (fTup (fCons (fCon (.str "spec")) (fCons (fTup (fCons (fVar 2) fNil)) (fCons (fVar 1) (fCons (fCon .non) fNil))))) (fCons (fTup (fCons (fCon (.str "spec")) (fCons (fVar 2) (fCons (fVar 1) (fCons (fVar 1) fNil))))) fNil)))))) (sSeq (sSet 3 (fBin .Add (fVar 3) (fLst (fCons (fTup (fCons (fCon (.str "var")) (fCons (fVar 2) (fCons (fCon (.int 0)) (fCons (fCon (.int 1)) (fCons (fTup (fCons (fCon (.str "skip")) fNil)) fNil)))))) (fCons (fTup (fCons (fCon (.str "var")) (fCons (fCon (.str "Q")) (fCons (fCon (.int 0)) (fCons (fCon (.int 1)) (fCons (fTup (fCons (fCon (.str "skip")) fNil)) fNil)))))) (fCons (fTup (fCons (fCon (.str "var")) (fCons (fCon (.str "q")) (fCons (fCon (.int 1)) (fCons (fCon (.int 0)) (fCons (fTup (fCons (fCon (.str "skip")) fNil)) fNil)))))) (fCons (fTup (fCons (fCon (.str "var")) (fCons (fCon (.str "q")) (fCons (fCon (.int 0)) (fCons (fCon (.int 100)) (fCons (fTup (fCons (fCon (.str "skip")) fNil)) fNil)))))) fNil))))))) (sSeq (sSet 3 (fBin .Add (fVar 3) (fLst (fCons (fTup (fCons (fCon (.str "var")) (fCons (fCon (.str "q")) (fCons (fCon (.int 0)) (fCons (fTup (fCons (fCon (.str "skip")) fNil)) fNil))))) (fCons (fTup (fCons (fCon (.str "var")) (fCons (fCon (.str "q")) (fCons (fCon (.int 0)) (fCons (fCon (.int 1)) (fCons (fCon .non) fNil)))))) (fCons (fTup (fCons (fCon (.str "var")) (fCons (fCon (.str "q")) (fCons (fCon (.bl true)) (fCons (fCon (.int 1)) (fCons (fTup (fCons (fCon (.str "skip")) fNil)) fNil)))))) fNil)))))) (sRet (fBin .Add (fVar 3) (fLst (fCons (fTup (fCons (fCon (.str "then")) (fCons (fTup (fCons (fCon (.str "var")) (fCons (fCon (.str "q")) (fCons (fCon (.int 0)) (fCons (fCon (.int 1)) (fCons (fTup (fCons (fCon (.str "skip")) fNil)) fNil)))))) (fCons (fTup (fCons (fCon (.str "set")) (fCons (fTup (fCons (fTup (fCons (fCon (.str "q")) (fCons (fTup (fCons (fCon (.str "number")) (fCons (fCon (.int 1)) fNil))) fNil))) fNil)) fNil))) fNil)))) (fCons (fTup (fCons (fCon (.str "var")) (fCons (fCon (.str "q")) (fCons (fCon (.int 0)) (fCons (fCon (.int 1)) (fCons (fTup (fCons (fCon (.str "var")) (fCons (fCon (.str "q")) (fCons (fCon (.int 0)) (fCons (fCon (.int 1)) (fCons (fTup (fCons (fCon (.str "skip")) fNil)) fNil)))))) fNil)))))) fNil))))))))))))))))
theorem e__law_wrong (C : Str → List D → Mem → Res D) : (ev deep).s (pg.sc C f__law_wrong) (L2.defBody f__law_wrong.st) = b__law_wrong := by kernel_rfl
def b__law_tried (g_with_part : FF) : FS :=
  (sTry "Unfit" "word" 3 .ret (sRet (fApp g_with_part (fCons (fVar 0) (fCons (fVar 1) (fCons (fVar 2) fNil))))))
theorem e__law_tried (C : Str → List D → Mem → Res D) : (ev deep).s (pg.sc C f__law_tried) (L2.defBody f__law_tried.st) = b__law_tried (C "with_part") := by kernel_rfl
def b_law_L1 (g__law_same g_frame_at g_part_at g_with_parts g_parts_of g_inner_frame g__law_tried : FF) : FS :=
  (sSeq (sIf (tOr (tNot (fTr (fApp g__law_same (fCons (fApp g_part_at (fCons (fVar 4) (fCons (fVar 8) fNil))) (fCons (fVar 10) fNil))))) (tNot (fTr (fApp g__law_same (fCons (fApp g_frame_at (fCons (fVar 3) (fCons (fVar 4) (fCons (fVar 8) fNil)))) (fCons (fBlt .tuple (fCons (fBlt .sorted (fCons (fBin .Add (fVar 3) (fVar 9)) fNil)) fNil)) fNil)))))) (sRet (fCon (.bl false))) sNx) (sSeq (sSet 11 (fLc [12, 13, 14] (.tup [.name 12, .name 13, .name 14]) (iVar 5) (tAnd (fTr (fCmp .Eq (fBlt .len (fCons (fVar 12) fNil)) (fBin .Add (fBlt .len (fCons (fVar 8) fNil)) (fCon (.int 1))))) (fTr (fCmp .Eq (fSl (fVar 12) none (some (fNeg (fCon (.int 1))))) (fVar 8)))) (fVar 14))) (sSeq (sIf (tOr (tNot (fTr (fApp g__law_same (fCons (fApp g_parts_of (fCons (fVar 10) fNil)) (fCons (fBlt .tuple (fCons (fVar 11) fNil)) fNil))))) (tNot (fTr (fApp g__law_same (fCons (fApp g_with_parts (fCons (fVar 10) (fCons (fBlt .tuple (fCons (fVar 11) fNil)) fNil))) (fCons (fVar 10) fNil)))))) (sRet (fCon (.bl false))) sNx) (sSeq (sSet 15 (fIf (fTr (fCmp .Eq (fIx (fVar 10) (fCon (.int 0))) (fCon (.str "var")))) (fBlt .tuple (fCons (fBlt .sorted (fCons (fBin .Add (fBin .Add (fVar 3) (fVar 9)) (fTup (fCons (fSl (fVar 10) (some (fCon (.int 1))) (some (fCon (.int 4)))) fNil))) fNil)) fNil)) (fBin .Add (fVar 3) (fVar 9)))) (sSeq (sIf (tNot (fTr (fApp g__law_same (fCons (fApp g_inner_frame (fCons (fBin .Add (fVar 3) (fVar 9)) (fCons (fVar 10) fNil))) (fCons (fVar 15) fNil))))) (sRet (fCon (.bl false))) sNx) (sSeq (sSet 16 (fBin .Add (fVar 8) (fTup (fCons (fBlt .len (fCons (fVar 11) fNil)) fNil)))) (sIf (tOr (fTr (fCmp .IsNot (fApp g_part_at (fCons (fVar 4) (fCons (fVar 16) fNil))) (fCon .non))) (tOr (fTr (fCmp .IsNot (fApp g_frame_at (fCons (fVar 3) (fCons (fVar 4) (fCons (fVar 16) fNil)))) (fCon .non))) (fTr (fCmp .NotEq (fApp g__law_tried (fCons (fVar 4) (fCons (fVar 16) (fCons (fTup (fCons (fCon (.str "skip")) fNil)) fNil)))) (fCon (.str "way")))))) (sRet (fCon (.bl false))) sNx)))))))
def b_law_L2 (g__law_frame g__law_command g__law_within g__law_wrong g__law_says g_is_command g__law_same g_ways_of g_frame_at g_part_at g_with_parts g_parts_of g_inner_frame g__law_tried g__law_pick g__law_put g_is_way : FF) : FS :=
  (sSeq (sSet 3 (fApp g__law_frame (fCons (fVar 1) fNil))) (sSeq (sSet 4 (fApp g__law_command (fCons (fVar 1) (fCons (fVar 3) (fCons (fCon (.int 3)) fNil))))) (sSeq (sSet 5 (fApp g__law_within (fCons (fVar 4) fNil))) (sSeq (sIf (tOr (tNot (fTr (fApp g__law_says (fCons (fApp g_is_command (fCons (fVar 3) (fCons (fVar 4) fNil))) (fCons (fCon (.bl true)) fNil))))) (fTr (fCmp .NotEq (fLc [6] (.name 6) (iVal (fApp g__law_wrong (fCons (fVar 3) fNil))) (tNot (fTr (fApp g__law_says (fCons (fApp g_is_command (fCons (fVar 3) (fCons (fVar 6) fNil))) (fCons (fCon (.bl false)) fNil))))) (fVar 6)) (fLst fNil)))) (sRet (fCon (.bl false))) sNx) (sSeq (sSet 7 (fLst (fCons (fTup (fCons (fCon (.str "spec")) (fCons (fTup fNil) (fCons (fTup (fCons (fCon (.str "truth")) (fCons (fCon (.bl false)) fNil))) (fCons (fTup (fCons (fCon (.str "same")) (fCons (fTup (fCons (fCon (.str "old")) (fCons (fIx (fIx (fVar 3) (fCon (.int 0))) (fCon (.int 0))) fNil))) (fCons (fTup (fCons (fCon (.str "number")) (fCons (fCon (.int 1)) fNil))) fNil)))) fNil))))) (fCons (fTup (fCons (fCon (.str "var")) (fCons (fCon (.str "q")) (fCons (fNeg (fCon (.int 1))) (fCons (fNeg (fCon (.int 1))) (fCons (fTup (fCons (fCon (.str "set")) (fCons (fTup (fCons (fTup (fCons (fCon (.str "q")) (fCons (fTup (fCons (fCon (.str "name")) (fCons (fCon (.str "q")) fNil))) fNil))) fNil)) fNil))) fNil)))))) fNil)))) (sSeq (sIf (tOr (fTr (fCmp .NotEq (fLc [6] (.name 6) (iVar 7) (tNot (fTr (fApp g__law_says (fCons (fApp g_is_command (fCons (fVar 3) (fCons (fVar 6) fNil))) (fCons (fCon (.bl true)) fNil))))) (fVar 6)) (fLst fNil))) (tNot (fTr (fApp g__law_same (fCons (fApp g_ways_of (fCons (fVar 4) fNil)) (fCons (fBlt .tuple (fCons (fLc [8, 9, 10] (.tup [.name 8, .name 9, .name 10]) (iVar 5) tYes (fVar 8)) fNil)) fNil)))))) (sRet (fCon (.bl false))) sNx) (sSeq (sFor (.tup [.name 8, .name 9, .name 10]) (iVal (fVar 5)) (b_law_L1 g__law_same g_frame_at g_part_at g_with_parts g_parts_of g_inner_frame g__law_tried)) (sSeq (sAsg (.tup [.name 8, .name 9, .name 10]) (fApp g__law_pick (fCons (fVar 1) (fCons (fVar 5) fNil)))) (sSeq (sSet 14 (fApp g__law_pick (fCons (fVar 1) (fCons (fLst (fCons (fTup (fCons (fCon (.str "skip")) fNil)) (fCons (fTup (fCons (fCon (.str "magic")) fNil)) (fCons (fTup (fCons (fCon (.str "assert")) (fCons (fTup (fCons (fCon (.str "truth")) (fCons (fCon (.bl true)) fNil))) fNil))) fNil)))) fNil)))) (sSeq (sIf (tOr (tNot (fTr (fApp g__law_same (fCons (fApp g__law_tried (fCons (fVar 4) (fCons (fVar 8) (fCons (fVar 14) fNil)))) (fCons (fApp g__law_put (fCons (fVar 4) (fCons (fVar 8) (fCons (fVar 14) fNil)))) fNil))))) (fTr (fCmp .NotEq (fApp g__law_tried (fCons (fVar 4) (fCons (fBin .Add (fTup (fCons (fCon (.int 9)) fNil)) (fVar 8)) (fCons (fVar 14) fNil)))) (fCon (.str "way"))))) (sRet (fCon (.bl false))) sNx) (sSeq (sIf (fTr (fCmp .NotEq (fLc [6] (.name 6) (iVal (fTup (fCons (fTup fNil) (fCons (fTup (fCons (fCon (.int 0)) fNil)) (fCons (fTup (fCons (fCon (.int 0)) (fCons (fCon (.int 5)) (fCons (fCon (.int 1)) fNil)))) fNil))))) (tNot (fTr (fApp g__law_says (fCons (fApp g_is_way (fCons (fVar 6) fNil)) (fCons (fCon (.bl true)) fNil))))) (fVar 6)) (fLst fNil))) (sRet (fCon (.bl false))) sNx) (sIf (fTr (fCmp .NotEq (fLc [6] (.name 6) (iVal (fTup (fCons (fCon .non) (fCons (fCon (.int 3)) (fCons (fLst (fCons (fCon (.int 0)) fNil)) (fCons (fCon (.str "0")) (fCons (fTup (fCons (fNeg (fCon (.int 1))) fNil)) (fCons (fTup (fCons (fCon (.bl true)) fNil)) (fCons (fTup (fCons (fCon (.str "0")) fNil)) (fCons (fTup (fCons (fCon (.int 0)) (fCons (fCon .non) fNil))) fNil)))))))))) (tNot (fTr (fApp g__law_says (fCons (fApp g_is_way (fCons (fVar 6) fNil)) (fCons (fCon (.bl false)) fNil))))) (fVar 6)) (fLst fNil))) (sRet (fCon (.bl false))) sNx))))))))))))
def b_law (g__law_draws g__law_frame g__law_command g__law_within g__law_wrong g__law_says g_is_command g__law_same g_ways_of g_frame_at g_part_at g_with_parts g_parts_of g_inner_frame g__law_tried g__law_pick g__law_put g_is_way : FF) : FS :=
  (sSeq (sSet 1 (fNew (fDct [((fCon (.str "draws")), (fApp g__law_draws (fCons (fVar 0) (fCons (fCon (.int 4000)) fNil)))), ((fCon (.str "at")), (fCon (.int 0)))]))) (sSeq (sFor (.name 2) (jRng1 (fCon (.int 6))) (b_law_L2 g__law_frame g__law_command g__law_within g__law_wrong g__law_says g_is_command g__law_same g_ways_of g_frame_at g_part_at g_with_parts g_parts_of g_inner_frame g__law_tried g__law_pick g__law_put g_is_way)) (sRet (fCon (.bl true)))))
theorem e_law (C : Str → List D → Mem → Res D) : (ev deep).s (pg.sc C f_law) (L2.defBody f_law.st) = b_law (C "_law_draws") (C "_law_frame") (C "_law_command") (C "_law_within") (C "_law_wrong") (C "_law_says") (C "is_command") (C "_law_same") (C "ways_of") (C "frame_at") (C "part_at") (C "with_parts") (C "parts_of") (C "inner_frame") (C "_law_tried") (C "_law_pick") (C "_law_put") (C "is_way") := by kernel_rfl
abbrev c_is_integer : FF := Com.c_is_integer
theorem k_is_integer (k : Nat) : pg.call (k + 1) "is_integer" = c_is_integer := by
  refine (call_by (k := k + 0) rfl (e_is_integer _) rfl rfl rfl).trans ?_
  rfl
abbrev c_is_name : FF := Com.c_is_name
theorem k_is_name (k : Nat) : pg.call (k + 1) "is_name" = c_is_name := by
  refine (call_by (k := k + 0) rfl (e_is_name _) rfl rfl rfl).trans ?_
  rfl
def c_is_ascending : FF := runF false 1 2 (b_is_ascending)
theorem k_is_ascending (k : Nat) : pg.call (k + 1) "is_ascending" = c_is_ascending := by
  refine (call_by (k := k + 0) rfl (e_is_ascending _) rfl rfl rfl).trans ?_
  rfl
abbrev c_names_of : FF := Com.c_names_of
theorem k_names_of (k : Nat) : pg.call (k + 1) "names_of" = c_names_of := by
  refine (call_by (k := k + 0) rfl (e_names_of _) rfl rfl rfl).trans ?_
  rfl
def c_with_name : FF := runF false 4 4 (b_with_name)
theorem k_with_name (k : Nat) : pg.call (k + 1) "with_name" = c_with_name := by
  refine (call_by (k := k + 0) rfl (e_with_name _) rfl rfl rfl).trans ?_
  rfl
abbrev c_is_word : FF := Com.c_is_word
theorem k_is_word (k : Nat) : pg.call (k + 1) "is_word" = c_is_word := by
  refine (call_by (k := k + 0) rfl (e_is_word _) rfl rfl rfl).trans ?_
  rfl
def c_parts_of : FF := runF false 1 3 (b_parts_of)
theorem k_parts_of (k : Nat) : pg.call (k + 1) "parts_of" = c_parts_of := by
  refine (call_by (k := k + 0) rfl (e_parts_of _) rfl rfl rfl).trans ?_
  rfl
def c_with_parts : FF := runF false 2 5 (b_with_parts)
theorem k_with_parts (k : Nat) : pg.call (k + 1) "with_parts" = c_with_parts := by
  refine (call_by (k := k + 0) rfl (e_with_parts _) rfl rfl rfl).trans ?_
  rfl
abbrev c__law_draws : FF := Com.c__law_draws
theorem k__law_draws (k : Nat) : pg.call (k + 1) "_law_draws" = c__law_draws := by
  refine (call_by (k := k + 0) rfl (e__law_draws _) rfl rfl rfl).trans ?_
  rfl
abbrev c__law_next : FF := Com.c__law_next
theorem k__law_next (k : Nat) : pg.call (k + 1) "_law_next" = c__law_next := by
  refine (call_by (k := k + 0) rfl (e__law_next _) rfl rfl rfl).trans ?_
  rfl
abbrev c__law_says : FF := Com.c__law_says
theorem k__law_says (k : Nat) : pg.call (k + 1) "_law_says" = c__law_says := by
  refine (call_by (k := k + 0) rfl (e__law_says _) rfl rfl rfl).trans ?_
  rfl
abbrev c__law_same : FF := Com.c__law_same
theorem k__law_same (k : Nat) : pg.call (k + 1) "_law_same" = c__law_same := by
  refine (call_by (k := k + 0) rfl (e__law_same _) rfl rfl rfl).trans ?_
  rfl
def c__law_wrong : FF := runF false 1 4 (b__law_wrong)
theorem k__law_wrong (k : Nat) : pg.call (k + 1) "_law_wrong" = c__law_wrong := by
  refine (call_by (k := k + 0) rfl (e__law_wrong _) rfl rfl rfl).trans ?_
  rfl
def c_is_number : FF := runF false 1 1 (b_is_number c_is_integer)
theorem k_is_number (k : Nat) : pg.call (k + 2) "is_number" = c_is_number := by
  refine (call_by (k := k + 1) rfl (e_is_number _) rfl rfl rfl).trans ?_
  rw [k_is_integer k]
  rfl
def c_is_range : FF := runF false 2 2 (b_is_range c_is_integer)
theorem k_is_range (k : Nat) : pg.call (k + 2) "is_range" = c_is_range := by
  refine (call_by (k := k + 1) rfl (e_is_range _) rfl rfl rfl).trans ?_
  rw [k_is_integer k]
  rfl
def c_is_names : FF := runF false 2 3 (b_is_names c_names_of c_is_name c_is_ascending)
theorem k_is_names (k : Nat) : pg.call (k + 2) "is_names" = c_is_names := by
  refine (call_by (k := k + 1) rfl (e_is_names _) rfl rfl rfl).trans ?_
  rw [k_names_of k, k_is_name k, k_is_ascending k]
  rfl
def c_inner_frame : FF := runF false 2 2 (b_inner_frame c_with_name)
theorem k_inner_frame (k : Nat) : pg.call (k + 2) "inner_frame" = c_inner_frame := by
  refine (call_by (k := k + 1) rfl (e_inner_frame _) rfl rfl rfl).trans ?_
  rw [k_with_name k]
  rfl
def c_part_at : FF := runF false 2 4 (b_part_at c_parts_of)
theorem k_part_at (k : Nat) : pg.call (k + 2) "part_at" = c_part_at := by
  refine (call_by (k := k + 1) rfl (e_part_at _) rfl rfl rfl).trans ?_
  rw [k_parts_of k]
  rfl
abbrev c__law_pick : FF := Com.c__law_pick
theorem k__law_pick (k : Nat) : pg.call (k + 2) "_law_pick" = c__law_pick := by
  refine (call_by (k := k + 1) rfl (e__law_pick _) rfl rfl rfl).trans ?_
  rw [k__law_next k]
  rfl
abbrev c__law_frame : FF := Com.c__law_frame
theorem k__law_frame (k : Nat) : pg.call (k + 2) "_law_frame" = c__law_frame := by
  refine (call_by (k := k + 1) rfl (e__law_frame _) rfl rfl rfl).trans ?_
  rw [k__law_next k]
  rfl
abbrev c__law_some : FF := Com.c__law_some
theorem k__law_some (k : Nat) : pg.call (k + 2) "_law_some" = c__law_some := by
  refine (call_by (k := k + 1) rfl (e__law_some _) rfl rfl rfl).trans ?_
  rw [k__law_next k]
  rfl
def c_is_way : FF := runF false 1 2 (b_is_way c_is_number)
theorem k_is_way (k : Nat) : pg.call (k + 3) "is_way" = c_is_way := by
  refine (call_by (k := k + 2) rfl (e_is_way _) rfl rfl rfl).trans ?_
  rw [k_is_number k]
  rfl
def c_frame_at : FF := runF false 3 5 (b_frame_at c_parts_of c_inner_frame)
theorem k_frame_at (k : Nat) : pg.call (k + 3) "frame_at" = c_frame_at := by
  refine (call_by (k := k + 2) rfl (e_frame_at _) rfl rfl rfl).trans ?_
  rw [show pg.call (k + 2) "parts_of" = c_parts_of from k_parts_of (k + 1), k_inner_frame k]
  rfl
abbrev c__law_count : FF := Com.c__law_count
theorem k__law_count (k : Nat) : pg.call (k + 3) "_law_count" = c__law_count := by
  refine (call_by (k := k + 2) rfl (e__law_count _) rfl rfl rfl).trans ?_
  rw [k__law_pick k, show pg.call (k + 2) "_law_next" = c__law_next from k__law_next (k + 1)]
  rfl
theorem r_is_integer (k : Nat) : pg.call (k + 1) "is_integer" = runF false 1 1 (Com.b_is_integer) := call_by rfl (e_is_integer _) rfl rfl rfl
theorem r_is_number (k : Nat) : pg.call (k + 1) "is_number" = runF false 1 1 (b_is_number (pg.call k "is_integer")) := call_by rfl (e_is_number _) rfl rfl rfl
theorem r_is_name (k : Nat) : pg.call (k + 1) "is_name" = runF false 1 2 (Com.b_is_name) := call_by rfl (e_is_name _) rfl rfl rfl
theorem r_is_ascending (k : Nat) : pg.call (k + 1) "is_ascending" = runF false 1 2 (b_is_ascending) := call_by rfl (e_is_ascending _) rfl rfl rfl
theorem r_is_range (k : Nat) : pg.call (k + 1) "is_range" = runF false 2 2 (b_is_range (pg.call k "is_integer")) := call_by rfl (e_is_range _) rfl rfl rfl
theorem r_names_of (k : Nat) : pg.call (k + 1) "names_of" = runF false 1 2 (Com.b_names_of) := call_by rfl (e_names_of _) rfl rfl rfl
theorem r_with_name (k : Nat) : pg.call (k + 1) "with_name" = runF false 4 4 (b_with_name) := call_by rfl (e_with_name _) rfl rfl rfl
theorem r_is_word (k : Nat) : pg.call (k + 1) "is_word" = runF false 2 2 (Com.b_is_word) := call_by rfl (e_is_word _) rfl rfl rfl
theorem r_is_value (k : Nat) : pg.call (k + 1) "is_value" = runF false 3 4 (Com.b_is_value (pg.call k "is_integer") (pg.call k "names_of") (pg.call k "is_name") (pg.call k "is_word") (pg.call k "is_value")) := call_by rfl (e_is_value _) rfl rfl rfl
theorem r_is_truth (k : Nat) : pg.call (k + 1) "is_truth" = runF false 3 3 (Com.b_is_truth (pg.call k "is_truth") (pg.call k "is_value")) := call_by rfl (e_is_truth _) rfl rfl rfl
theorem r_is_expr (k : Nat) : pg.call (k + 1) "is_expr" = runF false 2 2 (b_is_expr (pg.call k "is_value")) := call_by rfl (e_is_expr _) rfl rfl rfl
theorem r_is_cond (k : Nat) : pg.call (k + 1) "is_cond" = runF false 2 2 (b_is_cond (pg.call k "is_truth")) := call_by rfl (e_is_cond _) rfl rfl rfl
theorem r_is_post (k : Nat) : pg.call (k + 1) "is_post" = runF false 2 2 (b_is_post (pg.call k "is_truth")) := call_by rfl (e_is_post _) rfl rfl rfl
theorem r_is_pairs (k : Nat) : pg.call (k + 1) "is_pairs" = runF false 2 3 (b_is_pairs (pg.call k "is_name") (pg.call k "is_expr") (pg.call k "names_of") (pg.call k "is_ascending")) := call_by rfl (e_is_pairs _) rfl rfl rfl
theorem r_is_names (k : Nat) : pg.call (k + 1) "is_names" = runF false 2 3 (b_is_names (pg.call k "names_of") (pg.call k "is_name") (pg.call k "is_ascending")) := call_by rfl (e_is_names _) rfl rfl rfl
theorem r_are_guarded (k : Nat) : pg.call (k + 1) "are_guarded" = runF false 2 3 (b_are_guarded (pg.call k "is_command") (pg.call k "is_cond")) := call_by rfl (e_are_guarded _) rfl rfl rfl
theorem r_is_command (k : Nat) : pg.call (k + 1) "is_command" = runF false 2 3 (b_is_command (pg.call k "is_pairs") (pg.call k "are_guarded") (pg.call k "is_cond") (pg.call k "is_command") (pg.call k "is_post") (pg.call k "is_names") (pg.call k "is_local")) := call_by rfl (e_is_command _) rfl rfl rfl
theorem r_is_local (k : Nat) : pg.call (k + 1) "is_local" = runF false 2 2 (b_is_local (pg.call k "is_range") (pg.call k "names_of") (pg.call k "is_name") (pg.call k "is_command") (pg.call k "with_name")) := call_by rfl (e_is_local _) rfl rfl rfl
theorem r_parts_of (k : Nat) : pg.call (k + 1) "parts_of" = runF false 1 3 (b_parts_of) := call_by rfl (e_parts_of _) rfl rfl rfl
theorem r_with_parts (k : Nat) : pg.call (k + 1) "with_parts" = runF false 2 5 (b_with_parts) := call_by rfl (e_with_parts _) rfl rfl rfl
theorem r_inner_frame (k : Nat) : pg.call (k + 1) "inner_frame" = runF false 2 2 (b_inner_frame (pg.call k "with_name")) := call_by rfl (e_inner_frame _) rfl rfl rfl
theorem r_is_way (k : Nat) : pg.call (k + 1) "is_way" = runF false 1 2 (b_is_way (pg.call k "is_number")) := call_by rfl (e_is_way _) rfl rfl rfl
theorem r_part_at (k : Nat) : pg.call (k + 1) "part_at" = runF false 2 4 (b_part_at (pg.call k "parts_of")) := call_by rfl (e_part_at _) rfl rfl rfl
theorem r_frame_at (k : Nat) : pg.call (k + 1) "frame_at" = runF false 3 5 (b_frame_at (pg.call k "parts_of") (pg.call k "inner_frame")) := call_by rfl (e_frame_at _) rfl rfl rfl
theorem r_with_part (k : Nat) : pg.call (k + 1) "with_part" = runX false 3 5 (b_with_part (pg.call k "parts_of") (pg.call k "with_part") (pg.call k "with_parts")) := call_byX rfl (e_with_part _) rfl rfl rfl
theorem r_ways_of (k : Nat) : pg.call (k + 1) "ways_of" = runF true 1 5 (b_ways_of (pg.call k "parts_of") (pg.call k "ways_of")) := call_by rfl (e_ways_of _) rfl rfl rfl
theorem r__law_draws (k : Nat) : pg.call (k + 1) "_law_draws" = runF true 2 8 (Com.b__law_draws) := call_by rfl (e__law_draws _) rfl rfl rfl
theorem r__law_next (k : Nat) : pg.call (k + 1) "_law_next" = runF false 2 2 (Com.b__law_next) := call_by rfl (e__law_next _) rfl rfl rfl
theorem r__law_pick (k : Nat) : pg.call (k + 1) "_law_pick" = runF false 2 2 (Com.b__law_pick (pg.call k "_law_next")) := call_by rfl (e__law_pick _) rfl rfl rfl
theorem r__law_says (k : Nat) : pg.call (k + 1) "_law_says" = runF false 2 2 (Com.b__law_says) := call_by rfl (e__law_says _) rfl rfl rfl
theorem r__law_same (k : Nat) : pg.call (k + 1) "_law_same" = runF true 2 7 (Com.b__law_same) := call_by rfl (e__law_same _) rfl rfl rfl
theorem r__law_frame (k : Nat) : pg.call (k + 1) "_law_frame" = runF true 1 3 (Com.b__law_frame (pg.call k "_law_next")) := call_by rfl (e__law_frame _) rfl rfl rfl
theorem r__law_expr (k : Nat) : pg.call (k + 1) "_law_expr" = runF false 4 8 (Com.b__law_expr (pg.call k "_law_next") (pg.call k "_law_pick") (pg.call k "_law_expr")) := call_by rfl (e__law_expr _) rfl rfl rfl
theorem r__law_cond (k : Nat) : pg.call (k + 1) "_law_cond" = runF false 4 5 (Com.b__law_cond (pg.call k "_law_next") (pg.call k "_law_cond") (pg.call k "_law_expr")) := call_by rfl (e__law_cond _) rfl rfl rfl
theorem r__law_some (k : Nat) : pg.call (k + 1) "_law_some" = runF false 2 6 (Com.b__law_some (pg.call k "_law_next")) := call_by rfl (e__law_some _) rfl rfl rfl
theorem r__law_pairs (k : Nat) : pg.call (k + 1) "_law_pairs" = runF false 2 3 (Com.b__law_pairs (pg.call k "_law_some") (pg.call k "_law_expr")) := call_by rfl (e__law_pairs _) rfl rfl rfl
theorem r__law_spec (k : Nat) : pg.call (k + 1) "_law_spec" = runF false 2 3 (Com.b__law_spec (pg.call k "_law_next") (pg.call k "_law_cond") (pg.call k "_law_some")) := call_by rfl (e__law_spec _) rfl rfl rfl
theorem r__law_count (k : Nat) : pg.call (k + 1) "_law_count" = runF false 2 5 (Com.b__law_count (pg.call k "_law_pick") (pg.call k "_law_next")) := call_by rfl (e__law_count _) rfl rfl rfl
theorem r__law_command (k : Nat) : pg.call (k + 1) "_law_command" = runF false 3 9 (Com.b__law_command (pg.call k "_law_next") (pg.call k "_law_spec") (pg.call k "_law_pick") (pg.call k "_law_cond") (pg.call k "_law_pairs") (pg.call k "_law_command") (pg.call k "_law_count")) := call_by rfl (e__law_command _) rfl rfl rfl
theorem r__law_within (k : Nat) : pg.call (k + 1) "_law_within" = runF false 1 10 (b__law_within (pg.call k "_law_within")) := call_by rfl (e__law_within _) rfl rfl rfl
theorem r__law_put (k : Nat) : pg.call (k + 1) "_law_put" = runF false 3 7 (b__law_put (pg.call k "_law_put")) := call_by rfl (e__law_put _) rfl rfl rfl
theorem r__law_wrong (k : Nat) : pg.call (k + 1) "_law_wrong" = runF false 1 4 (b__law_wrong) := call_by rfl (e__law_wrong _) rfl rfl rfl
theorem r__law_tried (k : Nat) : pg.call (k + 1) "_law_tried" = runF false 3 4 (b__law_tried (pg.call k "with_part")) := call_by rfl (e__law_tried _) rfl rfl rfl
theorem r_law (k : Nat) : pg.call (k + 1) "law" = runF true 1 17 (b_law (pg.call k "_law_draws") (pg.call k "_law_frame") (pg.call k "_law_command") (pg.call k "_law_within") (pg.call k "_law_wrong") (pg.call k "_law_says") (pg.call k "is_command") (pg.call k "_law_same") (pg.call k "ways_of") (pg.call k "frame_at") (pg.call k "part_at") (pg.call k "with_parts") (pg.call k "parts_of") (pg.call k "inner_frame") (pg.call k "_law_tried") (pg.call k "_law_pick") (pg.call k "_law_put") (pg.call k "is_way")) := call_by rfl (e_law _) rfl rfl rfl
-- RECURSIVE is_local
-- RECURSIVE is_expr
-- RECURSIVE _law_cond
-- RECURSIVE is_value
-- RECURSIVE _law_expr
-- RECURSIVE are_guarded
-- RECURSIVE is_cond
-- RECURSIVE is_pairs
-- RECURSIVE with_part
-- RECURSIVE is_post
-- RECURSIVE _law_command
-- RECURSIVE _law_tried
-- RECURSIVE law
-- RECURSIVE ways_of
-- RECURSIVE _law_spec
-- RECURSIVE _law_put
-- RECURSIVE is_truth
-- RECURSIVE is_command
-- RECURSIVE _law_pairs
-- RECURSIVE _law_within
end K10

/-! Parts of commands. -/
namespace K10
open PySem Cs Com
theorem cut1 (x : D) (r : List D) (m : Mem) : slD (.tup (x :: r)) (some 1) none m = some (.tup r) := by
  simp [slD, cutD, HT.sIx]
theorem it_tup (ds : List D) (m : Mem) : itOf m (.tup ds) = some (ds, []) := rfl
theorem ix4 (a b c d e : D) (r : List D) (m : Mem) : ixD (.tup (a :: b :: c :: d :: e :: r)) (.int 4) m = some e := ix_tup (by omega) rfl
theorem ix3' (a b c d : D) (r : List D) (m : Mem) : ixD (.tup (a :: b :: c :: d :: r)) (.int 3) m = some d := ix_tup (by omega) rfl
theorem parts_ok (c : Cm) (m : Mem) : c_parts_of [c.enc] m = .ok (.tup (c.parts.map Cm.enc)) m := by
  unfold c_parts_of
  rw [runF_ap (np := 1) _ rfl]
  unfold b_parts_of
  cases c with
  | word w => cases w <;> simp [Cm.enc, Cm.parts, in2, W3.str]
  | set ps => simp [Cm.enc, Cm.parts, in2]
  | asr w c => cases w <;> simp [Cm.enc, Cm.parts, in2, wAsr]
  | seq w a b => cases w <;> simp [Cm.enc, Cm.parts, in2, wSeq, cut1]
  | if2 g a h b =>
    have e : fLc [1, 2] (.tup [.name 1, .name 2]) (iVal (fIx (fVar 0) (fCon (.int 1)))) Cs.tYes (fVar 2) [some (.tup [.str "if", .tup [.tup [g.enc, a.enc], .tup [h.enc, b.enc]]]), none, none] m = .ok (.lst [a.enc, b.enc]) m :=
      fLc_ap (p := ([.tup [g.enc, a.enc], .tup [h.enc, b.enc]], [])) (by simp [it_tup]) (by simp [lcGo, wipe, same_nil]) (by simp)
    simp [Cm.enc, Cm.parts, in2, e]
  | do1 g a =>
    have e : fLc [1, 2] (.tup [.name 1, .name 2]) (iVal (fIx (fVar 0) (fCon (.int 1)))) Cs.tYes (fVar 2) [some (.tup [.str "do", .tup [.tup [g.enc, a.enc]]]), none, none] m = .ok (.lst [a.enc]) m :=
      fLc_ap (p := ([.tup [g.enc, a.enc]], [])) (by simp [it_tup]) (by simp [lcGo, wipe, same_nil]) (by simp)
    simp [Cm.enc, Cm.parts, in2, e]
  | spec ns p q => simp [Cm.enc, Cm.parts, in2]
  | var x lo hi a => simp [Cm.enc, Cm.parts, in2, ix4]
theorem cutL1 (x : D) (r : List D) (m : Mem) : slD (.tup (x :: r)) none (some 1) m = some (.tup [x]) := by
  simp [slD, cutD, HT.sIx]
theorem cutL4 (a b c d : D) (r : List D) (m : Mem) : slD (.tup (a :: b :: c :: d :: r)) none (some 4) m = some (.tup [a, b, c, d]) := by
  simp [slD, cutD, HT.sIx]
theorem with_ok (c : Cm) (ps : List Cm) (h : ps.length = c.parts.length) (m : Mem) : c_with_parts [c.enc, .tup (ps.map Cm.enc)] m = .ok (c.with ps).enc m := by
  unfold c_with_parts
  rw [runF_ap (np := 2) _ rfl]
  unfold b_with_parts
  cases c with
  | word w => cases w <;> simp [Cm.enc, Cm.with, in2, W3.str]
  | set qs => simp [Cm.enc, Cm.with, in2]
  | asr w c => cases w <;> simp [Cm.enc, Cm.with, in2, wAsr]
  | seq w a b =>
    match ps, h with
    | [x, y], _ =>
      have e1 : ∀ m, bltD .tuple [.tup [x.enc, y.enc]] m = some (.tup [x.enc, y.enc]) := fun _ => rfl
      have e2 : ∀ (z : Str) m, binD .Add (.tup [.str z]) (.tup [x.enc, y.enc]) m = some (.tup [.str z, x.enc, y.enc]) := fun z m => add_tup (by simp)
      cases w <;> simp [Cm.enc, Cm.with, in2, wSeq, cutL1, e1, e2]
  | if2 g a k b =>
    match ps, h with
    | [x, y], _ =>
      have e : fLc [2, 3, 4] (.tup [.tup [.name 2, .name 3], .name 4]) (jZip (fIx (fVar 0) (fCon (.int 1))) (fVar 1)) Cs.tYes (fTup (fCons (fVar 2) (fCons (fVar 4) fNil))) [some (.tup [.str "if", .tup [.tup [g.enc, a.enc], .tup [k.enc, b.enc]]]), some (.tup [x.enc, y.enc]), none, none, none] m = .ok (.lst [.tup [g.enc, x.enc], .tup [k.enc, y.enc]]) m := by
        obtain ⟨rx, ex⟩ := x.enc_tup
        obtain ⟨ry, ey⟩ := y.enc_tup
        rw [ex, ey]
        exact fLc_ap (p := ([.tup [.tup [g.enc, a.enc], .tup (.str x.wd :: rx)], .tup [.tup [k.enc, b.enc], .tup (.str y.wd :: ry)]], [])) (by simp [jZip, zipL, zipOk]) (by simp [lcGo, wipe, same_nil]) (by simp)
      simp [Cm.enc, Cm.with, in2, e]
  | do1 g a =>
    match ps, h with
    | [x], _ =>
      have e : fLc [2, 3, 4] (.tup [.tup [.name 2, .name 3], .name 4]) (jZip (fIx (fVar 0) (fCon (.int 1))) (fVar 1)) Cs.tYes (fTup (fCons (fVar 2) (fCons (fVar 4) fNil))) [some (.tup [.str "do", .tup [.tup [g.enc, a.enc]]]), some (.tup [x.enc]), none, none, none] m = .ok (.lst [.tup [g.enc, x.enc]]) m := by
        obtain ⟨rx, ex⟩ := x.enc_tup
        rw [ex]
        exact fLc_ap (p := ([.tup [.tup [g.enc, a.enc], .tup (.str x.wd :: rx)]], [])) (by simp [jZip, zipL, zipOk]) (by simp [lcGo, wipe, same_nil]) (by simp)
      simp [Cm.enc, Cm.with, in2, e]
  | spec ns p q => simp [Cm.enc, Cm.with, in2]
  | var z lo hi a =>
    match ps, h with
    | [x], _ =>
      have e1 : ∀ m, bltD .tuple [.tup [x.enc]] m = some (.tup [x.enc]) := fun _ => rfl
      have e2 : ∀ m, binD .Add (.tup [.str "var", .str z, .int lo, .int hi]) (.tup [x.enc]) m = some (.tup [.str "var", .str z, .int lo, .int hi, x.enc]) := fun m => add_tup (by simp)
      simp [Cm.enc, Cm.with, in2, cutL4, e1, e2]
end K10

/-! Ways in commands. -/
namespace K10
open PySem Cs Com
def encW (w : List Nat) : D := .tup (w.map fun k : Nat => D.int k)
def ways : Cm → List (List Nat)
  | .seq _ a b => [] :: ((ways a).map (0 :: ·) ++ (ways b).map (1 :: ·))
  | .if2 _ a _ b => [] :: ((ways a).map (0 :: ·) ++ (ways b).map (1 :: ·))
  | .do1 _ a => [] :: (ways a).map (0 :: ·)
  | .var _ _ _ a => [] :: (ways a).map (0 :: ·)
  | _ => [[]]
def wsL : Nat → List Cm → List (List Nat)
  | _, [] => []
  | n, p :: r => (ways p).map (n :: ·) ++ wsL (n + 1) r
theorem ways_eq (c : Cm) : ways c = [] :: wsL 0 c.parts := by cases c <;> simp [ways, wsL, Cm.parts]
theorem ways_len : ∀ c : Cm, (ways c).length ≤ 2 ^ (c.dp + 1) - 1
  | .seq _ a b => by
    have h1 := ways_len a
    have h2 := ways_len b
    have h3 : 2 ^ (a.dp + 1) ≤ 2 ^ (max a.dp b.dp + 1) := Nat.pow_le_pow_right (by omega) (by omega)
    have h4 : 2 ^ (b.dp + 1) ≤ 2 ^ (max a.dp b.dp + 1) := Nat.pow_le_pow_right (by omega) (by omega)
    have h5 : 2 ^ (max a.dp b.dp + 1 + 1) = 2 * 2 ^ (max a.dp b.dp + 1) := by rw [Nat.pow_succ]; omega
    have h6 : 1 ≤ 2 ^ (a.dp + 1) := Nat.one_le_two_pow
    have h7 : 1 ≤ 2 ^ (b.dp + 1) := Nat.one_le_two_pow
    simp only [ways, Cm.dp, List.length_cons, List.length_append, List.length_map, h5]
    omega
  | .if2 _ a _ b => by
    have h1 := ways_len a
    have h2 := ways_len b
    have h3 : 2 ^ (a.dp + 1) ≤ 2 ^ (max a.dp b.dp + 1) := Nat.pow_le_pow_right (by omega) (by omega)
    have h4 : 2 ^ (b.dp + 1) ≤ 2 ^ (max a.dp b.dp + 1) := Nat.pow_le_pow_right (by omega) (by omega)
    have h5 : 2 ^ (max a.dp b.dp + 1 + 1) = 2 * 2 ^ (max a.dp b.dp + 1) := by rw [Nat.pow_succ]; omega
    have h6 : 1 ≤ 2 ^ (a.dp + 1) := Nat.one_le_two_pow
    have h7 : 1 ≤ 2 ^ (b.dp + 1) := Nat.one_le_two_pow
    simp only [ways, Cm.dp, List.length_cons, List.length_append, List.length_map, h5]
    omega
  | .do1 _ a => by
    have h1 := ways_len a
    have h5 : 2 ^ (a.dp + 1 + 1) = 2 * 2 ^ (a.dp + 1) := by rw [Nat.pow_succ]; omega
    have h6 : 1 ≤ 2 ^ (a.dp + 1) := Nat.one_le_two_pow
    simp only [ways, Cm.dp, List.length_cons, List.length_map, h5]
    omega
  | .var _ _ _ a => by
    have h1 := ways_len a
    have h5 : 2 ^ (a.dp + 1 + 1) = 2 * 2 ^ (a.dp + 1) := by rw [Nat.pow_succ]; omega
    have h6 : 1 ≤ 2 ^ (a.dp + 1) := Nat.one_le_two_pow
    simp only [ways, Cm.dp, List.length_cons, List.length_map, h5]
    omega
  | .word _ => by simp [ways, Cm.dp]
  | .set _ => by simp [ways, Cm.dp]
  | .asr _ _ => by simp [ways, Cm.dp]
  | .spec _ _ _ => by simp [ways, Cm.dp]
theorem encW_cons (n : Nat) (w : List Nat) : encW (n :: w) = .tup (.int n :: w.map fun k : Nat => D.int k) := rfl
theorem plain_encW (w : List Nat) : Cs.plain (encW w) = true := by
  unfold encW
  simp only [Cs.plain]
  exact plainL_of fun d hd => by obtain ⟨_, _, rfl⟩ := List.mem_map.mp hd; rfl
/-- one part's ways, the place ahead -/
theorem ways_lc {g : FF} {p : Cm} {n : Nat} (hg : ∀ m, g [p.enc] m = .ok (.tup ((ways p).map encW)) m) (hz : (ways p).length ≤ 100000) (hw : ∀ w ∈ ways p, w.length ≤ 100000) {e : Sto} {m : Mem} (h3 : atV e 3 = some p.enc) (h2 : e.length = 5) (hn : (wipe e [4])[2]? = some (some (.int n))) :
    fLc [4] (.name 4) (iVal (fApp g (fCons (fVar 3) fNil))) Cs.tYes (fBin .Add (fTup (fCons (fVar 2) fNil)) (fVar 4)) e m = .ok (.lst (((ways p).map (n :: ·)).map encW)) m := by
  refine fLc_ap (p := ((ways p).map encW, [])) (by simp only [iVal_ap, fApp_ap, fCons_ap, fNil_ap, fVar_ap, h3, ofO_some, bnd_ok, hg, it_tup]) ?_ (by rw [List.length_map, List.length_map]; exact sl_of (by omega))
  have hl : (wipe e [4]).length = 5 := by simp [wipe, h2]
  refine (lcGo_map (g := fun d => match d with | .tup ds => .tup (.int n :: ds) | _ => .non) same_nil fun d hd => ?_).trans (by rw [List.map_map, List.map_map]; rfl)
  obtain ⟨w, hw1, rfl⟩ := List.mem_map.mp hd
  refine ⟨_, rfl, rfl, ?_⟩
  have a2 : atV ((wipe e [4]).set 4 (some (encW w))) 2 = some (.int n) := by
    unfold atV
    rw [List.getElem?_set_ne (by omega), hn]
    rfl
  have a4 : atV ((wipe e [4]).set 4 (some (encW w))) 4 = some (encW w) := by
    unfold atV
    rw [List.getElem?_set_self (by omega)]
    rfl
  have e2 : binD .Add (.tup [.int n]) (encW w) m = some (.tup (.int n :: w.map fun k : Nat => D.int k)) := add_tup (sl_of (by have := hw w hw1; simp; omega))
  simp only [fBin_ap, fTup_ap, fCons_ap, fNil_ap, fVar_ap, a2, a4, ofO_some, bnd_ok, List.length_cons, List.length_nil, Nat.zero_add, sl_1, if_true, e2]
  rfl
theorem ways_deep : ∀ (c : Cm) (w : List Nat), w ∈ ways c → w.length ≤ c.dp
  | .seq _ a b, w, h => by
    simp only [ways, List.mem_cons, List.mem_append, List.mem_map] at h
    rcases h with rfl | ⟨v, hv, rfl⟩ | ⟨v, hv, rfl⟩
    · simp
    · have := ways_deep a v hv; simp only [List.length_cons, Cm.dp]; omega
    · have := ways_deep b v hv; simp only [List.length_cons, Cm.dp]; omega
  | .if2 _ a _ b, w, h => by
    simp only [ways, List.mem_cons, List.mem_append, List.mem_map] at h
    rcases h with rfl | ⟨v, hv, rfl⟩ | ⟨v, hv, rfl⟩
    · simp
    · have := ways_deep a v hv; simp only [List.length_cons, Cm.dp]; omega
    · have := ways_deep b v hv; simp only [List.length_cons, Cm.dp]; omega
  | .do1 _ a, w, h => by
    simp only [ways, List.mem_cons, List.mem_map] at h
    rcases h with rfl | ⟨v, hv, rfl⟩
    · simp
    · have := ways_deep a v hv; simp only [List.length_cons, Cm.dp]; omega
  | .var _ _ _ a, w, h => by
    simp only [ways, List.mem_cons, List.mem_map] at h
    rcases h with rfl | ⟨v, hv, rfl⟩
    · simp
    · have := ways_deep a v hv; simp only [List.length_cons, Cm.dp]; omega
  | .word _, w, h => by simp [ways] at h; simp [h]
  | .set _, w, h => by simp [ways] at h; simp [h]
  | .asr _ _, w, h => by simp [ways] at h; simp [h]
  | .spec _ _ _, w, h => by simp [ways] at h; simp [h]
theorem ways_go {g : FF} (m m0 : Mem) (C : D) : ∀ (ps : List Cm) (n : Nat) (L : List (List Nat)) (x2 x3 x4 : Option D), (∀ p ∈ ps, (∀ m, g [p.enc] m = .ok (.tup ((ways p).map encW)) m) ∧ p.dp ≤ 10) → L.length + 3000 * ps.length ≤ 100000 →
    ∃ y2 y3, forGo (.tup [.name 2, .name 3]) (sDrop (fMth .extend (fVar 1) (fCons (fLc [4] (.name 4) (iVal (fApp g (fCons (fVar 3) fNil))) Cs.tYes (fBin .Add (fTup (fCons (fVar 2) fNil)) (fVar 4))) fNil))) [] m0 (enumL n (ps.map Cm.enc)) [some C, some (.ref m.length), x2, x3, x4] (m ++ [.lst (L.map encW)]) =
      .ok .nx [some C, some (.ref m.length), y2, y3, x4] (m ++ [.lst ((L ++ wsL n ps).map encW)])
  | [], n, L, x2, x3, x4, _, _ => ⟨x2, x3, by simp [enumL, forGo, wsL, sNx]⟩
  | p :: ps, n, L, x2, x3, x4, h, hz => by
    obtain ⟨hg, hd⟩ := h p List.mem_cons_self
    simp only [List.length_cons] at hz
    have hl := ways_len p
    have hp : 2 ^ (p.dp + 1) ≤ 2 ^ 11 := Nat.pow_le_pow_right (by omega) (by omega)
    have hp2 : (2 : Nat) ^ 11 = 2048 := rfl
    have e1 := fun m => ways_lc (g := g) (p := p) (n := n) hg (by omega) (fun w hw => by have := ways_deep p w hw; omega) (e := [some C, some (.ref m.length), some (.int n), some p.enc, x4]) (m := m)
    have e2 := ext_last (m0 := m) (m1 := m) (i := 1) (e := [some C, some (.ref m.length), some (.int n), some p.enc, x4]) (L := L.map encW) (X := ((ways p).map (n :: ·)).map encW)
      (fs := fCons (fLc [4] (.name 4) (iVal (fApp g (fCons (fVar 3) fNil))) Cs.tYes (fBin .Add (fTup (fCons (fVar 2) fNil)) (fVar 4))) fNil) (by simp) rfl
      (by
        have := ways_lc (g := g) (p := p) (n := n) hg (by omega) (fun w hw => by have := ways_deep p w hw; omega) (e := [some C, some (.ref m.length), some (.int n), some p.enc, x4]) (m := m ++ [.lst (L.map encW)]) (by simp) rfl (by simp [wipe])
        simp only [fCons_ap, this, bnd_ok, fNil_ap])
      (sl_of (by simp only [List.length_map]; omega))
    obtain ⟨y2, y3, e3⟩ := ways_go m m0 C ps (n + 1) (L ++ (ways p).map (n :: ·)) (some (.int n)) (some p.enc) x4 (fun q hq => h q (List.mem_cons_of_mem _ hq)) (by simp only [List.length_append, List.length_map]; omega)
    refine ⟨y2, y3, ?_⟩
    simp only [List.map_cons, enumL, forGo, bindT_tup, bindL_cons, bindT_name, bindL_nil, Option.bind_some, List.set_cons_succ, List.set_cons_zero]
    rw [show sDrop (fMth .extend (fVar 1) (fCons (fLc [4] (.name 4) (iVal (fApp g (fCons (fVar 3) fNil))) Cs.tYes (fBin .Add (fTup (fCons (fVar 2) fNil)) (fVar 4))) fNil)) [some C, some (.ref m.length), some (.int n), some p.enc, x4] (m ++ [.lst (L.map encW)]) = .ok .nx [some C, some (.ref m.length), some (.int n), some p.enc, x4] (m ++ [.lst (L.map encW ++ ((ways p).map (n :: ·)).map encW)]) from by simp only [sDrop_ap, e2, sBd_ok]]
    simp only [same_nil, if_true]
    rw [← List.map_append, e3]
    simp only [wsL, List.append_assoc]
theorem ways_ok : ∀ (n : Nat) (c : Cm), c.dp ≤ n → n ≤ 10 → ∀ k, n + 2 ≤ k → ∀ m, pg.call k "ways_of" [c.enc] m = .ok (.tup ((ways c).map encW)) m := by
  intro n
  induction n with
  | zero =>
    intro c hc _ k hk m
    obtain ⟨k, rfl⟩ : ∃ j, k = j + 2 := ⟨k - 2, by omega⟩
    have hp : c.parts = [] := by
      cases hq : c.parts with
      | nil => rfl
      | cons p r =>
        have := Cm.parts_dp (c := c) (d := p) (by rw [hq]; exact List.mem_cons_self)
        omega
    apply okR.eq
    rw [r_ways_of, show pg.call (k + 1) "parts_of" = c_parts_of from k_parts_of k]
    refine okF rfl ?_
    unfold b_ways_of
    have e1 := fun m => parts_ok c m
    rw [hp] at e1
    have e2 := ways_eq c
    rw [hp] at e2
    obtain ⟨y2, y3, e3⟩ := ways_go (g := pg.call (k + 1) "ways_of") m (m ++ [.lst [.tup []]]) c.enc [] 0 [[]] none none none (fun _ h => nomatch h) (by simp)
    have q0 : ([[]] : List (List Nat)).map encW = [.tup []] := rfl
    rw [q0] at e3
    simp only [List.map_nil] at e3 e1
    have et : ∀ m', m'[m.length]? = some (Cell.lst ((([[]] : List (List Nat)) ++ wsL 0 []).map encW)) → bltD .tuple [.ref m.length] m' = some (.tup (((ways c)).map encW)) := fun m' h => by
      rw [e2]; exact tuple_ref h
    simp [jEnum, e1]
    rw [e3]
    have hm : (m ++ [Cell.lst ((([[]] : List (List Nat)) ++ wsL 0 []).map encW)])[m.length]? = some (Cell.lst ((([[]] : List (List Nat)) ++ wsL 0 []).map encW)) := by simp
    have eb := et _ hm
    simp only [sThen_nx, sRet_ap, fBlt_ap, fCons_ap, fNil_ap, fVar_ap, atV_s, atV_0, ofO_some, bnd_ok, eb, sBd_ok]
    refine okS.mk ?_
    exact ⟨_, _, gcR_plain (by simp only [Cs.plain]; exact plainL_of fun d hd => by obtain ⟨w, _, rfl⟩ := List.mem_map.mp hd; exact plain_encW w), rfl, rfl⟩
  | succ n ih =>
    intro c hc hn k hk m
    obtain ⟨k, rfl⟩ : ∃ j, k = j + 3 := ⟨k - 3, by omega⟩
    apply okR.eq
    rw [r_ways_of, show pg.call (k + 2) "parts_of" = c_parts_of from k_parts_of (k + 1)]
    refine okF rfl ?_
    unfold b_ways_of
    have e1 := fun m => parts_ok c m
    have hl := c.parts_len
    obtain ⟨y2, y3, e3⟩ := ways_go (g := pg.call (k + 2) "ways_of") m (m ++ [.lst [.tup []]]) c.enc c.parts 0 [[]] none none none
      (fun p hp => by
        have := Cm.parts_dp hp
        exact ⟨fun m => ih p (by omega) (by omega) (k + 2) (by omega) m, by omega⟩) (by simp; omega)
    have q0 : ([[]] : List (List Nat)).map encW = [.tup []] := rfl
    rw [q0] at e3
    have et : ∀ m', m'[m.length]? = some (Cell.lst ((([[]] : List (List Nat)) ++ wsL 0 c.parts).map encW)) → bltD .tuple [.ref m.length] m' = some (.tup (((ways c)).map encW)) := fun m' h => by
      rw [ways_eq c]; exact tuple_ref h
    simp [jEnum, e1]
    rw [e3]
    have hm : (m ++ [Cell.lst ((([[]] : List (List Nat)) ++ wsL 0 c.parts).map encW)])[m.length]? = some (Cell.lst ((([[]] : List (List Nat)) ++ wsL 0 c.parts).map encW)) := by simp
    have eb := et _ hm
    simp only [sThen_nx, sRet_ap, fBlt_ap, fCons_ap, fNil_ap, fVar_ap, atV_s, atV_0, ofO_some, bnd_ok, eb, sBd_ok]
    refine okS.mk ?_
    exact ⟨_, _, gcR_plain (by simp only [Cs.plain]; exact plainL_of fun d hd => by obtain ⟨w, _, rfl⟩ := List.mem_map.mp hd; exact plain_encW w), rfl, rfl⟩
end K10

/-! The part at a way; another put there. -/
namespace K10
open PySem Cs Com
def at_ : Cm → List Nat → Option Cm
  | c, [] => some c
  | c, k :: w => match c.parts[k]? with
    | some p => at_ p w
    | none => none
def oEnc : Option Cm → D
  | some c => c.enc
  | none => .non
theorem part_go (m m0 : Mem) (W : D) : ∀ (w : List Nat) (c : Cm) (x2 x3 : Option D), ∃ f e, forGo (.name 2) (sSeq (sSet 3 (fApp c_parts_of (fCons (fVar 0) fNil))) (sSeq (sIf (fTr (fCmp .GtE (fVar 2) (fBlt .len (fCons (fVar 3) fNil)))) (sRet (fCon .non)) sNx) (sSet 0 (fIx (fVar 3) (fVar 2))))) [] m0 (w.map fun k : Nat => D.int k) [some c.enc, some W, x2, x3] m = .ok f e m ∧
    match at_ c w with
    | some d => f = .nx ∧ ∃ y2 y3, e = [some d.enc, some W, y2, y3]
    | none => f = .rt .non
  | [], c, x2, x3 => ⟨.nx, _, rfl, rfl, x2, x3, rfl⟩
  | k :: w, c, x2, x3 => by
    have e1 := parts_ok c m
    have el : bltD .len [.tup (c.parts.map Cm.enc)] m = some (.int c.parts.length) := by
      show some (D.int ((c.parts.map Cm.enc).length : Nat)) = _
      rw [List.length_map]
    cases hp : c.parts[k]? with
    | none =>
      have hk : c.parts.length ≤ k := List.getElem?_eq_none_iff.mp hp
      have hk2 : (c.parts.length : Int) ≤ (k : Int) := by omega
      refine ⟨.rt .non, [some c.enc, some W, some (.int k), some (.tup (c.parts.map Cm.enc))], ?_, ?_⟩
      · simp [forGo, e1, el, hk2]
      · simp [at_, hp]
    | some p =>
      have hk : k < c.parts.length := (List.getElem?_eq_some_iff.mp hp).1
      have hk2 : ¬ (c.parts.length : Int) ≤ (k : Int) := by omega
      have ei : ixD (.tup (c.parts.map Cm.enc)) (.int (k : Int)) m = some p.enc := ix_tup (by omega) (by simp [hp])
      obtain ⟨f, e, h1, h2⟩ := part_go m m0 W w p (some (.int k)) (some (.tup (c.parts.map Cm.enc)))
      refine ⟨f, e, ?_, ?_⟩
      · simp [forGo, e1, el, hk2, ei, same_nil]
        simpa using h1
      · simp only [at_, hp]
        exact h2
theorem part_ok (c : Cm) (w : List Nat) (m : Mem) : c_part_at [c.enc, encW w] m = .ok (oEnc (at_ c w)) m := by
  unfold c_part_at
  rw [runF_ap (np := 2) _ rfl]
  unfold b_part_at
  obtain ⟨f, e, h1, h2⟩ := part_go m m (encW w) w c none none
  have hi : ∀ m, itOf m (encW w) = some (w.map fun k : Nat => D.int k, []) := fun m => rfl
  simp [hi, h1]
  cases ha : at_ c w with
  | none =>
    rw [ha] at h2
    subst h2
    rfl
  | some d =>
    rw [ha] at h2
    obtain ⟨rfl, y2, y3, rfl⟩ := h2
    simp [oEnc]
theorem cut_lo (ds : List D) (k : Nat) (h : k ≤ ds.length) (m : Mem) : slD (.tup ds) none (some (k : Int)) m = some (.tup (ds.take k)) := by
  simp only [slD, res_tupS, cutD]
  rw [HT.sIx_nat, HT.sIx_none, Nat.min_eq_left h]
  simp
theorem cut_hi (ds : List D) (k : Nat) (h : k + 1 ≤ ds.length) (m : Mem) : slD (.tup ds) (some ((k : Int) + 1)) none m = some (.tup (ds.drop (k + 1))) := by
  have e : ((k : Int) + 1) = ((k + 1 : Nat) : Int) := by omega
  simp only [slD, res_tupS, cutD]
  rw [e, HT.sIx_nat, HT.sIx_none, Nat.min_eq_left h]
  rw [List.take_of_length_le (by simp)]
def put : Cm → List Nat → Cm → Option Cm
  | _, [], p => some p
  | c, k :: w, p => match c.parts[k]? with
    | some q => (put q w p).map fun q' => c.with (c.parts.set k q')
    | none => none
theorem runX_ap (gc : Bool) {np nN : Nat} {b : FS} {as : List D} {m : Mem} (h : as.length = np) : runX gc np nN b as m = retX gc m (b (as.map some ++ List.replicate (nN - as.length) none) m) := by
  unfold runX
  rw [if_pos h]
def unfit (z : Str) : Exc := ⟨"Unfit", [("word", .str z)]⟩
/-- what with_part answers -/
def oRes (m : Mem) : Option Cm → Res D
  | some c => .ok c.enc m
  | none => .exc (unfit "way") m
theorem cmp_nilW (w : List Nat) (m : Mem) : cmpD .Eq (encW w) (.tup []) m = some w.isEmpty := by
  rw [cmp_eqD (plain_encW w) rfl (by simp only [dep, depL]; omega)]
  cases w <;> rfl
theorem with_part_ok (p : Cm) : ∀ (w : List Nat) (c : Cm) K, w.length + 2 ≤ K → ∀ m, pg.call K "with_part" [c.enc, encW w, p.enc] m = oRes m (put c w p)
  | [], c, K, hK, m => by
    obtain ⟨K, rfl⟩ : ∃ j, K = j + 1 := ⟨K - 1, by simp at hK; omega⟩
    rw [r_with_part, runX_ap (np := 3) _ rfl]
    unfold b_with_part
    simp [cmp_nilW, put, oRes, retX, endR]
  | k :: w, c, K, hK, m => by
    simp only [List.length_cons] at hK
    obtain ⟨K, rfl⟩ : ∃ j, K = j + 2 := ⟨K - 2, by omega⟩
    rw [r_with_part, show pg.call (K + 1) "parts_of" = c_parts_of from k_parts_of K, show pg.call (K + 1) "with_parts" = c_with_parts from k_with_parts K, runX_ap (np := 3) _ rfl]
    unfold b_with_part
    have e0 := cmp_nilW (k :: w) m
    have e1 := parts_ok c m
    have el : bltD .len [.tup (c.parts.map Cm.enc)] m = some (.int c.parts.length) := by
      show some (D.int ((c.parts.map Cm.enc).length : Nat)) = _
      rw [List.length_map]
    have ex : ixD (encW (k :: w)) (.int 0) m = some (.int (k : Int)) := ix_tup (by omega) rfl
    have es : slD (encW (k :: w)) (some 1) none m = some (encW w) := cut1 _ _ m
    cases hp : c.parts[k]? with
    | none =>
      have hk : c.parts.length ≤ k := List.getElem?_eq_none_iff.mp hp
      have hk2 : (c.parts.length : Int) ≤ (k : Int) := by omega
      have hx : ∀ m, sRaise "Unfit" "word" .txt (fCon (.str "way")) [some c.enc, some (encW (k :: w)), some p.enc, some (.tup (c.parts.map Cm.enc)), none] m = .exc (unfit "way") [some c.enc, some (encW (k :: w)), some p.enc, some (.tup (c.parts.map Cm.enc)), none] m := fun m => by
        unfold sRaise
        simp only [fCon_ap, sBd_ok]
        rw [if_pos (by decide)]
        rfl
      simp only [put, hp, oRes]
      simp [e0, e1, el, ex, hk2, hx]
      rfl
    | some q =>
      have hk : k < c.parts.length := (List.getElem?_eq_some_iff.mp hp).1
      have hk2 : ¬ (c.parts.length : Int) ≤ (k : Int) := by omega
      have ei : ixD (.tup (c.parts.map Cm.enc)) (.int (k : Int)) m = some q.enc := ix_tup (by omega) (by simp [hp])
      have ih := with_part_ok p w q (K + 1) (by omega) m
      have c1 := cut_lo (c.parts.map Cm.enc) k (by rw [List.length_map]; omega) m
      have c2 := cut_hi (c.parts.map Cm.enc) k (by rw [List.length_map]; omega) m
      have hl := c.parts_len
      cases hq : put q w p with
      | none =>
        rw [hq] at ih
        simp only [oRes] at ih
        simp only [put, hp, hq, Option.map_none, oRes]
        simp [e0, e1, el, ex, hk2, ei, es, ih]
        rfl
      | some q' =>
        rw [hq] at ih
        simp only [oRes] at ih
        have a1 : binD .Add (.tup ((c.parts.map Cm.enc).take k)) (.tup [q'.enc]) m = some (.tup ((c.parts.map Cm.enc).take k ++ [q'.enc])) := add_tup (sl_of (by simp; omega))
        have a2 : binD .Add (.tup ((c.parts.map Cm.enc).take k ++ [q'.enc])) (.tup ((c.parts.map Cm.enc).drop (k + 1))) m = some (.tup ((c.parts.set k q').map Cm.enc)) := by
          rw [add_tup (sl_of (by simp; omega))]
          congr 2
          rw [List.set_eq_take_append_cons_drop, if_pos hk]
          simp [List.map_take, List.map_drop]
        have hw := with_ok c (c.parts.set k q') (by simp) m
        rw [List.map_set] at hw
        simp only [put, hp, hq, Option.map_some, oRes]
        simp [-List.map_take, -List.map_drop, -List.append_assoc, e0, e1, el, ex, hk2, ei, es, ih, c1, a1, c2, a2, hw]
        rfl
end K10

/-! Tried; the law's own walk through a command. -/
namespace K10
open PySem Cs Com
def oTry : Option Cm → D
  | some c => c.enc
  | none => .str "way"
theorem tried_ok (c p : Cm) (w : List Nat) (K : Nat) (hK : w.length + 3 ≤ K) (m : Mem) : pg.call K "_law_tried" [c.enc, encW w, p.enc] m = .ok (oTry (put c w p)) m := by
  obtain ⟨K, rfl⟩ : ∃ j, K = j + 1 := ⟨K - 1, by omega⟩
  rw [r__law_tried, runF_ap (np := 3) _ rfl]
  unfold b__law_tried
  have e := with_part_ok p w c K (by omega) m
  cases hp : put c w p with
  | none =>
    rw [hp] at e
    simp only [oRes] at e
    unfold sTry
    simp [e]
    rfl
  | some d =>
    rw [hp] at e
    simp only [oRes] at e
    unfold sTry
    simp [e]
    rfl
theorem ix2' (a b c : D) (r : List D) (m : Mem) : ixD (.tup (a :: b :: c :: r)) (.int 2) m = some c := ix_tup (by omega) rfl
theorem ix1' (a b : D) (r : List D) (m : Mem) : ixD (.tup (a :: b :: r)) (.int 1) m = some b := ix_tup (by omega) rfl
theorem lput_ok (p : Cm) : ∀ (w : List Nat) (c : Cm) K, w.length + 1 ≤ K → ∀ d, put c w p = some d → ∀ m, pg.call K "_law_put" [c.enc, encW w, p.enc] m = .ok d.enc m
  | [], c, K, hK, d, hd, m => by
    obtain ⟨K, rfl⟩ : ∃ j, K = j + 1 := ⟨K - 1, by simp at hK; omega⟩
    rw [r__law_put, runF_ap (np := 3) _ rfl]
    unfold b__law_put
    simp only [put, Option.some.injEq] at hd
    subst hd
    simp [cmp_nilW]
  | k :: w, c, K, hK, d, hd, m => by
    simp only [List.length_cons] at hK
    obtain ⟨K, rfl⟩ : ∃ j, K = j + 1 := ⟨K - 1, by omega⟩
    rw [r__law_put, runF_ap (np := 3) _ rfl]
    unfold b__law_put
    have e0 := cmp_nilW (k :: w) m
    have ex : ixD (encW (k :: w)) (.int 0) m = some (.int (k : Int)) := ix_tup (by omega) rfl
    have es : slD (encW (k :: w)) (some 1) none m = some (encW w) := cut1 _ _ m
    have ih := fun q d hq => lput_ok p w q K (by omega) d hq m
    have ad : ∀ xs ys : List D, xs.length + ys.length ≤ 100 → binD .Add (.tup xs) (.tup ys) m = some (.tup (xs ++ ys)) := fun xs ys h => add_tup (sl_of (by omega))
    simp only [put] at hd
    cases c with
    | seq v a b =>
      match k with
      | 0 =>
        simp only [Cm.parts, List.getElem?_cons_zero, Option.map_eq_some_iff] at hd
        obtain ⟨q', hq, rfl⟩ := hd
        have i1 := ih _ _ hq
        have c1 : slD (.tup [.str (wSeq v), a.enc, b.enc]) none (some 1) m = some (.tup [.str (wSeq v)]) := by simp [slD, cutD, HT.sIx]
        have c2 : slD (.tup [.str (wSeq v), a.enc, b.enc]) (some 2) none m = some (.tup [b.enc]) := by simp [slD, cutD, HT.sIx]
        have a1 := ad [.str (wSeq v)] [q'.enc] (by simp)
        have a2 := ad [.str (wSeq v), q'.enc] [b.enc] (by simp)
        simp only [List.cons_append, List.nil_append] at a1 a2
        have iw : cmpD .In (.str (wSeq v)) (.tup [.str "then", .str "any"]) m = some true := by rw [in2]; cases v <;> simp [wSeq]
        simp [e0, ex, es, Cm.enc, Cm.with, Cm.parts, iw, i1, c1, c2, a1, a2, ix1']
      | 1 =>
        simp only [Cm.parts, List.getElem?_cons_succ, List.getElem?_cons_zero, Option.map_eq_some_iff] at hd
        obtain ⟨q', hq, rfl⟩ := hd
        have i1 := ih _ _ hq
        have c1 : slD (.tup [.str (wSeq v), a.enc, b.enc]) none (some 2) m = some (.tup [.str (wSeq v), a.enc]) := by simp [slD, cutD, HT.sIx]
        have c2 : slD (.tup [.str (wSeq v), a.enc, b.enc]) (some 3) none m = some (.tup []) := by simp [slD, cutD, HT.sIx]
        have a1 := ad [.str (wSeq v), a.enc] [q'.enc] (by simp)
        have a2 := ad [.str (wSeq v), a.enc, q'.enc] [] (by simp)
        simp only [List.cons_append, List.nil_append, List.append_nil] at a1 a2
        have iw : cmpD .In (.str (wSeq v)) (.tup [.str "then", .str "any"]) m = some true := by rw [in2]; cases v <;> simp [wSeq]
        simp [e0, ex, es, Cm.enc, Cm.with, Cm.parts, iw, i1, c1, c2, a1, a2, ix2']
      | k + 2 => simp [Cm.parts] at hd
    | if2 g a h b =>
      match k with
      | 0 =>
        simp only [Cm.parts, List.getElem?_cons_zero, Option.map_eq_some_iff] at hd
        obtain ⟨q', hq, rfl⟩ := hd
        have i1 := ih _ _ hq
        have c1 : slD (.tup [.tup [g.enc, a.enc], .tup [h.enc, b.enc]]) none (some 0) m = some (.tup []) := by simp [slD, cutD, HT.sIx]
        have c2 : slD (.tup [.tup [g.enc, a.enc], .tup [h.enc, b.enc]]) (some 1) none m = some (.tup [.tup [h.enc, b.enc]]) := by simp [slD, cutD, HT.sIx]
        have a1 := ad [] [.tup [g.enc, q'.enc]] (by simp)
        have a2 := ad [.tup [g.enc, q'.enc]] [.tup [h.enc, b.enc]] (by simp)
        simp only [List.cons_append, List.nil_append] at a1 a2
        simp [e0, ex, es, Cm.enc, Cm.with, Cm.parts, in2, i1, c1, c2, a1, a2]
      | 1 =>
        simp only [Cm.parts, List.getElem?_cons_succ, List.getElem?_cons_zero, Option.map_eq_some_iff] at hd
        obtain ⟨q', hq, rfl⟩ := hd
        have i1 := ih _ _ hq
        have c1 : slD (.tup [.tup [g.enc, a.enc], .tup [h.enc, b.enc]]) none (some 1) m = some (.tup [.tup [g.enc, a.enc]]) := by simp [slD, cutD, HT.sIx]
        have c2 : slD (.tup [.tup [g.enc, a.enc], .tup [h.enc, b.enc]]) (some 2) none m = some (.tup []) := by simp [slD, cutD, HT.sIx]
        have a1 := ad [.tup [g.enc, a.enc]] [.tup [h.enc, q'.enc]] (by simp)
        have a2 := ad [.tup [g.enc, a.enc], .tup [h.enc, q'.enc]] [] (by simp)
        simp only [List.cons_append, List.nil_append, List.append_nil] at a1 a2
        simp [e0, ex, es, Cm.enc, Cm.with, Cm.parts, in2, i1, c1, c2, a1, a2, ix1']
      | k + 2 => simp [Cm.parts] at hd
    | do1 g a =>
      match k with
      | 0 =>
        simp only [Cm.parts, List.getElem?_cons_zero, Option.map_eq_some_iff] at hd
        obtain ⟨q', hq, rfl⟩ := hd
        have i1 := ih _ _ hq
        have c1 : slD (.tup [.tup [g.enc, a.enc]]) none (some 0) m = some (.tup []) := by simp [slD, cutD, HT.sIx]
        have c2 : slD (.tup [.tup [g.enc, a.enc]]) (some 1) none m = some (.tup []) := by simp [slD, cutD, HT.sIx]
        have a1 := ad [] [.tup [g.enc, q'.enc]] (by simp)
        have a2 := ad [.tup [g.enc, q'.enc]] [] (by simp)
        simp only [List.cons_append, List.nil_append, List.append_nil] at a1 a2
        simp [e0, ex, es, Cm.enc, Cm.with, Cm.parts, in2, i1, c1, c2, a1, a2]
      | k + 1 => simp [Cm.parts] at hd
    | var x lo hi a =>
      match k with
      | 0 =>
        simp only [Cm.parts, List.getElem?_cons_zero, Option.map_eq_some_iff] at hd
        obtain ⟨q', hq, rfl⟩ := hd
        have i1 := ih _ _ hq
        have c1 : slD (.tup [.str "var", .str x, .int lo, .int hi, a.enc]) none (some 4) m = some (.tup [.str "var", .str x, .int lo, .int hi]) := by simp [slD, cutD, HT.sIx]
        have a1 := ad [.str "var", .str x, .int lo, .int hi] [q'.enc] (by simp)
        simp only [List.cons_append, List.nil_append] at a1
        simp [e0, ex, es, Cm.enc, Cm.with, Cm.parts, in2, i1, c1, a1, ix4]
      | k + 1 => simp [Cm.parts] at hd
    | _ => simp [Cm.parts] at hd
end K10

/-! The law's own walk through a command. -/
namespace K10
open PySem Cs Com
abbrev Tr := List Nat × List Row × Cm
def encT (t : Tr) : D := .tup [encW t.1, .tup (t.2.1.map encR), t.2.2.enc]
def ahead (k : Nat) (more : List Row) (t : Tr) : Tr := (k :: t.1, more ++ t.2.1, t.2.2)
def more : Cm → List Row
  | .var x lo hi _ => [(x, lo, hi)]
  | _ => []
def within : Cm → List Tr
  | .seq w a b => ([], [], .seq w a b) :: ((within a).map (ahead 0 []) ++ (within b).map (ahead 1 []))
  | .if2 g a h b => ([], [], .if2 g a h b) :: ((within a).map (ahead 0 []) ++ (within b).map (ahead 1 []))
  | .do1 g a => ([], [], .do1 g a) :: (within a).map (ahead 0 [])
  | .var x lo hi a => ([], [], .var x lo hi a) :: (within a).map (ahead 0 [(x, lo, hi)])
  | c => [([], [], c)]
def wiL (mo : List Row) : Nat → List Cm → List Tr
  | _, [] => []
  | n, p :: r => (within p).map (ahead n mo) ++ wiL mo (n + 1) r
theorem within_eq (c : Cm) : within c = ([], [], c) :: wiL (more c) 0 c.parts := by cases c <;> simp [within, wiL, Cm.parts, more]
theorem within_ways (c : Cm) : (within c).map (·.1) = ways c := by
  induction c with
  | seq w a b ia ib => simp only [within, ways, List.map_cons, List.map_append, List.map_map, ← ia, ← ib]; rfl
  | if2 g a h b ia ib => simp only [within, ways, List.map_cons, List.map_append, List.map_map, ← ia, ← ib]; rfl
  | do1 g a ia => simp only [within, ways, List.map_cons, List.map_map, ← ia]; rfl
  | var x lo hi a ia => simp only [within, ways, List.map_cons, List.map_map, ← ia]; rfl
  | _ => rfl
/-- each is where it is said to be -/
theorem within_at (c : Cm) : ∀ t ∈ within c, at_ c t.1 = some t.2.2 := by
  induction c with
  | seq w a b ia ib =>
    intro t h
    simp only [within, List.mem_cons, List.mem_append, List.mem_map] at h
    rcases h with rfl | ⟨u, hu, rfl⟩ | ⟨u, hu, rfl⟩
    · rfl
    · exact ia u hu
    · exact ib u hu
  | if2 g a h b ia ib =>
    intro t h
    simp only [within, List.mem_cons, List.mem_append, List.mem_map] at h
    rcases h with rfl | ⟨u, hu, rfl⟩ | ⟨u, hu, rfl⟩
    · rfl
    · exact ia u hu
    · exact ib u hu
  | do1 g a ia =>
    intro t h
    simp only [within, List.mem_cons, List.mem_map] at h
    rcases h with rfl | ⟨u, hu, rfl⟩
    · rfl
    · exact ia u hu
  | var x lo hi a ia =>
    intro t h
    simp only [within, List.mem_cons, List.mem_map] at h
    rcases h with rfl | ⟨u, hu, rfl⟩
    · rfl
    · exact ia u hu
  | _ =>
    intro t h
    simp only [within, List.mem_cons, List.not_mem_nil, or_false] at h
    subst h
    rfl
theorem within_len (c : Cm) : (within c).length = (ways c).length := by rw [← within_ways, List.length_map]
theorem put_at (p : Cm) : ∀ (w : List Nat) (c d : Cm), at_ c w = some d → ∃ e, put c w p = some e
  | [], c, d, _ => ⟨p, rfl⟩
  | k :: w, c, d, h => by
    simp only [at_] at h
    simp only [put]
    cases hp : c.parts[k]? with
    | none => rw [hp] at h; cases h
    | some q =>
      rw [hp] at h
      obtain ⟨e, he⟩ := put_at p w q d h
      exact ⟨c.with (c.parts.set k e), by simp only [he, Option.map_some]⟩
theorem put_no (p : Cm) : ∀ (w : List Nat) (c : Cm), at_ c w = none → put c w p = none
  | [], c, h => by cases h
  | k :: w, c, h => by
    simp only [at_] at h
    simp only [put]
    cases hp : c.parts[k]? with
    | none => rfl
    | some q =>
      rw [hp] at h
      simp only [put_no p w q h, Option.map_none]
theorem at_app : ∀ (w v : List Nat) (c d : Cm), at_ c w = some d → at_ c (w ++ v) = at_ d v
  | [], v, c, d, h => by cases h; rfl
  | k :: w, v, c, d, h => by
    simp only [at_, List.cons_append] at h ⊢
    cases hp : c.parts[k]? with
    | none => rw [hp] at h; cases h
    | some q =>
      rw [hp] at h
      exact at_app w v q d h
theorem wi_lc {g : FF} {p : Cm} {n : Nat} {mo : List Row} {R : List D} (hg : ∀ m, g [p.enc] m = .ok (.lst ((within p).map encT)) m) (hz : (within p).length ≤ 100000) (hw : ∀ t ∈ within p, t.1.length ≤ 1000 ∧ mo.length + t.2.1.length ≤ 1000) (hR : R[n]? = some p.enc) {m : Mem} {c0 c1 c4 c5 c8 c9 c6 : Option D} :
    fLc [8, 9, 5] (.tup [.name 8, .name 9, .name 5]) (iVal (fApp g (fCons (fIx (fVar 2) (fVar 7)) fNil))) Cs.tYes (fTup (fCons (fBin .Add (fTup (fCons (fVar 7) fNil)) (fVar 8)) (fCons (fBin .Add (fVar 3) (fVar 9)) (fCons (fVar 5) fNil))))
      [c0, c1, some (.lst R), some (.tup (mo.map encR)), c4, c5, c6, some (.int n), c8, c9] m = .ok (.lst (((within p).map (ahead n mo)).map encT)) m := by
  have ei : ixD (.lst R) (.int (n : Int)) m = some p.enc := by
    simpa using ix_lst (m := m) (ds := R) (i := (n : Int)) (by omega) (by simpa using hR)
  have qi : ∀ ds : List D, itOf m (.lst ds) = some (ds, []) := fun _ => rfl
  refine fLc_ap (p := ((within p).map encT, [])) (by simp [ei, hg, qi]) ?_ (by rw [List.length_map, List.length_map]; exact sl_of (by omega))
  refine (lcGo_map (g := fun d => match d with | .tup [.tup w, .tup i, o] => .tup [.tup (.int n :: w), .tup (mo.map encR ++ i), o] | _ => .non) same_nil fun d hd => ?_).trans (by
    rw [List.map_map, List.map_map]
    congr 2
    funext t
    simp [encT, encW, ahead])
  obtain ⟨t, ht, rfl⟩ := List.mem_map.mp hd
  obtain ⟨h1, h2⟩ := hw t ht
  have b1 : binD .Add (.tup [.int (n : Int)]) (.tup (t.1.map fun k : Nat => D.int k)) m = some (.tup (.int n :: t.1.map fun k : Nat => D.int k)) := add_tup (sl_of (by simp; omega))
  have b2 : binD .Add (.tup (mo.map encR)) (.tup (t.2.1.map encR)) m = some (.tup (mo.map encR ++ t.2.1.map encR)) := add_tup (sl_of (by simp; omega))
  refine ⟨_, rfl, rfl, ?_⟩
  simp [wipe, encT, encW, b1, b2]
end K10

/-! _law_within. -/
namespace K10
open PySem Cs Com
abbrev FB1 (g : FF) : FS := sSet 6 (fBin .Add (fVar 6) (fLc [8, 9, 5] (.tup [.name 8, .name 9, .name 5]) (iVal (fApp g (fCons (fIx (fVar 2) (fVar 7)) fNil))) Cs.tYes (fTup (fCons (fBin .Add (fTup (fCons (fVar 7) fNil)) (fVar 8)) (fCons (fBin .Add (fVar 3) (fVar 9)) (fCons (fVar 5) fNil))))))
theorem wi_go {g : FF} {mo : List Row} {R : List D} (m m0 : Mem) {c0 c1 c4 c5 c8 c9 : Option D} : ∀ (ps : List Cm) (n : Nat) (L : List Tr) (c7 : Option D), (∀ (j : Nat) p, ps[j]? = some p → R[n + j]? = some p.enc) →
    (∀ p ∈ ps, (∀ m, g [p.enc] m = .ok (.lst ((within p).map encT)) m) ∧ (within p).length ≤ 3000 ∧ ∀ t ∈ within p, t.1.length ≤ 1000 ∧ mo.length + t.2.1.length ≤ 1000) → L.length + 3000 * ps.length ≤ 100000 →
    ∃ y7, forGo (.name 7) (FB1 g) [] m0 (rangeL n ps.length) [c0, c1, some (.lst R), some (.tup (mo.map encR)), c4, c5, some (.lst (L.map encT)), c7, c8, c9] m = .ok .nx [c0, c1, some (.lst R), some (.tup (mo.map encR)), c4, c5, some (.lst ((L ++ wiL mo n ps).map encT)), y7, c8, c9] m
  | [], n, L, c7, _, _, _ => ⟨c7, by simp [rangeL, forGo, wiL, sNx]⟩
  | p :: ps, n, L, c7, hR, h, hz => by
    obtain ⟨hg, hl, hw⟩ := h p List.mem_cons_self
    simp only [List.length_cons] at hz
    have h0 := hR 0 p rfl
    have e1 := wi_lc (g := g) (p := p) (n := n) (mo := mo) (R := R) hg (by omega) hw (by simpa using h0) (m := m) (c0 := c0) (c1 := c1) (c4 := c4) (c5 := c5) (c8 := c8) (c9 := c9) (c6 := some (.lst (L.map encT)))
    have e2 : binD .Add (.lst (L.map encT)) (.lst (((within p).map (ahead n mo)).map encT)) m = some (.lst ((L ++ (within p).map (ahead n mo)).map encT)) := by
      rw [add_lst (sl_of (by simp only [List.length_map]; omega)), ← List.map_append]
    obtain ⟨y7, e3⟩ := wi_go m m0 (c0 := c0) (c1 := c1) (c4 := c4) (c5 := c5) (c8 := c8) (c9 := c9) ps (n + 1) (L ++ (within p).map (ahead n mo)) (some (.int n))
      (fun j q hj => by
        have := hR (j + 1) q (by simpa using hj)
        rwa [show n + 1 + j = n + (j + 1) by omega])
      (fun q hq => h q (List.mem_cons_of_mem _ hq)) (by simp only [List.length_append, List.length_map]; omega)
    refine ⟨y7, ?_⟩
    have en : ((n : Int) + 1) = ((n + 1 : Nat) : Int) := by omega
    simp only [List.length_cons, rangeL_succ, forGo, bindT_name, List.set_cons_succ, List.set_cons_zero]
    rw [show FB1 g [c0, c1, some (.lst R), some (.tup (mo.map encR)), c4, c5, some (.lst (L.map encT)), some (.int n), c8, c9] m = .ok .nx [c0, c1, some (.lst R), some (.tup (mo.map encR)), c4, c5, some (.lst ((L ++ (within p).map (ahead n mo)).map encT)), some (.int n), c8, c9] m from by
      unfold FB1
      simp [e1, e2, -List.map_append, -List.map_map]]
    simp only [same_nil, if_true]
    rw [en, e3]
    simp only [wiL, List.append_assoc]
theorem within_more (c : Cm) : ∀ t ∈ within c, t.1.length ≤ c.dp ∧ t.2.1.length ≤ c.dp := by
  induction c with
  | seq w a b ia ib =>
    intro t h
    simp only [within, List.mem_cons, List.mem_append, List.mem_map] at h
    rcases h with rfl | ⟨u, hu, rfl⟩ | ⟨u, hu, rfl⟩
    · simp
    · have := ia u hu; simp only [ahead, List.length_cons, List.nil_append, Cm.dp]; omega
    · have := ib u hu; simp only [ahead, List.length_cons, List.nil_append, Cm.dp]; omega
  | if2 g a h b ia ib =>
    intro t h
    simp only [within, List.mem_cons, List.mem_append, List.mem_map] at h
    rcases h with rfl | ⟨u, hu, rfl⟩ | ⟨u, hu, rfl⟩
    · simp
    · have := ia u hu; simp only [ahead, List.length_cons, List.nil_append, Cm.dp]; omega
    · have := ib u hu; simp only [ahead, List.length_cons, List.nil_append, Cm.dp]; omega
  | do1 g a ia =>
    intro t h
    simp only [within, List.mem_cons, List.mem_map] at h
    rcases h with rfl | ⟨u, hu, rfl⟩
    · simp
    · have := ia u hu; simp only [ahead, List.length_cons, List.nil_append, Cm.dp]; omega
  | var x lo hi a ia =>
    intro t h
    simp only [within, List.mem_cons, List.mem_map] at h
    rcases h with rfl | ⟨u, hu, rfl⟩
    · simp
    · have := ia u hu; simp only [ahead, List.length_cons, List.length_append, List.length_nil, Cm.dp]; omega
  | _ =>
    intro t h
    simp only [within, List.mem_cons, List.not_mem_nil, or_false] at h
    subst h
    simp
/-- the loop, for a whole command -/
theorem wi_all {g : FF} {c : Cm} (hd : c.dp ≤ 10) (hg : ∀ p ∈ c.parts, ∀ m, g [p.enc] m = .ok (.lst ((within p).map encT)) m) (m m0 : Mem) {c0 c1 c4 c5 c7 c8 c9 : Option D} :
    ∃ y7, forGo (.name 7) (FB1 g) [] m0 (rangeL 0 c.parts.length) [c0, c1, some (.lst (c.parts.map Cm.enc)), some (.tup ((more c).map encR)), c4, c5, some (.lst [.tup [.tup [], .tup [], c.enc]]), c7, c8, c9] m = .ok .nx [c0, c1, some (.lst (c.parts.map Cm.enc)), some (.tup ((more c).map encR)), c4, c5, some (.lst ((within c).map encT)), y7, c8, c9] m := by
  have hl := c.parts_len
  have hm : (more c).length ≤ 1 := by cases c <;> simp [more]
  obtain ⟨y7, e⟩ := wi_go (g := g) (mo := more c) (R := c.parts.map Cm.enc) m m0 (c0 := c0) (c1 := c1) (c4 := c4) (c5 := c5) (c8 := c8) (c9 := c9) c.parts 0 [([], [], c)] c7
    (fun j p hj => by simp [hj])
    (fun p hp => by
      have h1 := Cm.parts_dp hp
      refine ⟨hg p hp, ?_, fun t ht => ?_⟩
      · have h2 := ways_len p
        have h3 : 2 ^ (p.dp + 1) ≤ 2 ^ 11 := Nat.pow_le_pow_right (by omega) (by omega)
        have h4 : (2 : Nat) ^ 11 = 2048 := rfl
        rw [within_len]
        omega
      · have := within_more p t ht
        omega)
    (by simp; omega)
  refine ⟨y7, ?_⟩
  rw [within_eq]
  exact e
end K10

/-! _law_within as a whole. -/
namespace K10
open PySem Cs Com
/-- behind the head -/
theorem within_tail {g : FF} {c : Cm} (hd : c.dp ≤ 10) (hg : ∀ p ∈ c.parts, ∀ m, g [p.enc] m = .ok (.lst ((within p).map encT)) m) (m : Mem) :
    okS (sSeq (sSet 6 (fLst (fCons (fTup (fCons (fTup fNil) (fCons (fTup fNil) (fCons (fVar 0) fNil)))) fNil))) (sSeq (sFor (.name 7) (jRng1 (fBlt .len (fCons (fVar 2) fNil))) (FB1 g)) (sRet (fVar 6))) [some c.enc, some (.str c.wd), some (.lst (c.parts.map Cm.enc)), some (.tup ((more c).map encR)), none, none, none, none, none, none] m)
      fun f e m' => f = .rt (.lst ((within c).map encT)) ∧ m' = m := by
  have hl := c.parts_len
  obtain ⟨y7, e⟩ := wi_all (g := g) hd hg m m (c0 := some c.enc) (c1 := some (.str c.wd)) (c4 := none) (c5 := none) (c7 := none) (c8 := none) (c9 := none)
  have el : ∀ m, bltD .len [.lst (c.parts.map Cm.enc)] m = some (.int c.parts.length) := fun m => by
    show some (D.int ((c.parts.map Cm.enc).length : Nat)) = _
    rw [List.length_map]
  rw [sSeq_ap, sSet_ap]
  simp only [fLst_ap, fCons_ap, fTup_ap, fNil_ap, fVar_ap, atV_s, atV_0, ofO_some, bnd_ok, List.length_cons, List.length_nil, Nat.zero_add, Nat.reduceAdd, sl_1, sl_3, Nat.zero_le, if_true, sBd_ok, sThen_nx, List.set_cons_succ, List.set_cons_zero]
  rw [sSeq_ap, sFor_ap, jRng1_ap (n := (c.parts.length : Int)) (by simp [el]) (by omega) (by omega), sBd_ok]
  simp only [Int.toNat_natCast]
  rw [e, sThen_nx]
  simp
  exact okS.mk ⟨rfl, rfl⟩
abbrev hA : FS := sAsg (.tup [.name 1, .name 2, .name 3]) (fTup (fCons (fIx (fVar 0) (fCon (.int 0))) (fCons (fLst fNil) (fCons (fTup fNil) fNil))))
abbrev hB : FS := sIf (fTr (fCmp .In (fVar 1) (fTup (fCons (fCon (.str "then")) (fCons (fCon (.str "any")) fNil))))) (sSet 2 (fBlt .list (fCons (fSl (fVar 0) (some (fCon (.int 1))) none) fNil))) sNx
abbrev hC : FS := sIf (fTr (fCmp .In (fVar 1) (fTup (fCons (fCon (.str "if")) (fCons (fCon (.str "do")) fNil))))) (sSet 2 (fLc [4, 5] (.tup [.name 4, .name 5]) (iVal (fIx (fVar 0) (fCon (.int 1)))) Cs.tYes (fVar 5))) sNx
abbrev hD : FS := sIf (fTr (fCmp .Eq (fVar 1) (fCon (.str "var")))) (sAsg (.tup [.name 2, .name 3]) (fTup (fCons (fLst (fCons (fIx (fVar 0) (fCon (.int 4))) fNil)) (fCons (fTup (fCons (fSl (fVar 0) (some (fCon (.int 1))) (some (fCon (.int 4)))) fNil)) fNil)))) sNx
theorem head_within (c : Cm) (m : Mem) {T : FS} {Q : Fl → Sto → Mem → Prop} (hq : okS (T [some c.enc, some (.str c.wd), some (.lst (c.parts.map Cm.enc)), some (.tup ((more c).map encR)), none, none, none, none, none, none] m) Q) :
    okS (sSeq hA (sSeq hB (sSeq hC (sSeq hD T))) [some c.enc, none, none, none, none, none, none, none, none, none] m) Q := by
  have ls : ∀ ds : List D, bltD .list [.tup ds] m = some (.lst ds) := fun _ => rfl
  cases c with
  | word w => cases w <;> simpa [hA, hB, hC, hD, Cm.enc, Cm.wd, Cm.parts, more, in2, W3.str] using hq
  | set ps => simpa [hA, hB, hC, hD, Cm.enc, Cm.wd, Cm.parts, more, in2] using hq
  | asr w c => cases w <;> simpa [hA, hB, hC, hD, Cm.enc, Cm.wd, Cm.parts, more, in2, wAsr] using hq
  | seq w a b => cases w <;> simpa [hA, hB, hC, hD, Cm.enc, Cm.wd, Cm.parts, more, in2, wSeq, cut1, ls] using hq
  | if2 g a h b =>
    have e : ∀ (c1 c2 c3 : Option D), fLc [4, 5] (.tup [.name 4, .name 5]) (iVal (fIx (fVar 0) (fCon (.int 1)))) Cs.tYes (fVar 5) [some (.tup [.str "if", .tup [.tup [g.enc, a.enc], .tup [h.enc, b.enc]]]), c1, c2, c3, none, none, none, none, none, none] m = .ok (.lst [a.enc, b.enc]) m := fun c1 c2 c3 =>
      fLc_ap (p := ([.tup [g.enc, a.enc], .tup [h.enc, b.enc]], [])) (by simp [it_tup]) (by simp [lcGo, wipe, same_nil]) (by simp)
    simpa [hA, hB, hC, hD, Cm.enc, Cm.wd, Cm.parts, more, in2, e] using hq
  | do1 g a =>
    have e : ∀ (c1 c2 c3 : Option D), fLc [4, 5] (.tup [.name 4, .name 5]) (iVal (fIx (fVar 0) (fCon (.int 1)))) Cs.tYes (fVar 5) [some (.tup [.str "do", .tup [.tup [g.enc, a.enc]]]), c1, c2, c3, none, none, none, none, none, none] m = .ok (.lst [a.enc]) m := fun c1 c2 c3 =>
      fLc_ap (p := ([.tup [g.enc, a.enc]], [])) (by simp [it_tup]) (by simp [lcGo, wipe, same_nil]) (by simp)
    simpa [hA, hB, hC, hD, Cm.enc, Cm.wd, Cm.parts, more, in2, e] using hq
  | spec ns p q => simpa [hA, hB, hC, hD, Cm.enc, Cm.wd, Cm.parts, more, in2] using hq
  | var x lo hi a =>
    have c1 : slD (.tup [.str "var", .str x, .int lo, .int hi, a.enc]) (some 1) (some 4) m = some (.tup [.str x, .int lo, .int hi]) := by simp [slD, cutD, HT.sIx]
    simpa [hA, hB, hC, hD, Cm.enc, Cm.wd, Cm.parts, more, in2, c1, ix4, encR] using hq
theorem within_ok : ∀ (n : Nat) (c : Cm), c.dp ≤ n → n ≤ 10 → ∀ K, n + 1 ≤ K → ∀ m, pg.call K "_law_within" [c.enc] m = .ok (.lst ((within c).map encT)) m := by
  intro n
  induction n with
  | zero =>
    intro c hc hn K hK m
    obtain ⟨K, rfl⟩ : ∃ j, K = j + 1 := ⟨K - 1, by omega⟩
    apply okR.eq
    rw [r__law_within]
    refine okF rfl ?_
    unfold b__law_within
    refine head_within c m ((within_tail (by omega) (fun p hp => absurd (Cm.parts_dp hp) (by omega)) m).imp ?_)
    rintro f e m' ⟨rfl, rfl⟩
    exact okR.mk ⟨rfl, rfl⟩
  | succ n ih =>
    intro c hc hn K hK m
    obtain ⟨K, rfl⟩ : ∃ j, K = j + 1 := ⟨K - 1, by omega⟩
    apply okR.eq
    rw [r__law_within]
    refine okF rfl ?_
    unfold b__law_within
    refine head_within c m ((within_tail (by omega) (fun p hp m => ih p (by have := Cm.parts_dp hp; omega) (by omega) K (by omega) m) m).imp ?_)
    rintro f e m' ⟨rfl, rfl⟩
    exact okR.mk ⟨rfl, rfl⟩
end K10

/-! The parts at a way, picked out of the rows. -/
namespace K10
open PySem Cs Com
def pick1 (w : List Nat) (t : Tr) : Bool := decide (t.1.length = w.length + 1) && decide (t.1.take w.length = w)
theorem wiL_nil (mo : List Row) : ∀ (ps : List Cm) (n : Nat), ((wiL mo n ps).filter (pick1 [])).map (·.2.2) = ps
  | [], _ => rfl
  | p :: ps, n => by
    have e : ((within p).map (ahead n mo)).filter (pick1 []) = [ahead n mo ([], [], p)] := by
      rw [within_eq]
      have : ((wiL (more p) 0 p.parts).map (ahead n mo)).filter (pick1 []) = [] := by
        rw [List.filter_eq_nil_iff]
        intro t ht
        obtain ⟨u, hu, rfl⟩ := List.mem_map.mp ht
        have hne : u.1 ≠ [] := by
          have key : ∀ (qs : List Cm) (j : Nat) (mo : List Row), ∀ v ∈ wiL mo j qs, v.1 ≠ [] := by
            intro qs
            induction qs with
            | nil => intro j mo v hv; cases hv
            | cons q qs ih =>
              intro j mo v hv
              simp only [wiL, List.mem_append, List.mem_map] at hv
              rcases hv with ⟨z, _, rfl⟩ | hv
              · simp [ahead]
              · exact ih _ _ v hv
          exact key _ _ _ u hu
        have hl : 0 < u.1.length := List.length_pos_iff.mpr hne
        simp [pick1, ahead, hne]
      rw [List.map_cons, List.filter_cons_of_pos (by simp [pick1, ahead]), this]
    simp only [wiL, List.filter_append, List.map_append, e, List.map_cons, List.map_nil, wiL_nil mo ps (n + 1)]
    rfl
theorem inner_nil (c : Cm) : ((within c).filter (pick1 [])).map (·.2.2) = c.parts := by
  rw [within_eq, List.filter_cons_of_neg (by simp [pick1]), wiL_nil]
end K10

/-! is_command and what it calls. -/
namespace K10
open PySem Cs Com
theorem wn_call (fr : List Row) (h : fr.length ≤ 1000) (nm : Str) (lo hi : Int) (m : Mem) : c_with_name [enc fr, .str nm, .int lo, .int hi] m = .ok (enc (srtR (fr ++ [(nm, lo, hi)]))) m := by
  have ea : binD .Add (enc fr) (.tup [.tup [.str nm, .int lo, .int hi]]) m = some (.tup ((fr ++ [(nm, lo, hi)]).map encR)) := by
    unfold enc
    rw [add_tup (sl_of (by simp; omega))]
    simp [encR]
  have es := sorted_rows (fr ++ [(nm, lo, hi)]) m
  unfold c_with_name b_with_name
  rw [runF_ap (np := 4) _ rfl]
  simp [-List.map_append, ea, es]
  rfl
theorem asc_ok (zs : List Str) (hz : zs.length ≤ 100000) (d : D) (hd : d = .lst (zs.map .str) ∨ d = .tup (zs.map .str)) (m : Mem) : c_is_ascending [d] m = .ok (.bl (ascS zs)) m := by
  unfold c_is_ascending
  rw [runF_ap (np := 1) _ rfl]
  unfold b_is_ascending
  have el : bltD .len [d] m = some (.int (zs.length : Int)) := by rcases hd with rfl | rfl <;> simp
  have hj : jRng1 (fBin .Sub (fBlt .len (fCons (fVar 0) fNil)) (fCon (.int 1))) [some d, none] m = .ok (rangeL 0 (zs.length - 1), []) m := by
    unfold jRng1
    have : rngOk ((zs.length : Int) - 1) = true := by unfold rngOk; simp; omega
    have e : ((zs.length : Int) - 1).toNat = zs.length - 1 := by omega
    simp [el, this, e]
  have ix : ∀ (k : Nat) z, zs[k]? = some z → ∀ i : Int, i = (k : Int) → ixD d (.int i) m = some (.str z) := by
    intro k z hk i hi
    subst hi
    rcases hd with rfl | rfl
    · exact ix_lst (by omega) (by simp [hk])
    · exact ix_tup (by omega) (by simp [hk])
  have := lc_all (p := gA zs) (j := 1) (fe := (fCmp .Lt (fIx (fVar 0) (fVar 1)) (fIx (fVar 0) (fBin .Add (fVar 1) (fCon (.int 1)))))) hj (sl_of (by
      have : ∀ n (a : Int), (rangeL a n).length = n := fun n => by induction n with | zero => intro a; rfl | succ n ih => intro a; simp [rangeL, ih]
      rw [this]; omega)) fun q hq => by
    obtain ⟨k, hk, rfl⟩ := range_mem hq
    obtain ⟨x, hx⟩ : ∃ x, zs[k]? = some x := ⟨zs[k], by simp⟩
    obtain ⟨y, hy⟩ : ∃ y, zs[k + 1]? = some y := ⟨zs[k + 1], by simp⟩
    have i1 := ix k x hx (0 + (k : Int)) (by omega)
    have i2 := ix (k + 1) y hy (0 + (k : Int) + 1) (by omega)
    have : cmpD .Lt (.str x) (.str y) m = some (ltS x y) := rfl
    simp at i1 i2
    simp [wipe, i1, i2, this, gA, hx, hy]
  have e : List.map some [d] ++ List.replicate (2 - [d].length) none = [some d, none] := rfl
  rw [e, sRet_ap, this, asc_all]
  rfl
theorem rg_ok (a b : D) (ha : flat0 a = true) (hb : flat0 b = true) (m : Mem) : c_is_range [a, b] m = .ok (.bl (isRg a b).isSome) m := by
  unfold c_is_range
  rw [runF_ap (np := 2) _ rfl]
  unfold b_is_range
  have h1 := isint_ok a ha m
  have h2 := isint_ok b hb m
  cases a with
  | int i =>
    cases b with
    | int j =>
      simp only [isI] at h1 h2
      by_cases g1 : -99 ≤ i
      · by_cases g2 : i ≤ j
        · by_cases g3 : j ≤ 99 <;> simp [h1, h2, g1, g2, g3, isRg]
        · simp [h1, h2, g1, g2, isRg]
      · simp [h1, h2, g1, isRg]
    | _ => simp only [isI] at h1 h2; simp [h1, h2, isRg]
  | _ => simp only [isI] at h1 h2; simp [h1, h2, isRg]
def p1 : D → Bool
  | .tup [.str z, _] => nmS z
  | _ => false
def p2 (ns : List Str) : D → Bool
  | .tup [.str z, e] => ns.any (· == z) && isE ns false e
  | _ => false
def fstS : D → D
  | .tup (d :: _) => d
  | _ => .non
def fstZ : D → Str
  | .tup (.str z :: _) => z
  | _ => ""
theorem prsD_eq (ns : List Str) : ∀ ds : List D, prsD ns ds = if ds.all p1 && ds.all (p2 ns) then some (ds.map fstZ) else none
  | [] => rfl
  | .tup [.str z, e] :: r => by
    simp only [prsD, prsD_eq ns r, List.all_cons, p1, p2, List.map_cons, fstZ]
    cases nmS z <;> cases ns.any (· == z) <;> cases isE ns false e <;> cases r.all p1 <;> cases r.all (p2 ns) <;> simp
  | .non :: _ => by simp [prsD, p1]
  | .bl _ :: _ => by simp [prsD, p1]
  | .int _ :: _ => by simp [prsD, p1]
  | .str _ :: _ => by simp [prsD, p1]
  | .lst _ :: _ => by simp [prsD, p1]
  | .dct _ _ :: _ => by simp [prsD, p1]
  | .ref _ :: _ => by simp [prsD, p1]
  | .scr _ :: _ => by simp [prsD, p1]
  | .tup [] :: _ => by simp [prsD, p1]
  | .tup [x] :: _ => by cases x <;> simp [prsD, p1]
  | .tup (x :: y :: z :: q) :: _ => by cases x <;> simp [prsD, p1]
  | .tup [.non, e] :: _ => by simp [prsD, p1]
  | .tup [.bl _, e] :: _ => by simp [prsD, p1]
  | .tup [.int _, e] :: _ => by simp [prsD, p1]
  | .tup [.tup _, e] :: _ => by simp [prsD, p1]
  | .tup [.lst _, e] :: _ => by simp [prsD, p1]
  | .tup [.dct _ _, e] :: _ => by simp [prsD, p1]
  | .tup [.ref _, e] :: _ => by simp [prsD, p1]
  | .tup [.scr _, e] :: _ => by simp [prsD, p1]
theorem fineL_mem : ∀ {ds : List D} {d : D}, fineL ds = true → d ∈ ds → fine d = true
  | x :: r, d, h, hd => by
    simp only [fineL, Bool.and_eq_true] at h
    rcases List.mem_cons.mp hd with rfl | hd
    · exact h.1
    · exact fineL_mem h.2 hd
/-- what is_name says of any value -/
def nmD : D → Bool
  | .str z => nmS z
  | _ => false
theorem isname_ok (d : D) (h : fine d = true) (m : Mem) : c_is_name [d] m = .ok (.bl (nmD d)) m := by
  cases d with
  | str z => exact isname_str z (by simp [fine] at h; omega) m
  | _ => exact isname_not _ (fine_flat0 h) (fun z => by simp) m
theorem eq_nil (d : D) (h : fine d = true) (m : Mem) : cmpD .Eq d (.tup []) m = some (match d with | .tup [] => true | _ => false) := by
  rw [cmp_eqD (fine_plain d h) rfl (by simp only [dep, depL]; omega)]
  cases d with
  | tup ds => cases ds <;> rfl
  | _ => rfl
theorem lenT {m : Mem} (ds : List D) : bltD .len [.tup ds] m = some (.int ds.length) := rfl
theorem isPr_tup (ns : List Str) {ds : List D} (h : ds ≠ []) : isPr ns (.tup ds) = (ds.all p1 && ds.all (p2 ns) && ascS (ds.map fstZ)) := by
  cases ds with
  | nil => exact absurd rfl h
  | cons x r =>
    simp only [isPr, prsD_eq]
    cases (x :: r).all p1 <;> cases (x :: r).all (p2 ns) <;> simp
theorem eq_nilT (ds : List D) (h : fineL ds = true) (m : Mem) : cmpD .Eq (.tup ds) (.tup []) m = some ds.isEmpty := by
  rw [eq_nil _ (by simpa [fine] using h)]
  cases ds <;> rfl
theorem p1_or {d : D} (h : p1 d = true) : ∃ z e, d = .tup [.str z, e] ∧ nmS z = true := by
  unfold p1 at h
  split at h
  · exact ⟨_, _, rfl, h⟩
  · cases h
theorem ispairs_ok {fr : List Row} (hf : fr.length ≤ 1000) {g : FF} (d : D) (h : fine d = true) (hl : ∀ ds, d = .tup ds → ds.length ≤ 10000) (hg : ∀ ds x e, d = .tup ds → .tup [x, e] ∈ ds → ∀ m, g [enc fr, e] m = .ok (.bl (isE (nms fr) false e)) m) (m : Mem) :
    runF false 2 3 (b_is_pairs c_is_name g c_names_of c_is_ascending) [enc fr, d] m = .ok (.bl (isPr (nms fr) d)) m := by
  rw [runF_ap (np := 2) _ rfl]
  unfold b_is_pairs
  cases d with
  | tup ds =>
    have hz := hl ds rfl
    have e0 : List.map some [enc fr, D.tup ds] ++ List.replicate (3 - [enc fr, D.tup ds].length) none = [some (enc fr), some (.tup ds), none] := rfl
    rw [e0]
    simp only [fine] at h
    have q0 := eq_nilT ds h m
    by_cases hne : ds = []
    · subst hne
      simp [q0, isPr]
    have hne' : ds.isEmpty = false := by simpa using hne
    rw [hne'] at q0
    rw [isPr_tup _ hne]
    have hi : iVar 1 [some (enc fr), some (.tup ds), none] m = .ok (ds, []) m := iVar_tup (by simp)
    have n1 := names_ok fr hf m
    have c1 := lc_one (g := fun d => .bl (p1 d)) (j := 2) (fe := (fAndV (fIsi .tuple (fVar 2)) (fAndV (fCmp .Eq (fBlt .len (fCons (fVar 2) fNil)) (fCon (.int 2))) (fApp c_is_name (fCons (fIx (fVar 2) (fCon (.int 0))) fNil))))) hi (sl_of (by omega)) fun d hd => by
        have hfd := fineL_mem h hd
        cases d with
        | tup xs =>
          match xs, hfd with
          | [], _ => simp [wipe, p1]
          | [x], _ => simp [wipe, p1]
          | [x, y], hfd =>
            simp only [fine, fineL, Bool.and_eq_true] at hfd
            have := isname_ok x hfd.1 m
            cases x <;> simp [wipe, p1, this, nmD]
          | x :: y :: z :: q, _ =>
            have : ¬ ((q.length : Int) + 1 + 1 + 1 = 2) := by omega
            simp [wipe, p1, this]
        | _ => first | (simp [fine] at hfd; done) | simp [wipe, p1, isi_fine .tuple hfd m]
    cases a1 : ds.all p1 with
    | false => simp [q0, c1, all_mapD, a1]
    | true =>
      have ha : ∀ d ∈ ds, p1 d = true := List.all_eq_true.mp a1
      have c2 := lc_one (g := fun d => .bl (p2 (nms fr) d)) (j := 2) (fe := (fAndV (fCmp .In (fIx (fVar 2) (fCon (.int 0))) (fApp c_names_of (fCons (fVar 0) fNil))) (fApp g (fCons (fVar 0) (fCons (fIx (fVar 2) (fCon (.int 1))) fNil))))) hi (sl_of (by omega)) fun d hd => by
        obtain ⟨z, e, rfl, _⟩ := p1_or (ha d hd)
        have i1 := in_strs (m := m) z (nms fr)
        have i2 := hg _ _ _ rfl hd m
        cases q : (nms fr).any (· == z) <;> rw [q] at i1 <;> simp [wipe, n1, i1, i2, p2, q]
      have c3 := lc_one (g := fstS) (j := 2) (fe := (fIx (fVar 2) (fCon (.int 0)))) hi (sl_of (by omega)) fun d hd => by
        obtain ⟨z, e, rfl, _⟩ := p1_or (ha d hd)
        simp [wipe, fstS]
      have e3 : ds.map fstS = (ds.map fstZ).map .str := by
        rw [List.map_map]
        refine List.map_congr_left fun d hd => ?_
        obtain ⟨z, e, rfl, _⟩ := p1_or (ha d hd)
        rfl
      rw [e3] at c3
      have h4 := asc_ok (ds.map fstZ) (by rw [List.length_map]; omega) _ (.inl rfl) m
      cases a2 : ds.all (p2 (nms fr)) with
      | false => simp [q0, c1, c2, all_mapD, a1, a2]
      | true => simp [-List.map_map, q0, c1, c2, c3, all_mapD, a1, a2, h4]
  | _ => first | (simp [fine] at h; done) | simp [eq_nil _ h m, isPr, isi_fine .tuple h m]
end K10

/-! is_command. -/
namespace K10
open PySem Cs Com
def pN (ns : List Str) : D → Bool
  | .str z => nmS z && ns.any (· == z)
  | _ => false
def zOf : D → Str
  | .str z => z
  | _ => ""
theorem isNs_tup (ns : List Str) (ds : List D) : isNs ns (.tup ds) = (ds.all (pN ns) && ascS (ds.map zOf)) := by
  have key : ∀ ds : List D, (match strsD ds with | some zs => zs.all (fun z => nmS z && ns.any (· == z)) | none => false) = ds.all (pN ns) ∧ (∀ zs, strsD ds = some zs → zs = ds.map zOf) := by
    intro ds
    induction ds with
    | nil => exact ⟨rfl, fun zs h => by cases h; rfl⟩
    | cons d r ih =>
      obtain ⟨h1, h2⟩ := ih
      cases d with
      | str z =>
        simp only [strsD, List.all_cons, pN]
        cases q : strsD r with
        | none =>
          rw [q] at h1
          have h1 : false = r.all (pN ns) := h1
          rw [← h1]
          simp
        | some zs =>
          rw [q] at h1
          simp only at h1
          simp only [Option.map_some, List.all_cons, h1]
          refine ⟨trivial, fun zs' h => ?_⟩
          cases h
          rw [h2 zs q]
          rfl
      | _ => exact ⟨by simp [strsD, pN], fun zs h => by simp [strsD] at h⟩
  obtain ⟨h1, h2⟩ := key ds
  unfold isNs
  simp only
  cases q : strsD ds with
  | none =>
    rw [q] at h1
    have h1 : false = ds.all (pN ns) := h1
    rw [← h1]
    simp
  | some zs =>
    rw [q] at h1
    simp only at h1 ⊢
    rw [h1, h2 zs q]
theorem isnames_ok {fr : List Row} (hf : fr.length ≤ 1000) (d : D) (h : fine d = true) (hl : ∀ ds, d = .tup ds → ds.length ≤ 10000) (m : Mem) :
    c_is_names [enc fr, d] m = .ok (.bl (isNs (nms fr) d)) m := by
  unfold c_is_names
  rw [runF_ap (np := 2) _ rfl]
  unfold b_is_names
  cases d with
  | tup ds =>
    have hz := hl ds rfl
    have e0 : List.map some [enc fr, D.tup ds] ++ List.replicate (3 - [enc fr, D.tup ds].length) none = [some (enc fr), some (.tup ds), none] := rfl
    rw [e0, isNs_tup]
    simp only [fine] at h
    have hi : iVar 1 [some (enc fr), some (.tup ds), none] m = .ok (ds, []) m := iVar_tup (by simp)
    have n1 := names_ok fr hf m
    have c1 := lc_one (g := fun d => .bl (pN (nms fr) d)) (j := 2) (fe := (fAndV (fApp c_is_name (fCons (fVar 2) fNil)) (fCmp .In (fVar 2) (fApp c_names_of (fCons (fVar 0) fNil))))) hi (sl_of (by omega)) fun d hd => by
      have hfd := fineL_mem h hd
      have i0 := isname_ok d hfd m
      cases d with
      | str z =>
        have i1 := in_strs (m := m) z (nms fr)
        cases q : nmS z <;> simp [wipe, i0, nmD, q, n1, i1, pN]
      | _ => simp [wipe, i0, nmD, pN]
    cases a1 : ds.all (pN (nms fr)) with
    | false => simp [c1, all_mapD, a1]
    | true =>
      have ha : ∀ d ∈ ds, pN (nms fr) d = true := List.all_eq_true.mp a1
      have e3 : ds = (ds.map zOf).map .str := by
        rw [List.map_map]
        refine (List.map_id ds).symm.trans (List.map_congr_left fun d hd => ?_)
        have := ha d hd
        cases d <;> first | rfl | (simp [pN] at this)
      have h4 := asc_ok (ds.map zOf) (by rw [List.length_map]; omega) _ (.inr rfl) m
      rw [← e3] at h4
      simp [c1, all_mapD, a1, h4]
  | _ => first | (simp [fine] at h; done) | simp [isNs, isi_fine .tuple h m]
def pG1 : D → Bool
  | .tup [_, _] => true
  | _ => false
def pG2 (fr : List Row) : D → Bool
  | .tup [c, a] => isC (nms fr) false c && isK fr a
  | _ => false
theorem isGs_eq (fr : List Row) : ∀ ds : List D, isGs fr ds = (ds.all pG1 && ds.all (pG2 fr))
  | [] => rfl
  | .tup [c, a] :: r => by
    simp only [isGs, isGs_eq fr r, List.all_cons, pG1, pG2]
    cases isC (nms fr) false c <;> cases isK fr a <;> cases r.all pG1 <;> cases r.all (pG2 fr) <;> simp
  | .non :: _ => by simp [isGs, pG1]
  | .bl _ :: _ => by simp [isGs, pG1]
  | .int _ :: _ => by simp [isGs, pG1]
  | .str _ :: _ => by simp [isGs, pG1]
  | .lst _ :: _ => by simp [isGs, pG1]
  | .dct _ _ :: _ => by simp [isGs, pG1]
  | .ref _ :: _ => by simp [isGs, pG1]
  | .scr _ :: _ => by simp [isGs, pG1]
  | .tup [] :: _ => by simp [isGs, pG1]
  | .tup [x] :: _ => by simp [isGs, pG1]
  | .tup (x :: y :: z :: q) :: _ => by simp [isGs, pG1]
theorem isG_tup (fr : List Row) {ds : List D} (h : ds ≠ []) : isG fr (.tup ds) = (ds.all pG1 && ds.all (pG2 fr)) := by
  cases ds with
  | nil => exact absurd rfl h
  | cons x r => simp only [isG, isGs_eq]
theorem guarded_ok {fr : List Row} (hf : fr.length ≤ 1000) {gk gc : FF} (d : D) (h : fine d = true) (hl : ∀ ds, d = .tup ds → ds.length ≤ 10000)
    (hg : ∀ ds x e, d = .tup ds → .tup [x, e] ∈ ds → ∀ m, gc [enc fr, x] m = .ok (.bl (isC (nms fr) false x)) m ∧ gk [enc fr, e] m = .ok (.bl (isK fr e)) m) (m : Mem) :
    runF false 2 3 (b_are_guarded gk gc) [enc fr, d] m = .ok (.bl (isG fr d)) m := by
  rw [runF_ap (np := 2) _ rfl]
  unfold b_are_guarded
  cases d with
  | tup ds =>
    have hz := hl ds rfl
    have e0 : List.map some [enc fr, D.tup ds] ++ List.replicate (3 - [enc fr, D.tup ds].length) none = [some (enc fr), some (.tup ds), none] := rfl
    rw [e0]
    simp only [fine] at h
    have q0 := eq_nilT ds h m
    by_cases hne : ds = []
    · subst hne
      simp [q0, isG]
    have hne' : ds.isEmpty = false := by simpa using hne
    rw [hne'] at q0
    rw [isG_tup _ hne]
    have hi : iVar 1 [some (enc fr), some (.tup ds), none] m = .ok (ds, []) m := iVar_tup (by simp)
    have c1 := lc_one (g := fun d => .bl (pG1 d)) (j := 2) (fe := (fAndV (fIsi .tuple (fVar 2)) (fCmp .Eq (fBlt .len (fCons (fVar 2) fNil)) (fCon (.int 2))))) hi (sl_of (by omega)) fun d hd => by
        have hfd := fineL_mem h hd
        cases d with
        | tup xs =>
          match xs, hfd with
          | [], _ => simp [wipe, pG1]
          | [x], _ => simp [wipe, pG1]
          | [x, y], hfd => simp [wipe, pG1]
          | x :: y :: z :: q, _ =>
            have : ¬ ((q.length : Int) + 1 + 1 + 1 = 2) := by omega
            simp [wipe, pG1, this]
        | _ => first | (simp [fine] at hfd; done) | simp [wipe, pG1, isi_fine .tuple hfd m]
    cases a1 : ds.all pG1 with
    | false => simp [q0, c1, all_mapD, a1]
    | true =>
      have ha : ∀ d ∈ ds, pG1 d = true := List.all_eq_true.mp a1
      have c2 := lc_one (g := fun d => .bl (pG2 fr d)) (j := 2) (fe := (fAndV (fApp gc (fCons (fVar 0) (fCons (fIx (fVar 2) (fCon (.int 0))) fNil))) (fApp gk (fCons (fVar 0) (fCons (fIx (fVar 2) (fCon (.int 1))) fNil))))) hi (sl_of (by omega)) fun d hd => by
        have hp := ha d hd
        unfold pG1 at hp
        split at hp
        · rename_i c a
          obtain ⟨i1, i2⟩ := hg _ _ _ rfl hd m
          cases q : isC (nms fr) false c <;> rw [q] at i1 <;> simp [wipe, i1, i2, pG2, q]
        · cases hp
      cases a2 : ds.all (pG2 fr) with
      | false => simp [q0, c1, c2, all_mapD, a1, a2]
      | true => simp [q0, c1, c2, all_mapD, a1, a2]
  | _ => first | (simp [fine] at h; done) | simp [eq_nil _ h m, isG, isi_fine .tuple h m]
end K10

/-! is_command. -/
namespace K10
open PySem Cs Com
theorem isK_skip (fr : List Row) (r : List D) : isK fr (.tup (.str "skip" :: r)) = (match r with | [] => true | _ => false) := by
  match r with
  | [] => simp [isK]
  | [a] => simp [isK]
  | [a, b] => simp [isK]
  | [a, b, c] => simp [isK]
  | [a, b, c, d] => cases a <;> simp [isK]
  | a :: b :: c :: d :: e :: q => simp [isK]
theorem isK_abort (fr : List Row) (r : List D) : isK fr (.tup (.str "abort" :: r)) = (match r with | [] => true | _ => false) := by
  match r with
  | [] => simp [isK]
  | [a] => simp [isK]
  | [a, b] => simp [isK]
  | [a, b, c] => simp [isK]
  | [a, b, c, d] => cases a <;> simp [isK]
  | a :: b :: c :: d :: e :: q => simp [isK]
theorem isK_magic (fr : List Row) (r : List D) : isK fr (.tup (.str "magic" :: r)) = (match r with | [] => true | _ => false) := by
  match r with
  | [] => simp [isK]
  | [a] => simp [isK]
  | [a, b] => simp [isK]
  | [a, b, c] => simp [isK]
  | [a, b, c, d] => cases a <;> simp [isK]
  | a :: b :: c :: d :: e :: q => simp [isK]
theorem isK_set (fr : List Row) (r : List D) : isK fr (.tup (.str "set" :: r)) = (match r with | [a] => isPr (nms fr) a | _ => false) := by
  match r with
  | [] => simp [isK]
  | [a] => simp [isK]
  | [a, b] => simp [isK]
  | [a, b, c] => simp [isK]
  | [a, b, c, d] => cases a <;> simp [isK]
  | a :: b :: c :: d :: e :: q => simp [isK]
theorem isK_if (fr : List Row) (r : List D) : isK fr (.tup (.str "if" :: r)) = (match r with | [a] => isG fr a | _ => false) := by
  match r with
  | [] => simp [isK]
  | [a] => simp [isK]
  | [a, b] => simp [isK]
  | [a, b, c] => simp [isK]
  | [a, b, c, d] => cases a <;> simp [isK]
  | a :: b :: c :: d :: e :: q => simp [isK]
theorem isK_do (fr : List Row) (r : List D) : isK fr (.tup (.str "do" :: r)) = (match r with | [a] => isG fr a | _ => false) := by
  match r with
  | [] => simp [isK]
  | [a] => simp [isK]
  | [a, b] => simp [isK]
  | [a, b, c] => simp [isK]
  | [a, b, c, d] => cases a <;> simp [isK]
  | a :: b :: c :: d :: e :: q => simp [isK]
theorem isK_assert (fr : List Row) (r : List D) : isK fr (.tup (.str "assert" :: r)) = (match r with | [a] => isC (nms fr) false a | _ => false) := by
  match r with
  | [] => simp [isK]
  | [a] => simp [isK]
  | [a, b] => simp [isK]
  | [a, b, c] => simp [isK]
  | [a, b, c, d] => cases a <;> simp [isK]
  | a :: b :: c :: d :: e :: q => simp [isK]
theorem isK_assume (fr : List Row) (r : List D) : isK fr (.tup (.str "assume" :: r)) = (match r with | [a] => isC (nms fr) false a | _ => false) := by
  match r with
  | [] => simp [isK]
  | [a] => simp [isK]
  | [a, b] => simp [isK]
  | [a, b, c] => simp [isK]
  | [a, b, c, d] => cases a <;> simp [isK]
  | a :: b :: c :: d :: e :: q => simp [isK]
theorem isK_then (fr : List Row) (r : List D) : isK fr (.tup (.str "then" :: r)) = (match r with | [a, b] => (isK fr a && isK fr b) | _ => false) := by
  match r with
  | [] => simp [isK]
  | [a] => simp [isK]
  | [a, b] => simp [isK]
  | [a, b, c] => simp [isK]
  | [a, b, c, d] => cases a <;> simp [isK]
  | a :: b :: c :: d :: e :: q => simp [isK]
theorem isK_any (fr : List Row) (r : List D) : isK fr (.tup (.str "any" :: r)) = (match r with | [a, b] => (isK fr a && isK fr b) | _ => false) := by
  match r with
  | [] => simp [isK]
  | [a] => simp [isK]
  | [a, b] => simp [isK]
  | [a, b, c] => simp [isK]
  | [a, b, c, d] => cases a <;> simp [isK]
  | a :: b :: c :: d :: e :: q => simp [isK]
theorem isK_spec (fr : List Row) (r : List D) : isK fr (.tup (.str "spec" :: r)) = (match r with | [a, b, c] => (isNs (nms fr) a && isC (nms fr) false b && isC (nms fr) true c) | _ => false) := by
  match r with
  | [] => simp [isK]
  | [a] => simp [isK]
  | [a, b] => simp [isK]
  | [a, b, c] => simp [isK]
  | [a, b, c, d] => cases a <;> simp [isK]
  | a :: b :: c :: d :: e :: q => simp [isK]
theorem isK_var (fr : List Row) (r : List D) : isK fr (.tup (.str "var" :: r)) = (match r with
    | [.str z, lo, hi, a] => if nmS z && !(nms fr).any (· == z) then (match isRg lo hi with
      | some (l, h) => isK (srtR (fr ++ [(z, l, h)])) a
      | none => false) else false
    | _ => false) := by
  match r with
  | [] => simp [isK]
  | [a] => simp [isK]
  | [a, b] => simp [isK]
  | [a, b, c] => simp [isK]
  | [a, b, c, d] => cases a <;> simp [isK] <;> rfl
  | a :: b :: c :: d :: e :: q => simp [isK]
def allW : List Str := ["skip", "abort", "magic", "set", "if", "do", "assert", "assume", "then", "any", "spec", "var"]
theorem isK_other (fr : List Row) (w : Str) (r : List D) (h : ∀ z ∈ allW, w ≠ z) : isK fr (.tup (.str w :: r)) = false := by
  simp [allW] at h
  obtain ⟨h1, h2, h3, h4, h5, h6, h7, h8, h9, h10, h11, h12⟩ := h
  match r with
  | [] => simp [isK, *]
  | [a] => simp [isK, *]
  | [a, b] => simp [isK, *]
  | [a, b, c] => simp [isK, *]
  | [a, b, c, d] => cases a <;> simp [isK, *]
  | a :: b :: c :: d :: e :: q => simp [isK]
end K10

/-! is_command. -/
namespace K10
open PySem Cs Com
theorem tvK : Tv (fun k => pg.call k "is_integer") (fun k => pg.call k "names_of") (fun k => pg.call k "is_name") (fun k => pg.call k "is_word") (fun k => pg.call k "is_value") (fun k => pg.call k "is_truth") where
  hi := k_is_integer
  hn := k_names_of
  hm := k_is_name
  hw := k_is_word
  hv := r_is_value
  ht := r_is_truth
theorem isexpr_ok {fr : List Row} (hf : fr.length ≤ 1000) (hnm : ∀ z ∈ nms fr, nmS z = true) (d : D) (h : fine d = true) (k : Nat) (hk : dep d + 3 ≤ k) (m : Mem) : pg.call k "is_expr" [enc fr, d] m = .ok (.bl (isE (nms fr) false d)) m := by
  obtain ⟨k, rfl⟩ : ∃ j, k = j + 1 := ⟨k - 1, by omega⟩
  rw [r_is_expr, runF_ap (np := 2) _ rfl]
  unfold b_is_expr
  have := isvalue_ok tvK.toVl hf hnm false k d h (by omega) m
  simp [this]
theorem iscond_ok {fr : List Row} (hf : fr.length ≤ 1000) (hnm : ∀ z ∈ nms fr, nmS z = true) (d : D) (h : fine d = true) (k : Nat) (hk : dep d + 4 ≤ k) (m : Mem) : pg.call k "is_cond" [enc fr, d] m = .ok (.bl (isC (nms fr) false d)) m := by
  obtain ⟨k, rfl⟩ : ∃ j, k = j + 1 := ⟨k - 1, by omega⟩
  rw [r_is_cond, runF_ap (np := 2) _ rfl]
  unfold b_is_cond
  have := istruth_ok tvK hf hnm false k d h (by omega) m
  simp [this]
theorem ispost_ok {fr : List Row} (hf : fr.length ≤ 1000) (hnm : ∀ z ∈ nms fr, nmS z = true) (d : D) (h : fine d = true) (k : Nat) (hk : dep d + 4 ≤ k) (m : Mem) : pg.call k "is_post" [enc fr, d] m = .ok (.bl (isC (nms fr) true d)) m := by
  obtain ⟨k, rfl⟩ : ∃ j, k = j + 1 := ⟨k - 1, by omega⟩
  rw [r_is_post, runF_ap (np := 2) _ rfl]
  unfold b_is_post
  have := istruth_ok tvK hf hnm true k d h (by omega) m
  simp [this]
theorem depL_mem : ∀ {ds : List D} {d : D}, d ∈ ds → dep d ≤ depL ds
  | x :: r, d, h => by
    simp only [depL]
    rcases List.mem_cons.mp h with rfl | h
    · omega
    · have := depL_mem h; omega
theorem szL_mem : ∀ {ds : List D} {d : D}, d ∈ ds → szD d ≤ szL ds
  | x :: r, d, h => by
    simp only [szL]
    rcases List.mem_cons.mp h with rfl | h
    · omega
    · have := szL_mem h; omega
/-- what is_command needs of a value -/
structure Ok (n : Nat) (d : D) : Prop where
  fin : fine d = true
  dep : dep d ≤ n
  sz : szD d ≤ 10000
theorem pairs_call {fr : List Row} (hf : fr.length ≤ 1000) (hnm : ∀ z ∈ nms fr, nmS z = true) {n : Nat} {d : D} (o : Ok n d) (k : Nat) (hk : n + 5 ≤ k) (m : Mem) : pg.call k "is_pairs" [enc fr, d] m = .ok (.bl (isPr (nms fr) d)) m := by
  obtain ⟨k, rfl⟩ : ∃ j, k = j + 2 := ⟨k - 2, by omega⟩
  rw [r_is_pairs, k_is_name k, k_names_of k, k_is_ascending k]
  refine ispairs_ok hf d o.fin (fun ds e => ?_) (fun ds x e he hm m => ?_) m
  · subst e
    have := o.sz
    have := szL_len ds
    simp only [szD] at *
    omega
  · subst he
    have h1 := fineL_mem (by simpa [fine] using o.fin) hm
    have h2 := depL_mem hm
    have h3 := o.dep
    simp only [fine, fineL, Bool.and_eq_true] at h1
    simp only [Cs.dep, depL] at h2 h3
    exact isexpr_ok hf hnm e h1.2.1 _ (by omega) m
def varK (fr : List Row) : List D → Bool
  | [.str z, lo, hi, a] => if nmS z && !(nms fr).any (· == z) then (match isRg lo hi with
    | some (l, h) => isK (srtR (fr ++ [(z, l, h)])) a
    | none => false) else false
  | _ => false
theorem local_ok {n : Nat} {fr : List Row} (hf9 : fr.length ≤ 1000) (hnm : ∀ z ∈ nms fr, nmS z = true) (r : List D) (sub : ∀ y ∈ r, Ok n y) (hr : (∃ a b c d, r = [a, b, c, d]) ∨ (∃ a b c, r = [a, b, c]) ∨ (∃ a b, r = [a, b]) ∨ (∃ a, r = [a]) ∨ r = [] ∨ ∃ a b c d e q, r = a :: b :: c :: d :: e :: q) (k : Nat) (hk : 2 * n + 7 ≤ k) {m : Mem}
    (ih : ∀ d, Ok n d → ∀ fr' : List Row, fr'.length ≤ fr.length + 1 → (∀ z ∈ nms fr', nmS z = true) → ∀ k, 2 * n + 6 ≤ k → pg.call k "is_command" [enc fr', d] m = .ok (.bl (isK fr' d)) m) :
    pg.call k "is_local" [enc fr, .tup (.str "var" :: r)] m = .ok (.bl (varK fr r)) m := by
  obtain ⟨k, rfl⟩ : ∃ j, k = j + 3 := ⟨k - 3, by omega⟩
  rw [r_is_local, k_is_range k, k_names_of (k + 1), k_is_name (k + 1), k_with_name (k + 1), runF_ap (np := 2) _ rfl]
  unfold b_is_local
  rcases hr with ⟨a, b, c, d, rfl⟩ | ⟨a, b, c, rfl⟩ | ⟨a, b, rfl⟩ | ⟨a, rfl⟩ | rfl | ⟨a, b, c, d, e, q, rfl⟩
  · have oa := sub a (by simp)
    have ob := sub b (by simp)
    have oc := sub c (by simp)
    have od := sub d (by simp)
    have n0 := isname_ok a oa.fin m
    have n1 := names_ok fr hf9 m
    have n2 := rg_ok b c (fine_flat0 ob.fin) (fine_flat0 oc.fin) m
    cases a with
    | str z =>
      have i1 := in_strs (m := m) z (nms fr)
      simp only [nmD] at n0
      cases z1 : nmS z with
      | false => rw [z1] at n0; simp [varK, n0, z1]
      | true =>
        rw [z1] at n0
        cases z2 : (nms fr).any (· == z) with
        | true => rw [z2] at i1; simp [varK, n0, n1, i1, z1, z2]
        | false =>
          rw [z2] at i1
          cases z3 : isRg b c with
          | none => rw [z3] at n2; simp [varK, n0, n1, i1, n2, z1, z2, z3]
          | some lh =>
            obtain ⟨l, h⟩ := lh
            obtain ⟨rfl, rfl⟩ : b = .int l ∧ c = .int h := by
              unfold isRg at z3
              split at z3
              · split at z3
                · cases z3; exact ⟨rfl, rfl⟩
                · cases z3
              · cases z3
            rw [z3] at n2
            have n3 := wn_call fr hf9 z l h m
            have n4 := ih d od (srtR (fr ++ [(z, l, h)])) (by rw [srtR_len, List.length_append]; simp) (fun y hy => by
              unfold nms at hy
              obtain ⟨q, hq, rfl⟩ := List.mem_map.mp hy
              have hq := srtR_mem.mp hq
              rw [List.mem_append] at hq
              rcases hq with hq | hq
              · exact hnm _ (List.mem_map.mpr ⟨q, hq, rfl⟩)
              · simp at hq; subst hq; exact z1) (k + 2) (by omega)
            simp [varK, n0, n1, i1, n2, n3, n4, z1, z2, z3, ix4]
    | _ => simp only [nmD] at n0; simp [varK, n0]
  · simp [varK]
  · simp [varK]
  · simp [varK]
  · simp [varK]
  · have : ¬ ((q.length : Int) + 1 + 1 + 1 + 1 + 1 + 1 = 5) := by omega
    simp [varK, this]
theorem isK_var' (fr : List Row) (r : List D) : isK fr (.tup (.str "var" :: r)) = varK fr r := by
  rw [isK_var]
  rfl
end K10

/-! is_command. -/
namespace K10
open PySem Cs Com
set_option maxHeartbeats 8000000 in
theorem iscom_ok : ∀ (n : Nat) (d : D), Ok n d → ∀ (fr : List Row), fr.length + n ≤ 900 → (∀ z ∈ nms fr, nmS z = true) → ∀ k, 2 * n + 6 ≤ k → ∀ m, pg.call k "is_command" [enc fr, d] m = .ok (.bl (isK fr d)) m := by
  intro n
  induction n with
  | zero =>
    intro d o fr hf hnm k hk m
    obtain ⟨k, rfl⟩ : ∃ j, k = j + 1 := ⟨k - 1, by omega⟩
    rw [r_is_command, runF_ap (np := 2) _ rfl]
    unfold b_is_command
    have h := o.fin
    have hd := o.dep
    cases d with
    | tup ds => simp [dep] at hd
    | _ => first | (simp [fine] at h; done) | simp [eq_nil _ h m, isK, isi_fine .tuple h m]
  | succ n ih =>
    intro d o fr hf hnm k hk m
    obtain ⟨k, rfl⟩ : ∃ j, k = j + 1 := ⟨k - 1, by omega⟩
    rw [r_is_command, runF_ap (np := 2) _ rfl]
    unfold b_is_command
    have h := o.fin
    have hd := o.dep
    have hs := o.sz
    cases d with
    | tup ds =>
      cases ds with
      | nil => simp [eq_nil _ h m, isK]
      | cons x r =>
        simp only [fine, fineL, Bool.and_eq_true] at h
        simp only [dep, depL] at hd
        simp only [szD, szL] at hs
        have q0 := eq_nilT (x :: r) (by simp [fineL, h]) m
        have q1 := ix_h x r m
        have sub : ∀ y ∈ r, Ok n y := fun y hy => by
          have a1 := fineL_mem h.2 hy
          have a2 := depL_mem hy
          have a3 := szL_mem hy
          exact ⟨a1, by omega, by omega⟩
        cases x with
        | str w =>
          have ia : cmpD .In (.str w) (.tup [.str "skip", .str "abort", .str "magic"]) m = _ := in_strs w ["skip", "abort", "magic"]
          have ib : cmpD .In (.str w) (.tup [.str "set", .str "if", .str "do"]) m = _ := in_strs w ["set", "if", "do"]
          have ic : cmpD .In (.str w) (.tup [.str "assert", .str "assume"]) m = _ := in_strs w ["assert", "assume"]
          have id : cmpD .In (.str w) (.tup [.str "then", .str "any"]) m = _ := in_strs w ["then", "any"]
          have el : bltD .len [.tup (.str w :: r)] m = some (.int (r.length + 1)) := rfl
          have hf9 : fr.length ≤ 1000 := by omega
          have grd : ∀ a ∈ r, pg.call k "are_guarded" [enc fr, a] m = .ok (.bl (isG fr a)) m := fun a ha => by
            have o2 := sub a ha
            obtain ⟨k, rfl⟩ : ∃ j, k = j + 1 := ⟨k - 1, by omega⟩
            rw [r_are_guarded]
            refine guarded_ok hf9 a o2.fin (fun ds e => ?_) (fun ds x y e hm m => ?_) m
            · subst e
              have := o2.sz
              have := szL_len ds
              simp only [szD] at *
              omega
            · subst e
              have h1 := fineL_mem (by simpa [fine] using o2.fin) hm
              have h2 := depL_mem hm
              have h3 := o2.dep
              have h4 := szL_mem hm
              have h5 := o2.sz
              simp only [fine, fineL, Bool.and_eq_true] at h1
              simp only [Cs.dep, depL] at h2 h3
              simp only [szD, szL] at h4 h5
              exact ⟨iscond_ok hf9 hnm x h1.1 _ (by omega) m, ih y ⟨h1.2.1, by omega, by omega⟩ fr (by omega) hnm k (by omega) m⟩
          have nam : ∀ a ∈ r, pg.call k "is_names" [enc fr, a] m = .ok (.bl (isNs (nms fr) a)) m := fun a ha => by
            have o2 := sub a ha
            obtain ⟨k, rfl⟩ : ∃ j, k = j + 2 := ⟨k - 2, by omega⟩
            rw [k_is_names]
            refine isnames_ok hf9 a o2.fin (fun ds e => ?_) m
            subst e
            have := o2.sz
            have := szL_len ds
            simp only [szD] at *
            omega
          by_cases w1 : w ∈ allW
          · have hr : (∃ a b c d, r = [a, b, c, d]) ∨ (∃ a b c, r = [a, b, c]) ∨ (∃ a b, r = [a, b]) ∨ (∃ a, r = [a]) ∨ r = [] ∨ ∃ a b c d e q, r = a :: b :: c :: d :: e :: q := by
              match r with
              | [] => simp
              | [_] => simp
              | [_, _] => simp
              | [_, _, _] => simp
              | [_, _, _, _] => simp
              | _ :: _ :: _ :: _ :: _ :: _ => simp
            simp only [allW, List.mem_cons, List.not_mem_nil, or_false] at w1
            rcases w1 with rfl | rfl | rfl | rfl | rfl | rfl | rfl | rfl | rfl | rfl | rfl | rfl
            · rw [isK_skip]
              rcases hr with ⟨a, b, c, d, rfl⟩ | ⟨a, b, c, rfl⟩ | ⟨a, b, rfl⟩ | ⟨a, rfl⟩ | rfl | ⟨a, b, c, d, e, q, rfl⟩ <;> simp [q0, q1, ia]
              omega
            · rw [isK_abort]
              rcases hr with ⟨a, b, c, d, rfl⟩ | ⟨a, b, c, rfl⟩ | ⟨a, b, rfl⟩ | ⟨a, rfl⟩ | rfl | ⟨a, b, c, d, e, q, rfl⟩ <;> simp [q0, q1, ia]
              omega
            · rw [isK_magic]
              rcases hr with ⟨a, b, c, d, rfl⟩ | ⟨a, b, c, rfl⟩ | ⟨a, b, rfl⟩ | ⟨a, rfl⟩ | rfl | ⟨a, b, c, d, e, q, rfl⟩ <;> simp [q0, q1, ia]
              omega
            · rw [isK_set]
              rcases hr with ⟨a, b, c, d, rfl⟩ | ⟨a, b, c, rfl⟩ | ⟨a, b, rfl⟩ | ⟨a, rfl⟩ | rfl | ⟨a, b, c, d, e, q, rfl⟩
              · simp [q0, q1, ia, ib, ic, id]
              · simp [q0, q1, ia, ib, ic, id]
              · simp [q0, q1, ia, ib, ic, id]
              · have p1 := pairs_call hf9 hnm (sub a (by simp)) k (by omega) m
                simp [q0, q1, ia, ib, ic, id, p1]
              · simp [q0, q1, ia, ib, ic, id]
              · have : ∀ j : Int, j ≤ 5 → ¬ ((q.length : Int) + 1 + 1 + 1 + 1 + 1 + 1 = j) := fun j hj => by omega
                simp [q0, q1, ia, ib, ic, id, this]
            · rw [isK_if]
              rcases hr with ⟨a, b, c, d, rfl⟩ | ⟨a, b, c, rfl⟩ | ⟨a, b, rfl⟩ | ⟨a, rfl⟩ | rfl | ⟨a, b, c, d, e, q, rfl⟩
              · simp [q0, q1, ia, ib, ic, id]
              · simp [q0, q1, ia, ib, ic, id]
              · simp [q0, q1, ia, ib, ic, id]
              · have p1 := grd a (by simp)
                simp [q0, q1, ia, ib, ic, id, p1]
              · simp [q0, q1, ia, ib, ic, id]
              · have : ∀ j : Int, j ≤ 5 → ¬ ((q.length : Int) + 1 + 1 + 1 + 1 + 1 + 1 = j) := fun j hj => by omega
                simp [q0, q1, ia, ib, ic, id, this]
            · rw [isK_do]
              rcases hr with ⟨a, b, c, d, rfl⟩ | ⟨a, b, c, rfl⟩ | ⟨a, b, rfl⟩ | ⟨a, rfl⟩ | rfl | ⟨a, b, c, d, e, q, rfl⟩
              · simp [q0, q1, ia, ib, ic, id]
              · simp [q0, q1, ia, ib, ic, id]
              · simp [q0, q1, ia, ib, ic, id]
              · have p1 := grd a (by simp)
                simp [q0, q1, ia, ib, ic, id, p1]
              · simp [q0, q1, ia, ib, ic, id]
              · have : ∀ j : Int, j ≤ 5 → ¬ ((q.length : Int) + 1 + 1 + 1 + 1 + 1 + 1 = j) := fun j hj => by omega
                simp [q0, q1, ia, ib, ic, id, this]
            · rw [isK_assert]
              rcases hr with ⟨a, b, c, d, rfl⟩ | ⟨a, b, c, rfl⟩ | ⟨a, b, rfl⟩ | ⟨a, rfl⟩ | rfl | ⟨a, b, c, d, e, q, rfl⟩
              · simp [q0, q1, ia, ib, ic, id]
              · simp [q0, q1, ia, ib, ic, id]
              · simp [q0, q1, ia, ib, ic, id]
              · have p1 := iscond_ok hf9 hnm a (sub a (by simp)).fin k (by have := (sub a (by simp)).dep; omega) m
                simp [q0, q1, ia, ib, ic, id, p1]
              · simp [q0, q1, ia, ib, ic, id]
              · have : ∀ j : Int, j ≤ 5 → ¬ ((q.length : Int) + 1 + 1 + 1 + 1 + 1 + 1 = j) := fun j hj => by omega
                simp [q0, q1, ia, ib, ic, id, this]
            · rw [isK_assume]
              rcases hr with ⟨a, b, c, d, rfl⟩ | ⟨a, b, c, rfl⟩ | ⟨a, b, rfl⟩ | ⟨a, rfl⟩ | rfl | ⟨a, b, c, d, e, q, rfl⟩
              · simp [q0, q1, ia, ib, ic, id]
              · simp [q0, q1, ia, ib, ic, id]
              · simp [q0, q1, ia, ib, ic, id]
              · have p1 := iscond_ok hf9 hnm a (sub a (by simp)).fin k (by have := (sub a (by simp)).dep; omega) m
                simp [q0, q1, ia, ib, ic, id, p1]
              · simp [q0, q1, ia, ib, ic, id]
              · have : ∀ j : Int, j ≤ 5 → ¬ ((q.length : Int) + 1 + 1 + 1 + 1 + 1 + 1 = j) := fun j hj => by omega
                simp [q0, q1, ia, ib, ic, id, this]
            · rw [isK_then]
              rcases hr with ⟨a, b, c, d, rfl⟩ | ⟨a, b, c, rfl⟩ | ⟨a, b, rfl⟩ | ⟨a, rfl⟩ | rfl | ⟨a, b, c, d, e, q, rfl⟩
              · simp [q0, q1, ia, ib, ic, id]
              · simp [q0, q1, ia, ib, ic, id]
              · have p1 := ih a (sub a (by simp)) fr (by omega) hnm k (by omega) m
                have p2 := ih b (sub b (by simp)) fr (by omega) hnm k (by omega) m
                cases qa : isK fr a <;> rw [qa] at p1 <;> simp [q0, q1, ia, ib, ic, id, p1, p2, qa]
              · simp [q0, q1, ia, ib, ic, id]
              · simp [q0, q1, ia, ib, ic, id]
              · have : ∀ j : Int, j ≤ 5 → ¬ ((q.length : Int) + 1 + 1 + 1 + 1 + 1 + 1 = j) := fun j hj => by omega
                simp [q0, q1, ia, ib, ic, id, this]
            · rw [isK_any]
              rcases hr with ⟨a, b, c, d, rfl⟩ | ⟨a, b, c, rfl⟩ | ⟨a, b, rfl⟩ | ⟨a, rfl⟩ | rfl | ⟨a, b, c, d, e, q, rfl⟩
              · simp [q0, q1, ia, ib, ic, id]
              · simp [q0, q1, ia, ib, ic, id]
              · have p1 := ih a (sub a (by simp)) fr (by omega) hnm k (by omega) m
                have p2 := ih b (sub b (by simp)) fr (by omega) hnm k (by omega) m
                cases qa : isK fr a <;> rw [qa] at p1 <;> simp [q0, q1, ia, ib, ic, id, p1, p2, qa]
              · simp [q0, q1, ia, ib, ic, id]
              · simp [q0, q1, ia, ib, ic, id]
              · have : ∀ j : Int, j ≤ 5 → ¬ ((q.length : Int) + 1 + 1 + 1 + 1 + 1 + 1 = j) := fun j hj => by omega
                simp [q0, q1, ia, ib, ic, id, this]
            · rw [isK_spec]
              rcases hr with ⟨a, b, c, d, rfl⟩ | ⟨a, b, c, rfl⟩ | ⟨a, b, rfl⟩ | ⟨a, rfl⟩ | rfl | ⟨a, b, c, d, e, q, rfl⟩
              · simp [q0, q1, ia, ib, ic, id]
              · have p1 := nam a (by simp)
                have p2 := iscond_ok hf9 hnm b (sub b (by simp)).fin k (by have := (sub b (by simp)).dep; omega) m
                have p3 := ispost_ok hf9 hnm c (sub c (by simp)).fin k (by have := (sub c (by simp)).dep; omega) m
                cases qa : isNs (nms fr) a <;> cases qb : isC (nms fr) false b <;> rw [qa] at p1 <;> rw [qb] at p2 <;> simp [q0, q1, ia, ib, ic, id, p1, p2, p3, qa, qb]
              · simp [q0, q1, ia, ib, ic, id]
              · simp [q0, q1, ia, ib, ic, id]
              · simp [q0, q1, ia, ib, ic, id]
              · have : ∀ j : Int, j ≤ 5 → ¬ ((q.length : Int) + 1 + 1 + 1 + 1 + 1 + 1 = j) := fun j hj => by omega
                simp [q0, q1, ia, ib, ic, id, this]
            · rw [isK_var']
              have loc := local_ok hf9 hnm r sub hr k (by omega) (fun d od fr' hl hn k hk => ih d od fr' (by omega) hn k (by omega) m)
              simp [q0, q1, ia, ib, ic, id, loc]
          · rw [isK_other fr w r (fun z hz e => w1 (e ▸ hz))]
            have w2 := fun z (hz : z ∈ allW) => show (z == w) = false by rw [beq_eq_false_iff_ne]; rintro rfl; exact w1 hz
            simp only [allW, List.mem_cons, List.not_mem_nil, or_false, forall_eq_or_imp, forall_eq] at w2
            obtain ⟨v1, v2, v3, v4, v5, v6, v7, v8, v9, v10, v11, v12⟩ := w2
            have u11 : (w == ("spec" : Str)) = false := by rw [beq_eq_false_iff_ne] at v11 ⊢; exact fun e => v11 e.symm
            have u12 : (w == ("var" : Str)) = false := by rw [beq_eq_false_iff_ne] at v12 ⊢; exact fun e => v12 e.symm
            simp only [List.any_cons, List.any_nil, v1, v2, v3, v4, v5, v6, v7, v8, v9, v10, Bool.or_self] at ia ib ic id
            simp [q0, q1, ia, ib, ic, id, u11, u12]
        | _ => first | (simp [fine] at h; done) | simp [q0, q1, isK, isiS]
    | _ => first | (simp [fine] at h; done) | simp [eq_nil _ h m, isK, isi_fine .tuple h m]
end K10

/-! Frames at ways; parts picked. -/
namespace K10
open PySem Cs Com
def inFr (fr : List Row) : Cm → List Row
  | .var x lo hi _ => srtR (fr ++ [(x, lo, hi)])
  | _ => fr
def frAt : List Row → Cm → List Nat → Option (List Row)
  | fr, _, [] => some fr
  | fr, c, k :: w => match c.parts[k]? with
    | some p => frAt (inFr fr c) p w
    | none => none
def oFr : Option (List Row) → D
  | some f => enc f
  | none => .non
theorem inner_ok (fr : List Row) (hf : fr.length ≤ 1000) (c : Cm) (m : Mem) : c_inner_frame [enc fr, c.enc] m = .ok (enc (inFr fr c)) m := by
  unfold c_inner_frame
  rw [runF_ap (np := 2) _ rfl]
  unfold b_inner_frame
  cases c with
  | word w => cases w <;> simp [Cm.enc, W3.str, inFr]
  | set ps => simp [Cm.enc, inFr]
  | asr w c => cases w <;> simp [Cm.enc, wAsr, inFr]
  | seq w a b => cases w <;> simp [Cm.enc, wSeq, inFr]
  | if2 g a h b => simp [Cm.enc, inFr]
  | do1 g a => simp [Cm.enc, inFr]
  | spec ns p q => simp [Cm.enc, inFr]
  | var x lo hi a =>
    have := wn_call fr hf x lo hi m
    simp [Cm.enc, inFr, this]
theorem inFr_len (fr : List Row) (c : Cm) : (inFr fr c).length ≤ fr.length + 1 := by
  cases c <;> simp [inFr, srtR_len]
theorem frame_go (m m0 : Mem) (W : D) : ∀ (w : List Nat) (fr : List Row) (c : Cm) (x3 x4 : Option D), fr.length + w.length ≤ 1000 → ∃ f e, forGo (.name 3) (sSeq (sSet 4 (fApp c_parts_of (fCons (fVar 1) fNil))) (sSeq (sIf (fTr (fCmp .GtE (fVar 3) (fBlt .len (fCons (fVar 4) fNil)))) (sRet (fCon .non)) sNx) (sPar [0, 1] (fCons (fApp c_inner_frame (fCons (fVar 0) (fCons (fVar 1) fNil))) (fCons (fIx (fVar 4) (fVar 3)) fNil))))) [] m0 (w.map fun k : Nat => D.int k) [some (enc fr), some c.enc, some W, x3, x4] m = .ok f e m ∧
    match frAt fr c w with
    | some d => f = .nx ∧ ∃ y1 y3 y4, e = [some (enc d), y1, some W, y3, y4]
    | none => f = .rt .non
  | [], fr, c, x3, x4, _ => ⟨.nx, _, rfl, rfl, _, x3, x4, rfl⟩
  | k :: w, fr, c, x3, x4, hl => by
    simp only [List.length_cons] at hl
    have e1 := parts_ok c m
    have el : bltD .len [.tup (c.parts.map Cm.enc)] m = some (.int c.parts.length) := by
      show some (D.int ((c.parts.map Cm.enc).length : Nat)) = _
      rw [List.length_map]
    cases hp : c.parts[k]? with
    | none =>
      have hk : c.parts.length ≤ k := List.getElem?_eq_none_iff.mp hp
      have hk2 : (c.parts.length : Int) ≤ (k : Int) := by omega
      refine ⟨.rt .non, [some (enc fr), some c.enc, some W, some (.int k), some (.tup (c.parts.map Cm.enc))], ?_, ?_⟩
      · simp [forGo, e1, el, hk2]
      · simp [frAt, hp]
    | some p =>
      have hk : k < c.parts.length := (List.getElem?_eq_some_iff.mp hp).1
      have hk2 : ¬ (c.parts.length : Int) ≤ (k : Int) := by omega
      have ei : ixD (.tup (c.parts.map Cm.enc)) (.int (k : Int)) m = some p.enc := ix_tup (by omega) (by simp [hp])
      have e2 := inner_ok fr (by omega) c m
      have := inFr_len fr c
      obtain ⟨f, e, h1, h2⟩ := frame_go m m0 W w (inFr fr c) p (some (.int k)) (some (.tup (c.parts.map Cm.enc))) (by omega)
      refine ⟨f, e, ?_, ?_⟩
      · simp [forGo, e1, el, hk2, ei, e2, same_nil]
        simpa using h1
      · simp only [frAt, hp]
        exact h2
theorem frame_ok (fr : List Row) (c : Cm) (w : List Nat) (hl : fr.length + w.length ≤ 1000) (m : Mem) : c_frame_at [enc fr, c.enc, encW w] m = .ok (oFr (frAt fr c w)) m := by
  unfold c_frame_at
  rw [runF_ap (np := 3) _ rfl]
  unfold b_frame_at
  obtain ⟨f, e, h1, h2⟩ := frame_go m m (encW w) w fr c none none hl
  have hi : ∀ m, itOf m (encW w) = some (w.map fun k : Nat => D.int k, []) := fun m => rfl
  simp [hi, h1]
  cases ha : frAt fr c w with
  | none =>
    rw [ha] at h2
    subst h2
    rfl
  | some d =>
    rw [ha] at h2
    obtain ⟨rfl, y1, y3, y4, rfl⟩ := h2
    simp [oFr]
theorem frAt_none : ∀ (w : List Nat) (fr : List Row) (c : Cm), at_ c w = none → frAt fr c w = none
  | [], _, _, h => by cases h
  | k :: w, fr, c, h => by
    simp only [at_] at h
    simp only [frAt]
    cases hp : c.parts[k]? with
    | none => rfl
    | some q =>
      rw [hp] at h
      exact frAt_none w _ q h
/-- what fits, within -/
theorem within_fits (c : Cm) : ∀ fr : List Row, FrG fr → c.fits fr → ∀ t ∈ within c, FrG (fr ++ t.2.1) ∧ t.2.2.fits (fr ++ t.2.1) ∧ frAt fr c t.1 = some (fr ++ t.2.1) := by
  induction c with
  | seq w a b ia ib =>
    intro fr g h t ht
    simp only [within, List.mem_cons, List.mem_append, List.mem_map] at ht
    rcases ht with rfl | ⟨u, hu, rfl⟩ | ⟨u, hu, rfl⟩
    · simp only [List.append_nil]; exact ⟨g, h, rfl⟩
    · exact ia fr g h.1 u hu
    · exact ib fr g h.2 u hu
  | if2 c a d b ia ib =>
    intro fr g h t ht
    simp only [within, List.mem_cons, List.mem_append, List.mem_map] at ht
    rcases ht with rfl | ⟨u, hu, rfl⟩ | ⟨u, hu, rfl⟩
    · simp only [List.append_nil]; exact ⟨g, h, rfl⟩
    · exact ia fr g h.2.1 u hu
    · exact ib fr g h.2.2.2 u hu
  | do1 c a ia =>
    intro fr g h t ht
    simp only [within, List.mem_cons, List.mem_map] at ht
    rcases ht with rfl | ⟨u, hu, rfl⟩
    · simp only [List.append_nil]; exact ⟨g, h, rfl⟩
    · exact ia fr g h.2 u hu
  | var x lo hi a ia =>
    intro fr g h t ht
    simp only [within, List.mem_cons, List.mem_map] at ht
    rcases ht with rfl | ⟨u, hu, rfl⟩
    · simp only [List.append_nil]; exact ⟨g, h, rfl⟩
    · obtain ⟨h1, h2, h3, h4, h5, h6⟩ := h
      have g' := g.snoc (lo := lo) (hi := hi) h1 h2
      have := ia _ g' h6 u hu
      simp only [ahead, ← List.append_assoc]
      refine ⟨this.1, this.2.1, ?_⟩
      simp only [frAt, Cm.parts, List.getElem?_cons_zero, inFr, srtR_ord g'.ord]
      exact this.2.2
  | word w =>
    intro fr g h t ht
    simp only [within, List.mem_cons, List.not_mem_nil, or_false] at ht
    subst ht
    simp only [List.append_nil]; exact ⟨g, h, rfl⟩
  | set ps =>
    intro fr g h t ht
    simp only [within, List.mem_cons, List.not_mem_nil, or_false] at ht
    subst ht
    simp only [List.append_nil]; exact ⟨g, h, rfl⟩
  | asr w c =>
    intro fr g h t ht
    simp only [within, List.mem_cons, List.not_mem_nil, or_false] at ht
    subst ht
    simp only [List.append_nil]; exact ⟨g, h, rfl⟩
  | spec ns p q =>
    intro fr g h t ht
    simp only [within, List.mem_cons, List.not_mem_nil, or_false] at ht
    subst ht
    simp only [List.append_nil]; exact ⟨g, h, rfl⟩
theorem pick1_ahead (k j : Nat) (w : List Nat) (mo : List Row) (u : Tr) : pick1 (k :: w) (ahead j mo u) = (decide (j = k) && pick1 w u) := by
  simp only [pick1, ahead, List.length_cons, List.take_succ_cons, Nat.add_right_cancel_iff, List.cons.injEq]
  by_cases h1 : u.1.length = w.length + 1 <;> by_cases h2 : j = k <;> simp [h1, h2]
theorem wiL_pick (mo : List Row) (k : Nat) (w : List Nat) : ∀ (ps : List Cm) (n : Nat), n ≤ k → ((wiL mo n ps).filter (pick1 (k :: w))).map (·.2.2) = match ps[k - n]? with
    | some p => ((within p).filter (pick1 w)).map (·.2.2)
    | none => []
  | [], n, _ => rfl
  | p :: ps, n, h => by
    simp only [wiL, List.filter_append, List.map_append]
    by_cases e : n = k
    · subst e
      have h1 : ((within p).map (ahead n mo)).filter (pick1 (n :: w)) = ((within p).filter (pick1 w)).map (ahead n mo) := by
        rw [List.filter_map]
        congr 1
        refine List.filter_congr fun u _ => ?_
        simp [pick1_ahead]
      have h2 : (wiL mo (n + 1) ps).filter (pick1 (n :: w)) = [] := by
        rw [List.filter_eq_nil_iff]
        have key : ∀ (qs : List Cm) (j : Nat), n < j → ∀ v ∈ wiL mo j qs, ¬ pick1 (n :: w) v = true := by
          intro qs
          induction qs with
          | nil => intro j _ v hv; cases hv
          | cons q qs ih =>
            intro j hj v hv
            simp only [wiL, List.mem_append, List.mem_map] at hv
            rcases hv with ⟨z, _, rfl⟩ | hv
            · rw [pick1_ahead]
              have : ¬ j = n := by omega
              simp [this]
            · exact ih _ (by omega) v hv
        exact key ps (n + 1) (by omega)
      rw [h1, h2]
      simp [ahead]
    · have h1 : ((within p).map (ahead n mo)).filter (pick1 (k :: w)) = [] := by
        rw [List.filter_eq_nil_iff]
        intro v hv
        obtain ⟨z, _, rfl⟩ := List.mem_map.mp hv
        rw [pick1_ahead]
        simp [e]
      rw [h1, wiL_pick mo k w ps (n + 1) (by omega)]
      have : k - n = (k - (n + 1)) + 1 := by omega
      rw [this]
      simp
theorem inner_at : ∀ (w : List Nat) (c d : Cm), at_ c w = some d → ((within c).filter (pick1 w)).map (·.2.2) = d.parts
  | [], c, d, h => by cases h; exact inner_nil c
  | k :: w, c, d, h => by
    simp only [at_] at h
    rw [within_eq, List.filter_cons_of_neg (by simp [pick1]), wiL_pick _ _ _ _ _ (Nat.zero_le _), Nat.sub_zero]
    cases hp : c.parts[k]? with
    | none => rw [hp] at h; cases h
    | some p =>
      rw [hp] at h
      exact inner_at w p d h
end K10

/-! What is no command. -/
namespace K10
open PySem Cs Com
def wrongL : List D := [.non, .int 7, .str "skip", .lst [], .tup [], .lst [.str "skip"], .tup [.str "skip", .int 1], .tup [.str "skips"], .tup [.non], .tup [.str "abort", .tup []], .tup [.str "set"], .tup [.str "set", .tup []], .tup [.str "set", .lst [.tup [.str "x", .tup [.str "number", .int 1]]]], .tup [.str "set", .tup [.tup [.str "x"]]], .tup [.str "set", .tup [.tup [.str "q", .tup [.str "number", .int 1]]]], .tup [.str "set", .tup [.tup [.str "x", .tup [.str "old", .str "x"]]]], .tup [.str "set", .tup [.tup [.str "x", .tup [.str "number", .int 1]], .tup [.str "x", .tup [.str "number", .int 2]]]], .tup [.str "set", .tup [.tup [.str "x", .tup [.str "number", .int 1000]]]], .tup [.str "set", .tup [.str "x", .tup [.str "number", .int 1]]], .tup [.str "then", .tup [.str "skip"]], .tup [.str "then", .tup [.str "skip"], .tup [.str "skip"], .tup [.str "skip"]], .tup [.str "then", .tup [.str "skip"], .non], .tup [.str "any", .non, .tup [.str "skip"]], .tup [.str "if", .tup []], .tup [.str "if", .tup [.tup [.tup [.str "truth", .bl true]]]], .tup [.str "if", .tup [.tup [.tup [.str "skip"], .tup [.str "truth", .bl true]]]], .tup [.str "if", .lst [.tup [.tup [.str "truth", .bl true], .tup [.str "skip"]]]], .tup [.str "do", .tup [.tup [.tup [.str "truth", .bl true], .non]]], .tup [.str "do", .tup [.tup [.non, .tup [.str "skip"]]]], .tup [.str "assert", .tup [.str "same", .tup [.str "old", .str "x"], .tup [.str "number", .int 1]]], .tup [.str "assert"], .tup [.str "assume", .non], .tup [.str "spec", .tup [.str "x"], .tup [.str "truth", .bl true]], .tup [.str "spec", .lst [.str "x"], .tup [.str "truth", .bl true], .tup [.str "truth", .bl true]], .tup [.str "spec", .tup [.str "q"], .tup [.str "truth", .bl true], .tup [.str "truth", .bl true]], .tup [.str "spec", .tup [.str "x", .str "x"], .tup [.str "truth", .bl true], .tup [.str "truth", .bl true]], .tup [.str "spec", .tup [.str "x"], .tup [.str "same", .tup [.str "old", .str "x"], .tup [.str "old", .str "x"]], .tup [.str "truth", .bl true]], .tup [.str "spec", .tup [.str "x"], .tup [.str "truth", .bl true], .non], .tup [.str "spec", .str "x", .tup [.str "truth", .bl true], .tup [.str "truth", .bl true]], .tup [.str "var", .str "x", .int 0, .int 1, .tup [.str "skip"]], .tup [.str "var", .str "Q", .int 0, .int 1, .tup [.str "skip"]], .tup [.str "var", .str "q", .int 1, .int 0, .tup [.str "skip"]], .tup [.str "var", .str "q", .int 0, .int 100, .tup [.str "skip"]], .tup [.str "var", .str "q", .int 0, .tup [.str "skip"]], .tup [.str "var", .str "q", .int 0, .int 1, .non], .tup [.str "var", .str "q", .bl true, .int 1, .tup [.str "skip"]], .tup [.str "then", .tup [.str "var", .str "q", .int 0, .int 1, .tup [.str "skip"]], .tup [.str "set", .tup [.tup [.str "q", .tup [.str "number", .int 1]]]]], .tup [.str "var", .str "q", .int 0, .int 1, .tup [.str "var", .str "q", .int 0, .int 1, .tup [.str "skip"]]]]
set_option maxHeartbeats 4000000 in
theorem wrong_ok (fr : List Row) (a b : Int) (h : fr.head? = some (("x" : Str), a, b)) (m : Mem) : c__law_wrong [enc fr] m = .ok (.lst wrongL) m := by
  obtain ⟨r, rfl⟩ : ∃ r, fr = (("x" : Str), a, b) :: r := by
    cases fr with
    | nil => cases h
    | cons x r => cases h; exact ⟨r, rfl⟩
  unfold c__law_wrong
  rw [runF_ap (np := 1) _ rfl]
  unfold b__law_wrong
  have ad : ∀ xs ys : List D, xs.length + ys.length ≤ 1000 → binD .Add (.lst xs) (.lst ys) m = some (.lst (xs ++ ys)) := fun xs ys h => add_lst (sl_of (by omega))
  simp [enc, encR, ad, wrongL]
theorem wrong_fine : ∀ d ∈ wrongL, fine d = true ∧ dep d ≤ 8 ∧ szD d ≤ 100 := by decide +kernel
set_option maxHeartbeats 8000000 in
theorem wrong_isK (fr : List Row) (h : nms fr = [("x" : Str)] ∨ nms fr = [("x" : Str), ("y" : Str)]) : ∀ d ∈ wrongL, isK fr d = false := by
  have hq : ∀ r : Row, (nms (srtR (fr ++ [r]))).any (· == ("q" : Str)) = ((nms fr).any (· == ("q" : Str)) || r.1 == "q") := fun r => by
    rw [srtR_any]
    simp [nms]
  have n1 : nmS "x" = true := by decide +kernel
  have n2 : nmS "q" = true := by decide +kernel
  have n3 : nmS "Q" = false := by decide +kernel
  have a1 : (nms fr).any (· == ("x" : Str)) = true := by rcases h with h | h <;> rw [h] <;> decide +kernel
  have a2 : (nms fr).any (· == ("q" : Str)) = false := by rcases h with h | h <;> rw [h] <;> decide +kernel
  have a3 : ∀ r : Row, (nms (srtR (fr ++ [(("q" : Str), r.2)]))).any (· == ("q" : Str)) = true := fun r => by rw [hq, a2]; simp
  have l1 : ltS "x" "x" = false := by decide +kernel
  simp only [wrongL, List.forall_mem_cons]
  repeat' apply And.intro
  all_goals try simp only [isK, isPr, prsD, isE, isG, isGs, isC, isNs, strsD, isRg, isTr, inS, n999, n1, n2, n3, a1, a2, l1, ascS]
  all_goals try simp only [List.all_cons, List.all_nil, Option.map_some, Option.map_none, n1, n2, n3, a1, a2, l1, ascS, isE, inS, n999, isRg]
  all_goals try decide
  all_goals try simp
  all_goals exact any_mem.mp (a3 (("q" : Str), 0, 1))
def goodL : List D := [.tup [.str "spec", .tup [], .tup [.str "truth", .bl false], .tup [.str "same", .tup [.str "old", .str "x"], .tup [.str "number", .int 1]]], .tup [.str "var", .str "q", .int (-1), .int (-1), .tup [.str "set", .tup [.tup [.str "q", .tup [.str "name", .str "q"]]]]]]
theorem good_fine : ∀ d ∈ goodL, fine d = true ∧ dep d ≤ 8 ∧ szD d ≤ 100 := by decide +kernel
theorem good_isK (fr : List Row) (h : nms fr = [("x" : Str)] ∨ nms fr = [("x" : Str), ("y" : Str)]) : ∀ d ∈ goodL, isK fr d = true := by
  have hq : ∀ r : Row, (nms (srtR (fr ++ [r]))).any (· == ("q" : Str)) = ((nms fr).any (· == ("q" : Str)) || r.1 == "q") := fun r => by
    rw [srtR_any]
    simp [nms]
  have n1 : nmS "x" = true := by decide +kernel
  have n2 : nmS "q" = true := by decide +kernel
  have a1 : (nms fr).any (· == ("x" : Str)) = true := by rcases h with h | h <;> rw [h] <;> decide +kernel
  have a2 : (nms fr).any (· == ("q" : Str)) = false := by rcases h with h | h <;> rw [h] <;> decide +kernel
  have a3 : ∀ r : Row, (nms (srtR (fr ++ [(("q" : Str), r.2)]))).any (· == ("q" : Str)) = true := fun r => by rw [hq, a2]; simp
  have a4 := a3 (("q" : Str), -1, -1)
  simp only at a4
  simp only [goodL, List.forall_mem_cons]
  refine ⟨?_, ?_, fun _ h => nomatch h⟩
  · simp [isK, isNs, strsD, isC, isE, isTr, inS, n999, ascS]
    exact any_mem.mp a1
  · simp only [isK, isRg, n2, a2]
    simp [isPr, prsD, isE, inS, n2, ascS, any_mem.mp a4]
/-- is_way -/
def isN0 : D → Bool
  | .int i => decide (0 ≤ i)
  | _ => false
def isW : D → Bool
  | .tup ds => ds.all isN0
  | _ => false
theorem isnum_ok (d : D) (h : flat0 d = true) (m : Mem) : c_is_number [d] m = .ok (.bl (isN0 d)) m := by
  unfold c_is_number
  rw [runF_ap (np := 1) _ rfl]
  unfold b_is_number
  have h1 := isint_ok d h m
  cases d <;> simp only [isI] at h1 <;> simp [h1, isN0]
theorem isway_ok (d : D) (h : fine d = true) (hl : ∀ ds, d = .tup ds → ds.length ≤ 10000) (m : Mem) : c_is_way [d] m = .ok (.bl (isW d)) m := by
  unfold c_is_way
  rw [runF_ap (np := 1) _ rfl]
  unfold b_is_way
  cases d with
  | tup ds =>
    have hz := hl ds rfl
    have hi : iVar 0 [some (.tup ds), none] m = .ok (ds, []) m := iVar_tup (by simp)
    have c1 := lc_one (g := fun d => .bl (isN0 d)) (j := 1) (fe := (fApp c_is_number (fCons (fVar 1) fNil))) hi (sl_of (by omega)) fun d hd => by
      have hfd := fineL_mem (by simpa [fine] using h) hd
      have := isnum_ok d (fine_flat0 hfd) m
      simp [wipe, this]
    simp [c1, all_mapD, isW]
  | _ => first | (simp [fine] at h; done) | simp [isW, isi_fine .tuple h m]
end K10

/-! Each row of the law's walk. -/
namespace K10
open PySem Cs Com
theorem at_sz : ∀ (w : List Nat) (c d : Cm), at_ c w = some d → dep d.enc ≤ dep c.enc ∧ szD d.enc ≤ szD c.enc
  | [], c, d, h => by cases h; exact ⟨Nat.le_refl _, Nat.le_refl _⟩
  | k :: w, c, d, h => by
    simp only [at_] at h
    cases hp : c.parts[k]? with
    | none => rw [hp] at h; cases h
    | some p =>
      rw [hp] at h
      have h1 := at_sz w p d h
      have h2 := Cm.parts_sz (List.mem_of_getElem? hp)
      omega
theorem eqL_ints : ∀ a b : List Nat, eqL (a.map fun k : Nat => D.int k) (b.map fun k : Nat => D.int k) = decide (a = b)
  | [], [] => by simp [eqL]
  | [], _ :: _ => by simp [eqL]
  | _ :: _, [] => by simp [eqL]
  | a :: x, b :: y => by
    simp only [List.map_cons, eqL, eqD, eqL_ints x y, List.cons.injEq, Bool.decide_and]
    congr 1
    by_cases h : a = b
    · simp [h]
    · have : ¬ (a : Int) = (b : Int) := by omega
      simp [h, this]
theorem cmp_W (a b : List Nat) (m : Mem) : cmpD .Eq (encW a) (encW b) m = some (decide (a = b)) := by
  rw [cmp_eqD (plain_encW a) (plain_encW b) (by
    have : ∀ a : List Nat, dep (encW a) ≤ 1 := fun a => by
      unfold encW
      simp only [dep]
      have := depL_of (n := 0) (ds := a.map fun k : Nat => D.int k) fun d hd => by obtain ⟨_, _, rfl⟩ := List.mem_map.mp hd; simp [dep]
      omega
    have := this a
    omega)]
  unfold encW
  simp only [eqD, eqL_ints]
theorem cut_last (a : List Nat) (m : Mem) : slD (encW a) none (some (-1)) m = some (encW a.dropLast) := by
  unfold encW
  simp only [slD, res_tupS, cutD, HT.sIx_none]
  congr 2
  rw [List.drop_zero, Nat.sub_zero, List.map_dropLast, List.dropLast_eq_take]
  congr 1
  simp only [HT.sIx]
  rw [List.length_map, if_pos (by decide)]
  omega
theorem plain_of {c : Cm} {fr : List Row} (g : FrG fr) (h : c.fits fr) : Cs.plain c.enc = true := fine_plain _ (Cm.fine_enc c fr g h)
theorem same_enc (fr : List Row) (hl : fr.length ≤ 1000) (m : Mem) : c__law_same [enc fr, enc fr] m = .ok (.bl true) m :=
  same_ok _ (plain_enc fr) (by
    have : depL (fr.map encR) ≤ 1 := depL_of fun d hd => by
      obtain ⟨r, _, rfl⟩ := List.mem_map.mp hd
      simp [encR, dep, depL]
    simp only [enc, dep]
    omega) (by
    have := szL_le (n := 4) (l := fr.map encR) fun d hd => by
      obtain ⟨r, _, rfl⟩ := List.mem_map.mp hd
      simp [encR, szD, szL]
    rw [List.length_map] at this
    simp only [enc, szD]
    omega) m
/-- the state of a turn -/
def St (S : D) (a2 : Option D) (fr : List Row) (c : Cm) (e : Sto) : Prop := ∃ a6 a7 a8 a9 a10 a11 a12 a13 a14 a15 a16 : Option D, e = [some S, some (.ref 0), a2, some (enc fr), some c.enc, some (.lst ((within c).map encT)), a6, a7, a8, a9, a10, a11, a12, a13, a14, a15, a16]
theorem dp_at {c : Cm} {t : Tr} (h : t ∈ within c) : t.1.length ≤ c.dp := (within_more c t h).1
set_option maxHeartbeats 4000000 in
theorem L1_ok {S : D} {a2 : Option D} {fr : List Row} (hs : FrS fr) {c : Cm} (hc : c.fits fr) (hd : c.dp ≤ 10) (hp : dep c.enc ≤ 50) (hz : szD c.enc ≤ 10000) {t : Tr} (ht : t ∈ within c) {e : Sto} (he : St S a2 fr c e) {m : Mem} :
    okS (b_law_L1 c__law_same c_frame_at c_part_at c_with_parts c_parts_of c_inner_frame (pg.call 59 "_law_tried") (((e.set 8 (some (encW t.1))).set 9 (some (.tup (t.2.1.map encR)))).set 10 (some t.2.2.enc)) m) fun f e' m' => f = .nx ∧ St S a2 fr c e' ∧ m' = m := by
  obtain ⟨a6, a7, a8, a9, a10, a11, a12, a13, a14, a15, a16, rfl⟩ := he
  obtain ⟨w, mo, own⟩ := t
  obtain ⟨g1, g2, g3⟩ := within_fits c fr hs.g hc _ ht
  have w1 := within_at c _ ht
  have w2 := dp_at ht
  have w3 := (within_more c _ ht).2
  have w4 := inner_at w c own w1
  have w5 := within_len c
  have w6 := ways_len c
  have w7 : 2 ^ (c.dp + 1) ≤ 2 ^ 11 := Nat.pow_le_pow_right (by omega) (by omega)
  have w8 : (2 : Nat) ^ 11 = 2048 := rfl
  simp only at g1 g2 g3 w1 w2 w3
  obtain ⟨z1, z2⟩ := at_sz w c own w1
  have hl := hs.len
  have pl := plain_of g1 g2
  have hfm : (fr ++ mo).length ≤ 100 := by rw [List.length_append]; omega
  unfold b_law_L1
  simp only [List.set_cons_succ, List.set_cons_zero]
  have e1 := part_ok c w m
  rw [w1] at e1
  have e2 := frame_ok fr c w (by omega) m
  rw [g3] at e2
  simp only [oEnc, oFr] at e1 e2
  have s1 := same_ok own.enc pl (by omega) (by omega) m
  have s2 := same_enc (fr ++ mo) (by omega) m
  have ad : binD .Add (enc fr) (.tup (mo.map encR)) m = some (.tup ((fr ++ mo).map encR)) := by
    unfold enc
    rw [add_tup (sl_of (by simp only [List.length_map]; omega)), List.map_append]
  have so := sorted_rows (fr ++ mo) m
  rw [srtR_ord g1.ord] at so
  have so : bltD .sorted [enc (fr ++ mo)] m = some (.lst ((fr ++ mo).map encR)) := so
  have sen : (D.tup ((fr ++ mo).map encR)) = enc (fr ++ mo) := rfl
  refine okS.sq (e' := [some S, some (.ref 0), a2, some (enc fr), some c.enc, some (.lst ((within c).map encT)), a6, a7, some (encW w), some (.tup (mo.map encR)), some own.enc, a11, a12, a13, a14, a15, a16]) (m' := m) (by simp [-List.map_append, e1, e2, s1, ad, so, sen, s2]) ?_
  have lc : ∀ m, lcGo (.tup [.name 12, .name 13, .name 14]) (tAnd (fTr (fCmp .Eq (fBlt .len (fCons (fVar 12) fNil)) (fBin .Add (fBlt .len (fCons (fVar 8) fNil)) (fCon (.int 1))))) (fTr (fCmp .Eq (fSl (fVar 12) none (some (fNeg (fCon (.int 1))))) (fVar 8)))) (fVar 14) (wipe [some S, some (.ref 0), a2, some (enc fr), some c.enc, some (.lst ((within c).map encT)), a6, a7, some (encW w), some (.tup (mo.map encR)), some own.enc, a11, a12, a13, a14, a15, a16] [12, 13, 14]) [] m ((within c).map encT) m = .ok (own.parts.map Cm.enc) m := fun m => by
    refine (lcT_pure (p := pick1 w) (g := fun t => t.2.2.enc) (within c) fun u hu => ?_).trans ?_
    · refine ⟨_, rfl, ?_, fun _ => by simp [wipe, encT]⟩
      have c1 := cmp_W u.1.dropLast w m
      have c2 := cut_last u.1 m
      have l1 : ∀ v : List Nat, bltD .len [encW v] m = some (.int v.length) := fun v => by
        show some (D.int ((v.map fun k : Nat => D.int k).length : Nat)) = _
        rw [List.length_map]
      by_cases q : u.1.length = w.length + 1
      · have h2 : u.1.dropLast = u.1.take w.length := by rw [List.dropLast_eq_take]; congr 1; omega
        rw [h2] at c1 c2
        simp [wipe, encT, l1, c1, c2, pick1, q]
      · have h1 : ¬ (u.1.length : Int) = (w.length : Int) + 1 := by omega
        simp [wipe, encT, l1, h1, pick1, q]
    · rw [← w4, List.map_map]
      rfl
  have pl2 := own.parts_len
  have e3 : fLc [12, 13, 14] (.tup [.name 12, .name 13, .name 14]) (iVar 5) (tAnd (fTr (fCmp .Eq (fBlt .len (fCons (fVar 12) fNil)) (fBin .Add (fBlt .len (fCons (fVar 8) fNil)) (fCon (.int 1))))) (fTr (fCmp .Eq (fSl (fVar 12) none (some (fNeg (fCon (.int 1))))) (fVar 8)))) (fVar 14) [some S, some (.ref 0), a2, some (enc fr), some c.enc, some (.lst ((within c).map encT)), a6, a7, some (encW w), some (.tup (mo.map encR)), some own.enc, a11, a12, a13, a14, a15, a16] m = .ok (.lst (own.parts.map Cm.enc)) m :=
    fLc_ap (p := ((within c).map encT, [])) (iVar_lst rfl) (lc m) (sl_of (by rw [List.length_map]; omega))
  refine okS.sq (e' := [some S, some (.ref 0), a2, some (enc fr), some c.enc, some (.lst ((within c).map encT)), a6, a7, some (encW w), some (.tup (mo.map encR)), some own.enc, some (.lst (own.parts.map Cm.enc)), a12, a13, a14, a15, a16]) (m' := m) (by rw [sSet_ap, e3]; rfl) ?_
  have e4 := parts_ok own m
  have e5 := with_ok own own.parts rfl m
  rw [Cm.with_parts] at e5
  have pp : Cs.plain (.tup (own.parts.map Cm.enc)) = true ∧ dep (.tup (own.parts.map Cm.enc)) ≤ 60 ∧ szD (.tup (own.parts.map Cm.enc)) ≤ 30000 := by
    refine ⟨?_, ?_, ?_⟩
    · simp only [Cs.plain]
      refine plainL_of fun d hd => ?_
      obtain ⟨p, hp, rfl⟩ := List.mem_map.mp hd
      exact p.plain_enc
    · have := depL_of (n := 50) (ds := own.parts.map Cm.enc) fun d hd => by
        obtain ⟨p, hp, rfl⟩ := List.mem_map.mp hd
        have := Cm.parts_sz hp
        omega
      simp only [dep]
      omega
    · have := szL_le (n := 10000) (l := own.parts.map Cm.enc) fun d hd => by
        obtain ⟨p, hp, rfl⟩ := List.mem_map.mp hd
        have := Cm.parts_sz hp
        omega
      rw [List.length_map] at this
      simp only [szD]
      omega
  have s3 := same_ok _ pp.1 (by omega) (by omega) m
  refine okS.sq (e' := [some S, some (.ref 0), a2, some (enc fr), some c.enc, some (.lst ((within c).map encT)), a6, a7, some (encW w), some (.tup (mo.map encR)), some own.enc, some (.lst (own.parts.map Cm.enc)), a12, a13, a14, a15, a16]) (m' := m) (by simp [e4, e5, s1, s3]) ?_
  have e6 : (fIf (fTr (fCmp .Eq (fIx (fVar 10) (fCon (.int 0))) (fCon (.str "var")))) (fBlt .tuple (fCons (fBlt .sorted (fCons (fBin .Add (fBin .Add (fVar 3) (fVar 9)) (fTup (fCons (fSl (fVar 10) (some (fCon (.int 1))) (some (fCon (.int 4)))) fNil))) fNil)) fNil)) (fBin .Add (fVar 3) (fVar 9))) [some S, some (.ref 0), a2, some (enc fr), some c.enc, some (.lst ((within c).map encT)), a6, a7, some (encW w), some (.tup (mo.map encR)), some own.enc, some (.lst (own.parts.map Cm.enc)), a12, a13, a14, a15, a16] m = .ok (enc (inFr (fr ++ mo) own)) m := by
    have ad2 : binD .Add (enc fr) (.tup (mo.map encR)) m = some (enc (fr ++ mo)) := ad
    cases own with
    | word w => cases w <;> simp [Cm.enc, W3.str, inFr, ad2]
    | set ps => simp [Cm.enc, inFr, ad2]
    | asr w c => cases w <;> simp [Cm.enc, wAsr, inFr, ad2]
    | seq w a b => cases w <;> simp [Cm.enc, wSeq, inFr, ad2]
    | if2 g a h b => simp [Cm.enc, inFr, ad2]
    | do1 g a => simp [Cm.enc, inFr, ad2]
    | spec ns p q => simp [Cm.enc, inFr, ad2]
    | var x lo hi a =>
      have ad3 : binD .Add (enc (fr ++ mo)) (.tup [.tup [.str x, .int lo, .int hi]]) m = some (.tup ((fr ++ mo ++ [(x, lo, hi)]).map encR)) := by
        unfold enc
        rw [add_tup (sl_of (by simp only [List.length_map, List.length_cons, List.length_nil]; omega)), List.map_append (l₂ := [(x, lo, hi)])]
        rfl
      have so2 := sorted_rows (fr ++ mo ++ [(x, lo, hi)]) m
      have c1 : slD (.tup [.str "var", .str x, .int lo, .int hi, a.enc]) (some 1) (some 4) m = some (.tup [.str x, .int lo, .int hi]) := by simp [slD, cutD, HT.sIx]
      simp [-List.map_append, -List.append_assoc, Cm.enc, inFr, ad2, ad3, so2, c1]
      rfl
  refine okS.sq (e' := [some S, some (.ref 0), a2, some (enc fr), some c.enc, some (.lst ((within c).map encT)), a6, a7, some (encW w), some (.tup (mo.map encR)), some own.enc, some (.lst (own.parts.map Cm.enc)), a12, a13, a14, some (enc (inFr (fr ++ mo) own)), a16]) (m' := m) (by rw [sSet_ap, e6]; rfl) ?_
  have e7 := inner_ok (fr ++ mo) (by omega) own m
  have il := inFr_len (fr ++ mo) own
  have s4 := same_enc (inFr (fr ++ mo) own) (by omega) m
  have ad2 : binD .Add (enc fr) (.tup (mo.map encR)) m = some (enc (fr ++ mo)) := ad
  refine okS.sq (e' := [some S, some (.ref 0), a2, some (enc fr), some c.enc, some (.lst ((within c).map encT)), a6, a7, some (encW w), some (.tup (mo.map encR)), some own.enc, some (.lst (own.parts.map Cm.enc)), a12, a13, a14, some (enc (inFr (fr ++ mo) own)), a16]) (m' := m) (by simp [ad2, e7, s4]) ?_
  have ad4 : binD .Add (encW w) (.tup [.int (own.parts.length : Int)]) m = some (encW (w ++ [own.parts.length])) := by
    unfold encW
    rw [add_tup (sl_of (by simp only [List.length_map, List.length_cons, List.length_nil]; omega)), List.map_append]
    rfl
  have l2 : bltD .len [.lst (own.parts.map Cm.enc)] m = some (.int own.parts.length) := by
    show some (D.int ((own.parts.map Cm.enc).length : Nat)) = _
    rw [List.length_map]
  refine okS.sq (e' := [some S, some (.ref 0), a2, some (enc fr), some c.enc, some (.lst ((within c).map encT)), a6, a7, some (encW w), some (.tup (mo.map encR)), some own.enc, some (.lst (own.parts.map Cm.enc)), a12, a13, a14, some (enc (inFr (fr ++ mo) own)), some (encW (w ++ [own.parts.length]))]) (m' := m) (by simp [l2, ad4]) ?_
  have no : at_ c (w ++ [own.parts.length]) = none := by
    rw [at_app w _ c own w1]
    simp [at_]
  have e8 := part_ok c (w ++ [own.parts.length]) m
  have e9 := frame_ok fr c (w ++ [own.parts.length]) (by rw [List.length_append]; simp only [List.length_cons, List.length_nil]; omega) m
  rw [no] at e8
  rw [frAt_none _ _ _ no] at e9
  have e10 := tried_ok c (.word .skip) (w ++ [own.parts.length]) 59 (by rw [List.length_append]; simp only [List.length_cons, List.length_nil]; omega) m
  rw [put_no _ _ _ no] at e10
  simp only [oEnc, oFr, oTry, Cm.enc, W3.str] at e8 e9 e10
  simp [e8, e9, e10]
  exact okS.mk ⟨rfl, ⟨_, _, _, _, _, _, _, _, _, _, _, rfl⟩, rfl⟩
end K10

/-! A turn of the law. -/
namespace K10
open PySem Cs Com
theorem drK : Drk (fun k => pg.call k "_law_next") (fun k => pg.call k "_law_pick") (fun k => pg.call k "_law_expr") (fun k => pg.call k "_law_cond") (fun k => pg.call k "_law_some") (fun k => pg.call k "_law_pairs") (fun k => pg.call k "_law_spec") (fun k => pg.call k "_law_count") (fun k => pg.call k "_law_command") where
  hn := k__law_next
  hp := k__law_pick
  hx := r__law_expr
  hc := r__law_cond
  hs := k__law_some
  hpr := r__law_pairs
  hsp := r__law_spec
  hco := k__law_count
  hcm := r__law_command
theorem put_sz (p : Cm) : ∀ (w : List Nat) (c d : Cm), put c w p = some d → dep d.enc ≤ dep c.enc + dep p.enc ∧ szD d.enc ≤ szD c.enc + szD p.enc
  | [], c, d, h => by cases h; omega
  | k :: w, c, d, h => by
    simp only [put] at h
    cases hp : c.parts[k]? with
    | none => rw [hp] at h; cases h
    | some q =>
      rw [hp] at h
      obtain ⟨q', hq, rfl⟩ := Option.map_eq_some_iff.mp h
      have ih := put_sz p w q q' hq
      cases c with
      | seq v a b =>
        match k with
        | 0 => cases hp; simp only [Cm.parts, List.set_cons_zero, Cm.with, Cm.enc, dep, depL, szD, szL]; omega
        | 1 => cases hp; simp only [Cm.parts, List.set_cons_succ, List.set_cons_zero, Cm.with, Cm.enc, dep, depL, szD, szL]; omega
        | k + 2 => simp [Cm.parts] at hp
      | if2 g a h b =>
        match k with
        | 0 => cases hp; simp only [Cm.parts, List.set_cons_zero, Cm.with, Cm.enc, dep, depL, szD, szL]; omega
        | 1 => cases hp; simp only [Cm.parts, List.set_cons_succ, List.set_cons_zero, Cm.with, Cm.enc, dep, depL, szD, szL]; omega
        | k + 2 => simp [Cm.parts] at hp
      | do1 g a =>
        match k with
        | 0 => cases hp; simp only [Cm.parts, List.set_cons_zero, Cm.with, Cm.enc, dep, depL, szD, szL]; omega
        | k + 1 => simp [Cm.parts] at hp
      | var x lo hi a =>
        match k with
        | 0 => cases hp; simp only [Cm.parts, List.set_cons_zero, Cm.with, Cm.enc, dep, depL, szD, szL]; omega
        | k + 1 => simp [Cm.parts] at hp
      | _ => simp [Cm.parts] at hp
/-- none is picked -/
theorem no_pick {fi : FI} {ft : FB} {fe : FE} {ds : List D} {e : Sto} {m : Mem} {j : Nat} (hi : fi e m = .ok (ds, []) m) (hz : ds.length ≤ sizeLine) (h : ∀ d ∈ ds, ft ((wipe e [j]).set j (some d)) m = .ok false m) :
    fLc [j] (.name j) fi ft fe e m = .ok (.lst []) m := by
  have := lc_pick (p := fun _ => false) (g := fun d => d) (fe := fe) hi hz fun d hd => ⟨h d hd, fun q => by cases q⟩
  rw [List.filter_eq_nil_iff.mpr (by simp)] at this
  exact this
theorem nil_ne (m : Mem) : cmpD .NotEq (.lst []) (.lst []) m = some false := rfl
theorem says (b c : Bool) (m : Mem) : c__law_says [.bl b, .bl c] m = .ok (.bl (b == c)) m := says_ok b c m
set_option maxHeartbeats 4000000 in
theorem tail_ok {S : D} {a2 : Option D} {fr : List Row} (hs : FrS fr) {c : Cm} (hc : c.fits fr) (hd : c.dp ≤ 10) (hp : dep c.enc ≤ 50) (hz : szD c.enc ≤ 10000) {e : Sto} (he : St S a2 fr c e) (ds : List Int) (k : Int) (hk : 0 ≤ k) (r : Mem) {Q : Fl → Sto → Mem → Prop} (hq : ∀ e, St S a2 fr c e → ∀ k, 0 ≤ k → Q .nx e (wc ds k :: r)) :
    okS ((sSeq (sAsg (.tup [.name 8, .name 9, .name 10]) (fApp c__law_pick (fCons (fVar 1) (fCons (fVar 5) fNil)))) (sSeq (sSet 14 (fApp c__law_pick (fCons (fVar 1) (fCons (fLst (fCons (fTup (fCons (fCon (.str "skip")) fNil)) (fCons (fTup (fCons (fCon (.str "magic")) fNil)) (fCons (fTup (fCons (fCon (.str "assert")) (fCons (fTup (fCons (fCon (.str "truth")) (fCons (fCon (.bl true)) fNil))) fNil))) fNil)))) fNil)))) (sSeq (sIf (tOr (tNot (fTr (fApp c__law_same (fCons (fApp (pg.call 59 "_law_tried") (fCons (fVar 4) (fCons (fVar 8) (fCons (fVar 14) fNil)))) (fCons (fApp (pg.call 59 "_law_put") (fCons (fVar 4) (fCons (fVar 8) (fCons (fVar 14) fNil)))) fNil))))) (fTr (fCmp .NotEq (fApp (pg.call 59 "_law_tried") (fCons (fVar 4) (fCons (fBin .Add (fTup (fCons (fCon (.int 9)) fNil)) (fVar 8)) (fCons (fVar 14) fNil)))) (fCon (.str "way"))))) (sRet (fCon (.bl false))) sNx) (sSeq (sIf (fTr (fCmp .NotEq (fLc [6] (.name 6) (iVal (fTup (fCons (fTup fNil) (fCons (fTup (fCons (fCon (.int 0)) fNil)) (fCons (fTup (fCons (fCon (.int 0)) (fCons (fCon (.int 5)) (fCons (fCon (.int 1)) fNil)))) fNil))))) (tNot (fTr (fApp c__law_says (fCons (fApp c_is_way (fCons (fVar 6) fNil)) (fCons (fCon (.bl true)) fNil))))) (fVar 6)) (fLst fNil))) (sRet (fCon (.bl false))) sNx) (sIf (fTr (fCmp .NotEq (fLc [6] (.name 6) (iVal (fTup (fCons (fCon .non) (fCons (fCon (.int 3)) (fCons (fLst (fCons (fCon (.int 0)) fNil)) (fCons (fCon (.str "0")) (fCons (fTup (fCons (fNeg (fCon (.int 1))) fNil)) (fCons (fTup (fCons (fCon (.bl true)) fNil)) (fCons (fTup (fCons (fCon (.str "0")) fNil)) (fCons (fTup (fCons (fCon (.int 0)) (fCons (fCon .non) fNil))) fNil)))))))))) (tNot (fTr (fApp c__law_says (fCons (fApp c_is_way (fCons (fVar 6) fNil)) (fCons (fCon (.bl false)) fNil))))) (fVar 6)) (fLst fNil))) (sRet (fCon (.bl false))) sNx))))) e (wc ds k :: r)) Q := by
  obtain ⟨a6, a7, a8, a9, a10, a11, a12, a13, a14, a15, a16, rfl⟩ := he
  have hne : (within c).map encT ≠ [] := by rw [within_eq]; simp
  obtain ⟨_, _, e1, h1, rfl⟩ := pick_ok ds k hk ((within c).map encT) hne r
  obtain ⟨⟨w, mo, own⟩, ht, rfl⟩ := List.mem_map.mp h1
  have w1 := within_at c _ ht
  have w2 := dp_at ht
  simp only at w1 w2
  refine okS.sq (e' := [some S, some (.ref 0), a2, some (enc fr), some c.enc, some (.lst ((within c).map encT)), a6, a7, some (encW w), some (.tup (mo.map encR)), some own.enc, a11, a12, a13, a14, a15, a16]) (m' := wc ds (k + 1) :: r) (by simp [e1, encT]) ?_
  obtain ⟨p, e2, hp1, hp2⟩ : ∃ p : Cm, c__law_pick [.ref 0, .lst [.tup [.str "skip"], .tup [.str "magic"], .tup [.str "assert", .tup [.str "truth", .bl true]]]] (wc ds (k + 1) :: r) = .ok p.enc (wc ds (k + 1 + 1) :: r) ∧ dep p.enc ≤ 3 ∧ szD p.enc ≤ 10 := by
    obtain ⟨_, _, e2, h2, rfl⟩ := pick_ok ds (k + 1) (by omega) [.tup [.str "skip"], .tup [.str "magic"], .tup [.str "assert", .tup [.str "truth", .bl true]]] (by simp) r
    simp only [List.mem_cons, List.not_mem_nil, or_false] at h2
    rcases h2 with rfl | rfl | rfl
    · exact ⟨.word .skip, e2, by simp [Cm.enc, dep, depL], by simp [Cm.enc, szD, szL]⟩
    · exact ⟨.word .magic, e2, by simp [Cm.enc, dep, depL], by simp [Cm.enc, szD, szL]⟩
    · exact ⟨.asr true (.tru true), e2, by simp [Cm.enc, Cd.enc, dep, depL], by simp [Cm.enc, Cd.enc, szD, szL]⟩
  refine okS.sq (e' := [some S, some (.ref 0), a2, some (enc fr), some c.enc, some (.lst ((within c).map encT)), a6, a7, some (encW w), some (.tup (mo.map encR)), some own.enc, a11, a12, a13, some p.enc, a15, a16]) (m' := wc ds (k + 1 + 1) :: r) (by simp [e2]) ?_
  obtain ⟨d, hd1⟩ := put_at p w c own w1
  have hd2 := put_sz p w c d hd1
  have e3 := tried_ok c p w 59 (by omega) (wc ds (k + 1 + 1) :: r)
  have e4 := lput_ok p w c 59 (by omega) d hd1 (wc ds (k + 1 + 1) :: r)
  rw [hd1] at e3
  simp only [oTry] at e3
  have s1 := same_ok d.enc d.plain_enc (by omega) (by omega) (wc ds (k + 1 + 1) :: r)
  have no : put c (9 :: w) p = none := by
    have := c.parts_len
    have : c.parts[9]? = none := List.getElem?_eq_none_iff.mpr (by omega)
    simp only [put, this]
  have e5 := tried_ok c p (9 :: w) 59 (by simp only [List.length_cons]; omega) (wc ds (k + 1 + 1) :: r)
  rw [no] at e5
  simp only [oTry] at e5
  have ad : ∀ m, binD .Add (.tup [.int 9]) (encW w) m = some (encW (9 :: w)) := fun m => by
    unfold encW
    rw [add_tup (sl_of (by simp only [List.length_map, List.length_cons, List.length_nil]; omega))]
    rfl
  refine okS.sq (e' := [some S, some (.ref 0), a2, some (enc fr), some c.enc, some (.lst ((within c).map encT)), a6, a7, some (encW w), some (.tup (mo.map encR)), some own.enc, a11, a12, a13, some p.enc, a15, a16]) (m' := wc ds (k + 1 + 1) :: r) (by simp [e3, e4, s1, ad, e5]) ?_
  have c1 := no_pick (j := 6) (fe := fVar 6) (ft := (tNot (fTr (fApp c__law_says (fCons (fApp c_is_way (fCons (fVar 6) fNil)) (fCons (fCon (.bl true)) fNil)))))) (fi := (iVal (fTup (fCons (fTup fNil) (fCons (fTup (fCons (fCon (.int 0)) fNil)) (fCons (fTup (fCons (fCon (.int 0)) (fCons (fCon (.int 5)) (fCons (fCon (.int 1)) fNil)))) fNil)))))) (ds := [.tup [], .tup [.int 0], .tup [.int 0, .int 5, .int 1]]) (e := [some S, some (.ref 0), a2, some (enc fr), some c.enc, some (.lst ((within c).map encT)), a6, a7, some (encW w), some (.tup (mo.map encR)), some own.enc, a11, a12, a13, some p.enc, a15, a16]) (m := wc ds (k + 1 + 1) :: r) (by simp [it_tup]) (by simp) (fun d hd => by
    have h1 : isW d = true ∧ fine d = true ∧ szD d ≤ 100 := by
      simp only [List.mem_cons, List.not_mem_nil, or_false] at hd
      rcases hd with rfl | rfl | rfl <;> decide
    have := isway_ok d h1.2.1 (fun ds e => by subst e; have := szL_len ds; have := h1.2.2; simp only [szD] at this; omega) (wc ds (k + 1 + 1) :: r)
    rw [h1.1] at this
    simp [wipe, this, says])
  refine okS.sq (e' := [some S, some (.ref 0), a2, some (enc fr), some c.enc, some (.lst ((within c).map encT)), a6, a7, some (encW w), some (.tup (mo.map encR)), some own.enc, a11, a12, a13, some p.enc, a15, a16]) (m' := wc ds (k + 1 + 1) :: r) (by simp [c1, nil_ne]) ?_
  have c2 := no_pick (j := 6) (fe := fVar 6) (ft := (tNot (fTr (fApp c__law_says (fCons (fApp c_is_way (fCons (fVar 6) fNil)) (fCons (fCon (.bl false)) fNil)))))) (fi := (iVal (fTup (fCons (fCon .non) (fCons (fCon (.int 3)) (fCons (fLst (fCons (fCon (.int 0)) fNil)) (fCons (fCon (.str "0")) (fCons (fTup (fCons (fNeg (fCon (.int 1))) fNil)) (fCons (fTup (fCons (fCon (.bl true)) fNil)) (fCons (fTup (fCons (fCon (.str "0")) fNil)) (fCons (fTup (fCons (fCon (.int 0)) (fCons (fCon .non) fNil))) fNil))))))))))) (ds := [.non, .int 3, .lst [.int 0], .str "0", .tup [.int (-1)], .tup [.bl true], .tup [.str "0"], .tup [.int 0, .non]]) (e := [some S, some (.ref 0), a2, some (enc fr), some c.enc, some (.lst ((within c).map encT)), a6, a7, some (encW w), some (.tup (mo.map encR)), some own.enc, a11, a12, a13, some p.enc, a15, a16]) (m := wc ds (k + 1 + 1) :: r) (by simp [it_tup]) (by simp) (fun d hd => by
    have h1 : isW d = false ∧ fine d = true ∧ szD d ≤ 100 := by
      simp only [List.mem_cons, List.not_mem_nil, or_false] at hd
      rcases hd with rfl | rfl | rfl | rfl | rfl | rfl | rfl | rfl <;> decide
    have := isway_ok d h1.2.1 (fun ds e => by subst e; have := szL_len ds; have := h1.2.2; simp only [szD] at this; omega) (wc ds (k + 1 + 1) :: r)
    rw [h1.1] at this
    simp [wipe, this, says])
  simp [c2, nil_ne]
  exact okS.mk (hq _ ⟨_, _, _, _, _, _, _, _, _, _, _, rfl⟩ _ (by omega))
end K10

/-! The law holds. -/
namespace K10
open PySem Cs Com
set_option maxHeartbeats 4000000 in
theorem turn_ok (ds : List Int) (k : Int) (hk : 0 ≤ k) (r : Mem) (S : D) (a2 a3 a4 a5 a6 a7 a8 a9 a10 a11 a12 a13 a14 a15 a16 : Option D) (Q : Fl → Sto → Mem → Prop)
    (hq : ∀ fr c e, St S a2 fr c e → ∀ k, 0 ≤ k → Q .nx e (wc ds k :: r)) :
    okS (b_law_L2 c__law_frame (pg.call 59 "_law_command") (pg.call 59 "_law_within") c__law_wrong c__law_says (pg.call 59 "is_command") c__law_same (pg.call 59 "ways_of") c_frame_at c_part_at c_with_parts c_parts_of c_inner_frame (pg.call 59 "_law_tried") c__law_pick (pg.call 59 "_law_put") c_is_way
      [some S, some (.ref 0), a2, a3, a4, a5, a6, a7, a8, a9, a10, a11, a12, a13, a14, a15, a16] (wc ds k :: r)) Q := by
  obtain ⟨_, _, e1, ⟨fr, rfl, hf⟩, k1, hk1, rfl⟩ := frame_drw ds k hk r
  have hs := hf.s
  have hl := hs.len
  obtain ⟨_, _, e2, ⟨c, rfl, hc, c1, c2, c3⟩, k2, hk2, rfl⟩ := cmd_drw drK ds r 3 59 (by omega) fr hs k1 hk1
  have i3 : ((3 : Nat) : Int) = 3 := rfl
  rw [i3] at e2
  simp only [Nat.reducePow, Nat.reduceMul] at c3
  have e3 := within_ok 4 c (by omega) (by omega) 59 (by omega) (wc ds k2 :: r)
  have w5 := within_len c
  have w6 := ways_len c
  have w7 : 2 ^ (c.dp + 1) ≤ 2 ^ 11 := Nat.pow_le_pow_right (by omega) (by omega)
  have w8 : (2 : Nat) ^ 11 = 2048 := rfl
  obtain ⟨lo, hi, hfr⟩ : ∃ a b, fr.head? = some (("x" : Str), a, b) := by
    cases fr with
    | nil => simp at hl
    | cons q l =>
      obtain ⟨y, a, b⟩ := q
      have : y = "x" := by rcases hf.2.2 with h | h <;> simp [nms] at h <;> exact h.1
      subst this
      exact ⟨a, b, rfl⟩
  have hn2 : nms fr = [("x" : Str)] ∨ nms fr = [("x" : Str), ("y" : Str)] := hf.2.2
  have e4 := wrong_ok fr lo hi hfr (wc ds k2 :: r)
  have hk1 : isK fr c.enc = true := Cm.isK_enc c fr hs.g hc
  have e5 := iscom_ok 17 c.enc ⟨Cm.fine_enc c fr hs.g hc, c2, by omega⟩ fr (by omega) hs.g.nm 59 (by omega) (wc ds k2 :: r)
  rw [hk1] at e5
  unfold b_law_L2
  refine okS.sq (e' := [some S, some (.ref 0), a2, some (enc fr), a4, a5, a6, a7, a8, a9, a10, a11, a12, a13, a14, a15, a16]) (m' := wc ds k1 :: r) (by simp [e1]) ?_
  refine okS.sq (e' := [some S, some (.ref 0), a2, some (enc fr), some c.enc, a5, a6, a7, a8, a9, a10, a11, a12, a13, a14, a15, a16]) (m' := wc ds k2 :: r) (by simp [e2]) ?_
  refine okS.sq (e' := [some S, some (.ref 0), a2, some (enc fr), some c.enc, some (.lst ((within c).map encT)), a6, a7, a8, a9, a10, a11, a12, a13, a14, a15, a16]) (m' := wc ds k2 :: r) (by simp [e3]) ?_
  have l1 := no_pick (j := 6) (fe := fVar 6) (ft := (tNot (fTr (fApp c__law_says (fCons (fApp (pg.call 59 "is_command") (fCons (fVar 3) (fCons (fVar 6) fNil))) (fCons (fCon (.bl false)) fNil)))))) (fi := (iVal (fApp c__law_wrong (fCons (fVar 3) fNil)))) (ds := wrongL) (e := [some S, some (.ref 0), a2, some (enc fr), some c.enc, some (.lst ((within c).map encT)), a6, a7, a8, a9, a10, a11, a12, a13, a14, a15, a16]) (m := wc ds k2 :: r) (by simp [e4, itOf, itL]) (sl_of (by decide)) (fun d hd => by
    have h1 := wrong_fine d hd
    have := iscom_ok 8 d ⟨h1.1, h1.2.1, by omega⟩ fr (by omega) hs.g.nm 59 (by omega) (wc ds k2 :: r)
    rw [wrong_isK fr hn2 d hd] at this
    simp [wipe, this, says])
  refine okS.sq (e' := [some S, some (.ref 0), a2, some (enc fr), some c.enc, some (.lst ((within c).map encT)), a6, a7, a8, a9, a10, a11, a12, a13, a14, a15, a16]) (m' := wc ds k2 :: r) (by simp [e5, says, l1, nil_ne]) ?_
  have x1 : ixD (enc fr) (.int 0) (wc ds k2 :: r) = some (encR (("x" : Str), lo, hi)) := by
    cases fr with
    | nil => cases hfr
    | cons q l => cases hfr; exact ix_h _ _ _
  refine okS.sq (e' := [some S, some (.ref 0), a2, some (enc fr), some c.enc, some (.lst ((within c).map encT)), a6, some (.lst goodL), a8, a9, a10, a11, a12, a13, a14, a15, a16]) (m' := wc ds k2 :: r) (by simp [x1, encR, goodL]) ?_
  have l2 := no_pick (j := 6) (fe := fVar 6) (ft := (tNot (fTr (fApp c__law_says (fCons (fApp (pg.call 59 "is_command") (fCons (fVar 3) (fCons (fVar 6) fNil))) (fCons (fCon (.bl true)) fNil)))))) (fi := (iVar 7)) (ds := goodL) (e := [some S, some (.ref 0), a2, some (enc fr), some c.enc, some (.lst ((within c).map encT)), a6, some (.lst goodL), a8, a9, a10, a11, a12, a13, a14, a15, a16]) (m := wc ds k2 :: r) (iVar_lst rfl) (sl_of (by decide)) (fun d hd => by
    have h1 := good_fine d hd
    have := iscom_ok 8 d ⟨h1.1, h1.2.1, by omega⟩ fr (by omega) hs.g.nm 59 (by omega) (wc ds k2 :: r)
    rw [good_isK fr hn2 d hd] at this
    simp [wipe, this, says])
  have e6 := ways_ok 4 c (by omega) (by omega) 59 (by omega) (wc ds k2 :: r)
  have l3 : fLc [8, 9, 10] (.tup [.name 8, .name 9, .name 10]) (iVar 5) Cs.tYes (fVar 8) [some S, some (.ref 0), a2, some (enc fr), some c.enc, some (.lst ((within c).map encT)), a6, some (.lst goodL), a8, a9, a10, a11, a12, a13, a14, a15, a16] (wc ds k2 :: r) = .ok (.lst ((ways c).map encW)) (wc ds k2 :: r) := by
    refine fLc_ap (p := ((within c).map encT, [])) (iVar_lst rfl) ?_ (sl_of (by rw [List.length_map]; omega))
    refine (lcT_pure (p := fun _ => true) (g := fun t => encW t.1) (within c) fun u _ => ⟨_, rfl, rfl, fun _ => by simp [wipe, encT]⟩).trans ?_
    rw [List.filter_eq_self.mpr (fun _ _ => rfl), ← within_ways, List.map_map]
    rfl
  have s1 : c__law_same [.tup ((ways c).map encW), .tup ((ways c).map encW)] (wc ds k2 :: r) = .ok (.bl true) (wc ds k2 :: r) := by
    refine same_ok _ ?_ ?_ ?_ _
    · simp only [Cs.plain]
      exact plainL_of fun d hd => by obtain ⟨w, _, rfl⟩ := List.mem_map.mp hd; exact plain_encW w
    · have := depL_of (n := 1) (ds := (ways c).map encW) fun d hd => by
        obtain ⟨w, _, rfl⟩ := List.mem_map.mp hd
        unfold encW
        simp only [dep]
        have := depL_of (n := 0) (ds := w.map fun k : Nat => D.int k) fun d hd => by obtain ⟨_, _, rfl⟩ := List.mem_map.mp hd; simp [dep]
        omega
      simp only [dep]
      omega
    · have := szL_le (n := 20) (l := (ways c).map encW) fun d hd => by
        obtain ⟨w, hw, rfl⟩ := List.mem_map.mp hd
        have := ways_deep c w hw
        unfold encW
        have h1 := szL_one (l := w.map fun k : Nat => D.int k) (fun d hd => by obtain ⟨z, _, rfl⟩ := List.mem_map.mp hd; rfl)
        rw [List.length_map] at h1
        simp only [szD]
        omega
      rw [List.length_map] at this
      simp only [szD]
      omega
  refine okS.sq (e' := [some S, some (.ref 0), a2, some (enc fr), some c.enc, some (.lst ((within c).map encT)), a6, some (.lst goodL), a8, a9, a10, a11, a12, a13, a14, a15, a16]) (m' := wc ds k2 :: r) (by simp [l2, nil_ne, e6, l3, s1]) ?_
  have qi : ∀ (ds : List D) (m : Mem), itOf m (.lst ds) = some (ds, []) := fun _ _ => rfl
  rw [sSeq_ap, sFor_ap]
  simp only [iVal_ap, fVar_ap, atV_s, atV_0, ofO_some, bnd_ok, qi, sBd_ok]
  refine okS.thn ?_
  refine forT0 (fun rem e m => (∃ L, (∀ t ∈ L, t ∈ within c) ∧ rem = L.map encT) ∧ St S a2 fr c e ∧ m = wc ds k2 :: r) ⟨⟨within c, fun _ h => h, rfl⟩, ⟨_, _, _, _, _, _, _, _, _, _, _, rfl⟩, rfl⟩ ?_ ?_
  · rintro e m ⟨-, he, rfl⟩
    exact tail_ok hs hc (by omega) (by omega) (by omega) he ds k2 hk2 r fun e he k hk => hq fr c e he k hk
  · rintro d rem e m ⟨⟨L, hL, hr⟩, he, rfl⟩
    cases L with
    | nil => cases hr
    | cons t L =>
      simp only [List.map_cons, List.cons.injEq] at hr
      obtain ⟨rfl, rfl⟩ := hr
      refine ⟨((e.set 8 (some (encW t.1))).set 9 (some (.tup (t.2.1.map encR)))).set 10 (some t.2.2.enc), by simp [encT], fun Q' tn => ?_⟩
      refine (L1_ok hs hc (by omega) (by omega) (by omega) (hL t List.mem_cons_self) he).imp ?_
      rintro f e m ⟨rfl, he, rfl⟩
      exact tn.nx _ _ ⟨⟨L, fun u hu => hL u (List.mem_cons_of_mem _ hu), rfl⟩, he, rfl⟩
theorem law_ok (ns : List Int) (h : ns.length ≤ 63) : okR (pg.call 60 "law" [.scr (ns.map .int)] []) fun d m => d = .bl true ∧ m = [] := by
  have h1 : pg.call 59 "_law_draws" = c__law_draws := k__law_draws 58
  have h2 : pg.call 59 "_law_frame" = c__law_frame := k__law_frame 57
  have h5 : pg.call 59 "_law_pick" = c__law_pick := k__law_pick 57
  have h6 : pg.call 59 "_law_says" = c__law_says := k__law_says 58
  have h8 : pg.call 59 "_law_same" = c__law_same := k__law_same 58
  have h9 : pg.call 59 "_law_wrong" = c__law_wrong := k__law_wrong 58
  have h10 : pg.call 59 "frame_at" = c_frame_at := k_frame_at 56
  have h11 : pg.call 59 "part_at" = c_part_at := k_part_at 57
  have h12 : pg.call 59 "with_parts" = c_with_parts := k_with_parts 58
  have h13 : pg.call 59 "parts_of" = c_parts_of := k_parts_of 58
  have h14 : pg.call 59 "inner_frame" = c_inner_frame := k_inner_frame 57
  have h15 : pg.call 59 "is_way" = c_is_way := k_is_way 56
  rw [r_law 59, h1, h2, h5, h6, h8, h9, h10, h11, h12, h13, h14, h15]
  refine okF rfl ?_
  unfold b_law
  obtain ⟨d1, m1, e1, rfl, ds, rfl⟩ := draws_ok 4000 (by omega) ns h []
  have i1 : ((4000 : Nat) : Int) = 4000 := rfl
  rw [i1] at e1
  have hr : List.map some [D.scr (ns.map .int)] ++ List.replicate (17 - [D.scr (ns.map .int)].length) none = [some (.scr (ns.map .int)), none, none, none, none, none, none, none, none, none, none, none, none, none, none, none, none] := rfl
  have ed : fDct [((fCon (.str "draws")), (fApp c__law_draws (fCons (fVar 0) (fCons (fCon (.int 4000)) fNil)))), ((fCon (.str "at")), (fCon (.int 0)))] [some (.scr (ns.map .int)), none, none, none, none, none, none, none, none, none, none, none, none, none, none, none, none] [] = .ok (.dct [.str "draws", .str "at"] [.lst (ds.map .int), .int 0]) [] := by
    unfold fDct
    have : fPairs [((fCon (.str "draws")), (fApp c__law_draws (fCons (fVar 0) (fCons (fCon (.int 4000)) fNil)))), ((fCon (.str "at")), (fCon (.int 0)))] [some (.scr (ns.map .int)), none, none, none, none, none, none, none, none, none, none, none, none, none, none, none, none] [] = .ok ([.str "draws", .str "at"], [.lst (ds.map .int), .int 0]) [] := by
      simp [fPairs, e1]
    rw [this]
    rfl
  rw [hr, sSeq_ap, sSet_ap, fNew_ap, ed]
  simp only [bnd_ok, newC_dct, ofP_some, sBd_ok, List.set_cons_succ, List.set_cons_zero, sThen_nx, List.length_nil, List.nil_append]
  rw [sSeq_ap, sFor_ap, jRng1_ap (n := 6) (by simp) (by omega) (by omega), sBd_ok]
  refine okS.thn ?_
  refine forT0 (fun rem e m => ∃ k a2 a3 a4 a5 a6 a7 a8 a9 a10 a11 a12 a13 a14 a15 a16, 0 ≤ k ∧ e = [some (.scr (ns.map .int)), some (.ref 0), a2, a3, a4, a5, a6, a7, a8, a9, a10, a11, a12, a13, a14, a15, a16] ∧ m = [wc ds k]) ⟨0, _, _, _, _, _, _, _, _, _, _, _, _, _, _, _, Int.le_refl 0, rfl, rfl⟩ ?_ ?_
  · rintro e m ⟨k, a2, a3, a4, a5, a6, a7, a8, a9, a10, a11, a12, a13, a14, a15, a16, hk, rfl, rfl⟩
    show okS _ _
    simp only [sRet_ap, fCon_ap, sBd_ok]
    refine okS.mk ?_
    show okR (gcR (.bl true) [] ([] ++ [wc ds k])) _
    rw [gcR_plain rfl]
    exact okR.mk ⟨rfl, rfl⟩
  · rintro d rest e m ⟨k, a2, a3, a4, a5, a6, a7, a8, a9, a10, a11, a12, a13, a14, a15, a16, hk, rfl, rfl⟩
    refine ⟨_, rfl, fun Q' tn => ?_⟩
    refine turn_ok ds k hk [] _ _ _ _ _ _ _ _ _ _ _ _ _ _ _ _ Q' fun fr c e he k' hk' => ?_
    obtain ⟨a6, a7, a8, a9, a10, a11, a12, a13, a14, a15, a16, rfl⟩ := he
    exact tn.nx _ _ ⟨k', _, _, _, _, _, _, _, _, _, _, _, _, _, _, _, hk', rfl, rfl⟩
theorem plain (ns : List Int) (h : ns.length ≤ 63) : pg.call 60 "law" [.scr (ns.map .int)] [] = .ok (.bl true) [] := okR.eq (law_ok ns h)
end K10

open PySem PySem.W PyProof.Rows
set_option maxRecDepth 100000 in
set_option maxHeartbeats 0 in
theorem PySem.Challenge.cw_closersteps_k10_commands_parts_and_ways_holds : PySem.Challenge.rw_closersteps_k10_commands_parts_and_ways.Holds := by
  w_on; o_law; k_head; (case hw => w_witness2)
  k_fill
  refine Cs.walk_cx (l := PySem.Challenge.rw_closersteps_k10_commands_parts_and_ways) (p := K10.pg) (fd := K10.f_law) 60 (by decide) rfl (by decide) rfl rfl rfl (fun w h Y => PySem.W.kIn_of Y) ?F ?FX K10.plain
  case F =>
    intro w mg h KX G
    constructor
    case defs =>
      refine' Cs.allC (Cs.def_mk KX G ?a ?l ?c ?k (by decide +kernel) (fun _ _ _ _ _ _ us hl => match us, hl with | [_], _ => rfl)) ?_
      (case a => k_is); (case l => k_is); (case c => k_is); (case k => k_is)
      refine' Cs.allC (Cs.def_mk KX G ?a ?l ?c ?k (by decide +kernel) (fun _ _ _ _ _ _ us hl => match us, hl with | [_], _ => rfl)) ?_
      (case a => k_is); (case l => k_is); (case c => k_is); (case k => k_is)
      refine' Cs.allC (Cs.def_mk KX G ?a ?l ?c ?k (by decide +kernel) (fun _ _ _ _ _ _ us hl => match us, hl with | [_], _ => rfl)) ?_
      (case a => k_is); (case l => k_is); (case c => k_is); (case k => k_is)
      refine' Cs.allC (Cs.def_mk KX G ?a ?l ?c ?k (by decide +kernel) (fun _ _ _ _ _ _ us hl => match us, hl with | [_], _ => rfl)) ?_
      (case a => k_is); (case l => k_is); (case c => k_is); (case k => k_is)
      refine' Cs.allC (Cs.def_mk KX G ?a ?l ?c ?k (by decide +kernel) (fun _ _ _ _ _ _ us hl => match us, hl with | [_, _], _ => rfl)) ?_
      (case a => k_is); (case l => k_is); (case c => k_is); (case k => k_is)
      refine' Cs.allC (Cs.def_mk KX G ?a ?l ?c ?k (by decide +kernel) (fun _ _ _ _ _ _ us hl => match us, hl with | [_], _ => rfl)) ?_
      (case a => k_is); (case l => k_is); (case c => k_is); (case k => k_is)
      refine' Cs.allC (Cs.def_mk KX G ?a ?l ?c ?k (by decide +kernel) (fun _ _ _ _ _ _ us hl => match us, hl with | [_, _, _, _], _ => rfl)) ?_
      (case a => k_is); (case l => k_is); (case c => k_is); (case k => k_is)
      refine' Cs.allC (Cs.def_mk KX G ?a ?l ?c ?k (by decide +kernel) (fun _ _ _ _ _ _ us hl => match us, hl with | [_, _], _ => rfl)) ?_
      (case a => k_is); (case l => k_is); (case c => k_is); (case k => k_is)
      refine' Cs.allC (Cs.def_mk KX G ?a ?l ?c ?k (by decide +kernel) (fun _ _ _ _ _ _ us hl => match us, hl with | [_, _, _], _ => rfl)) ?_
      (case a => k_is); (case l => k_is); (case c => k_is); (case k => k_is)
      refine' Cs.allC (Cs.def_mk KX G ?a ?l ?c ?k (by decide +kernel) (fun _ _ _ _ _ _ us hl => match us, hl with | [_, _, _], _ => rfl)) ?_
      (case a => k_is); (case l => k_is); (case c => k_is); (case k => k_is)
      refine' Cs.allC (Cs.def_mk KX G ?a ?l ?c ?k (by decide +kernel) (fun _ _ _ _ _ _ us hl => match us, hl with | [_, _], _ => rfl)) ?_
      (case a => k_is); (case l => k_is); (case c => k_is); (case k => k_is)
      refine' Cs.allC (Cs.def_mk KX G ?a ?l ?c ?k (by decide +kernel) (fun _ _ _ _ _ _ us hl => match us, hl with | [_, _], _ => rfl)) ?_
      (case a => k_is); (case l => k_is); (case c => k_is); (case k => k_is)
      refine' Cs.allC (Cs.def_mk KX G ?a ?l ?c ?k (by decide +kernel) (fun _ _ _ _ _ _ us hl => match us, hl with | [_, _], _ => rfl)) ?_
      (case a => k_is); (case l => k_is); (case c => k_is); (case k => k_is)
      refine' Cs.allC (Cs.def_mk KX G ?a ?l ?c ?k (by decide +kernel) (fun _ _ _ _ _ _ us hl => match us, hl with | [_, _], _ => rfl)) ?_
      (case a => k_is); (case l => k_is); (case c => k_is); (case k => k_is)
      refine' Cs.allC (Cs.def_mk KX G ?a ?l ?c ?k (by decide +kernel) (fun _ _ _ _ _ _ us hl => match us, hl with | [_, _], _ => rfl)) ?_
      (case a => k_is); (case l => k_is); (case c => k_is); (case k => k_is)
      refine' Cs.allC (Cs.def_mk KX G ?a ?l ?c ?k (by decide +kernel) (fun _ _ _ _ _ _ us hl => match us, hl with | [_, _], _ => rfl)) ?_
      (case a => k_is); (case l => k_is); (case c => k_is); (case k => k_is)
      refine' Cs.allC (Cs.def_mk KX G ?a ?l ?c ?k (by decide +kernel) (fun _ _ _ _ _ _ us hl => match us, hl with | [_, _], _ => rfl)) ?_
      (case a => k_is); (case l => k_is); (case c => k_is); (case k => k_is)
      refine' Cs.allC (Cs.def_mk KX G ?a ?l ?c ?k (by decide +kernel) (fun _ _ _ _ _ _ us hl => match us, hl with | [_, _], _ => rfl)) ?_
      (case a => k_is); (case l => k_is); (case c => k_is); (case k => k_is)
      refine' Cs.allC (Cs.def_mk KX G ?a ?l ?c ?k (by decide +kernel) (fun _ _ _ _ _ _ us hl => match us, hl with | [_], _ => rfl)) ?_
      (case a => k_is); (case l => k_is); (case c => k_is); (case k => k_is)
      refine' Cs.allC (Cs.def_mk KX G ?a ?l ?c ?k (by decide +kernel) (fun _ _ _ _ _ _ us hl => match us, hl with | [_, _], _ => rfl)) ?_
      (case a => k_is); (case l => k_is); (case c => k_is); (case k => k_is)
      refine' Cs.allC (Cs.def_mk KX G ?a ?l ?c ?k (by decide +kernel) (fun _ _ _ _ _ _ us hl => match us, hl with | [_, _], _ => rfl)) ?_
      (case a => k_is); (case l => k_is); (case c => k_is); (case k => k_is)
      refine' Cs.allC (Cs.def_mk KX G ?a ?l ?c ?k (by decide +kernel) (fun _ _ _ _ _ _ us hl => match us, hl with | [_], _ => rfl)) ?_
      (case a => k_is); (case l => k_is); (case c => k_is); (case k => k_is)
      refine' Cs.allC (Cs.def_mk KX G ?a ?l ?c ?k (by decide +kernel) (fun _ _ _ _ _ _ us hl => match us, hl with | [_, _], _ => rfl)) ?_
      (case a => k_is); (case l => k_is); (case c => k_is); (case k => k_is)
      refine' Cs.allC (Cs.def_mk KX G ?a ?l ?c ?k (by decide +kernel) (fun _ _ _ _ _ _ us hl => match us, hl with | [_, _, _], _ => rfl)) ?_
      (case a => k_is); (case l => k_is); (case c => k_is); (case k => k_is)
      refine' Cs.allC (Cs.def_mk KX G ?a ?l ?c ?k (by decide +kernel) (fun _ _ _ _ _ _ us hl => match us, hl with | [_, _, _], _ => rfl)) ?_
      (case a => k_is); (case l => k_is); (case c => k_is); (case k => k_is)
      refine' Cs.allC (Cs.def_mk KX G ?a ?l ?c ?k (by decide +kernel) (fun _ _ _ _ _ _ us hl => match us, hl with | [_], _ => rfl)) ?_
      (case a => k_is); (case l => k_is); (case c => k_is); (case k => k_is)
      refine' Cs.allC (Cs.def_mk KX G ?a ?l ?c ?k (by decide +kernel) (fun _ _ _ _ _ _ us hl => match us, hl with | [_, _], _ => rfl)) ?_
      (case a => k_is); (case l => k_is); (case c => k_is); (case k => k_is)
      refine' Cs.allC (Cs.def_mk KX G ?a ?l ?c ?k (by decide +kernel) (fun _ _ _ _ _ _ us hl => match us, hl with | [_, _], _ => rfl)) ?_
      (case a => k_is); (case l => k_is); (case c => k_is); (case k => k_is)
      refine' Cs.allC (Cs.def_mk KX G ?a ?l ?c ?k (by decide +kernel) (fun _ _ _ _ _ _ us hl => match us, hl with | [_, _], _ => rfl)) ?_
      (case a => k_is); (case l => k_is); (case c => k_is); (case k => k_is)
      refine' Cs.allC (Cs.def_mk KX G ?a ?l ?c ?k (by decide +kernel) (fun _ _ _ _ _ _ us hl => match us, hl with | [_, _], _ => rfl)) ?_
      (case a => k_is); (case l => k_is); (case c => k_is); (case k => k_is)
      refine' Cs.allC (Cs.def_mk KX G ?a ?l ?c ?k (by decide +kernel) (fun _ _ _ _ _ _ us hl => match us, hl with | [_, _], _ => rfl)) ?_
      (case a => k_is); (case l => k_is); (case c => k_is); (case k => k_is)
      refine' Cs.allC (Cs.def_mk KX G ?a ?l ?c ?k (by decide +kernel) (fun _ _ _ _ _ _ us hl => match us, hl with | [_], _ => rfl)) ?_
      (case a => k_is); (case l => k_is); (case c => k_is); (case k => k_is)
      refine' Cs.allC (Cs.def_mk KX G ?a ?l ?c ?k (by decide +kernel) (fun _ _ _ _ _ _ us hl => match us, hl with | [_, _, _, _], _ => rfl)) ?_
      (case a => k_is); (case l => k_is); (case c => k_is); (case k => k_is)
      refine' Cs.allC (Cs.def_mk KX G ?a ?l ?c ?k (by decide +kernel) (fun _ _ _ _ _ _ us hl => match us, hl with | [_, _, _, _], _ => rfl)) ?_
      (case a => k_is); (case l => k_is); (case c => k_is); (case k => k_is)
      refine' Cs.allC (Cs.def_mk KX G ?a ?l ?c ?k (by decide +kernel) (fun _ _ _ _ _ _ us hl => match us, hl with | [_, _], _ => rfl)) ?_
      (case a => k_is); (case l => k_is); (case c => k_is); (case k => k_is)
      refine' Cs.allC (Cs.def_mk KX G ?a ?l ?c ?k (by decide +kernel) (fun _ _ _ _ _ _ us hl => match us, hl with | [_, _], _ => rfl)) ?_
      (case a => k_is); (case l => k_is); (case c => k_is); (case k => k_is)
      refine' Cs.allC (Cs.def_mk KX G ?a ?l ?c ?k (by decide +kernel) (fun _ _ _ _ _ _ us hl => match us, hl with | [_, _], _ => rfl)) ?_
      (case a => k_is); (case l => k_is); (case c => k_is); (case k => k_is)
      refine' Cs.allC (Cs.def_mk KX G ?a ?l ?c ?k (by decide +kernel) (fun _ _ _ _ _ _ us hl => match us, hl with | [_, _], _ => rfl)) ?_
      (case a => k_is); (case l => k_is); (case c => k_is); (case k => k_is)
      refine' Cs.allC (Cs.def_mk KX G ?a ?l ?c ?k (by decide +kernel) (fun _ _ _ _ _ _ us hl => match us, hl with | [_, _, _], _ => rfl)) ?_
      (case a => k_is); (case l => k_is); (case c => k_is); (case k => k_is)
      refine' Cs.allC (Cs.def_mk KX G ?a ?l ?c ?k (by decide +kernel) (fun _ _ _ _ _ _ us hl => match us, hl with | [_], _ => rfl)) ?_
      (case a => k_is); (case l => k_is); (case c => k_is); (case k => k_is)
      refine' Cs.allC (Cs.def_mk KX G ?a ?l ?c ?k (by decide +kernel) (fun _ _ _ _ _ _ us hl => match us, hl with | [_, _, _], _ => rfl)) ?_
      (case a => k_is); (case l => k_is); (case c => k_is); (case k => k_is)
      refine' Cs.allC (Cs.def_mk KX G ?a ?l ?c ?k (by decide +kernel) (fun _ _ _ _ _ _ us hl => match us, hl with | [_], _ => rfl)) ?_
      (case a => k_is); (case l => k_is); (case c => k_is); (case k => k_is)
      refine' Cs.allC (Cs.def_mk KX G ?a ?l ?c ?k (by decide +kernel) (fun _ _ _ _ _ _ us hl => match us, hl with | [_, _, _], _ => rfl)) ?_
      (case a => k_is); (case l => k_is); (case c => k_is); (case k => k_is)
      refine' Cs.allC (Cs.def_mk KX G ?a ?l ?c ?k (by decide +kernel) (fun _ _ _ _ _ _ us hl => match us, hl with | [_], _ => rfl)) ?_
      (case a => k_is); (case l => k_is); (case c => k_is); (case k => k_is)
      exact Cs.allN
    case glob =>
      refine' Cs.allC (Cs.g_str KX G ?a) ?_; (case a => k_is)
      refine' Cs.allC (Cs.g_str KX G ?a) ?_; (case a => k_is)
      refine' Cs.allC (Cs.g_int KX G ?a) ?_; (case a => k_is)
      refine' Cs.allC (Cs.g_int KX G ?a) ?_; (case a => k_is)
      refine' Cs.allC (Cs.g_any KX G ?a (Cs.gv_tup ?l0 ?c0 ?d0 ?z0 ?i0 rfl ?n0)) ?_
      (case a => k_is); (case l0 => k_is); (case c0 => rfl); (case d0 => rfl); (case n0 => rfl); (case z0 => decide +kernel); (case i0 => exact (.cons Cs.gv_str (.cons Cs.gv_str (.cons Cs.gv_str (.cons Cs.gv_str (.cons Cs.gv_str .nil))))))
      refine' Cs.allC (Cs.g_any KX G ?a (Cs.gv_tup ?l0 ?c0 ?d0 ?z0 ?i0 rfl ?n0)) ?_
      (case a => k_is); (case l0 => k_is); (case c0 => rfl); (case d0 => rfl); (case n0 => rfl); (case z0 => decide +kernel); (case i0 => exact (.cons Cs.gv_str (.cons Cs.gv_str .nil)))
      refine' Cs.allC (Cs.g_int KX G ?a) ?_; (case a => k_is)
      refine' Cs.allC (Cs.g_any KX G ?a (Cs.gv_tup ?l0 ?c0 ?d0 ?z0 ?i0 rfl ?n0)) ?_
      (case a => k_is); (case l0 => k_is); (case c0 => rfl); (case d0 => rfl); (case n0 => rfl); (case z0 => decide +kernel); (case i0 => exact (.cons Cs.gv_str (.cons Cs.gv_str (.cons Cs.gv_str .nil))))
      exact Cs.allN
    case bl =>
      refine' Cs.allC (Cs.b_none KX G ?a) ?_; (case a => k_is)
      refine' Cs.allC (Cs.b_none KX G ?a) ?_; (case a => k_is)
      refine' Cs.allC (Cs.b_none KX G ?a) ?_; (case a => k_is)
      refine' Cs.allC (Cs.b_none KX G ?a) ?_; (case a => k_is)
      refine' Cs.allC (Cs.b_none KX G ?a) ?_; (case a => k_is)
      refine' Cs.allC (Cs.b_none KX G ?a) ?_; (case a => k_is)
      refine' Cs.allC (Cs.b_none KX G ?a) ?_; (case a => k_is)
      refine' Cs.allC (Cs.b_none KX G ?a) ?_; (case a => k_is)
      refine' Cs.allC (Cs.b_none KX G ?a) ?_; (case a => k_is)
      refine' Cs.allC (Cs.b_none KX G ?a) ?_; (case a => k_is)
      refine' Cs.allC (Cs.b_none KX G ?a) ?_; (case a => k_is)
      refine' Cs.allC (Cs.b_none KX G ?a) ?_; (case a => k_is)
      refine' Cs.allC (Cs.b_none KX G ?a) ?_; (case a => k_is)
      refine' Cs.allC (Cs.b_none KX G ?a) ?_; (case a => k_is)
      refine' Cs.allC (Cs.b_none KX G ?a) ?_; (case a => k_is)
      refine' Cs.allC (Cs.b_none KX G ?a) ?_; (case a => k_is)
      exact Cs.allN
  case FX =>
    intro w mg h KX G base
    refine Cs.xc_each ?_
    refine' Cs.allC (Cs.xcls_mk (p := "word") KX G ?msg ?hstr ?a ?c1 ?c2 ?c3 ?c4 ?c5 ?c6 ?c7 ?c8 ?c9 ?c10 ?c11 ?c12 ?bT ?cT ?mT ?fT ?c14 ?c15 ?c16 ?c17 ?c18 ?c19 ?c20 ?c21 ?c22 ?c23 ?c24 ?c25 ?c26 ?c27 ?c28 (by decide +kernel) ?hb ?hex) ?_
    (case a => k_is); (case c1 => k_is); (case c2 => decide)
    (case c3 => k_is); (case c4 => k_is); (case c5 => k_is); (case c6 => k_is); (case c7 => k_is); (case c8 => k_is); (case c9 => k_is); (case c10 => k_is); (case c11 => k_is); (case c12 => k_is)
    (case msg => exact (.txt (by decide +kernel)))
    (case bT => rfl); (case cT => k_is); (case mT => rfl)
    (case fT => k_is); (case c14 => k_is); (case c15 => k_is); (case c16 => k_is); (case c17 => k_is); (case c18 => rfl); (case c19 => decide +kernel); (case c20 => decide +kernel)
    (case c21 => exact ⟨rfl, rfl, rfl, rfl, rfl, rfl, rfl, by decide +kernel, Cs.free_only (by decide +kernel), by decide +kernel⟩); (case c22 => rfl); (case c23 => rfl); (case c28 => rfl)
    (case c24 => k_is); (case c25 => k_is); (case c26 => k_is); (case c27 => k_is)
    (case hstr => exact fun z => nomatch z)
    (case hb => exact fun us hl => match us, hl with | [_, _], _ => rfl)
    (case hex =>
      refine Cs.xc_each ?_
      refine' Cs.allC (Cs.hex_mk KX G ?a ?h1 ?h2 ?h3 ?h4 ?h5) ?_
      (case a => k_is); (case h1 => k_is); (case h2 => k_is); (case h3 => k_is); (case h4 => k_is); (case h5 => decide +kernel)
      exact Cs.allN)
    exact Cs.allN

