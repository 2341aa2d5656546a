import PyProof.Rows.All
import Wide.All
import OpenK.AllK
import Wide.FinOn
import HandS.ForMost
import HandS.Deep
import HandS.TupAny
import HandS.TupLe
import HandS.IsInst
import HandS.Wide
import HandS.Flow
import HandS.Style
import HandS.Zip
import HandS.Conv
import HandS.Strs
import HandS.Codes
import KE.SortData
import KE.DataEq
import KE.DataCmp
import PyProof.StrBlock2
import PyProof.IsRules
import PySem.Challenge.RW_closersteps_k01_expressions_and_conditio
set_option Elab.async false
set_option linter.all false
set_option maxRecDepth 100000
/-! An interpreter for the part of Python that the package uses, over data without addresses. -/
namespace Cs
open PySem

/-! ### data -/
/-- None, a bool, an int, a text, a tuple, a list, a dict (its keys, its values), a memory cell, the script (a list of others') -/
inductive D where
  | non | bl (b : Bool) | int (i : Int) | str (s : Str)
  | tup (ds : List D) | lst (ds : List D) | dct (ks vs : List D) | ref (n : Nat) | scr (ds : List D)
  deriving Inhabited
inductive Cell where
  | lst (ds : List D) | dct (ks vs : List D) | ins (cls : Str) (fs : List (Str × D))
  deriving Inhabited
abbrev Mem := List Cell
abbrev Sto := List (Option D)
structure Exc where
  cls : Str
  fs : List (Str × D)
inductive Res (α : Type) where
  | ok (a : α) (m : Mem)
  | exc (x : Exc) (m : Mem)
  | bad
inductive Fl where
  | nx | bk | ct | rt (d : D)
inductive SRes where
  | ok (f : Fl) (e : Sto) (m : Mem)
  | exc (x : Exc) (e : Sto) (m : Mem)
  | bad
abbrev FE := Sto → Mem → Res D
abbrev FB := Sto → Mem → Res Bool
abbrev FL := Sto → Mem → Res (List D)
abbrev FS := Sto → Mem → SRes

/-! ### equality, order, depth -/
mutual
def eqD : D → D → Bool
  | .non, .non => true
  | .bl a, .bl b => a == b
  | .bl a, .int j => (if a then 1 else 0) == j
  | .int i, .bl b => i == (if b then 1 else 0)
  | .int i, .int j => i == j
  | .str x, .str y => x == y
  | .lst xs, .lst ys => eqL xs ys
  | .tup xs, .tup ys => eqL xs ys
  | _, _ => false
def eqL : List D → List D → Bool
  | [], [] => true
  | x :: xs, y :: ys => eqD x y && eqL xs ys
  | _, _ => false
end
mutual
/-- no dict, no cell within -/
def plain : D → Bool
  | .lst xs => plainL xs
  | .tup xs => plainL xs
  | .dct _ _ => false
  | .ref _ => false
  | .scr _ => false
  | _ => true
def plainL : List D → Bool
  | [] => true
  | x :: xs => plain x && plainL xs
end
mutual
def dep : D → Nat
  | .lst xs => depL xs + 1
  | .tup xs => depL xs + 1
  | _ => 0
def depL : List D → Nat
  | [] => 0
  | x :: xs => max (dep x) (depL xs)
end
mutual
/-- all cells within stand below n -/
def low (n : Nat) : D → Bool
  | .lst xs => lowL n xs
  | .tup xs => lowL n xs
  | .dct ks vs => lowL n ks && lowL n vs
  | .ref k => decide (k < n)
  | .scr xs => lowL n xs
  | _ => true
def lowL (n : Nat) : List D → Bool
  | [] => true
  | x :: xs => low n x && lowL n xs
end
def Cell.low (n : Nat) : Cell → Bool
  | .lst ds => lowL n ds
  | .dct ks vs => lowL n ks && lowL n vs
  | .ins _ fs => lowL n (fs.map (·.2))

/-! ### what a value is worth in a memory -/
/-- a cell's list or dict as a value -/
def res (m : Mem) : D → D
  | .ref n => match m[n]? with
    | some (.lst ds) => .lst ds
    | some (.dct ks vs) => .dct ks vs
    | _ => .ref n
  | .scr ds => .lst ds
  | d => d
/-- the items of a list or tuple -/
def seqD (m : Mem) (d : D) : Option (List D) :=
  match res m d with
  | .lst ds => some ds
  | .tup ds => some ds
  | _ => none
def lstD (m : Mem) (d : D) : Option (List D) :=
  match res m d with
  | .lst ds => some ds
  | _ => none
/-- .. but the script -/
def lstX (m : Mem) (d : D) : Option (List D) :=
  match d with
  | .scr _ => none
  | d => lstD m d
def trD (m : Mem) (d : D) : Option Bool :=
  match res m d with
  | .non => some false
  | .bl b => some b
  | .int i => some (i != 0)
  | .str s => if s.length ≤ sizeLine then some ((s.length : Int) != 0) else none
  | .lst ds => some (!ds.isEmpty)
  | .tup ds => some (!ds.isEmpty)
  | _ => none
/-- a tuple that may be a key: of ints alone (no tuple of the module's constants is such) -/
def keyT (ds : List D) : Bool := ds.all fun d => match d with
  | .int _ => true
  | _ => false
/-- a tuple of texts, one at least: its methods may be called -/
def nmT : List D → Bool
  | [] => false
  | d :: r => (d :: r).all fun d => match d with
    | .str _ => true
    | _ => false
/-- what may be a key of a dict with these -/
def keyD (ks : List D) : D → Bool
  | .int _ => ks.all fun q => match q with
    | .tup _ => false
    | _ => true
  | .str _ => ks.all fun q => match q with
    | .tup _ => false
    | _ => true
  | .tup ds => keyT ds && ks.all fun q => match q with
    | .tup _ => true
    | _ => false
  | _ => false
/-- the place of a key -/
def findK (k : D) : List D → Option Nat
  | [] => none
  | x :: r => if eqD x k then some 0 else (findK k r).map (· + 1)
def getK (ks vs : List D) (k : D) : Option D := (findK k ks).bind fun i => vs[i]?
def putK (ks vs : List D) (k v : D) : List D × List D :=
  match findK k ks with
  | some i => (ks, vs.set i v)
  | none => (ks ++ [k], vs ++ [v])
def dropK (ks vs : List D) (k : D) : List D × List D :=
  match findK k ks with
  | some i => (ks.eraseIdx i, vs.eraseIdx i)
  | none => (ks, vs)

def cutD (xs : List D) (lo hi : Option Int) : List D := (xs.drop (HT.sIx xs.length 0 lo)).take (HT.sIx xs.length xs.length hi - HT.sIx xs.length 0 lo)

/-! ### operators -/
def mulOk (i j : Int) : Bool := decide (i.natAbs.log2 + j.natAbs.log2 < 1000000)
def binD (op : Operator) (a b : D) (m : Mem) : Option D :=
  match op, res m a, res m b with
  | .Add, .int i, .int j => some (.int (i + j))
  | .Add, .str x, .str y => if x.length + y.length ≤ sizeLine then some (.str (x ++ y)) else none
  | .Add, .tup xs, .tup ys => if xs.length + ys.length ≤ sizeLine then some (.tup (xs ++ ys)) else none
  | .Add, .lst xs, .lst ys => if xs.length + ys.length ≤ sizeLine then some (.lst (xs ++ ys)) else none
  | .Sub, .int i, .int j => some (.int (i - j))
  | .Mult, .int i, .int j => if mulOk i j then some (.int (i * j)) else none
  | .Mult, .str x, .int k => if 0 ≤ k ∧ k ≤ 1000 ∧ x.length ≤ 1000 then some (.str (Txt.mul x k)) else none
  | .FloorDiv, .int i, .int j => if 0 < j ∧ j < 1073741824 then some (.int (i / j)) else none
  | .Mod, .int i, .int j => if 0 < j then some (.int (i % j)) else none
  | .Pow, .int i, .int j => if 0 ≤ j ∧ j ≤ 1000000 ∧ i.natAbs < 2 ^ 64 then some (.int (i ^ j.toNat)) else none
  | _, _, _ => none
/-- whatever is in a list: it is not the empty one -/
def lst0 : D → D → Bool
  | .lst (_ :: _), .lst [] => true
  | _, _ => false
def eqOk (a b : D) : Bool := (plain a && plain b && decide (min (dep a) (dep b) ≤ 150)) || lst0 a b
def inD (x c : D) : Option Bool :=
  match c with
  | .lst ds => if plain x && plainL ds && decide (min (depL ds) (dep x) ≤ 150) then some (ds.any fun z => eqD z x) else none
  | .tup ds => if plain x && plainL ds && decide (min (depL ds) (dep x) ≤ 150) then some (ds.any fun z => eqD z x) else none
  | .str z => match x with
    | .str s => match s.cps.toList with
      | [c] => some (decide (c ∈ z.cps.toList))
      | _ => none
    | _ => none
  | .dct ks vs => if keyD ks x then some (getK ks vs x).isSome else none
  | _ => none
def ltS (x y : Str) : Bool := decide (x.cps.toList < y.cps.toList)
def cmpD (op : CmpOp) (a b : D) (m : Mem) : Option Bool :=
  match op with
  | .Eq => if eqOk (res m a) (res m b) then some (eqD (res m a) (res m b)) else none
  | .NotEq => if eqOk (res m a) (res m b) then some (!eqD (res m a) (res m b)) else none
  | .Lt => match a, b with
    | .int i, .int j => some (decide (i < j))
    | .str x, .str y => some (ltS x y)
    | _, _ => none
  | .LtE => match a, b with
    | .int i, .int j => some (decide (i ≤ j))
    | .str x, .str y => some (!ltS y x)
    | _, _ => none
  | .Gt => match a, b with
    | .int i, .int j => some (decide (j < i))
    | .str x, .str y => some (ltS y x)
    | _, _ => none
  | .GtE => match a, b with
    | .int i, .int j => some (decide (j ≤ i))
    | .str x, .str y => some (!ltS x y)
    | _, _ => none
  | .Is => match b with
    | .non => some (match a with | .non => true | _ => false)
    | .bl k => match a with
      | .bl j => some (j == k)
      | _ => some false
    | _ => none
  | .IsNot => match b with
    | .non => some (match a with | .non => false | _ => true)
    | .bl k => match a with
      | .bl j => some (!(j == k))
      | _ => some true
    | _ => none
  | .In => inD a (res m b)
  | .NotIn => (inD a (res m b)).map (!·)
def negD : D → Option D
  | .int i => some (.int (-i))
  | _ => none
def ixD (a b : D) (m : Mem) : Option D :=
  match res m a, b with
  | .lst ds, .int i => L2.atI ds i
  | .tup ds, .int i => L2.atI ds i
  | .str s, .int i => if s.length ≤ sizeLine then (L2.atI s.cps.toList i).map fun c => .str ⟨#[c]⟩ else none
  | .dct ks vs, k => if keyD ks k then getK ks vs k else none
  | _, _ => none
def slD (a : D) (lo hi : Option Int) (m : Mem) : Option D :=
  match res m a with
  | .lst ds => some (.lst (cutD ds lo hi))
  | .tup ds => some (.tup (cutD ds lo hi))
  | .str s => if s.length ≤ sizeLine then some (.str (L2.cutS s lo hi)) else none
  | _ => none
inductive Ty where
  | int | bool | str | tuple | list | dict
  deriving DecidableEq
def isiD (t : Ty) (d : D) : Option Bool :=
  match d with
  | .non => some false
  | .bl _ => some (t == .bool || t == .int)
  | .int _ => some (t == .int)
  | .str _ => some (t == .str)
  | .tup _ => some (t == .tuple)
  | .lst _ => some (t == .list)
  | .dct _ _ => some (t == .dict)
  | _ => none
def boolsD : List D → Option (List Bool)
  | [] => some []
  | .bl b :: r => (boolsD r).map (b :: ·)
  | _ :: _ => none

/-! ### order of data, sorting -/
mutual
def ltD : D → D → Bool
  | .int i, .int j => decide (i < j)
  | .str x, .str y => ltS x y
  | .tup xs, .tup ys => ltL xs ys
  | _, _ => false
def ltL : List D → List D → Bool
  | _, [] => false
  | [], _ :: _ => true
  | x :: xs, y :: ys => if eqD x y then ltL xs ys else ltD x y
end
mutual
/-- the data as the library's own -/
def py : D → PyData
  | .non => .none
  | .bl b => .bool b
  | .int i => .int i
  | .str s => .str s
  | .tup ds => .tuple (pyL ds)
  | .lst ds => .list (pyL ds)
  | .dct _ _ => .dict []
  | .ref _ => .dict []
  | .scr _ => .dict []
def pyL : List D → List PyData
  | [] => []
  | d :: r => py d :: pyL r
end
def isNonT (d : D) : Bool := match d with
  | .non => true
  | .tup _ => true
  | _ => false
def isTup1 (d : D) : Bool := match d with
  | .tup (_ :: _) => true
  | _ => false
/-- sorted as the library says -/
def sortL (ds : List D) : List D := ds.mergeSort (PySem.W.dataLe false py)
/-- what may be sorted: alike data, all tuples or none -/
def sortOk (ds : List D) : Bool := plainL ds && decide (depL ds ≤ 150) && (ds.all fun d => ds.all fun e => PySem.W.alike (py d) (py e)) && (ds.all isTup1 || ds.all fun d => !isNonT d)
def flatK : D → Bool
  | .int _ => true
  | .str _ => true
  | _ => false
def mergeD : List D → List D → List D → List D → List D × List D
  | ks, vs, k :: kr, v :: vr => let p := putK ks vs k v; mergeD p.1 p.2 kr vr
  | ks, vs, _, _ => (ks, vs)
/-- a list of pairs: the keys, the values -/
def pairsD : List D → Option (List D × List D)
  | [] => some ([], [])
  | .tup [k, v] :: r => if flatK k then (pairsD r).map fun p => (k :: p.1, v :: p.2) else none
  | _ :: _ => none
inductive Blt where
  | len | all | any | tuple | list | abs | int | str | sorted | min | max | dict
  deriving DecidableEq
def b1 (g : D → Mem → Option D) : List D → Mem → Option D
  | [a], m => g a m
  | _, _ => none
def b2 (g : D → D → Mem → Option D) : List D → Mem → Option D
  | [a, b], m => g a b m
  | _, _ => none
def lenB (a : D) (m : Mem) : Option D :=
  match res m a with
  | .lst ds => some (.int ds.length)
  | .tup ds => some (.int ds.length)
  | .dct ks _ => if ks.all flatK then some (.int ks.length) else none
  | .str s => if s.length ≤ sizeLine then some (.int s.length) else none
  | _ => none
def allB (a : D) (m : Mem) : Option D := (lstD m a).bind fun ds => (boolsD ds).map fun bs => .bl (bs.all id)
def anyB (a : D) (m : Mem) : Option D := (lstD m a).bind fun ds => (boolsD ds).map fun bs => .bl (bs.any id)
def absB (a : D) (m : Mem) : Option D :=
  match a with
  | .int i => some (.int (if i < 0 then -i else i))
  | _ => none
def intB (a : D) (m : Mem) : Option D :=
  match a with
  | .int i => some (.int i)
  | _ => none
def strB (a : D) (m : Mem) : Option D :=
  match a with
  | .int i => if i.natAbs.log2 < 1920 then some (.str (toString i)) else none
  | _ => none
def minB (a b : D) (m : Mem) : Option D :=
  match a, b with
  | .int i, .int j => some (.int (if j < i then j else i))
  | _, _ => none
def maxB (a b : D) (m : Mem) : Option D :=
  match a, b with
  | .int i, .int j => some (.int (if j > i then j else i))
  | _, _ => none
def sortB (a : D) (m : Mem) : Option D := (seqD m a).bind fun ds => if sortOk ds then some (.lst (sortL ds)) else none
def dictB (a : D) (m : Mem) : Option D := (lstD m a).bind fun ds => (pairsD ds).map fun p => .dct (mergeD [] [] p.1 p.2).1 (mergeD [] [] p.1 p.2).2
def bltD (f : Blt) : List D → Mem → Option D :=
  match f with
  | .len => b1 lenB
  | .all => b1 allB
  | .any => b1 anyB
  | .tuple => b1 fun a m => (seqD m a).map .tup
  | .list => b1 fun a m => (seqD m a).map .lst
  | .abs => b1 absB
  | .int => b1 intB
  | .str => b1 strB
  | .min => b2 minB
  | .max => b2 maxB
  | .sorted => b1 sortB
  | .dict => b1 dictB
inductive Mth where
  | append | extend | pop | get | index | update
  deriving DecidableEq
/-- what a method is called of -/
inductive Rk where
  | lst | tup | dct | str
  deriving DecidableEq
def rkD (m : Mem) (d : D) : Option Rk :=
  match res m d with
  | .lst _ => some .lst
  | .tup ds => if nmT ds then some .tup else none
  | .dct _ _ => some .dct
  | .str _ => some .str
  | _ => none
def setC (m : Mem) (n : Nat) (c : Cell) : Mem := m.set n c
def mthOk : Mth → Rk → Bool
  | .append, .lst => true
  | .extend, .lst => true
  | .pop, .lst => true
  | .get, .dct => true
  | .update, .dct => true
  | .index, .lst => true
  | .index, .tup => true
  | _, _ => false
/-- a method of a list in a cell -/
def cellM (n : Nat) (m : Mem) (g : List D → Option (D × List D)) : Option (D × Mem) :=
  match m[n]? with
  | some (.lst ds) => (g ds).map fun p => (p.1, setC m n (.lst p.2))
  | _ => none
def appM (o : D) (as : List D) (m : Mem) : Option (D × Mem) :=
  match o, as with
  | .ref n, [a] => cellM n m fun ds => if ds.length < sizeLine then some (.non, ds ++ [a]) else none
  | _, _ => none
def extM (o : D) (as : List D) (m : Mem) : Option (D × Mem) :=
  match o, as with
  | .ref n, [a] => (lstX m a).bind fun es => cellM n m fun ds => if ds.length + es.length ≤ sizeLine then some (.non, ds ++ es) else none
  | _, _ => none
def popM (o : D) (as : List D) (m : Mem) : Option (D × Mem) :=
  match o, as with
  | .ref n, [] => cellM n m fun ds => (ds[ds.length - 1]?).map fun d => (d, ds.dropLast)
  | _, _ => none
def getM (o : D) (as : List D) (m : Mem) : Option (D × Mem) :=
  match as with
  | [k] => (match res m o with
    | .dct ks vs => if keyD ks k then some ((getK ks vs k).getD .non, m) else none
    | _ => none)
  | [k, d] => (match res m o with
    | .dct ks vs => if keyD ks k then some ((getK ks vs k).getD d, m) else none
    | _ => none)
  | _ => none
def idxL (o : D) (as : List D) (m : Mem) : Option (D × Mem) :=
  match as with
  | [.str z] => (match res m o with
    | .lst ds => if nmT ds then (ds.findIdx? fun y => eqD y (.str z)).map fun (i : Nat) => (.int i, m) else none
    | _ => none)
  | _ => none
def idxT (o : D) (as : List D) (m : Mem) : Option (D × Mem) :=
  match as with
  | [.str z] => (match res m o with
    | .tup ds => if nmT ds then (ds.findIdx? fun y => eqD y (.str z)).map fun (i : Nat) => (.int i, m) else none
    | _ => none)
  | _ => none
/-- d.update(e), ints and texts as keys -/
def updM (o : D) (as : List D) (m : Mem) : Option (D × Mem) :=
  match o, as with
  | .ref n, [.dct kr vr] => (match m[n]? with
    | some (.dct ks vs) => if ks.all flatK && kr.all flatK && decide (ks.length + kr.length ≤ sizeLine) then
        some (.non, setC m n (.dct (mergeD ks vs kr vr).1 (mergeD ks vs kr vr).2)) else none
    | _ => none)
  | _, _ => none
def mthD (f : Mth) (k : Rk) : D → List D → Mem → Option (D × Mem) :=
  match f, k with
  | .append, .lst => appM
  | .extend, .lst => extM
  | .pop, .lst => popM
  | .get, .dct => getM
  | .update, .dct => updM
  | .index, .lst => idxL
  | .index, .tup => idxT
  | _, _ => fun _ _ _ => none

/-! ### combinators: expressions -/
def ofO (m : Mem) : Option D → Res D
  | some d => .ok d m
  | none => .bad
def fVar (i : Nat) : FE := fun e m => match e[i]? with
  | some (some d) => .ok d m
  | _ => .bad
def fCon (d : D) : FE := fun _ m => .ok d m
def fBad : FE := fun _ _ => .bad
def bnd {α β : Type} (r : Res α) (k : α → Mem → Res β) : Res β := match r with
  | .ok a m => k a m
  | .exc x m => .exc x m
  | .bad => .bad
def f1 (g : D → Mem → Res D) (fa : FE) : FE := fun e m => bnd (fa e m) g
def f2 (g : D → D → Mem → Res D) (fa fb : FE) : FE := fun e m => bnd (fa e m) fun a m => bnd (fb e m) fun b m => g a b m
def fBin (op : Operator) : FE → FE → FE := f2 fun a b m => ofO m (binD op a b m)
def fNeg : FE → FE := f1 fun a m => ofO m (negD a)
def fTr (fa : FE) : FB := fun e m => bnd (fa e m) fun a m => match trD m a with
  | some b => .ok b m
  | none => .bad
def fNotV (fa : FE) : FE := fun e m => bnd (fTr fa e m) fun b m => .ok (.bl !b) m
def fAndV (fa fb : FE) : FE := fun e m => bnd (fa e m) fun a m => match trD m a with
  | some true => fb e m
  | some false => .ok a m
  | none => .bad
def fOrV (fa fb : FE) : FE := fun e m => bnd (fa e m) fun a m => match trD m a with
  | some true => .ok a m
  | some false => fb e m
  | none => .bad
def fCmp (op : CmpOp) : FE → FE → FE := f2 fun a b m => ofO m ((cmpD op a b m).map .bl)
def cmpGo (v : D) : List (CmpOp × FE) → FE
  | [], _, _ => .bad
  | [(op, f)], e, m => bnd (f e m) fun b m => ofO m ((cmpD op v b m).map .bl)
  | (op, f) :: p :: r, e, m => bnd (f e m) fun b m => match cmpD op v b m with
    | some true => cmpGo b (p :: r) e m
    | some false => .ok (.bl false) m
    | none => .bad
def fCmpN (fa : FE) (l : List (CmpOp × FE)) : FE := fun e m => bnd (fa e m) fun v m => cmpGo v l e m
def fIf (ft : FB) (fa fb : FE) : FE := fun e m => bnd (ft e m) fun t m => if t then fa e m else fb e m
def fNil : FL := fun _ m => .ok [] m
def fCons (fa : FE) (fr : FL) : FL := fun e m => bnd (fa e m) fun a m => bnd (fr e m) fun r m => .ok (a :: r) m
def fTup (fs : FL) : FE := fun e m => bnd (fs e m) fun ds m => if ds.length ≤ sizeLine then .ok (.tup ds) m else .bad
def fLst (fs : FL) : FE := fun e m => bnd (fs e m) fun ds m => if ds.length ≤ sizeLine then .ok (.lst ds) m else .bad
def fIx : FE → FE → FE := f2 fun a b m => ofO m (ixD a b m)
/-- an optional part of a slice -/
def fPart (fa : Option FE) : Sto → Mem → Res (Option Int) := fun e m => match fa with
  | none => .ok none m
  | some f => bnd (f e m) fun d m => match d with
    | .int i => .ok (some i) m
    | _ => .bad
def fSl (fa : FE) (lo hi : Option FE) : FE := fun e m => bnd (fa e m) fun a m => bnd (fPart lo e m) fun l m => bnd (fPart hi e m) fun h m => ofO m (slD a l h m)
def fBlt (b : Blt) (fs : FL) : FE := fun e m => bnd (fs e m) fun ds m => ofO m (bltD b ds m)
def fIsi (t : Ty) (fa : FE) : FE := fun e m => bnd (fa e m) fun d m => ofO m ((isiD t (res m d)).map .bl)
def fCall (C : Str → List D → Mem → Res D) (f : Str) (fs : FL) : FE := fun e m => bnd (fs e m) fun ds m => C f ds m
def fMth (f : Mth) (fo : FE) (fs : FL) : FE := fun e m => bnd (fo e m) fun o m => match rkD m o with
  | some k => if mthOk f k then bnd (fs e m) fun ds m => match mthD f k o ds m with
      | some (d, m) => .ok d m
      | none => .bad
    else .bad
  | none => .bad
/-- {} -/
def fDct0 : FE := fun _ m => .ok (.dct [] []) m
/-- {k: v, ..}, keys written texts or ints -/
def fPairs : List (FE × FE) → Sto → Mem → Res (List D × List D)
  | [], _, m => .ok ([], []) m
  | (fk, fv) :: r, e, m => bnd (fk e m) fun k m => bnd (fv e m) fun v m => bnd (fPairs r e m) fun kv m => .ok (k :: kv.1, v :: kv.2) m
def fDct (fs : List (FE × FE)) : FE := fun e m => bnd (fPairs fs e m) fun kv m =>
  if kv.1.all flatK then .ok (.dct (mergeD [] [] kv.1 kv.2).1 (mergeD [] [] kv.1 kv.2).2) m else .bad

/-! ### targets -/
inductive Tgt where
  | name (i : Nat)
  | tup (ts : List Tgt)
mutual
def bindT : Tgt → D → Sto → Option Sto
  | .name i, d, e => some (e.set i (some d))
  | .tup ts, .tup ds, e => bindL ts ds e
  | .tup _, _, _ => none
def bindL : List Tgt → List D → Sto → Option Sto
  | [], [], e => some e
  | t :: ts, d :: ds, e => (bindT t d e).bind (bindL ts ds)
  | _, _, _ => none
end
mutual
def slotsT : Tgt → List Nat
  | .name i => [i]
  | .tup ts => slotsL ts
def slotsL : List Tgt → List Nat
  | [] => []
  | t :: r => slotsT t ++ slotsL r
end

/-! ### what is walked -/
/-- the items, and the cells that must stay as they are while they are walked -/
abbrev FI := Sto → Mem → Res (List D × List Nat)
def itL (m : Mem) (d : D) : Option (List D × List Nat) :=
  match d with
  | .lst ds => some (ds, [])
  | .scr ds => some (ds, [])
  | .ref n => match m[n]? with
    | some (.lst ds) => some (ds, [n])
    | _ => none
  | _ => none
def itOf (m : Mem) (d : D) : Option (List D × List Nat) :=
  match d with
  | .tup ds => some (ds, [])
  | .str z => some (z.cps.toList.map fun c => .str ⟨#[c]⟩, [])
  | d => itL m d
def iVal (fa : FE) : FI := fun e m => bnd (fa e m) fun d m => match itOf m d with
  | some p => .ok p m
  | none => .bad
/-- a name's list, tuple or text, or its dict's keys -/
def iVar (i : Nat) : FI := fun e m => match e[i]? with
  | some (some (.dct ks _)) => if ks.all flatK then .ok (ks, []) m else .bad
  | _ => iVal (fVar i) e m
def rangeL (a : Int) : Nat → List D
  | 0 => []
  | n + 1 => .int a :: rangeL (a + 1) n
def rngOk (i : Int) : Bool := decide (-(2 ^ 62) ≤ i) && decide (i < 2 ^ 62)
def jRng1 (fa : FE) : FI := fun e m => bnd (fa e m) fun d m => match d with
  | .int j => if rngOk j then .ok (rangeL 0 j.toNat, []) m else .bad
  | _ => .bad
def jRng2 (fa fb : FE) : FI := fun e m => bnd (fa e m) fun a m => bnd (fb e m) fun b m => match a, b with
  | .int i, .int j => if rngOk i && rngOk j then .ok (rangeL i (j - i).toNat, []) m else .bad
  | _, _ => .bad
def zipL : List D → List D → List D
  | x :: xs, y :: ys => .tup [x, y] :: zipL xs ys
  | _, _ => []
/-- no pair is of two texts -/
def zipOk : List D → List D → Bool
  | .str _ :: _, .str _ :: _ => false
  | _ :: xs, _ :: ys => zipOk xs ys
  | _, _ => true
def jZip (fa fb : FE) : FI := fun e m => bnd (fa e m) fun a m => bnd (fb e m) fun b m => match a, b with
  | .tup xs, .tup ys => if zipOk xs ys then .ok (zipL xs ys, []) m else .bad
  | a, b => match itL m a, itL m b with
    | some p, some q => if zipOk p.1 q.1 then .ok (zipL p.1 q.1, p.2 ++ q.2) m else .bad
    | _, _ => .bad
def enumL : Nat → List D → List D
  | _, [] => []
  | n, d :: r => .tup [.int n, d] :: enumL (n + 1) r
def jEnum (fa : FE) : FI := fun e m => bnd (fa e m) fun a m => match itL m a with
  | some p => .ok (enumL 0 p.1, p.2) m
  | none => .bad

/-! ### the same data -/
mutual
def beqD : D → D → Bool
  | .non, .non => true
  | .bl a, .bl b => a == b
  | .int i, .int j => i == j
  | .str x, .str y => x.cps.toList == y.cps.toList
  | .tup xs, .tup ys => beqL xs ys
  | .lst xs, .lst ys => beqL xs ys
  | .dct ks vs, .dct ks' vs' => beqL ks ks' && beqL vs vs'
  | .ref n, .ref k => n == k
  | .scr xs, .scr ys => beqL xs ys
  | _, _ => false
def beqL : List D → List D → Bool
  | [], [] => true
  | x :: xs, y :: ys => beqD x y && beqL xs ys
  | _, _ => false
end
def beqF : List (Str × D) → List (Str × D) → Bool
  | [], [] => true
  | x :: xs, y :: ys => x.1.cps.toList == y.1.cps.toList && beqD x.2 y.2 && beqF xs ys
  | _, _ => false
def beqC : Cell → Cell → Bool
  | .lst xs, .lst ys => beqL xs ys
  | .dct ks vs, .dct ks' vs' => beqL ks ks' && beqL vs vs'
  | .ins c fs, .ins c' fs' => c.cps.toList == c'.cps.toList && beqF fs fs'
  | _, _ => false
/-- the cells at ns are as they were -/
def same (ns : List Nat) (m m' : Mem) : Bool := ns.all fun n => match m'[n]?, m[n]? with
  | some c, some c' => beqC c c'
  | none, none => true
  | _, _ => false

/-! ### comprehensions -/
/-- the env in a comprehension's block -/
def wipe : Sto → List Nat → Sto
  | e, [] => e
  | e, i :: r => (wipe e r).set i none
def lcGo (t : Tgt) (ft : FB) (fe : FE) (e : Sto) (ns : List Nat) (m0 : Mem) : List D → Mem → Res (List D)
  | [], m => .ok [] m
  | d :: r, m => match bindT t d e with
    | none => .bad
    | some e' => match ft e' m with
      | .ok true m1 => match fe e' m1 with
        | .ok v m2 => if same ns m0 m2 then match lcGo t ft fe e ns m0 r m2 with
            | .ok vs m3 => .ok (v :: vs) m3
            | _ => .bad
          else .bad
        | _ => .bad
      | .ok false m1 => if same ns m0 m1 then lcGo t ft fe e ns m0 r m1 else .bad
      | _ => .bad
def fLc (own : List Nat) (t : Tgt) (fi : FI) (ft : FB) (fe : FE) : FE := fun e m =>
  bnd (fi e m) fun p m => match lcGo t ft fe (wipe e own) p.2 m p.1 m with
    | .ok vs m' => if vs.length ≤ sizeLine then .ok (.lst vs) m' else .bad
    | _ => .bad
/-- two for clauses: the inner items by a comprehension of their own, joined -/
def lc2Go (t : Tgt) (ft : FB) (inner : Sto → Mem → Res (List D)) (e : Sto) (ns : List Nat) (m0 : Mem) : List D → Mem → Res (List D)
  | [], m => .ok [] m
  | d :: r, m => match bindT t d e with
    | none => .bad
    | some e' => match ft e' m with
      | .ok true m1 => match inner e' m1 with
        | .ok vs m2 => if same ns m0 m2 then match lc2Go t ft inner e ns m0 r m2 with
            | .ok ws m3 => .ok (vs ++ ws) m3
            | _ => .bad
          else .bad
        | _ => .bad
      | .ok false m1 => if same ns m0 m1 then lc2Go t ft inner e ns m0 r m1 else .bad
      | _ => .bad
def lcIn (t : Tgt) (fi : FI) (ft : FB) (fe : FE) (own1 : List Nat) : Sto → Mem → Res (List D) := fun e m =>
  bnd (fi e m) fun p m => lcGo t ft fe (wipe e own1) p.2 m p.1 m
def fLc2 (own : List Nat) (t : Tgt) (fi : FI) (ft : FB) (own1 : List Nat) (t1 : Tgt) (fi1 : FI) (ft1 : FB) (fe : FE) : FE := fun e m =>
  bnd (fi e m) fun p m => match lc2Go t ft (lcIn t1 fi1 ft1 fe own1) (wipe e own) p.2 m p.1 m with
    | .ok vs m' => if vs.length ≤ sizeLine then .ok (.lst vs) m' else .bad
    | _ => .bad
def tYes : FB := fun _ m => .ok true m

/-! ### combinators: statements -/
def sNx : FS := fun e m => .ok .nx e m
def sBad : FS := fun _ _ => .bad
def sSeq (a b : FS) : FS := fun e m => match a e m with
  | .ok .nx e m => b e m
  | r => r
def sBd {α : Type} (r : Res α) (e : Sto) (k : α → Mem → SRes) : SRes := match r with
  | .ok a m => k a m
  | .exc x m => .exc x e m
  | .bad => .bad
def sDrop (fa : FE) : FS := fun e m => sBd (fa e m) e fun _ m => .ok .nx e m
def sRet (fa : FE) : FS := fun e m => sBd (fa e m) e fun d m => .ok (.rt d) e m
def sRetN : FS := fun e m => .ok (.rt .non) e m
def sPass : FS := sNx
def sBreak : FS := fun e m => .ok .bk e m
def sCont : FS := fun e m => .ok .ct e m
def sIf (ft : FB) (a b : FS) : FS := fun e m => sBd (ft e m) e fun t m => if t then a e m else b e m
/-- into a new cell -/
def newC (d : D) (m : Mem) : Option (D × Mem) :=
  match d with
  | .lst ds => some (.ref m.length, m ++ [.lst ds])
  | .dct ks vs => some (.ref m.length, m ++ [.dct ks vs])
  | _ => none
def sSet (i : Nat) (fa : FE) : FS := fun e m => sBd (fa e m) e fun d m => .ok .nx (e.set i (some d)) m
/-- the value, a fresh list or dict, becomes a cell -/
def fNew (fa : FE) : FE := fun e m => bnd (fa e m) fun d m => match newC d m with
  | some p => .ok p.1 p.2
  | none => .bad
def sAsg (t : Tgt) (fa : FE) : FS := fun e m => sBd (fa e m) e fun d m => match bindT t d e with
  | some e' => .ok .nx e' m
  | none => .bad
def setsL : List Nat → List D → Sto → Sto
  | i :: is, d :: ds, e => setsL is ds (e.set i (some d))
  | _, _, e => e
/-- a, b = x, y -/
def sPar (is : List Nat) (fs : FL) : FS := fun e m => sBd (fs e m) e fun ds m => .ok .nx (setsL is ds e) m
/-- o[i] = v -/
def putD (o k v : D) (m : Mem) : Option Mem :=
  match o with
  | .ref n => match m[n]? with
    | some (.dct ks vs) => if keyD ks k && decide (ks.length < sizeLine) then some (setC m n (.dct (putK ks vs k v).1 (putK ks vs k v).2)) else none
    | some (.lst ds) => match k with
      | .int i => (L2.ixN ds.length i).map fun j => setC m n (.lst (ds.set j v))
      | _ => none
    | _ => none
  | _ => none
def sPut (fo fi fv : FE) : FS := fun e m => sBd (fv e m) e fun v m => sBd (fo e m) e fun o m => sBd (fi e m) e fun i m => match putD o i v m with
  | some m => .ok .nx e m
  | none => .bad
def augD (op : Operator) (a b : D) : Option D :=
  match op, a, b with
  | .Add, .int i, .int j => some (.int (i + j))
  | .Sub, .int i, .int j => some (.int (i - j))
  | _, _, _ => none
def dctAt (m : Mem) (o i : D) : Option D :=
  match res m o with
  | .dct ks vs => if keyD ks i then getK ks vs i else none
  | _ => none
/-- o[i] op= v, o a dict -/
def sAugP (op : Operator) (fo fi fv : FE) : FS := fun e m => sBd (fo e m) e fun o m => sBd (fi e m) e fun i m => match dctAt m o i with
  | some x => sBd (fv e m) e fun v m => match augD op x v with
    | some z => match putD o i z m with
      | some m => .ok .nx e m
      | none => .bad
    | none => .bad
  | none => .bad
/-- x op= v -/
def sAug (op : Operator) (i : Nat) (fv : FE) : FS := fun e m => match e[i]? with
  | some (some x) => sBd (fv e m) e fun v m => match augD op x v with
    | some z => .ok .nx (e.set i (some z)) m
    | none => .bad
  | _ => .bad
def forGo (t : Tgt) (b : FS) (ns : List Nat) (m0 : Mem) : List D → FS
  | [] => sNx
  | d :: r => fun e m => match bindT t d e with
    | none => .bad
    | some e' => match b e' m with
      | .ok .nx e m => if same ns m0 m then forGo t b ns m0 r e m else .bad
      | .ok .ct e m => if same ns m0 m then forGo t b ns m0 r e m else .bad
      | .ok .bk e m => .ok .nx e m
      | r => r
def sFor (t : Tgt) (fi : FI) (b : FS) : FS := fun e m => sBd (fi e m) e fun p m => forGo t b p.2 m p.1 e m
def whlGo (ft : FB) (b : FS) : Nat → FS
  | 0 => sBad
  | n + 1 => fun e m => match ft e m with
    | .ok true m => match b e m with
      | .ok .nx e m => whlGo ft b n e m
      | .ok .ct e m => whlGo ft b n e m
      | .ok .bk e m => .ok .nx e m
      | r => r
    | .ok false m => .ok .nx e m
    | .exc x m => .exc x e m
    | .bad => .bad
/-- at most so many turns -/
def manyTurns : Nat := 2 ^ 64
def sWhl (ft : FB) (b : FS) : FS := whlGo ft b manyTurns
end Cs

/-! The interpreter over the model's syntax: a node's meaning is a combinator over its parts' meanings. -/
namespace Cs
open PySem

def strEq (a b : Str) : Bool := a.cps.toList == b.cps.toList
theorem strEq_eq {a b : Str} (h : strEq a b = true) : a = b := by
  obtain ⟨⟨a⟩⟩ := a
  obtain ⟨⟨b⟩⟩ := b
  have : a = b := by simpa [strEq] using h
  rw [this]
theorem strEq_ne {a b : Str} (h : strEq a b = false) : a ≠ b := by
  rintro rfl
  simp [strEq] at h
def lkp {α : Type} (x : Str) : List (Str × α) → Option α
  | [] => none
  | (y, a) :: r => if strEq x y then some a else lkp x r
theorem lkp_lookup {α : Type} (x : Str) : ∀ l : List (Str × α), lkp x l = l.lookup x
  | [] => rfl
  | (y, a) :: r => by
    unfold lkp
    rw [List.lookup_cons]
    by_cases h : strEq x y = true
    · rw [if_pos h, strEq_eq h, beq_self_eq_true]
    · have e : x ≠ y := strEq_ne (by simpa using h)
      have e2 : (x == y) = false := by simpa using e
      rw [if_neg h, lkp_lookup x r, e2]
def ixOf (x : Str) : List Str → Option Nat
  | [] => none
  | y :: r => if strEq x y then some 0 else (ixOf x r).map (· + 1)
theorem ixOf_get {x : Str} : ∀ {N : List Str} {i : Nat}, ixOf x N = some i → N[i]? = some x
  | [], _, h => by simp [ixOf] at h
  | y :: r, i, h => by
    unfold ixOf at h
    split at h
    · rename_i e
      cases h
      rw [strEq_eq e]
      rfl
    · cases q : ixOf x r with
      | none => rw [q] at h; simp at h
      | some j =>
        rw [q] at h
        simp at h
        subst h
        simpa using ixOf_get q

/-- where one stands: the slots, the scope, the variables that hold cells, the module's constants, its defs, the built-ins, what a call gives -/
structure SC where
  N : List Str
  sc : Scope
  sc0 : Scope
  al : Str → Bool
  G : Str → Option D
  fn : Str → Bool
  bl : Str → Bool
  call : Str → List D → Mem → Res D

/-- no name of the system -/
def okN (x : Str) : Bool := match x.cps.toList with
  | 95 :: 95 :: _ => false
  | _ => true
theorem okN_debug {x : Str} (h : okN x = true) : (x == ("__debug__" : Str)) = false := by
  rw [beq_eq_false_iff_ne]
  rintro rfl
  revert h
  decide +kernel
theorem okN_dict {x : Str} (h : okN x = true) : (x == ("__classdict__" : Str)) = false := by
  rw [beq_eq_false_iff_ne]
  rintro rfl
  revert h
  decide +kernel
theorem okN_name {x : Str} (h : okN x = true) : x ≠ ("__name__" : Str) := by
  rintro rfl
  revert h
  decide +kernel
def SC.vis (c : SC) (x : Str) : Bool := okN x && match lkp x c.sc.names with
  | some .local => true
  | some .cell => true
  | some .free => true
  | _ => false
def SC.loc (c : SC) (x : Str) : Bool := match lkp x c.sc0.names with
  | some .local => true
  | some .cell => true
  | _ => false
def SC.isLocal (c : SC) (x : Str) : Bool := match lkp x c.sc.names with
  | some .local => true
  | _ => false
def SC.gl (c : SC) (x : Str) : Bool := okN x && match lkp x c.sc.names with
  | some .globalImplicit => true
  | _ => false
def SC.slot (c : SC) (x : Str) : Option Nat := if c.vis x then ixOf x c.N else none
def SC.slotW (c : SC) (x : Str) : Option Nat := if c.loc x then ixOf x c.N else none

def tyTab : List (Str × Ty) := [("tuple", .tuple), ("str", .str), ("int", .int), ("bool", .bool), ("list", .list), ("dict", .dict)]
def bltTab : List (Str × Blt) := [("len", .len), ("tuple", .tuple), ("all", .all), ("any", .any), ("int", .int), ("list", .list), ("abs", .abs), ("str", .str), ("sorted", .sorted), ("min", .min), ("max", .max), ("dict", .dict)]
def mthTab : List (Str × Mth) := [("append", .append), ("extend", .extend), ("pop", .pop), ("get", .get), ("index", .index), ("update", .update)]

structure Ev where
  e : SC → Expr → FE
  s : SC → List Stmt → FS

/-- an argument (no star) -/
def unstar : Expr → Bool
  | .Starred _ _ => false
  | _ => true
def listF (f : Expr → FE) : List Expr → FL
  | [] => fNil
  | a :: r => fCons (f a) (listF f r)
def noStar (es : List Expr) : Bool := es.all unstar
/-- a test -/
def tstX (f : Expr → FE) : Nat → Expr → FB
  | 0, _ => fun _ _ => .bad
  | n + 1, e => match e with
    | .BoolOp .And vs p => match vs with
      | [a] => tstX f n a
      | a :: r => fun e m => bnd (tstX f n a e m) fun b m => if b then tstX f n (.BoolOp .And r p) e m else .ok false m
      | [] => fun _ _ => .bad
    | .BoolOp .Or vs p => match vs with
      | [a] => tstX f n a
      | a :: r => fun e m => bnd (tstX f n a e m) fun b m => if b then .ok true m else tstX f n (.BoolOp .Or r p) e m
      | [] => fun _ _ => .bad
    | .UnaryOp .Not a _ => fun e m => bnd (tstX f n a e m) fun b m => .ok (!b) m
    | .IfExp t a b _ => fun e m => bnd (tstX f n t e m) fun k m => if k then tstX f n a e m else tstX f n b e m
    | e => fTr (f e)
/-- and, or as values -/
def boolX (g : FE → FE → FE) (f : Expr → FE) : List Expr → FE
  | [] => fBad
  | [a] => f a
  | a :: r => g (f a) (boolX g f r)
def plainIx : Expr → Bool
  | .Slice _ _ _ _ => false
  | _ => true
/-- an object whose method is called: no bare call (super) -/
def attrOk : Expr → Bool
  | .Call (.Name _ _) [] [] _ => false
  | _ => true
mutual
def tgtX (c : SC) : Nat → Expr → Option Tgt
  | 0, _ => none
  | n + 1, e => match e with
    | .Name x _ => (c.slotW x).map .name
    | .Tuple es _ _ => (tgtsX c n es).map .tup
    | _ => none
def tgtsX (c : SC) : Nat → List Expr → Option (List Tgt)
  | 0, _ => none
  | _ + 1, [] => some []
  | n + 1, e :: r => match tgtX c n e, tgtsX c n r with
    | some t, some ts => some (t :: ts)
    | _, _ => none
end
/-- the slots of a comprehension's own names -/
def ownX (N : List Str) (scope : Scope) : List (Str × Nat) :=
  scope.names.filterMap fun y => match y.2 with
    | .local => (ixOf y.1 N).map fun i => (y.1, i)
    | .cell => (ixOf y.1 N).map fun i => (y.1, i)
    | _ => none
/-- a set literal as what is walked is folded: not here -/
def noSet : Expr → Bool
  | .Set _ _ _ => false
  | _ => true
def iterX (c : SC) (f : Expr → FE) (tg : Expr) : Expr → FI
  | .Call (.Name x p) args [] pos =>
    if c.gl x && c.bl x && strEq x "range" then (match args with
      | [a] => if noStar [a] then jRng1 (f a) else fun _ _ => .bad
      | [a, b] => if noStar [a, b] then jRng2 (f a) (f b) else fun _ _ => .bad
      | _ => fun _ _ => .bad)
    else if c.gl x && c.bl x && strEq x "zip" then (match args, tg with
      | [a, b], .Tuple _ _ _ => if noStar [a, b] then jZip (f a) (f b) else fun _ _ => .bad
      | _, _ => fun _ _ => .bad)
    else if c.gl x && c.bl x && strEq x "enumerate" then (match args, tg with
      | [a], .Tuple _ _ _ => if noStar [a] then jEnum (f a) else fun _ _ => .bad
      | _, _ => fun _ _ => .bad)
    else iVal (f (.Call (.Name x p) args [] pos))
  | e => if noSet e then iVal (f e) else fun _ _ => .bad
/-- .. in a comprehension of one clause: a name may hold a dict -/
def iterV (c : SC) (f : Expr → FE) (tg e : Expr) : FI := match e with
  | .Name x _ => match c.slot x with
    | some i => iVar i
    | none => iterX c f tg e
  | e => iterX c f tg e
def ifsX (f : Expr → FB) : List Expr → FB
  | [] => tYes
  | [c] => f c
  | _ => fun _ _ => .bad
def inner (c : SC) (scope : Scope) : SC := { c with sc := L2.relS scope c.sc, sc0 := scope }
def tstN : Nat := 12
def lc1X (c : SC) (ev : SC → Expr → FE) (elt tg it : Expr) (ifs : List Expr) (scope : Scope) : FE :=
  match tgtX (inner c scope) 16 tg with
  | some t => if noSet it && L2.blkC c.N c.sc scope (ownX c.N scope) && (slotsT t).all (fun i => ((ownX c.N scope).map (·.2)).contains i) then
      fLc ((ownX c.N scope).map (·.2)) t (iterV c (ev c) tg it) (ifsX (tstX (ev (inner c scope)) tstN) ifs) (ev (inner c scope) elt) else fBad
  | none => fBad
def lc2X (c : SC) (ev : SC → Expr → FE) (elt tg it : Expr) (ifs : List Expr) (tg1 it1 : Expr) (ifs1 : List Expr) (scope : Scope) : FE :=
  match tgtX (inner c scope) 16 tg with
  | some t => match tgtX (inner c scope) 16 tg1 with
    | some t1 => if noSet it && noSet it1 && L2.blkC c.N c.sc scope (ownX c.N scope) && (slotsT t).all (fun i => ((ownX c.N scope).map (·.2)).contains i) && (slotsT t1).all (fun i => ((ownX c.N scope).map (·.2)).contains i) then
        fLc2 ((ownX c.N scope).map (·.2)) t (iterX c (ev c) tg it) (ifsX (tstX (ev (inner c scope)) tstN) ifs) (slotsT t1) t1 (iterX (inner c scope) (ev (inner c scope)) tg1 it1) (ifsX (tstX (ev (inner c scope)) tstN) ifs1) (ev (inner c scope) elt) else fBad
    | none => fBad
  | none => fBad
def lcX (c : SC) (ev : SC → Expr → FE) (elt : Expr) (gs : List Comprehension) (scope : Scope) : FE :=
  match gs with
  | [⟨tg, it, ifs, k⟩] => if k = 0 then lc1X c ev elt tg it ifs scope else fBad
  | [⟨tg, it, ifs, k⟩, ⟨tg1, it1, ifs1, k1⟩] => if k = 0 then (if k1 = 0 then lc2X c ev elt tg it ifs tg1 it1 ifs1 scope else fBad) else fBad
  | _ => fBad
/-- built-ins that give new lists -/
def mkName (x : Str) : Bool := strEq x "list" || strEq x "sorted" || strEq x "dict"
/-- an expression whose list or dict is new -/
def fresh : Expr → Bool
  | .List _ _ => true
  | .Dict _ _ _ => true
  | .ListComp _ _ _ _ => true
  | .BinOp _ .Add _ _ => true
  | .Call (.Name x _) _ [] _ => mkName x
  | .Subscript _ (.Slice _ _ _ _) _ => true
  | _ => false
def callX (c : SC) (f : Expr → FE) (x : Str) (args : List Expr) : FE :=
  if c.gl x && noStar args then
    if c.fn x && !mkName x then fCall c.call x (listF f args)
    else if c.bl x then
      match args with
      | [] => fBad
      | a :: r =>
        if strEq x "isinstance" then (match r with
          | [.Name t _] => if c.gl t && c.bl t then (match lkp t tyTab with
            | some ty => fIsi ty (f a)
            | none => fBad) else fBad
          | _ => fBad)
        else match lkp x bltTab with
          | some b => fBlt b (listF f (a :: r))
          | none => fBad
    else fBad
  else fBad
def mthX (f : Expr → FE) (o : Expr) (name : Str) (apos pos : Pos) (args : List Expr) : FE :=
  if noStar args && attrOk o && (apos.endLine == pos.line) && decide (args.length < 20) then match lkp name mthTab with
    | some b => fMth b (f o) (listF f args)
    | none => fBad
  else fBad
def dctX (f : Expr → FE) : List (Option Expr) → List Expr → Option (List (FE × FE))
  | [], [] => some []
  | some k :: ks, v :: vs => (dctX f ks vs).map ((f k, f v) :: ·)
  | _, _ => none
def stE (ev : SC → Expr → FE) (c : SC) (e : Expr) : FE :=
  match e with
  | .Name x _ => match c.slot x with
    | some i => fVar i
    | none => if c.gl x then (match c.G x with | some d => fCon d | none => fBad) else fBad
  | .Constant k _ _ => match k with
    | .none => fCon .non
    | .bool b => fCon (.bl b)
    | .int i => fCon (.int i)
    | .str s => fCon (.str s)
    | _ => fBad
  | .BinOp a op b _ => fBin op (ev c a) (ev c b)
  | .UnaryOp op a _ => match op with
    | .USub => fNeg (ev c a)
    | .Not => fNotV (ev c a)
    | _ => fBad
  | .BoolOp op vs _ => match op with
    | .And => boolX fAndV (ev c) vs
    | .Or => boolX fOrV (ev c) vs
  | .Compare a ops bs _ => match ops, bs with
    | [op], [b] => if noSet b then fCmp op (ev c a) (ev c b) else fBad
    | op :: op' :: ops, b :: d :: bs => if decide (ops.length = bs.length) && (b :: d :: bs).all noSet then fCmpN (ev c a) ((op, ev c b) :: (op', ev c d) :: ops.zip (bs.map (ev c))) else fBad
    | _, _ => fBad
  | .IfExp t a b _ => fIf (tstX (ev c) tstN t) (ev c a) (ev c b)
  | .Call fn args kws pos => match fn, kws with
    | .Name x _, [] => callX c (ev c) x args
    | .Attribute o name apos, [] => mthX (ev c) o name apos pos args
    | _, _ => fBad
  | .Subscript a i _ => match i with
    | .Slice lo hi st _ => match st with
      | none => fSl (ev c a) (lo.map (ev c)) (hi.map (ev c))
      | some _ => fBad
    | i => if plainIx i then fIx (ev c a) (ev c i) else fBad
  | .Tuple es _ _ => if noStar es then fTup (listF (ev c) es) else fBad
  | .List es _ => if noStar es then fLst (listF (ev c) es) else fBad
  | .Dict ks vs _ => match ks, vs with
    | [], [] => fDct0
    | k :: ks, v :: vs => if decide ((k :: ks).length ≤ 15) then (match dctX (ev c) (k :: ks) (v :: vs) with
      | some fs => fDct fs
      | none => fBad) else fBad
    | _, _ => fBad
  | .ListComp elt gs scope _ => lcX c ev elt gs scope
  | _ => fBad

/-- what a name is to hold: a new cell where it says so -/
def alX (c : SC) (f : Expr → FE) (x : Str) (e : Expr) : FE := if c.al x then (if fresh e then fNew (f e) else fBad) else f e
def setX (c : SC) (f : Expr → FE) (x : Str) (e : Expr) : FS :=
  match c.slotW x with
  | some i => sSet i (alX c f x e)
  | none => sBad
/-- x, y = a, b with plain locals on one line -/
def swp2 (c : SC) (x y : Str) (px py : Pos) : Bool := c.isLocal x && c.isLocal y && (px.line == px.line) && (py.line == px.line)
def swp3 (c : SC) (x y z : Str) (px py pz : Pos) : Bool := c.isLocal x && c.isLocal y && c.isLocal z && (px.line == px.line) && (py.line == px.line) && (pz.line == px.line)
def foldS (vs : List Expr) : Bool := vs.all (foldedForSure 8)
def foldC (vs : List Expr) : Bool := vs.all (constantsAlone 8)
/-- a tuple of targets, a written tuple: unpacked from the left -/
def asgT (c : SC) (f : Expr → FE) (tg e : Expr) : FS := match tgtX c 16 tg with
  | some t => sAsg t (f e)
  | none => sBad
/-- the parts of a written tuple, for these targets -/
def alL (c : SC) (f : Expr → FE) : List Expr → List Expr → FL
  | _, [] => fNil
  | [], v :: vs => fCons (f v) (alL c f [] vs)
  | t :: es, v :: vs => match t with
    | .Name x _ => fCons (alX c f x v) (alL c f es vs)
    | _ => fCons (f v) (alL c f es vs)
def asgP (c : SC) (f : Expr → FE) (tg : Expr) (es vs : List Expr) : FS := match tgtX c 16 tg with
  | some t => sAsg t (fTup (alL c f es vs))
  | none => sBad
def parX (c : SC) (f : Expr → FE) (tg e : Expr) (es vs : List Expr) : FS :=
  if !noStar vs then sBad
  else if foldS vs then asgP c f tg es vs
  else match es, vs with
  | [.Name x px, .Name y py], [a, b] =>
    if swp2 c x y px py then
      if foldC [a, b] then sBad else
      match c.slotW x, c.slotW y with
      | some i, some j => if decide (i ≠ j) && !strEq x y then sPar [i, j] (fCons (alX c f x a) (fCons (alX c f y b) fNil)) else sBad
      | _, _ => sBad
    else asgP c f tg es vs
  | [.Name x px, .Name y py, .Name z pz], [a, b, d] =>
    if swp3 c x y z px py pz then
      if foldC [a, b, d] then sBad else
      match c.slotW x, c.slotW y, c.slotW z with
      | some i, some j, some k => if decide (i ≠ j) && decide (i ≠ k) && decide (j ≠ k) && !strEq x y && !strEq x z && !strEq y z then
          sPar [i, j, k] (fCons (alX c f x a) (fCons (alX c f y b) (fCons (alX c f z d) fNil))) else sBad
      | _, _, _ => sBad
    else asgP c f tg es vs
  | es', _ => if decide (es'.length = 2) || decide (es'.length = 3) then sBad else asgP c f tg es vs
def stS (r : Ev) (c : SC) (st : Stmt) : FS :=
  match st with
  | .Expr e _ => match e with
    | .Constant (.str _) _ _ => sNx
    | .Call .. => sDrop (r.e c e)
    | _ => sBad
  | .Pass _ => sNx
  | .Break _ => sBreak
  | .Continue _ => sCont
  | .Return v _ => match v with
    | some e => sRet (r.e c e)
    | none => sRetN
  | .Assign ts e _ => match ts with
    | [.Name x _] => setX c (r.e c) x e
    | [.Tuple es k p] => match e with
      | .Tuple vs k2 p2 => parX c (r.e c) (.Tuple es k p) (.Tuple vs k2 p2) es vs
      | e => asgT c (r.e c) (.Tuple es k p) e
    | [.Subscript o i _] => if plainIx i then sPut (r.e c o) (r.e c i) (r.e c e) else sBad
    | _ => sBad
  | .AugAssign t op e _ => match t with
    | .Name x _ => match c.slotW x with
      | some i => sAug op i (r.e c e)
      | none => sBad
    | .Subscript o i _ => if plainIx i then sAugP op (r.e c o) (r.e c i) (r.e c e) else sBad
    | _ => sBad
  | .If t a b _ => sIf (tstX (r.e c) tstN t) (r.s c a) (r.s c b)
  | .While t b orelse _ => match orelse with
    | [] => sWhl (tstX (r.e c) tstN t) (r.s c b)
    | _ => sBad
  | .For tg it b orelse _ => match orelse with
    | [] => match tgtX c 16 tg with
      | some t => if noSet it then sFor t (iterX c (r.e c) tg it) (r.s c b) else sBad
      | none => sBad
    | _ => sBad
  | _ => sBad
def stSs (r : Ev) (c : SC) : List Stmt → FS
  | [] => sNx
  | [st] => stS r c st
  | st :: rest => sSeq (stS r c st) (stSs r c rest)
def step (r : Ev) : Ev := ⟨fun c e => stE r.e c e, fun c l => stSs r c l⟩
def ev : Nat → Ev
  | 0 => ⟨fun _ _ => fBad, fun _ _ => sBad⟩
  | n + 1 => step (ev n)
/-- how deep a def's text may be -/
def deep : Nat := 40
end Cs

/-! How data stand in the abstract heap. -/
namespace Cs
open PySem L2

def kd : Key → D
  | .inl i => .int i
  | .inr s => .str s
def kdT (k : List Key) : D := .tup (k.map kd)
/-- a tuple whose object is known to bear no dict -/
def TupD (K : PySem.W.Frag) (F : Hp) (a : Addr) : Prop :=
  (∃ (o : Obj) (u : List V), F a = some (.frz o (.tup u)) ∧ o.cls = .type "tuple" ∧ o.dict = none) ∨ ∃ o, K.lookup a = some o ∧ o.cls = .type "tuple" ∧ o.dict = none
/-- a dict that is read: as it is, or locked while it is walked (then it is not empty) -/
def RdE (F : Hp) (a : Addr) (u : HO) : Prop := F a = some u ∨ (u ≠ .dK [] ∧ u ≠ .dT [] ∧ ∃ o, F a = some (.frz o u))
theorem RdE.rd {F : Hp} {a : Addr} {u : HO} (h : RdE F a u) : Rd F a u := h.imp id fun ⟨_, _, q⟩ => q
theorem RdE.mono {F F' : Hp} {a : Addr} {u : HO} (h : RdE F a u) (hF : ∀ a o, F a = some o → F' a = some o) : RdE F' a u :=
  h.imp (hF _ _) fun ⟨h1, h2, o, q⟩ => ⟨h1, h2, o, hF _ _ q⟩
mutual
/-- the value v is the data d: F what stands for ever, ι where the memory's cells stand -/
def Rep (K : PySem.W.Frag) (F : Hp) (ι : List Addr) : D → V → Prop
  | .non, v => v = .non
  | .bl b, v => v = .bl b
  | .int i, v => v = .int i
  | .str s, v => v = .str s
  | .tup ds, v => ∃ a vs, v = .ref a ∧ SqT K F a vs ∧ (keyT ds = true → F a = some (.tup vs)) ∧ (nmT ds = true → TupD K F a) ∧ Reps K F ι ds vs
  | .lst ds, v => ∃ a vs, v = .ref a ∧ F a = some (.lst vs) ∧ Reps K F ι ds vs
  | .scr ds, v => ∃ a vs, v = .ref a ∧ SqL K F a vs ∧ Reps K F ι ds vs
  | .dct ks ws, v => ∃ a, v = .ref a ∧ ((∃ kvs : List (Key × V), RdE F a (.dK kvs) ∧ ks = kvs.map (fun p => kd p.1) ∧ Reps K F ι ws (kvs.map (·.2))) ∨
      ∃ kvs : List (List Key × V), RdE F a (.dT kvs) ∧ ks = kvs.map (fun p => kdT p.1) ∧ Reps K F ι ws (kvs.map (·.2)))
  | .ref n, v => ∃ a, v = .ref a ∧ ι[n]? = some a
def Reps (K : PySem.W.Frag) (F : Hp) (ι : List Addr) : List D → List V → Prop
  | [], vs => vs = []
  | d :: ds, vs => ∃ v r, vs = v :: r ∧ Rep K F ι d v ∧ Reps K F ι ds r
end
/-- what a cell holds -/
def RepC (K : PySem.W.Frag) (F : Hp) (ι : List Addr) : Cell → HO → Prop
  | .lst ds, o => ∃ vs, o = .lst vs ∧ Reps K F ι ds vs
  | .dct ks ws, o => (∃ kvs : List (Key × V), o = .dK kvs ∧ ks = kvs.map (fun p => kd p.1) ∧ Reps K F ι ws (kvs.map (·.2))) ∨
      ∃ kvs : List (List Key × V), o = .dT kvs ∧ ks = kvs.map (fun p => kdT p.1) ∧ Reps K F ι ws (kvs.map (·.2))
  | .ins _ _, _ => False

section
variable {K : PySem.W.Frag} {F F' : Hp} {ι ι' : List Addr}
theorem SqT.mono {a : Addr} {xs : List V} (h : SqT K F a xs) (hF : ∀ a o, F a = some o → F' a = some o) : SqT K F' a xs := by
  rcases h with (h | ⟨o, h⟩) | h
  · exact .inl (.inl (hF _ _ h))
  · exact .inl (.inr ⟨o, hF _ _ h⟩)
  · exact .inr h
theorem SqL.mono {a : Addr} {xs : List V} (h : SqL K F a xs) (hF : ∀ a o, F a = some o → F' a = some o) : SqL K F' a xs := by
  rcases h with (h | ⟨o, h⟩) | h
  · exact .inl (.inl (hF _ _ h))
  · exact .inl (.inr ⟨o, hF _ _ h⟩)
  · exact .inr h
theorem TupD.mono {a : Addr} (h : TupD K F a) (hF : ∀ a o, F a = some o → F' a = some o) : TupD K F' a := by
  rcases h with ⟨o, u, h, r⟩ | h
  · exact .inl ⟨o, u, hF _ _ h, r⟩
  · exact .inr h
mutual
theorem Rep.mono (hF : ∀ a o, F a = some o → F' a = some o) (hi : ∀ (n : Nat) a, ι[n]? = some a → ι'[n]? = some a) : ∀ {d : D} {v : V}, Rep K F ι d v → Rep K F' ι' d v
  | .non, _, h => by simpa [Rep] using h
  | .bl _, _, h => by simpa [Rep] using h
  | .int _, _, h => by simpa [Rep] using h
  | .str _, _, h => by simpa [Rep] using h
  | .tup ds, _, h => by
    simp only [Rep] at h ⊢
    obtain ⟨a, vs, e, q, t, u, r⟩ := h
    exact ⟨a, vs, e, SqT.mono q hF, fun z => hF _ _ (t z), fun z => TupD.mono (u z) hF, Reps.mono hF hi r⟩
  | .lst ds, _, h => by
    simp only [Rep] at h ⊢
    obtain ⟨a, vs, e, q, r⟩ := h
    exact ⟨a, vs, e, hF _ _ q, Reps.mono hF hi r⟩
  | .scr ds, _, h => by
    simp only [Rep] at h ⊢
    obtain ⟨a, vs, e, q, r⟩ := h
    exact ⟨a, vs, e, SqL.mono q hF, Reps.mono hF hi r⟩
  | .dct ks ws, _, h => by
    simp only [Rep] at h ⊢
    obtain ⟨a, e, ⟨kvs, q, e2, r⟩ | ⟨kvs, q, e2, r⟩⟩ := h
    · exact ⟨a, e, .inl ⟨kvs, q.mono hF, e2, Reps.mono hF hi r⟩⟩
    · exact ⟨a, e, .inr ⟨kvs, q.mono hF, e2, Reps.mono hF hi r⟩⟩
  | .ref n, _, h => by
    simp only [Rep] at h ⊢
    obtain ⟨a, e, q⟩ := h
    exact ⟨a, e, hi _ _ q⟩
theorem Reps.mono (hF : ∀ a o, F a = some o → F' a = some o) (hi : ∀ (n : Nat) a, ι[n]? = some a → ι'[n]? = some a) : ∀ {ds : List D} {vs : List V}, Reps K F ι ds vs → Reps K F' ι' ds vs
  | [], _, h => by simpa [Reps] using h
  | d :: ds, _, h => by
    simp only [Reps] at h ⊢
    obtain ⟨v, r, e, h1, h2⟩ := h
    exact ⟨v, r, e, Rep.mono hF hi h1, Reps.mono hF hi h2⟩
end
theorem RepC.mono (hF : ∀ a o, F a = some o → F' a = some o) (hi : ∀ (n : Nat) a, ι[n]? = some a → ι'[n]? = some a) {c : Cell} {o : HO} (h : RepC K F ι c o) : RepC K F' ι' c o := by
  cases c with
  | lst ds =>
    obtain ⟨vs, e, r⟩ := h
    exact ⟨vs, e, Reps.mono hF hi r⟩
  | dct ks ws =>
    obtain ⟨kvs, e, e2, r⟩ | ⟨kvs, e, e2, r⟩ := h
    · exact .inl ⟨kvs, e, e2, Reps.mono hF hi r⟩
    · exact .inr ⟨kvs, e, e2, Reps.mono hF hi r⟩
  | ins _ _ => exact h
theorem Reps.length : ∀ {ds : List D} {vs : List V}, Reps K F ι ds vs → vs.length = ds.length
  | [], _, h => by simp [Reps] at h; simp [h]
  | d :: ds, _, h => by
    simp only [Reps] at h
    obtain ⟨v, r, rfl, _, h2⟩ := h
    simp [Reps.length h2]
theorem Reps.get : ∀ {ds : List D} {vs : List V} {i : Nat} {d : D}, Reps K F ι ds vs → ds[i]? = some d → ∃ v, vs[i]? = some v ∧ Rep K F ι d v
  | [], _, _, _, _, e => by simp at e
  | x :: ds, _, 0, d, h, e => by
    simp only [Reps] at h
    obtain ⟨v, r, rfl, h1, _⟩ := h
    simp at e; subst e
    exact ⟨v, rfl, h1⟩
  | x :: ds, _, i + 1, d, h, e => by
    simp only [Reps] at h
    obtain ⟨v, r, rfl, _, h2⟩ := h
    simpa using Reps.get (i := i) h2 (by simpa using e)
theorem Reps.getV {ds : List D} {vs : List V} {i : Nat} {v : V} (h : Reps K F ι ds vs) (e : vs[i]? = some v) : ∃ d, ds[i]? = some d ∧ Rep K F ι d v := by
  have hl := h.length
  have hi : i < vs.length := by
    by_cases q : i < vs.length
    · exact q
    · rw [List.getElem?_eq_none (by omega)] at e; cases e
  have e2 : ds[i]? = some ds[i] := List.getElem?_eq_getElem (by omega)
  obtain ⟨v', e3, r⟩ := h.get e2
  rw [e] at e3
  cases e3
  exact ⟨_, e2, r⟩
theorem Reps.append : ∀ {ds es : List D} {vs ws : List V}, Reps K F ι ds vs → Reps K F ι es ws → Reps K F ι (ds ++ es) (vs ++ ws)
  | [], _, _, _, h, h' => by simp [Reps] at h; subst h; simpa using h'
  | d :: ds, es, _, ws, h, h' => by
    simp only [Reps] at h
    obtain ⟨v, r, rfl, h1, h2⟩ := h
    simp only [List.cons_append, Reps]
    exact ⟨v, r ++ ws, rfl, h1, Reps.append h2 h'⟩
theorem Reps.take : ∀ {ds : List D} {vs : List V} (n : Nat), Reps K F ι ds vs → Reps K F ι (ds.take n) (vs.take n)
  | _, _, 0, _ => by simp [Reps]
  | [], _, _ + 1, h => by simp [Reps] at h; subst h; simp [Reps]
  | d :: ds, _, n + 1, h => by
    simp only [Reps] at h
    obtain ⟨v, r, rfl, h1, h2⟩ := h
    simp only [List.take_succ_cons, Reps]
    exact ⟨v, _, rfl, h1, Reps.take n h2⟩
theorem Reps.drop : ∀ {ds : List D} {vs : List V} (n : Nat), Reps K F ι ds vs → Reps K F ι (ds.drop n) (vs.drop n)
  | _, _, 0, h => by simpa using h
  | [], _, _ + 1, h => by simp [Reps] at h; subst h; simp [Reps]
  | d :: ds, _, n + 1, h => by
    simp only [Reps] at h
    obtain ⟨v, r, rfl, h1, h2⟩ := h
    simpa using Reps.drop n h2
theorem Reps.set : ∀ {ds : List D} {vs : List V} (i : Nat) {d : D} {v : V}, Reps K F ι ds vs → Rep K F ι d v → Reps K F ι (ds.set i d) (vs.set i v)
  | [], _, _, _, _, h, _ => by simp [Reps] at h; subst h; simp [Reps]
  | x :: ds, _, 0, d, v, h, hv => by
    simp only [Reps] at h
    obtain ⟨w, r, rfl, h1, h2⟩ := h
    simp only [List.set_cons_zero, Reps]
    exact ⟨v, r, rfl, hv, h2⟩
  | x :: ds, _, i + 1, d, v, h, hv => by
    simp only [Reps] at h
    obtain ⟨w, r, rfl, h1, h2⟩ := h
    simp only [List.set_cons_succ, Reps]
    exact ⟨w, _, rfl, h1, Reps.set i h2 hv⟩
theorem Reps.cut {ds : List D} {vs : List V} (lo hi : Option Int) (h : Reps K F ι ds vs) : Reps K F ι (cutD ds lo hi) (cutV vs lo hi) := by
  unfold cutD cutV
  rw [h.length]
  exact (h.drop _).take _
theorem Reps.one {d : D} {v : V} (h : Rep K F ι d v) : Reps K F ι [d] [v] := by simp only [Reps]; exact ⟨v, [], rfl, h, rfl⟩
theorem Reps.cons {d : D} {v : V} {ds : List D} {vs : List V} (h : Rep K F ι d v) (h2 : Reps K F ι ds vs) : Reps K F ι (d :: ds) (v :: vs) := by simp only [Reps]; exact ⟨v, vs, rfl, h, h2⟩
theorem Reps.nil : Reps K F ι [] [] := by simp only [Reps]
theorem Reps.of_cons {d : D} {ds : List D} {vs : List V} (h : Reps K F ι (d :: ds) vs) : ∃ v r, vs = v :: r ∧ Rep K F ι d v ∧ Reps K F ι ds r := by simpa only [Reps] using h
theorem Reps.of_nil {vs : List V} (h : Reps K F ι [] vs) : vs = [] := by simpa only [Reps] using h
theorem Rep.tupI {a : Addr} {ds : List D} {vs : List V} (h : F a = some (.tup vs)) (n : nmT ds = false) (r : Reps K F ι ds vs) : Rep K F ι (.tup ds) (.ref a) := by
  simp only [Rep]
  exact ⟨a, vs, rfl, SqT.of h, fun _ => h, fun z => (by rw [n] at z; cases z), r⟩
theorem nm_key {ds : List D} (h : nmT ds = true) : keyT ds = false := by
  cases ds with
  | nil => cases h
  | cons d r =>
    simp only [nmT] at h
    rw [List.all_cons, Bool.and_eq_true] at h
    unfold keyT
    rw [List.all_cons]
    cases d <;> simp at h ⊢
theorem Rep.tupN {a : Addr} {ds : List D} {vs : List V} {o : Obj} (h : F a = some (.frz o (.tup vs))) (hc : o.cls = .type "tuple") (hd : o.dict = none) (n : nmT ds = true) (r : Reps K F ι ds vs) : Rep K F ι (.tup ds) (.ref a) := by
  simp only [Rep]
  exact ⟨a, vs, rfl, .inl (.inr ⟨o, h⟩), fun z => (by rw [nm_key n] at z; cases z), fun _ => .inl ⟨o, _, h, hc, hd⟩, r⟩
theorem Rep.lstI {a : Addr} {ds : List D} {vs : List V} (h : F a = some (.lst vs)) (r : Reps K F ι ds vs) : Rep K F ι (.lst ds) (.ref a) := by simp only [Rep]; exact ⟨a, vs, rfl, h, r⟩
theorem Rep.tupE {v : V} {ds : List D} (h : Rep K F ι (.tup ds) v) : ∃ a vs, v = .ref a ∧ SqT K F a vs ∧ Reps K F ι ds vs := by
  simp only [Rep] at h
  obtain ⟨a, vs, e, q, _, _, r⟩ := h
  exact ⟨a, vs, e, q, r⟩
theorem Rep.tupK {v : V} {ds : List D} (h : Rep K F ι (.tup ds) v) (k : keyT ds = true) : ∃ a vs, v = .ref a ∧ F a = some (.tup vs) ∧ Reps K F ι ds vs := by
  simp only [Rep] at h
  obtain ⟨a, vs, e, _, t, _, r⟩ := h
  exact ⟨a, vs, e, t k, r⟩
theorem Rep.tupT {v : V} {ds : List D} (h : Rep K F ι (.tup ds) v) (k : nmT ds = true) : ∃ a vs, v = .ref a ∧ SqT K F a vs ∧ TupD K F a ∧ Reps K F ι ds vs := by
  simp only [Rep] at h
  obtain ⟨a, vs, e, q, _, u, r⟩ := h
  exact ⟨a, vs, e, q, u k, r⟩
theorem Rep.scrE {v : V} {ds : List D} (h : Rep K F ι (.scr ds) v) : ∃ a vs, v = .ref a ∧ SqL K F a vs ∧ Reps K F ι ds vs := by simpa only [Rep] using h
theorem Rep.lstE {v : V} {ds : List D} (h : Rep K F ι (.lst ds) v) : ∃ a vs, v = .ref a ∧ F a = some (.lst vs) ∧ Reps K F ι ds vs := by simpa only [Rep] using h
theorem Rep.refE {v : V} {n : Nat} (h : Rep K F ι (.ref n) v) : ∃ a, v = .ref a ∧ ι[n]? = some a := by simpa only [Rep] using h
theorem Rep.intE {v : V} {i : Int} (h : Rep K F ι (.int i) v) : v = .int i := by simpa only [Rep] using h
theorem Rep.strE {v : V} {i : Str} (h : Rep K F ι (.str i) v) : v = .str i := by simpa only [Rep] using h
theorem Rep.blE {v : V} {i : Bool} (h : Rep K F ι (.bl i) v) : v = .bl i := by simpa only [Rep] using h
theorem Rep.nonE {v : V} (h : Rep K F ι .non v) : v = .non := by simpa only [Rep] using h
theorem Rep.intI {i : Int} : Rep K F ι (.int i) (.int i) := by simp only [Rep]
theorem Rep.strI {i : Str} : Rep K F ι (.str i) (.str i) := by simp only [Rep]
theorem Rep.blI {i : Bool} : Rep K F ι (.bl i) (.bl i) := by simp only [Rep]
theorem Rep.nonI : Rep K F ι .non .non := by simp only [Rep]
end

/-! ### the memory, the frame -/
structure SimM (K : PySem.W.Frag) (F : Hp) (ι : List Addr) (m : Mem) (H : Hp) : Prop where
  sub : ∀ a o, F a = some o → H a = some o
  len : ι.length = m.length
  nd : ι.Nodup
  cell : ∀ (n : Nat) a c, ι[n]? = some a → m[n]? = some c → F a = none ∧ ∃ o, H a = some o ∧ RepC K F ι c o
structure Sim (K : PySem.W.Frag) (F : Hp) (ι : List Addr) (e : Sto) (m : Mem) (σ : St) (H : Hp) : Prop where
  mem : SimM K F ι m H
  len : e.length = σ.length
  loc : ∀ (i : Nat) d, e[i]? = some (some d) → ∃ v, σ[i]? = some (some v) ∧ Rep K F ι d v
/-- how the heap goes on -/
structure Ext (F : Hp) (ι : List Addr) (H : Hp) (F' : Hp) (ι' : List Addr) (H' : Hp) : Prop where
  f : ∀ a o, F a = some o → F' a = some o
  n : ∀ a, F' a ≠ none → F a ≠ none ∨ H a = none
  i : ∃ new, ι' = ι ++ new ∧ ∀ a ∈ new, H a = none
  k : ∀ a o, a ∉ ι → H a = some o → H' a = some o
  t : ∀ a, H' a = none → H a = none
theorem Ext.refl (F : Hp) (ι : List Addr) (H : Hp) : Ext F ι H F ι H := ⟨fun _ _ h => h, fun _ h => .inl h, ⟨[], by simp, by simp⟩, fun _ _ _ h => h, fun _ h => h⟩
theorem Ext.trans {F F1 F2 : Hp} {ι ι1 ι2 : List Addr} {H H1 H2 : Hp} (a : Ext F ι H F1 ι1 H1) (b : Ext F1 ι1 H1 F2 ι2 H2) : Ext F ι H F2 ι2 H2 where
  f := fun x o h => b.f x o (a.f x o h)
  n := fun x h => by
    rcases b.n x h with h | h
    · exact a.n x h
    · exact .inr (a.t x h)
  i := by
    obtain ⟨n1, e1, h1⟩ := a.i
    obtain ⟨n2, e2, h2⟩ := b.i
    refine ⟨n1 ++ n2, by rw [e2, e1, List.append_assoc], fun x hx => ?_⟩
    rcases List.mem_append.mp hx with hx | hx
    · exact h1 x hx
    · exact a.t x (h2 x hx)
  k := fun x o hx h => by
    obtain ⟨n1, e1, h1⟩ := a.i
    refine b.k x o ?_ (a.k x o hx h)
    rw [e1]
    intro q
    rcases List.mem_append.mp q with q | q
    · exact hx q
    · rw [h1 x q] at h; cases h
  t := fun x h => a.t x (b.t x h)
theorem Ext.ι {F F1 : Hp} {ι ι1 : List Addr} {H H1 : Hp} (a : Ext F ι H F1 ι1 H1) : ∀ (n : Nat) x, ι[n]? = some x → ι1[n]? = some x := fun n x h => by
  obtain ⟨n1, e1, _⟩ := a.i
  have : n < ι.length := by
    by_cases q : n < ι.length
    · exact q
    · rw [List.getElem?_eq_none (by omega)] at h; cases h
  rw [e1, List.getElem?_append_left this]
  exact h
section
variable {K : PySem.W.Frag} {F F1 : Hp} {ι ι1 : List Addr} {H H1 : Hp} {e : Sto} {m m1 : Mem} {σ : St}
theorem Rep.ext {d : D} {v : V} (h : Rep K F ι d v) (x : Ext F ι H F1 ι1 H1) : Rep K F1 ι1 d v := h.mono x.f x.ι
theorem Reps.ext {d : List D} {v : List V} (h : Reps K F ι d v) (x : Ext F ι H F1 ι1 H1) : Reps K F1 ι1 d v := h.mono x.f x.ι
/-- the frame stays as it was -/
theorem Sim.ext (s : Sim K F ι e m σ H) (x : Ext F ι H F1 ι1 H1) (sm : SimM K F1 ι1 m1 H1) : Sim K F1 ι1 e m1 σ H1 :=
  ⟨sm, s.len, fun i d h => let ⟨v, e, r⟩ := s.loc i d h; ⟨v, e, r.ext x⟩⟩
theorem Sim.set (s : Sim K F ι e m σ H) {i : Nat} {d : D} {v : V} (r : Rep K F ι d v) : Sim K F ι (e.set i (some d)) m (σ.set i (some v)) H := by
  refine ⟨s.mem, by rw [List.length_set, List.length_set]; exact s.len, fun j d' h => ?_⟩
  by_cases q : i = j
  · subst q
    have hi : i < e.length := by
      by_cases q : i < e.length
      · exact q
      · rw [List.getElem?_eq_none (by rw [List.length_set]; omega)] at h; cases h
    rw [List.getElem?_set_self hi] at h
    cases h
    exact ⟨v, List.getElem?_set_self (by rw [← s.len]; exact hi), r⟩
  · rw [List.getElem?_set_ne q] at h
    rw [List.getElem?_set_ne q]
    exact s.loc j d' h
theorem Sim.wipe (s : Sim K F ι e m σ H) : ∀ own : List Nat, Sim K F ι (Cs.wipe e own) m (L2.wipe σ own) H
  | [] => s
  | i :: r => by
    have ih := Sim.wipe s r
    show Sim K F ι ((Cs.wipe e r).set i none) m ((L2.wipe σ r).set i none) H
    refine ⟨ih.mem, by rw [List.length_set, List.length_set]; exact ih.len, fun j d h => ?_⟩
    by_cases q : i = j
    · subst q
      rw [List.getElem?_set_self'] at h
      cases z : (Cs.wipe e r)[i]? with
      | none => rw [z] at h; simp at h
      | some _ => rw [z] at h; simp at h
    · rw [List.getElem?_set_ne q] at h ⊢
      exact ih.loc j d h
/-- a new immutable object -/
theorem SimM.freeze (s : SimM K F ι m H) {p : Addr} {o : HO} (hF : F p = none) (hi : p ∉ ι) (hH : H p = some o) : SimM K (upd F p o) ι m H := by
  have hf : ∀ a u, F a = some u → upd F p o a = some u := fun a u h => by
    by_cases q : a = p
    · subst q; rw [hF] at h; cases h
    · rw [upd_ne q]; exact h
  refine ⟨fun a u h => ?_, s.len, s.nd, fun n a c h1 h2 => ?_⟩
  · by_cases q : a = p
    · subst q; rw [upd_same] at h; cases h; exact hH
    · rw [upd_ne q] at h; exact s.sub a u h
  · obtain ⟨h3, u, h4, r⟩ := s.cell n a c h1 h2
    have q : a ≠ p := fun z => hi (z ▸ List.mem_of_getElem? h1)
    exact ⟨by rw [upd_ne q]; exact h3, u, h4, r.mono hf fun _ _ h => h⟩
/-- an address that is free in the heap -/
theorem SimM.notin (s : SimM K F ι m H) {p : Addr} (h : H p = none) : p ∉ ι ∧ F p = none := by
  refine ⟨fun q => ?_, ?_⟩
  · obtain ⟨n, e⟩ := List.getElem?_of_mem q
    have hn : n < ι.length := by
      by_cases q : n < ι.length
      · exact q
      · rw [List.getElem?_eq_none (by omega)] at e; cases e
    have hm : n < m.length := by rw [← s.len]; exact hn
    have e2 : m[n]? = some m[n] := List.getElem?_eq_getElem hm
    obtain ⟨_, o, h2, _⟩ := s.cell n p _ e e2
    rw [h] at h2; cases h2
  · cases q : F p with
    | none => rfl
    | some o => rw [s.sub p o q] at h; cases h
/-- a new object in the heap, known to no one -/
theorem SimM.grow (s : SimM K F ι m H) {p : Addr} {o : HO} (h : H p = none) : SimM K F ι m (upd H p o) := by
  obtain ⟨h1, h2⟩ := s.notin h
  refine ⟨fun a u q => ?_, s.len, s.nd, fun n a c e1 e2 => ?_⟩
  · have z : a ≠ p := fun z => by subst z; rw [h2] at q; cases q
    rw [upd_ne z]; exact s.sub a u q
  · obtain ⟨h3, u, h4, r⟩ := s.cell n a c e1 e2
    have z : a ≠ p := fun z => h1 (z ▸ List.mem_of_getElem? e1)
    exact ⟨h3, u, by rw [upd_ne z]; exact h4, r⟩
theorem Ext.grow {p : Addr} {o : HO} (h : H p = none) : Ext F ι H F ι (upd H p o) where
  f := fun _ _ q => q
  n := fun _ q => .inl q
  i := ⟨[], by simp, by simp⟩
  k := fun a u _ q => by rw [upd_ne (fun z => by subst z; rw [h] at q; cases q)]; exact q
  t := fun a q => by
    by_cases z : a = p
    · subst z; exact h
    · rw [upd_ne z] at q; exact q
/-- a new object that stands for ever -/
theorem SimM.laid (s : SimM K F ι m H) {p : Addr} {o : HO} (h : H p = none) : SimM K (upd F p o) ι m (upd H p o) := by
  obtain ⟨h1, h2⟩ := s.notin h
  exact (s.grow h).freeze h2 h1 upd_same
theorem Ext.laid (s : SimM K F ι m H) {p : Addr} {o : HO} (h : H p = none) : Ext F ι H (upd F p o) ι (upd H p o) where
  f := fun a u q => by rw [upd_ne (fun z => by subst z; rw [(s.notin h).2] at q; cases q)]; exact q
  n := fun a q => by
    by_cases z : a = p
    · subst z; exact .inr h
    · rw [upd_ne z] at q; exact .inl q
  i := ⟨[], by simp, by simp⟩
  k := (Ext.grow (F := F) (ι := ι) h).k
  t := (Ext.grow (F := F) (ι := ι) h).t
end
end Cs

/-! Readings of the interpreter's meanings; the rules for expressions. -/
namespace Cs
open PySem L2 PySem.Spec

/-- what is wished of an exception -/
abbrev EW := Exc → Hp → List Addr → Mem → St → Hp → Prop
/-- how an answer stands: the heap ahead of all, what stands for ever, the cells, the heap -/
abbrev AR (α β : Type) := Hp → Hp → List Addr → Hp → α → β → Prop
def Out {α β : Type} (K : PySem.W.Frag) (W : EW) (R : AR α β) (F : Hp) (ι : List Addr) (σ : St) (H : Hp) (r : Res α) (Q : β → Hp → Prop) : Prop :=
  match r with
  | .ok a m => ∀ b F' ι' H', Ext F ι H F' ι' H' → SimM K F' ι' m H' → R H F' ι' H' a b → Q b H'
  | .exc x m => ∀ F' ι' H', Ext F ι H F' ι' H' → SimM K F' ι' m H' → W x F' ι' m σ H'
  | .bad => False
def T {α β : Type} (K : PySem.W.Frag) (W : EW) (R : AR α β) (f : Sto → Mem → Res α) : St → Hp → (β → Hp → Prop) → Prop := fun σ H Q =>
  ∃ F ι m e, Sim K F ι e m σ H ∧ Out K W R F ι σ H (f e m) Q
/-- an answer that does not lean on the heap ahead -/
def Down {α β : Type} (R : AR α β) : Prop := ∀ F ι H F1 ι1 H1 F' ι' H' a b, Ext F ι H F1 ι1 H1 → R H1 F' ι' H' a b → R H F' ι' H' a b
def RV (K : PySem.W.Frag) : AR D V := fun _ F ι _ d v => Rep K F ι d v
def RL (K : PySem.W.Frag) : AR (List D) (List V) := fun _ F ι _ d v => Reps K F ι d v
def RB : AR Bool Bool := fun _ _ _ _ a b => a = b
def RO : AR (Option Int) (Option Int) := fun _ _ _ _ a b => a = b
/-- a list or a dict is a new object that no one knows -/
def RN (K : PySem.W.Frag) : AR D V := fun H0 F ι H d v =>
  match d with
  | .lst ds => ∃ p vs, v = .ref p ∧ H0 p = none ∧ F p = none ∧ p ∉ ι ∧ H p = some (.lst vs) ∧ Reps K F ι ds vs
  | .dct ks ws => ∃ p o, v = .ref p ∧ H0 p = none ∧ F p = none ∧ p ∉ ι ∧ H p = some o ∧ RepC K F ι (.dct ks ws) o
  | d => Rep K F ι d v
theorem RV.down {K : PySem.W.Frag} : Down (RV K) := fun _ _ _ _ _ _ _ _ _ _ _ _ h => h
theorem RL.down {K : PySem.W.Frag} : Down (RL K) := fun _ _ _ _ _ _ _ _ _ _ _ _ h => h
theorem RB.down : Down RB := fun _ _ _ _ _ _ _ _ _ _ _ _ h => h
theorem RO.down : Down RO := fun _ _ _ _ _ _ _ _ _ _ _ _ h => h
theorem RN.down {K : PySem.W.Frag} : Down (RN K) := fun F ι H F1 ι1 H1 F' ι' H' a b x h => by
  unfold RN at h ⊢
  split at h
  · obtain ⟨p, vs, e, h0, r⟩ := h
    exact ⟨p, vs, e, x.t _ h0, r⟩
  · obtain ⟨p, vs, e, h0, r⟩ := h
    exact ⟨p, vs, e, x.t _ h0, r⟩
  · exact h
section
variable {K : PySem.W.Frag} {W : EW} {α β γ δ : Type} {R : AR α β} {F F' F1 : Hp} {ι ι' ι1 : List Addr} {H H' H1 : Hp} {σ : St} {m : Mem} {e : Sto}
theorem Out.shift {r : Res α} {Q : β → Hp → Prop} (h : Out K W R F ι σ H r Q) (x : Ext F ι H F1 ι1 H1) (hR : Down R) : Out K W R F1 ι1 σ H1 r Q := by
  cases r with
  | ok a m => exact fun b F' ι' H' x' s r => h b F' ι' H' (x.trans x') s (hR _ _ _ _ _ _ _ _ _ _ _ x r)
  | exc y m => exact fun F' ι' H' x' s => h F' ι' H' (x.trans x') s
  | bad => exact h
/-- the answer as it stands -/
theorem Out.now {a : α} {b : β} {Q : β → Hp → Prop} (h : Out K W R F ι σ H (.ok a m) Q) (s : SimM K F ι m H) (r : R H F ι H a b) : Q b H := h b F ι H (Ext.refl _ _ _) s r
theorem Out.of {a : α} {b : β} {Q : β → Hp → Prop} (h : Out K W R F ι σ H (.ok a m) Q) (x : Ext F ι H F1 ι1 H1) (s : SimM K F1 ι1 m H1) (r : R H F1 ι1 H1 a b) : Q b H1 := h b F1 ι1 H1 x s r
/-- one part first, then the rest -/
theorem Obnd {R' : AR γ δ} {f : Sto → Mem → Res α} {g : α → Mem → Res γ} {Q : δ → Hp → Prop} {P : β → Hp → Prop} (hR' : Down R') (s : Sim K F ι e m σ H)
    (o : Out K W R' F ι σ H (bnd (f e m) g) Q)
    (k : ∀ x F1 ι1 H1 m1 a, Sim K F1 ι1 e m1 σ H1 → R H F1 ι1 H1 a x → Ext F ι H F1 ι1 H1 → Out K W R' F1 ι1 σ H1 (g a m1) Q → P x H1) : T K W R f σ H P := by
  refine ⟨F, ι, m, e, s, ?_⟩
  cases q : f e m with
  | ok a m1 =>
    rw [q] at o
    have o : Out K W R' F ι σ H (g a m1) Q := o
    exact fun b F' ι' H' x sm r => k b F' ι' H' m1 a (s.ext x sm) r x (o.shift x hR')
  | exc y m1 =>
    rw [q] at o
    exact o
  | bad =>
    rw [q] at o
    exact o
end

/-- where the interpreter stands is where the code stands -/
structure Ctx (X : Cx) (c : SC) (W : EW) : Prop where
  N : X.N = c.N
  nd : X.N.Nodup
  sc : X.env.scope = c.sc
  calm : X.calm = true
  room : Room 0 X.A
  glob : ∀ x d, c.G x = some d → ∃ u v, X.mg x = some u ∧ RelV v u ∧ ∀ F ι, Rep X.K F ι d v
  bl : ∀ x, c.bl x = true → X.mg x = none
  wr : ∀ x, c.loc x = true → L2.Loc X.env.scope x ∧ (X.fn x = true ∨ X.env.scope.names.lookup x = some .local)
  pass : PassesOwn (model X.prog X.w) X.A X.env X.xe
section
variable {X : Cx} {c : SC} {W : EW} {e : Expr} {t t' : TE}
theorem PE.weak (h : PE X e t) (k : ∀ σ H Q, t' σ H Q → t σ H Q) : PE X e t' := ⟨fun pins s σ H Q I q => h.run pins s σ H Q I (k σ H Q q)⟩
theorem PT.weak {t t' : TT} (h : PT X e t) (k : ∀ σ H Q, t' σ H Q → t σ H Q) : PT X e t' := ⟨fun pins s σ H Q I q => h.run pins s σ H Q I (k σ H Q q)⟩
theorem PA.weak {t t' : TA} {es : List Expr} (h : PA X es t) (k : ∀ σ H Q, t' σ H Q → t σ H Q) : PA X es t' := ⟨fun pos pins s σ H Q I q => h.run pos pins s σ H Q I (k σ H Q q)⟩
theorem Ctx.vis (x : Ctx X c W) {n : Str} (h : c.vis n = true) : Vis X.env.scope n := by
  unfold SC.vis at h
  rw [Bool.and_eq_true] at h
  replace h := h.2
  unfold Vis
  rw [x.sc, ← lkp_lookup]
  split at h
  · exact .inl (by assumption)
  · exact .inr (.inl (by assumption))
  · exact .inr (.inr (by assumption))
  · cases h
theorem Ctx.gl (x : Ctx X c W) {n : Str} (h : c.gl n = true) : Gl X n := by
  unfold SC.gl at h
  rw [Bool.and_eq_true] at h
  replace h := h.2
  unfold Gl Env.kindOf
  rw [x.sc, ← lkp_lookup]
  split at h <;> first | assumption | cases h
theorem SC.okV {c : SC} {n : Str} (h : c.vis n = true) : okN n = true := by
  unfold SC.vis at h
  rw [Bool.and_eq_true] at h
  exact h.1
theorem SC.okG {c : SC} {n : Str} (h : c.gl n = true) : okN n = true := by
  unfold SC.gl at h
  rw [Bool.and_eq_true] at h
  exact h.1
theorem Ctx.slot (x : Ctx X c W) {n : Str} {i : Nat} (h : c.slot n = some i) : X.N[i]? = some n ∧ Vis X.env.scope n ∧ okN n = true := by
  unfold SC.slot at h
  split at h
  · exact ⟨by rw [x.N]; exact ixOf_get h, x.vis (by assumption), SC.okV (by assumption)⟩
  · cases h
theorem Ctx.slotW (x : Ctx X c W) {n : Str} {i : Nat} (h : c.slotW n = some i) : X.N[i]? = some n ∧ L2.Loc X.env.scope n ∧ (X.fn n = true ∨ X.env.scope.names.lookup n = some .local) := by
  unfold SC.slotW at h
  split at h
  · exact ⟨by rw [x.N]; exact ixOf_get h, (x.wr _ (by assumption)).1, (x.wr _ (by assumption)).2⟩
  · cases h
theorem Ctx.hu (x : Ctx X c W) : X.A.units + 200 < cLine := by have := x.room.un; omega

/-! ### a part that is not bound to be new -/
theorem frz {K : PySem.W.Frag} {f : FE} {σ : St} {H : Hp} {Q : VK} (h : T K W (RV K) f σ H Q) : T K W (RN K) f σ H Q := by
  obtain ⟨F, ι, m, en, s, o⟩ := h
  refine ⟨F, ι, m, en, s, ?_⟩
  cases q : f en m with
  | ok d m1 =>
    rw [q] at o
    refine fun v F' ι' H' x sm r => ?_
    unfold RN at r
    split at r
    · obtain ⟨p, vs, rfl, h0, hF, hi, hH, rs⟩ := r
      have xx : Ext F ι H (upd F' p (.lst vs)) ι' H' := by
        refine ⟨fun a u z => ?_, fun a z => ?_, x.i, x.k, x.t⟩
        · by_cases w : a = p
          · subst w; rw [x.f _ _ z] at hF; cases hF
          · rw [upd_ne w]; exact x.f _ _ z
        · by_cases w : a = p
          · subst w; exact .inr h0
          · rw [upd_ne w] at z; exact x.n a z
      have sf := sm.freeze (o := .lst vs) hF hi hH
      refine o _ _ _ _ xx sf (Rep.lstI upd_same (rs.mono (fun a u z => ?_) fun _ _ z => z))
      rw [upd_ne (fun w => by subst w; rw [hF] at z; cases z)]; exact z
    · rename_i ks ws
      obtain ⟨p, u, rfl, h0, hF, hi, hH, rs⟩ := r
      have xx : Ext F ι H (upd F' p u) ι' H' := by
        refine ⟨fun a u z => ?_, fun a z => ?_, x.i, x.k, x.t⟩
        · by_cases w : a = p
          · subst w; rw [x.f _ _ z] at hF; cases hF
          · rw [upd_ne w]; exact x.f _ _ z
        · by_cases w : a = p
          · subst w; exact .inr h0
          · rw [upd_ne w] at z; exact x.n a z
      have sf := sm.freeze (o := u) hF hi hH
      have mono : ∀ a o, F' a = some o → upd F' p u a = some o := fun a o z => by
        rw [upd_ne (fun w => by subst w; rw [hF] at z; cases z)]; exact z
      refine o _ _ _ _ xx sf ?_
      show Rep K (upd F' p u) ι' (.dct ks ws) (.ref p)
      simp only [Rep]
      refine ⟨p, rfl, ?_⟩
      obtain ⟨kvs, e1, e2, r⟩ | ⟨kvs, e1, e2, r⟩ := rs
      · exact .inl ⟨kvs, .inl (by rw [upd_same, e1]), e2, r.mono mono fun _ _ z => z⟩
      · exact .inr ⟨kvs, .inl (by rw [upd_same, e1]), e2, r.mono mono fun _ _ z => z⟩
    · exact o _ _ _ _ x sm r
  | exc y m1 =>
    rw [q] at o
    exact o
  | bad =>
    rw [q] at o
    exact o
theorem PE.frz {f : FE} (h : PE X e (T X.K W (RN X.K) f)) : PE X e (T X.K W (RV X.K) f) := PE.weak h fun σ H Q h => Cs.frz h

/-! ### values -/
section
variable {K : PySem.W.Frag} {F : Hp} {ι : List Addr} {H : Hp} {m : Mem}
theorem SqL.sub {a : Addr} {xs : List V} (h : SqL K F a xs) (s : SimM K F ι m H) : SqL K H a xs := SqL.mono h s.sub
theorem SqT.sub {a : Addr} {xs : List V} (h : SqT K F a xs) (s : SimM K F ι m H) : SqT K H a xs := SqT.mono h s.sub
theorem SimM.at (s : SimM K F ι m H) {n : Nat} {a : Addr} {c : Cell} (h : ι[n]? = some a) (hc : m[n]? = some c) : ∃ o, H a = some o ∧ RepC K F ι c o := (s.cell n a c h hc).2
theorem res_ref (m : Mem) (n : Nat) : res m (.ref n) = match m[n]? with
    | some (.lst ds) => .lst ds
    | some (.dct ks vs) => .dct ks vs
    | _ => .ref n := rfl
/-- a list, by its value -/
theorem Rep.isLst (s : SimM K F ι m H) {d : D} {v : V} {ds : List D} (r : Rep K F ι d v) (h : res m d = .lst ds) : ∃ p vs, v = .ref p ∧ SqL K H p vs ∧ Reps K F ι ds vs := by
  cases d with
  | lst es =>
    have e : es = ds := by simpa [res] using h
    subst e
    obtain ⟨a, vs, rfl, q, rs⟩ := r.lstE
    exact ⟨a, vs, rfl, SqL.of (s.sub _ _ q), rs⟩
  | scr es =>
    have e : es = ds := by simpa [res] using h
    subst e
    obtain ⟨a, vs, rfl, q, rs⟩ := r.scrE
    exact ⟨a, vs, rfl, SqL.sub q s, rs⟩
  | ref n =>
    obtain ⟨a, rfl, q⟩ := r.refE
    rw [res_ref] at h
    cases z : m[n]? with
    | none => rw [z] at h; cases h
    | some c =>
      rw [z] at h
      cases c with
      | lst es =>
        cases h
        obtain ⟨o, h2, vs, rfl, rs⟩ := s.at q z
        exact ⟨a, vs, rfl, SqL.of h2, rs⟩
      | dct _ _ => cases h
      | ins _ _ => cases h
  | _ => simp [res] at h
/-- a list that is tracked -/
theorem Rep.isLstT (s : SimM K F ι m H) {d : D} {v : V} {ds : List D} (r : Rep K F ι d v) (h : lstX m d = some ds) : ∃ p vs, v = .ref p ∧ H p = some (.lst vs) ∧ Reps K F ι ds vs := by
  cases d with
  | lst es =>
    have e : es = ds := by simpa [lstX, lstD, res] using h
    subst e
    obtain ⟨a, vs, rfl, q, rs⟩ := r.lstE
    exact ⟨a, vs, rfl, s.sub _ _ q, rs⟩
  | ref n =>
    obtain ⟨a, rfl, q⟩ := r.refE
    have h : lstD m (.ref n) = some ds := h
    unfold lstD at h
    rw [res_ref] at h
    cases z : m[n]? with
    | none => rw [z] at h; cases h
    | some c =>
      rw [z] at h
      cases c with
      | lst es =>
        cases h
        obtain ⟨o, h2, vs, rfl, rs⟩ := s.at q z
        exact ⟨a, vs, rfl, h2, rs⟩
      | dct _ _ => cases h
      | ins _ _ => cases h
  | _ => simp [lstX, lstD, res] at h
theorem Rep.isTup (s : SimM K F ι m H) {d : D} {v : V} {ds : List D} (r : Rep K F ι d v) (h : res m d = .tup ds) : ∃ p vs, v = .ref p ∧ SqT K H p vs ∧ Reps K F ι ds vs ∧ Rep K F ι (.tup ds) (.ref p) := by
  cases d with
  | tup es =>
    have e : es = ds := by simpa [res] using h
    subst e
    obtain ⟨a, vs, rfl, q, rs⟩ := r.tupE
    exact ⟨a, vs, rfl, SqT.sub q s, rs, r⟩
  | ref n =>
    rw [res_ref] at h
    cases z : m[n]? with
    | none => rw [z] at h; cases h
    | some c =>
      rw [z] at h
      cases c <;> cases h
  | _ => simp [res] at h
theorem Rep.isInt {d : D} {v : V} {i : Int} (r : Rep K F ι d v) (h : res m d = .int i) : v = .int i := by
  cases d with
  | int j =>
    have e : j = i := by simpa [res] using h
    subst e
    exact r.intE
  | ref n =>
    rw [res_ref] at h
    cases z : m[n]? with
    | none => rw [z] at h; cases h
    | some c =>
      rw [z] at h
      cases c <;> cases h
  | _ => simp [res] at h
theorem Rep.isStr {d : D} {v : V} {i : Str} (r : Rep K F ι d v) (h : res m d = .str i) : v = .str i := by
  cases d with
  | str j =>
    have e : j = i := by simpa [res] using h
    subst e
    exact r.strE
  | ref n =>
    rw [res_ref] at h
    cases z : m[n]? with
    | none => rw [z] at h; cases h
    | some c =>
      rw [z] at h
      cases c <;> cases h
  | _ => simp [res] at h
/-- a new tuple comes: tracked as such, or with its object -/
def NewT (H : Hp) (vs : List V) (Q : VK) : Prop := ∀ p o, H p = none → o.cls = .type "tuple" → o.dict = none → Q (.ref p) (upd H p (.tup vs)) ∨ Q (.ref p) (upd H p (.frz o (.tup vs)))
theorem SimM.newT (s : SimM K F ι m H) {ds : List D} {vs : List V} {Q : VK} (r : Reps K F ι ds vs) (q : ∀ v F' H', Ext F ι H F' ι H' → SimM K F' ι m H' → Rep K F' ι (.tup ds) v → Q v H') : NewT H vs Q := by
  intro p o h hc hd
  cases n : nmT ds with
  | false => exact .inl (q _ _ _ (Ext.laid s h) (s.laid h) (Rep.tupI upd_same n (r.mono (Ext.laid s h (o := .tup vs)).f fun _ _ z => z)))
  | true => exact .inr (q _ _ _ (Ext.laid s h) (s.laid h) (Rep.tupN upd_same hc hd n (r.mono (Ext.laid s h (o := .frz o (.tup vs))).f fun _ _ z => z)))
/-- a new list, known to no one -/
theorem SimM.newL (s : SimM K F ι m H) {p : Addr} {ds : List D} {vs : List V} (h : H p = none) (r : Reps K F ι ds vs) :
    Ext F ι H F ι (upd H p (.lst vs)) ∧ SimM K F ι m (upd H p (.lst vs)) ∧ RN K H F ι (upd H p (.lst vs)) (.lst ds) (.ref p) :=
  ⟨Ext.grow h, s.grow h, ⟨p, vs, rfl, h, (s.notin h).2, (s.notin h).1, upd_same, r⟩⟩
end
end
end Cs

/-! The rules for expressions: names, constants, operators. -/
namespace Cs
open PySem L2 PySem.Spec
abbrev TV (X : Cx) (W : EW) (f : FE) : TE := T X.K W (RV X.K) f
abbrev TN (X : Cx) (W : EW) (f : FE) : TE := T X.K W (RN X.K) f
abbrev TLs (X : Cx) (W : EW) (f : FL) : TA := T X.K W (RL X.K) f
abbrev TBl (X : Cx) (W : EW) (f : FB) : TT := T X.K W RB f
section
variable {X : Cx} {c : SC} {W : EW} {a b e : Expr} {fa fb f : FE} {pos : Pos} {x : Str}
theorem d_bad : PE X e (TV X W fBad) := ⟨fun _ _ _ _ _ _ ⟨_, _, _, _, _, o⟩ => False.elim o⟩
theorem d_badN : PE X e (TN X W fBad) := ⟨fun _ _ _ _ _ _ ⟨_, _, _, _, _, o⟩ => False.elim o⟩
theorem d_var (C : Ctx X c W) {i : Nat} (h : c.slot x = some i) : PE X (.Name x pos) (TV X W (fVar i)) := by
  obtain ⟨h1, h2, h3⟩ := C.slot h
  refine PE.weak (pe_var h1 h2 (okN_debug h3) (okN_dict h3)) fun σ H Q ⟨F, ι, m, en, s, o⟩ => ?_
  unfold fVar at o
  split at o
  · rename_i d q
    obtain ⟨v, e1, r⟩ := s.loc i d q
    exact ⟨v, e1, o.now s.mem r⟩
  · exact False.elim o
theorem d_glob (C : Ctx X c W) {d : D} (hg : c.gl x = true) (h : c.G x = some d) : PE X (.Name x pos) (TV X W (fCon d)) := by
  obtain ⟨u, v, h1, h2, h3⟩ := C.glob x d h
  refine PE.weak (pe_glob (C.gl hg) h1 h2 (okN_debug (SC.okG hg))) fun σ H Q ⟨F, ι, m, en, s, o⟩ => ?_
  exact o.now s.mem (h3 F ι)
theorem d_int {i : Int} {j : Nat} : PE X (.Constant (.int i) j pos) (TV X W (fCon (.int i))) := PE.weak pe_int fun σ H Q ⟨F, ι, m, en, s, o⟩ => o.now s.mem Rep.intI
theorem d_str {i : Str} {j : Nat} : PE X (.Constant (.str i) j pos) (TV X W (fCon (.str i))) := PE.weak pe_str fun σ H Q ⟨F, ι, m, en, s, o⟩ => o.now s.mem Rep.strI
theorem d_bl {i : Bool} {j : Nat} : PE X (.Constant (.bool i) j pos) (TV X W (fCon (.bl i))) := PE.weak pe_bl fun σ H Q ⟨F, ι, m, en, s, o⟩ => o.now s.mem Rep.blI
theorem d_non {j : Nat} : PE X (.Constant .none j pos) (TV X W (fCon .non)) := PE.weak pe_non fun σ H Q ⟨F, ι, m, en, s, o⟩ => o.now s.mem Rep.nonI

/-! ### operators by values -/
/-- an operation on two values of data -/
def r2 (K : PySem.W.Frag) (R : AR D V) (g : D → D → Mem → Option D) : R2 := fun x y H Q =>
  ∃ F ι m a b d, SimM K F ι m H ∧ Rep K F ι a x ∧ Rep K F ι b y ∧ g a b m = some d ∧ ∀ v F' ι' H', Ext F ι H F' ι' H' → SimM K F' ι' m H' → R H F' ι' H' d v → Q v H'
def r1 (K : PySem.W.Frag) (R : AR D V) (g : D → Mem → Option D) : V → Hp → VK → Prop := fun x H Q =>
  ∃ F ι m a d, SimM K F ι m H ∧ Rep K F ι a x ∧ g a m = some d ∧ ∀ v F' ι' H', Ext F ι H F' ι' H' → SimM K F' ι' m H' → R H F' ι' H' d v → Q v H'
theorem ofO_out {K : PySem.W.Frag} {R : AR D V} {F : Hp} {ι : List Addr} {σ : L2.St} {H : Hp} {m : Mem} {o : Option D} {Q : V → Hp → Prop} (h : Out K W R F ι σ H (ofO m o) Q) :
    ∃ d, o = some d ∧ ∀ v F' ι' H', Ext F ι H F' ι' H' → SimM K F' ι' m H' → R H F' ι' H' d v → Q v H' := by
  cases o with
  | none => exact False.elim h
  | some d => exact ⟨d, rfl, h⟩
theorem T2 {K : PySem.W.Frag} {R : AR D V} (hR : Down R) {g : D → D → Mem → Option D} {σ : L2.St} {H : Hp} {Q : VK} (h : T K W R (f2 (fun a b m => ofO m (g a b m)) fa fb) σ H Q) :
    T K W (RV K) fa σ H fun x H1 => T K W (RV K) fb σ H1 fun y H2 => r2 K R g x y H2 Q := by
  obtain ⟨F, ι, m, e, s, o⟩ := h
  refine Obnd hR s o fun x F1 ι1 H1 m1 a s1 r1 x1 o1 => ?_
  refine Obnd hR s1 o1 fun y F2 ι2 H2 m2 b s2 r2 x2 o2 => ?_
  obtain ⟨d, e1, q⟩ := ofO_out o2
  exact ⟨F2, ι2, m2, a, b, d, s2.mem, Rep.ext r1 x2, r2, e1, q⟩
theorem T1 {K : PySem.W.Frag} {R : AR D V} (hR : Down R) {g : D → Mem → Option D} {σ : L2.St} {H : Hp} {Q : VK} (h : T K W R (f1 (fun a m => ofO m (g a m)) fa) σ H Q) :
    T K W (RV K) fa σ H fun x H1 => r1 K R g x H1 Q := by
  obtain ⟨F, ι, m, e, s, o⟩ := h
  refine Obnd hR s o fun x F1 ι1 H1 m1 a s1 r1 x1 o1 => ?_
  obtain ⟨d, e1, q⟩ := ofO_out o1
  exact ⟨F1, ι1, m1, a, d, s1.mem, r1, e1, q⟩

/-! ### + - * // % ** -/
open PyProof.Rows in
theorem op_catL : OpR X (binaryOp .Add) (fun x y H Q => ∃ l b xs zs, x = .ref l ∧ y = .ref b ∧ SqL X.K H l xs ∧ SqL X.K H b zs ∧ xs.length + zs.length ≤ sizeLine ∧ ∀ p, H p = none → Q (.ref p) (upd H p (.lst (xs ++ zs)))) := by
  intro pins s σ H x y v u Q I rx ry h
  obtain ⟨l, b, xs, zs, rfl, rfl, hH, hB, hz, q⟩ := h
  cases rx
  cases ry
  obtain ⟨its, r, ⟨⟨cls, dd, data, sl⟩, n, ho, hc, _, hd⟩, _⟩ := I.list hH
  obtain ⟨its2, r2, ⟨⟨cls2, dd2, data2, sl2⟩, n2, ho2, hc2, _, hd2⟩, _⟩ := I.list hB
  have hl := r.length
  have hl2 := r2.length
  simp only at hc hd hc2 hd2
  subst hc hd hc2 hd2
  have e : its.toArray ++ its2.toArray = (its ++ its2).toArray := by simp
  refine concat_meets ⟨_, ho, rfl⟩ ⟨_, ho2, rfl⟩ noFill_list_add seq_list_add PySem.F.slot_list_add PySem.F.entry_list_add (PySem.F.args_list_add_2 _ _) (list_addW l b its.toArray its2.toArray n n2 dd dd2 sl sl2 (by rw [List.size_toArray, List.size_toArray]; omega)) ⟨ho, ho2, ?_⟩
  rw [e]
  exact ⟨.ref _, _, I.lnew (t' := s.toks) (r.append r2) (by rw [List.length_append]; omega), rfl, q _ I.fresh⟩
open PyProof.Rows in
theorem op_mulS : OpR X (binaryOp .Mult) (fun x y H Q => ∃ i k, x = .str i ∧ y = .int k ∧ 0 ≤ k ∧ k ≤ 1000 ∧ i.length ≤ 1000 ∧ Q (.str (Txt.mul i k)) H) := by
  intro pins s σ H x y v u Q I rx ry h
  obtain ⟨i, k, rfl, rfl, h0, h1, h2, q⟩ := h
  obtain ⟨t, rfl⟩ := rx
  obtain ⟨t', rfl⟩ := ry
  refine SB.mul ⟨?_, fun _ _ => ?_, fun _ _ => ?_⟩ fun t' k' => ⟨.str _, H, I.tok k', ⟨t', rfl⟩, q⟩
  · have a1 : ¬ k < -(2 ^ 63 : Int) := by omega
    have a2 : ¬ k ≥ (2 ^ 63 : Int) := by omega
    rw [decide_eq_false a1, decide_eq_false a2]; rfl
  · have a1 : (1000 : Int) ≤ (2 ^ 63 - 1) / k := by
      have : 0 < k := by omega
      refine (Int.le_ediv_iff_mul_le this).mpr ?_
      omega
    omega
  · unfold PySem.Builtin.Str.tooLong
    have : i.length * k.toNat ≤ 1000 * 1000 := Nat.mul_le_mul h2 (by omega)
    have z : sizeLine = 16777216 := by decide
    simp only [decide_eq_false_iff_not]
    omega
/-- a new tuple is laid -/
theorem EP.newT {pins : List (Addr × Obj)} {σ : L2.St} {H : Hp} {Q : VK} {ys : List V} {its : List Value} {s1 : Shared} (I : L2.Inv X pins σ H s1) (r : Vals ys its) (hz : ys.length ≤ sizeLine) (q : NewT H ys Q) :
    EP X pins σ Q (.ref s1.heap.objs.size) { s1 with heap := s1.heap.push { cls := .type "tuple", data := .seq its.toArray } } := by
  have hf : H s1.heap.objs.size = none := I.hok.fresh (Nat.le_refl _)
  rcases q _ { cls := .type "tuple", data := .seq its.toArray } hf rfl rfl with q | q
  · exact ⟨.ref _, _, I.laid (t' := s1.toks) (fun b u e => Heap.get?_push_of_some _ e) (Nat.le_refl _) (show ObjOk X.prog X.w _ _ _ (.tup ys) from ⟨hz, its, r, ⟨_, Heap.get?_push_size _ rfl, rfl, _, rfl⟩⟩), rfl, q⟩
  · exact ⟨.ref _, _, I.laid (t' := s1.toks) (fun b u e => Heap.get?_push_of_some _ e) (Nat.le_refl _) (show ObjOk X.prog X.w _ _ _ (.frz _ (.tup ys)) from ⟨Heap.get?_push_size _ rfl, hz, its, r, ⟨_, Heap.get?_push_size _ rfl, rfl, _, rfl⟩⟩), rfl, q⟩
def tTupD (t : TA) : TE := fun σ H Q => t σ H fun xs H1 => xs.length ≤ sizeLine ∧ NewT H1 xs Q
open PyProof.Rows in
theorem pe_tupD {es : List Expr} {t : TA} {x1 : Nat} (h : PA X es t) : PE X (.Tuple es x1 pos) (tTupD t) := by
  refine ⟨fun pins s σ H Q I hq => ?_⟩
  exact wpAny_Tuple_spliced (thn (h.run pos pins s σ H _ I hq) fun us s1 ⟨xs, H1, I1, r, z, q⟩ => ⟨by rw [← r.length]; exact z, EP.newT I1 r z q⟩)
open PyProof.Rows in
theorem op_catD : OpR X (binaryOp .Add) (fun x y H Q => ∃ a b xs ys, x = .ref a ∧ y = .ref b ∧ SqT X.K H a xs ∧ SqT X.K H b ys ∧ xs.length + ys.length ≤ sizeLine ∧ (xs = [] → Q (.ref b) H) ∧ (xs ≠ [] → ys = [] → Q (.ref a) H) ∧ (xs ≠ [] → ys ≠ [] → NewT H (xs ++ ys) Q)) := by
  intro pins s σ H x y v u Q I rx ry h
  obtain ⟨a, b, xs, ys, rfl, rfl, ha, hb, hz, q0, q1, q2⟩ := h
  by_cases hx : xs = []
  · exact op_catA pins s σ H _ _ v u Q I rx ry ⟨a, b, xs, ys, rfl, rfl, ha, hb, hz, q0, q1, fun z => absurd hx z⟩
  · cases rx
    cases ry
    obtain ⟨its, r1, p1, _⟩ := I.tuple ha
    obtain ⟨its2, r2, p2, _⟩ := I.tuple hb
    refine HT.cat_tup p1 p2 (fun z => hx (r1.nil_iff.mp z)) (fun z => ⟨.ref a, H, I, rfl, q1 hx (r2.nil_iff.mp z)⟩) (fun z => ?_) (by rw [← r1.length, ← r2.length]; exact hz)
    exact EP.newT I (r1.append r2) (by rw [List.length_append]; exact hz) (q2 hx (fun w => z (r2.nil_iff.mpr w)))
open PyProof.Rows in
theorem sl_tupD : SlR X (fun x lo hi H Q => ∃ a xs, x = .ref a ∧ SqT X.K H a xs ∧ (HT.sIx xs.length 0 lo = 0 ∧ HT.sIx xs.length xs.length hi = xs.length → Q (.ref a) H) ∧ (¬ (HT.sIx xs.length 0 lo = 0 ∧ HT.sIx xs.length xs.length hi = xs.length) → NewT H (cutV xs lo hi) Q)) := by
  intro pins s σ H x v vl vu lo hi sl Q I rx hs pl pu h
  obtain ⟨a, xs, rfl, hx, q1, q2⟩ := h
  by_cases hw : HT.sIx xs.length 0 lo = 0 ∧ HT.sIx xs.length xs.length hi = xs.length
  · exact sl_tupA pins s σ H _ v vl vu lo hi sl Q I rx hs pl pu ⟨a, xs, rfl, hx, q1, fun z => absurd hw z⟩
  · cases rx
    obtain ⟨its, r, ht, hz⟩ := I.tuple hx
    have hlen : its.toArray.size = xs.length := by rw [List.size_toArray]; exact r.length.symm
    refine ⟨"tuple", _, PyProof.Rows.slot_tuple_getitem.lookup, ht.typeIs, ?_⟩
    refine HT.getItem_tuple_cut ht hs pl pu (by rw [hlen]; exact hw) ?_ (by rw [hlen]; exact hz)
    rw [hlen]
    exact EP.newT I ((r.drop (HT.sIx xs.length 0 lo)).take (HT.sIx xs.length xs.length hi - HT.sIx xs.length 0 lo)) (Nat.le_trans (cutV_length xs lo hi) hz) (q2 hw)
open PyProof.Rows in
theorem call_tupleD : CallR X (.type "tuple") (fun xs H Q => ∃ p ys, xs = [.ref p] ∧ ((SqL X.K H p ys ∧ NewT H ys Q) ∨ (SqT X.K H p ys ∧ Q (.ref p) H))) := by
  intro pins s σ H xs us Q I r h
  obtain ⟨p, ys, rfl, h⟩ := h
  rcases h with ⟨hq, q⟩ | ⟨hq, q⟩
  · obtain ⟨u, rfl, rx⟩ := vals1 r
    cases rx
    obtain ⟨its, r', pl, hz⟩ := I.list hq
    have hlen := r'.length
    refine call_tuple_list pl.isList (fun h' kp => ?_) (by simp only [List.size_toArray] <;> omega)
    have I1 : L2.Inv X pins σ H { s with heap := h' } := I.kept (t' := s.toks) kp
    exact EP.newT I1 r' hz q
  · exact call_tuple_of pins s σ H _ us Q I r ⟨p, ys, rfl, .inr ⟨hq, q⟩⟩
theorem mulOk_of {i j : Int} (h : mulOk i j = true) : CMulW i j := by
  unfold mulOk at h
  unfold CMulW
  exact of_decide_eq_true h
theorem opr_bin (op : Operator) : OpR X (binaryOp op) (r2 X.K (RN X.K) (binD op)) := by
  intro pins s σ H x y v u Q I rx ry h
  obtain ⟨F, ι, m, a, b, d, sm, ra, rb, e, q⟩ := h
  unfold binD at e
  split at e
  · rename_i i j e1 e2
    cases e
    exact op_add pins s σ H x y v u Q I rx ry ⟨i, j, ra.isInt e1, rb.isInt e2, q _ F ι H (Ext.refl F ι H) sm (Rep.intI (K := X.K) (F := F) (ι := ι))⟩
  · rename_i i j e1 e2
    split at e
    · rename_i hs
      cases e
      exact op_add_str pins s σ H x y v u Q I rx ry ⟨i, j, ra.isStr e1, rb.isStr e2, hs, q _ F ι H (Ext.refl F ι H) sm (Rep.strI (K := X.K) (F := F) (ι := ι))⟩
    · cases e
  · rename_i xs ys e1 e2
    split at e
    · rename_i hs
      cases e
      obtain ⟨p1, vs, rfl, q1, rs1, f1⟩ := ra.isTup sm e1
      obtain ⟨p2, ws, rfl, q2, rs2, f2⟩ := rb.isTup sm e2
      have l1 := rs1.length
      have l2 := rs2.length
      refine op_catD pins s σ H _ _ v u Q I rx ry ⟨p1, p2, vs, ws, rfl, rfl, q1, q2, by omega, fun z => ?_, fun _ z => ?_, fun _ _ => ?_⟩
      · subst z
        have : xs = [] := by cases xs with | nil => rfl | cons _ _ => simp at l1
        subst this
        exact q _ _ _ _ (Ext.refl _ _ _) sm f2
      · subst z
        have : ys = [] := by cases ys with | nil => rfl | cons _ _ => simp at l2
        subst this
        exact q _ _ _ _ (Ext.refl _ _ _) sm (by rw [List.append_nil]; exact f1)
      · exact sm.newT (rs1.append rs2) fun v F' H' x1 s1 r1 => q v F' ι H' x1 s1 r1
    · cases e
  · rename_i xs ys e1 e2
    split at e
    · rename_i hs
      cases e
      obtain ⟨p1, vs, rfl, q1, rs1⟩ := ra.isLst sm e1
      obtain ⟨p2, ws, rfl, q2, rs2⟩ := rb.isLst sm e2
      have l1 := rs1.length
      have l2 := rs2.length
      refine op_catL pins s σ H _ _ v u Q I rx ry ⟨p1, p2, vs, ws, rfl, rfl, q1, q2, by omega, fun p hp => ?_⟩
      obtain ⟨x1, s1, r1⟩ := sm.newL hp (rs1.append rs2)
      exact q _ _ _ _ x1 s1 r1
    · cases e
  · rename_i i j e1 e2
    cases e
    exact op_sub pins s σ H x y v u Q I rx ry ⟨i, j, ra.isInt e1, rb.isInt e2, q _ F ι H (Ext.refl F ι H) sm (Rep.intI (K := X.K) (F := F) (ι := ι))⟩
  · rename_i i j e1 e2
    split at e
    · rename_i hs
      cases e
      exact op_mulW pins s σ H x y v u Q I rx ry ⟨i, j, ra.isInt e1, rb.isInt e2, mulOk_of hs, q _ F ι H (Ext.refl F ι H) sm (Rep.intI (K := X.K) (F := F) (ι := ι))⟩
    · cases e
  · rename_i i j e1 e2
    split at e
    · rename_i hs
      cases e
      exact op_mulS pins s σ H x y v u Q I rx ry ⟨i, j, ra.isStr e1, rb.isInt e2, hs.1, hs.2.1, hs.2.2, q _ F ι H (Ext.refl F ι H) sm (Rep.strI (K := X.K) (F := F) (ι := ι))⟩
    · cases e
  · rename_i i j e1 e2
    split at e
    · rename_i hs
      cases e
      refine op_fdivN pins s σ H x y v u Q I rx ry ⟨i, j, ra.isInt e1, rb.isInt e2, ⟨by omega, by omega⟩, ?_⟩
      show Q (.int (i.fdiv j)) H
      have : (0 : Int) ≤ j := by omega
      rw [Int.fdiv_eq_ediv_of_nonneg _ this]
      exact q _ F ι H (Ext.refl F ι H) sm (Rep.intI (K := X.K) (F := F) (ι := ι))
    · cases e
  · rename_i i j e1 e2
    split at e
    · rename_i hs
      cases e
      exact op_mod pins s σ H x y v u Q I rx ry ⟨i, j, ra.isInt e1, rb.isInt e2, hs, q _ F ι H (Ext.refl F ι H) sm (Rep.intI (K := X.K) (F := F) (ι := ι))⟩
    · cases e
  · rename_i i j e1 e2
    split at e
    · rename_i hs
      cases e
      exact op_pow pins s σ H x y v u Q I rx ry ⟨i, j, ra.isInt e1, rb.isInt e2, hs, q _ F ι H (Ext.refl F ι H) sm (Rep.intI (K := X.K) (F := F) (ι := ι))⟩
    · cases e
  · cases e
theorem d_bin {op : Operator} (ha : PE X a (TV X W fa)) (hb : PE X b (TV X W fb)) : PE X (.BinOp a op b pos) (TN X W (fBin op fa fb)) :=
  PE.weak (pe_op (opr_bin op) ha hb) fun σ H Q h => T2 RN.down h
theorem un_of {op : UnaryOp} {g : D → Option D} (h : UnR X (unaryOp op) (r1 X.K (RV X.K) (fun a _ => g a))) (ha : PE X a (TV X W fa)) : PE X (.UnaryOp op a pos) (TV X W (f1 (fun a m => ofO m (g a)) fa)) :=
  PE.weak (pe_un h ha) fun σ H Q h => T1 RV.down h
theorem d_neg (ha : PE X a (TV X W fa)) : PE X (.UnaryOp .USub a pos) (TV X W (fNeg fa)) := by
  refine un_of (g := negD) (fun pins s σ H x v Q I rx h => ?_) ha
  obtain ⟨F, ι, m, a, d, sm, ra, e, q⟩ := h
  have e : negD a = some d := e
  unfold negD at e
  split at e
  · cases e
    exact un_neg pins s σ H x v Q I rx ⟨_, ra.intE, q _ F ι H (Ext.refl F ι H) sm (Rep.intI (K := X.K) (F := F) (ι := ι))⟩
  · cases e
end
end Cs

/-! Comparisons, truth. -/
namespace Cs
open PySem L2 PySem.Spec
mutual
theorem py_plain : ∀ d : D, plain d = true → (py d).plain = true
  | .non, _ => by simp [py, PyData.plain]
  | .bl _, _ => by simp [py, PyData.plain]
  | .int _, _ => by simp [py, PyData.plain]
  | .str _, _ => by simp [py, PyData.plain]
  | .tup ds, h => by simp only [py, PyData.plain]; exact pyL_plain ds (by simpa [plain] using h)
  | .lst ds, h => by simp only [py, PyData.plain]; exact pyL_plain ds (by simpa [plain] using h)
  | .dct _ _, h => by simp [plain] at h
  | .ref _, h => by simp [plain] at h
  | .scr _, h => by simp [plain] at h
theorem pyL_plain : ∀ d : List D, plainL d = true → PyData.plainAll (pyL d) = true
  | [], _ => by simp [pyL, PyData.plainAll]
  | d :: r, h => by
    simp only [plainL, Bool.and_eq_true] at h
    simp only [pyL, PyData.plainAll, Bool.and_eq_true]
    exact ⟨py_plain d h.1, pyL_plain r h.2⟩
end
mutual
theorem py_dep : ∀ d : D, plain d = true → (py d).depth = dep d
  | .non, _ => by simp [py, PyData.depth, dep]
  | .bl _, _ => by simp [py, PyData.depth, dep]
  | .int _, _ => by simp [py, PyData.depth, dep]
  | .str _, _ => by simp [py, PyData.depth, dep]
  | .tup ds, h => by simp only [py, PyData.depth, dep]; rw [pyL_dep ds (by simpa [plain] using h)]
  | .lst ds, h => by simp only [py, PyData.depth, dep]; rw [pyL_dep ds (by simpa [plain] using h)]
  | .dct _ _, h => by simp [plain] at h
  | .ref _, h => by simp [plain] at h
  | .scr _, h => by simp [plain] at h
theorem pyL_dep : ∀ d : List D, plainL d = true → PyData.depthAll (pyL d) = depL d
  | [], _ => by simp [pyL, PyData.depthAll, depL]
  | d :: r, h => by
    simp only [plainL, Bool.and_eq_true] at h
    simp only [pyL, PyData.depthAll, depL]
    rw [py_dep d h.1, pyL_dep r h.2]
end
mutual
theorem py_eqv : ∀ a b : D, plain a = true → plain b = true → PyData.eqv (py a) (py b) = eqD a b
  | .non, b, _, hb => by cases b <;> simp [py, PyData.eqv, eqD, plain] at hb ⊢
  | .bl _, b, _, hb => by cases b <;> simp [py, PyData.eqv, eqD, plain] at hb ⊢
  | .int _, b, _, hb => by cases b <;> simp [py, PyData.eqv, eqD, plain] at hb ⊢
  | .str _, b, _, hb => by cases b <;> simp [py, PyData.eqv, eqD, plain] at hb ⊢
  | .tup xs, b, ha, hb => by
    cases b with
    | tup ys =>
      simp only [py, PyData.eqv, eqD]
      exact pyL_eqv xs ys (by simpa [plain] using ha) (by simpa [plain] using hb)
    | _ => simp [py, PyData.eqv, eqD, plain] at hb ⊢
  | .lst xs, b, ha, hb => by
    cases b with
    | lst ys =>
      simp only [py, PyData.eqv, eqD]
      exact pyL_eqv xs ys (by simpa [plain] using ha) (by simpa [plain] using hb)
    | _ => simp [py, PyData.eqv, eqD, plain] at hb ⊢
  | .dct _ _, _, h, _ => by simp [plain] at h
  | .ref _, _, h, _ => by simp [plain] at h
  | .scr _, _, h, _ => by simp [plain] at h
theorem pyL_eqv : ∀ a b : List D, plainL a = true → plainL b = true → PyData.eqvAll (pyL a) (pyL b) = eqL a b
  | [], [], _, _ => by simp [pyL, PyData.eqvAll, eqL]
  | [], _ :: _, _, _ => by simp [pyL, PyData.eqvAll, eqL]
  | _ :: _, [], _, _ => by simp [pyL, PyData.eqvAll, eqL]
  | x :: xs, y :: ys, ha, hb => by
    simp only [plainL, Bool.and_eq_true] at ha hb
    simp only [pyL, PyData.eqvAll, eqL]
    rw [py_eqv x y ha.1 hb.1, pyL_eqv xs ys ha.2 hb.2]
end
theorem pyL_any (x : D) (hx : plain x = true) : ∀ ds : List D, plainL ds = true → ((pyL ds).any fun z => PyData.eqv z (py x)) = ds.any fun z => eqD z x
  | [], _ => by simp [pyL]
  | d :: r, h => by
    simp only [plainL, Bool.and_eq_true] at h
    simp only [pyL, List.any_cons]
    rw [py_eqv d x h.1 hx, pyL_any x hx r h.2]
mutual
theorem Rep.dp {K : PySem.W.Frag} {F : Hp} {ι : List Addr} {H : Hp} (hF : ∀ a o, F a = some o → H a = some o) : ∀ {d : D} {v : V}, plain d = true → Rep K F ι d v → Dp K H v (py d)
  | .non, _, _, r => by rw [r.nonE, py]; exact .non
  | .bl b, _, _, r => by rw [r.blE, py]; exact .bl b
  | .int b, _, _, r => by rw [r.intE, py]; exact .int b
  | .str b, _, _, r => by rw [r.strE, py]; exact .str b
  | .tup ds, _, h, r => by
    obtain ⟨a, vs, rfl, q, rs⟩ := r.tupE
    rw [py]
    exact .tup (SqT.mono q hF) (Reps.dp hF (by simpa [plain] using h) rs)
  | .lst ds, _, h, r => by
    obtain ⟨a, vs, rfl, q, rs⟩ := r.lstE
    rw [py]
    exact .lst (SqL.of (hF _ _ q)) (Reps.dp hF (by simpa [plain] using h) rs)
  | .dct _ _, _, h, _ => by simp [plain] at h
  | .ref _, _, h, _ => by simp [plain] at h
  | .scr _, _, h, _ => by simp [plain] at h
theorem Reps.dp {K : PySem.W.Frag} {F : Hp} {ι : List Addr} {H : Hp} (hF : ∀ a o, F a = some o → H a = some o) : ∀ {d : List D} {v : List V}, plainL d = true → Reps K F ι d v → DpAll K H v (pyL d)
  | [], _, _, r => by rw [r.of_nil, pyL]; exact .nil
  | d :: ds, _, h, r => by
    simp only [plainL, Bool.and_eq_true] at h
    obtain ⟨v, w, rfl, r1, r2⟩ := r.of_cons
    rw [pyL]
    exact .cons (Rep.dp hF h.1 r1) (Reps.dp hF h.2 r2)
end
section
variable {K : PySem.W.Frag} {F : Hp} {ι : List Addr} {H : Hp} {m : Mem}
/-- also of a cell that holds a list -/
theorem Rep.dpR (s : SimM K F ι m H) {d : D} {v : V} (h : plain (res m d) = true) (r : Rep K F ι d v) : Dp K H v (py (res m d)) := by
  cases d with
  | ref n =>
    obtain ⟨a, rfl, q⟩ := r.refE
    rw [res_ref] at h ⊢
    cases z : m[n]? with
    | none => rw [z] at h; simp [plain] at h
    | some c =>
      rw [z] at h
      cases c with
      | lst es =>
        obtain ⟨o, h2, vs, rfl, rs⟩ := s.at q z
        show Dp K H (.ref a) (py (.lst es))
        rw [py]
        exact .lst (SqL.of h2) (Reps.dp s.sub (by simpa [plain] using h) rs)
      | dct _ _ => simp [plain] at h
      | ins _ _ => simp [plain] at h
  | scr es =>
    obtain ⟨a, vs, rfl, q, rs⟩ := r.scrE
    show Dp K H (.ref a) (py (.lst es))
    have h : plain (.lst es) = true := h
    rw [py]
    exact .lst (SqL.sub q s) (Reps.dp s.sub (by simpa [plain] using h) rs)
  | _ => exact Rep.dp s.sub h r
end
end Cs
namespace Cs
open PySem L2 PySem.Spec
/-! ### dicts: the empty one serves both kinds of keys -/
section
variable {X : Cx} {pins : List (Addr × Obj)} {σ : L2.St} {H : Hp} {s : Shared} {a : Addr}
theorem Inv.d2t (I : L2.Inv X pins σ H s) (e : H a = some (.dK [])) : L2.Inv X pins σ (upd H a (.dT [])) s := by
  obtain ⟨z, hd, vs, rel, o, es, ep, h1, h2, h3, h4, h5, _⟩ := I.hok a _ e
  cases rel
  refine I.write (t' := s.toks) (h' := s.heap) (e := a) (by rw [e]; exact True.intro) (.inl rfl) (fun _ _ _ q => q) ⟨o, h1⟩ ?_
  refine ⟨Nat.zero_le _, hd, [], .nil, o, es, ep, h1, h2, h3, ?_, List.nodup_nil⟩
  cases q : es.toList with
  | nil => rfl
  | cons x r => rw [q] at h5; cases h5
theorem Inv.t2d (I : L2.Inv X pins σ H s) (e : H a = some (.dT [])) : L2.Inv X pins σ (upd H a (.dK [])) s := by
  obtain ⟨z, hd, vs, rel, o, es, ep, h1, h2, h3, h4, _⟩ := I.hok a _ e
  cases rel
  refine I.write (t' := s.toks) (h' := s.heap) (e := a) (by rw [e]; exact True.intro) (.inl rfl) (fun _ _ _ q => q) ⟨o, h1⟩ ?_
  have q : es = #[] := by
    have : es.toList = [] := h4
    simpa using this
  subst q
  refine ⟨Nat.zero_le _, hd, [], .nil, o, #[], ep, h1, h2, h3, ?_, .nil, List.nodup_nil⟩
  intro i hi
  simp at hi
theorem Inv.back (I : L2.Inv X pins σ (upd H a (.dT [])) s) (e : H a = some (.dK [])) : L2.Inv X pins σ H s := by
  have q := Inv.t2d (a := a) I upd_same
  rw [upd_upd] at q
  have : upd H a (.dK []) = H := by
    funext b
    by_cases z : b = a
    · subst z; rw [upd_same, e]
    · rw [upd_ne z]
  rw [this] at q
  exact q
theorem Inv.back' (I : L2.Inv X pins σ (upd H a (.dK [])) s) (e : H a = some (.dT [])) : L2.Inv X pins σ H s := by
  have q := Inv.d2t (a := a) I upd_same
  rw [upd_upd] at q
  have : upd H a (.dT []) = H := by
    funext b
    by_cases z : b = a
    · subst z; rw [upd_same, e]
    · rw [upd_ne z]
  rw [this] at q
  exact q
end
/-- a key as the library's -/
def kK : D → Option Key
  | .int i => some (.inl i)
  | .str s => some (.inr s)
  | _ => none
def kKT : List D → Option (List Key)
  | [] => some []
  | d :: r => match kK d, kKT r with
    | some k, some q => some (k :: q)
    | _, _ => none
theorem kd_eq (p q : Key) : eqD (kd p) (kd q) = decide (p = q) := by
  cases p <;> cases q <;> simp [kd, eqD]
  · rename_i a b
    by_cases h : a = b <;> simp [h]
  · rename_i a b
    by_cases h : a = b <;> simp [h]
theorem kdL_eq : ∀ p q : List Key, eqL (p.map kd) (q.map kd) = decide (p = q)
  | [], [] => by simp [eqL]
  | [], _ :: _ => by simp [eqL]
  | _ :: _, [] => by simp [eqL]
  | a :: p, b :: q => by
    simp only [List.map_cons, eqL, kd_eq, kdL_eq p q]
    by_cases h : a = b <;> by_cases h2 : p = q <;> simp [h, h2]
theorem kdT_eq (p q : List Key) : eqD (kdT p) (kdT q) = decide (p = q) := by
  simp only [kdT, eqD, kdL_eq]
section
variable {K : PySem.W.Frag} {F : Hp} {ι : List Addr} {H : Hp} {m : Mem} {κ : Type} [DecidableEq κ]
/-- a dict's keys by their data -/
theorem findK_map {g : κ → D} (hg : ∀ p q, eqD (g p) (g q) = decide (p = q)) (k : κ) : ∀ kvs : List (κ × V), (findK (g k) (kvs.map fun p => g p.1)) = kvs.findIdx? fun p => decide (p.1 = k)
  | [] => rfl
  | p :: r => by
    simp only [List.map_cons, findK, hg, List.findIdx?_cons, findK_map hg k r]
theorem getK_val {g : κ → D} (hg : ∀ p q, eqD (g p) (g q) = decide (p = q)) (k : κ) : ∀ {kvs : List (κ × V)} {ws : List D}, Reps K F ι ws (kvs.map (·.2)) →
    (match getK (kvs.map fun p => g p.1) ws (g k), valV kvs k with
      | some d, some v => Rep K F ι d v
      | none, none => True
      | _, _ => False)
  | [], ws, h => by
    simp [getK, findK, valV]
  | p :: r, ws, h => by
    cases ws with
    | nil => simp [Reps] at h
    | cons w ws =>
      obtain ⟨v, u, e, h1, h2⟩ := h.of_cons
      simp only [List.map_cons, List.cons.injEq] at e
      obtain ⟨rfl, rfl⟩ := e
      have ih := getK_val hg k h2
      unfold getK at ih ⊢
      simp only [List.map_cons, findK, hg]
      by_cases q : p.1 = k
      · rw [valV_pos q]
        simp [q]
        exact h1
      · rw [valV_neg q]
        simp only [q, decide_false, Bool.false_eq_true, if_false]
        cases z : findK (g k) (r.map fun p => g p.1) with
        | none => rw [z] at ih; simpa using ih
        | some i => rw [z] at ih; simpa using ih
theorem putK_map {g : κ → D} (hg : ∀ p q, eqD (g p) (g q) = decide (p = q)) (k : κ) {v : V} {d : D} (hv : Rep K F ι d v) : ∀ {kvs : List (κ × V)} {ws : List D}, (kvs.map (·.1)).Nodup → Reps K F ι ws (kvs.map (·.2)) →
    (putK (kvs.map fun p => g p.1) ws (g k) d).1 = (L2.putK kvs k v).map (fun p => g p.1) ∧ Reps K F ι (putK (kvs.map fun p => g p.1) ws (g k) d).2 ((L2.putK kvs k v).map (·.2)) := by
  intro kvs ws nd h
  have hl := h.length
  rw [List.length_map] at hl
  unfold putK L2.putK
  rw [findK_map hg]
  cases z : kvs.findIdx? fun p => decide (p.1 = k) with
  | none =>
    have hn : (kvs.any fun kv => decide (kv.1 = k)) = false := by
      rw [List.findIdx?_eq_none_iff] at z
      rw [List.any_eq_false]
      intro x hx
      simpa using z x hx
    rw [hn]
    simp only [Bool.false_eq_true, if_false, List.map_append, List.map_cons, List.map_nil]
    exact ⟨trivial, h.append (Reps.one hv)⟩
  | some i =>
    rw [List.findIdx?_eq_some_iff_getElem] at z
    obtain ⟨hi, z1, z2⟩ := z
    have hk : kvs[i].1 = k := by simpa using z1
    have hy : (kvs.any fun kv => decide (kv.1 = k)) = true := by
      rw [List.any_eq_true]
      exact ⟨kvs[i], List.getElem_mem hi, by simpa using z1⟩
    rw [hy]
    simp only [if_true]
    have e : (kvs.map fun kv => if kv.1 = k then (kv.1, v) else kv) = kvs.set i (kvs[i].1, v) := by
      apply List.ext_getElem
      · simp
      · intro j h1 h2
        rw [List.getElem_map]
        by_cases q : j = i
        · subst q
          rw [List.getElem_set_self, if_pos hk]
        · rw [List.getElem_set_ne (fun z => q z.symm)]
          have hj : j < kvs.length := by simpa using h1
          rw [if_neg]
          intro w
          have e1 : (kvs.map (·.1))[j]'(by simpa using hj) = (kvs.map (·.1))[i]'(by simpa using hi) := by
            rw [List.getElem_map, List.getElem_map, hk]; exact w
          have pw := List.pairwise_iff_getElem.mp nd
          rcases Nat.lt_trichotomy j i with l | l | l
          · exact pw j i (by simpa using hj) (by simpa using hi) l e1
          · exact q l
          · exact pw i j (by simpa using hi) (by simpa using hj) l e1.symm
    rw [e]
    refine ⟨?_, ?_⟩
    · rw [List.map_set]
      have : (kvs.map fun p => g p.1).set i (g kvs[i].1) = kvs.map fun p => g p.1 := by
        have q : (kvs.map fun p => g p.1)[i]? = some (g kvs[i].1) := by simp [hi]
        exact List.set_getElem_self (i := i) (as := kvs.map fun p => g p.1) (by simpa using hi) ▸ (by simp)
      rw [this]
    · rw [List.map_set]
      exact h.set i hv
end
theorem keyD_kd {ks : List D} {k : D} (h : keyD ks k = true) : (∃ q, k = kd q ∧ ∀ x ∈ ks, ∀ l, x ≠ .tup l) ∨ ∃ q, k = kdT q ∧ (∃ l, k = .tup l ∧ keyT l = true) ∧ ∀ x ∈ ks, ∃ l, x = .tup l := by
  unfold keyD at h
  split at h
  · rename_i i
    refine .inl ⟨.inl i, rfl, fun x hx l e => ?_⟩
    have := List.all_eq_true.mp h x hx
    rw [e] at this; simp at this
  · rename_i i
    refine .inl ⟨.inr i, rfl, fun x hx l e => ?_⟩
    have := List.all_eq_true.mp h x hx
    rw [e] at this; simp at this
  · rename_i ds
    rw [Bool.and_eq_true] at h
    have lem : ∀ ds : List D, keyT ds = true → ∃ q : List Key, ds = q.map kd := by
      intro ds
      induction ds with
      | nil => exact fun _ => ⟨[], rfl⟩
      | cons d r ih =>
        intro hk
        unfold keyT at hk
        rw [List.all_cons, Bool.and_eq_true] at hk
        obtain ⟨q, rfl⟩ := ih hk.2
        have h1 := hk.1
        split at h1
        · rename_i i
          exact ⟨.inl i :: q, rfl⟩
        · cases h1
    obtain ⟨q, rfl⟩ := lem ds h.1
    refine .inr ⟨q, rfl, ⟨_, rfl, h.1⟩, fun x hx => ?_⟩
    have := List.all_eq_true.mp h.2 x hx
    split at this
    · exact ⟨_, rfl⟩
    · cases this
  · cases h
section
variable {X : Cx} {pins : List (Addr × Obj)} {σ : L2.St} {H : Hp} {s : Shared} {F : Hp} {ι : List Addr} {m : Mem}
/-- what a dict's value says of the heap -/
theorem Rep.isDct {K : PySem.W.Frag} (sm : SimM K F ι m H) {d : D} {v : V} {ks ws : List D} (r : Rep K F ι d v) (h : res m d = .dct ks ws) : ∃ a o, v = .ref a ∧ RdE H a o ∧ RepC K F ι (.dct ks ws) o := by
  cases d with
  | dct k2 w2 =>
    have e : k2 = ks ∧ w2 = ws := by simpa [res] using h
    obtain ⟨rfl, rfl⟩ := e
    simp only [Rep] at r
    obtain ⟨a, rfl, ⟨kvs, h1, h2, h3⟩ | ⟨kvs, h1, h2, h3⟩⟩ := r
    · exact ⟨a, _, rfl, h1.mono sm.sub, .inl ⟨kvs, rfl, h2, h3⟩⟩
    · exact ⟨a, _, rfl, h1.mono sm.sub, .inr ⟨kvs, rfl, h2, h3⟩⟩
  | ref n =>
    obtain ⟨a, rfl, q⟩ := r.refE
    rw [res_ref] at h
    cases z : m[n]? with
    | none => rw [z] at h; cases h
    | some c =>
      rw [z] at h
      cases c with
      | lst es => cases h
      | dct k2 w2 =>
        cases h
        obtain ⟨o, h2, rs⟩ := sm.at q z
        exact ⟨a, o, rfl, .inl h2, rs⟩
      | ins _ _ => cases h
  | _ => simp [res] at h
theorem kd_kV {K : PySem.W.Frag} {q : Key} {y : V} (r : Rep K F ι (kd q) y) : y = kV q := by
  cases q with
  | inl i => exact r.intE
  | inr i => exact r.strE
theorem kdL_kV {K : PySem.W.Frag} : ∀ {q : List Key} {ys : List V}, Reps K F ι (q.map kd) ys → ys = q.map kV
  | [], _, r => r.of_nil
  | k :: q, _, r => by
    obtain ⟨v, w, rfl, r1, r2⟩ := Reps.of_cons r
    rw [kd_kV r1, kdL_kV r2]
    rfl
/-- d[y], y in d: over a heap in which an empty dict may be told otherwise -/
theorem dget (I : L2.Inv X pins σ H s) (sm : SimM X.K F ι m H) {d k : D} {x y : V} {ks ws : List D} (r : Rep X.K F ι d x) (h : res m d = .dct ks ws) (hk : keyD ks k = true) (rk : Rep X.K F ι k y) :
    ∃ a H' o, x = .ref a ∧ L2.Inv X pins σ H' s ∧ DGet H' a y o ∧ (∀ s', L2.Inv X pins σ H' s' → L2.Inv X pins σ H s') ∧
      (match getK ks ws k, o with
        | some d', some v' => Rep X.K F ι d' v'
        | none, none => True
        | _, _ => False) := by
  obtain ⟨a, o, rfl, hH, rc⟩ := r.isDct sm h
  rcases keyD_kd hk with ⟨q, rfl, hq⟩ | ⟨q, rfl, ⟨l, el, hl⟩, hq⟩
  · have ey := kd_kV rk
    subst ey
    obtain ⟨kvs, rfl, rfl, rs⟩ | ⟨kvs, rfl, rfl, rs⟩ := rc
    · exact ⟨a, H, _, rfl, I, .inl ⟨_, _, hH.rd, rfl, rfl⟩, fun _ q => q, getK_val kd_eq q rs⟩
    · cases kvs with
      | nil =>
        have e : ws = [] := List.eq_nil_of_length_eq_zero (by have := rs.length; simpa using this.symm)
        subst e
        replace hH : H a = some (.dT []) := hH.elim id fun z => absurd rfl z.2.1
        refine ⟨a, upd H a (.dK []), none, rfl, Inv.t2d I hH, .inl ⟨[], q, .inl upd_same, rfl, rfl⟩, fun s' q => Inv.back' q hH, ?_⟩
        simp [getK, findK]
      | cons p r => exact absurd rfl (hq (kdT p.1) (by simp) _)
  · obtain ⟨b, vs, rfl, hb, rv⟩ := rk.tupK (ds := q.map kd) (by
      have : q.map kd = l := by simpa [kdT] using el
      rw [this]; exact hl)
    have ev := kdL_kV rv
    subst ev
    have hb' := sm.sub _ _ hb
    obtain ⟨kvs, rfl, rfl, rs⟩ | ⟨kvs, rfl, rfl, rs⟩ := rc
    · cases kvs with
      | nil =>
        have e : ws = [] := List.eq_nil_of_length_eq_zero (by have := rs.length; simpa using this.symm)
        subst e
        replace hH : H a = some (.dK []) := hH.elim id fun z => absurd rfl z.1
        have hba : b ≠ a := ne_of hb' hH (by intro z; cases z)
        refine ⟨a, upd H a (.dT []), none, rfl, Inv.d2t I hH, .inr ⟨[], q, b, .inl upd_same, rfl, by rw [upd_ne hba]; exact hb', rfl⟩, fun s' q => Inv.back q hH, ?_⟩
        simp [getK, findK]
      | cons p r =>
        obtain ⟨l, e⟩ := hq (kd p.1) (by simp)
        cases z : p.1 <;> simp [z, kd] at e
    · exact ⟨a, H, _, rfl, I, .inr ⟨_, _, _, hH.rd, rfl, hb', rfl⟩, fun _ q => q, getK_val kdT_eq q rs⟩
/-- a cell is changed -/
theorem SimM.put {K : PySem.W.Frag} (sm : SimM K F ι m H) {n : Nat} {a : Addr} {c0 c : Cell} (hn : ι[n]? = some a) (hc : m[n]? = some c0) (u : HO) (ru : RepC K F ι c u) : Ext F ι H F ι (upd H a u) ∧ SimM K F ι (setC m n c) (upd H a u) := by
  obtain ⟨hF, o, hH, rc⟩ := sm.cell n a _ hn hc
  have hnm : n < m.length := by
    by_cases q : n < m.length
    · exact q
    · rw [List.getElem?_eq_none (by omega)] at hc; cases hc
  have ha : a ∈ ι := List.mem_of_getElem? hn
  refine ⟨⟨fun _ _ q => q, fun _ q => .inl q, ⟨[], by simp, by simp⟩, fun b w hb q => ?_, fun b q => ?_⟩, fun b w q => ?_, by rw [setC, List.length_set]; exact sm.len, sm.nd, fun j b c e1 e2 => ?_⟩
  · rw [upd_ne (fun z => by subst z; exact hb ha)]; exact q
  · by_cases z : b = a
    · subst z; rw [upd_same] at q; cases q
    · rw [upd_ne z] at q; exact q
  · have z : b ≠ a := fun z => by subst z; rw [hF] at q; cases q
    rw [upd_ne z]; exact sm.sub _ _ q
  · by_cases z : j = n
    · subst z
      rw [hn] at e1; cases e1
      unfold setC at e2
      rw [List.getElem?_set_self hnm] at e2
      cases e2
      exact ⟨hF, u, upd_same, ru⟩
    · unfold setC at e2
      rw [List.getElem?_set_ne (fun w => z w.symm)] at e2
      obtain ⟨h1, w, h2, h3⟩ := sm.cell j b c e1 e2
      have hb : b ≠ a := fun w => by
        subst w
        have pw := List.pairwise_iff_getElem.mp sm.nd
        obtain ⟨g1, q1⟩ := List.getElem?_eq_some_iff.mp e1
        obtain ⟨g2, q2⟩ := List.getElem?_eq_some_iff.mp hn
        rcases Nat.lt_trichotomy j n with l | l | l
        · exact pw j n g1 g2 l (q1.trans q2.symm)
        · exact z l
        · exact pw n j g2 g1 l (q2.trans q1.symm)
      exact ⟨h1, w, by rw [upd_ne hb]; exact h2, h3⟩
theorem paired_keys {α β κ : Type} {R : κ × α → κ × β → Prop} {xs : List (κ × α)} {ys : List (κ × β)} (h : Paired (fun p q => p.1 = q.1 ∧ R p q) xs ys) : xs.map (·.1) = ys.map (·.1) := by
  induction h with
  | nil => rfl
  | cons p _ ih => simp only [List.map_cons]; rw [p.1, ih]
/-- the heap behind d[y] = v -/
theorem dput (I : L2.Inv X pins σ H s) (sm : SimM X.K F ι m H) {n : Nat} {k d : D} {a : Addr} {y v : V} {ks ws : List D} (hn : ι[n]? = some a) (hc : m[n]? = some (.dct ks ws)) (hk : keyD ks k = true) (hl : ks.length < sizeLine)
    (rk : Rep X.K F ι k y) (rv : Rep X.K F ι d v) :
    ∃ H0 H1, L2.Inv X pins σ H0 s ∧ DPut H0 a y v H1 ∧ Ext F ι H F ι H1 ∧ SimM X.K F ι (setC m n (.dct (putK ks ws k d).1 (putK ks ws k d).2)) H1 := by
  obtain ⟨hF, o, hH, rc⟩ := sm.cell n a _ hn hc
  have hnm : n < m.length := by
    by_cases q : n < m.length
    · exact q
    · rw [List.getElem?_eq_none (by omega)] at hc; cases hc
  have fin : ∀ u : HO, RepC X.K F ι (.dct (putK ks ws k d).1 (putK ks ws k d).2) u → Ext F ι H F ι (upd H a u) ∧ SimM X.K F ι (setC m n (.dct (putK ks ws k d).1 (putK ks ws k d).2)) (upd H a u) := fun u ru => sm.put hn hc u ru
  rcases keyD_kd hk with ⟨q, rfl, hq⟩ | ⟨q, rfl, ⟨l, el, hl2⟩, hq⟩
  · have ey := kd_kV rk
    subst ey
    obtain ⟨kvs, rfl, rfl, rs⟩ | ⟨kvs, rfl, rfl, rs⟩ := rc
    · obtain ⟨_, _, vs, rel, o2, es, ep, _, _, _, _, _, nd⟩ := I.hok a _ hH
      have nd' : (kvs.map (·.1)).Nodup := by
        have : kvs.map (·.1) = vs.map (·.1) := paired_keys rel
        rw [this]; exact nd
      obtain ⟨p1, p2⟩ := putK_map kd_eq q rv nd' rs
      obtain ⟨x1, x2⟩ := fin (.dK (L2.putK kvs q v)) (.inl ⟨_, rfl, p1, p2⟩)
      exact ⟨H, _, I, DPut.k hH (by simpa using hl), x1, x2⟩
    · cases kvs with
      | nil =>
        have e : ws = [] := List.eq_nil_of_length_eq_zero (by have := rs.length; simpa using this.symm)
        subst e
        obtain ⟨x1, x2⟩ := fin (.dK [(q, v)]) (.inl ⟨_, rfl, by simp [putK, findK], by simpa [putK, findK] using Reps.one rv⟩)
        refine ⟨upd H a (.dK []), _, Inv.t2d I hH, .inl ⟨[], q, upd_same, rfl, by decide, rfl⟩, ?_⟩
        rw [upd_upd]
        exact ⟨x1, x2⟩
      | cons p r => exact absurd rfl (hq (kdT p.1) (by simp) _)
  · obtain ⟨b, vs, rfl, hb, rv2⟩ := rk.tupK (ds := q.map kd) (by
      have : q.map kd = l := by simpa [kdT] using el
      rw [this]; exact hl2)
    have ev := kdL_kV rv2
    subst ev
    have hb' := sm.sub _ _ hb
    obtain ⟨kvs, rfl, rfl, rs⟩ | ⟨kvs, rfl, rfl, rs⟩ := rc
    · cases kvs with
      | nil =>
        have e : ws = [] := List.eq_nil_of_length_eq_zero (by have := rs.length; simpa using this.symm)
        subst e
        have hba : b ≠ a := ne_of hb' hH (by intro z; cases z)
        obtain ⟨x1, x2⟩ := fin (.dT [(q, v)]) (.inr ⟨_, rfl, by simp [putK, findK], by simpa [putK, findK] using Reps.one rv⟩)
        refine ⟨upd H a (.dT []), _, Inv.d2t I hH, .inr ⟨[], q, b, upd_same, rfl, by rw [upd_ne hba]; exact hb', by decide, rfl⟩, ?_⟩
        rw [upd_upd]
        exact ⟨x1, x2⟩
      | cons p r =>
        obtain ⟨l, e⟩ := hq (kd p.1) (by simp)
        cases z : p.1 <;> simp [z, kd] at e
    · obtain ⟨_, _, xs, rel, o2, es, ep, _, _, _, _, nd⟩ := I.hok a _ hH
      have nd' : (kvs.map (·.1)).Nodup := by
        have : kvs.map (·.1) = xs.map (·.1) := paired_keys rel
        rw [this]; exact nd
      obtain ⟨p1, p2⟩ := putK_map kdT_eq q rv nd' rs
      obtain ⟨x1, x2⟩ := fin (.dT (L2.putK kvs q v)) (.inr ⟨_, rfl, p1, p2⟩)
      exact ⟨H, _, I, DPut.t hH hb' (by simpa using hl), x1, x2⟩
end
end Cs

/-! sorted(..) of lists and tuples. -/
namespace Cs
open PySem L2 PySem.Spec PyProof.Rows
section
variable {prog : Program} {w : World} {A : Around} {E : Value → Shared → Prop} {s : Shared}
theorem gather_tup {t : Addr} {us : List Value} {Q : List Value → Shared → Prop} (ht : ∃ o, s.heap.get? t = some o ∧ o.cls = .type "tuple" ∧ ∃ n, o.data = .seq us.toArray n)
    (h : Q us { s with heap := (s.heap.push (seqObj "list" #[] 0)).update s.heap.objs.size (Obj.mapSeq (· ++ us.toArray)) }) (hz : us.length ≤ sizeLine) :
    wpAny (model prog w) A (collect (.ref t)) Q E s := by
  obtain ⟨ob, h1, h2, k, h3⟩ := ht
  unfold collect
  refine wpAny_bind (wpAny_runValue (codeAny_builtin entry_proto_collect' ?_))
  show wpAny _ _ (do again (.builtin "list.__iadd__" ⟨[← newList [], .ref t], []⟩)) _ _ s
  refine wpAny_bind (wpAny_newList (wpAny_pure ⟨Code.quiet_builtin _ (by decide +kernel), codeAny_builtin entry_list_iadd' ?_⟩))
  show wpAny _ _ (Builtin.List.listExtendWith (.ref s.heap.objs.size) (.ref t) (.ref s.heap.objs.size)) _ _ { s with heap := s.heap.push (seqObj "list" #[] 0) }
  unfold Builtin.List.listExtendWith
  have g1 : (s.heap.push (seqObj "list" #[] 0)).get? t = some ob := Heap.get?_push_of_some _ h1
  have g2 : (s.heap.push (seqObj "list" #[] 0)).get? s.heap.objs.size = some (seqObj "list" #[] 0) := Heap.get?_push_size _ rfl
  refine wpAny_bind (wpAny_typeOf (T := "tuple") ⟨ob, g1, h2⟩ ?_)
  have ty : (Value.type "tuple" == Value.type "tuple") = true := by rfl
  rw [if_pos (by rw [ty]; simp)]
  refine wpAny_bind (listItems_at g1 h3 ?_)
  refine wpAny_bind (listItems_at (xs := #[]) (n := 0) g2 rfl ?_)
  rw [if_neg (by simp)]
  refine wpAny_bind (listUpdate_at (xs := #[]) (n := 0) g2 rfl ?_ (Nat.zero_le _) (by show (#[] ++ us.toArray).size ≤ sizeLine + 1; simp only [Array.size_append, List.size_toArray, List.length_nil]; omega))
  refine wpAny_pure ?_
  show wpAny (model prog w) A (do
      let ob ← load s.heap.objs.size
      match ob.data with
      | .seq ys _ => pure ys.toList
      | _ => unsupported "internal:collect") Q E { s with heap := (s.heap.push (seqObj "list" #[] 0)).update s.heap.objs.size (Obj.mapSeq (· ++ us.toArray)) }
  refine wpAny_bind (wpAny_load (get?_update_seq g2 _) ?_)
  show wpAny _ _ (pure ((#[] : Array Value) ++ us.toArray).toList) Q E _
  have e : ((#[] : Array Value) ++ us.toArray).toList = us := by simp
  rw [e]
  exact wpAny_pure h
/-- sorted of what is gathered from either -/
theorem sort_any {t : Addr} {us : List Value} {Q : Value → Shared → Prop} (hz : us.length ≤ sizeLine)
    (hc : ∀ {P : List Value → Shared → Prop} {A' : Around} {E' : Value → Shared → Prop}, P us { s with heap := (s.heap.push (seqObj "list" #[] 0)).update s.heap.objs.size (Obj.mapSeq (· ++ us.toArray)) } → wpAny (model prog w) A' (collect (.ref t)) P E' s)
    (body : ∀ E' : Value → Shared → Prop, wpAny (model prog w) A.in1.in1 (Builtin.«list.sort» ⟨[.ref (s.heap.objs.size + 1)], []⟩) (fun f s' => f = .done (.ret .none) ∧ Q (.ref (s.heap.objs.size + 1)) s') E' { s with heap := PySem.W.copyHeap s.heap us }) :
    wpAny (model prog w) A (call (.builtin "sorted") [.ref t]) Q E s := by
  refine call_function_entry_kw kind_sorted plain_sorted entry_sorted (args_sorted1 _) ?_
  unfold Builtin.«sorted»
  refine wpAny_bind (m := checkCount "sorted" 1 1 _) (wpAny_pure ?_)
  refine wpAny_bind (hc ?_)
  refine wpAny_bind (wpAny_newList ?_ hz)
  have e : ((s.heap.push (seqObj "list" #[] 0)).update s.heap.objs.size (Obj.mapSeq (· ++ us.toArray))).objs.size = s.heap.objs.size + 1 := by
    rw [Heap.size_update, size_push']
  show wpAny _ _ _ _ _ { s with heap := PySem.W.copyHeap s.heap us }
  rw [e]
  refine wpAny_bind (wpAny_holding (wpAny_call_entry_kw slot_list_sort ⟨_, PySem.W.copyHeap_at s.heap us, rfl⟩ entry_list_sort ?go (args_list_sort _)))
  case go =>
    show wpAny (model prog w) A.in1.in1 (Builtin.«list.sort» ⟨[.ref (s.heap.objs.size + 1)], []⟩) _ _ _
    refine wpAny_mono (body _) (fun f s' hf => ?_) fun _ _ e => e
    obtain ⟨rfl, hq⟩ := hf
    exact ⟨_, rfl, wpAny_pure ⟨_, rfl, hq⟩⟩
end
section
variable {X : Cx} {K : PySem.W.Frag} {F : Hp} {ι : List Addr} {H : Hp} {m : Mem} {σ : L2.St} {pins : List (Addr × Obj)} {s : Shared}
theorem each_reps {R : Value → D → Prop} : ∀ {ds : List D} {xs : List V} {us : List Value}, Reps K F ι ds xs → Vals xs us → (∀ d x u, d ∈ ds → Rep K F ι d x → RelV x u → R u d) → PySem.W.EachIs R us ds
  | [], xs, us, r, v, _ => by
    cases r.of_nil
    cases v
    exact .nil
  | d :: ds, xs, us, r, v, k => by
    obtain ⟨x, w, rfl, r1, r2⟩ := r.of_cons
    cases v with
    | cons h t => exact .cons (k d x _ List.mem_cons_self r1 h) (each_reps r2 t fun d x u hd => k d x u (List.mem_cons_of_mem _ hd))
theorem each_back : ∀ {us : List Value} {ds : List D}, PySem.W.EachIs (fun u d => ∃ x, Rep K F ι d x ∧ RelV x u) us ds → ∃ xs, Reps K F ι ds xs ∧ Vals xs us
  | [], [], _ => ⟨[], Reps.nil, .nil⟩
  | [], _ :: _, h => by cases h
  | _ :: _, [], h => by cases h
  | u :: us, d :: ds, h => by
    cases h with
    | cons h t =>
      obtain ⟨x, r, v⟩ := h
      obtain ⟨xs, rs, vs⟩ := each_back t
      exact ⟨x :: xs, Reps.cons r rs, .cons v vs⟩
theorem dep_le : ∀ {ds : List D} {d : D}, d ∈ ds → dep d ≤ depL ds
  | e :: ds, d, h => by
    simp only [depL]
    rcases List.mem_cons.mp h with rfl | h
    · exact Nat.le_max_left _ _
    · exact Nat.le_trans (dep_le h) (Nat.le_max_right _ _)
theorem plain_mem : ∀ {ds : List D} {d : D}, plainL ds = true → d ∈ ds → plain d = true
  | e :: ds, d, k, h => by
    simp only [plainL, Bool.and_eq_true] at k
    rcases List.mem_cons.mp h with rfl | h
    · exact k.1
    · exact plain_mem k.2 h
theorem sortable {ds : List D} (h : (ds.all isTup1 || ds.all fun d => !isNonT d) = true) : PySem.W.Sortable (ds.map py) := by
  rw [Bool.or_eq_true, List.all_eq_true, List.all_eq_true] at h
  rcases h with h | h
  · refine .inl fun d hd => ?_
    obtain ⟨e, he, rfl⟩ := List.mem_map.mp hd
    have q := h e he
    cases e with
    | tup es =>
      cases es with
      | nil => cases q
      | cons x r => exact ⟨py x, pyL r, by simp [py, pyL]⟩
    | _ => cases q
  · refine .inr fun d hd => ?_
    obtain ⟨e, he, rfl⟩ := List.mem_map.mp hd
    have q := h e he
    cases e with
    | tup es => cases q
    | non => cases q
    | _ => exact ⟨fun z => by simp [py] at z, fun xs z => by simp [py] at z⟩
theorem cr_sort (hu : X.A.units + 200 < cLine) : CallR X (.builtin "sorted") (fun vs H Q => ∃ a xs ds F ι m, vs = [.ref a] ∧ (SqL X.K H a xs ∨ SqT X.K H a xs) ∧ SimM X.K F ι m H ∧ Reps X.K F ι ds xs ∧ sortOk ds = true ∧
    ∀ ys p, H p = none → Reps X.K F ι (sortL ds) ys → Q (.ref p) (upd H p (.lst ys))) := by
  intro pins s σ H vs us Q I r h
  obtain ⟨a, xs, ds, F, ι, m, rfl, hq, sm, rs, ok, q⟩ := h
  rw [Vals.ref1 r]
  unfold sortOk at ok
  simp only [Bool.and_eq_true, decide_eq_true_eq] at ok
  obtain ⟨⟨⟨hp, hd⟩, hal⟩, hso⟩ := ok
  have hal' : PySem.W.AllAlike (ds.map py) := fun d h1 d' h2 => by
    obtain ⟨e, he, rfl⟩ := List.mem_map.mp h1
    obtain ⟨e', he', rfl⟩ := List.mem_map.mp h2
    exact List.all_eq_true.mp (List.all_eq_true.mp hal e he) e' he'
  obtain ⟨its, rv, hz, hc⟩ : ∃ its : List Value, Vals xs its ∧ xs.length ≤ sizeLine ∧ ∀ {P : List Value → Shared → Prop} {A' : Around} {E' : Value → Shared → Prop}, P its { s with heap := (s.heap.push (seqObj "list" #[] 0)).update s.heap.objs.size (Obj.mapSeq (· ++ its.toArray)) } →
      wpAny (model X.prog X.w) A' (collect (.ref a)) P E' s := by
    rcases hq with hq | hq
    · obtain ⟨its, rv, hl, hz⟩ := I.list hq
      exact ⟨its, rv, hz, fun hP => collect_list hl.isList hP (by rw [← rv.length]; exact hz)⟩
    · obtain ⟨its, rv, hl, hz⟩ := I.tuple hq
      obtain ⟨o, h1, h2, n, h3⟩ := hl
      exact ⟨its, rv, hz, fun hP => gather_tup ⟨o, h1, h2, n, h3⟩ hP (by rw [← rv.length]; exact hz)⟩
  have hl := rv.length
  have hl2 := rs.length
  have er : PySem.W.EachIs (fun v b => ∃ as, Reads s.heap v (py b) as) its ds := each_reps rs rv fun d x u hd rd ru => Dp.reads I _ _ _ (Rep.dp sm.sub (plain_mem hp hd) rd) ru
  have e : PySem.W.EachIs (fun u d => ∃ x, Rep X.K F ι d x ∧ RelV x u) its ds := each_reps rs rv fun d x u _ rd ru => ⟨x, rd, ru⟩
  have er' : PySem.W.EachIs (fun v b => ∃ as, Reads (PySem.W.sortingHeap (PySem.W.copyHeap s.heap its) (s.heap.objs.size + 1) its) v (py b) as) its ds := er.mono fun _ _ ⟨as, r⟩ => ⟨as, PyProof.Rows.Reads.keeps (fun _ _ => PySem.W.sorting_copy_old) r⟩
  refine sort_any (by omega) hc fun E' => PySem.W.list_sort_vals (κ := PySem.W.dataKind (PySem.W.sortingHeap (PySem.W.copyHeap s.heap its) (s.heap.objs.size + 1) its) (ds.map py)) (s := { s with heap := PySem.W.copyHeap s.heap its }) (PySem.W.copyHeap_at s.heap its)
    (PySem.W.SortsAt.data (s := { s with heap := PySem.W.sortingHeap (PySem.W.copyHeap s.heap its) (s.heap.objs.size + 1) its }) (PySem.W.each_map (R := fun v d => ∃ as, Reads (PySem.W.sortingHeap (PySem.W.copyHeap s.heap its) (s.heap.objs.size + 1) its) v d as) py er') hal' (sortable hso) (PySem.W.bound_map fun b hb => ?_)) (by omega) ⟨rfl, ?_⟩
  · rw [py_dep b (plain_mem hp hb)]
    have := dep_le hb
    show X.A.units + 1 + 1 + dep b < cLine
    omega
  · have eo := PySem.W.sortVals_data (h' := PySem.W.sortingHeap (PySem.W.copyHeap s.heap its) (s.heap.objs.size + 1) its) false e er' hal'
    obtain ⟨ys, ry, vy⟩ := each_back eo
    generalize PySem.W.sortVals (PySem.W.dataKind (PySem.W.sortingHeap (PySem.W.copyHeap s.heap its) (s.heap.objs.size + 1) its) (ds.map py)) false its its = out at vy eo ⊢
    obtain ⟨ep, he'⟩ := PyProof.Rows.sortedAll_at s.heap its out.toArray
    have hlen : ys.length ≤ sizeLine := by
      rw [ry.length, List.length_mergeSort]; omega
    exact ⟨.ref _, upd H (s.heap.objs.size + 1) (.lst ys), I.laid (t' := s.toks) (fun _ _ => PyProof.Rows.sortedAll_old) (Nat.le_succ _) ⟨hlen, out, ep, vy, he'⟩, rfl, q ys _ (I.hok.fresh (Nat.le_succ _)) ry⟩
end
end Cs

/-! Comparisons, truth, items by values. -/
namespace Cs
open PySem L2 PySem.Spec
section
variable {X : Cx} {c : SC} {W : EW} {a b e : Expr} {fa fb f : FE} {pos : Pos}
theorem one_sign {s : Str} {k : Nat} (h : s.cps.toList = [k]) : s = ⟨#[k]⟩ := by
  obtain ⟨⟨l⟩⟩ := s
  simp at h
  rw [h]
def isBlD : D → Bool → Bool
  | .bl i, j => i == j
  | _, _ => false
theorem is_bool {K : PySem.W.Frag} {F : Hp} {ι : List Addr} {a : D} {x : V} {v : Value} {j : Bool} (ra : Rep K F ι a x) (rx : RelV x v) :
    plainIs v (.bool j) = true ∧ (v == Value.bool j) = isBlD a j := by
  cases a with
  | non => cases ra.nonE; cases rx; exact ⟨rfl, rfl⟩
  | bl i =>
    cases ra.blE; cases rx
    refine ⟨rfl, ?_⟩
    show (Value.bool i == Value.bool j) = (i == j)
    cases i <;> cases j <;> rfl
  | int i => cases ra.intE; obtain ⟨t, rfl⟩ := rx; exact ⟨rfl, rfl⟩
  | str i => cases ra.strE; obtain ⟨t, rfl⟩ := rx; exact ⟨rfl, rfl⟩
  | tup ds => obtain ⟨p, _, rfl, _⟩ := ra.tupE; cases rx; exact ⟨rfl, rfl⟩
  | lst ds => obtain ⟨p, _, rfl, _⟩ := ra.lstE; cases rx; exact ⟨rfl, rfl⟩
  | dct ks ws => simp only [Rep] at ra; obtain ⟨p, rfl, _⟩ := ra; cases rx; exact ⟨rfl, rfl⟩
  | ref n => obtain ⟨p, rfl, _⟩ := ra.refE; cases rx; exact ⟨rfl, rfl⟩
  | scr ds => obtain ⟨p, _, rfl, _⟩ := ra.scrE; cases rx; exact ⟨rfl, rfl⟩
theorem opr_cmp (C : Ctx X c W) (op : CmpOp) : OpR X (compareOp op) (r2 X.K (RV X.K) (fun a b m => (cmpD op a b m).map .bl)) := by
  have hu := C.hu
  intro pins s σ H x y v u Q I rx ry h
  obtain ⟨F, ι, m, a, b, d, sm, ra, rb, e, q⟩ := h
  obtain ⟨k, e1, e2⟩ := Option.map_eq_some_iff.mp e
  subst e2
  have now : Q (.bl k) H := q (.bl k) F ι H (Ext.refl F ι H) sm (Rep.blI (K := X.K) (F := F) (ι := ι))
  have fin : ∀ {s'}, L2.Inv X pins σ H s' → EP X pins σ Q (.bool k) s' := fun I' => ⟨.bl k, H, I', rfl, now⟩
  clear q e
  -- == and !=
  have eqv : ∀ {x y : V} {v u : Value}, RelV x v → RelV y u → Rep X.K F ι a x → Rep X.K F ι b y → (plain (res m a) && plain (res m b) && decide (min (dep (res m a)) (dep (res m b)) ≤ 150)) = true → ∃ da db as bs, Reads s.heap v da as ∧ Reads s.heap u db bs ∧ da.plain = true ∧ db.plain = true ∧ X.A.units + min da.depth db.depth < cLine ∧ PyData.eqv da db = eqD (res m a) (res m b) := by
    intro x y v u rx ry ra rb ok
    simp only [Bool.and_eq_true, decide_eq_true_eq] at ok
    obtain ⟨⟨p1, p2⟩, p3⟩ := ok
    obtain ⟨as, r1⟩ := Dp.reads I _ x v (ra.dpR sm p1) rx
    obtain ⟨bs, r2⟩ := Dp.reads I _ y u (rb.dpR sm p2) ry
    exact ⟨_, _, as, bs, r1, r2, py_plain _ p1, py_plain _ p2, by rw [py_dep _ p1, py_dep _ p2]; omega, py_eqv _ _ p1 p2⟩
  have inl : ∀ ds : List D, plain a = true → plainL ds = true → min (depL ds) (dep a) ≤ 150 → ∃ as, (∃ bs, Reads s.heap v (py a) bs) ∧ PyData.plainAll (pyL ds) = true ∧ (py a).plain = true ∧ X.A.units + 1 + min (PyData.depthAll (pyL ds)) (py a).depth < cLine ∧ as = () := by
    intro ds p1 p2 p3
    obtain ⟨bs, r1⟩ := Dp.reads I _ x v (Rep.dp sm.sub p1 ra) rx
    exact ⟨(), ⟨bs, r1⟩, pyL_plain _ p2, py_plain _ p1, by rw [pyL_dep _ p2, py_dep _ p1]; omega, rfl⟩
  have l0 : lst0 (res m a) (res m b) = true → ∃ p b' d ds, res m a = .lst (d :: ds) ∧ res m b = .lst [] ∧ v = .ref p ∧ u = .ref b' ∧ ∃ its its2 : Array Value, s.heap.IsList p its ∧ s.heap.IsList b' its2 ∧ (its.size != its2.size) = true := by
    intro h
    unfold lst0 at h
    split at h
    · rename_i d ds e1 e2
      obtain ⟨p, vs, rfl, q1, r1⟩ := ra.isLst sm e1
      obtain ⟨p2, vs2, rfl, q2, r2⟩ := rb.isLst sm e2
      obtain ⟨its, rv, pl, _⟩ := I.list q1
      obtain ⟨its2, rv2, pl2, _⟩ := I.list q2
      refine ⟨p, p2, d, ds, e1, e2, rx, ry, its.toArray, its2.toArray, pl.isList, pl2.isList, ?_⟩
      have l1 := rv.length
      have l2 := rv2.length
      have l3 := r1.length
      have l4 := r2.length
      simp only [List.length_cons, List.length_nil] at l3 l4
      rw [List.size_toArray, List.size_toArray, bne_iff_ne]
      omega
    · cases h
  cases op with
  | Eq =>
    simp only [cmpD] at e1
    split at e1
    · rename_i ok
      unfold eqOk at ok
      rw [Bool.or_eq_true] at ok
      rcases ok with ok | ok
      case inr =>
        obtain ⟨p, b', d, ds, ea, eb, rfl, rfl, its, its2, h1, h2, h3⟩ := l0 ok
        rw [ea, eb] at e1
        simp only [eqD, eqL, Option.some.injEq] at e1
        subst e1
        exact (SeqAt.RcAt.lists_lengths h1 h2 h3 (by omega)) _ _ _ _ (fin I)
      obtain ⟨da, db, as, bs, r1, r2, p1, p2, hr, ev⟩ := eqv rx ry ra rb ok
      refine SeqAt.eq_plain r1 r2 p1 p2 hr ?_
      rw [ev, Option.some.inj e1]
      exact fin I
    · cases e1
  | NotEq =>
    simp only [cmpD] at e1
    split at e1
    · rename_i ok
      unfold eqOk at ok
      rw [Bool.or_eq_true] at ok
      rcases ok with ok | ok
      case inr =>
        obtain ⟨p, b', d, ds, ea, eb, rfl, rfl, its, its2, h1, h2, h3⟩ := l0 ok
        rw [ea, eb] at e1
        simp only [eqD, eqL, Bool.not_false, Option.some.injEq] at e1
        subst e1
        exact (SeqAt.RcNeAt.lists_lengths h1 h2 h3 (by omega)) _ _ _ _ (fin I)
      obtain ⟨da, db, as, bs, r1, r2, p1, p2, hr, ev⟩ := eqv rx ry ra rb ok
      refine SeqAt.ne_plain r1 r2 p1 p2 hr ?_
      rw [ev, Option.some.inj e1]
      exact fin I
    · cases e1
  | Lt =>
    simp only [cmpD] at e1
    split at e1
    · cases e1; exact op_lt pins s σ H x y v u Q I rx ry ⟨_, _, ra.intE, rb.intE, now⟩
    · cases e1; exact op_lt_str pins s σ H x y v u Q I rx ry ⟨_, _, ra.strE, rb.strE, now⟩
    · cases e1
  | LtE =>
    simp only [cmpD] at e1
    split at e1
    · cases e1; exact op_le pins s σ H x y v u Q I rx ry ⟨_, _, ra.intE, rb.intE, now⟩
    · cases e1; exact op_le_str pins s σ H x y v u Q I rx ry ⟨_, _, ra.strE, rb.strE, now⟩
    · cases e1
  | Gt =>
    simp only [cmpD] at e1
    split at e1
    · cases e1; exact op_gt pins s σ H x y v u Q I rx ry ⟨_, _, ra.intE, rb.intE, now⟩
    · cases e1; exact op_gt_str pins s σ H x y v u Q I rx ry ⟨_, _, ra.strE, rb.strE, now⟩
    · cases e1
  | GtE =>
    simp only [cmpD] at e1
    split at e1
    · cases e1; exact op_ge pins s σ H x y v u Q I rx ry ⟨_, _, ra.intE, rb.intE, now⟩
    · cases e1; exact op_ge_str pins s σ H x y v u Q I rx ry ⟨_, _, ra.strE, rb.strE, now⟩
    · cases e1
  | Is =>
    simp only [cmpD] at e1
    split at e1
    · have ey := rb.nonE
      subst ey
      refine op_isN pins s σ H x .non v u Q I rx ry ⟨rfl, ?_⟩
      have : decide (x = .non) = k := by
        have e1 := Option.some.inj e1
        subst e1
        cases a <;> simp [Rep] at ra <;> first | (rw [ra]; rfl) | (obtain ⟨p, rfl, _⟩ := ra; rfl) | (obtain ⟨p, _, rfl, _⟩ := ra; rfl) | skip
        all_goals (obtain ⟨p, h, _⟩ := ra; rw [h]; rfl)
      rw [this]; exact now
    · rename_i j
      have ey := rb.blE
      subst ey
      cases (show u = Value.bool j from ry)
      obtain ⟨p1, p2⟩ := is_bool (j := j) ra rx
      refine wpAny_is_plain p1 ?_
      rw [p2]
      have : isBlD a j = k := by
        clear eqv inl ra p2
        cases a <;> simpa [isBlD] using e1
      rw [this]
      exact fin I
    · cases e1
  | IsNot =>
    simp only [cmpD] at e1
    split at e1
    · have ey := rb.nonE
      subst ey
      refine op_notN pins s σ H x .non v u Q I rx ry ⟨rfl, ?_⟩
      have : (!decide (x = .non)) = k := by
        have e1 := Option.some.inj e1
        subst e1
        cases a <;> simp [Rep] at ra <;> first | (rw [ra]; rfl) | (obtain ⟨p, rfl, _⟩ := ra; rfl) | (obtain ⟨p, _, rfl, _⟩ := ra; rfl) | skip
        all_goals (obtain ⟨p, h, _⟩ := ra; rw [h]; rfl)
      rw [this]; exact now
    · rename_i j
      have ey := rb.blE
      subst ey
      cases (show u = Value.bool j from ry)
      obtain ⟨p1, p2⟩ := is_bool (j := j) ra rx
      refine wpAny_isNot_plain p1 ?_
      rw [p2]
      have : (!isBlD a j) = k := by
        clear eqv inl ra p2
        cases a <;> simpa [isBlD] using e1
      rw [this]
      exact fin I
    · cases e1
  | In =>
    simp only [cmpD, inD] at e1
    split at e1
    · rename_i ds e3
      split at e1
      · rename_i ok
        cases e1
        simp only [Bool.and_eq_true, decide_eq_true_eq] at ok
        obtain ⟨_, ⟨bs, r1⟩, h1, h2, h3, _⟩ := inl ds ok.1.1 ok.1.2 ok.2
        have pb : plain (res m b) = true := by rw [e3]; simp only [plain]; exact ok.1.2
        obtain ⟨as, r2⟩ := Dp.reads I _ y u (rb.dpR sm pb) ry
        rw [e3, py] at r2
        refine SeqAt.in_list_data r2 r1 h1 h2 h3 ?_
        rw [pyL_any a ok.1.1 ds ok.1.2]
        exact fin I
      · cases e1
    · rename_i ds e3
      split at e1
      · rename_i ok
        cases e1
        simp only [Bool.and_eq_true, decide_eq_true_eq] at ok
        obtain ⟨_, ⟨bs, r1⟩, h1, h2, h3, _⟩ := inl ds ok.1.1 ok.1.2 ok.2
        have pb : plain (res m b) = true := by rw [e3]; simp only [plain]; exact ok.1.2
        obtain ⟨as, r2⟩ := Dp.reads I _ y u (rb.dpR sm pb) ry
        rw [e3, py] at r2
        refine SeqAt.in_tuple_data r2 r1 h1 h2 h3 ?_
        rw [pyL_any a ok.1.1 ds ok.1.2]
        exact fin I
      · cases e1
    · rename_i z e3
      split at e1
      · rename_i t
        split at e1
        · rename_i g e4
          cases e1
          exact op_in_sign pins s σ H x y v u Q I rx ry ⟨g, z, by rw [ra.strE, one_sign e4], rb.isStr e3, now⟩
        · cases e1
      · cases e1
    · rename_i ks ws e3
      split at e1
      · rename_i ok
        cases e1
        obtain ⟨p, H', o, rfl, I', g, back, mt⟩ := dget I sm rb e3 ok ra
        cases (show u = Value.ref p from ry)
        refine d_in (by omega) I' g rx fun s3 I3 => ?_
        have : o.isSome = (getK ks ws a).isSome := by
          cases z : getK ks ws a <;> cases z2 : o <;> simp [z, z2] at mt ⊢
        rw [this]
        exact fin (back _ I3)
      · cases e1
    · cases e1
  | NotIn =>
    simp only [cmpD, inD] at e1
    split at e1
    · rename_i ds e3
      split at e1
      · rename_i ok
        cases e1
        simp only [Bool.and_eq_true, decide_eq_true_eq] at ok
        obtain ⟨_, ⟨bs, r1⟩, h1, h2, h3, _⟩ := inl ds ok.1.1 ok.1.2 ok.2
        have pb : plain (res m b) = true := by rw [e3]; simp only [plain]; exact ok.1.2
        obtain ⟨as, r2⟩ := Dp.reads I _ y u (rb.dpR sm pb) ry
        rw [e3, py] at r2
        refine SeqAt.notIn_list_data r2 r1 h1 h2 h3 ?_
        rw [pyL_any a ok.1.1 ds ok.1.2]
        exact fin I
      · cases e1
    · rename_i ds e3
      split at e1
      · rename_i ok
        cases e1
        simp only [Bool.and_eq_true, decide_eq_true_eq] at ok
        obtain ⟨_, ⟨bs, r1⟩, h1, h2, h3, _⟩ := inl ds ok.1.1 ok.1.2 ok.2
        have pb : plain (res m b) = true := by rw [e3]; simp only [plain]; exact ok.1.2
        obtain ⟨as, r2⟩ := Dp.reads I _ y u (rb.dpR sm pb) ry
        rw [e3, py] at r2
        refine SeqAt.notIn_tuple_data r2 r1 h1 h2 h3 ?_
        rw [pyL_any a ok.1.1 ds ok.1.2]
        exact fin I
      · cases e1
    · rename_i z e3
      split at e1
      · rename_i t
        split at e1
        · rename_i g e4
          cases e1
          exact op_notIn_sign pins s σ H x y v u Q I rx ry ⟨g, z, by rw [ra.strE, one_sign e4], rb.isStr e3, now⟩
        · cases e1
      · cases e1
    · rename_i ks ws e3
      split at e1
      · rename_i ok
        cases e1
        obtain ⟨p, H', o, rfl, I', g, back, mt⟩ := dget I sm rb e3 ok ra
        cases (show u = Value.ref p from ry)
        refine d_notIn (by omega) I' g rx fun s3 I3 => ?_
        have : o.isSome = (getK ks ws a).isSome := by
          cases z : getK ks ws a <;> cases z2 : o <;> simp [z, z2] at mt ⊢
        rw [this]
        exact fin (back _ I3)
      · cases e1
    · cases e1
end
end Cs

/-! Expressions: comparisons, truth, displays, items. -/
namespace Cs
open PySem L2 PySem.Spec
section
variable {X : Cx} {c : SC} {W : EW} {a b e : Expr} {fa fb f : FE} {pos : Pos} {K : PySem.W.Frag} {F : Hp} {ι : List Addr} {H : Hp} {m : Mem} {σ : L2.St}
theorem noSet_marks {op : CmpOp} (h : noSet b = true) : behindInMarks op b = false := by
  cases b <;> first | rfl | (simp [noSet] at h)
theorem noSet_last : ∀ {ops : List CmpOp} {bs : List Expr}, bs.all noSet = true → lastMarks ops bs = false
  | [], [], _ => by rfl
  | [], _ :: _, _ => by rfl
  | [op], [], _ => by rfl
  | _ :: _ :: _, [], _ => by rfl
  | [op], [b], h => by
    have hb : noSet b = true := by simpa using h
    exact noSet_marks hb
  | [op], _ :: _ :: _, h => by rfl
  | op :: op' :: ops, [b], h => by cases ops <;> rfl
  | op :: op' :: ops, b :: b' :: bs, h => by
    have ih := noSet_last (ops := op' :: ops) (bs := b' :: bs) (by
      rw [List.all_cons, Bool.and_eq_true] at h
      exact h.2)
    exact ih
theorem d_cmp (C : Ctx X c W) {op : CmpOp} (hs : noSet b = true) (ha : PE X a (TV X W fa)) (hb : PE X b (TV X W fb)) : PE X (.Compare a [op] [b] pos) (TV X W (fCmp op fa fb)) :=
  PE.weak (pe_cmpR (opr_cmp C op) ha hb (noSet_marks hs)) fun σ H Q h => T2 RV.down h
/-- a test that is a comparison -/
theorem trD_bl (k : Bool) : trD m (.bl k) = some k := rfl
theorem evalEach_map (env : PySem.Env) : ∀ bs : List Expr, evalEach bs env = bs.map fun b => eval b env
  | [] => rfl
  | b :: r => by show eval b env :: evalEach r env = _; rw [evalEach_map env r]; rfl
open PyProof.Rows in
/-- the rest of a chain -/
theorem chain_ok (C : Ctx X c W) {pins : List (Addr × Obj)} : ∀ (l : List (CmpOp × Expr × FE)), (∀ p ∈ l, PE X p.2.1 (TV X W p.2.2)) → ∀ {s : Shared} {H : Hp} {F : Hp} {ι : List Addr} {m : Mem} {en : Sto} {Q : VK} {d : D} {x : V} {v : Value},
    L2.Inv X pins σ H s → Sim X.K F ι en m σ H → Rep X.K F ι d x → RelV x v → Out X.K W (RV X.K) F ι σ H (cmpGo d (l.map fun p => (p.1, p.2.2)) en m) Q → 
    wpAny (model X.prog X.w) X.A (compareChain pos v (l.map (·.1)) (l.map fun p => eval p.2.1 X.env)) (EP X pins σ Q) X.xe s
  | [], _, s, H, F, ι, m, en, Q, d, x, v, I, sm, r, rx, o => False.elim o
  | [p], hp, s, H, F, ι, m, en, Q, d, x, v, I, sm, r, rx, o => by
    refine chain_last ?_
    have o : Out X.K W (RV X.K) F ι σ H (bnd (p.2.2 en m) fun b m => ofO m ((cmpD p.1 d b m).map .bl)) Q := o
    have t := Obnd (R := RV X.K) RV.down sm o (P := fun y H1 => r2 X.K (RV X.K) (fun a b m => (cmpD p.1 a b m).map .bl) x y H1 Q) fun y F1 ι1 H1 m1 b s1 rb x1 o1 => by
      obtain ⟨z, e1, q⟩ := ofO_out o1
      exact ⟨F1, ι1, m1, d, b, z, s1.mem, r.ext x1, rb, e1, q⟩
    exact thn ((hp p (by simp)).run pins s σ H _ I t) fun u s2 ⟨y, H2, I2, ry, q⟩ => opr_cmp C p.1 pins s2 σ H2 x y v u Q I2 rx ry q
  | p :: q :: l, hp, s, H, F, ι, m, en, Q, d, x, v, I, sm, r, rx, o => by
    refine chain_link ?_
    have o : Out X.K W (RV X.K) F ι σ H (bnd (p.2.2 en m) fun b m => match cmpD p.1 d b m with
      | some true => cmpGo b ((q :: l).map fun p => (p.1, p.2.2)) en m
      | some false => .ok (.bl false) m
      | none => .bad) Q := o
    -- what is behind the second value
    let P : VK := fun y H1 => ∃ F1 ι1 m1 b k, Sim X.K F1 ι1 en m1 σ H1 ∧ Rep X.K F1 ι1 d x ∧ Rep X.K F1 ι1 b y ∧ cmpD p.1 d b m1 = some k ∧ Out X.K W (RV X.K) F1 ι1 σ H1 (if k = true then cmpGo b ((q :: l).map fun p => (p.1, p.2.2)) en m1 else .ok (.bl false) m1) Q
    have t := Obnd (R := RV X.K) RV.down sm o (P := P) fun y F1 ι1 H1 m1 b s1 rb x1 o1 => by
      cases z : cmpD p.1 d b m1 with
      | none => rw [z] at o1; exact False.elim o1
      | some k =>
        rw [z] at o1
        refine ⟨F1, ι1, m1, b, k, s1, r.ext x1, rb, z, ?_⟩
        cases k with
        | true => simpa using o1
        | false => simpa using o1
    refine thn ((hp p (by simp)).run pins s σ H _ I t) fun u s2 ⟨y, H2, I2, ry, F1, ι1, m1, b, k, s1, rd, rb, z, o1⟩ => ?_
    have rr : r2 X.K (RV X.K) (fun a b m => (cmpD p.1 a b m).map .bl) x y H2 (fun w H3 => w = .bl k ∧ ∃ F3 ι3, Sim X.K F3 ι3 en m1 σ H3 ∧ Rep X.K F3 ι3 b y ∧ Out X.K W (RV X.K) F3 ι3 σ H3 (if k = true then cmpGo b ((q :: l).map fun p => (p.1, p.2.2)) en m1 else .ok (.bl false) m1) Q) := by
      refine ⟨F1, ι1, m1, d, b, .bl k, s1.mem, rd, rb, by show (cmpD p.1 d b m1).map D.bl = _; rw [z]; rfl, fun w F' ι' H' x' s' rw' => ⟨Rep.blE rw', F', ι', s1.ext x' s', rb.ext x', o1.shift x' RV.down⟩⟩
    refine thn (opr_cmp C p.1 pins s2 σ H2 x y v u _ I2 rx ry rr) fun w s3 ⟨z3, H3, I3, r3, e3, F3, ι3, s4, rb3, o3⟩ => ?_
    subst e3
    cases r3
    refine wpAny_truthy_bool ?_
    cases k with
    | true =>
      rw [if_pos rfl] at o3 ⊢
      exact chain_ok C (q :: l) (fun p hp' => hp p (List.mem_cons_of_mem _ hp')) I3 s4 rb3 ry o3
    | false =>
      rw [if_neg (by decide)] at o3 ⊢
      exact ⟨.bl false, H3, I3, rfl, o3.now s4.mem Rep.blI⟩
open PyProof.Rows in
theorem d_cmpN (C : Ctx X c W) {l : List (CmpOp × Expr × FE)} (h2 : 2 ≤ l.length) (hs : (l.map (·.2.1)).all noSet = true) (ha : PE X a (TV X W fa)) (hl : ∀ p ∈ l, PE X p.2.1 (TV X W p.2.2)) :
    PE X (.Compare a (l.map (·.1)) (l.map (·.2.1)) pos) (TV X W (fCmpN fa (l.map fun p => (p.1, p.2.2)))) := by
  match l, h2 with
  | p :: q :: l, _ =>
    refine ⟨fun pins s σ H Q I ⟨F, ι, m, en, sm, o⟩ => ?_⟩
    refine Compare_chain ?_ (noSet_last hs)
    have t := Obnd (R := RV X.K) RV.down sm o (P := fun x H1 => ∃ F1 ι1 m1 d, Sim X.K F1 ι1 en m1 σ H1 ∧ Rep X.K F1 ι1 d x ∧ Out X.K W (RV X.K) F1 ι1 σ H1 (cmpGo d ((p :: q :: l).map fun p => (p.1, p.2.2)) en m1) Q) fun x F1 ι1 H1 m1 d s1 r x1 o1 => ⟨F1, ι1, m1, d, s1, r, o1⟩
    refine thn (ha.run pins s σ H _ I t) fun v s1 ⟨x, H1, I1, rx, F1, ι1, m1, d, sm1, r, o1⟩ => ?_
    have := chain_ok (pos := pos) C (p :: q :: l) hl I1 sm1 r rx o1
    rw [evalEach_map]
    simpa [Function.comp_def] using this

/-! ### truth -/
theorem truV (s : SimM K F ι m H) {d : D} {x : V} {k : Bool} (r : Rep K F ι d x) (h : trD m d = some k) : TruV K x H k := by
  unfold trD at h
  split at h
  · rename_i e
    have : x = .non := by
      cases d with
      | non => exact r.nonE
      | ref n => rw [res_ref] at e; split at e <;> cases e
      | _ => simp [res] at e
    subst this
    exact (Option.some.inj h).symm
  · rename_i b e
    have : x = .bl b := by
      cases d with
      | bl j =>
        have e : j = b := by simpa [res] using e
        subst e; exact r.blE
      | ref n => rw [res_ref] at e; split at e <;> cases e
      | _ => simp [res] at e
    subst this
    exact (Option.some.inj h).symm
  · rename_i i e
    rw [r.isInt e]
    exact (Option.some.inj h).symm
  · rename_i i e
    rw [r.isStr e]
    split at h
    · exact ⟨by assumption, (Option.some.inj h).symm⟩
    · cases h
  · rename_i ds e
    obtain ⟨p, vs, rfl, q, rs⟩ := r.isLst s e
    refine .inl ⟨vs, q, ?_⟩
    rw [← Option.some.inj h]
    have := rs.length
    cases ds <;> cases vs <;> simp at this ⊢
  · rename_i ds e
    obtain ⟨p, vs, rfl, q, rs, _⟩ := r.isTup s e
    refine .inr (.inl ⟨vs, q, ?_⟩)
    rw [← Option.some.inj h]
    have := rs.length
    cases ds <;> cases vs <;> simp at this ⊢
  · cases h
/-- a value, then its truth -/
theorem Ttr {f : FE} {k : V → Hp → Prop} {Q : Bool → Hp → Prop} {en : Sto} (s : Sim K F ι en m σ H) (o : Out K W RB F ι σ H (fTr f en m) Q) : T K W (RV K) f σ H fun x H1 => ∃ k, TruV K x H1 k ∧ Q k H1 := by
  refine Obnd RB.down s o fun x F1 ι1 H1 m1 a s1 r x1 o1 => ?_
  cases z : trD m1 a with
  | none => rw [z] at o1; exact False.elim o1
  | some k =>
    rw [z] at o1
    exact ⟨k, truV s1.mem r z, o1.now s1.mem rfl⟩
theorem d_tr (ha : PE X a (TV X W fa)) (he : ∀ whole, isTrue a X.env whole = (do let v ← whole; standAt a.pos; holding [v] (truthy v))) : PT X a (TBl X W (fTr fa)) :=
  PT.weak (pt_truth ha he) fun σ H Q ⟨F, ι, m, en, s, o⟩ => Ttr (k := fun _ _ => True) s o
theorem d_notV (ha : PE X a (TV X W fa)) : PE X (.UnaryOp .Not a pos) (TV X W (fNotV fa)) := by
  refine PE.weak (pe_notT ha) fun σ H Q ⟨F, ι, m, en, s, o⟩ => ?_
  refine Obnd (f := fa) (Q := Q) (R' := RV X.K) (g := fun a m => match trD m a with | some b => .ok (.bl !b) m | none => .bad) RV.down s ?_ fun x F1 ι1 H1 m1 d s1 r x1 o1 => ?_
  · have o : Out X.K W (RV X.K) F ι σ H (bnd (fTr fa en m) fun b m => .ok (.bl !b) m) Q := o
    unfold fTr at o
    cases z : fa en m with
    | ok d m1 =>
      rw [z] at o
      simp only [bnd] at o ⊢
      cases z2 : trD m1 d <;> rw [z2] at o <;> exact o
    | exc y m1 => rw [z] at o; exact o
    | bad => rw [z] at o; exact o
  · cases z : trD m1 d with
    | none => rw [z] at o1; exact False.elim o1
    | some k =>
      rw [z] at o1
      exact ⟨k, truV s1.mem r z, o1.now s1.mem Rep.blI⟩
theorem d_andV {rest : List Expr} (ha : PE X a (TV X W fa)) (hb : PE X (.BoolOp .And (b :: rest) pos) (TV X W fb)) : PE X (.BoolOp .And (a :: b :: rest) pos) (TV X W (fAndV fa fb)) := by
  refine PE.weak (pe_andT ha hb) fun σ H Q ⟨F, ι, m, en, s, o⟩ => ?_
  refine Obnd RV.down s o fun x F1 ι1 H1 m1 d s1 r x1 o1 => ?_
  cases z : trD m1 d with
  | none => rw [z] at o1; exact False.elim o1
  | some k =>
    rw [z] at o1
    refine ⟨k, truV s1.mem r z, ?_⟩
    cases k with
    | true => exact ⟨F1, ι1, m1, en, s1, o1⟩
    | false => exact o1.now s1.mem r
theorem d_orV {rest : List Expr} (ha : PE X a (TV X W fa)) (hb : PE X (.BoolOp .Or (b :: rest) pos) (TV X W fb)) : PE X (.BoolOp .Or (a :: b :: rest) pos) (TV X W (fOrV fa fb)) := by
  refine PE.weak (pe_orT ha hb) fun σ H Q ⟨F, ι, m, en, s, o⟩ => ?_
  refine Obnd RV.down s o fun x F1 ι1 H1 m1 d s1 r x1 o1 => ?_
  cases z : trD m1 d with
  | none => rw [z] at o1; exact False.elim o1
  | some k =>
    rw [z] at o1
    refine ⟨k, truV s1.mem r z, ?_⟩
    cases k with
    | true => exact o1.now s1.mem r
    | false => exact ⟨F1, ι1, m1, en, s1, o1⟩
theorem d_one {op : BoolOp} (ha : PE X a (TV X W fa)) : PE X (.BoolOp op [a] pos) (TV X W fa) := pe_one ha
theorem d_boolA (f : Expr → FE) : ∀ vs : List Expr, (∀ v ∈ vs, PE X v (TV X W (f v))) → PE X (.BoolOp .And vs pos) (TV X W (boolX fAndV f vs))
  | [], _ => d_bad
  | [a], h => d_one (h a (by simp))
  | a :: b :: r, h => d_andV (h a (by simp)) (d_boolA f (b :: r) fun v hv => h v (List.mem_cons_of_mem _ hv))
theorem d_boolO (f : Expr → FE) : ∀ vs : List Expr, (∀ v ∈ vs, PE X v (TV X W (f v))) → PE X (.BoolOp .Or vs pos) (TV X W (boolX fOrV f vs))
  | [], _ => d_bad
  | [a], h => d_one (h a (by simp))
  | a :: b :: r, h => d_orV (h a (by simp)) (d_boolO f (b :: r) fun v hv => h v (List.mem_cons_of_mem _ hv))

/-! ### tests -/
theorem t_bad : PT X e (TBl X W fun _ _ => .bad) := ⟨fun _ _ _ _ _ _ ⟨_, _, _, _, _, o⟩ => False.elim o⟩
/-- a bool's value as a test's answer -/
theorem tst_cmp1 (C : Ctx X c W) {op : CmpOp} (hs : noSet b = true) (ha : PE X a (TV X W fa)) (hb : PE X b (TV X W fb)) : PT X (.Compare a [op] [b] pos) (TBl X W (fTr (fCmp op fa fb))) := by
  refine PT.weak (pt_cmpR (opr_cmp C op) ha hb (noSet_marks hs)) fun σ H Q ⟨F, ι, m, en, s, o⟩ => ?_
  refine T2 RV.down ⟨F, ι, m, en, s, ?_⟩
  have o : Out X.K W RB F ι σ H (bnd (fCmp op fa fb en m) fun a m => match trD m a with | some b => .ok b m | none => .bad) Q := o
  show Out X.K W (RV X.K) F ι σ H (fCmp op fa fb en m) _
  cases z : fCmp op fa fb en m with
  | bad => rw [z] at o; exact o
  | exc y m1 => rw [z] at o; exact o
  | ok d m1 =>
    rw [z] at o
    -- the value is a bool
    have hd : ∃ k, d = .bl k := by
      unfold fCmp f2 at z
      cases z1 : fa en m with
      | bad => rw [z1] at z; cases z
      | exc _ _ => rw [z1] at z; cases z
      | ok a1 m2 =>
        rw [z1] at z
        simp only [bnd] at z
        cases z2 : fb en m2 with
        | bad => rw [z2] at z; cases z
        | exc _ _ => rw [z2] at z; cases z
        | ok b1 m3 =>
          rw [z2] at z
          simp only [ofO] at z
          cases z3 : cmpD op a1 b1 m3 with
          | none => rw [z3] at z; cases z
          | some k => rw [z3] at z; cases z; exact ⟨k, rfl⟩
    obtain ⟨k, rfl⟩ := hd
    exact fun v F' ι' H' x sm r => ⟨k, Rep.blE r, o k F' ι' H' x sm rfl⟩
open PyProof.Rows in
/-- the rest of a chain that is a test -/
theorem tchain_ok (C : Ctx X c W) {pins : List (Addr × Obj)} : ∀ (l : List (CmpOp × Expr × FE)), (∀ p ∈ l, PE X p.2.1 (TV X W p.2.2)) → ∀ {s : Shared} {H : Hp} {F : Hp} {ι : List Addr} {m : Mem} {en : Sto} {Q : Bool → Hp → Prop} {d : D} {x : V} {v : Value},
    L2.Inv X pins σ H s → Sim X.K F ι en m σ H → Rep X.K F ι d x → RelV x v → Out X.K W RB F ι σ H (bnd (cmpGo d (l.map fun p => (p.1, p.2.2)) en m) fun a m => match trD m a with | some b => .ok b m | none => .bad) Q → 
    wpAny (model X.prog X.w) X.A (testChain pos v (l.map (·.1)) (l.map fun p => eval p.2.1 X.env)) (TP X pins σ Q) X.xe s
  | [], _, s, H, F, ι, m, en, Q, d, x, v, I, sm, r, rx, o => False.elim o
  | [p], hp, s, H, F, ι, m, en, Q, d, x, v, I, sm, r, rx, o => by
    refine test_last ?_
    have o : Out X.K W RB F ι σ H (bnd (p.2.2 en m) fun b m => match cmpD p.1 d b m with | some k => .ok k m | none => .bad) Q := by
      have o : Out X.K W RB F ι σ H (bnd (bnd (p.2.2 en m) fun b m => ofO m ((cmpD p.1 d b m).map .bl)) fun a m => match trD m a with | some b => .ok b m | none => .bad) Q := o
      cases z : p.2.2 en m with
      | ok b m1 =>
        rw [z] at o
        simp only [bnd] at o ⊢
        cases z2 : cmpD p.1 d b m1 <;> rw [z2] at o <;> exact o
      | exc y m1 => rw [z] at o; exact o
      | bad => rw [z] at o; exact o
    have t := Obnd (R := RV X.K) RB.down sm o (P := fun y H1 => r2 X.K (RV X.K) (fun a b m => (cmpD p.1 a b m).map .bl) x y H1 (fun z H2 => ∃ k, z = .bl k ∧ Q k H2)) fun y F1 ι1 H1 m1 b s1 rb x1 o1 => by
      cases z : cmpD p.1 d b m1 with
      | none => rw [z] at o1; exact False.elim o1
      | some k =>
        rw [z] at o1
        exact ⟨F1, ι1, m1, d, b, .bl k, s1.mem, r.ext x1, rb, by show (cmpD p.1 d b m1).map D.bl = _; rw [z]; rfl, fun w F' ι' H' x' s' rw' => ⟨k, Rep.blE rw', o1.of x' s' rfl⟩⟩
    refine thn ((hp p (by simp)).run pins s σ H _ I t) fun u s2 ⟨y, H2, I2, ry, q⟩ => thn (opr_cmp C p.1 pins s2 σ H2 x y v u _ I2 rx ry q) fun w s3 ⟨z3, H3, I3, r3, k, e3, q3⟩ => ?_
    subst e3
    cases r3
    exact wpAny_truthy_bool ⟨H3, I3, q3⟩
  | p :: q :: l, hp, s, H, F, ι, m, en, Q, d, x, v, I, sm, r, rx, o => by
    refine test_link ?_
    have o : Out X.K W RB F ι σ H (bnd (p.2.2 en m) fun b m => match cmpD p.1 d b m with
      | some true => bnd (cmpGo b ((q :: l).map fun p => (p.1, p.2.2)) en m) fun a m => match trD m a with | some b => .ok b m | none => .bad
      | some false => .ok false m
      | none => .bad) Q := by
      have o : Out X.K W RB F ι σ H (bnd (bnd (p.2.2 en m) fun b m => match cmpD p.1 d b m with
        | some true => cmpGo b ((q :: l).map fun p => (p.1, p.2.2)) en m
        | some false => .ok (.bl false) m
        | none => .bad) fun a m => match trD m a with | some b => .ok b m | none => .bad) Q := o
      cases z : p.2.2 en m with
      | ok b m1 =>
        rw [z] at o
        simp only [bnd] at o ⊢
        cases z2 : cmpD p.1 d b m1 with
        | none => rw [z2] at o; exact o
        | some k => rw [z2] at o; cases k <;> exact o
      | exc y m1 => rw [z] at o; exact o
      | bad => rw [z] at o; exact o
    let P : VK := fun y H1 => ∃ F1 ι1 m1 b k, Sim X.K F1 ι1 en m1 σ H1 ∧ Rep X.K F1 ι1 d x ∧ Rep X.K F1 ι1 b y ∧ cmpD p.1 d b m1 = some k ∧ Out X.K W RB F1 ι1 σ H1 (if k = true then (bnd (cmpGo b ((q :: l).map fun p => (p.1, p.2.2)) en m1) fun a m => match trD m a with | some b => .ok b m | none => .bad) else .ok false m1) Q
    have t := Obnd (R := RV X.K) RB.down sm o (P := P) fun y F1 ι1 H1 m1 b s1 rb x1 o1 => by
      cases z : cmpD p.1 d b m1 with
      | none => rw [z] at o1; exact False.elim o1
      | some k =>
        rw [z] at o1
        refine ⟨F1, ι1, m1, b, k, s1, r.ext x1, rb, z, ?_⟩
        cases k with
        | true => simpa using o1
        | false => simpa using o1
    refine thn ((hp p (by simp)).run pins s σ H _ I t) fun u s2 ⟨y, H2, I2, ry, F1, ι1, m1, b, k, s1, rd, rb, z, o1⟩ => ?_
    have rr : r2 X.K (RV X.K) (fun a b m => (cmpD p.1 a b m).map .bl) x y H2 (fun w H3 => w = .bl k ∧ ∃ F3 ι3, Sim X.K F3 ι3 en m1 σ H3 ∧ Rep X.K F3 ι3 b y ∧ Out X.K W RB F3 ι3 σ H3 (if k = true then (bnd (cmpGo b ((q :: l).map fun p => (p.1, p.2.2)) en m1) fun a m => match trD m a with | some b => .ok b m | none => .bad) else .ok false m1) Q) := by
      refine ⟨F1, ι1, m1, d, b, .bl k, s1.mem, rd, rb, by show (cmpD p.1 d b m1).map D.bl = _; rw [z]; rfl, fun w F' ι' H' x' s' rw' => ⟨Rep.blE rw', F', ι', s1.ext x' s', rb.ext x', o1.shift x' RB.down⟩⟩
    refine thn (opr_cmp C p.1 pins s2 σ H2 x y v u _ I2 rx ry rr) fun w s3 ⟨z3, H3, I3, r3, e3, F3, ι3, s4, rb3, o3⟩ => ?_
    subst e3
    cases r3
    refine wpAny_truthy_bool ?_
    cases k with
    | true =>
      rw [if_pos rfl] at o3 ⊢
      exact tchain_ok C (q :: l) (fun p hp' => hp p (List.mem_cons_of_mem _ hp')) I3 s4 rb3 ry o3
    | false =>
      rw [if_neg (by decide)] at o3 ⊢
      exact ⟨H3, I3, o3.now s4.mem rfl⟩
open PyProof.Rows in
theorem tst_cmpN (C : Ctx X c W) {l : List (CmpOp × Expr × FE)} (h2 : 2 ≤ l.length) (hs : (l.map (·.2.1)).all noSet = true) (ha : PE X a (TV X W fa)) (hl : ∀ p ∈ l, PE X p.2.1 (TV X W p.2.2)) :
    PT X (.Compare a (l.map (·.1)) (l.map (·.2.1)) pos) (TBl X W (fTr (fCmpN fa (l.map fun p => (p.1, p.2.2))))) := by
  match l, h2 with
  | p :: q :: l, _ =>
    refine ⟨fun pins s σ H Q I ⟨F, ι, m, en, sm, o⟩ => ?_⟩
    refine isTrue_chain ?_ (noSet_last hs)
    have o : Out X.K W RB F ι σ H (bnd (fa en m) fun v m => bnd (cmpGo v ((p :: q :: l).map fun p => (p.1, p.2.2)) en m) fun a m => match trD m a with | some b => .ok b m | none => .bad) Q := by
      have o : Out X.K W RB F ι σ H (bnd (bnd (fa en m) fun v m => cmpGo v ((p :: q :: l).map fun p => (p.1, p.2.2)) en m) fun a m => match trD m a with | some b => .ok b m | none => .bad) Q := o
      cases z : fa en m with
      | ok b m1 => rw [z] at o; exact o
      | exc y m1 => rw [z] at o; exact o
      | bad => rw [z] at o; exact o
    have t := Obnd (R := RV X.K) RB.down sm o (P := fun x H1 => ∃ F1 ι1 m1 d, Sim X.K F1 ι1 en m1 σ H1 ∧ Rep X.K F1 ι1 d x ∧ Out X.K W RB F1 ι1 σ H1 (bnd (cmpGo d ((p :: q :: l).map fun p => (p.1, p.2.2)) en m1) fun a m => match trD m a with | some b => .ok b m | none => .bad) Q) fun x F1 ι1 H1 m1 d s1 r x1 o1 => ⟨F1, ι1, m1, d, s1, r, o1⟩
    refine thn (ha.run pins s σ H _ I t) fun v s1 ⟨x, H1, I1, rx, F1, ι1, m1, d, sm1, r, o1⟩ => ?_
    have := tchain_ok (pos := pos) C (p :: q :: l) hl I1 sm1 r rx o1
    rw [evalEach_map]
    simpa [Function.comp_def] using this
theorem t_not {f : FB} (ha : PT X a (TBl X W f)) : PT X (.UnaryOp .Not a pos) (TBl X W fun e m => bnd (f e m) fun b m => .ok (!b) m) :=
  PT.weak (pt_not ha) fun σ H Q ⟨F, ι, m, en, s, o⟩ => Obnd RB.down s o fun x F1 ι1 H1 m1 d s1 r x1 o1 => by
    cases (show d = x from r)
    exact o1.now s1.mem rfl
theorem t_and1 {f : FB} (ha : PT X a (TBl X W f)) : PW X (.BoolOp .And [a] pos) (TBl X W f) := pw_and1 ha
theorem t_or1 {f : FB} (ha : PT X a (TBl X W f)) : PW X (.BoolOp .Or [a] pos) (TBl X W f) := pw_or1 ha
theorem PW.weak {t t' : TT} (h : PW X e t) (k : ∀ σ H Q, t' σ H Q → t σ H Q) : PW X e t' := ⟨fun w pins s σ H Q I q => h.run w pins s σ H Q I (k σ H Q q)⟩
theorem t_and {f g : FB} {rest : List Expr} (ha : PT X a (TBl X W f)) (hb : PW X (.BoolOp .And (b :: rest) pos) (TBl X W g)) :
    PW X (.BoolOp .And (a :: b :: rest) pos) (TBl X W fun e m => bnd (f e m) fun b m => if b then g e m else .ok false m) :=
  PW.weak (pw_and ha hb) fun σ H Q ⟨F, ι, m, en, s, o⟩ => Obnd RB.down s o fun x F1 ι1 H1 m1 d s1 r x1 o1 => by
    cases (show d = x from r)
    cases x with
    | true => exact ⟨F1, ι1, m1, en, s1, o1⟩
    | false => exact o1.now s1.mem rfl
theorem t_or {f g : FB} {rest : List Expr} (ha : PT X a (TBl X W f)) (hb : PW X (.BoolOp .Or (b :: rest) pos) (TBl X W g)) :
    PW X (.BoolOp .Or (a :: b :: rest) pos) (TBl X W fun e m => bnd (f e m) fun b m => if b then .ok true m else g e m) :=
  PW.weak (pw_or ha hb) fun σ H Q ⟨F, ι, m, en, s, o⟩ => Obnd RB.down s o fun x F1 ι1 H1 m1 d s1 r x1 o1 => by
    cases (show d = x from r)
    cases x with
    | true => exact o1.now s1.mem rfl
    | false => exact ⟨F1, ι1, m1, en, s1, o1⟩
theorem t_if {t : Expr} {f g h : FB} (ht : PT X t (TBl X W f)) (ha : PT X a (TBl X W g)) (hb : PT X b (TBl X W h)) :
    PT X (.IfExp t a b pos) (TBl X W fun e m => bnd (f e m) fun k m => if k then g e m else h e m) := by
  refine ⟨fun pins s σ H Q I ⟨F, ι, m, en, sm, o⟩ => ?_⟩
  have t1 := Obnd (R := RB) RB.down sm o (P := fun k H1 => ∃ F1 ι1 m1, Sim X.K F1 ι1 en m1 σ H1 ∧ Out X.K W RB F1 ι1 σ H1 (if k = true then g en m1 else h en m1) Q) fun x F1 ι1 H1 m1 d s1 r x1 o1 => by
    cases (show d = x from r)
    exact ⟨F1, ι1, m1, s1, o1⟩
  show wpAny _ _ (do if ← isTrue t X.env (eval t X.env) then isTrue a X.env (eval a X.env) else isTrue b X.env (eval b X.env)) _ _ s
  refine wpAny_bind (thn (ht.run pins s σ H _ I t1) fun k s1 ⟨H1, I1, F1, ι1, m1, sm1, o1⟩ => ?_)
  cases k with
  | true => exact ha.run pins s1 σ H1 Q I1 ⟨F1, ι1, m1, en, sm1, o1⟩
  | false => exact hb.run pins s1 σ H1 Q I1 ⟨F1, ι1, m1, en, sm1, o1⟩
end
end Cs

/-! Expressions: tests as a whole, displays, items, built-ins. -/
namespace Cs
open PySem L2 PySem.Spec
section
variable {X : Cx} {c : SC} {W : EW} {a b e : Expr} {fa fb f : FE} {pos : Pos} {K : PySem.W.Frag} {F : Hp} {ι : List Addr} {H : Hp} {m : Mem} {σ : L2.St}
theorem tst_ok (f : Expr → FE) (hf : ∀ e, PE X e (TV X W (f e))) (hc : ∀ a ops bs pos, PT X (.Compare a ops bs pos) (TBl X W (fTr (f (.Compare a ops bs pos))))) :
    ∀ n e, PT X e (TBl X W (tstX f n e)) ∧ (∀ op vs p, e = .BoolOp op vs p → PW X e (TBl X W (tstX f n e)))
  | 0, e => ⟨t_bad, fun op vs p he => ⟨fun _ _ _ _ _ _ _ ⟨_, _, _, _, _, o⟩ => False.elim o⟩⟩
  | n + 1, e => by
    have ih := tst_ok f hf hc n
    have bad : PW X e (TBl X W fun _ _ => .bad) := ⟨fun _ _ _ _ _ _ _ ⟨_, _, _, _, _, o⟩ => False.elim o⟩
    have bo : ∀ op vs p, e = .BoolOp op vs p → PW X e (TBl X W (tstX f (n + 1) e)) := by
      rintro op vs p rfl
      cases op with
      | And =>
        match vs with
        | [] => exact bad
        | [a] => exact t_and1 (ih a).1
        | a :: b :: r => exact t_and (ih a).1 ((ih (.BoolOp .And (b :: r) p)).2 _ _ _ rfl)
      | Or =>
        match vs with
        | [] => exact bad
        | [a] => exact t_or1 (ih a).1
        | a :: b :: r => exact t_or (ih a).1 ((ih (.BoolOp .Or (b :: r) p)).2 _ _ _ rfl)
    refine ⟨?_, bo⟩
    cases e with
    | BoolOp op vs p => exact (bo op vs p rfl).pt
    | UnaryOp op a p =>
      cases op with
      | Not => exact t_not (ih a).1
      | _ => exact d_tr (hf _) (fun _ => rfl)
    | IfExp t a b p => exact t_if (ih t).1 (ih a).1 (ih b).1
    | Compare a ops bs p => exact hc a ops bs p
    | _ => exact d_tr (hf _) (fun _ => rfl)
theorem d_ifExp {t : Expr} {g : FB} (ht : PT X t (TBl X W g)) (ha : PE X a (TV X W fa)) (hb : PE X b (TV X W fb)) : PE X (.IfExp t a b pos) (TV X W (fIf g fa fb)) :=
  PE.weak (pe_ifExp ht ha hb) fun σ H Q ⟨F, ι, m, en, s, o⟩ => Obnd RV.down s o fun x F1 ι1 H1 m1 d s1 r x1 o1 => by
    cases (show d = x from r)
    cases x with
    | true => exact ⟨F1, ι1, m1, en, s1, o1⟩
    | false => exact ⟨F1, ι1, m1, en, s1, o1⟩

/-! ### arguments, displays -/
theorem unstar_each {e : Expr} {es : List Expr} {env : PySem.Env} (h : unstar e = true) : starEach (e :: es) env = (false, eval e env) :: starEach es env := by
  cases e <;> first | rfl | (simp [unstar] at h)
theorem a_nil : PA X [] (TLs X W fNil) := PA.weak pa_nil fun σ H Q ⟨F, ι, m, en, s, o⟩ => o.now s.mem Reps.nil
theorem a_cons {es : List Expr} {fr : FL} (hs : unstar a = true) (ha : PE X a (TV X W fa)) (hr : PA X es (TLs X W fr)) : PA X (a :: es) (TLs X W (fCons fa fr)) :=
  PA.weak (pa_cons ha hr (unstar_each hs)) fun σ H Q ⟨F, ι, m, en, s, o⟩ => Obnd RL.down s o fun x F1 ι1 H1 m1 d s1 r x1 o1 => Obnd RL.down s1 o1 fun y F2 ι2 H2 m2 ds s2 r2 x2 o2 => o2.now s2.mem (Reps.cons (Rep.ext r x2) r2)
theorem a_list (f : Expr → FE) (hf : ∀ e, PE X e (TV X W (f e))) : ∀ es : List Expr, noStar es = true → PA X es (TLs X W (listF f es))
  | [], _ => a_nil
  | a :: r, h => by
    unfold noStar at h
    rw [List.all_cons, Bool.and_eq_true] at h
    exact a_cons h.1 (hf a) (a_list f hf r h.2)
theorem d_tup {es : List Expr} {k : Nat} {fs : FL} (h : PA X es (TLs X W fs)) : PE X (.Tuple es k pos) (TV X W (fTup fs)) :=
  PE.weak (pe_tupD h) fun σ H Q ⟨F, ι, m, en, s, o⟩ => Obnd RV.down s o fun vs F1 ι1 H1 m1 ds s1 r x1 o1 => by
    have hl := Reps.length r
    by_cases z : ds.length ≤ sizeLine
    · rw [if_pos z] at o1
      exact ⟨by omega, s1.mem.newT r fun v F' H' x2 s2 r2 => o1.of x2 s2 r2⟩
    · rw [if_neg z] at o1; exact False.elim o1
theorem d_lst {es : List Expr} {fs : FL} (h : PA X es (TLs X W fs)) : PE X (.List es pos) (TN X W (fLst fs)) :=
  PE.weak (pe_lst h) fun σ H Q ⟨F, ι, m, en, s, o⟩ => Obnd RN.down s o fun vs F1 ι1 H1 m1 ds s1 r x1 o1 => by
    have hl := Reps.length r
    by_cases z : ds.length ≤ sizeLine
    · rw [if_pos z] at o1
      refine ⟨by omega, fun p hp => ?_⟩
      obtain ⟨x2, s2, r2⟩ := s1.mem.newL hp r
      exact o1.of x2 s2 r2
    · rw [if_neg z] at o1; exact False.elim o1
theorem d_dct0 : PE X (.Dict [] [] pos) (TN X W fDct0) :=
  PE.weak pe_dnewK fun σ H Q ⟨F, ι, m, en, s, o⟩ => fun p hp => o.of (Ext.grow hp) (s.mem.grow hp) ⟨p, .dK [], rfl, hp, (s.mem.notin hp).2, (s.mem.notin hp).1, upd_same, .inl ⟨[], rfl, rfl, by simp [Reps]⟩⟩

/-! ### items -/
theorem atI_rep {ds : List D} {vs : List V} {i : Int} {d : D} (r : Reps K F ι ds vs) (h : atI ds i = some d) : ∃ v, atI vs i = some v ∧ Rep K F ι d v := by
  unfold atI at h ⊢
  rw [r.length]
  obtain ⟨j, e1, e2⟩ := Option.bind_eq_some_iff.mp h
  obtain ⟨v, e3, r3⟩ := r.get e2
  exact ⟨v, by rw [e1]; exact e3, r3⟩
theorem plainIx_ok {i : Expr} (h : plainIx i = true) : ∀ o u, subscripted i false o u = operate [o, u] (getItem o u) := by
  intro o u
  cases i <;> first | rfl | (simp [plainIx] at h)
open PyProof.Rows in
/-- an item, by values -/
theorem ixr (C : Ctx X c W) : IxR X (r2 X.K (RV X.K) ixD) := by
  have hu := C.hu
  intro value slice pins s σ H x y v u Q I rx ry h hs
  obtain ⟨F, ι, m, a, b, d, sm, ra, rb, e, q⟩ := h
  have fin : ∀ {w}, Rep X.K F ι d w → Q w H := fun {w} r => q w F ι H (Ext.refl F ι H) sm r
  unfold ixD at e
  split at e
  · rename_i ds i e1
    obtain ⟨p, vs, rfl, q1, rs⟩ := ra.isLst sm e1
    obtain ⟨w, h1, h2⟩ := atI_rep rs e
    exact ix_list value slice pins s σ H _ y v u Q I rx ry ⟨p, vs, i, w, rfl, rb.intE, q1, h1, fin h2⟩ hs
  · rename_i ds i e1
    obtain ⟨p, vs, rfl, q1, rs, _⟩ := ra.isTup sm e1
    obtain ⟨w, h1, h2⟩ := atI_rep rs e
    exact ix_tup value slice pins s σ H _ y v u Q I rx ry ⟨p, vs, i, w, rfl, rb.intE, q1, h1, fin h2⟩ hs
  · rename_i z i e1
    split at e
    · rename_i hz
      obtain ⟨g, h1, h2⟩ := Option.map_eq_some_iff.mp e
      subst h2
      exact ix_str value slice pins s σ H x y v u Q I rx ry ⟨z, i, g, ra.isStr e1, rb.intE, hz, h1, fin Rep.strI⟩ hs
    · cases e
  · rename_i ks ws e1
    split at e
    · rename_i ok
      obtain ⟨p, H', o, rfl, I', g, back, mt⟩ := dget I sm ra e1 ok rb
      cases (show v = Value.ref p from rx)
      rw [e] at mt
      cases z : o with
      | none => rw [z] at mt; exact False.elim mt
      | some w =>
        rw [z] at mt g
        have key : wpAny (model X.prog X.w) X.A (getItem (.ref p) u) (EP X pins σ Q) X.xe s := d_getItem (by omega) I' g ry fun w' s3 I3 rw' => ⟨w, H, back _ I3, rw', fin mt⟩
        have hT := dict_typeIs I' g
        unfold subscriptTail
        refine wpAny_bind ?_
        rw [getitemInPython_of_ne hT.not_modules]
        refine wpAny_bind (wpAny_specialOf hT PySem.F.slot_dict_getitem.lookup ?_)
        have fin : wpAny (model X.prog X.w) X.A (subscripted slice false (.ref p) u) (fun r s₃ => wpAny (model X.prog X.w) X.A (letTemporaryGo value (.ref p) r >>= fun _ => pure r) (EP X pins σ Q) X.xe s₃) X.xe s := by
          rw [hs]
          exact wpAny_operating (wpAny_mono key (fun r s₃ h₃ => wpAny_bind (wpAny_letTemporaryGo (wpAny_pure h₃))) fun _ _ x => x)
        first
          | exact wpAny_pure (wpAny_bind fin)
          | exact wpAny_bind (wpAny_pure (wpAny_bind fin))
          | exact wpAny_bind fin
    · cases e
  · cases e
theorem d_ix (C : Ctx X c W) (hi : plainIx b = true) (ha : PE X a (TV X W fa)) (hb : PE X b (TV X W fb)) : PE X (.Subscript a b pos) (TV X W (fIx fa fb)) :=
  PE.weak (pe_ix (ixr C) ha hb (plainIx_ok hi)) fun σ H Q h => T2 RV.down h
end
end Cs

/-! Dicts of pairs, their length, one put into another. -/
namespace Cs
open PySem L2 PySem.Spec
section
variable {X : Cx} {K : PySem.W.Frag} {F F1 : Hp} {ι ι1 : List Addr} {H H1 : Hp} {m m1 : Mem} {σ : L2.St} {pins : List (Addr × Obj)} {s : Shared}
theorem nd_put {κ : Type} [DecidableEq κ] {kvs : List (κ × V)} (k : κ) (v : V) (h : (kvs.map (·.1)).Nodup) : ((L2.putK kvs k v).map (·.1)).Nodup := by
  unfold L2.putK
  split
  · have : (kvs.map fun kv => if kv.1 = k then (kv.1, v) else kv).map (·.1) = kvs.map (·.1) := by
      rw [List.map_map]
      apply List.map_congr_left
      intro x _
      show (if x.1 = k then (x.1, v) else x).1 = x.1
      split <;> rfl
    rw [this]
    exact h
  · rename_i hn
    rw [List.map_append, List.nodup_append]
    refine ⟨h, by simp, fun x hx y hy => ?_⟩
    simp only [List.map_cons, List.map_nil, List.mem_singleton] at hy
    subst hy
    rintro rfl
    apply hn
    rw [List.any_eq_true]
    obtain ⟨p, hp, e⟩ := List.mem_map.mp hx
    exact ⟨p, hp, by simpa using e⟩
theorem merge_rep : ∀ (kr : List Key) (vr : List D) (vs : List V) (kvs : List (Key × V)) (ws : List D), (kvs.map (·.1)).Nodup → Reps K F ι ws (kvs.map (·.2)) → Reps K F ι vr vs → kr.length = vr.length →
    (mergeD (kvs.map fun p => kd p.1) ws (kr.map kd) vr).1 = (mergeK kvs (kr.zip vs)).map (fun p => kd p.1) ∧ Reps K F ι (mergeD (kvs.map fun p => kd p.1) ws (kr.map kd) vr).2 ((mergeK kvs (kr.zip vs)).map (·.2))
  | [], vr, vs, kvs, ws, nd, r, rv, hl => by
    cases vr with
    | nil => exact ⟨rfl, r⟩
    | cons _ _ => simp at hl
  | k :: kr, [], _, _, _, _, _, _, hl => by simp at hl
  | k :: kr, d :: vr, vs, kvs, ws, nd, r, rv, hl => by
    obtain ⟨v, vs, rfl, r1, r2⟩ := rv.of_cons
    obtain ⟨h1, h2⟩ := putK_map (g := kd) kd_eq k r1 nd r
    have ih := merge_rep kr vr vs (L2.putK kvs k v) _ (nd_put k v nd) h2 r2 (by simpa using hl)
    rw [← h1] at ih
    exact ih
theorem flat_kd : ∀ {ks : List D}, ks.all flatK = true → ∃ kr : List Key, ks = kr.map kd
  | [], _ => ⟨[], rfl⟩
  | k :: ks, h => by
    rw [List.all_cons, Bool.and_eq_true] at h
    obtain ⟨kr, rfl⟩ := flat_kd h.2
    cases k with
    | int i => exact ⟨.inl i :: kr, rfl⟩
    | str z => exact ⟨.inr z :: kr, rfl⟩
    | _ => cases h.1
theorem keys_rep : ∀ {kr : List Key} {us : List V}, Reps K F ι (kr.map kd) us → us = kr.map kV
  | [], us, r => r.of_nil
  | k :: kr, us, r => by
    obtain ⟨v, w, rfl, r1, r2⟩ := r.of_cons
    rw [keys_rep r2]
    cases k with
    | inl i => rw [Rep.intE r1]; rfl
    | inr z => rw [Rep.strE r1]; rfl
/-- a dict's ints and texts as keys, over a heap in which an empty dict may be told otherwise -/
theorem dk_flat (I : L2.Inv X pins σ H s) {a : Addr} {u : HO} {ks ws : List D} (h : RdE H a u) (rc : RepC X.K F ι (.dct ks ws) u) (hk : ks.all flatK = true) :
    ∃ H' kvs, L2.Inv X pins σ H' s ∧ Rd H' a (.dK kvs) ∧ (H a = some u → H' a = some (.dK kvs)) ∧ (∀ b, b ≠ a → H' b = H b) ∧ ks = kvs.map (fun p => kd p.1) ∧ Reps X.K F ι ws (kvs.map (·.2)) ∧ (∀ G s', G a = H' a → L2.Inv X pins σ G s' → L2.Inv X pins σ (fun b => if b = a then H a else G b) s') := by
  obtain ⟨kvs, rfl, rfl, rs⟩ | ⟨kvs, rfl, rfl, rs⟩ := rc
  · refine ⟨H, kvs, I, h.rd, fun q => q, fun _ _ => rfl, rfl, rs, fun G s' e q => ?_⟩
    have : (fun b => if b = a then H a else G b) = G := by
      funext b
      by_cases z : b = a
      · subst z; rw [if_pos rfl, e]
      · rw [if_neg z]
    rw [this]
    exact q
  · cases kvs with
    | nil =>
      have hH : H a = some (.dT []) := h.elim id fun z => absurd rfl z.2.1
      refine ⟨upd H a (.dK []), [], Inv.t2d I hH, .inl upd_same, fun _ => upd_same, fun b hb => upd_ne hb, rfl, rs, fun G s' e q => ?_⟩
      rw [upd_same] at e
      have := Inv.d2t q e
      have e2 : (fun b => if b = a then H a else G b) = upd G a (.dT []) := by
        funext b
        by_cases z : b = a
        · subst z; rw [if_pos rfl, upd_same, hH]
        · rw [if_neg z, upd_ne z]
      rw [e2]
      exact this
    | cons p r => simp [kdT, flatK] at hk
theorem pairsD_rep : ∀ {ds : List D} {ks ws : List D} {vs : List V}, pairsD ds = some (ks, ws) → SimM K F ι m H → Reps K F ι ds vs → ∃ (ps : List Addr) (kvs : List (Key × V)), vs = ps.map V.ref ∧ ks = kvs.map (fun p => kd p.1) ∧ Reps K F ι ws (kvs.map (·.2)) ∧
    Paired (fun p kv => SqT K H p [kV kv.1, kv.2]) ps kvs
  | [], ks, ws, vs, h, _, r => by
    simp only [pairsD, Option.some.injEq, Prod.mk.injEq] at h
    obtain ⟨rfl, rfl⟩ := h
    rw [r.of_nil]
    exact ⟨[], [], rfl, rfl, Reps.nil, .nil⟩
  | d :: ds, ks, ws, vs, h, sm, r => by
    unfold pairsD at h
    split at h
    · rename_i e
      cases e
    · rename_i k v rest e
      cases e
      split at h
      · rename_i hk
        obtain ⟨⟨k2, w2⟩, h1, h2⟩ := Option.map_eq_some_iff.mp h
        simp only [Prod.mk.injEq] at h2
        obtain ⟨rfl, rfl⟩ := h2
        obtain ⟨x, xs, rfl, r1, r2⟩ := r.of_cons
        obtain ⟨ps, kvs, rfl, rfl, rs, pr⟩ := pairsD_rep h1 sm r2
        obtain ⟨p, us, rfl, q, ru⟩ := r1.tupE
        obtain ⟨y1, us', rfl, ry1, ru'⟩ := ru.of_cons
        obtain ⟨y2, us'', rfl, ry2, ru''⟩ := ru'.of_cons
        rw [ru''.of_nil] at q
        obtain ⟨kk, ek⟩ : ∃ kk : Key, k = kd kk := by
          cases k with
          | int i => exact ⟨.inl i, rfl⟩
          | str z => exact ⟨.inr z, rfl⟩
          | _ => cases hk
        subst ek
        have e1 := kd_kV ry1
        subst e1
        exact ⟨p :: ps, (kk, y2) :: kvs, rfl, rfl, Reps.cons ry2 rs, .cons (SqT.mono q sm.sub) pr⟩
      · cases h
    · cases h
theorem update_meets {a b : Addr} {kvs more : List (Key × V)} {Q : Value → Shared → Prop} {A : Around} {E : Value → Shared → Prop} (I : L2.Inv X pins σ H s) (ha : H a = some (.dK kvs)) (hb : Rd H b (.dK more)) (hab : a ≠ b) (hz : kvs.length + more.length ≤ sizeLine)
    (h : ∀ s', L2.Inv X pins σ (upd H a (.dK (mergeK kvs more))) s' → Q .none s') : wpAny (model X.prog X.w) A (call (.builtin "dict.update") [.ref a, .ref b]) Q E s := by
  obtain ⟨z1, hd1, vs1, rel1, dd1⟩ := dk_rd I.hok (.inl ha)
  obtain ⟨z2, hd2, vs2, rel2, dd2⟩ := dk_rd I.hok hb
  have l1 : kvs.length = vs1.length := rel1.length
  have l2 : more.length = vs2.length := rel2.length
  refine call_meetsIn F.slot_dict_update dd1.typeIs F.entry_dict_update (F.args_dict_update_2 _ _) (meets_dict_update (mixKind X.prog X.w) a b hab hd2) ⟨vs1, vs2, dd1, dd2, by omega, fun h' hm _ hs => ?_⟩
  refine h _ ?_
  refine d_write I (by rw [ha]; exact True.intro) hs ?_ ?_
  · obtain ⟨o, _, _, e, _⟩ := hm
    exact ⟨o, e⟩
  · refine ⟨Nat.le_trans (length_mergeK more kvs) hz, hd1, merged vs1 vs2, KV.merge rel2 rel1, hm⟩
end
end Cs

/-! Slices, built-in functions, isinstance, calls of defs. -/
namespace Cs
open PySem L2 PySem.Spec
section
variable {X : Cx} {c : SC} {W : EW} {a b e : Expr} {fa fb f : FE} {pos : Pos} {K : PySem.W.Frag} {F : Hp} {ι : List Addr} {H : Hp} {m : Mem} {σ : L2.St}
/-! ### slices -/
theorem po_weak {o : Option Expr} {t t' : TO} (h : PO X o t) (k : ∀ σ H Q, t' σ H Q → t σ H Q) : PO X o t' := ⟨fun pins s σ H Q I q => h.run pins s σ H Q I (k σ H Q q)⟩
theorem d_part {o : Option Expr} (f : Expr → FE) (hf : ∀ e, PE X e (TV X W (f e))) : PO X o (T X.K W RO (fPart (o.map f))) := by
  cases o with
  | none => exact po_weak po_none fun σ H Q ⟨F, ι, m, en, s, o⟩ => o.now s.mem rfl
  | some e =>
    refine po_weak (po_some (hf e)) fun σ H Q ⟨F, ι, m, en, s, o⟩ => Obnd RO.down s o fun x F1 ι1 H1 m1 d s1 r x1 o1 => ?_
    cases d with
    | int i => exact ⟨i, Rep.intE r, o1.now s1.mem rfl⟩
    | _ => exact False.elim o1
theorem slr (C : Ctx X c W) : SlR X (fun x lo hi H Q => ∃ F ι m a d, SimM X.K F ι m H ∧ Rep X.K F ι a x ∧ slD a lo hi m = some d ∧ ∀ v F' ι' H', Ext F ι H F' ι' H' → SimM X.K F' ι' m H' → RN X.K H F' ι' H' d v → Q v H') := by
  intro pins s σ H x v vl vu lo hi sl Q I rx hs pl pu h
  obtain ⟨F, ι, m, a, d, sm, ra, e, q⟩ := h
  unfold slD at e
  split at e
  · rename_i ds e1
    cases e
    obtain ⟨p, vs, rfl, q1, rs⟩ := ra.isLst sm e1
    refine sl_list pins s σ H _ v vl vu lo hi sl Q I rx hs pl pu ⟨p, vs, rfl, q1, fun p hp => ?_⟩
    obtain ⟨x1, s1, r1⟩ := sm.newL hp (rs.cut lo hi)
    exact q _ _ _ _ x1 s1 r1
  · rename_i ds e1
    cases e
    obtain ⟨p, vs, rfl, q1, rs, rp⟩ := ra.isTup sm e1
    have hl := rs.length
    refine sl_tupD pins s σ H _ v vl vu lo hi sl Q I rx hs pl pu ⟨p, vs, rfl, q1, fun z => ?_, fun z => ?_⟩
    · rw [hl] at z
      refine q _ F ι H (Ext.refl _ _ _) sm ?_
      have : cutD ds lo hi = ds := by
        unfold cutD
        rw [z.1, z.2]
        simp
      rw [this]
      exact rp
    · exact sm.newT (rs.cut lo hi) fun v F' H' x1 s1 r1 => q v F' ι H' x1 s1 r1
  · rename_i z e1
    split at e
    · rename_i hz
      cases e
      exact sl_str pins s σ H x v vl vu lo hi sl Q I rx hs pl pu ⟨z, ra.isStr e1, hz, q _ F ι H (Ext.refl _ _ _) sm (Rep.strI (K := X.K) (F := F) (ι := ι))⟩
    · cases e
  · cases e
theorem d_sl (C : Ctx X c W) {lo hi : Option Expr} {p2 : Pos} (f : Expr → FE) (hf : ∀ e, PE X e (TV X W (f e))) (ha : PE X a (TV X W fa)) : PE X (.Subscript a (.Slice lo hi none p2) pos) (TN X W (fSl fa (lo.map f) (hi.map f))) := by
  refine PE.weak (pe_slice (slr C) ha (d_part f hf) (d_part f hf)) fun σ H Q ⟨F, ι, m, en, s, o⟩ => ?_
  refine Obnd RN.down s o fun x F1 ι1 H1 m1 d s1 r x1 o1 => ?_
  refine Obnd RN.down s1 o1 fun l F2 ι2 H2 m2 l' s2 r2 x2 o2 => ?_
  refine Obnd RN.down s2 o2 fun h F3 ι3 H3 m3 h' s3 r3 x3 o3 => ?_
  cases (show l' = l from r2)
  cases (show h' = h from r3)
  obtain ⟨z, e1, q⟩ := ofO_out o3
  exact ⟨F3, ι3, m3, d, z, s3.mem, (Rep.ext r x2).ext x3, e1, q⟩

/-! ### built-in functions -/
/-- a call of a built-in by values -/
def rBl (K : PySem.W.Frag) (g : List D → Mem → Option D) : List V → Hp → VK → Prop := fun xs H Q =>
  ∃ F ι m as d, SimM K F ι m H ∧ Reps K F ι as xs ∧ g as m = some d ∧ ∀ v F' ι' H', Ext F ι H F' ι' H' → SimM K F' ι' m H' → RN K H F' ι' H' d v → Q v H'
theorem Tbl {g : List D → Mem → Option D} {fs : FL} {Q : VK} {H : Hp} (h : T K W (RN K) (fun e m => bnd (fs e m) fun ds m => ofO m (g ds m)) σ H Q) : T K W (RL K) fs σ H fun xs H1 => rBl K g xs H1 Q := by
  obtain ⟨F, ι, m, e, s, o⟩ := h
  refine Obnd RN.down s o fun x F1 ι1 H1 m1 a s1 r x1 o1 => ?_
  obtain ⟨d, e1, q⟩ := ofO_out o1
  exact ⟨F1, ι1, m1, a, d, s1.mem, r, e1, q⟩
theorem bools_rep : ∀ {ds : List D} {bs : List Bool} {vs : List V}, boolsD ds = some bs → Reps K F ι ds vs → vs = bs.map V.bl
  | [], bs, vs, h, r => by
    cases (Option.some.inj h)
    rw [r.of_nil]; rfl
  | d :: ds, bs, vs, h, r => by
    obtain ⟨v, w, rfl, r1, r2⟩ := r.of_cons
    cases d with
    | bl b =>
      unfold boolsD at h
      obtain ⟨cs, h1, rfl⟩ := Option.map_eq_some_iff.mp h
      rw [r1.blE, bools_rep h1 r2]; rfl
    | _ => simp [boolsD] at h
theorem lstD_res {d : D} {ds : List D} (h : lstD m d = some ds) : res m d = .lst ds := by
  unfold lstD at h
  split at h
  · cases h; assumption
  · cases h
theorem seqD_res {d : D} {ds : List D} (h : seqD m d = some ds) : res m d = .lst ds ∨ res m d = .tup ds := by
  unfold seqD at h
  split at h
  · cases h; exact .inl (by assumption)
  · cases h; exact .inr (by assumption)
  · cases h
/-- the rules of a built-in, its name's kind -/
def bltV : Blt → Value
  | .len => .builtin "len"
  | .all => .builtin "all"
  | .any => .builtin "any"
  | .tuple => .type "tuple"
  | .list => .type "list"
  | .abs => .builtin "abs"
  | .int => .type "int"
  | .str => .type "str"
  | .sorted => .builtin "sorted"
  | .min => .builtin "min"
  | .max => .builtin "max"
  | .dict => .type "dict"
theorem Reps.one' {d : D} {vs : List V} (r : Reps K F ι [d] vs) : ∃ v, vs = [v] ∧ Rep K F ι d v := by
  obtain ⟨v, w, rfl, r1, r2⟩ := r.of_cons
  rw [r2.of_nil]
  exact ⟨v, rfl, r1⟩
theorem Reps.two' {d d' : D} {vs : List V} (r : Reps K F ι [d, d'] vs) : ∃ v v', vs = [v, v'] ∧ Rep K F ι d v ∧ Rep K F ι d' v' := by
  obtain ⟨v, w, rfl, r1, r2⟩ := r.of_cons
  obtain ⟨v', rfl, r3⟩ := r2.one'
  exact ⟨v, v', rfl, r1, r3⟩
theorem b1E {g : D → Mem → Option D} {as : List D} {d : D} {vs : List V} (h : b1 g as m = some d) (r : Reps K F ι as vs) : ∃ a x, vs = [x] ∧ Rep K F ι a x ∧ g a m = some d := by
  unfold b1 at h
  split at h
  · obtain ⟨x, e, rx⟩ := r.one'
    exact ⟨_, x, e, rx, h⟩
  · cases h
theorem b2E {g : D → D → Mem → Option D} {as : List D} {d : D} {vs : List V} (h : b2 g as m = some d) (r : Reps K F ι as vs) : ∃ a b x y, vs = [x, y] ∧ Rep K F ι a x ∧ Rep K F ι b y ∧ g a b m = some d := by
  unfold b2 at h
  split at h
  · obtain ⟨x, y, e, rx, ry⟩ := r.two'
    exact ⟨_, _, x, y, e, rx, ry, h⟩
  · cases h
theorem blt_ok (C : Ctx X c W) (f : Blt) : CallR X (bltV f) (rBl X.K (bltD f)) := by
  intro pins s σ H xs us Q I r h
  obtain ⟨F, ι, m, as, d, sm, ra, e, q⟩ := h
  have now : ∀ {v}, RN X.K H F ι H d v → Q v H := fun {v} w => q v F ι H (Ext.refl _ _ _) sm w
  cases f with
  | len =>
    obtain ⟨a, x, rfl, rx, e⟩ := b1E (g := lenB) e ra
    unfold lenB at e
    split at e
    · rename_i ds e1
      cases e
      obtain ⟨p, vs, rfl, q1, rs⟩ := rx.isLst sm e1
      refine call_len pins s σ H _ us Q I r ⟨_, _, rfl, .inl ⟨vs, q1, rs.length.symm⟩, now (Rep.intI (K := X.K) (F := F) (ι := ι))⟩
    · rename_i ds e1
      cases e
      obtain ⟨p, vs, rfl, q1, rs, _⟩ := rx.isTup sm e1
      refine call_len pins s σ H _ us Q I r ⟨_, _, rfl, .inr ⟨vs, q1, rs.length.symm⟩, now (Rep.intI (K := X.K) (F := F) (ι := ι))⟩
    · rename_i ks ws e1
      split at e
      · rename_i hk
        cases e
        obtain ⟨a', u, rfl, hH, rc⟩ := rx.isDct sm e1
        obtain ⟨H', kvs, I', hR, _, hNe, rfl, rs, back⟩ := dk_flat I hH rc hk
        obtain ⟨u', eu, ru⟩ := vals1 r
        subst eu
        cases (show u' = Value.ref a' from ru)
        have eH : (fun b => if b = a' then H a' else H' b) = H := by
          funext b
          by_cases z : b = a'
          · subst z; rw [if_pos rfl]
          · rw [if_neg z, hNe b z]
        refine d_len I' hR fun t s' I2 => ⟨.int _, H, eH ▸ back H' _ rfl I2, ⟨t, rfl⟩, ?_⟩
        rw [show (kvs.length : Int) = ((kvs.map fun p => kd p.1).length : Int) by simp]
        exact now (Rep.intI (K := X.K) (F := F) (ι := ι))
      · cases e
    · rename_i z e1
      split at e
      · rename_i hz
        cases e
        rw [rx.isStr e1] at r
        exact call_len pins s σ H _ us Q I r ⟨_, _, rfl, ⟨hz, rfl⟩, now (Rep.intI (K := X.K) (F := F) (ι := ι))⟩
      · cases e
    · cases e
  | all =>
    obtain ⟨a, x, rfl, rx, e⟩ := b1E (g := allB) e ra
    obtain ⟨ds, e1, e2⟩ := Option.bind_eq_some_iff.mp e
    obtain ⟨bs, e3, rfl⟩ := Option.map_eq_some_iff.mp e2
    obtain ⟨p, vs, rfl, q1, rs⟩ := rx.isLst sm (lstD_res e1)
    rw [bools_rep e3 rs] at q1
    exact cr_all C.calm pins s σ H _ us Q I r ⟨p, bs, rfl, q1, now (Rep.blI (K := X.K) (F := F) (ι := ι))⟩
  | any =>
    obtain ⟨a, x, rfl, rx, e⟩ := b1E (g := anyB) e ra
    obtain ⟨ds, e1, e2⟩ := Option.bind_eq_some_iff.mp e
    obtain ⟨bs, e3, rfl⟩ := Option.map_eq_some_iff.mp e2
    obtain ⟨p, vs, rfl, q1, rs⟩ := rx.isLst sm (lstD_res e1)
    rw [bools_rep e3 rs] at q1
    exact cr_any C.calm pins s σ H _ us Q I r ⟨p, bs, rfl, q1, now (Rep.blI (K := X.K) (F := F) (ι := ι))⟩
  | tuple =>
    obtain ⟨a, x, rfl, rx, e⟩ := b1E (g := fun a m => (seqD m a).map .tup) e ra
    obtain ⟨ds, e1, rfl⟩ := Option.map_eq_some_iff.mp e
    rcases seqD_res e1 with e2 | e2
    · obtain ⟨p, vs, rfl, q1, rs⟩ := rx.isLst sm e2
      exact call_tupleD pins s σ H _ us Q I r ⟨p, vs, rfl, .inl ⟨q1, sm.newT rs fun v F' H' x1 s1 r1 => q v F' ι H' x1 s1 r1⟩⟩
    · obtain ⟨p, vs, rfl, q1, rs, rp⟩ := rx.isTup sm e2
      exact call_tupleD pins s σ H _ us Q I r ⟨p, vs, rfl, .inr ⟨q1, now rp⟩⟩
  | list =>
    obtain ⟨a, x, rfl, rx, e⟩ := b1E (g := fun a m => (seqD m a).map .lst) e ra
    obtain ⟨ds, e1, rfl⟩ := Option.map_eq_some_iff.mp e
    rcases seqD_res e1 with e2 | e2
    · obtain ⟨p, vs, rfl, q1, rs⟩ := rx.isLst sm e2
      refine call_list_of pins s σ H _ us Q I r ⟨p, vs, rfl, .inl q1, fun p hp => ?_⟩
      obtain ⟨x1, s1, r1⟩ := sm.newL hp rs
      exact q _ _ _ _ x1 s1 r1
    · obtain ⟨p, vs, rfl, q1, rs, rp⟩ := rx.isTup sm e2
      refine call_list_of pins s σ H _ us Q I r ⟨p, vs, rfl, .inr q1, fun p hp => ?_⟩
      obtain ⟨x1, s1, r1⟩ := sm.newL hp rs
      exact q _ _ _ _ x1 s1 r1
  | abs =>
    obtain ⟨a, x, rfl, rx, e⟩ := b1E (g := absB) e ra
    unfold absB at e
    split at e
    · cases e
      exact call_abs pins s σ H _ us Q I r ⟨_, by rw [rx.intE], now (Rep.intI (K := X.K) (F := F) (ι := ι))⟩
    · cases e
  | int =>
    obtain ⟨a, x, rfl, rx, e⟩ := b1E (g := intB) e ra
    unfold intB at e
    split at e
    · cases e
      exact call_int1 pins s σ H _ us Q I r (.inl ⟨_, by rw [rx.intE], now (Rep.intI (K := X.K) (F := F) (ι := ι))⟩)
    · cases e
  | str =>
    obtain ⟨a, x, rfl, rx, e⟩ := b1E (g := strB) e ra
    unfold strB at e
    split at e
    · split at e
      · rename_i hz
        cases e
        exact call_str_int pins s σ H _ us Q I r ⟨_, by rw [rx.intE], hz, now (Rep.strI (K := X.K) (F := F) (ι := ι))⟩
      · cases e
    · cases e
  | sorted =>
    obtain ⟨a, x, rfl, rx, e⟩ := b1E (g := sortB) e ra
    obtain ⟨ds, e1, e2⟩ := Option.bind_eq_some_iff.mp e
    split at e2
    · rename_i ok
      cases e2
      have fin : ∀ {p : Addr} {vs : List V}, (SqL X.K H p vs ∨ SqT X.K H p vs) → x = .ref p → Reps X.K F ι ds vs → wpAny (model X.prog X.w) X.A (call (.builtin "sorted") us) (EP X pins σ Q) X.xe s := fun {p vs} hq ex rs =>
        cr_sort C.hu pins s σ H _ us Q I r ⟨p, vs, ds, F, ι, m, by rw [ex], hq, sm, rs, ok, fun ys p hp ry => by
          obtain ⟨x1, s1, r1⟩ := sm.newL hp ry
          exact q _ _ _ _ x1 s1 r1⟩
      rcases seqD_res e1 with e2 | e2
      · obtain ⟨p, vs, ex, q1, rs⟩ := rx.isLst sm e2
        exact fin (.inl q1) ex rs
      · obtain ⟨p, vs, ex, q1, rs, _⟩ := rx.isTup sm e2
        exact fin (.inr q1) ex rs
    · cases e2
  | min =>
    obtain ⟨a, b, x, y, rfl, rx, ry, e⟩ := b2E (g := minB) e ra
    unfold minB at e
    split at e
    · cases e
      exact call_min2 C.calm pins s σ H _ us Q I r ⟨_, _, by rw [rx.intE, ry.intE], now (Rep.intI (K := X.K) (F := F) (ι := ι))⟩
    · cases e
  | max =>
    obtain ⟨a, b, x, y, rfl, rx, ry, e⟩ := b2E (g := maxB) e ra
    unfold maxB at e
    split at e
    · cases e
      exact call_max2 C.calm pins s σ H _ us Q I r ⟨_, _, by rw [rx.intE, ry.intE], now (Rep.intI (K := X.K) (F := F) (ι := ι))⟩
    · cases e
  | dict =>
    obtain ⟨a, x, rfl, rx, e⟩ := b1E (g := dictB) e ra
    obtain ⟨ds, e1, e2⟩ := Option.bind_eq_some_iff.mp e
    obtain ⟨⟨ks, ws⟩, e3, rfl⟩ := Option.map_eq_some_iff.mp e2
    obtain ⟨p, vs, rfl, q1, rs⟩ := rx.isLst sm (lstD_res e1)
    obtain ⟨ps, kvs, rfl, rfl, rw2, pr⟩ := pairsD_rep e3 sm rs
    refine call_dictP C.calm pins s σ H _ us Q I r ⟨p, ps, kvs, rfl, q1, pr, fun p hp => ?_⟩
    obtain ⟨hi, hF⟩ := sm.notin hp
    have hl := rw2.length
    obtain ⟨g1, g2⟩ := merge_rep (kvs.map (·.1)) ws (kvs.map (·.2)) [] [] (by simp) Reps.nil rw2 (by simpa using hl)
    have ez : (kvs.map (·.1)).zip (kvs.map (·.2)) = kvs := by
      rw [List.zip_map', List.map_id'']
      intro x
      rfl
    rw [ez] at g1 g2
    simp only [List.map_nil, List.map_map] at g1 g2
    have x0 : Ext F ι H F ι (upd H p (.dK (mergeK [] kvs))) := Ext.grow hp
    exact q _ _ _ _ x0 (sm.grow hp) ⟨p, _, rfl, hp, hF, hi, upd_same, .inl ⟨_, rfl, g1, g2⟩⟩
theorem star_all : ∀ {es : List Expr} {env : PySem.Env}, noStar es = true → starEach es env = es.map fun e => (false, eval e env)
  | [], _, _ => rfl
  | a :: r, env, h => by
    unfold noStar at h
    rw [List.all_cons, Bool.and_eq_true] at h
    rw [unstar_each h.1, star_all h.2]
    rfl
theorem star_any {es : List Expr} {env : PySem.Env} {p : Pos} (h : noStar es = true) : (backTo p (starEach es env)).any (·.1) = false := by
  rw [star_all h]
  unfold backTo
  rw [List.any_eq_false]
  intro x hx
  simp only [List.map_map, List.mem_map] at hx
  obtain ⟨e, _, rfl⟩ := hx
  exact Bool.false_ne_true
theorem lkp_all {α : Type} {P : Str → α → Prop} {x : Str} {b : α} : ∀ (l : List (Str × α)), (∀ q ∈ l, P q.1 q.2) → lkp x l = some b → ∃ y, strEq x y = true ∧ P y b
  | [], _, h => by cases h
  | (y, a) :: r, hp, h => by
    unfold lkp at h
    split at h
    · rename_i e
      cases h
      exact ⟨y, e, hp _ List.mem_cons_self⟩
    · exact lkp_all r (fun q hq => hp q (List.mem_cons_of_mem _ hq)) h
theorem blt_boot {x : Str} {b : Blt} (h : lkp x bltTab = some b) : bootBuiltins x = some (bltV b) := by
  obtain ⟨y, e, q⟩ := lkp_all (P := fun y b => bootBuiltins y = some (bltV b)) bltTab (by
    intro q hq
    simp only [bltTab, List.mem_cons, List.not_mem_nil, or_false] at hq
    rcases hq with rfl | rfl | rfl | rfl | rfl | rfl | rfl | rfl | rfl | rfl | rfl | rfl <;> decide +kernel) h
  rw [strEq_eq e]
  exact q
def tyS : Ty → String
  | .int => "int"
  | .bool => "bool"
  | .str => "str"
  | .tuple => "tuple"
  | .list => "list"
  | .dict => "dict"
theorem ty_boot {x : Str} {b : Ty} (h : lkp x tyTab = some b) : bootBuiltins x = some (.type (tyS b)) := by
  simp only [tyTab, lkp] at h
  repeat' (split at h)
  all_goals first
    | (cases h; rename_i e; rw [strEq_eq e]; decide +kernel)
    | cases h
theorem d_blt (C : Ctx X c W) {x : Str} {f : Blt} {es : List Expr} {fs : FL} {p : Pos} (hx : lkp x bltTab = some f) (hg : c.gl x = true) (hb : c.bl x = true) (hs : noStar (a :: es) = true) (ha : PA X (a :: es) (TLs X W fs)) :
    PE X (.Call (.Name x p) (a :: es) [] pos) (TN X W (fBlt f fs)) := by
  have ok := SC.okG hg
  have h1 := blt_ok C f
  have h2 := blt_boot hx
  have hs' := hs
  unfold noStar at hs'
  rw [List.all_cons, Bool.and_eq_true] at hs'
  have e1 := unstar_each (env := X.env) (es := es) hs'.1
  have e2 := star_any (env := X.env) (p := pos) (es := es) hs'.2
  have main : PE X (.Call (.Name x p) (a :: es) [] pos) (tCB (rBl X.K (bltD f)) (TLs X W fs)) := by
    cases f with
    | dict => exact pe_callTy (T := "dict") h1 (C.gl hg) (C.bl x hb) h2 ha (okN_name ok) (okN_debug ok) e1 e2
    | tuple => exact pe_callTy (T := "tuple") h1 (C.gl hg) (C.bl x hb) h2 ha (okN_name ok) (okN_debug ok) e1 e2
    | list => exact pe_callTy (T := "list") h1 (C.gl hg) (C.bl x hb) h2 ha (okN_name ok) (okN_debug ok) e1 e2
    | int => exact pe_callTy (T := "int") h1 (C.gl hg) (C.bl x hb) h2 ha (okN_name ok) (okN_debug ok) e1 e2
    | str => exact pe_callTy (T := "str") h1 (C.gl hg) (C.bl x hb) h2 ha (okN_name ok) (okN_debug ok) e1 e2
    | len => exact pe_callB (id := "len") h1 (C.gl hg) (C.bl x hb) h2 ha (okN_name ok) (okN_debug ok) e1 e2
    | all => exact pe_callB (id := "all") h1 (C.gl hg) (C.bl x hb) h2 ha (okN_name ok) (okN_debug ok) e1 e2
    | any => exact pe_callB (id := "any") h1 (C.gl hg) (C.bl x hb) h2 ha (okN_name ok) (okN_debug ok) e1 e2
    | abs => exact pe_callB (id := "abs") h1 (C.gl hg) (C.bl x hb) h2 ha (okN_name ok) (okN_debug ok) e1 e2
    | sorted => exact pe_callB (id := "sorted") h1 (C.gl hg) (C.bl x hb) h2 ha (okN_name ok) (okN_debug ok) e1 e2
    | min => exact pe_callB (id := "min") h1 (C.gl hg) (C.bl x hb) h2 ha (okN_name ok) (okN_debug ok) e1 e2
    | max => exact pe_callB (id := "max") h1 (C.gl hg) (C.bl x hb) h2 ha (okN_name ok) (okN_debug ok) e1 e2
  exact PE.weak main fun σ H Q h => Tbl h

/-! ### isinstance -/
theorem kit_all (t : Ty) : kitB "NoneType" (tyS t) = some false ∧ kitB "bool" (tyS t) = some (t == .bool || t == .int) ∧ kitB "int" (tyS t) = some (t == .int) ∧ kitB "str" (tyS t) = some (t == .str) ∧
    kitB "tuple" (tyS t) = some (t == .tuple) ∧ kitB "list" (tyS t) = some (t == .list) ∧ kitB "dict" (tyS t) = some (t == .dict) := by
  cases t <;> decide +kernel
/-- .. wider: a locked dict of tuple keys -/
inductive TyY (K : PySem.W.Frag) (H : Hp) : V → Value → Prop where
  | x {x : V} {t : Value} (h : TyX K H x t) : TyY K H x t
  | fT {a : Addr} {o : Obj} {kvs : List (List Key × V)} (e : H a = some (.frz o (.dT kvs))) : TyY K H (.ref a) (.type "dict")
theorem call_isiY : CallR X (.builtin "isinstance") (fun xs H Q => ∃ (x c : V) (t u : Value) (b : Bool), xs = [x, c] ∧ ClsV c u ∧ TyY X.K H x t ∧ PySem.W.kitOne X.K t u = some b ∧ Q (.bl b) H) := by
  intro pins s σ H xs us Q I r h
  obtain ⟨x, c, t, u, b, rfl, k, ty, e, q⟩ := h
  cases ty with
  | x h => exact call_isi pins s σ H _ us Q I r ⟨x, c, t, u, b, rfl, k, h, e, q⟩
  | @fT a ob kvs ea =>
    cases r with
    | cons r1 r' =>
      cases r' with
      | cons r2 r'' =>
        cases r''
        have e2 := k.eq r2
        subst e2
        cases (show _ = Value.ref a from r1)
        obtain ⟨_, _, _, vs, _, o, es, ep, h1, h2, _⟩ := (show ObjOk X.prog X.w H s.heap a (.frz ob (.dT kvs)) from I.hok a _ ea)
        exact PySem.W.kia_one PySem.W.kitx_dict I.kIn ⟨o, h1, h2.1⟩ e (fun z => nomatch z) fun tk => ⟨.bl b, H, I.tok tk, rfl, q⟩
theorem isi_rep (s : SimM K F ι m H) {d : D} {x : V} {t : Ty} {b : Bool} (r : Rep K F ι d x) (h : isiD t (res m d) = some b) : ∃ u, TyY K H x u ∧ PySem.W.kitOne K u (.type (tyS t)) = some b := by
  obtain ⟨k1, k2, k3, k4, k5, k6, k7⟩ := kit_all t
  unfold isiD at h
  split at h
  · rename_i e
    have : x = .non := by
      cases d with
      | non => exact r.nonE
      | ref n => rw [res_ref] at e; split at e <;> cases e
      | _ => simp [res] at e
    subst this
    rw [← h]
    exact ⟨_, .x (.base .non), kit_ty k1⟩
  · rename_i b' e
    have : x = .bl b' := by
      cases d with
      | bl j =>
        have e : j = b' := by simpa [res] using e
        subst e; exact r.blE
      | ref n => rw [res_ref] at e; split at e <;> cases e
      | _ => simp [res] at e
    subst this
    rw [← h]
    exact ⟨_, .x (.base (.bl _)), kit_ty k2⟩
  · rename_i i e
    rw [r.isInt e, ← h]
    exact ⟨_, .x (.base (.int _)), kit_ty k3⟩
  · rename_i i e
    rw [r.isStr e, ← h]
    exact ⟨_, .x (.base (.str _)), kit_ty k4⟩
  · rename_i ds e
    obtain ⟨p, vs, rfl, q, rs, _⟩ := r.isTup s e
    rw [← h]
    rcases q with (q | ⟨o, q⟩) | ⟨o, its, n, q, hc, _⟩
    · exact ⟨_, .x (.base (.tup q)), kit_ty k5⟩
    · exact ⟨_, .x (.fTuple q), kit_ty k5⟩
    · exact ⟨_, .x (.kTuple q hc), kit_ty k5⟩
  · rename_i ds e
    obtain ⟨p, vs, rfl, q, rs⟩ := r.isLst s e
    rw [← h]
    rcases q with (q | ⟨o, q⟩) | ⟨o, its, n, q, hc, _⟩
    · exact ⟨_, .x (.base (.lst q)), kit_ty k6⟩
    · exact ⟨_, .x (.base (.frz q)), kit_ty k6⟩
    · exact ⟨_, .x (.kList q hc), kit_ty k6⟩
  · rename_i ks ws e
    obtain ⟨p, o, rfl, q, ⟨kvs, rfl, _⟩ | ⟨kvs, rfl, _⟩⟩ := r.isDct s e
    · rw [← h]
      rcases q with q | ⟨_, _, oo, q⟩
      · exact ⟨_, .x (.base (.dK q)), kit_ty k7⟩
      · exact ⟨_, .x (.fDict q), kit_ty k7⟩
    · rw [← h]
      rcases q with q | ⟨_, _, oo, q⟩
      · exact ⟨_, .x (.base (.dT q)), kit_ty k7⟩
      · exact ⟨_, .fT q, kit_ty k7⟩
  · cases h
theorem d_isi (C : Ctx X c W) {x t : Str} {ty : Ty} {p p2 : Pos} (ex : strEq x "isinstance" = true) (hx : lkp t tyTab = some ty) (hg : c.gl x = true) (hb : c.bl x = true) (hg2 : c.gl t = true) (hb2 : c.bl t = true) (hs : unstar a = true) (ha : PE X a (TV X W fa)) :
    PE X (.Call (.Name x p) [a, .Name t p2] [] pos) (TV X W (fIsi ty fa)) := by
  have ok := SC.okG hg
  have ok2 := SC.okG hg2
  have hboot : bootBuiltins x = some (.builtin "isinstance") := by rw [strEq_eq ex]; decide +kernel
  have e1 := unstar_each (env := X.env) (es := [.Name t p2]) hs
  refine PE.weak (pe_callB call_isiY (C.gl hg) (C.bl x hb) hboot (pa_cons ha (pa_cons (pe_bltn (v := .ty (tyS ty)) (C.gl hg2) (C.bl t hb2) (ty_boot hx) rfl (okN_name ok2) (okN_debug ok2)) pa_nil) e1) (okN_name ok) (okN_debug ok) e1 rfl) fun σ H Q ⟨F, ι, m, en, s, o⟩ => ?_
  refine Obnd RV.down s o fun v F1 ι1 H1 m1 d s1 r x1 o1 => ?_
  obtain ⟨d', e2, q⟩ := ofO_out o1
  obtain ⟨b, e3, rfl⟩ := Option.map_eq_some_iff.mp e2
  obtain ⟨u, k1, k2⟩ := isi_rep s1.mem r e3
  exact ⟨v, .ty (tyS ty), u, .type (tyS ty), b, rfl, .ty _, k1, k2, q _ _ _ _ (Ext.refl _ _ _) s1.mem (Rep.blI (K := X.K) (F := F1) (ι := ι1))⟩

/-! ### calls of defs -/
/-- what a def promises by the interpreter -/
def spI (K : PySem.W.Frag) (g : List D → Mem → Res D) (n : Nat) : Sp := fun vs H Q E =>
  vs.length = n ∧ ∃ F ι m ds d m', SimM K F ι m H ∧ Reps K F ι ds vs ∧ g ds m = .ok d m' ∧ ∀ v F' ι' H', Ext F ι H F' ι' H' → SimM K F' ι' m' H' → Rep K F' ι' d v → Q v H'
/-- a def stands in the module and keeps what the interpreter says -/
structure CallOk (X : Cx) (g : List D → Mem → Res D) (x : Str) : Prop where
  ok : ∃ k f fd ps n, FnOk X.prog X.w X.K X.mg X.base CX0 k f fd ps (spI X.K g n) ∧ Room k X.A ∧ X.mg x = some (.ref f) ∧ PySem.W.keepIn X.K (.ref f) = true ∧ Binds X.K fd ps [] ∧ (∀ ds m d m', g ds m = .ok d m' → ds.length = n) ∧ ∀ ds m y m', g ds m ≠ .exc y m'
theorem call_in {x : Str} (ok : CallOk X (c.call x) x) {fs : FL} {n : Nat} (hn : ∀ ds m d m', c.call x ds m = .ok d m' → ds.length = n) (hx : ∀ ds m y m', c.call x ds m ≠ .exc y m') {F : Hp} {ι : List Addr} {m : Mem} {en : Sto} {Q : VK} {H : Hp} {σ : L2.St}
    (s : Sim X.K F ι en m σ H) (o : Out X.K W (RV X.K) F ι σ H (fCall c.call x fs en m) Q) : T X.K W (RL X.K) fs σ H fun vs H1 => spI X.K (c.call x) n (vs ++ []) H1 Q E0 := by
  refine Obnd RV.down s o fun vs F1 ι1 H1 m1 ds s1 r x1 o1 => ?_
  cases z : c.call x ds m1 with
  | bad => rw [z] at o1; exact False.elim o1
  | exc y m' => exact absurd z (hx _ _ _ _)
  | ok d m' =>
    rw [z] at o1
    rw [List.append_nil]
    exact ⟨by rw [Reps.length r]; exact hn _ _ _ _ z, F1, ι1, m1, ds, d, m', s1.mem, r, z, o1⟩
theorem d_call (C : Ctx X c W) {x : Str} {es : List Expr} {fs : FL} {p : Pos} (ok : CallOk X (c.call x) x) (hg : c.gl x = true) (hs : noStar (a :: es) = true) (ha : PA X (a :: es) (TLs X W fs)) :
    PE X (.Call (.Name x p) (a :: es) [] pos) (TV X W (fCall c.call x fs)) := by
  obtain ⟨k, f, fd, ps, n, FN, hr, hm, hk, hb, hn, hx⟩ := id ok.ok
  have okn := SC.okG hg
  have hs' := hs
  unfold noStar at hs'
  rw [List.all_cons, Bool.and_eq_true] at hs'
  exact PE.weak (pe_call FN hr (C.gl hg) hm hk hb .nil pass0 ha (okN_debug okn) (unstar_each hs'.1) (star_any hs'.2)) fun σ H Q ⟨F, ι, m, en, s, o⟩ => call_in ok hn hx s o
theorem d_call0 (C : Ctx X c W) {x : Str} {p : Pos} (ok : CallOk X (c.call x) x) (hg : c.gl x = true) :
    PE X (.Call (.Name x p) [] [] pos) (TV X W (fCall c.call x fNil)) := by
  obtain ⟨k, f, fd, ps, n, FN, hr, hm, hk, hb, hn, hx⟩ := id ok.ok
  have okn := SC.okG hg
  refine PE.weak (pe_call0 FN hr (C.gl hg) hm hk hb .nil pass0 (okN_debug okn)) fun σ H Q ⟨F, ι, m, en, s, o⟩ => ?_
  obtain ⟨F2, ι2, m2, e2, s2, o2⟩ := call_in (fs := fNil) ok hn hx s o
  exact o2.now s2.mem Reps.nil
end
end Cs

/-! Methods of lists, tuples, dicts. -/
namespace Cs
open PySem L2 PySem.Spec
section
variable {X : Cx} {c : SC} {W : EW} {a b e : Expr} {fa fb f : FE} {pos : Pos} {K : PySem.W.Frag} {F : Hp} {ι : List Addr} {H : Hp} {m : Mem} {σ : L2.St}
theorem strs_of : ∀ {ds : List D} {vs : List V}, (ds.all fun d => match d with | .str _ => true | _ => false) = true → Reps K F ι ds vs → ∃ ys : List Str, ds = ys.map D.str ∧ vs = ys.map V.str
  | [], vs, _, r => ⟨[], rfl, r.of_nil⟩
  | d :: ds, vs, h, r => by
    rw [List.all_cons, Bool.and_eq_true] at h
    obtain ⟨v, w, rfl, r1, r2⟩ := r.of_cons
    obtain ⟨ys, rfl, rfl⟩ := strs_of h.2 r2
    cases d with
    | str z => exact ⟨z :: ys, rfl, by rw [r1.strE]; rfl⟩
    | _ => simp at h
theorem nm_strs {ds : List D} {vs : List V} (h : nmT ds = true) (r : Reps K F ι ds vs) : ∃ ys : List Str, ds = ys.map D.str ∧ vs = ys.map V.str := by
  cases ds with
  | nil => cases h
  | cons d ds =>
    have h : ((d :: ds).all fun d => match d with | .str _ => true | _ => false) = true := h
    exact strs_of (ds := d :: ds) h r
theorem find_str (z : Str) : ∀ {ys : List Str} {i : Nat}, ((ys.map D.str).findIdx? fun y => eqD y (.str z)) = some i → ys[i]? = some z ∧ ∀ k, k < i → ys[k]? ≠ some z
  | [], i, h => by simp at h
  | y :: ys, i, h => by
    rw [List.map_cons, List.findIdx?_cons] at h
    simp only [eqD] at h
    by_cases e : y = z
    · subst e
      simp at h
      subst h
      exact ⟨rfl, fun k hk => absurd hk (Nat.not_lt_zero _)⟩
    · have e' : (y == z) = false := by simpa using e
      simp only [e', Bool.false_eq_true, if_false] at h
      obtain ⟨j, h1, rfl⟩ := Option.map_eq_some_iff.mp h
      obtain ⟨q1, q2⟩ := find_str z h1
      refine ⟨q1, fun k hk => ?_⟩
      cases k with
      | zero => simpa using e
      | succ k => simpa using q2 k (by omega)
/-- the type and the built-in of a method -/
def mthT : Mth → Rk → String × String
  | .append, _ => ("list", "list.append")
  | .extend, _ => ("list", "list.extend")
  | .pop, _ => ("list", "list.pop")
  | .get, _ => ("dict", "dict.get")
  | .update, _ => ("dict", "dict.update")
  | .index, .tup => ("tuple", "tuple.index")
  | .index, _ => ("list", "list.index")
theorem rk_lst {d : D} (h : rkD m d = some .lst) : ∃ ds, res m d = .lst ds := by
  unfold rkD at h
  split at h
  · exact ⟨_, by assumption⟩
  · split at h <;> cases h
  · cases h
  · cases h
  · cases h
theorem rk_tup {d : D} (h : rkD m d = some .tup) : ∃ ds, res m d = .tup ds ∧ nmT ds = true := by
  unfold rkD at h
  split at h
  · cases h
  · split at h
    · exact ⟨_, by assumption, by assumption⟩
    · cases h
  · cases h
  · cases h
  · cases h
theorem rk_dct {d : D} (h : rkD m d = some .dct) : ∃ ks ws, res m d = .dct ks ws := by
  unfold rkD at h
  split at h
  · cases h
  · split at h <;> cases h
  · exact ⟨_, _, by assumption⟩
  · cases h
  · cases h
theorem res_tup {d : D} {ds : List D} (h : res m d = .tup ds) : d = .tup ds := by
  cases d with
  | tup es => simpa [res] using h
  | ref n => rw [res_ref] at h; split at h <;> cases h
  | _ => simp [res] at h
/-- what is known of the receiver -/
theorem recv {pins : List (Addr × Obj)} {s : Shared} (I : L2.Inv X pins σ H s) (sm : SimM X.K F ι m H) {o : D} {x : V} {v : Value} {k : Rk} {f : Mth} (r : Rep X.K F ι o x) (rx : RelV x v) (hk : rkD m o = some k) (ok : mthOk f k = true) :
    s.TypeIs v (mthT f k).1 ∧ ∀ a, v = .ref a → ∃ ob, s.heap.get? a = some ob ∧ ob.dict = none := by
  have lst : k = .lst → s.TypeIs v "list" ∧ ∀ a, v = .ref a → ∃ ob, s.heap.get? a = some ob ∧ ob.dict = none := by
    rintro rfl
    obtain ⟨ds, e⟩ := rk_lst hk
    obtain ⟨p, vs, rfl, q, _⟩ := r.isLst sm e
    exact tyV_is I rx (.inl ⟨rfl, vs, q⟩)
  have dct : k = .dct → s.TypeIs v "dict" ∧ ∀ a, v = .ref a → ∃ ob, s.heap.get? a = some ob ∧ ob.dict = none := by
    rintro rfl
    obtain ⟨ks, ws, e⟩ := rk_dct hk
    obtain ⟨p, u, rfl, q, ⟨kvs, rfl, _⟩ | ⟨kvs, rfl, _⟩⟩ := r.isDct sm e
    · cases (show v = Value.ref p from rx)
      have := isD_at I (.inl ⟨kvs, q.rd⟩)
      exact ⟨this.1, this.2.1⟩
    · cases (show v = Value.ref p from rx)
      have := isD_at I (.inr ⟨kvs, q.rd⟩)
      exact ⟨this.1, this.2.1⟩
  have tup : k = .tup → s.TypeIs v "tuple" ∧ ∀ a, v = .ref a → ∃ ob, s.heap.get? a = some ob ∧ ob.dict = none := by
    rintro rfl
    obtain ⟨ds, e, n⟩ := rk_tup hk
    have := res_tup e
    subst this
    obtain ⟨p, vs, rfl, _, ⟨ob, u, q, hc, hd⟩ | ⟨ob, q, hc, hd⟩, _⟩ := r.tupT n
    · cases (show v = Value.ref p from rx)
      obtain ⟨e1, _⟩ := I.hok p _ (sm.sub _ _ q)
      refine ⟨⟨ob, e1, hc⟩, fun a z => ?_⟩
      cases z
      exact ⟨ob, e1, hd⟩
    · cases (show v = Value.ref p from rx)
      have e1 := I.kIn p ob q
      refine ⟨⟨ob, e1, hc⟩, fun a z => ?_⟩
      cases z
      exact ⟨ob, e1, hd⟩
  cases f <;> cases k <;> first | exact lst rfl | exact dct rfl | exact tup rfl | cases ok
/-- the call by values -/
theorem mth_call (C : Ctx X c W) {pins : List (Addr × Obj)} {s : Shared} (I : L2.Inv X pins σ H s) (sm : SimM X.K F ι m H) {o d : D} {as : List D} {m' : Mem} {x : V} {xs : List V} {v : Value} {us : List Value} {k : Rk} {f : Mth} {Q : VK}
    (r : Rep X.K F ι o x) (rs : Reps X.K F ι as xs) (rx : RelV x v) (rxs : Vals xs us) (e : mthD f k o as m = some (d, m'))
    (q : ∀ w F' ι' H', Ext F ι H F' ι' H' → SimM X.K F' ι' m' H' → Rep X.K F' ι' d w → Q w H') : wpAny (model X.prog X.w) X.A (call (.builtin (mthT f k).2) (v :: us)) (EP X pins σ Q) X.xe s := by
  have hu := C.hu
  have cell : ∀ {n : Nat} {g : List D → Option (D × List D)}, o = .ref n → cellM n m g = some (d, m') → ∃ p ds ds' vs, x = .ref p ∧ H p = some (.lst vs) ∧ Reps X.K F ι ds vs ∧ g ds = some (d, ds') ∧ ∀ ws w, Reps X.K F ι ds' ws → Rep X.K F ι d w → Q w (upd H p (.lst ws)) := by
    intro n g eo hg
    subst eo
    obtain ⟨p, rfl, hp⟩ := r.refE
    unfold cellM at hg
    split at hg
    · rename_i ds hc
      obtain ⟨⟨d1, ds'⟩, h1, h2⟩ := Option.map_eq_some_iff.mp hg
      simp only [Prod.mk.injEq] at h2
      obtain ⟨rfl, rfl⟩ := h2
      obtain ⟨u, h2, vs, rfl, rv⟩ := sm.at hp hc
      refine ⟨p, ds, ds', vs, rfl, h2, rv, h1, fun ws w rw' rd => ?_⟩
      obtain ⟨x1, s1⟩ := sm.put hp hc (.lst ws) (c := .lst ds') ⟨ws, rfl, rw'⟩
      exact q _ _ _ _ x1 s1 rd
    · cases hg
  have now : ∀ {w}, m' = m → Rep X.K F ι d w → Q w H := fun {w} z rw' => q w F ι H (Ext.refl _ _ _) (z ▸ sm) rw'
  cases f with
  | append =>
    cases k with
    | lst =>
      replace e : appM o as m = some (d, m') := e
      unfold appM at e
      split at e
      · rename_i n y
        obtain ⟨p, ds, ds', vs, rfl, hH, rv, hg, fin⟩ := cell rfl e
        obtain ⟨y', rfl, ry⟩ := rs.one'
        split at hg
        · rename_i hz
          cases hg
          exact mt_append pins s σ H _ _ v us Q I rx rxs ⟨p, vs, y', rfl, rfl, hH, by rw [rv.length]; exact hz, fin _ _ (rv.append (Reps.one ry)) Rep.nonI⟩
        · cases hg
      · cases e
    | _ => cases e
  | extend =>
    cases k with
    | lst =>
      replace e : extM o as m = some (d, m') := e
      unfold extM at e
      split at e
      · rename_i n y
        obtain ⟨es, e1, e2⟩ := Option.bind_eq_some_iff.mp e
        obtain ⟨p, ds, ds', vs, rfl, hH, rv, hg, fin⟩ := cell rfl e2
        obtain ⟨y', rfl, ry⟩ := rs.one'
        obtain ⟨p2, ws, rfl, hH2, rw2⟩ := ry.isLstT sm e1
        split at hg
        · rename_i hz
          cases hg
          exact mt_extend pins s σ H _ _ v us Q I rx rxs ⟨p, p2, vs, ws, rfl, rfl, hH, hH2, by rw [rv.length, rw2.length]; exact hz, fin _ _ (rv.append rw2) Rep.nonI⟩
        · cases hg
      · cases e
    | _ => cases e
  | pop =>
    cases k with
    | lst =>
      replace e : popM o as m = some (d, m') := e
      unfold popM at e
      split at e
      · rename_i n
        obtain ⟨p, ds, ds', vs, rfl, hH, rv, hg, fin⟩ := cell rfl e
        obtain ⟨d1, h1, h2⟩ := Option.map_eq_some_iff.mp hg
        simp only [Prod.mk.injEq] at h2
        obtain ⟨rfl, rfl⟩ := h2
        obtain ⟨w, h3, rw3⟩ := rv.get h1
        cases rs.of_nil
        refine mt_pop pins s σ H _ _ v us Q I rx rxs ⟨p, vs, w, rfl, rfl, hH, by rw [rv.length]; exact h3, fin _ _ ?_ rw3⟩
        rw [List.dropLast_eq_take, List.dropLast_eq_take, rv.length]
        exact rv.take _
      · cases e
    | _ => cases e
  | get =>
    cases k with
    | dct =>
      replace e : getM o as m = some (d, m') := e
      unfold getM at e
      split at e
      · rename_i key
        obtain ⟨y, rfl, ry⟩ := rs.one'
        split at e
        · rename_i ks ws e1
          split at e
          · rename_i ok
            simp only [Option.some.injEq, Prod.mk.injEq] at e
            obtain ⟨e2, e3⟩ := e
            obtain ⟨p, H', ov, rfl, I', g, back, mt⟩ := dget I sm r e1 ok ry
            cases (show v = Value.ref p from rx)
            obtain ⟨u, rfl, ru⟩ := rxs.one
            have : ∃ w, ov.getD .non = w ∧ Rep X.K F ι d w := by
              rw [← e2]
              cases z : getK ks ws key <;> cases z2 : ov <;> simp only [z, z2] at mt
              · exact ⟨_, rfl, Rep.nonI⟩
              · exact ⟨_, rfl, mt⟩
            obtain ⟨w, ew, rw'⟩ := this
            refine d_get1 (by omega) I' g ru fun w' s3 I3 rr => ⟨w, H, back _ I3, ?_, now e3.symm rw'⟩
            rw [← ew]; exact rr
          · cases e
        · cases e
      · rename_i key dft
        obtain ⟨y, y2, rfl, ry, ry2⟩ := rs.two'
        split at e
        · rename_i ks ws e1
          split at e
          · rename_i ok
            simp only [Option.some.injEq, Prod.mk.injEq] at e
            obtain ⟨e2, e3⟩ := e
            obtain ⟨p, H', ov, rfl, I', g, back, mt⟩ := dget I sm r e1 ok ry
            cases (show v = Value.ref p from rx)
            obtain ⟨u, u2, rfl, ru, ru2⟩ := rxs.two
            have : ∃ w, ov.getD y2 = w ∧ Rep X.K F ι d w := by
              rw [← e2]
              cases z : getK ks ws key <;> cases z2 : ov <;> simp only [z, z2] at mt
              · exact ⟨_, rfl, ry2⟩
              · exact ⟨_, rfl, mt⟩
            obtain ⟨w, ew, rw'⟩ := this
            refine d_get2 (by omega) I' g ru ru2 fun w' s3 I3 rr => ⟨w, H, back _ I3, ?_, now e3.symm rw'⟩
            rw [← ew]; exact rr
          · cases e
        · cases e
      · cases e
    | _ => cases e
  | update =>
    cases k with
    | dct =>
      replace e : updM o as m = some (d, m') := e
      unfold updM at e
      split at e
      · rename_i n kr vr
        split at e
        · rename_i ks ws hc
          split at e
          · rename_i ok
            have e := Option.some.inj e
            rw [Prod.mk.injEq] at e
            obtain ⟨rfl, rfl⟩ := e
            rw [Bool.and_eq_true, Bool.and_eq_true, decide_eq_true_eq] at ok
            obtain ⟨⟨k1, k2⟩, hz⟩ := ok
            obtain ⟨y', rfl, ry⟩ := rs.one'
            obtain ⟨p, rfl, hp⟩ := r.refE
            obtain ⟨hFp, u1, hH1, rc1⟩ := sm.cell _ _ _ hp hc
            obtain ⟨b, u2, rfl, hH2, rc2⟩ := ry.isDct sm (ks := kr) (ws := vr) rfl
            have hb : F b ≠ none := by
              simp only [Rep] at ry
              obtain ⟨b', eb, ⟨kvs, q1, _⟩ | ⟨kvs, q1, _⟩⟩ := ry
              · cases eb
                rcases q1 with q1 | ⟨_, _, oo, q1⟩ <;> rw [q1] <;> exact fun z => nomatch z
              · cases eb
                rcases q1 with q1 | ⟨_, _, oo, q1⟩ <;> rw [q1] <;> exact fun z => nomatch z
            have hpb : p ≠ b := fun z => hb (z ▸ hFp)
            obtain ⟨H1, kvs, I1, hR1, hU1, hN1, rfl, rs1, back1⟩ := dk_flat I (.inl hH1) rc1 k1
            have hH2' : RdE H1 b u2 := by
              rcases hH2 with z | ⟨z1, z2, oo, z⟩
              · exact .inl (by rw [hN1 b hpb.symm]; exact z)
              · exact .inr ⟨z1, z2, oo, by rw [hN1 b hpb.symm]; exact z⟩
            obtain ⟨H2, kvs2, I2, hR2, hU2, hN2, rfl, rs2, back2⟩ := dk_flat I1 hH2' rc2 k2
            have hp2 : H2 p = some (.dK kvs) := by rw [hN2 p hpb]; exact hU1 hH1
            cases (show v = Value.ref p from rx)
            obtain ⟨u', rfl, ru⟩ := rxs.one
            cases (show u' = Value.ref b from ru)
            simp only [List.length_map] at hz
            obtain ⟨_, _, vs, rel, o2, es, ep, _, _, _, _, _, nd⟩ := I2.hok p _ hp2
            have nd' : (kvs.map (·.1)).Nodup := by
              have : kvs.map (·.1) = vs.map (·.1) := paired_keys rel
              rw [this]; exact nd
            have hl := rs2.length
            obtain ⟨g1, g2⟩ := merge_rep (kvs2.map (·.1)) vr (kvs2.map (·.2)) kvs ws nd' rs1 rs2 (by simpa using hl)
            have ez : (kvs2.map (·.1)).zip (kvs2.map (·.2)) = kvs2 := by
              rw [List.zip_map', List.map_id'']
              intro x
              rfl
            rw [ez] at g1 g2
            simp only [List.map_map] at g1 g2
            obtain ⟨x1, s1⟩ := sm.put hp hc (.dK (mergeK kvs kvs2)) (c := .dct (mergeD (kvs.map fun p => kd p.1) ws (kvs2.map fun p => kd p.1) vr).1 (mergeD (kvs.map fun p => kd p.1) ws (kvs2.map fun p => kd p.1) vr).2) (.inl ⟨_, rfl, g1, g2⟩)
            refine update_meets I2 hp2 hR2 hpb hz fun s3 I3 => ⟨.non, upd H p (.dK (mergeK kvs kvs2)), ?_, rfl, q _ _ _ _ x1 s1 Rep.nonI⟩
            have e1 := back2 _ s3 (by rw [upd_ne hpb.symm]) I3
            have e2 := back1 (upd H1 p (.dK (mergeK kvs kvs2)))
            have e3 : (fun c => if c = b then H1 b else upd H2 p (.dK (mergeK kvs kvs2)) c) = upd H p (.dK (mergeK kvs kvs2)) := by
              funext c
              by_cases z : c = b
              · subst z; rw [if_pos rfl, upd_ne hpb.symm, hN1 c hpb.symm]
              · rw [if_neg z]
                by_cases z2 : c = p
                · subst z2; rw [upd_same, upd_same]
                · rw [upd_ne z2, upd_ne z2, hN2 c z, hN1 c z2]
            rw [e3] at e1
            exact e1
          · cases e
        · cases e
      · cases e
    | _ => cases e
  | index =>
    cases k with
    | lst =>
      replace e : idxL o as m = some (d, m') := e
      unfold idxL at e
      split at e
      · rename_i z
        obtain ⟨y, rfl, ry⟩ := rs.one'
        cases ry.strE
        split at e
        · rename_i ds e1
          split at e
          · rename_i n
            obtain ⟨i, h1, h2⟩ := Option.map_eq_some_iff.mp e
            simp only [Prod.mk.injEq] at h2
            obtain ⟨rfl, rfl⟩ := h2
            obtain ⟨p, vs, rfl, q1, rv⟩ := r.isLst sm e1
            obtain ⟨ys, rfl, rfl⟩ := nm_strs n rv
            obtain ⟨h3, h4⟩ := find_str z h1
            refine mt_index pins s σ H _ _ v us Q I rx rxs ⟨p, ys.map V.str, .str z, i, .str z, rfl, rfl, q1, rfl, ?_, ?_, ?_, fun k z' hk hz => ?_, now rfl Rep.intI⟩
            · rw [List.all_map, List.all_eq_true]; intro _ _; rfl
            · rw [List.getElem?_map, h3]; rfl
            · simp [eqV]
            · rw [List.getElem?_map] at hz
              obtain ⟨y, hy, rfl⟩ := Option.map_eq_some_iff.mp hz
              have : y ≠ z := fun w => h4 k hk (by rw [hy, w])
              simpa [eqV] using this
          · cases e
        · cases e
      · cases e
    | tup =>
      replace e : idxT o as m = some (d, m') := e
      unfold idxT at e
      split at e
      · rename_i z
        obtain ⟨y, rfl, ry⟩ := rs.one'
        cases ry.strE
        split at e
        · rename_i ds e1
          split at e
          · rename_i n
            obtain ⟨i, h1, h2⟩ := Option.map_eq_some_iff.mp e
            simp only [Prod.mk.injEq] at h2
            obtain ⟨rfl, rfl⟩ := h2
            obtain ⟨p, vs, rfl, q1, rv, _⟩ := r.isTup sm e1
            obtain ⟨ys, rfl, rfl⟩ := nm_strs n rv
            obtain ⟨h3, h4⟩ := find_str z h1
            exact mt_tup_index pins s σ H _ _ v us Q I rx rxs ⟨p, ys, z, i, rfl, rfl, q1, h3, h4, now rfl Rep.intI⟩
          · cases e
        · cases e
      · cases e
    | _ => cases e
end
end Cs

/-! Calls of methods; written dicts. -/
namespace Cs
open PySem L2 PySem.Spec
section
variable {X : Cx} {c : SC} {W : EW} {a b e : Expr} {fa fb f : FE} {pos : Pos} {K : PySem.W.Frag} {F : Hp} {ι : List Addr} {H : Hp} {m : Mem} {σ : L2.St}
theorem mth_slot {f : Mth} {name : Str} {x : Str} (hx : ∀ z, lkp z mthTab = some f → strEq z x = true) (h : lkp name mthTab = some f) : name = x := strEq_eq (hx name h)
theorem lkp_mth {f : Mth} {name : Str} (h : lkp name mthTab = some f) : (f = .append ∧ name = "append") ∨ (f = .extend ∧ name = "extend") ∨ (f = .pop ∧ name = "pop") ∨ (f = .get ∧ name = "get") ∨ (f = .index ∧ name = "index") ∨ (f = .update ∧ name = "update") := by
  obtain ⟨y, e, q⟩ := lkp_all (P := fun y f => (f = Mth.append ∧ y = ("append" : Str)) ∨ (f = .extend ∧ y = "extend") ∨ (f = .pop ∧ y = "pop") ∨ (f = .get ∧ y = "get") ∨ (f = .index ∧ y = "index") ∨ (f = .update ∧ y = "update")) mthTab (by
    intro q hq
    simp only [mthTab, List.mem_cons, List.not_mem_nil, or_false] at hq
    rcases hq with rfl | rfl | rfl | rfl | rfl | rfl <;> simp) h
  rw [strEq_eq e]
  exact q
theorem mth_facts {f : Mth} {k : Rk} {name : Str} (h : lkp name mthTab = some f) (ok : mthOk f k = true) : PlainAttrs (mthT f k).1 ∧ Slot (mthT f k).1 name (mthT f k).2 ∧ typeOf (.builtin (mthT f k).2) = pure (.type "method_descriptor") := by
  rcases lkp_mth h with ⟨rfl, rfl⟩ | ⟨rfl, rfl⟩ | ⟨rfl, rfl⟩ | ⟨rfl, rfl⟩ | ⟨rfl, rfl⟩ | ⟨rfl, rfl⟩
  · cases k with
    | lst => exact ⟨PySem.F.plainAttrs_list, PySem.F.slot_list_append, PySem.F.type_list_append⟩
    | _ => cases ok
  · cases k with
    | lst => exact ⟨PySem.F.plainAttrs_list, PySem.F.slot_list_extend, PySem.F.type_list_extend⟩
    | _ => cases ok
  · cases k with
    | lst => exact ⟨PySem.F.plainAttrs_list, PySem.F.slot_list_pop, PySem.F.type_list_pop⟩
    | _ => cases ok
  · cases k with
    | dct => exact ⟨PySem.F.plainAttrs_dict, PySem.F.slot_dict_get, PySem.F.type_dict_get⟩
    | _ => cases ok
  · cases k with
    | lst => exact ⟨PySem.F.plainAttrs_list, PySem.F.slot_list_index, PySem.F.type_list_index⟩
    | tup => exact ⟨PySem.F.plainAttrs_tuple, PySem.F.slot_tuple_index, PySem.F.type_tuple_index⟩
    | _ => cases ok
  · cases k with
    | dct => exact ⟨PySem.F.plainAttrs_dict, PySem.F.slot_dict_update, PySem.F.type_dict_update⟩
    | _ => cases ok
theorem attr_base {o : Expr} (name : Str) (env : PySem.Env) (h : attrOk o = true) : attributeBase o name env (eval o env) = eval o env := by
  cases o with
  | Call fn args kws pos =>
    cases fn with
    | Name x p =>
      cases args with
      | nil =>
        cases kws with
        | nil => cases h
        | cons _ _ => rfl
      | cons _ _ => rfl
    | _ => rfl
  | _ => rfl
theorem d_mth (C : Ctx X c W) {o : Expr} {fo : FE} {name : Str} {apos : Pos} {args : List Expr} {g : Expr → FE} {f : Mth} (hm : lkp name mthTab = some f) (hs : noStar args = true) (h2 : attrOk o = true) (hline : (apos.endLine == pos.line) = true) (hlen : args.length < 20)
    (ho : PE X o (TV X W fo)) (ha : PA X args (TLs X W (listF g args))) : PE X (.Call (.Attribute o name apos) args [] pos) (TV X W (fMth f fo (listF g args))) := by
  refine ⟨fun pins s σ H Q I ⟨F, ι, m, en, sim, o1⟩ => ?_⟩
  generalize hfs : listF g args = fs at o1 ha
  have hfew : ((backTo pos (starEach args X.env)).all (fun x => !x.1) && (backToKw pos (keywordEach [] X.env)).all (fun x => x.1.isSome)
      && decide (args.length + ([] : List Keyword).length + (if ([] : List Keyword).isEmpty then 0 else 1) < 30)) = true := by
    rw [Bool.and_eq_true, Bool.and_eq_true]
    refine ⟨⟨?_, rfl⟩, by simp; omega⟩
    have := star_any (env := X.env) (p := pos) hs
    rw [List.any_eq_false] at this
    rw [List.all_eq_true]
    intro x hx
    simpa using this x hx
  refine wpAny_Call_method_late (attr_base name X.env h2) hfew hline rfl ?_
  have main := Obnd (W := W) (R := RV X.K) (g := fun o m => match rkD m o with
    | some k => if mthOk f k then bnd (fs en m) fun ds m => match mthD f k o ds m with
        | some (d, m) => .ok d m
        | none => .bad
      else .bad
    | none => .bad) (f := fo) (Q := Q) (P := fun x H1 => ∃ F1 ι1 m1 d k, Sim X.K F1 ι1 en m1 σ H1 ∧ Rep X.K F1 ι1 d x ∧ rkD m1 d = some k ∧ mthOk f k = true ∧
      Out X.K W (RV X.K) F1 ι1 σ H1 (bnd (fs en m1) fun ds m => match mthD f k d ds m with
        | some (d, m) => .ok d m
        | none => .bad) Q) RV.down sim o1 fun x F1 ι1 H1 m1 d s1 r x1 o2 => by
      cases z : rkD m1 d with
      | none => simp only [z] at o2; exact False.elim o2
      | some k =>
        simp only [z] at o2
        cases ok : mthOk f k with
        | false => simp only [ok] at o2; exact False.elim o2
        | true => simp only [ok] at o2; exact ⟨F1, ι1, m1, d, k, s1, r, z, ok, o2⟩
  refine thn (ho.run pins s σ H _ I main) fun v s1 ⟨x, H1, I1, rx, F1, ι1, m1, d, k, sm1, r, z, ok, o2⟩ => ?_
  obtain ⟨pa, slot, hty⟩ := mth_facts hm ok
  obtain ⟨t1, t2⟩ := recv I1 sm1.mem r rx z ok
  refine ⟨_, _, pa, slot, hty, t1, t2, ?_⟩
  have fin := Obnd (W := W) (R := RL X.K) (f := fs) (g := fun ds m => match mthD f k d ds m with
        | some (d, m) => .ok d m
        | none => .bad) (Q := Q) (P := fun xs H2 => ∃ F2 ι2 m2 ds d' m', SimM X.K F2 ι2 m2 H2 ∧ Rep X.K F2 ι2 d x ∧ Reps X.K F2 ι2 ds xs ∧ mthD f k d ds m2 = some (d', m') ∧
        ∀ w F' ι' H', Ext F2 ι2 H2 F' ι' H' → SimM X.K F' ι' m' H' → Rep X.K F' ι' d' w → Q w H') RV.down sm1 o2 fun xs F2 ι2 H2 m2 ds s2 r2 x2 o3 => by
      cases z2 : mthD f k d ds m2 with
      | none => simp only [z2] at o3; exact False.elim o3
      | some p => simp only [z2] at o3; exact ⟨F2, ι2, m2, ds, p.1, p.2, s2.mem, r.ext x2, r2, z2, o3⟩
  cases args with
  | nil =>
    subst hfs
    obtain ⟨F2, ι2, m2, en2, s2, o2⟩ := fin
    obtain ⟨F3, ι3, m3, ds, d', m', sm3, rd, rds, e, q⟩ := o2.now s2.mem Reps.nil
    exact Calls.callWith_builtin rfl (PySem.evalArgs_none (mth_call C I1 sm3 rd rds rx .nil e q))
  | cons a r =>
    have hA := ha.run pos pins s1 σ H1 _ I1 fin
    have hs' := hs
    unfold noStar at hs'
    rw [List.all_cons, Bool.and_eq_true] at hs'
    rw [unstar_each hs'.1] at hA ⊢
    refine Calls.callWith_builtin (by show (false || (backTo pos (starEach r X.env)).any (·.1)) = false; rw [star_any hs'.2] <;> rfl) (Calls.evalArgs_plain ?_)
    exact thn hA fun us s2 ⟨vs, H2, I2, r2, F2, ι2, m2, ds, d', m', sm2, rd, rds, e, q⟩ => mth_call C I2 sm2 rd rds rx r2 e q
end
end Cs

/-! Targets; what is walked. -/
namespace Cs
open PySem L2 PySem.Spec
section
variable {X : Cx} {c : SC} {W : EW} {a b e : Expr} {fa fb f : FE} {pos : Pos} {K : PySem.W.Frag} {F F1 : Hp} {ι ι1 : List Addr} {H H1 : Hp} {m m1 : Mem} {σ : L2.St}
/-! ### targets -/
/-- the frame but for some slots -/
structure Off (is : List Nat) (σ σ' : L2.St) : Prop where
  len : σ'.length = σ.length
  at' : ∀ i : Nat, i ∉ is → σ'[i]? = σ[i]?
theorem Off.refl (is : List Nat) (σ : L2.St) : Off is σ σ := ⟨rfl, fun _ _ => rfl⟩
theorem Off.trans {is js : List Nat} {σ σ1 σ2 : L2.St} (h : Off is σ σ1) (h2 : Off js σ1 σ2) : Off (is ++ js) σ σ2 :=
  ⟨h2.len.trans h.len, fun i hi => (h2.at' i fun z => hi (List.mem_append_right _ z)).trans (h.at' i fun z => hi (List.mem_append_left _ z))⟩
theorem wipe_at (σ : L2.St) : ∀ (vs : List Nat) (i : Nat), (L2.wipe σ vs)[i]? = if i ∈ vs then (σ[i]?).map (fun _ => none) else σ[i]?
  | [], i => by simp [L2.wipe]
  | v :: vs, i => by
    have ih := wipe_at σ vs i
    show ((L2.wipe σ vs).set v none)[i]? = _
    by_cases q : v = i
    · subst q
      rw [List.getElem?_set_self', ih]
      by_cases q2 : v ∈ vs
      · rw [if_pos q2, if_pos List.mem_cons_self]
        cases σ[v]? <;> rfl
      · rw [if_neg q2, if_pos List.mem_cons_self]
        rfl
    · rw [List.getElem?_set_ne q, ih]
      have : (i ∈ v :: vs) ↔ i ∈ vs := by rw [List.mem_cons]; exact ⟨fun z => z.resolve_left (Ne.symm q), .inr⟩
      simp only [this]
theorem Off.wipe {is vs : List Nat} {σ σ' : L2.St} (h : Off is (L2.wipe σ vs) σ') (hs : ∀ i ∈ is, i ∈ vs) : L2.wipe σ' vs = L2.wipe σ vs := by
  apply List.ext_getElem?
  intro i
  rw [wipe_at, wipe_at]
  have hl := h.len
  rw [wipe_length] at hl
  by_cases q : i ∈ vs
  · rw [if_pos q, if_pos q]
    by_cases z : i < σ.length
    · rw [List.getElem?_eq_getElem z, List.getElem?_eq_getElem (by omega)]; rfl
    · rw [List.getElem?_eq_none (by omega), List.getElem?_eq_none (by omega)]
  · rw [if_neg q, if_neg q, h.at' i (fun z => q (hs i z)), wipe_at, if_neg q]
def gT (K : PySem.W.Frag) (t : Tgt) : TG := fun v σ H Q => ∃ F ι m e d e', Sim K F ι e m σ H ∧ Rep K F ι d v ∧ bindT t d e = some e' ∧ ∀ σ', Sim K F ι e' m σ' H → Off (slotsT t) σ σ' → Q σ' H
def gTs (K : PySem.W.Frag) (t : List Tgt) : TGs := fun vs σ H Q => ∃ F ι m e ds e', Sim K F ι e m σ H ∧ Reps K F ι ds vs ∧ bindL t ds e = some e' ∧ ∀ σ', Sim K F ι e' m σ' H → Off (slotsL t) σ σ' → Q σ' H
theorem pg_weak {t t' : TG} (h : PG X e t) (k : ∀ v σ H Q, t' v σ H Q → t v σ H Q) : PG X e t' := ⟨fun pins s σ H v u Q I r q => h.run pins s σ H v u Q I r (k v σ H Q q)⟩
theorem pgs_weak {es : List Expr} {t t' : TGs} (h : PGs X es t) (k : ∀ v σ H Q, t' v σ H Q → t v σ H Q) : PGs X es t' := ⟨fun pins s σ H v u Q I r q => h.run pins s σ H v u Q I r (k v σ H Q q)⟩
theorem bindL_len : ∀ {ts : List Tgt} {ds : List D} {e e' : Sto}, bindL ts ds e = some e' → ds.length = ts.length
  | [], [], _, _, _ => rfl
  | [], _ :: _, _, _, h => by simp [bindL] at h
  | _ :: _, [], _, _, h => by simp [bindL] at h
  | t :: ts, d :: ds, e, e', h => by
    unfold bindL at h
    obtain ⟨e1, _, h2⟩ := Option.bind_eq_some_iff.mp h
    rw [List.length_cons, List.length_cons, bindL_len h2]
theorem tgt_no {tg : Expr} {n : Nat} {t : Tgt} (h : tgtX c n tg = some t) : unstar tg = true := by
  cases n with
  | zero => simp [tgtX] at h
  | succ n =>
    cases tg with
    | Starred _ _ => simp [tgtX] at h
    | _ => rfl
theorem tgts_no : ∀ {n : Nat} {es : List Expr} {ts : List Tgt}, tgtsX c n es = some ts → noStar es = true ∧ ts.length = es.length
  | 0, _, _, h => by simp [tgtsX] at h
  | n + 1, [], ts, h => by
    simp only [tgtsX] at h
    cases h
    exact ⟨rfl, rfl⟩
  | n + 1, e :: r, ts, h => by
    simp only [tgtsX] at h
    cases h1 : tgtX c n e with
    | none => rw [h1] at h; simp at h
    | some t =>
      cases h2 : tgtsX c n r with
      | none => rw [h1, h2] at h; simp at h
      | some us =>
        rw [h1, h2] at h
        cases h
        obtain ⟨q1, q2⟩ := tgts_no h2
        refine ⟨?_, by simp [q2]⟩
        unfold noStar at q1 ⊢
        rw [List.all_cons, tgt_no h1, q1]; rfl
theorem assign_each : ∀ {es : List Expr} {env : PySem.Env}, noStar es = true → assignEach es env = es.map fun e => (false, assign e env)
  | [], _, _ => rfl
  | a :: r, env, h => by
    unfold noStar at h
    rw [List.all_cons, Bool.and_eq_true] at h
    have ih := assign_each (es := r) (env := env) h.2
    cases a with
    | Starred _ _ => cases h.1
    | _ => rw [List.map_cons, ← ih]; rfl
mutual
theorem d_tgt (C : Ctx X c W) : ∀ (n : Nat) (tg : Expr) (t : Tgt), tgtX c n tg = some t → PG X tg (gT X.K t)
  | 0, _, _, h => by simp [tgtX] at h
  | n + 1, tg, t, h => by
    cases tg with
    | Name x p =>
      simp only [tgtX] at h
      obtain ⟨i, h1, rfl⟩ := Option.map_eq_some_iff.mp h
      obtain ⟨q1, q2, q3⟩ := C.slotW h1
      refine pg_weak (pg_name C.nd q1 q2 q3) fun v σ H Q ⟨F, ι, m, e, d, e', s, r, hb, q⟩ => ?_
      simp only [bindT] at hb
      cases hb
      refine q _ (s.set r) ⟨by rw [List.length_set], fun j hj => ?_⟩
      rw [List.getElem?_set_ne]
      intro z
      exact hj (by simp [slotsT, z])
    | Tuple es k p =>
      simp only [tgtX] at h
      obtain ⟨ts, h1, rfl⟩ := Option.map_eq_some_iff.mp h
      obtain ⟨q1, q2⟩ := tgts_no h1
      have ae := assign_each (env := X.env) q1
      refine pg_weak (pg_tup C.calm (d_tgts C n es ts h1) (n := es.length) (by rw [ae, List.length_map]) ?_) fun v σ H Q ⟨F, ι, m, e, d, e', s, r, hb, q⟩ => ?_
      · rw [ae, List.findIdx?_eq_none_iff]
        intro x hx
        obtain ⟨_, _, rfl⟩ := List.mem_map.mp hx
        rfl
      · cases d with
        | tup ds =>
          simp only [bindT] at hb
          obtain ⟨a, vs, rfl, q3, rs⟩ := r.tupE
          exact ⟨a, vs, rfl, SqT.sub q3 s.mem, by rw [rs.length, bindL_len hb, q2], F, ι, m, e, ds, e', s, rs, hb, q⟩
        | _ => simp [bindT] at hb
    | _ => simp [tgtX] at h
theorem d_tgts (C : Ctx X c W) : ∀ (n : Nat) (es : List Expr) (ts : List Tgt), tgtsX c n es = some ts → PGs X es (gTs X.K ts)
  | 0, _, _, h => by simp [tgtsX] at h
  | n + 1, [], ts, h => by
    simp only [tgtsX] at h
    cases h
    refine pgs_weak pgs_nil fun vs σ H Q ⟨F, ι, m, e, ds, e', s, r, hb, q⟩ => ?_
    cases ds with
    | nil =>
      simp only [bindL] at hb
      cases hb
      exact ⟨r.of_nil, q σ s (Off.refl _ _)⟩
    | cons _ _ => simp [bindL] at hb
  | n + 1, e0 :: es, ts, h => by
    have hno := tgts_no h
    simp only [tgtsX] at h
    cases h1 : tgtX c n e0 with
    | none => rw [h1] at h; simp at h
    | some t =>
      cases h2 : tgtsX c n es with
      | none => rw [h1, h2] at h; simp at h
      | some us =>
        rw [h1, h2] at h
        cases h
        have ae := assign_each (env := X.env) hno.1
        refine pgs_weak (pgs_cons (d_tgt C n e0 t h1) (d_tgts C n es us h2) ?_) fun vs σ H Q ⟨F, ι, m, e, ds, e', s, r, hb, q⟩ => ?_
        · rw [ae, assign_each (tgts_no h2).1]; rfl
        · cases ds with
          | nil => simp [bindL] at hb
          | cons d ds =>
            unfold bindL at hb
            obtain ⟨e1, hb1, hb2⟩ := Option.bind_eq_some_iff.mp hb
            obtain ⟨v, w, rfl, r1, r2⟩ := r.of_cons
            exact ⟨v, w, rfl, F, ι, m, e, d, e1, s, r1, hb1, fun σ' s' o' => ⟨F, ι, m, e1, ds, e', s', r2, hb2, fun σ2 s2 o2 => q σ2 s2 (by
              show Off (slotsT t ++ slotsL us) σ σ2
              exact o'.trans o2)⟩⟩
end
end
end Cs

/-! What is walked. -/
namespace Cs
open PySem L2 PySem.Spec
section
variable {X : Cx} {c : SC} {W : EW} {a b e tg : Expr} {fa fb f : FE} {pos : Pos} {K : PySem.W.Frag} {F F1 : Hp} {ι ι1 : List Addr} {H H1 : Hp} {m m1 : Mem} {σ : L2.St}
/-- what stands for ever grows, the cells grow -/
structure Gr (F : Hp) (ι : List Addr) (F' : Hp) (ι' : List Addr) : Prop where
  f : ∀ a o, F a = some o → F' a = some o
  ι : ∀ (n : Nat) x, ι[n]? = some x → ι'[n]? = some x
theorem Ext.gr {F' : Hp} {ι' : List Addr} {H' : Hp} (x : Ext F ι H F' ι' H') : Gr F ι F' ι' := ⟨x.f, x.ι⟩
theorem Gr.refl (F : Hp) (ι : List Addr) : Gr F ι F ι := ⟨fun _ _ z => z, fun _ _ z => z⟩
theorem Gr.trans {F2 : Hp} {ι2 : List Addr} (x : Gr F ι F1 ι1) (y : Gr F1 ι1 F2 ι2) : Gr F ι F2 ι2 := ⟨fun _ _ z => y.f _ _ (x.f _ _ z), fun _ _ z => y.ι _ _ (x.ι _ _ z)⟩
theorem Reps.gr {d : List D} {v : List V} (h : Reps K F ι d v) (x : Gr F ι F1 ι1) : Reps K F1 ι1 d v := h.mono x.f x.ι
theorem Rep.gr {d : D} {v : V} (h : Rep K F ι d v) (x : Gr F ι F1 ι1) : Rep K F1 ι1 d v := h.mono x.f x.ι
theorem Sim.gr {en : Sto} (s : Sim K F ι en m σ H) (x : Gr F ι F1 ι1) (sm : SimM K F1 ι1 m1 H1) : Sim K F1 ι1 en m1 σ H1 :=
  ⟨sm, s.len, fun i d h => let ⟨v, e, r⟩ := s.loc i d h; ⟨v, e, r.gr x⟩⟩
/-- an iterator yields these, so long as the cells at ns stay as they are in m0 -/
structure JRep (K : PySem.W.Frag) (F : Hp) (ι : List Addr) (J : It) (ns : List Nat) (m0 : Mem) (ds : List D) : Prop where
  stop : ∀ F' ι' m' H', Gr F ι F' ι' → SimM K F' ι' m' H' → (∀ n ∈ ns, m'[n]? = m0[n]?) → J.stop ds.length H'
  go : ∀ F' ι' m' H', Gr F ι F' ι' → SimM K F' ι' m' H' → (∀ n ∈ ns, m'[n]? = m0[n]?) → ∀ (i : Nat) d, ds[i]? = some d → J.go i H' ∧
    ∀ x H'', J.yld i H' x H'' → ∃ F'', Ext F' ι' H' F'' ι' H'' ∧ SimM K F'' ι' m' H'' ∧ Rep K F'' ι' d x
def RI (K : PySem.W.Frag) : AR ((List D × List Nat) × Mem) It := fun _ F ι _ p J => JRep K F ι J p.1.2 p.2 p.1.1
theorem RI.down : Down (RI K) := fun _ _ _ _ _ _ _ _ _ _ _ _ h => h
def tagM (fi : FI) : Sto → Mem → Res ((List D × List Nat) × Mem) := fun e m => bnd (fi e m) fun p m => .ok (p, m) m
abbrev TJ (X : Cx) (W : EW) (fi : FI) : TI := T X.K W (RI X.K) (tagM fi)
theorem pi_weak {t t' : TI} (h : PI X tg e t) (k : ∀ σ H R, t' σ H R → t σ H R) : PI X tg e t' := ⟨fun pins s σ H R I q => h.run pins s σ H R I (k σ H R q)⟩
theorem bnd_bnd {α β γ : Type} (r : Res α) (g : α → Mem → Res β) (h : β → Mem → Res γ) : bnd (bnd r g) h = bnd r fun a m => bnd (g a m) h := by cases r <;> rfl
/-- a list, a tuple or a text -/
theorem pi_any {l : Expr} {tl : TE} (hl : PE X l tl) : PI X tg l (fun σ H R => tl σ H fun x H1 => (∃ a, x = .ref a ∧ (((∃ xs, SqL X.K H1 a xs) ∧ R (Itl X.K a) H1) ∨ ((∃ xs, SqT X.K H1 a xs) ∧ R (Itt X.K a) H1))) ∨ ∃ z, x = .str z ∧ R (Its z) H1) := by
  refine ⟨fun pins s σ H R I h => ?_⟩
  refine thn (hl.run pins s σ H _ I h) fun v s1 ⟨x, H1, I1, r1, q1⟩ => ?_
  rcases q1 with ⟨a, e, ⟨⟨xs, hq⟩, q⟩ | ⟨⟨xs, hq⟩, q⟩⟩ | ⟨z, e, q⟩
  · subst e
    cases r1
    obtain ⟨its, rv, p, hz⟩ := I1.list hq
    refine wpAny_pyIter_list p.isList ?_
    refine ⟨s1.heap.objs.size, [s1.heap.objs.size], _, _, H1, rfl, I1.kept (t' := s1.toks) fun b o e => Heap.get?_push_of_some _ e, turn_list a _, ⟨_, Heap.get?_push_size _ rfl, rfl, rfl⟩, fun b hb => ?_, q⟩
    have e : b = s1.heap.objs.size := by simpa using hb
    subst e
    exact I1.fpOk (Nat.le_refl _) (I1.hok.fresh (Nat.le_refl _))
  · subst e
    cases r1
    obtain ⟨its, rv, p, hz⟩ := I1.tuple hq
    refine wpAny_pyIter_tuple (show s1.heap.IsTuple a its.toArray from p) ?_
    refine ⟨s1.heap.objs.size, [s1.heap.objs.size], _, _, H1, rfl, I1.kept (t' := s1.toks) fun b o e => Heap.get?_push_of_some _ e, turn_tuple a _, ⟨_, Heap.get?_push_size _ rfl, rfl, rfl⟩, fun b hb => ?_, q⟩
    have e : b = s1.heap.objs.size := by simpa using hb
    subst e
    exact I1.fpOk (Nat.le_refl _) (I1.hok.fresh (Nat.le_refl _))
  · subst e
    obtain ⟨t, rfl⟩ := r1
    cases ha : z.cps.all (· < 128)
    · exact wpAny_pyIter_wide ha (pi_one (tk := s1.toks) I1 _ (turn_str _ z t "str_iterator" (.inr rfl)) ⟨_, Heap.get?_push_size _ rfl, rfl, rfl⟩ q)
    · exact wpAny_pyIter_ascii ha (pi_one (tk := s1.toks) I1 _ (turn_str _ z t "str_ascii_iterator" (.inl rfl)) ⟨_, Heap.get?_push_size _ rfl, rfl, rfl⟩ q)
/-- a list in sight stays in sight -/
structure LRep (K : PySem.W.Frag) (F : Hp) (ι : List Addr) (a : Addr) (ns : List Nat) (m0 : Mem) (ds : List D) : Prop where
  at' : ∀ F' ι' m' H', Gr F ι F' ι' → SimM K F' ι' m' H' → (∀ n ∈ ns, m'[n]? = m0[n]?) → ∃ vs, SqL K H' a vs ∧ Reps K F' ι' ds vs
theorem itL_rep (s : SimM K F ι m H) {d : D} {v : V} {p : List D × List Nat} (r : Rep K F ι d v) (h : itL m d = some p) : ∃ a, v = .ref a ∧ (∃ xs, SqL K H a xs) ∧ LRep K F ι a p.2 m p.1 := by
  cases d with
  | lst ds =>
    have e : (ds, []) = p := Option.some.inj h
    subst e
    obtain ⟨a, vs, rfl, q, rs⟩ := r.lstE
    exact ⟨a, rfl, ⟨vs, SqL.of (s.sub _ _ q)⟩, ⟨fun F' ι' m' H' x s' _ => ⟨vs, SqL.of (s'.sub _ _ (x.f _ _ q)), rs.gr x⟩⟩⟩
  | scr ds =>
    have e : (ds, []) = p := Option.some.inj h
    subst e
    obtain ⟨a, vs, rfl, q, rs⟩ := r.scrE
    exact ⟨a, rfl, ⟨vs, SqL.sub q s⟩, ⟨fun F' ι' m' H' x s' _ => ⟨vs, SqL.sub (SqL.mono q x.f) s', rs.gr x⟩⟩⟩
  | ref n =>
    unfold itL at h
    obtain ⟨a, rfl, q⟩ := r.refE
    simp only at h
    cases z : m[n]? with
    | none => rw [z] at h; cases h
    | some cc =>
      rw [z] at h
      cases cc with
      | lst ds =>
        cases h
        obtain ⟨o, h2, vs, rfl, rs⟩ := s.at q z
        refine ⟨a, rfl, ⟨vs, SqL.of h2⟩, ⟨fun F' ι' m' H' x s' hn => ?_⟩⟩
        obtain ⟨o', h3, vs', rfl, rs'⟩ := s'.at (x.ι _ _ q) ((hn n (by simp)).trans z)
        exact ⟨vs', SqL.of h3, rs'⟩
      | dct _ _ => cases h
      | ins _ _ => cases h
  | _ => cases h
theorem Reps.getS {ds : List D} {vs : List V} {i : Nat} {d : D} {x : V} (r : Reps K F ι ds vs) (h : ds[i]? = some d) (hx : vs[i]? = some x) : Rep K F ι d x := by
  obtain ⟨v, h1, h2⟩ := r.get h
  rw [hx] at h1
  cases h1
  exact h2
theorem LRep.j {p : Addr} {ns : List Nat} {ds : List D} (l : LRep K F ι p ns m ds) : JRep K F ι (Itl K p) ns m ds where
  stop := fun F' ι' m' H' x s hn => by
    obtain ⟨vs, q, rs⟩ := l.at' _ _ _ _ x s hn
    exact ⟨vs, q, Nat.le_of_eq rs.length⟩
  go := fun F' ι' m' H' x s hn i d hd => by
    obtain ⟨vs, q, rs⟩ := l.at' _ _ _ _ x s hn
    obtain ⟨v, hv, _⟩ := rs.get hd
    refine ⟨⟨vs, v, q, hv⟩, fun y H'' hy => ?_⟩
    obtain ⟨rfl, hy⟩ := hy
    exact ⟨F', Ext.refl _ _ _, s, rs.getS hd (hy vs q)⟩
theorem its_rep (z : Str) : JRep K F ι (Its z) [] m (z.cps.toList.map fun c => .str ⟨#[c]⟩) where
  stop := fun _ _ _ _ _ _ _ => by
    show z.cps.size ≤ _
    simp
  go := fun F' ι' m' H' x s hn i d hd => by
    rw [List.getElem?_map] at hd
    obtain ⟨c, h1, rfl⟩ := Option.map_eq_some_iff.mp hd
    have h1 : z.cps[i]? = some c := by simpa using h1
    have hi : i < z.cps.size := by
      by_cases q : i < z.cps.size
      · exact q
      · rw [Array.getElem?_eq_none (by omega)] at h1; cases h1
    refine ⟨hi, fun y H'' hy => ?_⟩
    obtain ⟨rfl, c', h2, rfl⟩ := hy
    rw [h1] at h2
    cases h2
    exact ⟨F', Ext.refl _ _ _, s, Rep.strI⟩
theorem itOf_rep (s : SimM K F ι m H) {d : D} {v : V} {p : List D × List Nat} (r : Rep K F ι d v) (h : itOf m d = some p) :
    (∃ a, v = .ref a ∧ (((∃ xs, SqL K H a xs) ∧ JRep K F ι (Itl K a) p.2 m p.1) ∨ ((∃ xs, SqT K H a xs) ∧ JRep K F ι (Itt K a) p.2 m p.1))) ∨ ∃ z, v = .str z ∧ JRep K F ι (Its z) p.2 m p.1 := by
  have lst : itL m d = some p → (∃ a, v = .ref a ∧ (((∃ xs, SqL K H a xs) ∧ JRep K F ι (Itl K a) p.2 m p.1) ∨ ((∃ xs, SqT K H a xs) ∧ JRep K F ι (Itt K a) p.2 m p.1))) ∨ ∃ z, v = .str z ∧ JRep K F ι (Its z) p.2 m p.1 := fun h => by
    obtain ⟨a, e, q, l⟩ := itL_rep s r h
    exact .inl ⟨a, e, .inl ⟨q, l.j⟩⟩
  cases d with
  | tup ds =>
    have e : (ds, []) = p := Option.some.inj h
    subst e
    obtain ⟨a, vs, rfl, q, rs⟩ := r.tupE
    refine .inl ⟨a, rfl, .inr ⟨⟨vs, SqT.sub q s⟩, ⟨fun F' ι' m' H' x s' _ => ⟨vs, SqT.sub (SqT.mono q x.f) s', Nat.le_of_eq rs.length⟩, fun F' ι' m' H' x s' _ i d hd => ?_⟩⟩⟩
    have q' := SqT.sub (SqT.mono q x.f) s'
    obtain ⟨v, hv, _⟩ := rs.get hd
    refine ⟨⟨vs, v, q', hv⟩, fun y H'' hy => ?_⟩
    obtain ⟨rfl, hy⟩ := hy
    exact ⟨F', Ext.refl _ _ _, s', (rs.gr x).getS hd (hy vs q')⟩
  | str z =>
    have e : (z.cps.toList.map fun c => D.str ⟨#[c]⟩, []) = p := Option.some.inj h
    subst e
    exact .inr ⟨z, r.strE, its_rep z⟩
  | _ => exact lst h
theorem d_val (ha : PE X a (TV X W fa)) : PI X tg a (TJ X W (iVal fa)) := by
  refine pi_weak (pi_any ha) fun σ H R ⟨F, ι, m, en, s, o⟩ => ?_
  unfold tagM iVal at o
  rw [bnd_bnd] at o
  refine Obnd RI.down s o fun x F1 ι1 H1 m1 d s1 r x1 o1 => ?_
  cases z : itOf m1 d with
  | none => simp only [z] at o1; exact False.elim o1
  | some p =>
    simp only [z] at o1
    rcases itOf_rep s1.mem r z with ⟨a, e, ⟨q, j⟩ | ⟨q, j⟩⟩ | ⟨y, e, j⟩
    · exact .inl ⟨a, e, .inl ⟨q, o1.now s1.mem j⟩⟩
    · exact .inl ⟨a, e, .inr ⟨q, o1.now s1.mem j⟩⟩
    · exact .inr ⟨y, e, o1.now s1.mem j⟩
/-! ### range -/
theorem rangeL_len : ∀ (n : Nat) (lo : Int), (rangeL lo n).length = n
  | 0, _ => rfl
  | n + 1, lo => by rw [rangeL, List.length_cons, rangeL_len n]
theorem rangeL_get : ∀ (n : Nat) (lo : Int) (i : Nat) (d : D), (rangeL lo n)[i]? = some d → i < n ∧ d = .int (lo + i)
  | 0, _, _, _, h => by simp [rangeL] at h
  | n + 1, lo, 0, d, h => by
    simp [rangeL] at h
    subst h
    exact ⟨by omega, by simp⟩
  | n + 1, lo, i + 1, d, h => by
    rw [rangeL, List.getElem?_cons_succ] at h
    obtain ⟨h1, rfl⟩ := rangeL_get n _ i d h
    exact ⟨by omega, by congr 1; omega⟩
theorem rng_rep (lo : Int) (n : Nat) : JRep K F ι (Itr lo n) [] m (rangeL lo n) where
  stop := fun _ _ _ _ _ _ _ => by rw [rangeL_len]; exact Nat.le_refl _
  go := fun F' ι' m' H' x s hn i d hd => by
    obtain ⟨h1, rfl⟩ := rangeL_get _ _ _ _ hd
    refine ⟨h1, fun y H'' hy => ?_⟩
    obtain ⟨rfl, rfl⟩ := hy
    exact ⟨F', Ext.refl _ _ _, s, Rep.intI⟩
theorem rngOk_iff {i : Int} (h : rngOk i = true) : -(2 ^ 62) ≤ i ∧ i < 2 ^ 62 := by
  unfold rngOk at h
  rw [Bool.and_eq_true, decide_eq_true_eq, decide_eq_true_eq] at h
  exact h
theorem star1 {es : List Expr} (h : noStar (a :: es) = true) : starEach (a :: es) X.env = (false, eval a X.env) :: starEach es X.env := by
  unfold noStar at h
  rw [List.all_cons, Bool.and_eq_true] at h
  exact unstar_each h.1
theorem noStar_tl {es : List Expr} (h : noStar (a :: es) = true) : noStar es = true := by
  unfold noStar at h ⊢
  rw [List.all_cons, Bool.and_eq_true] at h
  exact h.2
theorem d_rng1 (C : Ctx X c W) {x : Str} {p : Pos} (ex : strEq x "range" = true) (hg : c.gl x = true) (hb : c.bl x = true) (hs : noStar [a] = true) (ha : PE X a (TV X W fa)) : PI X tg (.Call (.Name x p) [a] [] pos) (TJ X W (jRng1 fa)) := by
  cases strEq_eq ex
  refine pi_weak (pi_range1 (C.gl hg) (C.bl _ hb) (pa_cons ha pa_nil (star1 hs)) (star1 hs)) fun σ H R ⟨F, ι, m, en, s, o⟩ => ?_
  unfold tagM jRng1 at o
  rw [bnd_bnd] at o
  refine Obnd RI.down s o fun x F1 ι1 H1 m1 d s1 r x1 o1 => ?_
  cases d with
  | int j =>
    simp only at o1
    cases z : rngOk j with
    | false => simp only [z] at o1; exact False.elim o1
    | true =>
      simp only [z] at o1
      obtain ⟨q1, q2⟩ := rngOk_iff z
      exact ⟨j, by rw [r.intE], q1, q2, o1.now s1.mem (rng_rep 0 _)⟩
  | _ => exact False.elim o1
theorem d_rng2 (C : Ctx X c W) {x : Str} {p : Pos} (ex : strEq x "range" = true) (hg : c.gl x = true) (hb : c.bl x = true) (hs : noStar [a, b] = true) (ha : PE X a (TV X W fa)) (hb' : PE X b (TV X W fb)) : PI X tg (.Call (.Name x p) [a, b] [] pos) (TJ X W (jRng2 fa fb)) := by
  cases strEq_eq ex
  have h1 := star1 (X := X) hs
  have h2 := star1 (X := X) (noStar_tl hs)
  refine pi_weak (pi_range2 (C.gl hg) (C.bl _ hb) (pa_cons ha (pa_cons hb' pa_nil h2) h1) (by rw [h1, h2]; rfl) (by rw [h2]; rfl)) fun σ H R ⟨F, ι, m, en, s, o⟩ => ?_
  unfold tagM jRng2 at o
  rw [bnd_bnd] at o
  simp only [bnd_bnd] at o
  refine Obnd RI.down s o fun x F1 ι1 H1 m1 d s1 r x1 o1 => ?_
  refine Obnd RI.down s1 o1 fun y F2 ι2 H2 m2 d2 s2 r2 x2 o2 => ?_
  cases d with
  | int i =>
    cases d2 with
    | int j =>
      simp only at o2
      cases z : rngOk i && rngOk j with
      | false => simp only [z] at o2; exact False.elim o2
      | true =>
        simp only [z] at o2
        rw [Bool.and_eq_true] at z
        obtain ⟨q1, q2⟩ := rngOk_iff z.1
        obtain ⟨q3, q4⟩ := rngOk_iff z.2
        exact ⟨i, j, by rw [Rep.intE r, Rep.intE r2], ⟨q1, q2, q3, q4⟩, o2.now s2.mem (rng_rep i _)⟩
    | _ => exact False.elim o2
  | _ => exact False.elim o2
/-! ### pairs -/
theorem pair_rep (s : SimM K F ι m H) {d1 d2 : D} {x y : V} {p : Addr} (hp : H p = none) (r1 : Rep K F ι d1 x) (r2 : Rep K F ι d2 y) (n : nmT [d1, d2] = false) :
    ∃ F'', Ext F ι H F'' ι (upd H p (.tup [x, y])) ∧ SimM K F'' ι m (upd H p (.tup [x, y])) ∧ Rep K F'' ι (.tup [d1, d2]) (.ref p) :=
  ⟨_, Ext.laid s hp, s.laid hp, Rep.tupI upd_same n ((Reps.cons r1 (Reps.one r2)).mono (Ext.laid s hp (o := .tup [x, y])).f fun _ _ z => z)⟩
theorem zipL_get : ∀ {xs ys : List D} {i : Nat} {d : D}, zipOk xs ys = true → (zipL xs ys)[i]? = some d → ∃ x y, xs[i]? = some x ∧ ys[i]? = some y ∧ d = .tup [x, y] ∧ nmT [x, y] = false
  | [], _, _, _, _, h => by simp [zipL] at h
  | _ :: _, [], _, _, _, h => by simp [zipL] at h
  | x :: xs, y :: ys, 0, d, ok, h => by
    simp [zipL] at h
    subst h
    refine ⟨x, y, rfl, rfl, rfl, ?_⟩
    cases x <;> cases y <;> simp [nmT, zipOk] at ok ⊢
  | x :: xs, y :: ys, i + 1, d, ok, h => by
    rw [zipL, List.getElem?_cons_succ] at h
    have ok' : zipOk xs ys = true := by
      cases x <;> cases y <;> simpa [zipOk] using ok
    simpa using zipL_get ok' h
theorem zipL_len : ∀ (xs ys : List D), (zipL xs ys).length = min xs.length ys.length
  | [], ys => by simp [zipL]
  | _ :: _, [] => by simp [zipL]
  | x :: xs, y :: ys => by simp [zipL, zipL_len xs ys]
theorem zip_rep {p q : Addr} {n1 n2 : List Nat} {xs ys : List D} (l : LRep K F ι p n1 m xs) (k : LRep K F ι q n2 m ys) (ok : zipOk xs ys = true) : JRep K F ι (Itz K p q) (n1 ++ n2) m (zipL xs ys) where
  stop := fun F' ι' m' H' x s hn => by
    obtain ⟨vs, h1, rs⟩ := l.at' _ _ _ _ x s fun n h => hn n (List.mem_append_left _ h)
    obtain ⟨ws, h2, rs2⟩ := k.at' _ _ _ _ x s fun n h => hn n (List.mem_append_right _ h)
    refine ⟨vs, ws, h1, h2, ?_⟩
    rw [zipL_len, rs.length, rs2.length]
    omega
  go := fun F' ι' m' H' x s hn i d hd => by
    obtain ⟨vs, h1, rs⟩ := l.at' _ _ _ _ x s fun n h => hn n (List.mem_append_left _ h)
    obtain ⟨ws, h2, rs2⟩ := k.at' _ _ _ _ x s fun n h => hn n (List.mem_append_right _ h)
    obtain ⟨d1, d2, e1, e2, rfl, hnm⟩ := zipL_get ok hd
    obtain ⟨v, hv, _⟩ := rs.get e1
    obtain ⟨w, hw, _⟩ := rs2.get e2
    refine ⟨⟨vs, ws, v, w, h1, h2, hv, hw⟩, fun y H'' hy => ?_⟩
    obtain ⟨t, x1, x2, rfl, ht, rfl, g1, g2⟩ := hy
    exact pair_rep s ht (rs.getS e1 (g1 vs h1)) (rs2.getS e2 (g2 ws h2)) hnm
theorem d_zip (C : Ctx X c W) {x : Str} {p tpos : Pos} {elts : List Expr} {kk : Nat} (ex : strEq x "zip" = true) (hg : c.gl x = true) (hb : c.bl x = true) (hs : noStar [a, b] = true) (ha : PE X a (TV X W fa)) (hb' : PE X b (TV X W fb)) :
    PI X (.Tuple elts kk tpos) (.Call (.Name x p) [a, b] [] pos) (TJ X W (jZip fa fb)) := by
  cases strEq_eq ex
  have h1 := star1 (X := X) hs
  have h2 := star1 (X := X) (noStar_tl hs)
  refine pi_weak (RZ.pi_zipA (C.gl hg) (C.bl _ hb) (pa_cons ha (pa_cons hb' pa_nil h2) h1) h1 (star_any (noStar_tl hs))) fun σ H R ⟨F, ι, m, en, s, o⟩ => ?_
  unfold tagM jZip at o
  rw [bnd_bnd] at o
  simp only [bnd_bnd] at o
  refine Obnd RI.down s o fun x F1 ι1 H1 m1 d s1 r x1 o1 => ?_
  refine Obnd RI.down s1 o1 fun y F2 ι2 H2 m2 d2 s2 r2 x2 o2 => ?_
  replace r := Rep.ext r x2
  have main : ∀ {p q}, itL m2 d = some p → itL m2 d2 = some q → zipOk p.1 q.1 = true → Out X.K W (RI X.K) F2 ι2 σ H2 (.ok ((zipL p.1 q.1, p.2 ++ q.2), m2) m2) R →
      ∃ a b xs ys, [x, y] = [.ref a, .ref b] ∧ ((SqL X.K H2 a xs ∧ SqL X.K H2 b ys ∧ R (Itz X.K a b) H2) ∨ (SqT X.K H2 a xs ∧ SqT X.K H2 b ys ∧ R (RZ.ItzT X.K a b) H2)) := fun {p q} e1 e2 ok o3 => by
    obtain ⟨a, ea, ⟨xs, ha⟩, la⟩ := itL_rep s2.mem r e1
    obtain ⟨b, eb, ⟨ys, hb⟩, lb⟩ := itL_rep s2.mem r2 e2
    exact ⟨a, b, xs, ys, by rw [ea, eb], .inl ⟨ha, hb, o3.now s2.mem (zip_rep la lb ok)⟩⟩
  split at o2
  · rename_i xs ys
    cases ok : zipOk xs ys with
    | false => simp only [ok] at o2; exact False.elim o2
    | true =>
      simp only [ok] at o2
      obtain ⟨a, vs, rfl, q1, rs1⟩ := r.tupE
      obtain ⟨b, ws, rfl, q2, rs2⟩ := r2.tupE
      refine ⟨a, b, vs, ws, rfl, .inr ⟨SqT.sub q1 s2.mem, SqT.sub q2 s2.mem, o2.now s2.mem ⟨fun F' ι' m' H' x s _ => ?_, fun F' ι' m' H' x s _ i d hd => ?_⟩⟩⟩
      · refine ⟨vs, ws, SqT.sub (SqT.mono q1 x.f) s, SqT.sub (SqT.mono q2 x.f) s, ?_⟩
        show vs.length ≤ (zipL xs ys).length ∨ ws.length ≤ (zipL xs ys).length
        rw [zipL_len, rs1.length, rs2.length]
        omega
      · obtain ⟨d1, d2, e1, e2, rfl, hnm⟩ := zipL_get ok hd
        have g1 := SqT.sub (SqT.mono q1 x.f) s
        have g2 := SqT.sub (SqT.mono q2 x.f) s
        obtain ⟨v, hv, _⟩ := rs1.get e1
        obtain ⟨w, hw, _⟩ := rs2.get e2
        refine ⟨⟨vs, ws, v, w, g1, g2, hv, hw⟩, fun y H'' hy => ?_⟩
        obtain ⟨t, x1, x2, rfl, ht, rfl, k1, k2⟩ := hy
        exact pair_rep s ht ((rs1.gr x).getS e1 (k1 vs g1)) ((rs2.gr x).getS e2 (k2 ws g2)) hnm
  · cases e1 : itL m2 d with
    | none => simp only [e1] at o2; exact False.elim o2
    | some p =>
      cases e2 : itL m2 d2 with
      | none => simp only [e1, e2] at o2; exact False.elim o2
      | some q =>
        simp only [e1, e2] at o2
        cases ok : zipOk p.1 q.1 with
        | false => simp only [ok] at o2; exact False.elim o2
        | true =>
          simp only [ok] at o2
          exact main e1 e2 ok o2
theorem enumL_len : ∀ (n : Nat) (xs : List D), (enumL n xs).length = xs.length
  | _, [] => rfl
  | n, _ :: xs => by rw [enumL, List.length_cons, enumL_len, List.length_cons]
theorem enumL_get : ∀ {n : Nat} {xs : List D} {i : Nat} {d : D}, (enumL n xs)[i]? = some d → ∃ x, xs[i]? = some x ∧ d = .tup [.int ((n + i : Nat) : Int), x]
  | _, [], _, _, h => by simp [enumL] at h
  | n, x :: xs, 0, d, h => by
    simp [enumL] at h
    subst h
    exact ⟨x, rfl, by simp⟩
  | n, x :: xs, i + 1, d, h => by
    rw [enumL, List.getElem?_cons_succ] at h
    obtain ⟨y, h1, rfl⟩ := enumL_get h
    exact ⟨y, by simpa using h1, by rw [show n + 1 + i = n + (i + 1) by omega]⟩
theorem d_enum (C : Ctx X c W) {x : Str} {p tpos : Pos} {elts : List Expr} {kk : Nat} (ex : strEq x "enumerate" = true) (hg : c.gl x = true) (hb : c.bl x = true) (hs : noStar [a] = true) (ha : PE X a (TV X W fa)) :
    PI X (.Tuple elts kk tpos) (.Call (.Name x p) [a] [] pos) (TJ X W (jEnum fa)) := by
  cases strEq_eq ex
  refine pi_weak (pi_enum (C.gl hg) (C.bl _ hb) (pa_cons ha pa_nil (star1 hs)) (star1 hs)) fun σ H R ⟨F, ι, m, en, s, o⟩ => ?_
  unfold tagM jEnum at o
  rw [bnd_bnd] at o
  refine Obnd RI.down s o fun x F1 ι1 H1 m1 d s1 r x1 o1 => ?_
  cases z : itL m1 d with
  | none => simp only [z] at o1; exact False.elim o1
  | some p =>
    simp only [z] at o1
    obtain ⟨a, rfl, ⟨xs, hq⟩, l⟩ := itL_rep s1.mem r z
    refine ⟨a, xs, rfl, hq, o1.now s1.mem ⟨fun F' ι' m' H' x s hn => ?_, fun F' ι' m' H' x s hn i d hd => ?_⟩⟩
    · obtain ⟨vs, h1, rs⟩ := l.at' _ _ _ _ x s hn
      exact ⟨vs, h1, by rw [enumL_len]; exact Nat.le_of_eq rs.length⟩
    · obtain ⟨vs, h1, rs⟩ := l.at' _ _ _ _ x s hn
      obtain ⟨d1, e1, rfl⟩ := enumL_get hd
      obtain ⟨v, hv, _⟩ := rs.get e1
      refine ⟨⟨vs, v, h1, hv⟩, fun y H'' hy => ?_⟩
      obtain ⟨t, x1, rfl, ht, rfl, k1⟩ := hy
      have := pair_rep s ht (Rep.intI (i := ((0 + i : Nat) : Int))) (rs.getS e1 (k1 vs h1)) rfl
      simpa using this
end
end Cs

/-! List comprehensions. -/
namespace Cs
open PySem L2 PySem.Spec
section
variable {X : Cx} {c : SC} {W : EW} {a b e tg : Expr} {fa fb f : FE} {pos : Pos} {K : PySem.W.Frag} {F F1 : Hp} {ι ι1 : List Addr} {H H1 : Hp} {m m1 : Mem} {σ : L2.St}
theorem Ctx.blk {W' : EW} (C : Ctx X c W) (s : Shared) (H : Hp) (scope : Scope) (Cc : Addr) (cl : List (Str × Addr)) (fp : List Addr) : Ctx (X.blk s H scope (compEnvC scope cl Cc X.env) fp) (inner c scope) W' where
  N := C.N
  nd := C.nd
  sc := by
    show relabel scope X.env = relS scope c.sc
    rw [← C.sc]
    rfl
  calm := C.calm
  room := C.room
  glob := C.glob
  bl := C.bl
  wr := fun x h => by
    have h : (match lkp x scope.names with
      | some .local => true
      | some .cell => true
      | _ => false) = true := h
    have sc : (compEnvC scope cl Cc X.env).scope = relS scope c.sc := by
      show relabel scope X.env = relS scope c.sc
      rw [← C.sc]
      rfl
    have keep : ∀ {k : NameKind}, k ≠ .free → scope.names.lookup x = some k → (compEnvC scope cl Cc X.env).scope.names.lookup x = some k := fun {k} hk hl => by
      rw [sc]
      exact lookup_relS_keep hk hl
    rw [lkp_lookup] at h
    split at h
    · rename_i q
      have := keep (by decide) q
      exact ⟨.inl this, .inr this⟩
    · rename_i q
      have := keep (by decide) q
      refine ⟨.inr this, .inl ?_⟩
      show (scope.names.lookup x == some .cell) = true
      rw [q]; rfl
    · cases h
  pass := PassesOwn.never
/-- the iterator first, then the rest -/
theorem Oit {γ δ : Type} {R' : AR γ δ} {fi : FI} {g : (List D × List Nat) → Mem → Res γ} {Q : δ → Hp → Prop} {P : It → Hp → Prop} {en : Sto} (hR' : Down R') (s : Sim K F ι en m σ H)
    (o : Out K W R' F ι σ H (bnd (fi en m) g) Q)
    (k : ∀ J F1 ι1 H1 m1 p, Sim K F1 ι1 en m1 σ H1 → JRep K F1 ι1 J p.2 m1 p.1 → Ext F ι H F1 ι1 H1 → Out K W R' F1 ι1 σ H1 (g p m1) Q → P J H1) : T K W (RI K) (tagM fi) σ H P := by
  refine ⟨F, ι, m, en, s, ?_⟩
  unfold tagM
  cases q : fi en m with
  | ok p m1 =>
    rw [q] at o
    exact fun J F' ι' H' x sm r => k J F' ι' H' m1 p (s.ext x sm) r x (o.shift x hR')
  | exc y m1 =>
    rw [q] at o
    exact o
  | bad =>
    rw [q] at o
    exact o
/-- the list that is being made -/
structure DS (K : PySem.W.Frag) (A : Addr) (F : Hp) (ι : List Addr) (H : Hp) (acc : List D) (vs : List V) : Prop where
  h : H A = some (.lst vs)
  f : F A = none
  i : A ∉ ι
  r : Reps K F ι acc vs
theorem DS.ext {A : Addr} {acc : List D} {vs : List V} (d : DS K A F ι H acc vs) (x : Ext F ι H F1 ι1 H1) : DS K A F1 ι1 H1 acc vs where
  h := x.k _ _ d.i d.h
  f := by
    cases q : F1 A with
    | none => rfl
    | some o =>
      rcases x.n A (by rw [q]; exact fun z => nomatch z) with z | z
      · exact absurd d.f z
      · rw [d.h] at z; cases z
  i := fun q => by
    obtain ⟨new, e, h⟩ := x.i
    rw [e] at q
    rcases List.mem_append.mp q with q | q
    · exact d.i q
    · have := h A q
      rw [d.h] at this; cases this
  r := d.r.ext x
theorem SimM.put' (s : SimM K F ι m H) {A : Addr} {o : HO} (hF : F A = none) (hi : A ∉ ι) : SimM K F ι m (upd H A o) := by
  refine ⟨fun a u q => ?_, s.len, s.nd, fun n a c e1 e2 => ?_⟩
  · have z : a ≠ A := fun z => by subst z; rw [hF] at q; cases q
    rw [upd_ne z]; exact s.sub a u q
  · obtain ⟨h3, u, h4, r⟩ := s.cell n a c e1 e2
    have z : a ≠ A := fun z => hi (z ▸ List.mem_of_getElem? e1)
    exact ⟨h3, u, by rw [upd_ne z]; exact h4, r⟩
theorem Ext.put' {A : Addr} {o o' : HO} (x : Ext F ι H F1 ι1 H1) (hn : H A = none) (hA : H1 A = some o') : Ext F ι H F1 ι1 (upd H1 A o) where
  f := x.f
  n := x.n
  i := x.i
  k := fun a u hi q => by
    rw [upd_ne (fun z => by subst z; rw [hn] at q; cases q)]
    exact x.k a u hi q
  t := fun a q => by
    by_cases z : a = A
    · subst z; rw [upd_same] at q; cases q
    · rw [upd_ne z] at q; exact x.t a q
theorem DS.push {A : Addr} {acc : List D} {vs : List V} (d : DS K A F ι H acc vs) {y : D} {v : V} (r : Rep K F ι y v) : DS K A F ι (upd H A (.lst (vs ++ [v]))) (acc ++ [y]) (vs ++ [v]) :=
  ⟨upd_same, d.f, d.i, d.r.append (Reps.one r)⟩
section
variable {t : Tgt} {ft : FB} {fe : FE} {own : List Nat} {en : Sto} {A : Addr}
theorem lcGo_cons {ns : List Nat} {m0 : Mem} {d : D} {r : List D} {vs : List D} {mE : Mem} (h : lcGo t ft fe en ns m0 (d :: r) m = .ok vs mE) :
    ∃ e', bindT t d en = some e' ∧ ((∃ m1 v m2 ws, ft e' m = .ok true m1 ∧ fe e' m1 = .ok v m2 ∧ same ns m0 m2 = true ∧ lcGo t ft fe en ns m0 r m2 = .ok ws mE ∧ vs = v :: ws) ∨
      ∃ m1, ft e' m = .ok false m1 ∧ same ns m0 m1 = true ∧ lcGo t ft fe en ns m0 r m1 = .ok vs mE) := by
  unfold lcGo at h
  cases q : bindT t d en with
  | none => simp only [q] at h; cases h
  | some e' =>
    simp only [q] at h
    refine ⟨e', rfl, ?_⟩
    cases q1 : ft e' m with
    | ok b m1 =>
      simp only [q1] at h
      cases b with
      | true =>
        simp only at h
        cases q2 : fe e' m1 with
        | ok v m2 =>
          simp only [q2] at h
          cases q3 : same ns m0 m2 with
          | false => simp only [q3] at h; cases h
          | true =>
            simp only [q3, if_true] at h
            cases q4 : lcGo t ft fe en ns m0 r m2 with
            | ok ws m3 =>
              simp only [q4] at h
              cases h
              exact .inl ⟨m1, v, m2, ws, rfl, q2, q3, q4, rfl⟩
            | exc _ _ => simp only [q4] at h; cases h
            | bad => simp only [q4] at h; cases h
        | exc _ _ => simp only [q2] at h; cases h
        | bad => simp only [q2] at h; cases h
      | false =>
        simp only at h
        cases q3 : same ns m0 m1 with
        | false => simp only [q3] at h; cases h
        | true =>
          simp only [q3, if_true] at h
          exact .inr ⟨m1, rfl, q3, h⟩
    | exc _ _ => simp only [q1] at h; cases h
    | bad => simp only [q1] at h; cases h
theorem str_eq {x y : Str} (h : (x.cps.toList == y.cps.toList) = true) : x = y := strEq_eq h
mutual
theorem beqD_eq : ∀ {a b : D}, beqD a b = true → a = b
  | .non, b, h => by cases b <;> simp [beqD] at h <;> rfl
  | .bl _, b, h => by cases b <;> simp [beqD] at h <;> rw [h]
  | .int _, b, h => by cases b <;> simp [beqD] at h <;> rw [h]
  | .str x, b, h => by
    cases b with
    | str y => rw [str_eq (x := x) (y := y) (by simpa only [beqD] using h)]
    | _ => simp [beqD] at h
  | .tup xs, b, h => by
    cases b with
    | tup ys => rw [beqL_eq (a := xs) (b := ys) (by simpa only [beqD] using h)]
    | _ => simp [beqD] at h
  | .lst xs, b, h => by
    cases b with
    | lst ys => rw [beqL_eq (a := xs) (b := ys) (by simpa only [beqD] using h)]
    | _ => simp [beqD] at h
  | .scr xs, b, h => by
    cases b with
    | scr ys => rw [beqL_eq (a := xs) (b := ys) (by simpa only [beqD] using h)]
    | _ => simp [beqD] at h
  | .dct ks vs, b, h => by
    cases b with
    | dct ks' vs' =>
      simp only [beqD, Bool.and_eq_true] at h
      rw [beqL_eq h.1, beqL_eq h.2]
    | _ => simp [beqD] at h
  | .ref n, b, h => by cases b <;> simp [beqD] at h <;> rw [h]
theorem beqL_eq : ∀ {a b : List D}, beqL a b = true → a = b
  | [], [], _ => rfl
  | [], _ :: _, h => by simp [beqL] at h
  | _ :: _, [], h => by simp [beqL] at h
  | x :: xs, y :: ys, h => by
    simp only [beqL, Bool.and_eq_true] at h
    rw [beqD_eq h.1, beqL_eq h.2]
end
theorem beqF_eq : ∀ {a b : List (Str × D)}, beqF a b = true → a = b
  | [], [], _ => rfl
  | [], _ :: _, h => by simp [beqF] at h
  | _ :: _, [], h => by simp [beqF] at h
  | (x, d) :: xs, (y, d') :: ys, h => by
    simp only [beqF, Bool.and_eq_true] at h
    rw [str_eq h.1.1, beqD_eq h.1.2, beqF_eq h.2]
theorem beqC_eq {a b : Cell} (h : beqC a b = true) : a = b := by
  cases a with
  | lst xs =>
    cases b with
    | lst ys => rw [beqL_eq (a := xs) (b := ys) (by simpa only [beqC] using h)]
    | _ => simp [beqC] at h
  | dct ks vs =>
    cases b with
    | dct ks' vs' =>
      simp only [beqC, Bool.and_eq_true] at h
      rw [beqL_eq h.1, beqL_eq h.2]
    | _ => simp [beqC] at h
  | ins c fs =>
    cases b with
    | ins c' fs' =>
      simp only [beqC, Bool.and_eq_true] at h
      rw [str_eq h.1, beqF_eq h.2]
    | _ => simp [beqC] at h
theorem same_iff {ns : List Nat} {m m' : Mem} (h : same ns m m' = true) : ∀ n ∈ ns, m'[n]? = m[n]? := by
  unfold same at h
  rw [List.all_eq_true] at h
  intro n hn
  have := h n hn
  cases h1 : m'[n]? with
  | none =>
    cases h2 : m[n]? with
    | none => rfl
    | some c => rw [h1, h2] at this; cases this
  | some c =>
    cases h2 : m[n]? with
    | none => rw [h1, h2] at this; cases this
    | some c' => rw [h1, h2] at this; rw [beqC_eq this]
theorem drop_cons {α : Type} {l : List α} {i : Nat} {a : α} (h : l[i]? = some a) : l.drop i = a :: l.drop (i + 1) := by
  have hi : i < l.length := by
    by_cases q : i < l.length
    · exact q
    · rw [List.getElem?_eq_none (by omega)] at h; cases h
  rw [List.drop_eq_getElem_cons hi]
  rw [List.getElem?_eq_getElem hi] at h
  cases h
  rfl
/-- the target and the test of a turn -/
theorem turn_test {d : D} {x : V} {e' : Sto} {P : St → Bool → Hp → Prop} {b : Bool} {m2 : Mem} {own : List Nat} (s : Sim K F ι (Cs.wipe en own) m (L2.wipe σ own) H) (r : Rep K F ι d x) (hb : bindT t d (Cs.wipe en own) = some e') (hs : ∀ i ∈ slotsT t, i ∈ own)
    (ht : ft e' m = .ok b m2) (k : ∀ σ2 F3 ι3 H3, Sim K F3 ι3 e' m2 σ2 H3 → Ext F ι H F3 ι3 H3 → P σ2 b H3) :
    gT K t x (L2.wipe σ own) H fun σ2 H2 => L2.wipe σ2 own = L2.wipe σ own ∧ T K W RB ft σ2 H2 (P σ2) := by
  refine ⟨F, ι, m, _, d, e', s, r, hb, fun σ' s' off => ⟨off.wipe hs, F, ι, m, e', s', ?_⟩⟩
  rw [ht]
  intro b' F' ι' H' x sm eb
  cases (show b = b' from eb)
  exact k _ _ _ _ (s'.ext x sm) x

/-- the loop of one clause, onto a list that stands; Q is reached at its end -/
theorem lc_loop {ns : List Nat} {ds acc0 rest0 : List D} {vs0 : List V} {mE : Mem} {J : It} {Q : Hp → Prop} {F0 : Hp} {ι0 : List Addr} {H0 : Hp} (hs : ∀ i ∈ slotsT t, i ∈ own) (j : JRep K F1 ι1 J ns m1 ds) (sf : Sim K F1 ι1 en m1 σ H1)
    (x0 : Ext F0 ι0 H0 F1 ι1 H1) (hN : H0 A = none) (d0 : DS K A F1 ι1 H1 acc0 vs0) (hg : lcGo t ft fe (Cs.wipe en own) ns m1 ds m1 = .ok rest0 mE) (hz : acc0.length + rest0.length ≤ sizeLine)
    (fin : ∀ F ι H vs, Ext F0 ι0 H0 F ι H → SimM K F ι mE H → Gr F1 ι1 F ι → DS K A F ι H (acc0 ++ rest0) vs → Q H) :
    ∃ Wi : Nat → Nat → Hp → Prop, (∃ μ, Wi 0 μ H1) ∧ ∀ i μ H, Wi i μ H →
      (J.stop i H ∧ Q H) ∨ (J.go i H ∧ ∃ Nx : Hp → Prop, (∀ H', Nx H' → ∃ μ', μ' < μ ∧ Wi (i + 1) μ' H') ∧ ∀ x H', J.yld i H x H' → gT K t x (L2.wipe σ own) H' fun σ2 H2 => L2.wipe σ2 own = L2.wipe σ own ∧ T K W RB ft σ2 H2 fun b H3 =>
        if b = true then T K W (RV K) fe σ2 H3 fun y H4 => ∃ acc, H4 A = some (.lst acc) ∧ acc.length < sizeLine ∧ Nx (upd H4 A (.lst (acc ++ [y]))) else Nx H3) := by
  let Wi : Nat → Nat → Hp → Prop := fun i μ H => ∃ F ι m acc vs rest, μ = ds.length - i ∧ i ≤ ds.length ∧ SimM K F ι m H ∧ Ext F0 ι0 H0 F ι H ∧ Gr F1 ι1 F ι ∧ DS K A F ι H acc vs ∧ (∀ n ∈ ns, m[n]? = m1[n]?) ∧
    lcGo t ft fe (Cs.wipe en own) ns m1 (ds.drop i) m = .ok rest mE ∧ acc ++ rest = acc0 ++ rest0
  refine ⟨Wi, ⟨ds.length, F1, ι1, m1, acc0, vs0, rest0, by simp, Nat.zero_le _, sf.mem, x0, Gr.refl _ _, d0, fun _ _ => rfl, by simpa using hg, rfl⟩, ?_⟩
  rintro i μ H ⟨F, ι, m, acc, vs, rest, rfl, hi, sm, x1, g1, ds1, hn, hg1, he⟩
  by_cases hlt : i < ds.length
  · have hd : ds[i]? = some ds[i] := List.getElem?_eq_getElem hlt
    rw [drop_cons hd] at hg1
    obtain ⟨e', hb, hc⟩ := lcGo_cons hg1
    obtain ⟨go, yl⟩ := j.go _ _ _ _ g1 sm hn i _ hd
    have hacc : acc.length + rest.length ≤ sizeLine := by
      have := congrArg List.length he
      simp only [List.length_append] at this
      omega
    rcases hc with ⟨m2, v, m3, ws, ht, hf, hsm, hgr, rfl⟩ | ⟨m2, ht, hsm, hgr⟩
    · refine .inr ⟨go, Wi (i + 1) (ds.length - (i + 1)), fun H' h' => ⟨_, by omega, h'⟩, fun x H' hy => ?_⟩
      obtain ⟨F2, x2, s2, r2⟩ := yl x H' hy
      have sw : Sim K F2 ι (Cs.wipe en own) m (L2.wipe σ own) H' := (sf.wipe own).gr (g1.trans x2.gr) s2
      refine turn_test sw r2 hb hs ht fun σ2 F3 ι3 H3 s3 x3 => ?_
      rw [if_pos rfl]
      refine ⟨F3, ι3, m2, e', s3, ?_⟩
      rw [hf]
      intro y F4 ι4 H4 x4 s4 r4
      have d4 := ((ds1.ext x2).ext x3).ext x4
      have hl := ds1.r.length
      refine ⟨vs, d4.h, by simp only [List.length_cons] at hacc; omega, F4, ι4, m3, acc ++ [v], vs ++ [y], ws, rfl, by omega, s4.put' d4.f d4.i, (x1.trans (x2.trans (x3.trans x4))).put' hN d4.h, g1.trans ((x2.trans (x3.trans x4)).gr), d4.push r4, same_iff hsm, hgr, by rw [← he]; simp⟩
    · refine .inr ⟨go, Wi (i + 1) (ds.length - (i + 1)), fun H' h' => ⟨_, by omega, h'⟩, fun x H' hy => ?_⟩
      obtain ⟨F2, x2, s2, r2⟩ := yl x H' hy
      have sw : Sim K F2 ι (Cs.wipe en own) m (L2.wipe σ own) H' := (sf.wipe own).gr (g1.trans x2.gr) s2
      refine turn_test sw r2 hb hs ht fun σ2 F3 ι3 H3 s3 x3 => ?_
      rw [if_neg Bool.false_ne_true]
      exact ⟨F3, ι3, m2, acc, vs, rest, rfl, by omega, s3.mem, x1.trans (x2.trans x3), g1.trans ((x2.trans x3).gr), (ds1.ext x2).ext x3, same_iff hsm, hgr, he⟩
  · have e : i = ds.length := by omega
    subst e
    rw [List.drop_length] at hg1
    have hg1 : (Res.ok ([] : List D) m) = .ok rest mE := hg1
    cases hg1
    refine .inl ⟨j.stop _ _ _ _ g1 sm hn, fin _ _ _ vs x1 sm g1 ?_⟩
    rw [← he, List.append_nil]
    exact ds1
theorem lc_ok {fi : FI} {Q : VK} (hs : ∀ i ∈ slotsT t, i ∈ own) (h : T K W (RN K) (fLc own t fi ft fe) σ H Q) : tLc (T K W (RI K) (tagM fi)) (gT K t) (T K W RB ft) (T K W (RV K) fe) own σ H Q := by
  obtain ⟨F, ι, m, en, s, o⟩ := h
  refine Oit RN.down s o fun J F1 ι1 H1 m1 p s1 j x1 o1 => fun A hA => ?_
  cases q : lcGo t ft fe (Cs.wipe en own) p.2 m1 p.1 m1 with
  | exc _ _ => simp only [q] at o1; exact False.elim o1
  | bad => simp only [q] at o1; exact False.elim o1
  | ok all mE =>
    simp only [q] at o1
    by_cases hz : all.length ≤ sizeLine
    · rw [if_pos hz] at o1
      obtain ⟨hi, hF⟩ := s1.mem.notin hA
      refine lc_loop (F0 := F1) (ι0 := ι1) (H0 := H1) (acc0 := []) (vs0 := []) hs j (s1.ext (Ext.grow hA) (s1.mem.grow hA)) (Ext.grow hA) hA ⟨upd_same, hF, hi, Reps.nil⟩ q (by simpa using hz) fun F2 ι2 H2 vs x2 s2 g2 d2 => ?_
      exact o1.of x2 s2 ⟨A, vs, rfl, hA, d2.f, d2.i, d2.h, by simpa using d2.r⟩
    · rw [if_neg hz] at o1
      exact False.elim o1
theorem lc2Go_cons {inner : Sto → Mem → Res (List D)} {ns : List Nat} {m0 : Mem} {d : D} {r : List D} {vs : List D} {mE : Mem} (h : lc2Go t ft inner en ns m0 (d :: r) m = .ok vs mE) :
    ∃ e', bindT t d en = some e' ∧ ((∃ m1 us m2 ws, ft e' m = .ok true m1 ∧ inner e' m1 = .ok us m2 ∧ same ns m0 m2 = true ∧ lc2Go t ft inner en ns m0 r m2 = .ok ws mE ∧ vs = us ++ ws) ∨
      ∃ m1, ft e' m = .ok false m1 ∧ same ns m0 m1 = true ∧ lc2Go t ft inner en ns m0 r m1 = .ok vs mE) := by
  unfold lc2Go at h
  cases q : bindT t d en with
  | none => simp only [q] at h; cases h
  | some e' =>
    simp only [q] at h
    refine ⟨e', rfl, ?_⟩
    cases q1 : ft e' m with
    | ok b m1 =>
      simp only [q1] at h
      cases b with
      | true =>
        simp only at h
        cases q2 : inner e' m1 with
        | ok v m2 =>
          simp only [q2] at h
          cases q3 : same ns m0 m2 with
          | false => simp only [q3] at h; cases h
          | true =>
            simp only [q3, if_true] at h
            cases q4 : lc2Go t ft inner en ns m0 r m2 with
            | ok ws m3 =>
              simp only [q4] at h
              cases h
              exact .inl ⟨m1, v, m2, ws, rfl, q2, q3, q4, rfl⟩
            | exc _ _ => simp only [q4] at h; cases h
            | bad => simp only [q4] at h; cases h
        | exc _ _ => simp only [q2] at h; cases h
        | bad => simp only [q2] at h; cases h
      | false =>
        simp only at h
        cases q3 : same ns m0 m1 with
        | false => simp only [q3] at h; cases h
        | true =>
          simp only [q3, if_true] at h
          exact .inr ⟨m1, rfl, q3, h⟩
    | exc _ _ => simp only [q1] at h; cases h
    | bad => simp only [q1] at h; cases h
theorem lc2_ok {fi fi1 : FI} {t1 : Tgt} {ft1 : FB} {own1 : List Nat} {Q : VK} (hs : ∀ i ∈ slotsT t, i ∈ own) (hs1 : ∀ i ∈ slotsT t1, i ∈ own1) (h : T K W (RN K) (fLc2 own t fi ft own1 t1 fi1 ft1 fe) σ H Q) :
    tLc2 (T K W (RI K) (tagM fi)) (gT K t) (T K W RB ft) (T K W (RI K) (tagM fi1)) (gT K t1) (T K W RB ft1) (T K W (RV K) fe) own own1 σ H Q := by
  obtain ⟨F, ι, m, en, s, o⟩ := h
  refine Oit RN.down s o fun J F1 ι1 H1 m1 p s1 j x1 o1 => fun A hA => ?_
  cases q : lc2Go t ft (lcIn t1 fi1 ft1 fe own1) (Cs.wipe en own) p.2 m1 p.1 m1 with
  | exc _ _ => simp only [q] at o1; exact False.elim o1
  | bad => simp only [q] at o1; exact False.elim o1
  | ok all mE =>
    simp only [q] at o1
    by_cases hz : all.length ≤ sizeLine
    · rw [if_pos hz] at o1
      obtain ⟨hiA, hFA⟩ := s1.mem.notin hA
      have fin : ∀ F2 ι2 H2 vs, Ext F1 ι1 H1 F2 ι2 H2 → SimM K F2 ι2 mE H2 → DS K A F2 ι2 H2 all vs → Q (.ref A) H2 := fun F2 ι2 H2 vs x2 s2 d2 => o1.of x2 s2 ⟨A, vs, rfl, hA, d2.f, d2.i, d2.h, d2.r⟩
      let Wi : Nat → Nat → Hp → Prop := fun i μ H => ∃ F ι m acc vs rest, μ = p.1.length - i ∧ i ≤ p.1.length ∧ SimM K F ι m H ∧ Ext F1 ι1 H1 F ι H ∧ DS K A F ι H acc vs ∧ (∀ n ∈ p.2, m[n]? = m1[n]?) ∧
        lc2Go t ft (lcIn t1 fi1 ft1 fe own1) (Cs.wipe en own) p.2 m1 (p.1.drop i) m = .ok rest mE ∧ acc ++ rest = all
      refine ⟨Wi, ⟨p.1.length, F1, ι1, m1, [], [], all, by simp, Nat.zero_le _, s1.mem.grow hA, Ext.grow hA, ⟨upd_same, hFA, hiA, Reps.nil⟩, fun _ _ => rfl, by simpa using q, rfl⟩, ?_⟩
      rintro i μ H ⟨F, ι, m, acc, vs, rest, rfl, hi, sm, x1, ds1, hn, hg1, he⟩
      by_cases hlt : i < p.1.length
      · have hd : p.1[i]? = some p.1[i] := List.getElem?_eq_getElem hlt
        rw [drop_cons hd] at hg1
        obtain ⟨e', hb, hc⟩ := lc2Go_cons hg1
        obtain ⟨go, yl⟩ := j.go _ _ _ _ x1.gr sm hn i _ hd
        rcases hc with ⟨m2, us, m3, ws, ht, hf, hsm, hgr, rfl⟩ | ⟨m2, ht, hsm, hgr⟩
        · refine .inr ⟨go, Wi (i + 1) (p.1.length - (i + 1)), fun H' h' => ⟨_, by omega, h'⟩, fun x H' hy => ?_⟩
          obtain ⟨F2, x2, s2, r2⟩ := yl x H' hy
          have sw : Sim K F2 ι (Cs.wipe en own) m (L2.wipe σ own) H' := (s1.wipe own).gr (x1.gr.trans x2.gr) s2
          refine turn_test sw r2 hb hs ht fun σ2 F3 ι3 H3 s3 x3 => ?_
          rw [if_pos rfl]
          refine ⟨F3, ι3, m2, e', s3, ?_⟩
          unfold lcIn at hf
          unfold tagM
          cases z : fi1 e' m2 with
          | exc _ _ => rw [z] at hf; cases hf
          | bad => rw [z] at hf; cases hf
          | ok p1 m4 =>
            rw [z] at hf
            have hf : lcGo t1 ft1 fe (Cs.wipe e' own1) p1.2 m4 p1.1 m4 = .ok us m3 := hf
            intro J1 F4 ι4 H4 x4 s4 j4
            have d4 := ((ds1.ext x2).ext x3).ext x4
            refine lc_loop (F0 := F1) (ι0 := ι1) (H0 := H1) hs1 j4 ((s3.gr x4.gr s4)) (x1.trans (x2.trans (x3.trans x4))) hA d4 hf (by
              have := congrArg List.length he
              simp only [List.length_append] at this
              omega) fun F5 ι5 H5 vs5 x5 s5 g5 d5 => ?_
            exact ⟨F5, ι5, m3, acc ++ us, vs5, ws, rfl, by omega, s5, x5, d5, same_iff hsm, hgr, by rw [← he]; simp⟩
        · refine .inr ⟨go, Wi (i + 1) (p.1.length - (i + 1)), fun H' h' => ⟨_, by omega, h'⟩, fun x H' hy => ?_⟩
          obtain ⟨F2, x2, s2, r2⟩ := yl x H' hy
          have sw : Sim K F2 ι (Cs.wipe en own) m (L2.wipe σ own) H' := (s1.wipe own).gr (x1.gr.trans x2.gr) s2
          refine turn_test sw r2 hb hs ht fun σ2 F3 ι3 H3 s3 x3 => ?_
          rw [if_neg Bool.false_ne_true]
          exact ⟨F3, ι3, m2, acc, vs, rest, rfl, by omega, s3.mem, x1.trans (x2.trans x3), (ds1.ext x2).ext x3, same_iff hsm, hgr, he⟩
      · have e : i = p.1.length := by omega
        subst e
        rw [List.drop_length] at hg1
        have hg1 : (Res.ok ([] : List D) m) = .ok rest mE := hg1
        cases hg1
        refine .inl ⟨j.stop _ _ _ _ x1.gr sm hn, fin _ _ _ vs x1 sm ?_⟩
        rw [← he, List.append_nil]
        exact ds1
    · rw [if_neg hz] at o1
      exact False.elim o1
end
end
end Cs

/-! New cells; comprehensions in place; statements. -/
namespace Cs
open PySem L2 PySem.Spec
section
variable {X : Cx} {c : SC} {W : EW} {a b e tg : Expr} {fa fb f : FE} {pos : Pos} {K : PySem.W.Frag} {F F1 : Hp} {ι ι1 : List Addr} {H H1 : Hp} {m m1 : Mem} {σ : L2.St}
/-! ### new cells -/
theorem SimM.alloc (s : SimM K F ι m H) {p : Addr} {o : HO} {cc : Cell} (hF : F p = none) (hi : p ∉ ι) (hH : H p = some o) (r : RepC K F ι cc o) : SimM K F (ι ++ [p]) (m ++ [cc]) H := by
  have hι : ∀ (n : Nat) a, ι[n]? = some a → (ι ++ [p])[n]? = some a := fun n a q => by
    have : n < ι.length := by
      by_cases z : n < ι.length
      · exact z
      · rw [List.getElem?_eq_none (by omega)] at q; cases q
    rw [List.getElem?_append_left this]; exact q
  refine ⟨s.sub, by rw [List.length_append, List.length_append, s.len]; rfl, ?_, fun n a c e1 e2 => ?_⟩
  · rw [List.nodup_append]
    refine ⟨s.nd, by simp, fun x hx y hy => ?_⟩
    rw [List.mem_singleton.mp hy]
    exact fun z => hi (z ▸ hx)
  · by_cases q : n < ι.length
    · rw [List.getElem?_append_left q] at e1
      rw [List.getElem?_append_left (by rw [← s.len]; exact q)] at e2
      obtain ⟨h3, u, h4, r⟩ := s.cell n a c e1 e2
      exact ⟨h3, u, h4, r.mono (fun _ _ z => z) hι⟩
    · have hn : n = ι.length := by
        have : n < (ι ++ [p]).length := by
          by_cases z : n < (ι ++ [p]).length
          · exact z
          · rw [List.getElem?_eq_none (by omega)] at e1; cases e1
        rw [List.length_append, List.length_singleton] at this
        omega
      subst hn
      rw [List.getElem?_append_right (Nat.le_refl _), Nat.sub_self] at e1
      rw [s.len, List.getElem?_append_right (Nat.le_refl _), Nat.sub_self] at e2
      cases e1
      cases e2
      exact ⟨hF, o, hH, r.mono (fun _ _ z => z) hι⟩
theorem Ext.alloc {p : Addr} (x : Ext F ι H F1 ι1 H1) (hp : H p = none) : Ext F ι H F1 (ι1 ++ [p]) H1 where
  f := x.f
  n := x.n
  i := by
    obtain ⟨new, e, h⟩ := x.i
    refine ⟨new ++ [p], by rw [e, List.append_assoc], fun a ha => ?_⟩
    rcases List.mem_append.mp ha with z | z
    · exact h a z
    · rw [List.mem_singleton.mp z]; exact hp
  k := x.k
  t := x.t
theorem newT {Q : VK} (h : T K W (RV K) (fNew fa) σ H Q) : T K W (RN K) fa σ H Q := by
  obtain ⟨F, ι, m, en, s, o⟩ := h
  refine ⟨F, ι, m, en, s, ?_⟩
  unfold fNew at o
  cases q : fa en m with
  | exc y m1 => rw [q] at o; exact o
  | bad => rw [q] at o; exact o
  | ok d m1 =>
    rw [q] at o
    have o : Out K W (RV K) F ι σ H (match newC d m1 with
      | some p => Res.ok p.1 p.2
      | none => .bad) Q := o
    intro v F1 ι1 H1 x sm r
    cases d with
    | lst ds =>
      obtain ⟨p, vs, rfl, h0, hF, hi, hH, rs⟩ := r
      refine o _ _ (ι1 ++ [p]) _ (x.alloc h0) (sm.alloc hF hi hH ⟨vs, rfl, rs⟩) ?_
      show Rep K F1 (ι1 ++ [p]) (.ref m1.length) (.ref p)
      simp only [Rep]
      exact ⟨p, rfl, by rw [← sm.len, List.getElem?_append_right (Nat.le_refl _), Nat.sub_self]; rfl⟩
    | dct ks ws =>
      obtain ⟨p, u, rfl, h0, hF, hi, hH, rs⟩ := r
      refine o _ _ (ι1 ++ [p]) _ (x.alloc h0) (sm.alloc hF hi hH rs) ?_
      show Rep K F1 (ι1 ++ [p]) (.ref m1.length) (.ref p)
      simp only [Rep]
      exact ⟨p, rfl, by rw [← sm.len, List.getElem?_append_right (Nat.le_refl _), Nat.sub_self]; rfl⟩
    | _ => exact False.elim o

/-! ### statements: what is left behind -/
def OutS (K : PySem.W.Frag) (W : EW) (F : Hp) (ι : List Addr) (H : Hp) (r : SRes) (D : Ends) : Prop :=
  match r with
  | .ok f e m => ∀ F' ι' σ' H', Ext F ι H F' ι' H' → Sim K F' ι' e m σ' H' → match f with
    | .nx => D.nx σ' H'
    | .bk => D.bk σ' H'
    | .ct => D.ct σ' H'
    | .rt d => ∀ v, Rep K F' ι' d v → D.rt v H'
  | .exc x e m => ∀ F' ι' σ' H', Ext F ι H F' ι' H' → Sim K F' ι' e m σ' H' → W x F' ι' m σ' H'
  | .bad => False
def TSm (K : PySem.W.Frag) (W : EW) (f : FS) : TS := fun D σ H => ∃ F ι m e, Sim K F ι e m σ H ∧ OutS K W F ι H (f e m) D
abbrev TQ (X : Cx) (W : EW) (f : FS) : TS := TSm X.K W f
theorem PS.weak {st : Stmt} {t t' : TS} (h : PS X st t) (k : ∀ D σ H, t' D σ H → t D σ H) : PS X st t' := ⟨fun pins s σ H D I q => h.run pins s σ H D I (k D σ H q)⟩
theorem PSs.weak {st : List Stmt} {t t' : TS} (h : PSs X st t) (k : ∀ D σ H, t' D σ H → t D σ H) : PSs X st t' := ⟨fun pins s σ H D I q => h.run pins s σ H D I (k D σ H q)⟩
theorem OutS.shift {r : SRes} {D : Ends} (h : OutS K W F ι H r D) (x : Ext F ι H F1 ι1 H1) : OutS K W F1 ι1 H1 r D := by
  cases r with
  | ok f e m => exact fun F' ι' σ' H' x' s => h F' ι' σ' H' (x.trans x') s
  | exc y e m => exact fun F' ι' σ' H' x' s => h F' ι' σ' H' (x.trans x') s
  | bad => exact h
/-- an expression first, then the rest -/
theorem Sbnd {α β : Type} {R : AR α β} {f : Sto → Mem → Res α} {g : α → Mem → SRes} {en : Sto} {D : Ends} {P : β → Hp → Prop} (s : Sim K F ι en m σ H) (o : OutS K W F ι H (sBd (f en m) en g) D)
    (k : ∀ x F1 ι1 H1 m1 a, Sim K F1 ι1 en m1 σ H1 → R H F1 ι1 H1 a x → Ext F ι H F1 ι1 H1 → OutS K W F1 ι1 H1 (g a m1) D → P x H1) : T K W R f σ H P := by
  refine ⟨F, ι, m, en, s, ?_⟩
  cases q : f en m with
  | ok a m1 =>
    rw [q] at o
    exact fun b F' ι' H' x sm r => k b F' ι' H' m1 a (s.ext x sm) r x (OutS.shift o x)
  | exc y m1 =>
    rw [q] at o
    exact fun F' ι' H' x sm => o F' ι' σ H' x (s.ext x sm)
  | bad =>
    rw [q] at o
    exact o
theorem OutS.now {en : Sto} {D : Ends} (o : OutS K W F ι H (.ok .nx en m) D) (s : Sim K F ι en m σ H) : D.nx σ H := o F ι σ H (Ext.refl _ _ _) s
theorem OutS.of {en : Sto} {D : Ends} (o : OutS K W F ι H (.ok .nx en m) D) (x : Ext F ι H F1 ι1 H1) (s : Sim K F1 ι1 en m σ H1) : D.nx σ H1 := o F1 ι1 σ H1 x s
/-! ### the plain ones -/
theorem q_nx {st : Stmt} (h : PS X st tNext) : PS X st (TQ X W sNx) := PS.weak h fun D σ H ⟨F, ι, m, e, s, o⟩ => o.now s
theorem q_bk : PS X (.Break pos) (TQ X W sBreak) := PS.weak ps_break fun D σ H ⟨F, ι, m, e, s, o⟩ => o F ι σ H (Ext.refl _ _ _) s
theorem q_ct : PS X (.Continue pos) (TQ X W sCont) := PS.weak ps_continue fun D σ H ⟨F, ι, m, e, s, o⟩ => o F ι σ H (Ext.refl _ _ _) s
theorem q_ret (h : PE X e (TV X W f)) : PS X (.Return (some e) pos) (TQ X W (sRet f)) :=
  PS.weak (ps_ret h) fun D σ H ⟨F, ι, m, en, s, o⟩ => Sbnd s o fun x F1 ι1 H1 m1 d s1 r x1 o1 => o1 F1 ι1 σ H1 (Ext.refl _ _ _) s1 x r
theorem q_retN : PS X (.Return none pos) (TQ X W sRetN) := PS.weak ps_retN fun D σ H ⟨F, ι, m, en, s, o⟩ => o F ι σ H (Ext.refl _ _ _) s .non Rep.nonI
theorem q_drop (h : PE X e (TV X W f)) (hs : swapsWith e none pos.line X.env = pure false) : PS X (.Expr e pos) (TQ X W (sDrop f)) :=
  PS.weak (ps_expr h hs) fun D σ H ⟨F, ι, m, en, s, o⟩ => Sbnd s o fun x F1 ι1 H1 m1 d s1 r x1 o1 => o1.now s1
theorem q_if {x y : List Stmt} {ft : FB} {fx fy : FS} (ht : PT X e (T X.K W RB ft)) (hx : PSs X x (TQ X W fx)) (hy : PSs X y (TQ X W fy)) : PS X (.If e x y pos) (TQ X W (sIf ft fx fy)) :=
  PS.weak (ps_if ht hx hy) fun D σ H ⟨F, ι, m, en, s, o⟩ => Sbnd s o fun x F1 ι1 H1 m1 d s1 r x1 o1 => by
    cases (show d = x from r)
    cases x with
    | true => exact ⟨F1, ι1, m1, en, s1, o1⟩
    | false => exact ⟨F1, ι1, m1, en, s1, o1⟩
theorem q_seq {st : Stmt} {r : List Stmt} {fx fy : FS} (hx : PS X st (TQ X W fx)) (hy : PSs X r (TQ X W fy)) : PSs X (st :: r) (TQ X W (sSeq fx fy)) :=
  PSs.weak (pss_cons hx hy) fun D σ H ⟨F, ι, m, en, s, o⟩ => by
    refine ⟨F, ι, m, en, s, ?_⟩
    unfold sSeq at o
    cases q : fx en m with
    | ok fl e1 m1 =>
      rw [q] at o
      intro F' ι' σ' H' x' s'
      cases fl with
      | nx => exact ⟨F', ι', m1, e1, s', OutS.shift o x'⟩
      | bk => exact o F' ι' σ' H' x' s'
      | ct => exact o F' ι' σ' H' x' s'
      | rt d => exact o F' ι' σ' H' x' s'
    | exc y e1 m1 => rw [q] at o; exact o
    | bad => rw [q] at o; exact o
/-! ### names -/
/-- the name is set to the expression -/
def SetOk (X : Cx) (e : Expr) (t : TE) : Prop := ∀ (i : Nat) (x : Str) (p pos : Pos), X.N[i]? = some x → L2.Loc X.env.scope x → (X.fn x = true ∨ X.env.scope.names.lookup x = some .local) → PS X (.Assign [.Name x p] e pos) (tAsg t (gName i))
theorem SetOk.weak {t t' : TE} (h : SetOk X e t) (k : ∀ σ H Q, t' σ H Q → t σ H Q) : SetOk X e t' := fun i x p pos h1 h2 h3 => PS.weak (h i x p pos h1 h2 h3) fun D σ H q => k _ _ _ q
/-- an expression that is no comprehension -/
def noComp : Expr → Bool
  | .ListComp _ _ _ _ => false
  | .SetComp _ _ _ _ => false
  | .DictComp _ _ _ _ _ => false
  | _ => true
theorem sw_no (h : noComp e = true) (t : Option Expr) (l : Nat) : swapsWith e t l X.env = pure false := by
  cases e <;> first | rfl | cases h
theorem SetOk.of {t : TE} (C : Ctx X c W) (h : noComp e = true) (he : PE X e t) : SetOk X e t := fun i x p pos h1 h2 h3 => ps_set C.nd h1 h2 he (sw_no h _ _) h3
theorem q_set (C : Ctx X c W) {x : Str} {i : Nat} {p : Pos} (hi : c.slotW x = some i) (he : SetOk X e (TV X W f)) : PS X (.Assign [.Name x p] e pos) (TQ X W (sSet i f)) := by
  obtain ⟨h1, h2, h3⟩ := C.slotW hi
  exact PS.weak (he i x p pos h1 h2 h3) fun D σ H ⟨F, ι, m, en, s, o⟩ => Sbnd s o fun x F1 ι1 H1 m1 d s1 r x1 o1 => o1.now (s1.set r)
theorem q_asg (C : Ctx X c W) {n : Nat} {t : Tgt} (ht : tgtX c n tg = some t) (he : PE X e (TV X W f)) (hs : swapsWithSole [tg] e pos.line X.env = pure false) (hw : swappedStores [tg] e X.env = pure none) : PS X (.Assign [tg] e pos) (TQ X W (sAsg t f)) := by
  have h1 : (assignEach [tg] X.env).map (·.2) = [assign tg X.env] := by
    have hn : noStar [tg] = true := by
      unfold noStar
      rw [List.all_cons, tgt_no ht]; rfl
    rw [assign_each hn]; rfl
  refine PS.weak (ps_asg he (d_tgt C n tg t ht) hs hw h1) fun D σ H ⟨F, ι, m, en, s, o⟩ => Sbnd s o fun x F1 ι1 H1 m1 d s1 r x1 o1 => ?_
  cases q : bindT t d en with
  | none => simp only [q] at o1; exact False.elim o1
  | some e' =>
    simp only [q] at o1
    exact ⟨F1, ι1, m1, en, d, e', s1, r, q, fun σ' s' _ => o1.now s'⟩
/-! ### items -/
theorem set_put (C : Ctx X c W) : PSet X (fun o i v H Q => ∃ F ι m dO dI dV m', SimM X.K F ι m H ∧ Rep X.K F ι dO o ∧ Rep X.K F ι dI i ∧ Rep X.K F ι dV v ∧ putD dO dI dV m = some m' ∧ ∀ H', Ext F ι H F ι H' → SimM X.K F ι m' H' → Q H') := by
  have hu := C.hu
  intro pins s σ H o i v ov iv u Q I ro ri rv h
  obtain ⟨F, ι, m, dO, dI, dV, m', sm, rO, rI, rV, e, q⟩ := h
  cases dO with
  | ref n =>
    obtain ⟨p, rfl, hp⟩ := rO.refE
    unfold putD at e
    simp only at e
    cases z : m[n]? with
    | none => rw [z] at e; cases e
    | some cc =>
      rw [z] at e
      cases cc with
      | dct ks vs =>
        simp only at e
        cases ok : keyD ks dI && decide (ks.length < sizeLine) with
        | false => simp only [ok] at e; cases e
        | true =>
          simp only [ok] at e
          cases e
          rw [Bool.and_eq_true, decide_eq_true_eq] at ok
          obtain ⟨H0, H1, I0, g, x1, s1⟩ := dput I sm hp z ok.1 ok.2 rI rV
          cases (show ov = Value.ref p from ro)
          exact d_setItem (by omega) I0 g ri rv fun s' I' => ⟨H1, I', q _ x1 s1⟩
      | lst ds =>
        simp only at e
        cases dI with
        | int k =>
          simp only at e
          obtain ⟨j, h1, h2⟩ := Option.map_eq_some_iff.mp e
          subst h2
          obtain ⟨o', h3, vs, rfl, rs⟩ := sm.at hp z
          obtain ⟨x1, s1⟩ := sm.put hp z (.lst (vs.set j v)) (c := .lst (ds.set j dV)) ⟨_, rfl, rs.set j rV⟩
          exact set_list pins s σ H _ i v ov iv u Q I ro ri rv ⟨p, vs, k, j, rfl, rI.intE, h3, by rw [rs.length]; exact h1, q _ x1 s1⟩
        | _ => cases e
      | ins _ _ => cases e
  | _ => cases e
theorem sub_as {o i : Expr} {p : Pos} {env : PySem.Env} (h : plainIx i = true) : ∀ v, assign (.Subscript o i p) env v = (do
      let ov ← holding [v] (eval o env)
      let iv ← holding [v, ov] (eval i env)
      standAt p
      holding [v, ov, iv] (setItem ov iv v)
      release [v, ov, iv] []) := by
  intro v
  cases i <;> first | rfl | cases h
theorem q_put (C : Ctx X c W) {o i : Expr} {fo fi fv : FE} {p : Pos} (h : plainIx i = true) (ho : PE X o (TV X W fo)) (hi : PE X i (TV X W fi)) (he : PE X e (TV X W fv)) (hs : swapsWithSole [.Subscript o i p] e pos.line X.env = pure false)
    (hw : swappedStores [.Subscript o i p] e X.env = pure none) : PS X (.Assign [.Subscript o i p] e pos) (TQ X W (sPut fo fi fv)) := by
  refine PS.weak (ps_asg he (pg_sub ho hi (set_put C) (sub_as h)) hs hw rfl) fun D σ H ⟨F, ι, m, en, s, o⟩ => Sbnd s o fun v F1 ι1 H1 m1 dV s1 r1 x1 o1 => ?_
  refine Sbnd s1 o1 fun ov F2 ι2 H2 m2 dO s2 r2 x2 o2 => ?_
  refine Sbnd s2 o2 fun iv F3 ι3 H3 m3 dI s3 r3 x3 o3 => ?_
  cases q : putD dO dI dV m3 with
  | none => simp only [q] at o3; exact False.elim o3
  | some m' =>
    simp only [q] at o3
    exact ⟨F3, ι3, m3, dO, dI, dV, m', s3.mem, Rep.ext r2 x3, r3, (Rep.ext r1 x2).ext x3, q, fun H' x' s' => o3.of x' (s3.ext x' s')⟩
theorem get_dct (C : Ctx X c W) : PGet X (fun o i H Q => ∃ F ι m dO dI d, SimM X.K F ι m H ∧ Rep X.K F ι dO o ∧ Rep X.K F ι dI i ∧ dctAt m dO dI = some d ∧ ∀ v, Rep X.K F ι d v → Q v H) := by
  have hu := C.hu
  intro pins s σ H o i ov iv Q I ro ri h
  obtain ⟨F, ι, m, dO, dI, d, sm, rO, rI, e, q⟩ := h
  unfold dctAt at e
  split at e
  · rename_i ks ws e1
    split at e
    · rename_i ok
      obtain ⟨p, H', o, rfl, I', g, back, mt⟩ := dget I sm rO e1 ok rI
      cases (show ov = Value.ref p from ro)
      rw [e] at mt
      cases z : o with
      | none => rw [z] at mt; exact False.elim mt
      | some w =>
        rw [z] at mt g
        exact d_getItem (by omega) I' g ri fun w' s3 I3 rw' => ⟨w, H, back _ I3, rw', q _ mt⟩
    · cases e
  · cases e
theorem aug_ip (op : Operator) : PIp X op (fun x y H Q => ∃ F ι m a b d, SimM X.K F ι m H ∧ Rep X.K F ι a x ∧ Rep X.K F ι b y ∧ augD op a b = some d ∧ ∀ v, Rep X.K F ι d v → Q v H) := by
  intro pins s σ H x y v u Q I rx ry h
  obtain ⟨F, ι, m, a, b, d, sm, ra, rb, e, q⟩ := h
  unfold augD at e
  split at e
  · cases e
    exact ip_add pins s σ H x y v u Q I rx ry ⟨_, _, ra.intE, rb.intE, q _ Rep.intI⟩
  · cases e
    exact ip_sub pins s σ H x y v u Q I rx ry ⟨_, _, ra.intE, rb.intE, q _ Rep.intI⟩
  · cases e
theorem aug_st {i : Expr} (h : plainIx i = true) : ∀ ov iv new, augStore i ov iv new = (do holding [new, ov, iv] (setItem ov iv new); release [new, ov, iv] []; pure .next) := by
  intro ov iv new
  cases i <;> first | rfl | cases h
theorem q_augP (C : Ctx X c W) {op : Operator} {o i : Expr} {fo fi fv : FE} {p : Pos} (h : plainIx i = true) (ho : PE X o (TV X W fo)) (hi : PE X i (TV X W fi)) (he : PE X e (TV X W fv)) : PS X (.AugAssign (.Subscript o i p) op e pos) (TQ X W (sAugP op fo fi fv)) := by
  refine PS.weak (ps_augS ho hi (get_dct C) he (aug_ip op) (set_put C) (aug_st h)) fun D σ H ⟨F, ι, m, en, s, o⟩ => Sbnd s o fun ov F1 ι1 H1 m1 dO s1 r1 x1 o1 => ?_
  refine Sbnd s1 o1 fun iv F2 ι2 H2 m2 dI s2 r2 x2 o2 => ?_
  cases q : dctAt m2 dO dI with
  | none => simp only [q] at o2; exact False.elim o2
  | some d =>
    simp only [q] at o2
    refine ⟨F2, ι2, m2, dO, dI, d, s2.mem, Rep.ext r1 x2, r2, q, fun x rx => ?_⟩
    refine Sbnd s2 o2 fun y F3 ι3 H3 m3 dV s3 r3 x3 o3 => ?_
    cases q2 : augD op d dV with
    | none => simp only [q2] at o3; exact False.elim o3
    | some z =>
      simp only [q2] at o3
      refine ⟨F3, ι3, m3, d, dV, z, s3.mem, rx.ext x3, r3, q2, fun zv rz => ?_⟩
      cases q3 : putD dO dI z m3 with
      | none => simp only [q3] at o3; exact False.elim o3
      | some m' =>
        simp only [q3] at o3
        exact ⟨F3, ι3, m3, dO, dI, z, m', s3.mem, (Rep.ext r1 x2).ext x3, Rep.ext r2 x3, rz, q3, fun H' x' s' => o3.of x' (s3.ext x' s')⟩
theorem q_aug (C : Ctx X c W) {op : Operator} {x : Str} {i : Nat} {p : Pos} {fv : FE} (hi : c.slotW x = some i) (he : PE X e (TV X W fv)) : PS X (.AugAssign (.Name x p) op e pos) (TQ X W (sAug op i fv)) := by
  obtain ⟨h1, h2, h3⟩ := C.slotW hi
  refine PS.weak (ps_aug C.nd h1 h2 he (aug_ip op) h3) fun D σ H ⟨F, ι, m, en, s, o⟩ => ?_
  unfold sAug at o
  cases q : en[i]? with
  | none => simp only [q] at o; exact False.elim o
  | some oo =>
    cases oo with
    | none => simp only [q] at o; exact False.elim o
    | some d =>
      simp only [q] at o
      obtain ⟨v, e1, r⟩ := s.loc i d q
      refine ⟨v, e1, ?_⟩
      refine Sbnd s o fun y F1 ι1 H1 m1 dV s1 r1 x1 o1 => ?_
      cases q2 : augD op d dV with
      | none => simp only [q2] at o1; exact False.elim o1
      | some z =>
        simp only [q2] at o1
        exact ⟨F1, ι1, m1, d, dV, z, s1.mem, r.ext x1, r1, q2, fun zv rz => o1.now (s1.set rz)⟩
/-! ### loops -/
theorem q_whl (C : Ctx X c W) {ft : FB} {fx : FS} {x : List Stmt} (ht : PT X e (T X.K W RB ft)) (hx : PSs X x (TQ X W fx)) : PS X (.While e x [] pos) (TQ X W (sWhl ft fx)) := by
  refine PS.weak (ps_while C.pass ht hx) fun D σ H ⟨F, ι, m, en, s, o⟩ => ?_
  unfold sWhl at o
  generalize manyTurns = N at o
  refine ⟨fun μ σ H => ∃ F ι m en, Sim X.K F ι en m σ H ∧ OutS X.K W F ι H (whlGo ft fx μ en m) D, ⟨N, F, ι, m, en, s, o⟩, ?_⟩
  rintro μ σ H ⟨F, ι, m, en, s, o⟩
  cases μ with
  | zero => exact False.elim o
  | succ μ =>
    refine ⟨F, ι, m, en, s, ?_⟩
    unfold whlGo at o
    cases q : ft en m with
    | exc y m1 => simp only [q] at o; exact fun F' ι' H' x sm => o F' ι' σ H' x (s.ext x sm)
    | bad => simp only [q] at o; exact o
    | ok b m1 =>
      simp only [q] at o
      intro b' F1 ι1 H1 x1 s1 eb
      cases (show b = b' from eb)
      cases b with
      | false => exact o.of x1 (s.ext x1 s1)
      | true =>
        simp only at o
        rw [if_pos rfl]
        refine ⟨fun σ H => ∃ F ι m en, Sim X.K F ι en m σ H ∧ OutS X.K W F ι H (whlGo ft fx μ en m) D, fun σ' H' h => ⟨μ, Nat.lt_succ_self _, h⟩, F1, ι1, m1, en, s.ext x1 s1, ?_⟩
        have o := OutS.shift o x1
        cases q2 : fx en m1 with
        | exc y e2 m2 => simp only [q2] at o; exact o
        | bad => simp only [q2] at o; exact o
        | ok fl e2 m2 =>
          simp only [q2] at o
          cases fl with
          | nx => exact fun F' ι' σ' H' x' s' => ⟨F', ι', m2, e2, s', OutS.shift o x'⟩
          | ct => exact fun F' ι' σ' H' x' s' => ⟨F', ι', m2, e2, s', OutS.shift o x'⟩
          | bk => exact fun F' ι' σ' H' x' s' => o F' ι' σ' H' x' s'
          | rt d => exact fun F' ι' σ' H' x' s' => o F' ι' σ' H' x' s'
theorem q_for (C : Ctx X c W) {n : Nat} {t : Tgt} {fi : FI} {fx : FS} {x : List Stmt} (hno : noSet e = true) (ht : tgtX c n tg = some t) (hi : PI X tg e (TJ X W fi)) (hx : PSs X x (TQ X W fx)) : PS X (.For tg e x [] pos) (TQ X W (sFor t fi fx)) := by
  have hset : ∀ v, foldedSetIterable e X.env v = pure v := fun v => by cases e <;> first | rfl | cases hno
  refine PS.weak (ps_for C.pass C.calm hi (d_tgt C n tg t ht) hx hset) fun D σ H ⟨F, ι, m, en, s, o⟩ => ?_
  refine ⟨F, ι, m, en, s, ?_⟩
  unfold sFor at o
  unfold tagM
  cases q : fi en m with
  | exc y m1 => rw [q] at o; exact fun F' ι' H' x sm => o F' ι' σ H' x (s.ext x sm)
  | bad => rw [q] at o; exact o
  | ok p m1 =>
    rw [q] at o
    intro J F1 ι1 H1 x1 sm1 j
    have s1 := s.ext x1 sm1
    have o : OutS X.K W F1 ι1 H1 (forGo t fx p.2 m1 p.1 en m1) D := OutS.shift o x1
    have j : JRep X.K F1 ι1 J p.2 m1 p.1 := j
    let Wi : Nat → Nat → L2.St → Hp → Prop := fun i μ σ H => ∃ F ι m en, μ = p.1.length - i ∧ i ≤ p.1.length ∧ Sim X.K F ι en m σ H ∧ Gr F1 ι1 F ι ∧ (∀ n ∈ p.2, m[n]? = m1[n]?) ∧ OutS X.K W F ι H (forGo t fx p.2 m1 (p.1.drop i) en m) D
    refine ⟨Wi, ⟨p.1.length, F1, ι1, m1, en, by simp, Nat.zero_le _, s1, Gr.refl _ _, fun _ _ => rfl, by simpa using o⟩, ?_⟩
    rintro i μ σ H ⟨F, ι, m, en, rfl, hi, s, g, hn, o⟩
    by_cases hlt : i < p.1.length
    · have hd : p.1[i]? = some p.1[i] := List.getElem?_eq_getElem hlt
      rw [drop_cons hd] at o
      obtain ⟨go, yl⟩ := j.go _ _ _ _ g s.mem hn i _ hd
      refine .inr ⟨go, Wi (i + 1) (p.1.length - (i + 1)), fun σ' H' h' => ⟨_, by omega, h'⟩, fun v H' hy => ?_⟩
      obtain ⟨F2, x2, s2, r2⟩ := yl v H' hy
      have o := OutS.shift o x2
      unfold forGo at o
      cases q1 : bindT t p.1[i] en with
      | none => simp only [q1] at o; exact False.elim o
      | some e' =>
        simp only [q1] at o
        refine ⟨F2, ι, m, en, _, e', s.ext x2 s2, r2, q1, fun σ' s' _ => ⟨F2, ι, m, e', s', ?_⟩⟩
        cases q2 : fx e' m with
        | exc y e2 m2 => simp only [q2] at o; exact o
        | bad => simp only [q2] at o; exact o
        | ok fl e2 m2 =>
          simp only [q2] at o
          cases fl with
          | nx =>
            intro F' ι' σ' H' x' s'
            simp only at o
            cases sm : same p.2 m1 m2 with
            | false => simp only [sm] at o; exact False.elim o
            | true =>
              simp only [sm, if_true] at o
              exact ⟨F', ι', m2, e2, rfl, by omega, s', g.trans (x2.gr.trans x'.gr), same_iff sm, OutS.shift o x'⟩
          | ct =>
            intro F' ι' σ' H' x' s'
            simp only at o
            cases sm : same p.2 m1 m2 with
            | false => simp only [sm] at o; exact False.elim o
            | true =>
              simp only [sm, if_true] at o
              exact ⟨F', ι', m2, e2, rfl, by omega, s', g.trans (x2.gr.trans x'.gr), same_iff sm, OutS.shift o x'⟩
          | bk => exact fun F' ι' σ' H' x' s' => o F' ι' σ' H' x' s'
          | rt d => exact fun F' ι' σ' H' x' s' => o F' ι' σ' H' x' s'
    · have e : i = p.1.length := by omega
      subst e
      rw [List.drop_length] at o
      exact .inl ⟨j.stop _ _ _ _ g s.mem hn, o.now s⟩
end
end Cs

/-! Written dicts, comprehensions as expressions, several names at once. -/
namespace Cs
open PySem L2 PySem.Spec
section
variable {X : Cx} {c : SC} {W : EW} {a b e tg : Expr} {fa fb f : FE} {pos : Pos} {K : PySem.W.Frag} {F F1 : Hp} {ι ι1 : List Addr} {H H1 : Hp} {m m1 : Mem} {σ : L2.St}
/-! ### written dicts -/
def trs (X : Cx) (W : EW) (fs : List (FE × FE)) : List (TE × TE) := fs.map fun p => (TV X W p.1, TV X W p.2)
/-- one part first, the answer wished from an earlier place -/
theorem Obnd0 {α β γ δ : Type} {R : AR α β} {R' : AR γ δ} {f : Sto → Mem → Res α} {g : α → Mem → Res γ} {Q : δ → Hp → Prop} {P : β → Hp → Prop} {F0 : Hp} {ι0 : List Addr} {H0 : Hp} {en : Sto} (x0 : Ext F0 ι0 H0 F ι H) (s : Sim K F ι en m σ H)
    (o : Out K W R' F0 ι0 σ H0 (bnd (f en m) g) Q)
    (k : ∀ x F1 ι1 H1 m1 a, Sim K F1 ι1 en m1 σ H1 → R H F1 ι1 H1 a x → Ext F ι H F1 ι1 H1 → Out K W R' F0 ι0 σ H0 (g a m1) Q → P x H1) : T K W R f σ H P := by
  refine ⟨F, ι, m, en, s, ?_⟩
  cases q : f en m with
  | ok a m1 =>
    rw [q] at o
    exact fun b F' ι' H' x sm r => k b F' ι' H' m1 a (s.ext x sm) r x o
  | exc y m1 =>
    rw [q] at o
    exact fun F' ι' H' x sm => o F' ι' H' (x0.trans x) sm
  | bad =>
    rw [q] at o
    exact o
theorem pairs_ok {F0 : Hp} {ι0 : List Addr} {H0 : Hp} : ∀ {fs : List (FE × FE)} {F : Hp} {ι : List Addr} {m : Mem} {H : Hp} {en : Sto} {Q : List (V × V) → Hp → Prop} {R' : AR D V} {g : List D × List D → Mem → Res D} {QV : VK}, Ext F0 ι0 H0 F ι H → Sim X.K F ι en m σ H →
    Out X.K W R' F0 ι0 σ H0 (bnd (fPairs fs en m) g) QV →
    (∀ ks vs us ws F1 ι1 H1 m1, Sim X.K F1 ι1 en m1 σ H1 → Reps X.K F1 ι1 ks us → Reps X.K F1 ι1 vs ws → ks.length = fs.length → vs.length = fs.length → Ext F ι H F1 ι1 H1 → Out X.K W R' F0 ι0 σ H0 (g (ks, vs) m1) QV → Q (us.zip ws) H1) →
    tPairs (trs X W fs) σ H Q
  | [], F, ι, m, H, en, Q, R', g, QV, x0, s, o, k => k [] [] [] [] F ι H m s Reps.nil Reps.nil rfl rfl (Ext.refl _ _ _) o
  | (fk, fv) :: r, F, ι, m, H, en, Q, R', g, QV, x0, s, o, k => by
    unfold fPairs at o
    rw [bnd_bnd] at o
    simp only [bnd_bnd] at o
    refine Obnd0 x0 s o fun u F1 ι1 H1 m1 dk s1 r1 x1 o1 => ?_
    refine Obnd0 (x0.trans x1) s1 o1 fun w F2 ι2 H2 m2 dv s2 r2 x2 o2 => ?_
    refine pairs_ok (x0.trans (x1.trans x2)) s2 (g := fun kv m => g (dk :: kv.1, dv :: kv.2) m) o2 fun ks vs us ws F3 ι3 H3 m3 s3 r3 r4 l1 l2 x3 o3 => ?_
    exact k (dk :: ks) (dv :: vs) (u :: us) (w :: ws) F3 ι3 H3 m3 s3 (Reps.cons ((Rep.ext r1 x2).ext x3) r3) (Reps.cons (Rep.ext r2 x3) r4) (by simp [l1]) (by simp [l2]) (x1.trans (x2.trans x3)) o3
theorem pps_of (f : Expr → FE) (hf : ∀ e, PE X e (TV X W (f e))) : ∀ {ks : List (Option Expr)} {vs : List Expr} {fs : List (FE × FE)}, dctX f ks vs = some fs → PPs X pos ks vs (trs X W fs) ∧ ks.all (·.isSome) = true ∧ ks.length = vs.length ∧ fs.length = ks.length
  | [], [], fs, h => by
    have h : some [] = some fs := h
    cases h
    exact ⟨pps_nil, rfl, rfl, rfl⟩
  | some k :: ks, v :: vs, fs, h => by
    have h : (dctX f ks vs).map ((f k, f v) :: ·) = some fs := h
    obtain ⟨fs', h1, rfl⟩ := Option.map_eq_some_iff.mp h
    obtain ⟨q1, q2, q3, q4⟩ := pps_of f hf h1
    exact ⟨pps_cons (hf k) (hf v) q1, by rw [List.all_cons, q2]; rfl, by simp [q3], by simp [q4]⟩
  | none :: _, _, _, h => by cases h
  | some _ :: _, [], _, h => by cases h
  | [], _ :: _, _, h => by cases h
theorem d_dct (f : Expr → FE) (hf : ∀ e, PE X e (TV X W (f e))) {ks : List (Option Expr)} {vs : List Expr} {fs : List (FE × FE)} (h : dctX f ks vs = some fs) (h0 : ks ≠ []) (h15 : ks.length ≤ 15) : PE X (.Dict ks vs pos) (TN X W (fDct fs)) := by
  obtain ⟨q1, q2, q3, q4⟩ := pps_of (pos := pos) f hf h
  refine PE.weak (pe_disp q1 q2 q3 h0 h15) fun σ H Q ⟨F, ι, m, en, s, o⟩ => fun p hp => ?_
  unfold fDct at o
  obtain ⟨hi, hF⟩ := s.mem.notin hp
  have x0 : Ext F ι H F ι (upd H p (.dK [])) := Ext.grow hp
  refine pairs_ok x0 (s.ext x0 (s.mem.grow hp)) o fun kds vds us ws F1 ι1 H1 m1 s1 r1 r2 l1 l2 x1 o1 => ?_
  have hd : H1 p = some (.dK []) := x1.k _ _ hi upd_same
  refine ⟨hd, ?_⟩
  by_cases hfl : kds.all flatK = true
  · simp only [hfl, if_true] at o1
    obtain ⟨kr, rfl⟩ := flat_kd hfl
    have eu := keys_rep r1
    subst eu
    have hl1 := r1.length
    have hl2 := r2.length
    simp only [List.length_map] at hl1 l1
    refine ⟨kr.zip ws, ?_, ?_, ?_⟩
    · rw [List.zip_map_left]; rfl
    · rw [List.length_zip]; omega
    · have hF1 : F1 p = none := by
        cases z : F1 p with
        | none => rfl
        | some w =>
          rcases x1.n p (by rw [z]; exact fun q => nomatch q) with y | y
          · exact absurd hF y
          · rw [upd_same] at y; cases y
      have hi1 : p ∉ ι1 := fun z => by
        obtain ⟨new, e1, h1⟩ := x1.i
        rw [e1] at z
        rcases List.mem_append.mp z with z | z
        · exact hi z
        · have := h1 p z
          rw [upd_same] at this; cases this
      obtain ⟨g1, g2⟩ := merge_rep kr vds ws [] [] (by simp) Reps.nil r2 (by omega)
      exact o1 _ F1 ι1 _ ((x0.trans x1).put' hp hd) (s1.mem.put' hF1 hi1) ⟨p, _, rfl, hp, hF1, hi1, upd_same, .inl ⟨_, rfl, g1, g2⟩⟩
  · simp only [hfl] at o1
    exact False.elim o1
/-! ### comprehensions -/
theorem tYes_ok {Q : Bool → Hp → Prop} (h : T K W RB Cs.tYes σ H Q) : L2.tYes σ H Q := by
  obtain ⟨F, ι, m, en, s, o⟩ := h
  exact o.now s.mem rfl
theorem d_ifs {X : Cx} (f : Expr → FB) (hf : ∀ e, PT X e (T X.K W RB (f e))) (ifs : List Expr) : PTs X ifs (T X.K W RB (ifsX f ifs)) := by
  cases ifs with
  | nil => exact ⟨fun pins s σ H Q I h => pts_nil.run pins s σ H Q I (tYes_ok h)⟩
  | cons e r =>
    cases r with
    | nil => exact pts_one (hf e)
    | cons _ _ => exact ⟨fun pins s σ H Q I ⟨F, ι, m, en, s, o⟩ => False.elim o⟩
theorem set_by {x : Str} {p pos : Pos} {elt : Expr} {gs : List Comprehension} {scope : Scope} {pc : Pos} {t : TS} (h1 : swapsWith (.ListComp elt gs scope pc) (some (.Name x p)) pos.line X.env = pure false → PS X (.Assign [.Name x p] (.ListComp elt gs scope pc) pos) t)
    (h2 : X.env.scope.names.lookup x = some .local → swapsWith (.ListComp elt gs scope pc) (some (.Name x p)) pos.line X.env = pure true → PS X (.Assign [.Name x p] (.ListComp elt gs scope pc) pos) t) : PS X (.Assign [.Name x p] (.ListComp elt gs scope pc) pos) t := by
  have e : swapsWith (.ListComp elt gs scope pc) (some (.Name x p)) pos.line X.env = pure (X.env.blockKind == .function && X.env.kindOf x == some .local && p.line == pc.line && !(scope.names.any fun (n, k) => n == x && (k == .local || k == .cell))) := rfl
  cases q : (X.env.blockKind == .function && X.env.kindOf x == some .local && p.line == pc.line && !(scope.names.any fun (n, k) => n == x && (k == .local || k == .cell))) with
  | false => rw [q] at e; exact h1 e
  | true =>
    rw [q] at e
    simp only [Bool.and_eq_true, beq_iff_eq] at q
    exact h2 q.1.1.2 e
section
variable {elt it it1 tg1 : Expr} {ifs ifs1 : List Expr} {scope : Scope} {own : List (Str × Nat)} {fi fi1 : FI} {t t1 : Tgt} {ft ft1 : FB} {fe : FE} {n : Nat}
theorem d_lc (C : Ctx X c W) (hset : noSet it = true) (ok : blkC X.N X.env.scope scope own = true) (hs : ∀ i ∈ slotsT t, i ∈ own.map (·.2)) (ht : tgtX (inner c scope) n tg = some t) (hi : PI X tg it (TJ X W fi))
    (hif : ∀ (s : Shared) (H : Hp) (C : Addr) (cl : List (Str × Addr)) (fp : List Addr), PTs (X.blk s H scope (compEnvC scope cl C X.env) fp) ifs (T X.K W RB ft)) (he : ∀ (s : Shared) (H : Hp) (C : Addr) (cl : List (Str × Addr)) (fp : List Addr), PE (X.blk s H scope (compEnvC scope cl C X.env) fp) elt (T X.K W (RV X.K) fe)) :
    PE X (.ListComp elt [⟨tg, it, ifs, 0⟩] scope pos) (TN X W (fLc (own.map (·.2)) t fi ft fe)) ∧ SetOk X (.ListComp elt [⟨tg, it, ifs, 0⟩] scope pos) (TN X W (fLc (own.map (·.2)) t fi ft fe)) := by
  have hf : ∀ v, foldedSetIterable it X.env v = pure v := fun v => by cases it <;> first | rfl | cases hset
  have hg : ∀ (s : Shared) (H : Hp) (Cc : Addr) (cl : List (Str × Addr)) (fp : List Addr), PG (X.blk s H scope (compEnvC scope cl Cc X.env) fp) tg (gT X.K t) := fun s H Cc cl fp => d_tgt (W := W) (C.blk s H scope Cc cl fp) n tg t ht
  have main : PE X (.ListComp elt [⟨tg, it, ifs, 0⟩] scope pos) (TN X W (fLc (own.map (·.2)) t fi ft fe)) := PE.weak (pe_lc C.calm C.nd hi (blkOk_by ok) hg hif he hf) fun σ H Q h => lc_ok hs h
  refine ⟨main, fun i x p pos h1 h2 h3 => set_by (fun h => ps_set C.nd h1 h2 main h h3) fun hl h => ?_⟩
  exact PS.weak (ps_setLc C.calm C.nd h1 hl h hi (blkOk_by ok) hg hif he hf) fun D σ H h => lc_ok hs h
theorem d_lc2 (C : Ctx X c W) (hset : noSet it = true) (hset1 : noSet it1 = true) (ok : blkC X.N X.env.scope scope own = true) (hs : ∀ i ∈ slotsT t, i ∈ own.map (·.2)) (hs1 : ∀ i ∈ slotsT t1, i ∈ own.map (·.2)) (ht : tgtX (inner c scope) n tg = some t) (ht1 : tgtX (inner c scope) n tg1 = some t1) (hi : PI X tg it (TJ X W fi))
    (hif : ∀ (s : Shared) (H : Hp) (C : Addr) (cl : List (Str × Addr)) (fp : List Addr), PTs (X.blk s H scope (compEnvC scope cl C X.env) fp) ifs (T X.K W RB ft)) (he : ∀ (s : Shared) (H : Hp) (C : Addr) (cl : List (Str × Addr)) (fp : List Addr), PE (X.blk s H scope (compEnvC scope cl C X.env) fp) elt (T X.K W (RV X.K) fe))
    (hi1 : ∀ (s : Shared) (H : Hp) (C : Addr) (cl : List (Str × Addr)) (fp : List Addr), PI (X.blk s H scope (compEnvC scope cl C X.env) fp) tg1 it1 (T X.K W (RI X.K) (tagM fi1)))
    (hif1 : ∀ (s : Shared) (H : Hp) (C : Addr) (cl : List (Str × Addr)) (fp : List Addr), PTs (X.blk s H scope (compEnvC scope cl C X.env) fp) ifs1 (T X.K W RB ft1)) :
    PE X (.ListComp elt [⟨tg, it, ifs, 0⟩, ⟨tg1, it1, ifs1, 0⟩] scope pos) (TN X W (fLc2 (own.map (·.2)) t fi ft (slotsT t1) t1 fi1 ft1 fe)) ∧
    SetOk X (.ListComp elt [⟨tg, it, ifs, 0⟩, ⟨tg1, it1, ifs1, 0⟩] scope pos) (TN X W (fLc2 (own.map (·.2)) t fi ft (slotsT t1) t1 fi1 ft1 fe)) := by
  have hf : ∀ v, foldedSetIterable it X.env v = pure v := fun v => by cases it <;> first | rfl | cases hset
  have hf1 : ∀ env v, foldedSetIterable it1 env v = pure v := fun env v => by cases it1 <;> first | rfl | cases hset1
  have hg : ∀ (s : Shared) (H : Hp) (Cc : Addr) (cl : List (Str × Addr)) (fp : List Addr), PG (X.blk s H scope (compEnvC scope cl Cc X.env) fp) tg (gT X.K t) := fun s H Cc cl fp => d_tgt (W := W) (C.blk s H scope Cc cl fp) n tg t ht
  have hg1 : ∀ (s : Shared) (H : Hp) (Cc : Addr) (cl : List (Str × Addr)) (fp : List Addr), PG (X.blk s H scope (compEnvC scope cl Cc X.env) fp) tg1 (gT X.K t1) := fun s H Cc cl fp => d_tgt (W := W) (C.blk s H scope Cc cl fp) n tg1 t1 ht1
  have main : PE X (.ListComp elt [⟨tg, it, ifs, 0⟩, ⟨tg1, it1, ifs1, 0⟩] scope pos) (TN X W (fLc2 (own.map (·.2)) t fi ft (slotsT t1) t1 fi1 ft1 fe)) :=
    PE.weak (pe_lc2 C.calm C.nd hi (blkOk_by ok) hs1 hg hif hi1 hg1 hif1 he hf hf1) fun σ H Q h => lc2_ok hs (fun _ h => h) h
  refine ⟨main, fun i x p pos h1 h2 h3 => set_by (fun h => ps_set C.nd h1 h2 main h h3) fun hl h => ?_⟩
  exact PS.weak (ps_setLc2 C.calm C.nd h1 hl h hi (blkOk_by ok) hs1 hg hif hi1 hg1 hif1 he hf hf1) fun D σ H h => lc2_ok hs (fun _ h => h) h
end
/-! ### a, b = x, y -/
theorem sBd_bnd {α β : Type} (r : Res α) (g : α → Mem → Res β) (en : Sto) (k : β → Mem → SRes) : sBd (bnd r g) en k = sBd r en fun a m => sBd (g a m) en k := by cases r <;> rfl
theorem loc_ok (C : Ctx X c W) {x : Str} (h : c.isLocal x = true) : X.env.scope.names.lookup x = some .local := by
  unfold SC.isLocal at h
  rw [lkp_lookup, ← C.sc] at h
  split at h
  · assumption
  · cases h
theorem okFun (I : X.Ok) : X.env.blockKind = .function := by
  unfold Env.blockKind
  rw [I.kind]; rfl
theorem ps_ok {st : Stmt} {t : TS} (h : X.Ok → PS X st t) : PS X st t := ⟨fun pins s σ H D I q => (h I.ok).run pins s σ H D I q⟩
theorem str_ne {x y : Str} (h : (!strEq x y) = true) : x ≠ y := strEq_ne (by simpa using h)
theorem unst : ∀ {a : Expr}, unstar a = true → (match a with | .Starred _ _ => true | _ => false) = false := by
  intro a h
  cases a <;> first | rfl | cases h
theorem noStar_hd {es : List Expr} (h : noStar (a :: es) = true) : unstar a = true := by
  unfold noStar at h
  rw [List.all_cons, Bool.and_eq_true] at h
  exact h.1
theorem q_par2 (C : Ctx X c W) {x y : Str} {px py pt : Pos} {kt k2 pt2} {i j : Nat} (hi : c.slotW x = some i) (hj : c.slotW y = some j) (hij : i ≠ j) (hxy : x ≠ y) (h : swp2 c x y px py = true) (hs : noStar [a, b] = true) (hf : foldS [a, b] = false) (hc : foldC [a, b] = false)
    (ha : PE X a (TV X W fa)) (hb : PE X b (TV X W fb)) : PS X (.Assign [.Tuple [.Name x px, .Name y py] kt pt] (.Tuple [a, b] k2 pt2) pos) (TQ X W (sPar [i, j] (fCons fa (fCons fb fNil)))) := ps_ok fun O => by
  unfold swp2 at h
  simp only [Bool.and_eq_true] at h
  have lx := loc_ok C h.1.1.1
  have ly := loc_ok C h.1.1.2
  have kx : X.env.kindOf x = some .local := lx
  have ky : X.env.kindOf y = some .local := ly
  have hw : swappedStores [.Tuple [.Name x px, .Name y py] kt pt] (.Tuple [a, b] k2 pt2) X.env = pure (some [x, y]) := by
    unfold foldS at hf
    unfold foldC at hc
    have e1 : (x :: [y]).eraseDups.length = 2 := by
      have : (y == x) = false := by simpa using Ne.symm hxy
      simp [List.eraseDups_cons, this]
    simp only [swappedStores, okFun O]
    simp only [hf, hc, List.length_cons, List.length_nil, List.head?_cons, Option.map_some, Option.getD_some, Expr.pos, List.filterMap_cons, List.filterMap_nil, kx, ky, h.1.2, h.2]
    simp [e1, Pure.pure]
    exact ⟨unst (noStar_hd hs), unst (noStar_hd (noStar_tl hs))⟩
  refine PS.weak (ps_par C.calm C.nd (C.slotW hi).1 (C.slotW hj).1 hij lx ly (pa_cons ha (pa_cons hb pa_nil (star1 (noStar_tl hs))) (star1 hs)) hw) fun D σ H ⟨F, ι, m, en, s, o⟩ => ?_
  unfold sPar fCons at o
  rw [sBd_bnd] at o
  refine Sbnd s o fun x F1 ι1 H1 m1 d1 s1 r1 x1 o1 => ?_
  unfold fCons at o1
  rw [bnd_bnd, sBd_bnd] at o1
  refine Sbnd s1 o1 fun y F2 ι2 H2 m2 d2 s2 r2 x2 o2 => ?_
  have o2 : OutS X.K W F2 ι2 H2 (.ok .nx ((en.set i (some d1)).set j (some d2)) m2) D := o2
  exact ⟨x, y, rfl, o2.now ((s2.set (Rep.ext r1 x2)).set r2)⟩
theorem q_par3 (C : Ctx X c W) {d : Expr} {fd : FE} {x y z : Str} {px py pz pt : Pos} {kt k2 pt2} {i j l : Nat} (hi : c.slotW x = some i) (hj : c.slotW y = some j) (hl : c.slotW z = some l) (hij : i ≠ j) (hil : i ≠ l) (hjl : j ≠ l) (hxy : x ≠ y) (hxz : x ≠ z) (hyz : y ≠ z)
    (h : swp3 c x y z px py pz = true) (hs : noStar [a, b, d] = true) (hf : foldS [a, b, d] = false) (hc : foldC [a, b, d] = false)
    (ha : PE X a (TV X W fa)) (hb : PE X b (TV X W fb)) (hd : PE X d (TV X W fd)) : PS X (.Assign [.Tuple [.Name x px, .Name y py, .Name z pz] kt pt] (.Tuple [a, b, d] k2 pt2) pos) (TQ X W (sPar [i, j, l] (fCons fa (fCons fb (fCons fd fNil))))) := ps_ok fun O => by
  unfold swp3 at h
  simp only [Bool.and_eq_true] at h
  have lx := loc_ok C h.1.1.1.1.1
  have ly := loc_ok C h.1.1.1.1.2
  have lz := loc_ok C h.1.1.1.2
  have kx : X.env.kindOf x = some .local := lx
  have ky : X.env.kindOf y = some .local := ly
  have kz : X.env.kindOf z = some .local := lz
  have hw : swappedStores [.Tuple [.Name x px, .Name y py, .Name z pz] kt pt] (.Tuple [a, b, d] k2 pt2) X.env = pure (some [x, y, z]) := by
    unfold foldS at hf
    unfold foldC at hc
    have e1 : (x :: [y, z]).eraseDups.length = 3 := by
      have h1 : (y == x) = false := by simpa using Ne.symm hxy
      have h2 : (z == x) = false := by simpa using Ne.symm hxz
      have h3 : (z == y) = false := by simpa using Ne.symm hyz
      simp [List.eraseDups_cons, h1, h2, h3]
    simp only [swappedStores, okFun O]
    simp only [hf, hc, List.length_cons, List.length_nil, List.head?_cons, Option.map_some, Option.getD_some, Expr.pos, List.filterMap_cons, List.filterMap_nil, kx, ky, kz, h.1.1.2, h.1.2, h.2]
    simp [e1, Pure.pure]
    exact ⟨unst (noStar_hd hs), unst (noStar_hd (noStar_tl hs)), unst (noStar_hd (noStar_tl (noStar_tl hs)))⟩
  refine PS.weak (ps_par3 C.calm C.nd (C.slotW hi).1 (C.slotW hj).1 (C.slotW hl).1 hij hil hjl lx ly lz (pa_cons ha (pa_cons hb (pa_cons hd pa_nil (star1 (noStar_tl (noStar_tl hs)))) (star1 (noStar_tl hs))) (star1 hs)) hw) fun D σ H ⟨F, ι, m, en, s, o⟩ => ?_
  unfold sPar fCons at o
  rw [sBd_bnd] at o
  refine Sbnd s o fun x F1 ι1 H1 m1 d1 s1 r1 x1 o1 => ?_
  unfold fCons at o1
  rw [bnd_bnd, sBd_bnd] at o1
  refine Sbnd s1 o1 fun y F2 ι2 H2 m2 d2 s2 r2 x2 o2 => ?_
  unfold fCons at o2
  rw [bnd_bnd, bnd_bnd, sBd_bnd] at o2
  refine Sbnd s2 o2 fun z F3 ι3 H3 m3 d3 s3 r3 x3 o3 => ?_
  have o3 : OutS X.K W F3 ι3 H3 (.ok .nx (((en.set i (some d1)).set j (some d2)).set l (some d3)) m3) D := o3
  exact ⟨x, y, z, rfl, o3.now (((s3.set ((Rep.ext r1 x2).ext x3)).set (Rep.ext r2 x3)).set r3)⟩
/-! ### a tuple of targets, from the left -/
theorem sw_fold {es vs : List Expr} {k : Nat} {p : Pos} {k2 p2} (hs : noStar vs = true) (hf : foldS vs = true) : swappedStores [.Tuple es k p] (.Tuple vs k2 p2) X.env = pure none := by
  unfold foldS at hf
  simp only [swappedStores, hf]
  split
  · rfl
  · split
    · rfl
    · split <;> rfl
theorem sw_len {es vs : List Expr} {k : Nat} {p : Pos} {k2 p2} (h : (decide (es.length = 2) || decide (es.length = 3)) = false) : swappedStores [.Tuple es k p] (.Tuple vs k2 p2) X.env = pure none := by
  simp only [Bool.or_eq_false_iff, decide_eq_false_iff_not] at h
  simp only [swappedStores]
  rw [if_pos]
  · simp [h.1, h.2]
theorem sw_two (O : X.Ok) (C : Ctx X c W) {x y : Str} {px py : Pos} {k : Nat} {p : Pos} {k2 p2} (hs : noStar [a, b] = true) (h : swp2 c x y px py = false) : swappedStores [.Tuple [.Name x px, .Name y py] k p] (.Tuple [a, b] k2 p2) X.env = pure none := by
  have kx : (X.env.kindOf x == some .local) = c.isLocal x := by
    show (X.env.scope.names.lookup x == some .local) = c.isLocal x
    unfold SC.isLocal
    rw [C.sc, lkp_lookup]
    cases c.sc.names.lookup x with
    | none => rfl
    | some q => cases q <;> rfl
  have ky : (X.env.kindOf y == some .local) = c.isLocal y := by
    show (X.env.scope.names.lookup y == some .local) = c.isLocal y
    unfold SC.isLocal
    rw [C.sc, lkp_lookup]
    cases c.sc.names.lookup y with
    | none => rfl
    | some q => cases q <;> rfl
  unfold swp2 at h
  simp only [swappedStores, okFun O]
  simp only [List.length_cons, List.length_nil, List.head?_cons, Option.map_some, Option.getD_some, Expr.pos, List.filterMap_cons, List.filterMap_nil, kx, ky]
  have e2 := unst (noStar_hd hs)
  have e3 := unst (noStar_hd (noStar_tl hs))
  cases h1 : c.isLocal x <;> cases h2 : c.isLocal y <;> cases h3 : (py.line == px.line) <;> simp [h1, h2, h3, Pure.pure] at h ⊢
theorem sw_three (O : X.Ok) (C : Ctx X c W) {d : Expr} {x y z : Str} {px py pz : Pos} {k : Nat} {p : Pos} {k2 p2} (hs : noStar [a, b, d] = true) (h : swp3 c x y z px py pz = false) : swappedStores [.Tuple [.Name x px, .Name y py, .Name z pz] k p] (.Tuple [a, b, d] k2 p2) X.env = pure none := by
  have kk : ∀ x, (X.env.kindOf x == some .local) = c.isLocal x := fun x => by
    show (X.env.scope.names.lookup x == some .local) = c.isLocal x
    unfold SC.isLocal
    rw [C.sc, lkp_lookup]
    cases c.sc.names.lookup x with
    | none => rfl
    | some q => cases q <;> rfl
  unfold swp3 at h
  simp only [swappedStores, okFun O]
  simp only [List.length_cons, List.length_nil, List.head?_cons, Option.map_some, Option.getD_some, Expr.pos, List.filterMap_cons, List.filterMap_nil, kk]
  cases h1 : c.isLocal x <;> cases h2 : c.isLocal y <;> cases h4 : c.isLocal z <;> cases h3 : (py.line == px.line) <;> cases h5 : (pz.line == px.line) <;> simp [h1, h2, h3, h4, h5, Pure.pure] at h ⊢
end
end Cs

/-! A dict is walked: locked meanwhile. -/
namespace Cs
open PySem L2 PySem.Spec
/-- a dict that is not empty -/
def Dn (u : HO) : Prop := (∃ p r, u = .dK (p :: r)) ∨ ∃ p r, u = .dT (p :: r)
theorem Dn.mut {u : HO} (h : Dn u) : Mut (some u) := by
  rcases h with ⟨p, r, rfl⟩ | ⟨p, r, rfl⟩ <;> exact True.intro
def Lk (u u1 : HO) : Prop := u1 = u ∨ ∃ o, u1 = .frz o u
section
variable {K : PySem.W.Frag} {F F1 F' : Hp} {ι ι1 ι' : List Addr} {H H1 H' : Hp} {m m1 m' : Mem} {en : Sto} {σ : L2.St} {a : Addr} {u u1 u2 : HO}
theorem lk_tup (d : Dn u) (l : Lk u u1) {b : Addr} {xs : List V} (h : F a = some u1) (q : Rd F b (.tup xs)) : b ≠ a := by
  rintro rfl
  rcases q with q | ⟨o, q⟩
  · rw [h] at q
    rcases l with rfl | ⟨o, rfl⟩
    · rcases d with ⟨p, r, rfl⟩ | ⟨p, r, rfl⟩ <;> cases q
    · cases q
  · rw [h] at q
    rcases l with rfl | ⟨o, rfl⟩
    · rcases d with ⟨p, r, rfl⟩ | ⟨p, r, rfl⟩ <;> cases q
    · rcases d with ⟨p, r, rfl⟩ | ⟨p, r, rfl⟩ <;> cases q
theorem lk_lst (d : Dn u) (l : Lk u u1) {b : Addr} {xs : List V} (h : F a = some u1) (q : Rd F b (.lst xs)) : b ≠ a := by
  rintro rfl
  rcases q with q | ⟨o, q⟩
  · rw [h] at q
    rcases l with rfl | ⟨o, rfl⟩
    · rcases d with ⟨p, r, rfl⟩ | ⟨p, r, rfl⟩ <;> cases q
    · cases q
  · rw [h] at q
    rcases l with rfl | ⟨o, rfl⟩
    · rcases d with ⟨p, r, rfl⟩ | ⟨p, r, rfl⟩ <;> cases q
    · rcases d with ⟨p, r, rfl⟩ | ⟨p, r, rfl⟩ <;> cases q
theorem Rd.upd {b : Addr} {w : HO} (h : Rd F b w) (hb : b ≠ a) : Rd (upd F a u2) b w := by
  rcases h with h | ⟨o, h⟩
  · exact .inl (by rw [upd_ne hb]; exact h)
  · exact .inr ⟨o, by rw [upd_ne hb]; exact h⟩
theorem lk_rde (d : Dn u) (l1 : Lk u u1) (l2 : Lk u u2) (h : F a = some u1) {b : Addr} {w : HO} (hw : ∀ o v, w ≠ .frz o v) (q : RdE F b w) : RdE (upd F a u2) b w := by
  by_cases hb : b = a
  · subst hb
    have e : w = u := by
      rcases q with q | ⟨_, _, o, q⟩
      · rw [h] at q
        rcases l1 with rfl | ⟨o, rfl⟩
        · exact (Option.some.inj q).symm
        · exact absurd (Option.some.inj q).symm (hw _ _)
      · rw [h] at q
        rcases l1 with rfl | ⟨o', rfl⟩
        · rcases d with ⟨p, r, rfl⟩ | ⟨p, r, rfl⟩ <;> cases q
        · cases q; rfl
    subst e
    rcases l2 with rfl | ⟨o, rfl⟩
    · exact .inl upd_same
    · refine .inr ⟨?_, ?_, o, upd_same⟩
      · rcases d with ⟨p, r, rfl⟩ | ⟨p, r, rfl⟩ <;> exact fun z => by cases z
      · rcases d with ⟨p, r, rfl⟩ | ⟨p, r, rfl⟩ <;> exact fun z => by cases z
  · rcases q with q | ⟨h1, h2, o, q⟩
    · exact .inl (by rw [upd_ne hb]; exact q)
    · exact .inr ⟨h1, h2, o, by rw [upd_ne hb]; exact q⟩
mutual
theorem Rep.swap (d : Dn u) (l1 : Lk u u1) (l2 : Lk u u2) (h : F a = some u1) : ∀ {x : D} {v : V}, Rep K F ι x v → Rep K (upd F a u2) ι x v
  | .non, _, r => by simpa [Rep] using r
  | .bl _, _, r => by simpa [Rep] using r
  | .int _, _, r => by simpa [Rep] using r
  | .str _, _, r => by simpa [Rep] using r
  | .tup ds, _, r => by
    simp only [Rep] at r ⊢
    obtain ⟨b, vs, e, q, t, n, rs⟩ := r
    refine ⟨b, vs, e, ?_, fun z => ?_, fun z => ?_, Reps.swap d l1 l2 h rs⟩
    · rcases q with q | q
      · exact .inl (Rd.upd q (lk_tup d l1 h q))
      · exact .inr q
    · have := t z
      rw [upd_ne (lk_tup d l1 h (.inl this))]
      exact this
    · rcases n z with ⟨o, w, q, r⟩ | q
      · exact .inl ⟨o, w, by rw [upd_ne (lk_tup d l1 h (.inr ⟨o, q⟩))]; exact q, r⟩
      · exact .inr q
  | .lst ds, _, r => by
    simp only [Rep] at r ⊢
    obtain ⟨b, vs, e, q, rs⟩ := r
    exact ⟨b, vs, e, by rw [upd_ne (lk_lst d l1 h (.inl q))]; exact q, Reps.swap d l1 l2 h rs⟩
  | .scr ds, _, r => by
    simp only [Rep] at r ⊢
    obtain ⟨b, vs, e, q, rs⟩ := r
    refine ⟨b, vs, e, ?_, Reps.swap d l1 l2 h rs⟩
    rcases q with q | q
    · exact .inl (Rd.upd q (lk_lst d l1 h q))
    · exact .inr q
  | .dct ks ws, _, r => by
    simp only [Rep] at r ⊢
    obtain ⟨b, e, ⟨kvs, q, e2, rs⟩ | ⟨kvs, q, e2, rs⟩⟩ := r
    · exact ⟨b, e, .inl ⟨kvs, lk_rde d l1 l2 h (fun _ _ z => nomatch z) q, e2, Reps.swap d l1 l2 h rs⟩⟩
    · exact ⟨b, e, .inr ⟨kvs, lk_rde d l1 l2 h (fun _ _ z => nomatch z) q, e2, Reps.swap d l1 l2 h rs⟩⟩
  | .ref n, _, r => by simpa [Rep] using r
theorem Reps.swap (d : Dn u) (l1 : Lk u u1) (l2 : Lk u u2) (h : F a = some u1) : ∀ {xs : List D} {vs : List V}, Reps K F ι xs vs → Reps K (upd F a u2) ι xs vs
  | [], _, r => by simpa [Reps] using r
  | x :: xs, _, r => by
    simp only [Reps] at r ⊢
    obtain ⟨v, w, e, r1, r2⟩ := r
    exact ⟨v, w, e, Rep.swap d l1 l2 h r1, Reps.swap d l1 l2 h r2⟩
end
theorem RepC.swap (d : Dn u) (l1 : Lk u u1) (l2 : Lk u u2) (h : F a = some u1) {c : Cell} {o : HO} (r : RepC K F ι c o) : RepC K (upd F a u2) ι c o := by
  cases c with
  | lst ds =>
    obtain ⟨vs, e, r⟩ := r
    exact ⟨vs, e, r.swap d l1 l2 h⟩
  | dct ks ws =>
    obtain ⟨kvs, e, e2, r⟩ | ⟨kvs, e, e2, r⟩ := r
    · exact .inl ⟨kvs, e, e2, r.swap d l1 l2 h⟩
    · exact .inr ⟨kvs, e, e2, r.swap d l1 l2 h⟩
  | ins _ _ => exact r
theorem SimM.swap (s : SimM K F ι m H) (d : Dn u) (l1 : Lk u u1) (l2 : Lk u u2) (h : F a = some u1) : SimM K (upd F a u2) ι m (upd H a u2) where
  sub := fun b o q => by
    by_cases hb : b = a
    · subst hb; rw [upd_same] at q ⊢; exact q
    · rw [upd_ne hb] at q ⊢; exact s.sub b o q
  len := s.len
  nd := s.nd
  cell := fun n b c e1 e2 => by
    obtain ⟨h1, o, h2, r⟩ := s.cell n b c e1 e2
    have hb : b ≠ a := fun z => by subst z; rw [h] at h1; cases h1
    exact ⟨by rw [upd_ne hb]; exact h1, o, by rw [upd_ne hb]; exact h2, r.swap d l1 l2 h⟩
theorem Sim.swap (s : Sim K F ι en m σ H) (d : Dn u) (l1 : Lk u u1) (l2 : Lk u u2) (h : F a = some u1) : Sim K (upd F a u2) ι en m σ (upd H a u2) :=
  ⟨s.mem.swap d l1 l2 h, s.len, fun i x e => let ⟨v, e1, r⟩ := s.loc i x e; ⟨v, e1, r.swap d l1 l2 h⟩⟩
/-- from the lock back -/
theorem Ext.unlock {o : Obj} (d : Dn u) (h : F a = some u) (hH : H a = some u) (ha : a ∉ ι) (x : Ext (upd F a (.frz o u)) ι (upd H a (.frz o u)) F' ι' H') : F' a = some (.frz o u) ∧ H' a = some (.frz o u) ∧ Ext F ι H (upd F' a u) ι' (upd H' a u) := by
  have f1 : F' a = some (.frz o u) := x.f _ _ upd_same
  have h1 : H' a = some (.frz o u) := x.k _ _ ha upd_same
  refine ⟨f1, h1, fun b w q => ?_, fun b q => ?_, ?_, fun b w hb q => ?_, fun b q => ?_⟩
  · by_cases hb : b = a
    · subst hb; rw [upd_same]; rw [h] at q; exact q
    · rw [upd_ne hb]; exact x.f _ _ (by rw [upd_ne hb]; exact q)
  · by_cases hb : b = a
    · subst hb; exact .inl (by rw [h]; exact fun z => nomatch z)
    · rw [upd_ne hb] at q
      rcases x.n b q with z | z
      · exact .inl (by rw [upd_ne hb] at z; exact z)
      · exact .inr (by rw [upd_ne hb] at z; exact z)
  · obtain ⟨new, e, hn⟩ := x.i
    refine ⟨new, e, fun b hb => ?_⟩
    have := hn b hb
    by_cases hb : b = a
    · subst hb; rw [upd_same] at this; cases this
    · rw [upd_ne hb] at this; exact this
  · by_cases hb : b = a
    · subst hb; rw [upd_same]; rw [hH] at q; exact q
    · rw [upd_ne hb]; exact x.k _ _ (by assumption) (by rw [upd_ne hb]; exact q)
  · by_cases hb : b = a
    · subst hb; rw [upd_same] at q; cases q
    · rw [upd_ne hb] at q
      have := x.t b q
      rw [upd_ne hb] at this
      exact this
end
end Cs
namespace Cs
open PySem L2 PySem.Spec
section
variable {X : Cx} {c : SC} {W : EW} {K : PySem.W.Frag} {F F1 F' : Hp} {ι ι1 ι' : List Addr} {H H1 H' : Hp} {m m1 m' : Mem} {en : Sto} {σ : L2.St} {a : Addr} {u u1 u2 : HO}
theorem kd_rep (k : Key) : Rep K F ι (kd k) (kV k) := by
  cases k with
  | inl i => exact Rep.intI
  | inr i => exact Rep.strI
theorem walk_rep {o : Obj} {kvs : List (Key × V)} (h : F a = some (.frz o (.dK kvs))) : JRep K F ι (Itk a o kvs) [] m (kvs.map fun p => kd p.1) where
  stop := fun F' ι' m' H' x s _ => ⟨s.sub _ _ (x.f _ _ h), by rw [List.length_map]; exact Nat.le_refl _⟩
  go := fun F' ι' m' H' x s _ i d hd => by
    rw [List.getElem?_map] at hd
    obtain ⟨p, h1, rfl⟩ := Option.map_eq_some_iff.mp hd
    have hi : i < kvs.length := by
      by_cases q : i < kvs.length
      · exact q
      · rw [List.getElem?_eq_none (by omega)] at h1; cases h1
    refine ⟨⟨s.sub _ _ (x.f _ _ h), hi⟩, fun y H'' hy => ?_⟩
    obtain ⟨rfl, k, v, h2, rfl⟩ := hy
    rw [h1] at h2
    cases h2
    exact ⟨F', Ext.refl _ _ _, s, kd_rep _⟩
variable {t : Tgt} {ft : FB} {fe : FE} {own : List Nat}
/-- the walk of a locked dict -/
theorem lc_locked {o : Obj} {kvs : List (Key × V)} {i : Nat} {Q : VK} {all : List D} {mE : Mem} (hs : ∀ i ∈ slotsT t, i ∈ own) (s : Sim K F ι en m σ H) (hv : σ[i]? = some (some (.ref a))) (h : F a = some (.frz o (.dK kvs)))
    (q : lcGo t ft fe (Cs.wipe en own) [] m (kvs.map fun p => kd p.1) m = .ok all mE) (hz : all.length ≤ sizeLine)
    (fin : ∀ A F2 ι2 H2 vs, H A = none → Ext F ι H F2 ι2 H2 → SimM K F2 ι2 mE H2 → DS K A F2 ι2 H2 all vs → Q (.ref A) H2) :
    tLc (iKeys (tVar i)) (gT K t) (T K W RB ft) (T K W (RV K) fe) own σ H Q := by
  refine ⟨_, hv, a, o, rfl, .inl ⟨kvs, s.mem.sub _ _ h, fun A hA => ?_⟩⟩
  obtain ⟨hi, hF⟩ := s.mem.notin hA
  refine lc_loop (F0 := F) (ι0 := ι) (H0 := H) (acc0 := []) (vs0 := []) hs (walk_rep h) (s.ext (Ext.grow hA) (s.mem.grow hA)) (Ext.grow hA) hA ⟨upd_same, hF, hi, Reps.nil⟩ q (by simpa using hz) fun F2 ι2 H2 vs x2 s2 g2 d2 => ?_
  exact fin A F2 ι2 H2 vs hA x2 s2 (by simpa using d2)
/-- the locked dict is empty -/
theorem lc_empty {o : Obj} {i : Nat} {Q : VK} (hv : σ[i]? = some (some (.ref a))) (h : H a = some (.frz o (.dK [])) ∨ H a = some (.frz o (.dT []))) (fin : ∀ A, H A = none → Q (.ref A) (upd H A (.lst []))) :
    tLc (iKeys (tVar i)) (gT K t) (T K W RB ft) (T K W (RV K) fe) own σ H Q := by
  refine ⟨_, hv, a, o, rfl, ?_⟩
  rcases h with h | h
  · refine .inl ⟨[], h, fun A hA => ⟨fun i μ H' => H' = upd H A (.lst []), ⟨0, rfl⟩, ?_⟩⟩
    rintro i μ H' rfl
    exact .inl ⟨⟨by rw [upd_ne (fun z => by subst z; rw [hA] at h; cases h)]; exact h, Nat.zero_le _⟩, fin A hA⟩
  · refine .inr ⟨[], h, fun A hA => ⟨fun i μ H' => H' = upd H A (.lst []), ⟨0, rfl⟩, ?_⟩⟩
    rintro i μ H' rfl
    exact .inl ⟨⟨by rw [upd_ne (fun z => by subst z; rw [hA] at h; cases h)]; exact h, Nat.zero_le _⟩, fin A hA⟩
/-- what the comprehension of a name asks: a walk, a walk under lock, a walk of what is locked already -/
def tLcV (wi : TI) (i : Nat) (g : TG) (tt : TT) (te : TE) (own : List Nat) : TE := fun σ H Q => tLc wi g tt te own σ H Q ∨ tLc (iKeys (tVar i)) g tt te own σ H Q ∨ tLockE (tLc (iKeys (tVar i)) g tt te own) σ H Q
theorem lcV_ok {i : Nat} {Q : VK} (hs : ∀ i ∈ slotsT t, i ∈ own) (h : T K W (RN K) (fLc own t (iVar i) ft fe) σ H Q) : tLcV (T K W (RI K) (tagM (iVal (fVar i)))) i (gT K t) (T K W RB ft) (T K W (RV K) fe) own σ H Q := by
  obtain ⟨F, ι, m, en, s, o⟩ := h
  by_cases hd : ∃ ks ws, en[i]? = some (some (.dct ks ws))
  case neg =>
    refine .inl (lc_ok hs ⟨F, ι, m, en, s, ?_⟩)
    have e : iVar i en m = iVal (fVar i) en m := by
      unfold iVar
      split
      · exact absurd ⟨_, _, by assumption⟩ hd
      · rfl
    have : fLc own t (iVar i) ft fe en m = fLc own t (iVal (fVar i)) ft fe en m := by unfold fLc; rw [e]
    rw [← this]
    exact o
  obtain ⟨ks, ws, he⟩ := hd
  obtain ⟨v, hv, r⟩ := s.loc i _ he
  simp only [fLc, iVar, he] at o
  cases hk : ks.all flatK with
  | false => simp only [hk, Bool.false_eq_true, if_false, bnd] at o; exact False.elim o
  | true =>
  simp only [hk, if_true, bnd] at o
  cases q : lcGo t ft fe (Cs.wipe en own) [] m ks m with
  | exc _ _ => simp only [q] at o; exact False.elim o
  | bad => simp only [q] at o; exact False.elim o
  | ok all mE =>
    simp only [q] at o
    by_cases hz : all.length ≤ sizeLine
    case neg => rw [if_neg hz] at o; exact False.elim o
    rw [if_pos hz] at o
    simp only [Rep] at r
    -- the empty one
    have emp : ∀ u : HO, (u = .dK [] ∨ u = .dT []) → ks = [] → ∀ p, v = .ref p → F p = some u → tLockE (tLc (iKeys (tVar i)) (gT K t) (T K W RB ft) (T K W (RV K) fe) own) σ H Q := by
      rintro u hu rfl p rfl hF
      have q : Res.ok ([] : List D) m = .ok all mE := q
      cases q
      have hH := s.mem.sub _ _ hF
      refine ⟨p, u, hH, by rcases hu with rfl | rfl <;> exact True.intro, fun od => lc_empty (a := p) (o := od) hv (by rcases hu with rfl | rfl <;> simp [upd_same]) fun A hA => ?_⟩
      have hAp : A ≠ p := fun z => by subst z; rw [upd_same] at hA; cases hA
      have hA' : H A = none := by rw [upd_ne hAp] at hA; exact hA
      refine ⟨by rw [upd_ne hAp.symm, upd_same], ?_⟩
      have e : upd (upd (upd H p (.frz od u)) A (.lst [])) p u = upd H A (.lst []) := by
        funext b
        by_cases z : b = p
        · subst z; rw [upd_same, upd_ne hAp.symm]; exact hH.symm
        · rw [upd_ne z]
          by_cases z2 : b = A
          · subst z2; rw [upd_same, upd_same]
          · rw [upd_ne z2, upd_ne z2, upd_ne z]
      rw [e]
      obtain ⟨hi, hFA⟩ := s.mem.notin hA'
      exact o.of (Ext.grow hA') (s.mem.grow hA') ⟨A, [], rfl, hA', hFA, hi, upd_same, Reps.nil⟩
    obtain ⟨p, rfl, ⟨kvs, hF, rfl, rs⟩ | ⟨kvs, hF, rfl, rs⟩⟩ := r
    · cases kvs with
      | nil =>
        rcases hF with hF | ⟨h1, _⟩
        · exact .inr (.inr (emp _ (.inl rfl) rfl p rfl hF))
        · exact absurd rfl h1
      | cons kv kvs =>
        rcases hF with hF | ⟨_, _, od, hF⟩
        · refine .inr (.inr ⟨p, _, s.mem.sub _ _ hF, True.intro, fun od => ?_⟩)
          have dn : Dn (.dK (kv :: kvs)) := .inl ⟨_, _, rfl⟩
          have hi : p ∉ ι := fun z => by
            obtain ⟨n, hn⟩ := List.getElem?_of_mem z
            have hl : n < m.length := by
              have := s.mem.len
              have : n < ι.length := by
                by_cases q : n < ι.length
                · exact q
                · rw [List.getElem?_eq_none (by omega)] at hn; cases hn
              omega
            obtain ⟨h1, _⟩ := s.mem.cell n p m[n] hn (List.getElem?_eq_getElem hl)
            rw [hF] at h1; cases h1
          have sl := s.swap dn (.inl rfl) (.inr ⟨od, rfl⟩) hF
          refine lc_locked (a := p) (o := od) hs sl hv upd_same q hz fun A F2 ι2 H2 vs hA x2 s2 d2 => ?_
          obtain ⟨f1, h1, x3⟩ := x2.unlock dn hF (s.mem.sub _ _ hF) hi
          refine ⟨h1, ?_⟩
          have hAp : A ≠ p := fun z => by subst z; rw [upd_same] at hA; cases hA
          have hA' : H A = none := by rw [upd_ne hAp] at hA; exact hA
          exact o.of x3 (s2.swap dn (.inr ⟨od, rfl⟩) (.inl rfl) f1) ⟨A, vs, rfl, hA', by rw [upd_ne hAp]; exact d2.f, d2.i, by rw [upd_ne hAp]; exact d2.h, d2.r.swap dn (.inr ⟨od, rfl⟩) (.inl rfl) f1⟩
        · refine .inr (.inl (lc_locked (a := p) (o := od) hs s hv hF q hz fun A F2 ι2 H2 vs hA x2 s2 d2 => ?_))
          exact o.of x2 s2 ⟨A, vs, rfl, hA, d2.f, d2.i, d2.h, d2.r⟩
    · cases kvs with
      | nil =>
        rcases hF with hF | ⟨_, h1, _⟩
        · exact .inr (.inr (emp _ (.inr rfl) rfl p rfl hF))
        · exact absurd rfl h1
      | cons kv kvs =>
        simp [kdT, flatK] at hk
end
section
variable {X : Cx} {c : SC} {W : EW}
theorem PE.or {e : Expr} {t t' : TE} (h : PE X e t) (h' : PE X e t') : PE X e (fun σ H Q => t σ H Q ∨ t' σ H Q) := ⟨fun pins s σ H Q I q => q.elim (h.run pins s σ H Q I) (h'.run pins s σ H Q I)⟩
theorem PS.or {st : Stmt} {t t' : TS} (h : PS X st t) (h' : PS X st t') : PS X st (fun D σ H => t D σ H ∨ t' D σ H) := ⟨fun pins s σ H D I q => q.elim (h.run pins s σ H D I) (h'.run pins s σ H D I)⟩
variable {elt tg : Expr} {ifs : List Expr} {scope : Scope} {own : List (Str × Nat)} {t : Tgt} {ft : FB} {fe : FE} {n i : Nat} {x : Str} {p pos : Pos}
theorem d_lcV (C : Ctx X c W) (hx : c.slot x = some i) (ok : blkC X.N X.env.scope scope own = true) (hs : ∀ i ∈ slotsT t, i ∈ own.map (·.2)) (ht : tgtX (inner c scope) n tg = some t) (hi : PI X tg (.Name x p) (TJ X W (iVal (fVar i))))
    (hif : ∀ (s : Shared) (H : Hp) (C : Addr) (cl : List (Str × Addr)) (fp : List Addr), PTs (X.blk s H scope (compEnvC scope cl C X.env) fp) ifs (T X.K W RB ft)) (he : ∀ (s : Shared) (H : Hp) (C : Addr) (cl : List (Str × Addr)) (fp : List Addr), PE (X.blk s H scope (compEnvC scope cl C X.env) fp) elt (T X.K W (RV X.K) fe)) :
    PE X (.ListComp elt [⟨tg, .Name x p, ifs, 0⟩] scope pos) (TN X W (fLc (own.map (·.2)) t (iVar i) ft fe)) ∧ SetOk X (.ListComp elt [⟨tg, .Name x p, ifs, 0⟩] scope pos) (TN X W (fLc (own.map (·.2)) t (iVar i) ft fe)) := by
  obtain ⟨v1, v2, v3⟩ := C.slot hx
  have hf : ∀ v, foldedSetIterable (.Name x p) X.env v = pure v := fun v => rfl
  have hg : ∀ (s : Shared) (H : Hp) (Cc : Addr) (cl : List (Str × Addr)) (fp : List Addr), PG (X.blk s H scope (compEnvC scope cl Cc X.env) fp) tg (gT X.K t) := fun s H Cc cl fp => d_tgt (W := W) (C.blk s H scope Cc cl fp) n tg t ht
  have hk : PI X tg (.Name x p) (iKeys (tVar i)) := pi_keys (pe_var v1 v2 (okN_debug v3) (okN_dict v3))
  have p1 := pe_lc C.calm C.nd hi (blkOk_by ok) hg hif he hf (pos := pos)
  have p2 := pe_lc C.calm C.nd hk (blkOk_by ok) hg hif he hf (pos := pos)
  have main : PE X (.ListComp elt [⟨tg, .Name x p, ifs, 0⟩] scope pos) (TN X W (fLc (own.map (·.2)) t (iVar i) ft fe)) := PE.weak (PE.or p1 (PE.or p2 (pe_lock p2))) fun σ H Q h => lcV_ok hs h
  refine ⟨main, fun i' x' p' pos' h1 h2 h3 => set_by (fun h => ps_set C.nd h1 h2 main h h3) fun hl h => ?_⟩
  have q1 := ps_setLc C.calm C.nd h1 hl h hi (blkOk_by ok) hg hif he hf
  have q2 := ps_setLc C.calm C.nd h1 hl h hk (blkOk_by ok) hg hif he hf
  refine PS.weak (PS.or q1 (PS.or q2 (ps_lock q2))) fun D σ H h => ?_
  rcases lcV_ok hs h with h | h | ⟨d, u, h1, h2, h⟩
  · exact .inl h
  · exact .inr (.inl h)
  · exact .inr (.inr ⟨d, u, h1, h2, fun od => h od⟩)
end
end Cs

/-! The interpreter keeps its word. -/
namespace Cs
open PySem L2 PySem.Spec
/-- the defs that may be called keep what the interpreter says of them -/
def Calls (X : Cx) (c : SC) : Prop := ∀ x, c.fn x = true → CallOk X (c.call x) x
/-- an expression's rules -/
structure EOk (X : Cx) (W : EW) (f : Expr → FE) (e : Expr) : Prop where
  pe : PE X e (TV X W (f e))
  pn : fresh e = true → PE X e (TN X W (f e))
  st : SetOk X e (TV X W (f e))
  sn : fresh e = true → SetOk X e (TN X W (f e))
  pt : ∀ a ops bs pos, e = .Compare a ops bs pos → PT X e (TBl X W (fTr (f e)))
def SndE (r : Ev) : Prop := ∀ X c W, Ctx X c W → Calls X c → ∀ e, EOk X W (r.e c) e
def SndS (r : Ev) : Prop := ∀ X c W, Ctx X c W → Calls X c → ∀ l, PSs X l (TQ X W (r.s c l))
section
variable {X : Cx} {c : SC} {W : EW} {a b e tg : Expr} {fa fb f : FE} {pos : Pos} {r : Ev}
theorem SetOk.bad {t : TE} (h : ∀ σ H Q, t σ H Q → False) : SetOk X e t := fun _ _ _ _ _ _ _ => ⟨fun _ _ _ _ _ _ q => (h _ _ _ q).elim⟩
theorem bad_no {K : PySem.W.Frag} {R : AR D V} {σ : L2.St} {H : Hp} {Q : VK} (h : T K W R fBad σ H Q) : False := by
  obtain ⟨_, _, _, _, _, o⟩ := h
  exact o
theorem SetOk.frz (h : SetOk X e (TN X W f)) : SetOk X e (TV X W f) := h.weak fun σ H Q q => Cs.frz q
/-- an expression whose answer is nothing new -/
theorem EOk.one {g : Expr → FE} (C : Ctx X c W) (hn : noComp e = true) (hf : fresh e = false) (hc : ∀ a ops bs pos, e ≠ .Compare a ops bs pos) (h : PE X e (TV X W (g e))) : EOk X W g e :=
  ⟨h, fun z => (by rw [hf] at z; cases z), SetOk.of C hn h, fun z => (by rw [hf] at z; cases z), fun a ops bs pos z => absurd z (hc a ops bs pos)⟩
/-- an expression whose answer may be new -/
theorem EOk.new {g : Expr → FE} (C : Ctx X c W) (hn : noComp e = true) (hc : ∀ a ops bs pos, e ≠ .Compare a ops bs pos) (h : PE X e (TN X W (g e))) : EOk X W g e :=
  ⟨PE.frz h, fun _ => h, SetOk.of C hn (PE.frz h), fun _ => SetOk.of C hn h, fun a ops bs pos z => absurd z (hc a ops bs pos)⟩
theorem EOk.bad {g : Expr → FE} (hg : g e = fBad) : EOk X W g e := by
  refine ⟨?_, fun _ => ?_, ?_, fun _ => ?_, fun _ _ _ _ _ => ?_⟩
  · rw [hg]; exact d_bad
  · rw [hg]; exact d_badN
  · rw [hg]; exact SetOk.bad fun _ _ _ h => bad_no h
  · rw [hg]; exact SetOk.bad fun _ _ _ h => bad_no h
  · rw [hg]; exact ⟨fun _ _ _ _ _ _ ⟨_, _, _, _, _, o⟩ => False.elim o⟩
theorem Calls.blk (K : Calls X c) (s : Shared) (H : Hp) (scope : Scope) (cenv : PySem.Env) (fp : List Addr) : Calls (X.blk s H scope cenv fp) (inner c scope) := fun x h => ⟨(K x h).ok⟩
theorem tst_of (S : SndE r) (C : Ctx X c W) (K : Calls X c) (n : Nat) (e : Expr) : PT X e (TBl X W (tstX (r.e c) n e)) := (tst_ok (r.e c) (fun e => (S X c W C K e).pe) (fun a ops bs pos => (S X c W C K _).pt a ops bs pos rfl) n e).1
theorem it_of (S : SndE r) (C : Ctx X c W) (K : Calls X c) (tg e : Expr) : PI X tg e (TJ X W (iterX c (r.e c) tg e)) := by
  have hp := fun e => (S X c W C K e).pe
  have bad : ∀ {e}, PI X tg e (TJ X W fun _ _ => .bad) := fun {e} => ⟨fun _ _ _ _ _ _ ⟨_, _, _, _, _, o⟩ => False.elim o⟩
  unfold iterX
  split
  · rename_i x p args pos
    split
    · rename_i h
      simp only [Bool.and_eq_true] at h
      split
      · split
        · exact d_rng1 C h.2 h.1.1 h.1.2 (by assumption) (hp _)
        · exact bad
      · split
        · exact d_rng2 C h.2 h.1.1 h.1.2 (by assumption) (hp _) (hp _)
        · exact bad
      · exact bad
    · split
      · rename_i h
        simp only [Bool.and_eq_true] at h
        split
        · split
          · exact d_zip C h.2 h.1.1 h.1.2 (by assumption) (hp _) (hp _)
          · exact bad
        · exact bad
      · split
        · rename_i h
          simp only [Bool.and_eq_true] at h
          split
          · split
            · exact d_enum C h.2 h.1.1 h.1.2 (by assumption) (hp _)
            · exact bad
          · exact bad
        · exact d_val (hp _)
  · split
    · exact d_val (hp _)
    · exact bad
theorem slots_ok {own : List Nat} {is : List Nat} (h : is.all (fun i => own.contains i) = true) : ∀ i ∈ is, i ∈ own := fun i hi => by
  have := List.all_eq_true.mp h i hi
  simpa using this
theorem lc_of (S : SndE r) (C : Ctx X c W) (K : Calls X c) (elt : Expr) (gs : List Comprehension) (scope : Scope) (pos : Pos) {g : Expr → FE} (hgv : g (.ListComp elt gs scope pos) = lcX c r.e elt gs scope) : EOk X W g (.ListComp elt gs scope pos) := by
  have bad : lcX c r.e elt gs scope = fBad → EOk X W g (.ListComp elt gs scope pos) := fun h => EOk.bad (hgv.trans h)
  have fin : ∀ {f : FE}, lcX c r.e elt gs scope = f → PE X (.ListComp elt gs scope pos) (TN X W f) ∧ SetOk X (.ListComp elt gs scope pos) (TN X W f) → EOk X W g (.ListComp elt gs scope pos) := fun {f} e h => by
    have e := hgv.trans e
    refine ⟨?_, fun _ => ?_, ?_, fun _ => ?_, fun _ _ _ _ z => (by cases z)⟩
    · rw [e]; exact PE.frz h.1
    · rw [e]; exact h.1
    · rw [e]; exact h.2.frz
    · rw [e]; exact h.2
  have pe : ∀ (e : Expr) (s : Shared) (H : Hp) (Cc : Addr) (cl : List (Str × Addr)) (fp : List Addr), PE (X.blk s H scope (compEnvC scope cl Cc X.env) fp) e (T X.K W (RV X.K) (r.e (inner c scope) e)) :=
    fun e s H Cc cl fp => (S _ _ W (C.blk s H scope Cc cl fp) (K.blk s H scope _ fp) e).pe
  have pt : ∀ (ifs : List Expr) (s : Shared) (H : Hp) (Cc : Addr) (cl : List (Str × Addr)) (fp : List Addr), PTs (X.blk s H scope (compEnvC scope cl Cc X.env) fp) ifs (T X.K W RB (ifsX (tstX (r.e (inner c scope)) tstN) ifs)) :=
    fun ifs s H Cc cl fp => d_ifs (X := X.blk s H scope (compEnvC scope cl Cc X.env) fp) _ (fun e => tst_of S (C.blk s H scope Cc cl fp) (K.blk s H scope _ fp) tstN e) ifs
  have hN : X.N = c.N := C.N
  have hsc : X.env.scope = c.sc := C.sc
  match gs with
  | [⟨tg, it, ifs, k⟩] =>
    by_cases hk0 : k = 0
    case neg => exact bad (by simp only [lcX, hk0, if_false])
    subst hk0
    cases ht : tgtX (inner c scope) 16 tg with
    | none => exact bad (by simp only [lcX, if_true, lc1X, ht])
    | some t =>
      cases hk : (noSet it && blkC c.N c.sc scope (ownX c.N scope) && (slotsT t).all fun i => ((ownX c.N scope).map (·.2)).contains i) with
      | false => exact bad (by simp only [lcX, if_true, lc1X, ht, hk, Bool.false_eq_true, if_false])
      | true =>
        refine fin (f := fLc ((ownX c.N scope).map (·.2)) t (iterV c (r.e c) tg it) (ifsX (tstX (r.e (inner c scope)) tstN) ifs) (r.e (inner c scope) elt)) (by simp only [lcX, if_true, lc1X, ht, hk]) ?_
        simp only [Bool.and_eq_true] at hk
        have old := d_lc (W := W) (pos := pos) C hk.1.1 (by rw [hN, hsc]; exact hk.1.2) (slots_ok hk.2) ht (it_of S C K tg it) (pt ifs) (pe elt)
        unfold iterV
        split
        · rename_i x p
          split
          · rename_i i hx
            exact d_lcV C hx (by rw [hN, hsc]; exact hk.1.2) (slots_ok hk.2) ht (d_val (d_var C hx)) (pt ifs) (pe elt)
          · exact old
        · exact old
  | [⟨tg, it, ifs, k⟩, ⟨tg1, it1, ifs1, k1⟩] =>
    by_cases hk0 : k = 0
    case neg => exact bad (by simp only [lcX, hk0, if_false])
    by_cases hk1 : k1 = 0
    case neg => exact bad (by simp only [lcX, hk1, if_false, ite_self])
    subst hk0
    subst hk1
    cases ht : tgtX (inner c scope) 16 tg with
    | none => exact bad (by simp only [lcX, if_true, lc2X, ht])
    | some t =>
      cases ht1 : tgtX (inner c scope) 16 tg1 with
      | none => exact bad (by simp only [lcX, if_true, lc2X, ht, ht1])
      | some t1 =>
        cases hk : (noSet it && noSet it1 && blkC c.N c.sc scope (ownX c.N scope) && ((slotsT t).all fun i => ((ownX c.N scope).map (·.2)).contains i) && (slotsT t1).all fun i => ((ownX c.N scope).map (·.2)).contains i) with
        | false => exact bad (by simp only [lcX, if_true, lc2X, ht, ht1, hk, Bool.false_eq_true, if_false])
        | true =>
          refine fin (f := fLc2 ((ownX c.N scope).map (·.2)) t (iterX c (r.e c) tg it) (ifsX (tstX (r.e (inner c scope)) tstN) ifs) (slotsT t1) t1 (iterX (inner c scope) (r.e (inner c scope)) tg1 it1) (ifsX (tstX (r.e (inner c scope)) tstN) ifs1) (r.e (inner c scope) elt)) (by simp only [lcX, if_true, lc2X, ht, ht1, hk]) ?_
          simp only [Bool.and_eq_true] at hk
          exact d_lc2 C hk.1.1.1.1 hk.1.1.1.2 (by rw [hN, hsc]; exact hk.1.1.2) (slots_ok hk.1.2) (slots_ok hk.2) ht ht1 (it_of S C K tg it) (pt ifs) (pe elt)
            (fun s H Cc cl fp => it_of S (C.blk s H scope Cc cl fp) (K.blk s H scope _ fp) tg1 it1) (pt ifs1)
  | [] => exact bad rfl
  | ⟨_, _, _, _⟩ :: ⟨_, _, _, _⟩ :: _ :: _ => exact bad rfl
theorem decide_lt20 {n : Nat} (h : decide (n < 20) = true) : n < 20 := of_decide_eq_true h
theorem call_of (S : SndE r) (C : Ctx X c W) (K : Calls X c) (x : Str) (p : Pos) (args : List Expr) (pos : Pos) {g : Expr → FE} (hgv : g (.Call (.Name x p) args [] pos) = callX c (r.e c) x args) : EOk X W g (.Call (.Name x p) args [] pos) := by
  have hp := fun e => (S X c W C K e).pe
  have bad : callX c (r.e c) x args = fBad → EOk X W g (.Call (.Name x p) args [] pos) := fun h => EOk.bad (hgv.trans h)
  have new : ∀ {f : FE}, callX c (r.e c) x args = f → PE X (.Call (.Name x p) args [] pos) (TN X W f) → EOk X W g (.Call (.Name x p) args [] pos) := fun {f} e h => EOk.new C rfl (fun _ _ _ _ z => by cases z) (by rw [hgv, e]; exact h)
  cases h0 : c.gl x && noStar args with
  | false => exact bad (by simp only [callX, h0, Bool.false_eq_true, if_false])
  | true =>
    have h0' := h0
    rw [Bool.and_eq_true] at h0'
    obtain ⟨hg, hs⟩ := h0'
    cases h1 : c.fn x && !mkName x with
    | true =>
      have e : callX c (r.e c) x args = fCall c.call x (listF (r.e c) args) := by simp only [callX, h0, h1, if_true]
      rw [Bool.and_eq_true] at h1
      have hf : fresh (.Call (.Name x p) args [] pos) = false := by
        show mkName x = false
        simpa using h1.2
      refine EOk.one C rfl hf (fun _ _ _ _ z => by cases z) ?_
      rw [hgv, e]
      cases args with
      | nil => exact d_call0 C (K x h1.1) hg
      | cons a es => exact d_call C (K x h1.1) hg hs (a_list (r.e c) hp _ hs)
    | false =>
      cases h2 : c.bl x with
      | false => exact bad (by simp only [callX, h0, h1, h2, Bool.false_eq_true, if_false, if_true])
      | true =>
        cases args with
        | nil => exact bad (by simp only [callX, h0, h1, h2, Bool.false_eq_true, if_false, if_true])
        | cons a es =>
          cases h3 : strEq x "isinstance" with
          | true =>
            match es with
            | [] => exact bad (by simp only [callX, h0, h1, h2, h3, Bool.false_eq_true, if_false, if_true])
            | b :: b2 :: es => exact bad (by
                cases b <;> simp only [callX, h0, h1, h2, h3, Bool.false_eq_true, if_false, if_true])
            | [b] =>
              cases b with
              | Name t p2 =>
                cases h4 : c.gl t && c.bl t with
                | false => exact bad (by simp only [callX, h0, h1, h2, h3, h4, Bool.false_eq_true, if_false, if_true])
                | true =>
                  cases h5 : lkp t tyTab with
                  | none => exact bad (by simp only [callX, h0, h1, h2, h3, h4, h5, Bool.false_eq_true, if_false, if_true])
                  | some ty =>
                    have e : callX c (r.e c) x [a, .Name t p2] = fIsi ty (r.e c a) := by simp only [callX, h0, h1, h2, h3, h4, h5, Bool.false_eq_true, if_false, if_true]
                    rw [Bool.and_eq_true] at h4
                    have hf : fresh (.Call (.Name x p) [a, .Name t p2] [] pos) = false := by
                      show mkName x = false
                      rw [strEq_eq h3]
                      decide +kernel
                    refine EOk.one C rfl hf (fun _ _ _ _ z => by cases z) ?_
                    rw [hgv, e]
                    exact d_isi C h3 h5 hg h2 h4.1 h4.2 (noStar_hd hs) (hp a)
              | _ => exact bad (by simp only [callX, h0, h1, h2, h3, Bool.false_eq_true, if_false, if_true])
          | false =>
            cases h4 : lkp x bltTab with
            | none => exact bad (by simp only [callX, h0, h1, h2, h3, h4, Bool.false_eq_true, if_false, if_true])
            | some b =>
              exact new (f := fBlt b (listF (r.e c) (a :: es))) (by simp only [callX, h0, h1, h2, h3, h4, Bool.false_eq_true, if_false, if_true]) (d_blt C h4 hg h2 hs (a_list (r.e c) hp _ hs))
theorem mth_of (S : SndE r) (C : Ctx X c W) (K : Calls X c) (o : Expr) (name : Str) (apos pos : Pos) (args : List Expr) {g : Expr → FE} (hgv : g (.Call (.Attribute o name apos) args [] pos) = mthX (r.e c) o name apos pos args) : EOk X W g (.Call (.Attribute o name apos) args [] pos) := by
  have hp := fun e => (S X c W C K e).pe
  have bad : mthX (r.e c) o name apos pos args = fBad → EOk X W g (.Call (.Attribute o name apos) args [] pos) := fun h => EOk.bad (hgv.trans h)
  cases h : noStar args && attrOk o && (apos.endLine == pos.line) && decide (args.length < 20) with
  | false => exact bad (by simp only [mthX, h, Bool.false_eq_true, if_false])
  | true =>
    cases h1 : lkp name mthTab with
    | none => exact bad (by simp only [mthX, h, h1, if_true])
    | some b =>
      have e : mthX (r.e c) o name apos pos args = fMth b (r.e c o) (listF (r.e c) args) := by simp only [mthX, h, h1, if_true]
      simp only [Bool.and_eq_true, decide_eq_true_eq] at h
      refine EOk.one C rfl rfl (fun _ _ _ _ z => by cases z) ?_
      rw [hgv, e]
      exact d_mth C h1 h.1.1.1 h.1.1.2 h.1.2 h.2 (hp o) (a_list (r.e c) hp _ h.1.1.1)
theorem cmp_zip {ops : List CmpOp} {bs : List Expr} (h : ops.length = bs.length) (f : Expr → FE) : ∃ l : List (CmpOp × Expr × FE), ops = l.map (·.1) ∧ bs = l.map (·.2.1) ∧ (∀ p ∈ l, p.2.2 = f p.2.1) ∧ ops.zip (bs.map f) = l.map fun p => (p.1, p.2.2) := by
  refine ⟨(ops.zip bs).map fun p => (p.1, p.2, f p.2), ?_, ?_, ?_, ?_⟩
  · rw [List.map_map]
    exact (List.map_fst_zip (Nat.le_of_eq h)).symm
  · rw [List.map_map]
    exact (List.map_snd_zip (Nat.le_of_eq h.symm)).symm
  · intro p hp
    obtain ⟨q, _, rfl⟩ := List.mem_map.mp hp
    rfl
  · rw [List.map_map, List.zip_map_right]
    rfl
theorem stE_ok (S : SndE r) (C : Ctx X c W) (K : Calls X c) : ∀ e, EOk X W (stE r.e c) e := by
  have hp := fun e => (S X c W C K e).pe
  intro e
  cases e with
  | Name x p =>
    refine EOk.one C rfl rfl (fun _ _ _ _ z => by cases z) ?_
    show PE X _ (TV X W (match c.slot x with
      | some i => fVar i
      | none => if c.gl x then (match c.G x with | some d => fCon d | none => fBad) else fBad))
    cases h : c.slot x with
    | some i => exact d_var C h
    | none =>
      simp only
      split
      · rename_i hg
        cases h2 : c.G x with
        | some d => exact d_glob C hg h2
        | none => exact d_bad
      · exact d_bad
  | Constant k n p =>
    refine EOk.one C rfl rfl (fun _ _ _ _ z => by cases z) ?_
    cases k with
    | none => exact d_non
    | bool b => exact d_bl
    | int i => exact d_int
    | str s => exact d_str
    | _ => exact d_bad
  | BinOp a op b p => exact EOk.new C rfl (fun _ _ _ _ z => by cases z) (d_bin (hp a) (hp b))
  | UnaryOp op a p =>
    refine EOk.one C rfl rfl (fun _ _ _ _ z => by cases z) ?_
    cases op with
    | USub => exact d_neg (hp a)
    | Not => exact d_notV (hp a)
    | _ => exact d_bad
  | BoolOp op vs p =>
    refine EOk.one C rfl rfl (fun _ _ _ _ z => by cases z) ?_
    cases op with
    | And => exact d_boolA (r.e c) vs fun v _ => hp v
    | Or => exact d_boolO (r.e c) vs fun v _ => hp v
  | Compare a ops bs p =>
    have bad : stE r.e c (.Compare a ops bs p) = fBad → EOk X W (stE r.e c) (.Compare a ops bs p) := EOk.bad
    have fin : ∀ {f : FE}, stE r.e c (.Compare a ops bs p) = f → PE X (.Compare a ops bs p) (TV X W f) → PT X (.Compare a ops bs p) (TBl X W (fTr f)) → EOk X W (stE r.e c) (.Compare a ops bs p) := fun {f} e h1 h2 =>
      ⟨by rw [e]; exact h1, fun z => (by cases z), SetOk.of C rfl (by rw [e]; exact h1), fun z => (by cases z), fun _ _ _ _ _ => (by rw [e]; exact h2)⟩
    match ops, bs with
    | [op], [b] =>
      cases h : noSet b with
      | false => exact bad (by simp only [stE, h, Bool.false_eq_true, if_false])
      | true => exact fin (f := fCmp op (r.e c a) (r.e c b)) (by simp only [stE, h, if_true]) (d_cmp C h (hp a) (hp b)) (tst_cmp1 C h (hp a) (hp b))
    | op :: op' :: ops, b :: d :: bs =>
      cases h : decide (ops.length = bs.length) && (b :: d :: bs).all noSet with
      | false => exact bad (by simp only [stE, h, Bool.false_eq_true, if_false])
      | true =>
        have e : stE r.e c (.Compare a (op :: op' :: ops) (b :: d :: bs) p) = fCmpN (r.e c a) ((op, r.e c b) :: (op', r.e c d) :: ops.zip (bs.map (r.e c))) := by simp only [stE, h, if_true]
        rw [Bool.and_eq_true, decide_eq_true_eq] at h
        obtain ⟨l, e1, e2, e3, e4⟩ := cmp_zip h.1 (r.e c)
        have hl : 2 ≤ ((op, b, r.e c b) :: (op', d, r.e c d) :: l).length := by simp
        have hmem : ∀ q ∈ (op, b, r.e c b) :: (op', d, r.e c d) :: l, PE X q.2.1 (TV X W q.2.2) := fun q hq => by
          rcases List.mem_cons.mp hq with z | hq
          · rw [z]; exact hp b
          · rcases List.mem_cons.mp hq with z | hq
            · rw [z]; exact hp d
            · rw [e3 q hq]; exact hp _
        have hns : (((op, b, r.e c b) :: (op', d, r.e c d) :: l).map (·.2.1)).all noSet = true := by
          rw [List.map_cons, List.map_cons, ← e2]; exact h.2
        have g1 := d_cmpN (pos := p) C hl hns (hp a) hmem
        have g2 := tst_cmpN (pos := p) C hl hns (hp a) hmem
        simp only [List.map_cons] at g1 g2
        rw [← e1, ← e2, ← e4] at g1 g2
        exact fin e g1 g2
    | [], _ => exact bad (by cases bs <;> rfl)
    | [_], [] => exact bad rfl
    | [_], _ :: _ :: _ => exact bad rfl
    | _ :: _ :: _, [] => exact bad rfl
    | _ :: _ :: _, [_] => exact bad rfl
  | IfExp t a b p => exact EOk.one C rfl rfl (fun _ _ _ _ z => by cases z) (d_ifExp (tst_of S C K tstN t) (hp a) (hp b))
  | Call fn args kws pos =>
    cases kws with
    | cons k ks => exact EOk.bad (by cases fn <;> rfl)
    | nil =>
      cases fn with
      | Name x p => exact call_of S C K x p args pos rfl
      | Attribute o name apos => exact mth_of S C K o name apos pos args rfl
      | _ => exact EOk.bad rfl
  | Subscript a i p =>
    have ix : plainIx i = true → stE r.e c (.Subscript a i p) = fIx (r.e c a) (r.e c i) → fresh (.Subscript a i p) = false → EOk X W (stE r.e c) (.Subscript a i p) := fun h e hf => EOk.one C rfl hf (fun _ _ _ _ z => by cases z) (by rw [e]; exact d_ix C h (hp a) (hp i))
    cases i with
    | Slice lo hi st p2 =>
      cases st with
      | none => exact EOk.new C rfl (fun _ _ _ _ z => by cases z) (d_sl C (r.e c) hp (hp a))
      | some _ => exact EOk.bad rfl
    | _ => exact ix rfl rfl rfl
  | Tuple es k p =>
    cases h : noStar es with
    | false => exact EOk.bad (by simp only [stE, h, Bool.false_eq_true, if_false])
    | true => exact EOk.one C rfl rfl (fun _ _ _ _ z => by cases z) (by
        have e : stE r.e c (.Tuple es k p) = fTup (listF (r.e c) es) := by simp only [stE, h, if_true]
        rw [e]; exact d_tup (a_list (r.e c) hp es h))
  | List es p =>
    cases h : noStar es with
    | false => exact EOk.bad (by simp only [stE, h, Bool.false_eq_true, if_false])
    | true => exact EOk.new C rfl (fun _ _ _ _ z => by cases z) (by
        have e : stE r.e c (.List es p) = fLst (listF (r.e c) es) := by simp only [stE, h, if_true]
        rw [e]; exact d_lst (a_list (r.e c) hp es h))
  | Dict ks vs p =>
    match ks, vs with
    | [], [] => exact EOk.new C rfl (fun _ _ _ _ z => by cases z) d_dct0
    | [], _ :: _ => exact EOk.bad rfl
    | _ :: _, [] => exact EOk.bad rfl
    | k :: ks, v :: vs =>
      cases h : decide ((k :: ks).length ≤ 15) with
      | false => exact EOk.bad (by simp only [stE, h, Bool.false_eq_true, if_false])
      | true =>
        cases h1 : dctX (r.e c) (k :: ks) (v :: vs) with
        | none => exact EOk.bad (by simp only [stE, h, h1, if_true])
        | some fs => exact EOk.new C rfl (fun _ _ _ _ z => by cases z) (by
            have e : stE r.e c (.Dict (k :: ks) (v :: vs) p) = fDct fs := by simp only [stE, h, h1, if_true]
            rw [e]; exact d_dct (r.e c) hp h1 (fun z => nomatch z) (of_decide_eq_true h))
  | ListComp elt gs scope p => exact lc_of S C K elt gs scope p rfl
  | _ => exact EOk.bad rfl
end
end Cs

/-! The interpreter keeps its word: statements. -/
namespace Cs
open PySem L2 PySem.Spec
section
variable {X : Cx} {c : SC} {W : EW} {a b e tg : Expr} {fa fb f : FE} {pos : Pos} {r : Ev}
theorem q_bad {st : Stmt} : PS X st (TQ X W sBad) := ⟨fun _ _ _ _ _ _ ⟨_, _, _, _, _, o⟩ => False.elim o⟩
theorem qs_bad {st : List Stmt} : PSs X st (TQ X W sBad) := ⟨fun _ _ _ _ _ _ ⟨_, _, _, _, _, o⟩ => False.elim o⟩
theorem al_ok (S : SndE r) (C : Ctx X c W) (K : Calls X c) (x : Str) (e : Expr) : PE X e (TV X W (alX c (r.e c) x e)) ∧ SetOk X e (TV X W (alX c (r.e c) x e)) := by
  have h := S X c W C K e
  unfold alX
  split
  · split
    · rename_i hf
      exact ⟨PE.weak (h.pn hf) fun σ H Q q => newT q, (h.sn hf).weak fun σ H Q q => newT q⟩
    · exact ⟨d_bad, SetOk.bad fun _ _ _ h => bad_no h⟩
  · exact ⟨h.pe, h.st⟩
theorem set_of (S : SndE r) (C : Ctx X c W) (K : Calls X c) (x : Str) (p pos : Pos) (e : Expr) : PS X (.Assign [.Name x p] e pos) (TQ X W (setX c (r.e c) x e)) := by
  unfold setX
  split
  · rename_i i hi
    exact q_set C hi (al_ok S C K x e).2
  · exact q_bad
theorem sole_no {t : Expr} (h : noComp e = true) (l : Nat) : swapsWithSole [t] e l X.env = pure false := sw_no h _ _
theorem sole_tup {es : List Expr} {k : Nat} {p : Pos} (l : Nat) : swapsWithSole [.Tuple es k p] e l X.env = pure false := by
  cases e <;> rfl
theorem sole_sub {o i : Expr} {p : Pos} (l : Nat) : swapsWithSole [.Subscript o i p] e l X.env = pure false := by
  cases e <;> rfl
theorem asgT_of (S : SndE r) (C : Ctx X c W) (K : Calls X c) {es : List Expr} {k : Nat} {p pos : Pos} (e : Expr) (hw : swappedStores [.Tuple es k p] e X.env = pure none) : PS X (.Assign [.Tuple es k p] e pos) (TQ X W (asgT c (r.e c) (.Tuple es k p) e)) := by
  unfold asgT
  cases h : tgtX c 16 (.Tuple es k p) with
  | none => exact q_bad
  | some t => exact q_asg C h (S X c W C K e).pe (sole_tup _) hw
theorem alL_of (S : SndE r) (C : Ctx X c W) (K : Calls X c) : ∀ (es vs : List Expr), noStar vs = true → PA X vs (TLs X W (alL c (r.e c) es vs))
  | es, [], _ => by
    cases es <;> exact a_nil
  | [], v :: vs, h => a_cons (noStar_hd h) (S X c W C K v).pe (alL_of S C K [] vs (noStar_tl h))
  | t :: es, v :: vs, h => by
    have ih := alL_of S C K es vs (noStar_tl h)
    cases t with
    | Name x p => exact a_cons (noStar_hd h) (al_ok S C K x v).1 ih
    | _ => exact a_cons (noStar_hd h) (S X c W C K v).pe ih
theorem asgP_of (S : SndE r) (C : Ctx X c W) (K : Calls X c) {es es' vs : List Expr} {k k2 : Nat} {p p2 pos : Pos} (hs : noStar vs = true) (hw : swappedStores [.Tuple es k p] (.Tuple vs k2 p2) X.env = pure none) : PS X (.Assign [.Tuple es k p] (.Tuple vs k2 p2) pos) (TQ X W (asgP c (r.e c) (.Tuple es k p) es' vs)) := by
  unfold asgP
  cases h : tgtX c 16 (.Tuple es k p) with
  | none => exact q_bad
  | some t => exact q_asg C h (d_tup (alL_of S C K es' vs hs)) (sole_tup _) hw
theorem par_of (S : SndE r) (C : Ctx X c W) (K : Calls X c) {es vs : List Expr} {k k2 : Nat} {p p2 pos : Pos} : PS X (.Assign [.Tuple es k p] (.Tuple vs k2 p2) pos) (TQ X W (parX c (r.e c) (.Tuple es k p) (.Tuple vs k2 p2) es vs)) := ps_ok fun O => by
  unfold parX
  cases hs : noStar vs with
  | false => exact q_bad
  | true =>
    cases hf : foldS vs with
    | true => exact asgP_of S C K hs (sw_fold hs hf)
    | false =>
      simp only [Bool.not_true, Bool.false_eq_true, if_false]
      split
      · rename_i x px y py a b
        cases h1 : swp2 c x y px py with
        | false => simp only [Bool.false_eq_true, if_false]; exact asgP_of S C K hs (sw_two O C hs h1)
        | true =>
          simp only [if_true]
          cases h2 : foldC [a, b] with
          | true => simp only [if_true]; exact q_bad
          | false =>
            simp only [Bool.false_eq_true, if_false]
            cases hi : c.slotW x with
            | none => exact q_bad
            | some i =>
              cases hj : c.slotW y with
              | none => exact q_bad
              | some j =>
                simp only
                cases h3 : decide (i ≠ j) && !strEq x y with
                | false => simp only [Bool.false_eq_true, if_false]; exact q_bad
                | true =>
                  simp only [if_true]
                  rw [Bool.and_eq_true, decide_eq_true_eq] at h3
                  exact q_par2 C hi hj h3.1 (str_ne h3.2) h1 hs hf h2 (al_ok S C K x a).1 (al_ok S C K y b).1
      · rename_i x px y py z pz a b d
        cases h1 : swp3 c x y z px py pz with
        | false => simp only [Bool.false_eq_true, if_false]; exact asgP_of S C K hs (sw_three O C hs h1)
        | true =>
          simp only [if_true]
          cases h2 : foldC [a, b, d] with
          | true => simp only [if_true]; exact q_bad
          | false =>
            simp only [Bool.false_eq_true, if_false]
            cases hi : c.slotW x with
            | none => exact q_bad
            | some i =>
              cases hj : c.slotW y with
              | none => exact q_bad
              | some j =>
                cases hl : c.slotW z with
                | none => exact q_bad
                | some l =>
                  simp only
                  cases h3 : decide (i ≠ j) && decide (i ≠ l) && decide (j ≠ l) && !strEq x y && !strEq x z && !strEq y z with
                  | false => simp only [Bool.false_eq_true, if_false]; exact q_bad
                  | true =>
                    simp only [if_true]
                    simp only [Bool.and_eq_true, decide_eq_true_eq] at h3
                    exact q_par3 C hi hj hl h3.1.1.1.1.1 h3.1.1.1.1.2 h3.1.1.1.2 (str_ne h3.1.1.2) (str_ne h3.1.2) (str_ne h3.2) h1 hs hf h2 (al_ok S C K x a).1 (al_ok S C K y b).1 (al_ok S C K z d).1
      · split
        · exact q_bad
        · rename_i h1
          exact asgP_of S C K hs (sw_len (by simpa using h1))
theorem stS_ok (S : SndE r) (Z : SndS r) (C : Ctx X c W) (K : Calls X c) : ∀ st, PS X st (TQ X W (stS r c st)) := by
  have hp := fun e => (S X c W C K e).pe
  have hq := Z X c W C K
  intro st
  cases st with
  | Expr e p =>
    cases e with
    | Constant k n p2 =>
      cases k with
      | str x => exact q_nx ps_doc
      | _ => exact q_bad
    | Call fn args kws p2 => exact q_drop (hp _) rfl
    | _ => exact q_bad
  | Pass p => exact q_nx ps_pass
  | Break p => exact q_bk
  | Continue p => exact q_ct
  | Return v p =>
    cases v with
    | some e => exact q_ret (hp e)
    | none => exact q_retN
  | Assign ts e p =>
    match ts with
    | [] => exact q_bad
    | t :: _ :: _ => cases t <;> exact q_bad
    | [t] =>
      cases t with
      | Name x p2 => exact set_of S C K x p2 p e
      | Tuple es k p2 =>
        cases e with
        | Tuple vs k2 p3 => exact par_of S C K
        | _ => exact asgT_of S C K _ rfl
      | Subscript o i p2 =>
        show PS X _ (TQ X W (if plainIx i then sPut (r.e c o) (r.e c i) (r.e c e) else sBad))
        split
        · rename_i h
          exact q_put C h (hp o) (hp i) (hp e) (sole_sub _) (by cases e <;> rfl)
        · exact q_bad
      | _ => exact q_bad
  | AugAssign t op e p =>
    cases t with
    | Name x p2 =>
      show PS X _ (TQ X W (match c.slotW x with
        | some i => sAug op i (r.e c e)
        | none => sBad))
      cases h : c.slotW x with
      | none => exact q_bad
      | some i => exact q_aug C h (hp e)
    | Subscript o i p2 =>
      show PS X _ (TQ X W (if plainIx i then sAugP op (r.e c o) (r.e c i) (r.e c e) else sBad))
      split
      · rename_i h
        exact q_augP C h (hp o) (hp i) (hp e)
      · exact q_bad
    | _ => exact q_bad
  | If t x y p => exact q_if (tst_of S C K tstN t) (hq x) (hq y)
  | While t x orelse p =>
    cases orelse with
    | nil => exact q_whl C (tst_of S C K tstN t) (hq x)
    | cons _ _ => exact q_bad
  | For tg it x orelse p =>
    cases orelse with
    | nil =>
      show PS X _ (TQ X W (match tgtX c 16 tg with
        | some t => if noSet it then sFor t (iterX c (r.e c) tg it) (r.s c x) else sBad
        | none => sBad))
      cases h : tgtX c 16 tg with
      | none => exact q_bad
      | some t =>
        simp only
        split
        · rename_i hno
          exact q_for C hno h (it_of S C K tg it) (hq x)
        · exact q_bad
    | cons _ _ => exact q_bad
  | _ => exact q_bad
theorem stSs_ok (S : SndE r) (Z : SndS r) (C : Ctx X c W) (K : Calls X c) : ∀ l, PSs X l (TQ X W (stSs r c l))
  | [] => PSs.weak pss_nil fun D σ H ⟨F, ι, m, e, s, o⟩ => o.now s
  | [st] => pss_one (stS_ok S Z C K st)
  | st :: st2 :: rest => q_seq (stS_ok S Z C K st) (stSs_ok S Z C K (st2 :: rest))
theorem ev_ok : ∀ n, SndE (ev n) ∧ SndS (ev n)
  | 0 => ⟨fun X c W C K e => EOk.bad rfl, fun X c W C K l => qs_bad⟩
  | n + 1 => ⟨fun X c W C K e => stE_ok (ev_ok n).1 C K e, fun X c W C K l => stSs_ok (ev_ok n).1 (ev_ok n).2 C K l⟩
end
end Cs

/-! Defs: what a call gives. -/
namespace Cs
open PySem L2 PySem.Spec
/-! ### what is left at the end of a call: the cells of the caller; newer ones are frozen -/
mutual
/-- g: what a newer cell is worth -/
def frz1 (n : Nat) (g : Nat → Option D) : D → Option D
  | .ref k => if k < n then some (.ref k) else g k
  | .tup ds => (frz1L n g ds).map .tup
  | .lst ds => (frz1L n g ds).map .lst
  | .dct ks vs => (frz1L n g vs).map fun vs => .dct ks vs
  | .scr ds => (frz1L n g ds).map .scr
  | d => some d
def frz1L (n : Nat) (g : Nat → Option D) : List D → Option (List D)
  | [] => some []
  | d :: ds => (frz1 n g d).bind fun d => (frz1L n g ds).map (d :: ·)
end
/-- a newer cell, k steps deep -/
def rsC (n : Nat) (m : Mem) : Nat → Nat → Option D
  | 0, _ => none
  | k + 1, i => match m[i]? with
    | some (.lst ds) => (frz1L n (rsC n m k) ds).map .lst
    | some (.dct ks vs) => (frz1L n (rsC n m k) vs).map fun vs => .dct ks vs
    | _ => none
def frzC (n : Nat) (m : Mem) : Cell → Option Cell
  | .lst ds => (frz1L n (rsC n m 8) ds).map .lst
  | .dct ks vs => (frz1L n (rsC n m 8) vs).map fun vs => .dct ks vs
  | .ins _ _ => none
def gcC (n : Nat) (m : Mem) (c c' : Cell) : Option Cell := if beqC c c' then some c else frzC n m c'
def gcM (n : Nat) (m : Mem) : Mem → Mem → Option Mem
  | [], _ => some []
  | c :: r, c' :: r' => (gcC n m c c').bind fun c'' => (gcM n m r r').map (c'' :: ·)
  | _ :: _, [] => none
/-- the answer d in the memory m', the caller's memory m -/
def gcR (d : D) (m m' : Mem) : Res D := match frz1 m.length (rsC m.length m' 8) d with
  | some d => match gcM m.length m' m m' with
    | some m => .ok d m
    | none => .bad
  | none => .bad

section
variable {K : PySem.W.Frag} {F F1 : Hp} {ι ι1 : List Addr} {H H1 : Hp} {m m1 : Mem} {σ : L2.St}
theorem lowL_kd {n : Nat} : ∀ kvs : List (Key × V), lowL n (kvs.map fun p => kd p.1) = true
  | [] => rfl
  | p :: r => by
    simp only [List.map_cons, lowL, Bool.and_eq_true]
    refine ⟨?_, lowL_kd r⟩
    cases p.1 <;> rfl
theorem lowL_k {n : Nat} : ∀ k : List Key, lowL n (k.map kd) = true
  | [] => rfl
  | p :: r => by
    simp only [List.map_cons, lowL, Bool.and_eq_true]
    refine ⟨?_, lowL_k r⟩
    cases p <;> rfl
theorem lowL_kdT {n : Nat} : ∀ kvs : List (List Key × V), lowL n (kvs.map fun p => kdT p.1) = true
  | [] => rfl
  | p :: r => by
    simp only [List.map_cons, lowL, Bool.and_eq_true]
    refine ⟨?_, lowL_kdT r⟩
    simp only [kdT, low]
    exact lowL_k _
mutual
theorem Rep.low : ∀ {d : D} {v : V}, Rep K F ι d v → low ι.length d = true
  | .non, _, _ => rfl
  | .bl _, _, _ => rfl
  | .int _, _, _ => rfl
  | .str _, _, _ => rfl
  | .tup ds, _, h => by
    obtain ⟨a, vs, _, _, r⟩ := h.tupE
    simp only [Cs.low]
    exact Reps.low r
  | .lst ds, _, h => by
    obtain ⟨a, vs, _, _, r⟩ := h.lstE
    simp only [Cs.low]
    exact Reps.low r
  | .scr ds, _, h => by
    obtain ⟨a, vs, _, _, r⟩ := h.scrE
    simp only [Cs.low]
    exact Reps.low r
  | .dct ks ws, _, h => by
    simp only [Rep] at h
    obtain ⟨a, _, ⟨kvs, _, e, r⟩ | ⟨kvs, _, e, r⟩⟩ := h
    · simp only [Cs.low, Bool.and_eq_true]
      exact ⟨by rw [e]; exact lowL_kd kvs, Reps.low r⟩
    · simp only [Cs.low, Bool.and_eq_true]
      exact ⟨by rw [e]; exact lowL_kdT kvs, Reps.low r⟩
  | .ref n, _, h => by
    obtain ⟨a, _, q⟩ := h.refE
    simp only [Cs.low, decide_eq_true_eq]
    by_cases z : n < ι.length
    · exact z
    · rw [List.getElem?_eq_none (by omega)] at q; cases q
theorem Reps.low : ∀ {ds : List D} {vs : List V}, Reps K F ι ds vs → lowL ι.length ds = true
  | [], _, _ => rfl
  | d :: ds, _, h => by
    obtain ⟨v, w, _, r1, r2⟩ := h.of_cons
    simp only [Cs.lowL, Bool.and_eq_true]
    exact ⟨Rep.low r1, Reps.low r2⟩
end
mutual
/-- what has no newer cell stays -/
theorem frz_low {n : Nat} {g : Nat → Option D} : ∀ {d : D}, low n d = true → frz1 n g d = some d
  | .non, _ => rfl
  | .bl _, _ => rfl
  | .int _, _ => rfl
  | .str _, _ => rfl
  | .tup ds, h => by simp only [low] at h; simp only [frz1, frzL_low h, Option.map_some]
  | .lst ds, h => by simp only [low] at h; simp only [frz1, frzL_low h, Option.map_some]
  | .scr ds, h => by simp only [low] at h; simp only [frz1, frzL_low h, Option.map_some]
  | .dct ks vs, h => by simp only [low, Bool.and_eq_true] at h; simp only [frz1, frzL_low h.2, Option.map_some]
  | .ref k, h => by simp only [low, decide_eq_true_eq] at h; simp only [frz1, if_pos h]
theorem frzL_low {n : Nat} {g : Nat → Option D} : ∀ {ds : List D}, lowL n ds = true → frz1L n g ds = some ds
  | [], _ => rfl
  | d :: ds, h => by
    simp only [lowL, Bool.and_eq_true] at h
    simp only [frz1L, frz_low h.1, frzL_low h.2, Option.bind_some, Option.map_some]
end
/-- .. is a list or a dict -/
def Big (g : Nat → Option D) : Prop := ∀ i d, g i = some d → (∃ ds, d = .lst ds) ∨ ∃ ks vs, d = .dct ks vs
theorem frz_int {n : Nat} {g : Nat → Option D} (hg : Big g) {d : D} {i : Int} (h : frz1 n g d = some (.int i)) : d = .int i := by
  cases d with
  | int j => simpa [frz1] using h
  | ref k =>
    simp only [frz1] at h
    split at h
    · cases h
    · rcases hg _ _ h with ⟨ds, e⟩ | ⟨ks, vs, e⟩ <;> cases e
  | tup ds => simp [frz1] at h
  | lst ds => simp [frz1] at h
  | scr ds => simp [frz1] at h
  | dct ks vs => simp [frz1] at h
  | _ => simp [frz1] at h
theorem frz_str {n : Nat} {g : Nat → Option D} (hg : Big g) {d : D} {i : Str} (h : frz1 n g d = some (.str i)) : d = .str i := by
  cases d with
  | str j => simpa [frz1] using h
  | ref k =>
    simp only [frz1] at h
    split at h
    · cases h
    · rcases hg _ _ h with ⟨ds, e⟩ | ⟨ks, vs, e⟩ <;> cases e
  | tup ds => simp [frz1] at h
  | lst ds => simp [frz1] at h
  | scr ds => simp [frz1] at h
  | dct ks vs => simp [frz1] at h
  | _ => simp [frz1] at h
theorem frzL_cons {n : Nat} {g : Nat → Option D} {d : D} {ds es : List D} (h : frz1L n g (d :: ds) = some es) : ∃ e es', es = e :: es' ∧ frz1 n g d = some e ∧ frz1L n g ds = some es' := by
  simp only [frz1L] at h
  obtain ⟨e, h1, h2⟩ := Option.bind_eq_some_iff.mp h
  obtain ⟨es', h3, rfl⟩ := Option.map_eq_some_iff.mp h2
  exact ⟨e, es', rfl, h1, h3⟩
theorem frzL_ints {n : Nat} {g : Nat → Option D} (hg : Big g) : ∀ {ds es : List D}, frz1L n g ds = some es → keyT es = true → keyT ds = true
  | [], _, _, _ => rfl
  | d :: ds, es, h, k => by
    obtain ⟨e, es', rfl, h1, h2⟩ := frzL_cons h
    unfold keyT at k ⊢
    rw [List.all_cons, Bool.and_eq_true] at k ⊢
    refine ⟨?_, frzL_ints hg h2 k.2⟩
    cases e with
    | int i => rw [frz_int hg h1]
    | _ => simp at k
theorem frzL_strs {n : Nat} {g : Nat → Option D} (hg : Big g) : ∀ {ds es : List D}, frz1L n g ds = some es → (es.all fun d => match d with | .str _ => true | _ => false) = true → (ds.all fun d => match d with | .str _ => true | _ => false) = true
  | [], _, _, _ => rfl
  | d :: ds, es, h, k => by
    obtain ⟨e, es', rfl, h1, h2⟩ := frzL_cons h
    rw [List.all_cons, Bool.and_eq_true] at k ⊢
    refine ⟨?_, frzL_strs hg h2 k.2⟩
    cases e with
    | str i => rw [frz_str hg h1]
    | _ => simp at k
theorem frzL_nm {n : Nat} {g : Nat → Option D} (hg : Big g) {ds es : List D} (h : frz1L n g ds = some es) (k : nmT es = true) : nmT ds = true := by
  cases ds with
  | nil =>
    simp only [frz1L] at h
    cases h
    cases k
  | cons d ds =>
    obtain ⟨e, es', rfl, h1, h2⟩ := frzL_cons h
    have k : ((e :: es').all fun d => match d with | .str _ => true | _ => false) = true := k
    exact frzL_strs hg h k
/-- the heap that stands for ever, with the newer cells -/
def Fz (F : Hp) (ι : List Addr) (n : Nat) (H : Hp) : Hp := fun a => if a ∈ ι.drop n then H a else F a
mutual
theorem frz_ok {n : Nat} {g : Nat → Option D} {F2 : Hp} (hg : Big g) (hF : ∀ a o, F a = some o → F2 a = some o) (hr : ∀ i d a, n ≤ i → g i = some d → ι[i]? = some a → Rep K F2 (ι.take n) d (.ref a)) :
    ∀ {d d' : D} {v : V}, Rep K F ι d v → frz1 n g d = some d' → Rep K F2 (ι.take n) d' v
  | .non, d', v, r, h => by simp only [frz1] at h; cases h; rw [r.nonE]; exact Rep.nonI
  | .bl _, d', v, r, h => by simp only [frz1] at h; cases h; rw [r.blE]; exact Rep.blI
  | .int _, d', v, r, h => by simp only [frz1] at h; cases h; rw [r.intE]; exact Rep.intI
  | .str _, d', v, r, h => by simp only [frz1] at h; cases h; rw [r.strE]; exact Rep.strI
  | .tup ds, d', v, r, h => by
    simp only [frz1] at h
    obtain ⟨es, h1, rfl⟩ := Option.map_eq_some_iff.mp h
    simp only [Rep] at r ⊢
    obtain ⟨a, vs, e, q, t, u, rs⟩ := r
    exact ⟨a, vs, e, SqT.mono q hF, fun z => hF _ _ (t (frzL_ints hg h1 z)), fun z => TupD.mono (u (frzL_nm hg h1 z)) hF, frzL_ok hg hF hr rs h1⟩
  | .lst ds, d', v, r, h => by
    simp only [frz1] at h
    obtain ⟨es, h1, rfl⟩ := Option.map_eq_some_iff.mp h
    simp only [Rep] at r ⊢
    obtain ⟨a, vs, e, q, rs⟩ := r
    exact ⟨a, vs, e, hF _ _ q, frzL_ok hg hF hr rs h1⟩
  | .scr ds, d', v, r, h => by
    simp only [frz1] at h
    obtain ⟨es, h1, rfl⟩ := Option.map_eq_some_iff.mp h
    simp only [Rep] at r ⊢
    obtain ⟨a, vs, e, q, rs⟩ := r
    exact ⟨a, vs, e, SqL.mono q hF, frzL_ok hg hF hr rs h1⟩
  | .dct ks ws, d', v, r, h => by
    simp only [frz1] at h
    obtain ⟨es, h1, rfl⟩ := Option.map_eq_some_iff.mp h
    simp only [Rep] at r ⊢
    obtain ⟨a, e, ⟨kvs, q, e2, rs⟩ | ⟨kvs, q, e2, rs⟩⟩ := r
    · exact ⟨a, e, .inl ⟨kvs, q.mono hF, e2, frzL_ok hg hF hr rs h1⟩⟩
    · exact ⟨a, e, .inr ⟨kvs, q.mono hF, e2, frzL_ok hg hF hr rs h1⟩⟩
  | .ref k, d', v, r, h => by
    obtain ⟨a, rfl, q⟩ := r.refE
    simp only [frz1] at h
    split at h
    · rename_i hk
      cases h
      simp only [Rep]
      exact ⟨a, rfl, by rw [List.getElem?_take_of_lt hk]; exact q⟩
    · exact hr k d' a (by omega) h q
theorem frzL_ok {n : Nat} {g : Nat → Option D} {F2 : Hp} (hg : Big g) (hF : ∀ a o, F a = some o → F2 a = some o) (hr : ∀ i d a, n ≤ i → g i = some d → ι[i]? = some a → Rep K F2 (ι.take n) d (.ref a)) :
    ∀ {ds ds' : List D} {vs : List V}, Reps K F ι ds vs → frz1L n g ds = some ds' → Reps K F2 (ι.take n) ds' vs
  | [], ds', vs, r, h => by
    simp only [frz1L] at h
    cases h
    rw [r.of_nil]
    exact Reps.nil
  | d :: ds, ds', vs, r, h => by
    obtain ⟨e, es', rfl, h1, h2⟩ := frzL_cons h
    obtain ⟨v, w, rfl, r1, r2⟩ := r.of_cons
    exact Reps.cons (frz_ok hg hF hr r1 h1) (frzL_ok hg hF hr r2 h2)
end
theorem rs_big (n : Nat) (m : Mem) : ∀ k, Big (rsC n m k)
  | 0 => fun i d h => by simp [rsC] at h
  | k + 1 => fun i d h => by
    simp only [rsC] at h
    split at h
    · obtain ⟨es, _, rfl⟩ := Option.map_eq_some_iff.mp h
      exact .inl ⟨_, rfl⟩
    · obtain ⟨es, _, rfl⟩ := Option.map_eq_some_iff.mp h
      exact .inr ⟨_, _, rfl⟩
    · cases h
theorem Fz_sub (s : SimM K F ι m H) (n : Nat) : ∀ a o, F a = some o → Fz F ι n H a = some o := fun a o h => by
  unfold Fz
  split
  · exact s.sub _ _ h
  · exact h
theorem rs_ok (s : SimM K F ι m H) (n : Nat) : ∀ k i d a, n ≤ i → rsC n m k i = some d → ι[i]? = some a → Rep K (Fz F ι n H) (ι.take n) d (.ref a)
  | 0, i, d, a, _, h, _ => by simp [rsC] at h
  | k + 1, i, d, a, hi, h, ha => by
    have ih := rs_ok s n k
    have hin : a ∈ ι.drop n := by
      have : (ι.drop n)[i - n]? = some a := by rw [List.getElem?_drop, show n + (i - n) = i by omega]; exact ha
      exact List.mem_of_getElem? this
    have hz : ∀ o, H a = some o → Fz F ι n H a = some o := fun o q => by unfold Fz; rw [if_pos hin]; exact q
    simp only [rsC] at h
    split at h
    · rename_i ds hm
      obtain ⟨es, h1, rfl⟩ := Option.map_eq_some_iff.mp h
      obtain ⟨o, ho, vs, rfl, rs⟩ := s.at ha hm
      exact Rep.lstI (hz _ ho) (frzL_ok (rs_big n m k) (Fz_sub s n) ih rs h1)
    · rename_i ks vs hm
      obtain ⟨es, h1, rfl⟩ := Option.map_eq_some_iff.mp h
      obtain ⟨o, ho, rc⟩ := s.at ha hm
      simp only [Rep]
      refine ⟨a, rfl, ?_⟩
      obtain ⟨kvs, rfl, e2, rs⟩ | ⟨kvs, rfl, e2, rs⟩ := rc
      · exact .inl ⟨kvs, .inl (hz _ ho), e2, frzL_ok (rs_big n m k) (Fz_sub s n) ih rs h1⟩
      · exact .inr ⟨kvs, .inl (hz _ ho), e2, frzL_ok (rs_big n m k) (Fz_sub s n) ih rs h1⟩
    · cases h
/-- a cell's content names cells that there are -/
theorem RepC.keep {c : Cell} {o o' : HO} {F2 : Hp} {ι2 : List Addr} (r0 : RepC K F ι c o) (r : RepC K F1 ι1 c o') (hF : ∀ a u, F1 a = some u → F2 a = some u) (hι : ∀ (n : Nat) a, n < ι.length → ι1[n]? = some a → ι2[n]? = some a) : RepC K F2 ι2 c o' := by
  have fz : ∀ {ds : List D} {vs ws : List V}, Reps K F ι ds vs → Reps K F1 ι1 ds ws → Reps K F2 ι2 ds ws := fun {ds vs ws} h0 h1 => by
    have h2 := frzL_ok (n := ι.length) (g := fun _ => none) (F2 := F2) (fun _ _ z => by cases z) hF (fun _ _ _ _ z => by cases z) h1 (frzL_low (Reps.low h0))
    refine h2.mono (fun _ _ z => z) fun n a z => ?_
    by_cases q : n < ι.length
    · rw [List.getElem?_take_of_lt q] at z; exact hι n a q z
    · rw [List.getElem?_eq_none (by rw [List.length_take]; omega)] at z; cases z
  cases c with
  | lst ds =>
    obtain ⟨vs, _, h0⟩ := r0
    obtain ⟨ws, e, h1⟩ := r
    exact ⟨ws, e, fz h0 h1⟩
  | dct ks vs =>
    have h0 : ∃ ws, Reps K F ι vs ws := by
      obtain ⟨kvs, _, _, h⟩ | ⟨kvs, _, _, h⟩ := r0
      · exact ⟨_, h⟩
      · exact ⟨_, h⟩
    obtain ⟨ws, h0⟩ := h0
    obtain ⟨kvs, e, e2, h1⟩ | ⟨kvs, e, e2, h1⟩ := r
    · exact .inl ⟨kvs, e, e2, fz h0 h1⟩
    · exact .inr ⟨kvs, e, e2, fz h0 h1⟩
  | ins _ _ => exact r0
theorem gcM_get {n : Nat} {mm : Mem} : ∀ {m m' m2 : Mem} {i : Nat} {c c' : Cell}, gcM n mm m m' = some m2 → m[i]? = some c → m'[i]? = some c' → ∃ c2, m2[i]? = some c2 ∧ gcC n mm c c' = some c2
  | [], _, _, _, _, _, _, h, _ => by simp at h
  | _ :: _, [], _, _, _, _, h, _, _ => by simp [gcM] at h
  | c0 :: r, c0' :: r', m2, i, c, c', h, h1, h2 => by
    simp only [gcM] at h
    obtain ⟨x, e1, e2⟩ := Option.bind_eq_some_iff.mp h
    obtain ⟨y, e3, rfl⟩ := Option.map_eq_some_iff.mp e2
    cases i with
    | zero =>
      simp at h1 h2
      subst h1
      subst h2
      exact ⟨x, rfl, e1⟩
    | succ i => simpa using gcM_get e3 (by simpa using h1) (by simpa using h2)
theorem gcM_len {n : Nat} {mm : Mem} : ∀ {m m' m2 : Mem}, gcM n mm m m' = some m2 → m2.length = m.length ∧ m.length ≤ m'.length
  | [], _, _, h => by simp only [gcM] at h; cases h; exact ⟨rfl, Nat.zero_le _⟩
  | _ :: _, [], _, h => by simp [gcM] at h
  | c0 :: r, c0' :: r', m2, h => by
    simp only [gcM] at h
    obtain ⟨x, e1, e2⟩ := Option.bind_eq_some_iff.mp h
    obtain ⟨y, e3, rfl⟩ := Option.map_eq_some_iff.mp e2
    have := gcM_len e3
    simp only [List.length_cons]
    omega
/-- behind a call -/
theorem gc_ok {d d' : D} {m2 : Mem} (s : SimM K F ι m H) (x : Ext F ι H F1 ι1 H1) (s1 : SimM K F1 ι1 m1 H1) {v : V} (r : Rep K F1 ι1 d v) (h : gcR d m m1 = .ok d' m2) : ∃ F2, Ext F ι H F2 ι H1 ∧ SimM K F2 ι m2 H1 ∧ Rep K F2 ι d' v := by
  unfold gcR at h
  split at h
  · rename_i e hd
    split at h
    · rename_i m3 hm
      cases h
      have hl := s.len
      obtain ⟨new, ei, hnew⟩ := x.i
      have ht : ι1.take m.length = ι := by rw [ei, ← hl, List.take_left']; rfl
      have hdrop : ι1.drop m.length = new := by rw [ei, ← hl, List.drop_left']; rfl
      refine ⟨Fz F1 ι1 m.length H1, ⟨fun a o z => Fz_sub s1 _ _ _ (x.f _ _ z), fun a z => ?_, ⟨[], by simp, by simp⟩, x.k, x.t⟩, ⟨fun a o z => ?_, ?_, s.nd, fun n a c e1 e2 => ?_⟩, ?_⟩
      · unfold Fz at z
        split at z
        · rename_i hin
          rw [hdrop] at hin
          exact .inr (hnew a hin)
        · exact x.n a z
      · unfold Fz at z
        split at z
        · exact z
        · exact s1.sub _ _ z
      · rw [(gcM_len hm).1, hl]
      · have hn : n < m.length := by
          by_cases q : n < ι.length
          · omega
          · rw [List.getElem?_eq_none (by omega)] at e1; cases e1
        have hn1 : n < m1.length := Nat.lt_of_lt_of_le hn (gcM_len hm).2
        obtain ⟨c2, g1, g2⟩ := gcM_get hm (List.getElem?_eq_getElem hn) (List.getElem?_eq_getElem hn1)
        rw [e2] at g1
        cases g1
        have ei1 : ι1[n]? = some a := x.ι _ _ e1
        obtain ⟨hFa, o, ho, rc⟩ := s1.cell n a _ ei1 (List.getElem?_eq_getElem hn1)
        obtain ⟨_, o0, _, rc0⟩ := s.cell n a _ e1 (List.getElem?_eq_getElem hn)
        have hout : a ∉ ι1.drop m.length := fun q => by
          rw [hdrop] at q
          obtain ⟨j, hj⟩ := List.getElem?_of_mem q
          have e3 : ι1[ι.length + j]? = some a := by rw [ei, List.getElem?_append_right (by omega), Nat.add_sub_cancel_left]; exact hj
          have hn2 : n < ι1.length := by
            by_cases q : n < ι1.length
            · exact q
            · rw [List.getElem?_eq_none (by omega)] at ei1; cases ei1
          have := (List.getElem?_inj hn2 s1.nd).mp (ei1.trans e3.symm)
          omega
        refine ⟨by unfold Fz; rw [if_neg hout]; exact hFa, o, ho, ?_⟩
        unfold gcC at g2
        split at g2
        · rename_i he
          cases g2
          rw [← beqC_eq he] at rc
          exact RepC.keep rc0 rc (Fz_sub s1 _) fun k b hk z => by
            rw [ei, List.getElem?_append_left hk] at z; exact z
        · cases hc : m1[n] with
          | lst ds =>
            rw [hc] at g2 rc
            obtain ⟨es, h1, rfl⟩ := Option.map_eq_some_iff.mp g2
            obtain ⟨vs, e, rs⟩ := rc
            exact ⟨vs, e, ht ▸ frzL_ok (rs_big _ _ 8) (Fz_sub s1 _) (rs_ok s1 _ 8) rs h1⟩
          | dct ks vs =>
            rw [hc] at g2 rc
            obtain ⟨es, h1, rfl⟩ := Option.map_eq_some_iff.mp g2
            obtain ⟨kvs, e, e2, rs⟩ | ⟨kvs, e, e2, rs⟩ := rc
            · exact .inl ⟨kvs, e, e2, ht ▸ frzL_ok (rs_big _ _ 8) (Fz_sub s1 _) (rs_ok s1 _ 8) rs h1⟩
            · exact .inr ⟨kvs, e, e2, ht ▸ frzL_ok (rs_big _ _ 8) (Fz_sub s1 _) (rs_ok s1 _ 8) rs h1⟩
          | ins _ _ => rw [hc] at g2; cases g2
      · have := frz_ok (rs_big _ _ 8) (Fz_sub s1 _) (rs_ok s1 m.length 8) r hd
        rw [ht] at this
        exact this
    · cases h
  · cases h
end
end Cs

/-! Programs: defs that call one another. -/
namespace Cs
open PySem L2 PySem.Spec PyProof.Rows
structure FD where
  st : Stmt
  N : List Str
  ps : List Str
  al : List Str
def inL (l : List Str) (x : Str) : Bool := l.any (strEq x)
/-- a program's defs, its constants, the built-ins it does not hide -/
structure PG' where
  defs : List (Str × FD)
  G : List (Str × D)
  bl : List Str
def PG'.sc (p : PG') (call : Str → List D → Mem → Res D) (fd : FD) : SC :=
  { N := fd.N, sc := defScope fd.st, sc0 := defScope fd.st, al := inL fd.al, G := fun x => lkp x p.G, fn := fun x => (lkp x p.defs).isSome, bl := inL p.bl, call := call }
def startD (N : List Str) (as : List D) : Sto := as.map some ++ List.replicate (N.length - as.length) none
/-- what is handed back; where no cells were made, nothing is tidied -/
def endR (gc : Bool) (d : D) (m m' : Mem) : Res D := if gc then gcR d m m' else .ok d m'
def retF (gc : Bool) (m : Mem) : SRes → Res D
  | .ok .nx _ m' => endR gc .non m m'
  | .ok (.rt d) _ m' => endR gc d m m'
  | _ => .bad
def PG'.call (p : PG') : Nat → Str → List D → Mem → Res D
  | 0, _, _, _ => .bad
  | k + 1, x, as, m => match lkp x p.defs with
    | none => .bad
    | some fd => if as.length = fd.ps.length then retF (!fd.al.isEmpty) m ((ev deep).s (p.sc (p.call k) fd) (defBody fd.st) (startD fd.N as) m) else .bad
/-- the text stands in the heap -/
structure DefOk (K : PySem.W.Frag) (mg : Str → Option Value) (x : Str) (fd : FD) : Prop where
  fn : ∃ f fdata, Fun K x x fd.st f fdata ∧ mg x = some (.ref f) ∧ ∀ us : List Value, us.length = fd.ps.length → bindArgs fdata ⟨us, []⟩ = pure (fd.ps.zip us)
  sc : FnScope fd.N fd.ps (defScope fd.st)
structure PgOk (K : PySem.W.Frag) (mg : Str → Option Value) (p : PG') : Prop where
  defs : ∀ q ∈ p.defs, DefOk K mg q.1 q.2
  glob : ∀ q ∈ p.G, ∃ u v, mg q.1 = some u ∧ RelV v u ∧ ∀ F ι, Rep K F ι q.2 v
  bl : ∀ x ∈ p.bl, mg x = none
theorem lkp_mem {α : Type} {x : Str} {a : α} : ∀ {l : List (Str × α)}, lkp x l = some a → (x, a) ∈ l
  | [], h => by cases h
  | (y, b) :: r, h => by
    unfold lkp at h
    split at h
    · rename_i e
      cases h
      rw [strEq_eq e]
      exact List.mem_cons_self
    · exact List.mem_cons_of_mem _ (lkp_mem h)
theorem inL_mem {x : Str} {l : List Str} (h : inL l x = true) : x ∈ l := by
  unfold inL at h
  obtain ⟨y, hy, e⟩ := List.any_eq_true.mp h
  rw [strEq_eq e]
  exact hy
section
variable {P : Program} {w : World} {K : PySem.W.Frag} {mg : Str → Option Value} {base : Heap} {p : PG'}
theorem start_sim {F : Hp} {ι : List Addr} {m : Mem} {H : Hp} {N : List Str} {as : List D} {vs : List V} (s : SimM K F ι m H) (r : Reps K F ι as vs) : Sim K F ι (startD N as) m (L2.start N vs) H := by
  have hl := r.length
  refine ⟨s, ?_, fun i d h => ?_⟩
  · unfold startD L2.start
    simp [hl]
  · unfold startD at h
    unfold L2.start
    by_cases q : i < as.length
    · rw [List.getElem?_append_left (by simpa using q), List.getElem?_map] at h
      obtain ⟨a, h1, h2⟩ := Option.map_eq_some_iff.mp h
      cases h2
      obtain ⟨v, h3, h4⟩ := r.get h1
      refine ⟨v, ?_, h4⟩
      rw [List.getElem?_append_left (by rw [List.length_map]; omega), List.getElem?_map, h3]
      rfl
    · rw [List.getElem?_append_right (by rw [List.length_map]; omega), List.getElem?_replicate] at h
      split at h <;> cases h
theorem ctx_of (O : PgOk K mg p) {fd : FD} (S : FnScope fd.N fd.ps (defScope fd.st)) (call : Str → List D → Mem → Res D) (qual : Str) (f : Addr) (cdv : Value) (A : Around) (outer : List PySem.Env) (s : Shared) (H : Hp) (E : XK) (W : EW) {k : Nat}
    (hr : Room k (A.deeper (envOfC qual (defScope fd.st) s.heap.objs.size f cdv))) : Ctx (cxOf CX0 P w K mg base fd.N qual (defScope fd.st) f cdv A outer s H E).nox (p.sc call fd) W where
  N := rfl
  nd := S.nd
  sc := rfl
  calm := rfl
  room := hr.mono (Nat.zero_le k)
  glob := fun x d h => O.glob (x, d) (lkp_mem h)
  bl := fun x h => O.bl x (inL_mem h)
  wr := fun x h => by
    refine ⟨?_, .inl rfl⟩
    have h : (match lkp x (defScope fd.st).names with
      | some .local => true
      | some .cell => true
      | _ => false) = true := h
    show L2.Loc (defScope fd.st) x
    unfold L2.Loc
    rw [lkp_lookup] at h
    split at h
    · exact .inl (by assumption)
    · exact .inr (by assumption)
    · cases h
  pass := PassesOwn.never
theorem call_len {k : Nat} {x : Str} {fd : FD} (h : lkp x p.defs = some fd) {ds : List D} {m m' : Mem} {d : D} (e : p.call k x ds m = .ok d m') : ds.length = fd.ps.length := by
  cases k with
  | zero => cases e
  | succ k =>
    unfold PG'.call at e
    rw [h] at e
    simp only at e
    split at e
    · assumption
    · cases e
theorem gcR_noexc {m m1 : Mem} {d : D} {y : Exc} {m' : Mem} : gcR d m m1 ≠ .exc y m' := by
  unfold gcR; split
  · split <;> exact fun z => by cases z
  · exact fun z => by cases z
theorem retF_noexc {gc : Bool} {m : Mem} {r : SRes} {y : Exc} {m' : Mem} : retF gc m r ≠ .exc y m' := by
  unfold retF
  split
  · unfold endR; split
    · exact gcR_noexc
    · exact fun z => by cases z
  · unfold endR; split
    · exact gcR_noexc
    · exact fun z => by cases z
  · exact fun z => by cases z
theorem end_ok {F F1 : Hp} {ι ι1 : List Addr} {H H1 : Hp} {m m1 m2 : Mem} {gc : Bool} {d d' : D} {v : V} (s : SimM K F ι m H) (x : Ext F ι H F1 ι1 H1) (s1 : SimM K F1 ι1 m1 H1) (r : Rep K F1 ι1 d v) (h : endR gc d m m1 = .ok d' m2) : ∃ F2 ι2, Ext F ι H F2 ι2 H1 ∧ SimM K F2 ι2 m2 H1 ∧ Rep K F2 ι2 d' v := by
  unfold endR at h
  split at h
  · obtain ⟨F2, h1, h2, h3⟩ := gc_ok s x s1 r h
    exact ⟨F2, ι, h1, h2, h3⟩
  · cases h
    exact ⟨F1, ι1, x, s1, r⟩
theorem call_noexc {k : Nat} {x : Str} {ds : List D} {m m' : Mem} {y : Exc} : p.call k x ds m ≠ .exc y m' := by
  cases k with
  | zero => exact fun z => by cases z
  | succ k =>
    unfold PG'.call
    split
    · exact fun z => by cases z
    · split
      · exact retF_noexc
      · exact fun z => by cases z
theorem fns (O : PgOk K mg p) : ∀ (k : Nat) (x : Str) (fd : FD), lkp x p.defs = some fd → ∀ f fdata, Fun K x x fd.st f fdata → FnOk P w K mg base CX0 k f fdata fd.ps (spI K (p.call k x) fd.ps.length)
  | 0, x, fd, h, f, fdata, F => by
    refine ⟨fun vs H Q E q => q.1, fun A outer s H args us vs Q E _ _ _ _ q => ?_⟩
    obtain ⟨_, F, ι, m, ds, d, m', _, _, e, _⟩ := q
    cases e
  | k + 1, x, fd, h, f, fdata, F => by
    have D := O.defs _ (lkp_mem h)
    refine F.ok D.sc (fun vs H Q E q => q.1) fun cdv A outer s H vs Q E hr q => ?_
    have C := ctx_of (P := P) (w := w) (base := base) O D.sc (p.call k) x f cdv A outer s H E (fun _ _ _ _ _ _ => False) hr
    have Ca : Calls (cxOf CX0 P w K mg base fd.N x (defScope fd.st) f cdv A outer s H E).nox (p.sc (p.call k) fd) := fun y hy => by
      have hy : (lkp y p.defs).isSome = true := hy
      obtain ⟨gd, hg⟩ := Option.isSome_iff_exists.mp hy
      obtain ⟨g, gdata, G1, G2, G3⟩ := (O.defs _ (lkp_mem hg)).fn
      exact ⟨k, g, gdata, gd.ps, gd.ps.length, fns O k y gd hg g gdata G1, hr, G2, G1.kp, .all G3, fun ds m d m' e => call_len hg e, fun ds m y m' => call_noexc⟩
    refine ⟨_, (ev_ok deep).2 _ _ _ C Ca (defBody fd.st), ?_⟩
    obtain ⟨_, F0, ι, m, ds, d, m', sm, rs, e, fin⟩ := q
    refine ⟨F0, ι, m, startD fd.N ds, start_sim sm rs, ?_⟩
    unfold PG'.call at e
    rw [h] at e
    simp only at e
    split at e
    · cases z : (ev deep).s (p.sc (p.call k) fd) (defBody fd.st) (startD fd.N ds) m with
      | exc y e1 m1 => rw [z] at e; cases e
      | bad => rw [z] at e; cases e
      | ok fl e1 m1 =>
        rw [z] at e
        intro F' ι' σ' H' x' s'
        cases fl with
        | nx =>
          obtain ⟨F2, ι2, x2, s2, r2⟩ := end_ok sm x' s'.mem Rep.nonI e
          exact fin _ _ _ _ x2 s2 r2
        | rt d1 =>
          intro v rv
          obtain ⟨F2, ι2, x2, s2, r2⟩ := end_ok sm x' s'.mem rv e
          exact fin _ _ _ _ x2 s2 r2
        | bk => cases e
        | ct => cases e
    · cases e
end
/-! ### the end -/
theorem law_sp {K : PySem.W.Frag} {g : List D → Mem → Res D} {H : Hp} {a : Addr} {ns : List Int} (h : g [.scr (ns.map .int)] [] = .ok (.bl true) []) (hS : SqL K H a (ns.map V.int)) : spI K g 1 [.ref a] H (fun v _ => v = .bl true) fun _ _ _ => False := by
  have hr : ∀ ns : List Int, Reps K H [] (ns.map .int) (ns.map V.int) := fun ns => by
    induction ns with
    | nil => exact Reps.nil
    | cons n r ih => exact Reps.cons Rep.intI ih
  refine ⟨rfl, H, [], [], [.scr (ns.map .int)], .bl true, [], ⟨fun _ _ z => z, rfl, List.nodup_nil, fun n a c e => by cases e⟩, Reps.one ?_, h, fun v F' ι' H' _ _ r => r.blE⟩
  simp only [Rep]
  exact ⟨a, _, rfl, hS, hr ns⟩
theorem walk_cs {l : PySem.W.OpenLaw} {n : Nat} {q : Program} {loose : List Str} {XP : (Str → Option Value) → Heap → Prop} {YP : World → Heap → Prop} {d : DefRec} {K : Params → PySem.W.Frag} {p : PG'} {fd : FD} (k : Nat) (hk : k ≤ 200) (hn : l.most = some n) (hn2 : n ≤ sizeLine) (hdf : d.params.defaults = [])
    (hl : lkp d.name p.defs = some fd) (hps : fd.ps = [("script" : Str)]) (hY : ∀ (w : World) (h : Heap), YP w h → (K w.params).In h)
    (F : ∀ (w : World) (mg : Str → Option Value) (h : Heap), (K w.params).In h → h.Ns mainGlobals mg → PgOk (K w.params) mg p)
    (law : ∀ ns : List Int, ns.length ≤ n → p.call k d.name [.scr (ns.map .int)] [] = .ok (.bl true) []) :
    PySem.W.WalkO q loose XP YP l.row.toRowW d [] (fun f vs => PySem.call f vs) := by
  refine walk_of (n := n) (k := k) (x := ("script" : Str)) (CX := fun _ => CX0) (sp := fun w => spI (K w.params) (p.call k d.name) 1) hn hn2 hdf ⟨rfl, ?_, ?_⟩ hY (fun w mg fa h KX G hm => ?_) (fun w H a ns hlen _ hS => law_sp (law ns hlen) hS) fun _ _ _ _ _ z => z
  · have : callerA.depth + 3 * 200 + 5 < recursionLimit := by decide
    omega
  · have : callerA.units + 16 * 200 + 200 < cLine := by decide
    omega
  · have O := F w mg h KX G
    obtain ⟨f, fdata, F1, hmf, hb⟩ := (O.defs _ (lkp_mem hl)).fn
    have e := hm.symm.trans hmf
    cases e
    refine ⟨fdata, fun s u => ?_, fun base KB GB => ?_⟩
    · have := hb [u] (by rw [hps]; rfl)
      rw [hps] at this
      exact .of_eq this
    · have := fns (P := l.prog) (w := w) (base := base) O k d.name fd hl _ _ F1
      rw [hps] at this
      exact this
end Cs

/-! The end: what stands in the heap behind the top. -/
namespace Cs
open PySem L2 PySem.Spec PyProof.Rows
theorem def_mk {K : PySem.W.Frag} {h : Heap} {mg : Str → Option Value} {x : Str} {st : Stmt} {N ps al : List Str} {f : Addr} {od an : Option Addr} {sl : Array (Option Value)} {oc kV dc pm cd ct : Value} (X : K.In h) (G : h.Ns mainGlobals mg)
    (a : PySem.W.nsIn K mainGlobals x = some (some (.ref f))) (l : K.lookup f = some ⟨oc, od, .func (PySem.W.fnOf x x (defArgs st) (defBody st) (defScope st) .none kV dc pm an cd ct), sl⟩) (c : PySem.W.codeIn K cd x = true) (k : PySem.W.keepIn K (.ref f) = true)
    (hs : C8.scC N ps (defScope st) = true)
    (hb : ∀ (kV dc pm : Value) (an : Option Addr) (cd ct : Value) (us : List Value), us.length = ps.length → bindArgs (PySem.W.fnOf x x (defArgs st) (defBody st) (defScope st) .none kV dc pm an cd ct) ⟨us, []⟩ = pure (ps.zip us)) : DefOk K mg x ⟨st, N, ps, al⟩ :=
  ⟨⟨f, _, fun_mk l c k, PySem.W.mg_of X G a, fun us hl => hb kV dc pm an cd ct us hl⟩, C8.fnScope_by hs⟩
theorem g_str {K : PySem.W.Frag} {h : Heap} {mg : Str → Option Value} {x z : Str} {t : Tok} (X : K.In h) (G : h.Ns mainGlobals mg) (a : PySem.W.nsIn K mainGlobals x = some (some (.str z t))) : ∃ u v, mg x = some u ∧ RelV v u ∧ ∀ F ι, Rep K F ι (.str z) v :=
  ⟨_, .str z, PySem.W.mg_of X G a, ⟨t, rfl⟩, fun _ _ => Rep.strI⟩
theorem g_int {K : PySem.W.Frag} {h : Heap} {mg : Str → Option Value} {x : Str} {z : Int} {t : Tok} (X : K.In h) (G : h.Ns mainGlobals mg) (a : PySem.W.nsIn K mainGlobals x = some (some (.int z t))) : ∃ u v, mg x = some u ∧ RelV v u ∧ ∀ F ι, Rep K F ι (.int z) v :=
  ⟨_, .int z, PySem.W.mg_of X G a, ⟨t, rfl⟩, fun _ _ => Rep.intI⟩
theorem b_none {K : PySem.W.Frag} {h : Heap} {mg : Str → Option Value} {x : Str} (X : K.In h) (G : h.Ns mainGlobals mg) (a : PySem.W.nsIn K mainGlobals x = some none) : mg x = none := PySem.W.mg_none_of X G a
theorem allC {α : Type} {P : α → Prop} {a : α} {l : List α} (h : P a) (t : ∀ q ∈ l, P q) : ∀ q ∈ a :: l, P q := fun q hq => by
  rcases List.mem_cons.mp hq with rfl | hq
  · exact h
  · exact t q hq
theorem allN {α : Type} {P : α → Prop} : ∀ q ∈ ([] : List α), P q := fun _ h => nomatch h
end Cs

/-! Words for the texts in short. -/
namespace Cs
open PySem L2 PySem.Spec
abbrev FF := List D → Mem → Res D
def fApp (g : FF) (fs : FL) : FE := fun e m => bnd (fs e m) fun ds m => g ds m
def tAnd (a b : FB) : FB := fun e m => bnd (a e m) fun k m => if k then b e m else .ok false m
def tOr (a b : FB) : FB := fun e m => bnd (a e m) fun k m => if k then .ok true m else b e m
def tNot (a : FB) : FB := fun e m => bnd (a e m) fun k m => .ok (!k) m
def tIfE (t a b : FB) : FB := fun e m => bnd (t e m) fun k m => if k then a e m else b e m
/-- a def's answer by its body -/
def runF (gc : Bool) (np nN : Nat) (b : FS) : FF := fun as m => if as.length = np then retF gc m (b (as.map some ++ List.replicate (nN - as.length) none) m) else .bad
theorem call_succ {p : PG'} {x : Str} {fd : FD} (h : lkp x p.defs = some fd) (k : Nat) : p.call (k + 1) x = runF (!fd.al.isEmpty) fd.ps.length fd.N.length ((ev deep).s (p.sc (p.call k) fd) (defBody fd.st)) := by
  funext as m
  unfold PG'.call
  rw [h]
  rfl
/-- .. with its text in short -/
theorem call_by {p : PG'} {x : Str} {fd : FD} (h : lkp x p.defs = some fd) {k : Nat} {b : FS} {gc : Bool} {np nN : Nat} (hb : (ev deep).s (p.sc (p.call k) fd) (defBody fd.st) = b) (h1 : (!fd.al.isEmpty) = gc) (h2 : fd.ps.length = np) (h3 : fd.N.length = nN) :
    p.call (k + 1) x = runF gc np nN b := by
  rw [call_succ h, hb, h1, h2, h3]
end Cs

/-! Words for the plain laws: what an answer is to be. -/
namespace Cs
open PySem
/-- the answer comes and is so -/
def okR {α : Type} (r : Res α) (Q : α → Mem → Prop) : Prop := ∃ a m, r = .ok a m ∧ Q a m
def okS (r : SRes) (Q : Fl → Sto → Mem → Prop) : Prop := ∃ f e m, r = .ok f e m ∧ Q f e m
section
variable {α β : Type} {Q : α → Mem → Prop} {m m' : Mem} {e e' : Sto}
theorem okR.mk {a : α} (h : Q a m) : okR (.ok a m) Q := ⟨a, m, rfl, h⟩
theorem okS.mk {f : Fl} {Q : Fl → Sto → Mem → Prop} (h : Q f e m) : okS (.ok f e m) Q := ⟨f, e, m, rfl, h⟩
theorem okR.imp {r : Res α} {P : α → Mem → Prop} (h : okR r P) (k : ∀ a m, P a m → Q a m) : okR r Q := let ⟨a, m, e, q⟩ := h; ⟨a, m, e, k a m q⟩
theorem okS.imp {r : SRes} {P Q : Fl → Sto → Mem → Prop} (h : okS r P) (k : ∀ f e m, P f e m → Q f e m) : okS r Q := let ⟨f, e, m, z, q⟩ := h; ⟨f, e, m, z, k f e m q⟩
theorem okR.bnd {r : Res β} {P : β → Mem → Prop} {g : β → Mem → Res α} (h : okR r P) (k : ∀ b m, P b m → okR (g b m) Q) : okR (Cs.bnd r g) Q := by
  obtain ⟨b, m, rfl, p⟩ := h
  exact k b m p
theorem okR.eq {r : Res α} {a : α} (h : okR r fun b m' => b = a ∧ m' = m) : r = .ok a m := by
  obtain ⟨b, m', rfl, rfl, rfl⟩ := h
  rfl
theorem okR.of {r : Res α} {a : α} (h : r = .ok a m) (q : Q a m) : okR r Q := ⟨a, m, h, q⟩
theorem okS.bd {r : Res β} {P : β → Mem → Prop} {g : β → Mem → SRes} {Q : Fl → Sto → Mem → Prop} (h : okR r P) (k : ∀ b m, P b m → okS (g b m) Q) : okS (sBd r e g) Q := by
  obtain ⟨b, m, rfl, p⟩ := h
  exact k b m p
theorem okS.seq {a b : FS} {Q : Fl → Sto → Mem → Prop} (h : okS (a e m) fun f e m => match f with
    | .nx => okS (b e m) Q
    | f => Q f e m) : okS (sSeq a b e m) Q := by
  obtain ⟨f, e1, m1, h1, h2⟩ := h
  unfold sSeq
  rw [h1]
  cases f with
  | nx => exact h2
  | bk => exact ⟨_, _, _, rfl, h2⟩
  | ct => exact ⟨_, _, _, rfl, h2⟩
  | rt d => exact ⟨_, _, _, rfl, h2⟩
/-- .. where the first goes on -/
theorem okS.seqN {a b : FS} {P : Sto → Mem → Prop} {Q : Fl → Sto → Mem → Prop} (h : okS (a e m) fun f e m => f = .nx ∧ P e m) (k : ∀ e m, P e m → okS (b e m) Q) : okS (sSeq a b e m) Q :=
  okS.seq (h.imp fun f e m ⟨z, q⟩ => by subst z; exact k e m q)
/-- a loop: I holds with what is left -/
theorem for_inv {t : Tgt} {b : FS} {ns : List Nat} {m0 : Mem} {Q : Fl → Sto → Mem → Prop} (I : List D → Sto → Mem → Prop) (hn : ∀ e m, I [] e m → Q .nx e m)
    (hs : ∀ d r e m, I (d :: r) e m → ∃ e', bindT t d e = some e' ∧ okS (b e' m) fun f e m => match f with
      | .nx => same ns m0 m = true ∧ I r e m
      | .ct => same ns m0 m = true ∧ I r e m
      | .bk => Q .nx e m
      | .rt d => Q (.rt d) e m) : ∀ (ds : List D) (e : Sto) (m : Mem), I ds e m → okS (forGo t b ns m0 ds e m) Q
  | [], e, m, h => okS.mk (hn e m h)
  | d :: r, e, m, h => by
    obtain ⟨e', h1, f, e2, m2, h2, h3⟩ := hs d r e m h
    unfold forGo
    rw [h1]
    simp only
    rw [h2]
    cases f with
    | nx =>
      simp only at h3 ⊢
      rw [if_pos h3.1]
      exact for_inv I hn hs r e2 m2 h3.2
    | ct =>
      simp only at h3 ⊢
      rw [if_pos h3.1]
      exact for_inv I hn hs r e2 m2 h3.2
    | bk => exact okS.mk h3
    | rt d => exact okS.mk h3
/-- .. with a measure that goes down -/
theorem whl_inv {t : FB} {b : FS} {Q : Fl → Sto → Mem → Prop} (I : Nat → Sto → Mem → Prop)
    (hs : ∀ n e m, I n e m → okR (t e m) fun k m => if k = true then okS (b e m) (fun f e m => match f with
      | .nx => ∃ n', n' < n ∧ I n' e m
      | .ct => ∃ n', n' < n ∧ I n' e m
      | .bk => Q .nx e m
      | .rt d => Q (.rt d) e m) else Q .nx e m) : ∀ (N n : Nat) (e : Sto) (m : Mem), n < N → I n e m → okS (whlGo t b N e m) Q
  | 0, n, e, m, h, _ => absurd h (Nat.not_lt_zero _)
  | N + 1, n, e, m, h, hi => by
    obtain ⟨k, m1, h1, h2⟩ := hs n e m hi
    unfold whlGo
    rw [h1]
    cases k with
    | false => exact okS.mk (by simpa using h2)
    | true =>
      rw [if_pos rfl] at h2
      obtain ⟨f, e2, m2, h3, h4⟩ := h2
      simp only
      rw [h3]
      cases f with
      | nx =>
        obtain ⟨n', hn, h5⟩ := h4
        exact whl_inv I hs N n' e2 m2 (by omega) h5
      | ct =>
        obtain ⟨n', hn, h5⟩ := h4
        exact whl_inv I hs N n' e2 m2 (by omega) h5
      | bk => exact okS.mk h4
      | rt d => exact okS.mk h4
theorem whl_ok {t : FB} {b : FS} {Q : Fl → Sto → Mem → Prop} (I : Nat → Sto → Mem → Prop) (n : Nat) (hn : n < 2 ^ 64) (hi : I n e m)
    (hs : ∀ n e m, I n e m → okR (t e m) fun k m => if k = true then okS (b e m) (fun f e m => match f with
      | .nx => ∃ n', n' < n ∧ I n' e m
      | .ct => ∃ n', n' < n ∧ I n' e m
      | .bk => Q .nx e m
      | .rt d => Q (.rt d) e m) else Q .nx e m) : okS (sWhl t b e m) Q := whl_inv I hs manyTurns n e m hn hi
end
/-! ### comprehensions without a trace -/
section
variable {t : Tgt} {ft : FB} {fe : FE} {e : Sto} {m m0 : Mem} {ns : List Nat}
theorem lcGo_pure {p : D → Bool} {g : D → D} (hm : same ns m0 m = true) : ∀ {ds : List D}, (∀ d ∈ ds, ∃ e', bindT t d e = some e' ∧ ft e' m = .ok (p d) m ∧ (p d = true → fe e' m = .ok (g d) m)) → lcGo t ft fe e ns m0 ds m = .ok ((ds.filter p).map g) m
  | [], _ => rfl
  | d :: r, h => by
    obtain ⟨e', h1, h2, h3⟩ := h d List.mem_cons_self
    have ih := lcGo_pure hm (ds := r) fun d hd => h d (List.mem_cons_of_mem _ hd)
    unfold lcGo
    rw [h1]
    simp only
    rw [h2]
    cases q : p d with
    | true =>
      simp only
      rw [h3 q]
      simp only
      rw [if_pos hm, ih, List.filter_cons_of_pos q, List.map_cons]
    | false =>
      simp only
      rw [if_pos hm, ih, List.filter_cons_of_neg (by rw [q]; exact Bool.false_ne_true)]
theorem lcGo_map {g : D → D} (hm : same ns m0 m = true) {ds : List D} (h : ∀ d ∈ ds, ∃ e', bindT t d e = some e' ∧ ft e' m = .ok true m ∧ fe e' m = .ok (g d) m) : lcGo t ft fe e ns m0 ds m = .ok (ds.map g) m := by
  have := lcGo_pure (p := fun _ => true) (g := g) hm (ds := ds) fun d hd => let ⟨e', h1, h2, h3⟩ := h d hd; ⟨e', h1, h2, fun _ => h3⟩
  rw [this, List.filter_eq_self.mpr (fun _ _ => rfl)]
theorem lc2Go_flat {inner : Sto → Mem → Res (List D)} {g : D → List D} (hm : same ns m0 m = true) : ∀ {ds : List D}, (∀ d ∈ ds, ∃ e', bindT t d e = some e' ∧ ft e' m = .ok true m ∧ inner e' m = .ok (g d) m) → lc2Go t ft inner e ns m0 ds m = .ok (ds.flatMap g) m
  | [], _ => rfl
  | d :: r, h => by
    obtain ⟨e', h1, h2, h3⟩ := h d List.mem_cons_self
    have ih := lc2Go_flat hm (ds := r) fun d hd => h d (List.mem_cons_of_mem _ hd)
    unfold lc2Go
    rw [h1]
    simp only
    rw [h2]
    simp only
    rw [h3]
    simp only
    rw [if_pos hm, ih, List.flatMap_cons]
theorem same_nil : same [] m0 m = true := rfl
mutual
theorem beqD_refl : ∀ d : D, beqD d d = true
  | .non => rfl
  | .bl b => by simp [beqD]
  | .int i => by simp [beqD]
  | .str s => by simp [beqD]
  | .tup ds => by simp only [beqD]; exact beqL_refl ds
  | .lst ds => by simp only [beqD]; exact beqL_refl ds
  | .scr ds => by simp only [beqD]; exact beqL_refl ds
  | .dct ks vs => by simp only [beqD, beqL_refl ks, beqL_refl vs, Bool.and_self]
  | .ref n => by simp [beqD]
theorem beqL_refl : ∀ ds : List D, beqL ds ds = true
  | [] => rfl
  | d :: ds => by simp only [beqL, beqD_refl d, beqL_refl ds, Bool.and_self]
end
theorem beqF_refl : ∀ ds : List (Str × D), beqF ds ds = true
  | [] => rfl
  | d :: ds => by simp only [beqF, beqD_refl d.2, beqF_refl ds, beq_self_eq_true, Bool.and_self]
theorem beqC_refl (c : Cell) : beqC c c = true := by
  cases c with
  | lst ds => exact beqL_refl ds
  | dct ks vs => simp only [beqC, beqL_refl ks, beqL_refl vs, Bool.and_self]
  | ins c fs => simp only [beqC, beqF_refl fs, beq_self_eq_true, Bool.and_self]
theorem same_refl : same ns m m = true := by
  unfold same
  rw [List.all_eq_true]
  intro n _
  cases m[n]? with
  | none => rfl
  | some c => exact beqC_refl c
theorem same_of (h : ∀ n ∈ ns, m[n]? = m0[n]?) : same ns m0 m = true := by
  unfold same
  rw [List.all_eq_true]
  intro n hn
  rw [h n hn]
  cases m0[n]? with
  | none => rfl
  | some c => exact beqC_refl c
/-! ### what is left behind a call -/
theorem gcC_refl {n : Nat} {mm : Mem} (c : Cell) : gcC n mm c c = some c := by
  unfold gcC
  rw [if_pos (beqC_refl c)]
theorem gcM_app {n : Nat} {mm : Mem} : ∀ (m x : Mem), gcM n mm m (m ++ x) = some m
  | [], _ => by cases ‹Mem› <;> rfl
  | c :: m, x => by
    rw [List.cons_append, gcM, gcC_refl, gcM_app m x]
    rfl
theorem gcM_self {n : Nat} {mm : Mem} (m : Mem) : gcM n mm m m = some m := by
  have := gcM_app (n := n) (mm := mm) m []
  rwa [List.append_nil] at this
/-- new cells only: the memory is as it was -/
theorem gcR_app {d d' : D} {x : Mem} (h : frz1 m.length (rsC m.length (m ++ x) 8) d = some d') : gcR d m (m ++ x) = .ok d' m := by
  unfold gcR
  rw [h]
  simp only
  rw [gcM_app]
theorem gcR_low {d : D} {x : Mem} (h : low m.length d = true) : gcR d m (m ++ x) = .ok d m := gcR_app (frz_low h)
end
/-! ### the combinators, at work -/
section
variable {α β : Type} {m : Mem} {e : Sto} {fa fb fo : FE} {fs fr : FL} {ft : FB} {a b : FS}
@[simp] theorem bnd_ok (x : α) (g : α → Mem → Res β) : bnd (.ok x m) g = g x m := (rfl)
@[simp] theorem bnd_bad (g : α → Mem → Res β) : bnd .bad g = .bad := (rfl)
@[simp] theorem sBd_ok (x : α) (g : α → Mem → SRes) : sBd (.ok x m) e g = g x m := (rfl)
@[simp] theorem sBd_bad (g : α → Mem → SRes) : sBd .bad e g = .bad := (rfl)
@[simp] theorem ofO_some (d : D) : ofO m (some d) = .ok d m := (rfl)
@[simp] theorem ofO_none : ofO m none = .bad := (rfl)
/-- what stands in a slot -/
def atV (e : Sto) (i : Nat) : Option D := (e[i]?).join
@[simp] theorem fVar_ap (i : Nat) : fVar i e m = ofO m (atV e i) := by
  unfold fVar atV
  cases e[i]? with
  | none => rfl
  | some o => cases o <;> rfl
@[simp] theorem atV_0 (x : Option D) (r : Sto) : atV (x :: r) 0 = x := by simp [atV]
@[simp] theorem atV_s (x : Option D) (r : Sto) (n : Nat) : atV (x :: r) (n + 1) = atV r n := by simp [atV]
@[simp] theorem fCon_ap (d : D) : fCon d e m = .ok d m := (rfl)
@[simp] theorem fBin_ap (op : Operator) : fBin op fa fb e m = bnd (fa e m) fun x m => bnd (fb e m) fun y m => ofO m (binD op x y m) := (rfl)
@[simp] theorem fNeg_ap : fNeg fa e m = bnd (fa e m) fun x m => ofO m (negD x) := (rfl)
/-- a truth value as an answer -/
def ofB (m : Mem) : Option Bool → Res Bool
  | some b => .ok b m
  | none => .bad
@[simp] theorem ofB_some (b : Bool) : ofB m (some b) = .ok b m := (rfl)
@[simp] theorem ofB_none : ofB m none = .bad := (rfl)
@[simp] theorem fTr_ap : fTr fa e m = bnd (fa e m) fun x m => ofB m (trD m x) := (rfl)
@[simp] theorem fNotV_ap : fNotV fa e m = bnd (fTr fa e m) fun b m => .ok (.bl !b) m := (rfl)
@[simp] theorem fAndV_ap : fAndV fa fb e m = bnd (fa e m) fun x m => bnd (ofB m (trD m x)) fun k m => if k then fb e m else .ok x m := by
  unfold fAndV
  congr
  funext x m
  cases trD m x with
  | none => rfl
  | some k => cases k <;> rfl
@[simp] theorem fOrV_ap : fOrV fa fb e m = bnd (fa e m) fun x m => bnd (ofB m (trD m x)) fun k m => if k then .ok x m else fb e m := by
  unfold fOrV
  congr
  funext x m
  cases trD m x with
  | none => rfl
  | some k => cases k <;> rfl
@[simp] theorem fCmp_ap (op : CmpOp) : fCmp op fa fb e m = bnd (fa e m) fun x m => bnd (fb e m) fun y m => bnd (ofB m (cmpD op x y m)) fun k m => .ok (.bl k) m := by
  show bnd (fa e m) (fun x m => bnd (fb e m) fun y m => ofO m ((cmpD op x y m).map .bl)) = _
  congr
  funext x m
  congr
  funext y m
  cases cmpD op x y m <;> rfl
@[simp] theorem fCmpN_ap (l : List (CmpOp × FE)) : fCmpN fa l e m = bnd (fa e m) fun v m => cmpGo v l e m := (rfl)
@[simp] theorem cmpGo_one (v : D) (op : CmpOp) : cmpGo v [(op, fb)] e m = bnd (fb e m) fun y m => bnd (ofB m (cmpD op v y m)) fun k m => .ok (.bl k) m := by
  show bnd (fb e m) (fun b m => ofO m ((cmpD op v b m).map .bl)) = _
  congr
  funext y m
  cases cmpD op v y m <;> rfl
@[simp] theorem cmpGo_more (v : D) (op : CmpOp) (p : CmpOp × FE) (l : List (CmpOp × FE)) : cmpGo v ((op, fb) :: p :: l) e m = bnd (fb e m) fun y m => bnd (ofB m (cmpD op v y m)) fun k m => if k then cmpGo y (p :: l) e m else .ok (.bl false) m := by
  show bnd (fb e m) _ = _
  congr
  funext y m
  cases h : cmpD op v y m with
  | none => simp only [h]; rfl
  | some k => cases k <;> simp only [h] <;> rfl
@[simp] theorem fIf_ap : fIf ft fa fb e m = bnd (ft e m) fun t m => if t then fa e m else fb e m := (rfl)
@[simp] theorem fNil_ap : fNil e m = .ok [] m := (rfl)
@[simp] theorem fCons_ap : fCons fa fr e m = bnd (fa e m) fun a m => bnd (fr e m) fun r m => .ok (a :: r) m := (rfl)
@[simp] theorem fTup_ap : fTup fs e m = bnd (fs e m) fun ds m => if ds.length ≤ sizeLine then .ok (.tup ds) m else .bad := (rfl)
@[simp] theorem fLst_ap : fLst fs e m = bnd (fs e m) fun ds m => if ds.length ≤ sizeLine then .ok (.lst ds) m else .bad := (rfl)
@[simp] theorem fIx_ap : fIx fa fb e m = bnd (fa e m) fun x m => bnd (fb e m) fun y m => ofO m (ixD x y m) := (rfl)
@[simp] theorem fPart_none : fPart none e m = .ok none m := (rfl)
def intO : D → Option Int
  | .int i => some i
  | _ => none
def ofI (m : Mem) : Option Int → Res (Option Int)
  | some i => .ok (some i) m
  | none => .bad
@[simp] theorem ofI_some (i : Int) : ofI m (some i) = .ok (some i) m := (rfl)
@[simp] theorem intO_int (i : Int) : intO (.int i) = some i := (rfl)
@[simp] theorem fPart_some : fPart (some fa) e m = bnd (fa e m) fun d m => ofI m (intO d) := by
  show bnd (fa e m) _ = _
  congr
  funext d m
  cases d <;> rfl
@[simp] theorem fSl_ap (lo hi : Option FE) : fSl fa lo hi e m = bnd (fa e m) fun a m => bnd (fPart lo e m) fun l m => bnd (fPart hi e m) fun h m => ofO m (slD a l h m) := (rfl)
@[simp] theorem fBlt_ap (f : Blt) : fBlt f fs e m = bnd (fs e m) fun ds m => ofO m (bltD f ds m) := (rfl)
@[simp] theorem fIsi_ap (t : Ty) : fIsi t fa e m = bnd (fa e m) fun d m => bnd (ofB m (isiD t (res m d))) fun k m => .ok (.bl k) m := by
  show bnd (fa e m) _ = _
  congr
  funext d m
  cases isiD t (res m d) <;> rfl
@[simp] theorem fApp_ap (g : FF) : fApp g fs e m = bnd (fs e m) g := (rfl)
def ofP (r : Option (D × Mem)) : Res D := match r with
  | some p => .ok p.1 p.2
  | none => .bad
@[simp] theorem ofP_some (d : D) : ofP (some (d, m)) = .ok d m := (rfl)
@[simp] theorem ofP_none : ofP none = .bad := (rfl)
/-- a method, of what kind the object is -/
def mthR (f : Mth) (o : D) (m0 : Mem) (ds : List D) (m : Mem) : Res D := match rkD m0 o with
  | some k => if mthOk f k then ofP (mthD f k o ds m) else .bad
  | none => .bad
theorem fMth_at (f : Mth) {o : D} {m1 m2 : Mem} {ds : List D} {k : Rk} (h : fo e m = .ok o m1) (hk : rkD m1 o = some k) (ok : mthOk f k = true) (hs : fs e m1 = .ok ds m2) : fMth f fo fs e m = ofP (mthD f k o ds m2) := by
  unfold fMth
  rw [h]
  simp only [bnd_ok, hk, ok, if_true, hs]
  cases mthD f k o ds m2 <;> rfl
@[simp] theorem fDct0_ap : fDct0 e m = .ok (.dct [] []) m := (rfl)
def ofN (r : Option (D × Mem)) : Res D := match r with
  | some p => .ok p.1 p.2
  | none => .bad
@[simp] theorem fNew_ap : fNew fa e m = bnd (fa e m) fun d m => ofP (newC d m) := by
  rfl
@[simp] theorem newC_lst (ds : List D) : newC (.lst ds) m = some (.ref m.length, m ++ [.lst ds]) := (rfl)
@[simp] theorem newC_dct (ks vs : List D) : newC (.dct ks vs) m = some (.ref m.length, m ++ [.dct ks vs]) := (rfl)
@[simp] theorem iVal_ap : iVal fa e m = bnd (fa e m) fun d m => match itOf m d with | some p => .ok p m | none => .bad := (rfl)
@[simp] theorem tAnd_ap {x y : FB} : tAnd x y e m = bnd (x e m) fun k m => if k then y e m else .ok false m := (rfl)
@[simp] theorem tOr_ap {x y : FB} : tOr x y e m = bnd (x e m) fun k m => if k then .ok true m else y e m := (rfl)
@[simp] theorem tNot_ap {x : FB} : tNot x e m = bnd (x e m) fun k m => .ok (!k) m := (rfl)
@[simp] theorem tIfE_ap {x y z : FB} : tIfE x y z e m = bnd (x e m) fun k m => if k then y e m else z e m := (rfl)
@[simp] theorem tYes_ap : tYes e m = .ok true m := (rfl)
/-! statements -/
def sThen (r : SRes) (b : FS) : SRes := match r with
  | .ok .nx e m => b e m
  | r => r
@[simp] theorem sSeq_ap : sSeq a b e m = sThen (a e m) b := by
  unfold sSeq sThen
  cases a e m with
  | ok f e m => cases f <;> rfl
  | exc _ _ _ => rfl
  | bad => rfl
@[simp] theorem sThen_nx : sThen (.ok .nx e m) b = b e m := (rfl)
@[simp] theorem sThen_bk : sThen (.ok .bk e m) b = .ok .bk e m := (rfl)
@[simp] theorem sThen_ct : sThen (.ok .ct e m) b = .ok .ct e m := (rfl)
@[simp] theorem sThen_rt (d : D) : sThen (.ok (.rt d) e m) b = .ok (.rt d) e m := (rfl)
@[simp] theorem sThen_bad : sThen .bad b = .bad := (rfl)
@[simp] theorem sNx_ap : sNx e m = .ok .nx e m := (rfl)
@[simp] theorem sBad_ap : sBad e m = .bad := (rfl)
@[simp] theorem sBreak_ap : sBreak e m = .ok .bk e m := (rfl)
@[simp] theorem sCont_ap : sCont e m = .ok .ct e m := (rfl)
@[simp] theorem sDrop_ap : sDrop fa e m = sBd (fa e m) e fun _ m => .ok .nx e m := (rfl)
@[simp] theorem sRet_ap : sRet fa e m = sBd (fa e m) e fun d m => .ok (.rt d) e m := (rfl)
@[simp] theorem sRetN_ap : sRetN e m = .ok (.rt .non) e m := (rfl)
@[simp] theorem sIf_ap : sIf ft a b e m = sBd (ft e m) e fun t m => if t then a e m else b e m := (rfl)
@[simp] theorem sSet_ap (i : Nat) : sSet i fa e m = sBd (fa e m) e fun d m => .ok .nx (e.set i (some d)) m := (rfl)
@[simp] theorem sPar_ap (is : List Nat) : sPar is fs e m = sBd (fs e m) e fun ds m => .ok .nx (setsL is ds e) m := (rfl)
@[simp] theorem setsL_cons (i : Nat) (is : List Nat) (d : D) (ds : List D) : setsL (i :: is) (d :: ds) e = setsL is ds (e.set i (some d)) := (rfl)
@[simp] theorem setsL_nil : setsL [] [] e = e := (rfl)
def sOf (e : Option Sto) (m : Mem) : SRes := match e with
  | some e => .ok .nx e m
  | none => .bad
@[simp] theorem sOf_some : sOf (some e) m = .ok .nx e m := (rfl)
@[simp] theorem sOf_none : sOf none m = .bad := (rfl)
@[simp] theorem sAsg_ap (t : Tgt) : sAsg t fa e m = sBd (fa e m) e fun d m => sOf (bindT t d e) m := by
  rfl
@[simp] theorem bindT_name (i : Nat) (d : D) : bindT (.name i) d e = some (e.set i (some d)) := by simp [bindT]
@[simp] theorem bindT_tup (ts : List Tgt) (ds : List D) : bindT (.tup ts) (.tup ds) e = bindL ts ds e := by simp [bindT]
@[simp] theorem bindL_nil : bindL [] [] e = some e := by simp [bindL]
@[simp] theorem bindL_cons (t : Tgt) (ts : List Tgt) (d : D) (ds : List D) : bindL (t :: ts) (d :: ds) e = (bindT t d e).bind (bindL ts ds) := by simp [bindL]
def sMem (e : Sto) : Option Mem → SRes
  | some m => .ok .nx e m
  | none => .bad
@[simp] theorem sMem_some : sMem e (some m) = .ok .nx e m := (rfl)
@[simp] theorem sMem_none : sMem e none = .bad := (rfl)
@[simp] theorem sPut_ap {fi fv : FE} : sPut fo fi fv e m = sBd (fv e m) e fun v m => sBd (fo e m) e fun o m => sBd (fi e m) e fun i m => sMem e (putD o i v m) := by
  rfl
@[simp] theorem sAugP_ap (op : Operator) {fi fv : FE} : sAugP op fo fi fv e m = sBd (fo e m) e fun o m => sBd (fi e m) e fun i m => sBd (ofO m (dctAt m o i)) e fun x m => sBd (fv e m) e fun v m => sBd (ofO m (augD op x v)) e fun z m => sMem e (putD o i z m) := by
  unfold sAugP
  congr
  funext o m
  congr
  funext i m
  cases dctAt m o i with
  | none => rfl
  | some x =>
    simp only [ofO_some, sBd_ok]
    congr
    funext v m
    cases augD op x v with
    | none => rfl
    | some z =>
      simp only [ofO_some, sBd_ok]
      cases putD o i z m <;> rfl
@[simp] theorem sFor_ap (t : Tgt) (fi : FI) : sFor t fi a e m = sBd (fi e m) e fun p m => forGo t a p.2 m p.1 e m := (rfl)
@[simp] theorem augD_add (i j : Int) : augD .Add (.int i) (.int j) = some (.int (i + j)) := (rfl)
@[simp] theorem augD_sub (i j : Int) : augD .Sub (.int i) (.int j) = some (.int (i - j)) := (rfl)
@[simp] theorem sAug_ap (op : Operator) (i : Nat) : sAug op i fa e m = sBd (ofO m (atV e i)) e fun x m => sBd (fa e m) e fun v m => sBd (ofO m (augD op x v)) e fun z m => .ok .nx (e.set i (some z)) m := by
  unfold sAug atV
  cases e[i]? with
  | none => rfl
  | some o =>
    cases o with
    | none => rfl
    | some x =>
      show sBd (fa e m) e _ = sBd (fa e m) e _
      congr
      funext v m
      cases augD op x v <;> rfl
/-! data -/
@[simp] theorem res_non : res m .non = .non := (rfl)
@[simp] theorem res_bl (b : Bool) : res m (.bl b) = .bl b := (rfl)
@[simp] theorem res_int (i : Int) : res m (.int i) = .int i := (rfl)
@[simp] theorem res_str (s : Str) : res m (.str s) = .str s := (rfl)
@[simp] theorem res_tupS (ds : List D) : res m (.tup ds) = .tup ds := (rfl)
@[simp] theorem res_lst (ds : List D) : res m (.lst ds) = .lst ds := (rfl)
@[simp] theorem res_dct (ks vs : List D) : res m (.dct ks vs) = .dct ks vs := (rfl)
@[simp] theorem res_scr (ds : List D) : res m (.scr ds) = .lst ds := (rfl)
@[simp] theorem trD_blS (b : Bool) : trD m (.bl b) = some b := (rfl)
@[simp] theorem trD_int (i : Int) : trD m (.int i) = some (i != 0) := (rfl)
@[simp] theorem trD_non : trD m .non = some false := (rfl)
@[simp] theorem cmp_lt (i j : Int) : cmpD .Lt (.int i) (.int j) m = some (decide (i < j)) := (rfl)
@[simp] theorem cmp_le (i j : Int) : cmpD .LtE (.int i) (.int j) m = some (decide (i ≤ j)) := (rfl)
@[simp] theorem cmp_gt (i j : Int) : cmpD .Gt (.int i) (.int j) m = some (decide (j < i)) := (rfl)
@[simp] theorem cmp_ge (i j : Int) : cmpD .GtE (.int i) (.int j) m = some (decide (j ≤ i)) := (rfl)
@[simp] theorem cmp_eqI (i j : Int) : cmpD .Eq (.int i) (.int j) m = some (i == j) := by simp [cmpD, eqOk, plain, dep, eqD]
@[simp] theorem cmp_neI (i j : Int) : cmpD .NotEq (.int i) (.int j) m = some (!(i == j)) := by simp [cmpD, eqOk, plain, dep, eqD]
@[simp] theorem cmp_eqS (i j : Str) : cmpD .Eq (.str i) (.str j) m = some (i == j) := by simp [cmpD, eqOk, plain, dep, eqD]
@[simp] theorem cmp_neS (i j : Str) : cmpD .NotEq (.str i) (.str j) m = some (!(i == j)) := by simp [cmpD, eqOk, plain, dep, eqD]
@[simp] theorem cmp_eqB (i j : Bool) : cmpD .Eq (.bl i) (.bl j) m = some (i == j) := by simp [cmpD, eqOk, plain, dep, eqD]
@[simp] theorem cmp_isN (d : D) : cmpD .Is d .non m = some (match d with | .non => true | _ => false) := (rfl)
@[simp] theorem cmp_notN (d : D) : cmpD .IsNot d .non m = some (match d with | .non => false | _ => true) := (rfl)
@[simp] theorem add_int (i j : Int) : binD .Add (.int i) (.int j) m = some (.int (i + j)) := (rfl)
@[simp] theorem sub_int (i j : Int) : binD .Sub (.int i) (.int j) m = some (.int (i - j)) := (rfl)
theorem mod_int (i j : Int) (h : 0 < j) : binD .Mod (.int i) (.int j) m = some (.int (i % j)) := by simp [binD, h]
theorem div_int (i j : Int) (h : 0 < j) (h2 : j < 1073741824) : binD .FloorDiv (.int i) (.int j) m = some (.int (i / j)) := by simp [binD, h, h2]
theorem mul_int (i j : Int) (h : mulOk i j = true) : binD .Mult (.int i) (.int j) m = some (.int (i * j)) := by simp [binD, h]
@[simp] theorem neg_int (i : Int) : negD (.int i) = some (.int (-i)) := (rfl)
@[simp] theorem len_lst (ds : List D) : bltD .len [.lst ds] m = some (.int ds.length) := (rfl)
@[simp] theorem len_tup (ds : List D) : bltD .len [.tup ds] m = some (.int ds.length) := (rfl)
@[simp] theorem len_scr (ds : List D) : bltD .len [.scr ds] m = some (.int ds.length) := (rfl)
@[simp] theorem int_int (i : Int) : bltD .int [.int i] m = some (.int i) := (rfl)
@[simp] theorem abs_int (i : Int) : bltD .abs [.int i] m = some (.int (if i < 0 then -i else i)) := (rfl)
@[simp] theorem tuple_lst (ds : List D) : bltD .tuple [.lst ds] m = some (.tup ds) := (rfl)
@[simp] theorem tuple_tup (ds : List D) : bltD .tuple [.tup ds] m = some (.tup ds) := (rfl)
@[simp] theorem list_lst (ds : List D) : bltD .list [.lst ds] m = some (.lst ds) := (rfl)
@[simp] theorem list_tup (ds : List D) : bltD .list [.tup ds] m = some (.lst ds) := (rfl)
@[simp] theorem isi_non (t : Ty) : isiD t .non = some false := (rfl)
@[simp] theorem isi_bl (t : Ty) (b : Bool) : isiD t (.bl b) = some (t == .bool || t == .int) := (rfl)
@[simp] theorem isi_int (t : Ty) (i : Int) : isiD t (.int i) = some (t == .int) := (rfl)
@[simp] theorem isi_str (t : Ty) (s : Str) : isiD t (.str s) = some (t == .str) := (rfl)
@[simp] theorem isi_tup (t : Ty) (ds : List D) : isiD t (.tup ds) = some (t == .tuple) := (rfl)
@[simp] theorem isi_lst (t : Ty) (ds : List D) : isiD t (.lst ds) = some (t == .list) := (rfl)
@[simp] theorem isi_dct (t : Ty) (ks vs : List D) : isiD t (.dct ks vs) = some (t == .dict) := (rfl)
theorem bools_map (bs : List Bool) : boolsD (bs.map .bl) = some bs := by
  induction bs with
  | nil => rfl
  | cons b r ih => rw [List.map_cons, boolsD, ih]; rfl
theorem all_map (bs : List Bool) : bltD .all [.lst (bs.map .bl)] m = some (.bl (bs.all id)) := by
  show ((lstD m (.lst (bs.map .bl))).bind fun ds => (boolsD ds).map fun bs => D.bl (bs.all id)) = _
  have : lstD m (.lst (bs.map .bl)) = some (bs.map .bl) := rfl
  rw [this, Option.bind_some, bools_map]
  rfl
theorem any_map (bs : List Bool) : bltD .any [.lst (bs.map .bl)] m = some (.bl (bs.any id)) := by
  show ((lstD m (.lst (bs.map .bl))).bind fun ds => (boolsD ds).map fun bs => D.bl (bs.any id)) = _
  have : lstD m (.lst (bs.map .bl)) = some (bs.map .bl) := rfl
  rw [this, Option.bind_some, bools_map]
  rfl
theorem atI_of {α : Type} {xs : List α} {i : Int} {v : α} (h0 : 0 ≤ i) (h : xs[i.toNat]? = some v) : L2.atI xs i = some v := by
  have : ((i.toNat : Nat) : Int) = i := by omega
  rw [← this]
  exact L2.atI_nat h
theorem ix_lst {ds : List D} {i : Int} {d : D} (h0 : 0 ≤ i) (h : ds[i.toNat]? = some d) : ixD (.lst ds) (.int i) m = some d := atI_of h0 h
theorem ix_tup {ds : List D} {i : Int} {d : D} (h0 : 0 ≤ i) (h : ds[i.toNat]? = some d) : ixD (.tup ds) (.int i) m = some d := atI_of h0 h
theorem ix_scr {ds : List D} {i : Int} {d : D} (h0 : 0 ≤ i) (h : ds[i.toNat]? = some d) : ixD (.scr ds) (.int i) m = some d := atI_of h0 h
@[simp] theorem ix_t0 (a : D) (r : List D) : ixD (.tup (a :: r)) (.int 0) m = some a := ix_tup (by omega) rfl
@[simp] theorem ix_t1 (a b : D) (r : List D) : ixD (.tup (a :: b :: r)) (.int 1) m = some b := ix_tup (by omega) rfl
@[simp] theorem ix_t2 (a b c : D) (r : List D) : ixD (.tup (a :: b :: c :: r)) (.int 2) m = some c := ix_tup (by omega) rfl
@[simp] theorem ix_t3 (a b c d : D) (r : List D) : ixD (.tup (a :: b :: c :: d :: r)) (.int 3) m = some d := ix_tup (by omega) rfl
/-! a call -/
@[simp] theorem endR_no (d : D) (m m' : Mem) : endR false d m m' = .ok d m' := (rfl)
@[simp] theorem endR_gc (d : D) (m m' : Mem) : endR true d m m' = gcR d m m' := (rfl)
@[simp] theorem retF_rt (gc : Bool) (d : D) (m' : Mem) : retF gc m (.ok (.rt d) e m') = endR gc d m m' := (rfl)
@[simp] theorem retF_nx (gc : Bool) (m' : Mem) : retF gc m (.ok .nx e m') = endR gc .non m m' := (rfl)
theorem runF_ap (gc : Bool) {np nN : Nat} {as : List D} (h : as.length = np) : runF gc np nN a as m = retF gc m (a (as.map some ++ List.replicate (nN - as.length) none) m) := by
  unfold runF
  rw [if_pos h]
/-! a list in the last cell -/
theorem app_last {m0 m1 : Mem} {i : Nat} {L : List D} {x : D} (he : atV e i = some (.ref m0.length)) (hl : m1.length = m0.length) (hf : fs e (m0 ++ [.lst L]) = .ok [x] (m1 ++ [.lst L])) (hz : L.length < sizeLine) :
    fMth .append (fVar i) fs e (m0 ++ [.lst L]) = .ok .non (m1 ++ [.lst (L ++ [x])]) := by
  have h1 : (m0 ++ [Cell.lst L])[m0.length]? = some (.lst L) := by simp
  have h2 : (m1 ++ [Cell.lst L])[m0.length]? = some (.lst L) := by rw [← hl]; simp
  refine (fMth_at .append (k := .lst) (fo := fVar i) (by rw [fVar_ap, he]; rfl) (by simp [rkD, Cs.res, h1]) rfl hf).trans ?_
  show ofP (appM (.ref m0.length) [x] (m1 ++ [.lst L])) = _
  simp only [appM, cellM, h2, hz, if_true, Option.map_some, ofP_some, setC]
  rw [← hl]
  simp
theorem rangeL_succ (j : Int) (n : Nat) : rangeL j (n + 1) = .int j :: rangeL (j + 1) n := rfl
theorem jRng1_ap {n : Int} (h : fa e m = .ok (.int n) m) (h1 : 0 ≤ n) (h2 : n < 2 ^ 62) : jRng1 fa e m = .ok (rangeL 0 n.toNat, []) m := by
  unfold jRng1
  rw [h]
  have : rngOk n = true := by
    unfold rngOk
    rw [Bool.and_eq_true, decide_eq_true_eq, decide_eq_true_eq]
    omega
  simp only [bnd_ok, this, if_true]
theorem jRng2_ap {i n : Int} (h : fa e m = .ok (.int i) m) (h' : fb e m = .ok (.int n) m) (h0 : -(2 ^ 62) ≤ i) (h2 : i < 2 ^ 62) (h3 : -(2 ^ 62) ≤ n) (h4 : n < 2 ^ 62) : jRng2 fa fb e m = .ok (rangeL i (n - i).toNat, []) m := by
  unfold jRng2
  have e1 : rngOk i = true := by
    unfold rngOk
    rw [Bool.and_eq_true, decide_eq_true_eq, decide_eq_true_eq]
    omega
  have e2 : rngOk n = true := by
    unfold rngOk
    rw [Bool.and_eq_true, decide_eq_true_eq, decide_eq_true_eq]
    omega
  rw [h]
  simp only [bnd_ok, h', e1, e2, Bool.and_self, if_true]
theorem size_big : (1000000 : Nat) < sizeLine := by rw [PySem.sizeLine_eq]; decide
end
theorem okS.thn {r : SRes} {b : FS} {Q : Fl → Sto → Mem → Prop} (h : okS r fun f e m => match f with
    | .nx => okS (b e m) Q
    | f => Q f e m) : okS (sThen r b) Q := by
  obtain ⟨f, e1, m1, rfl, h2⟩ := h
  cases f with
  | nx => exact h2
  | bk => exact ⟨_, _, _, rfl, h2⟩
  | ct => exact ⟨_, _, _, rfl, h2⟩
  | rt d => exact ⟨_, _, _, rfl, h2⟩
theorem okF {gc : Bool} {np nN : Nat} {b : FS} {as : List D} {m : Mem} {Q : D → Mem → Prop} (h : as.length = np) (k : okS (b (as.map some ++ List.replicate (nN - as.length) none) m) fun f _ m' => match f with
    | .nx => okR (endR gc .non m m') Q
    | .rt d => okR (endR gc d m m') Q
    | _ => False) : okR (runF gc np nN b as m) Q := by
  rw [runF_ap gc h]
  obtain ⟨f, e, m', h1, h2⟩ := k
  rw [h1]
  cases f with
  | nx => exact h2
  | rt d => exact h2
  | bk => exact h2.elim
  | ct => exact h2.elim
mutual
theorem low_plain {n : Nat} : ∀ d : D, plain d = true → low n d = true
  | .non, _ => rfl
  | .bl _, _ => rfl
  | .int _, _ => rfl
  | .str _, _ => rfl
  | .tup ds, h => by simp only [low]; exact lowL_plain ds (by simpa only [plain] using h)
  | .lst ds, h => by simp only [low]; exact lowL_plain ds (by simpa only [plain] using h)
  | .dct _ _, h => by simp [plain] at h
  | .ref _, h => by simp [plain] at h
  | .scr _, h => by simp [plain] at h
theorem lowL_plain {n : Nat} : ∀ ds : List D, plainL ds = true → lowL n ds = true
  | [], _ => rfl
  | d :: ds, h => by
    simp only [plainL, Bool.and_eq_true] at h
    simp only [lowL, Bool.and_eq_true]
    exact ⟨low_plain d h.1, lowL_plain ds h.2⟩
end
theorem plainL_ints : ∀ ds : List Int, plainL (ds.map .int) = true
  | [] => rfl
  | d :: ds => by simp only [List.map_cons, plainL, plain, plainL_ints ds, Bool.and_self]
/-- a plain answer, new cells only -/
theorem gcR_plain {d : D} {m x : Mem} (h : plain d = true) : gcR d m (m ++ x) = .ok d m := gcR_low (low_plain d h)
theorem pow_18 (m : Mem) : binD .Pow (.int 10) (.int 18) m = some (.int 1000000000000000000) := by
  have h : (0 : Int) ≤ 18 ∧ (18 : Int) ≤ 1000000 ∧ (10 : Int).natAbs < 2 ^ 64 := by omega
  show (if (0 : Int) ≤ 18 ∧ (18 : Int) ≤ 1000000 ∧ (10 : Int).natAbs < 2 ^ 64 then some (D.int ((10 : Int) ^ (18 : Int).toNat)) else none) = _
  rw [if_pos h]
  rfl
/-! ### loops, the wish left open -/
/-- what a turn is to reach -/
structure Turn (Q : Fl → Sto → Mem → Prop) (P : Sto → Mem → Prop) (Q' : Fl → Sto → Mem → Prop) : Prop where
  nx : ∀ e m, P e m → Q' .nx e m
  ct : ∀ e m, P e m → Q' .ct e m
  bk : ∀ e m, Q .nx e m → Q' .bk e m
  rt : ∀ d e m, Q (.rt d) e m → Q' (.rt d) e m
theorem forT {t : Tgt} {b : FS} {ns : List Nat} {m0 : Mem} {Q : Fl → Sto → Mem → Prop} {ds : List D} {e : Sto} {m : Mem} (I : List D → Sto → Mem → Prop) (h : I ds e m) (hn : ∀ e m, I [] e m → Q .nx e m)
    (hs : ∀ d r e m, I (d :: r) e m → ∃ e', bindT t d e = some e' ∧ ∀ Q', Turn Q (fun e m => same ns m0 m = true ∧ I r e m) Q' → okS (b e' m) Q') : okS (forGo t b ns m0 ds e m) Q :=
  for_inv I hn (fun d r e m hi => by
    obtain ⟨e', h1, h2⟩ := hs d r e m hi
    exact ⟨e', h1, h2 _ ⟨fun _ _ z => z, fun _ _ z => z, fun _ _ z => z, fun _ _ _ z => z⟩⟩) ds e m h
/-- .. over what no cell holds -/
theorem forT0 {t : Tgt} {b : FS} {m0 : Mem} {Q : Fl → Sto → Mem → Prop} {ds : List D} {e : Sto} {m : Mem} (I : List D → Sto → Mem → Prop) (h : I ds e m) (hn : ∀ e m, I [] e m → Q .nx e m)
    (hs : ∀ d r e m, I (d :: r) e m → ∃ e', bindT t d e = some e' ∧ ∀ Q', Turn Q (I r) Q' → okS (b e' m) Q') : okS (forGo t b [] m0 ds e m) Q :=
  forT I h hn fun d r e m hi => by
    obtain ⟨e', h1, h2⟩ := hs d r e m hi
    exact ⟨e', h1, fun Q' q => h2 Q' ⟨fun e m z => q.nx e m ⟨rfl, z⟩, fun e m z => q.ct e m ⟨rfl, z⟩, q.bk, q.rt⟩⟩
theorem whlT {t : FB} {b : FS} {Q : Fl → Sto → Mem → Prop} {e : Sto} {m : Mem} (I : Nat → Sto → Mem → Prop) (n : Nat) (hn : n < 2 ^ 64) (hi : I n e m)
    (hs : ∀ n e m, I n e m → (t e m = .ok false m ∧ Q .nx e m) ∨ (t e m = .ok true m ∧ ∀ Q', Turn Q (fun e m => ∃ n', n' < n ∧ I n' e m) Q' → okS (b e m) Q')) : okS (sWhl t b e m) Q :=
  whl_ok I n hn hi fun n e m h => by
    rcases hs n e m h with ⟨h1, h2⟩ | ⟨h1, h2⟩
    · exact okR.of h1 (by rw [if_neg Bool.false_ne_true]; exact h2)
    · exact okR.of h1 (by rw [if_pos rfl]; exact h2 _ ⟨fun _ _ z => z, fun _ _ z => z, fun _ _ z => z, fun _ _ _ z => z⟩)
theorem sl_of {n : Nat} (h : n ≤ 1000000) : n ≤ sizeLine := Nat.le_of_lt (Nat.lt_of_le_of_lt h size_big)
@[simp] theorem sl_1 : 1 ≤ sizeLine := sl_of (by omega)
@[simp] theorem sl_2 : 2 ≤ sizeLine := sl_of (by omega)
@[simp] theorem sl_3 : 3 ≤ sizeLine := sl_of (by omega)
@[simp] theorem sl_4 : 4 ≤ sizeLine := sl_of (by omega)
@[simp] theorem sl_5 : 5 ≤ sizeLine := sl_of (by omega)
@[simp] theorem sl_6 : 6 ≤ sizeLine := sl_of (by omega)
@[simp] theorem sl_7 : 7 ≤ sizeLine := sl_of (by omega)
@[simp] theorem sl_8 : 8 ≤ sizeLine := sl_of (by omega)
@[simp] theorem sl_9 : 9 ≤ sizeLine := sl_of (by omega)
@[simp] theorem sl_10 : 10 ≤ sizeLine := sl_of (by omega)
@[simp] theorem sl_11 : 11 ≤ sizeLine := sl_of (by omega)
@[simp] theorem sl_12 : 12 ≤ sizeLine := sl_of (by omega)
@[simp] theorem sl_13 : 13 ≤ sizeLine := sl_of (by omega)
@[simp] theorem sl_14 : 14 ≤ sizeLine := sl_of (by omega)
@[simp] theorem sl_15 : 15 ≤ sizeLine := sl_of (by omega)
@[simp] theorem sl_16 : 16 ≤ sizeLine := sl_of (by omega)
@[simp] theorem sl_17 : 17 ≤ sizeLine := sl_of (by omega)
@[simp] theorem sl_18 : 18 ≤ sizeLine := sl_of (by omega)
@[simp] theorem sl_19 : 19 ≤ sizeLine := sl_of (by omega)
@[simp] theorem sl_20 : 20 ≤ sizeLine := sl_of (by omega)
@[simp] theorem sl_21 : 21 ≤ sizeLine := sl_of (by omega)
@[simp] theorem sl_22 : 22 ≤ sizeLine := sl_of (by omega)
@[simp] theorem sl_23 : 23 ≤ sizeLine := sl_of (by omega)
@[simp] theorem sl_24 : 24 ≤ sizeLine := sl_of (by omega)
@[simp] theorem sl_25 : 25 ≤ sizeLine := sl_of (by omega)
@[simp] theorem sl_26 : 26 ≤ sizeLine := sl_of (by omega)
@[simp] theorem sl_27 : 27 ≤ sizeLine := sl_of (by omega)
@[simp] theorem sl_28 : 28 ≤ sizeLine := sl_of (by omega)
@[simp] theorem sl_29 : 29 ≤ sizeLine := sl_of (by omega)
@[simp] theorem sl_30 : 30 ≤ sizeLine := sl_of (by omega)
/-! ### plain data: size, equality -/
mutual
def szD : D → Nat
  | .tup ds => szL ds + 1
  | .lst ds => szL ds + 1
  | _ => 1
def szL : List D → Nat
  | [] => 0
  | d :: ds => szD d + szL ds
end
theorem szD_pos (d : D) : 1 ≤ szD d := by cases d <;> simp [szD]
theorem szL_len : ∀ ds : List D, ds.length ≤ szL ds
  | [] => Nat.le_refl _
  | d :: ds => by
    have := szD_pos d
    have := szL_len ds
    simp only [List.length_cons, szL]
    omega
theorem szL_app : ∀ a b : List D, szL (a ++ b) = szL a + szL b
  | [], b => by simp [szL]
  | d :: a, b => by simp only [List.cons_append, szL, szL_app a b]; omega
mutual
theorem eqD_refl : ∀ d : D, plain d = true → eqD d d = true
  | .non, _ => rfl
  | .bl _, _ => by simp [eqD]
  | .int _, _ => by simp [eqD]
  | .str _, _ => by simp [eqD]
  | .tup ds, h => by simp only [eqD]; exact eqL_refl ds (by simpa only [Cs.plain] using h)
  | .lst ds, h => by simp only [eqD]; exact eqL_refl ds (by simpa only [Cs.plain] using h)
  | .dct _ _, h => by simp [Cs.plain] at h
  | .ref _, h => by simp [Cs.plain] at h
  | .scr _, h => by simp [Cs.plain] at h
theorem eqL_refl : ∀ d : List D, plainL d = true → eqL d d = true
  | [], _ => rfl
  | d :: ds, h => by
    simp only [plainL, Bool.and_eq_true] at h
    simp only [eqL, eqD_refl d h.1, eqL_refl ds h.2, Bool.and_self]
end
theorem plainL_app : ∀ a b : List D, plainL (a ++ b) = (plainL a && plainL b)
  | [], b => by simp [plainL]
  | d :: a, b => by simp only [List.cons_append, plainL, plainL_app a b, Bool.and_assoc]
theorem plainL_mem {ds : List D} {d : D} (h : plainL ds = true) (hd : d ∈ ds) : plain d = true := plain_mem h hd
theorem plainL_of : ∀ {ds : List D}, (∀ d ∈ ds, plain d = true) → plainL ds = true
  | [], _ => rfl
  | d :: ds, h => by
    simp only [plainL, Bool.and_eq_true]
    exact ⟨h d List.mem_cons_self, plainL_of fun e he => h e (List.mem_cons_of_mem _ he)⟩
theorem depL_of {n : Nat} : ∀ {ds : List D}, (∀ d ∈ ds, dep d ≤ n) → depL ds ≤ n
  | [], _ => Nat.zero_le _
  | d :: ds, h => by
    simp only [depL]
    exact Nat.max_le.mpr ⟨h d List.mem_cons_self, depL_of fun e he => h e (List.mem_cons_of_mem _ he)⟩
/-- all of a list pops -/
theorem list_snoc {α : Type} {l : List α} (h : l ≠ []) : ∃ a x, l = a ++ [x] := ⟨l.dropLast, l.getLast h, (List.dropLast_concat_getLast h).symm⟩
section
variable {fa fb fo : FE} {fs : FL} {e : Sto} {m : Mem}
theorem ext_last {m0 m1 : Mem} {i : Nat} {L X : List D} (he : atV e i = some (.ref m0.length)) (hl : m1.length = m0.length) (hf : fs e (m0 ++ [.lst L]) = .ok [.lst X] (m1 ++ [.lst L])) (hz : L.length + X.length ≤ sizeLine) :
    fMth .extend (fVar i) fs e (m0 ++ [.lst L]) = .ok .non (m1 ++ [.lst (L ++ X)]) := by
  have h1 : (m0 ++ [Cell.lst L])[m0.length]? = some (.lst L) := by simp
  have h2 : (m1 ++ [Cell.lst L])[m0.length]? = some (.lst L) := by rw [← hl]; simp
  refine (fMth_at .extend (k := .lst) (fo := fVar i) (by rw [fVar_ap, he]; rfl) (by simp [rkD, Cs.res, h1]) rfl hf).trans ?_
  show ofP (extM (.ref m0.length) [.lst X] (m1 ++ [.lst L])) = _
  have h3 : lstX (m1 ++ [Cell.lst L]) (.lst X) = some X := rfl
  simp only [extM, h3, Option.bind_some, cellM, h2, hz, if_true, Option.map_some, ofP_some, setC]
  rw [← hl]
  simp
theorem pop_last {m0 : Mem} {i : Nat} {L : List D} {x : D} (he : atV e i = some (.ref m0.length)) : fMth .pop (fVar i) fNil e (m0 ++ [.lst (L ++ [x])]) = .ok x (m0 ++ [.lst L]) := by
  have h1 : (m0 ++ [Cell.lst (L ++ [x])])[m0.length]? = some (.lst (L ++ [x])) := by simp
  refine (fMth_at .pop (k := .lst) (fo := fVar i) (by rw [fVar_ap, he]; rfl) (by simp [rkD, Cs.res, h1]) rfl (fNil_ap ..)).trans ?_
  show ofP (popM (.ref m0.length) [] (m0 ++ [.lst (L ++ [x])])) = _
  have h3 : (L ++ [x])[(L ++ [x]).length - 1]? = some x := by simp
  simp only [popM, cellM, h1, h3, Option.map_some, ofP_some, setC]
  simp
theorem fLc_ap {own : List Nat} {t : Tgt} {fi : FI} {ft : FB} {fe : FE} {p : List D × List Nat} {vs : List D} (h : fi e m = .ok p m) (h2 : lcGo t ft fe (wipe e own) p.2 m p.1 m = .ok vs m) (hz : vs.length ≤ sizeLine) : fLc own t fi ft fe e m = .ok (.lst vs) m := by
  unfold fLc
  rw [h]
  simp only [bnd_ok, h2, hz, if_true]
theorem fLc2_ap {own own1 : List Nat} {t t1 : Tgt} {fi fi1 : FI} {ft ft1 : FB} {fe : FE} {p : List D × List Nat} {vs : List D} (h : fi e m = .ok p m) (h2 : lc2Go t ft (lcIn t1 fi1 ft1 fe own1) (wipe e own) p.2 m p.1 m = .ok vs m) (hz : vs.length ≤ sizeLine) : fLc2 own t fi ft own1 t1 fi1 ft1 fe e m = .ok (.lst vs) m := by
  unfold fLc2
  rw [h]
  simp only [bnd_ok, h2, hz, if_true]
theorem lcIn_ap {own1 : List Nat} {t : Tgt} {fi : FI} {ft : FB} {fe : FE} {p : List D × List Nat} {vs : List D} (h : fi e m = .ok p m) (h2 : lcGo t ft fe (wipe e own1) p.2 m p.1 m = .ok vs m) : lcIn t fi ft fe own1 e m = .ok vs m := by
  unfold lcIn
  rw [h]
  exact h2
@[simp] theorem wipe_nil : wipe e [] = e := (rfl)
@[simp] theorem wipe_cons (i : Nat) (r : List Nat) : wipe e (i :: r) = (wipe e r).set i none := (rfl)
theorem iVal_tup {ds : List D} (h : fa e m = .ok (.tup ds) m) : iVal fa e m = .ok (ds, []) m := by
  unfold iVal
  rw [h]
  rfl
theorem iVar_tup {i : Nat} {ds : List D} (h : atV e i = some (.tup ds)) : iVar i e m = .ok (ds, []) m := by
  have : e[i]? = some (some (.tup ds)) := by
    unfold atV at h
    cases q : e[i]? with
    | none => rw [q] at h; cases h
    | some x => rw [q] at h; simp at h; rw [h]
  unfold iVar
  rw [this]
  unfold iVal fVar
  rw [this]
  rfl
theorem iVar_lst {i : Nat} {ds : List D} (h : atV e i = some (.lst ds)) : iVar i e m = .ok (ds, []) m := by
  have : e[i]? = some (some (.lst ds)) := by
    unfold atV at h
    cases q : e[i]? with
    | none => rw [q] at h; cases h
    | some x => rw [q] at h; simp at h; rw [h]
  unfold iVar
  rw [this]
  unfold iVal fVar
  rw [this]
  rfl
theorem iVar_dct {i : Nat} {ks vs : List D} (h : atV e i = some (.dct ks vs)) (hk : ks.all flatK = true) : iVar i e m = .ok (ks, []) m := by
  have : e[i]? = some (some (.dct ks vs)) := by
    unfold atV at h
    cases q : e[i]? with
    | none => rw [q] at h; cases h
    | some x => rw [q] at h; simp at h; rw [h]
  unfold iVar
  rw [this]
  simp only [hk, if_true]
theorem iVal_lst {ds : List D} (h : fa e m = .ok (.lst ds) m) : iVal fa e m = .ok (ds, []) m := by
  unfold iVal
  rw [h]
  rfl
theorem iVal_str {s : Str} (h : fa e m = .ok (.str s) m) : iVal fa e m = .ok (s.cps.toList.map fun c => .str ⟨#[c]⟩, []) m := by
  unfold iVal
  rw [h]
  rfl
theorem cmp_eqD {a b : D} (ha : plain a = true) (hb : plain b = true) (hd : min (dep a) (dep b) ≤ 150) : cmpD .Eq a b m = some (eqD a b) := by
  have h1 : ∀ d : D, plain d = true → Cs.res m d = d := fun d h => by cases d <;> first | rfl | (simp [Cs.plain] at h)
  simp only [cmpD, h1 a ha, h1 b hb, eqOk, ha, hb, hd, Bool.and_self, decide_true, Bool.true_or, if_true]
theorem cmp_neD {a b : D} (ha : plain a = true) (hb : plain b = true) (hd : min (dep a) (dep b) ≤ 150) : cmpD .NotEq a b m = some (!eqD a b) := by
  have h1 : ∀ d : D, plain d = true → Cs.res m d = d := fun d h => by cases d <;> first | rfl | (simp [Cs.plain] at h)
  simp only [cmpD, h1 a ha, h1 b hb, eqOk, ha, hb, hd, Bool.and_self, decide_true, Bool.true_or, if_true]
@[simp] theorem cmp_neB (i j : Bool) : cmpD .NotEq (.bl i) (.bl j) m = some (!(i == j)) := by simp [cmpD, eqOk, Cs.plain, dep, eqD]
end
/-- the items by their places -/
def byIx (ds : List D) (f : D → D) : D → D
  | .int k => match ds[k.toNat]? with
    | some x => f x
    | none => .non
  | _ => .non
theorem range_mem : ∀ {n : Nat} {lo : Int} {d : D}, d ∈ rangeL lo n → ∃ k : Nat, k < n ∧ d = .int (lo + k)
  | 0, _, _, h => by simp [rangeL] at h
  | n + 1, lo, d, h => by
    rw [rangeL_succ] at h
    rcases List.mem_cons.mp h with rfl | h
    · exact ⟨0, by omega, by simp⟩
    · obtain ⟨k, h1, rfl⟩ := range_mem h
      exact ⟨k + 1, by omega, by congr 1; omega⟩
theorem range_byIx (f : D → D) : ∀ (pre ds : List D), (rangeL pre.length ds.length).map (byIx (pre ++ ds) f) = ds.map f
  | _, [] => rfl
  | pre, d :: ds => by
    rw [List.length_cons, rangeL_succ, List.map_cons, List.map_cons]
    have ih := range_byIx f (pre ++ [d]) ds
    rw [List.append_assoc] at ih
    have e : ((pre ++ [d]).length : Int) = (pre.length : Int) + 1 := by simp
    rw [e] at ih
    rw [show [d] ++ ds = d :: ds from rfl] at ih
    rw [ih]
    congr 1
    simp [byIx]
theorem range_by (f : D → D) (ds : List D) : (rangeL 0 ds.length).map (byIx ds f) = ds.map f := range_byIx f [] ds
theorem gcC_low {n : Nat} {mm : Mem} {c c' : Cell} (h : frzC n mm c' = some c') : gcC n mm c c' = some c' := by
  unfold gcC
  split
  · rename_i e
    rw [beqC_eq e]
  · exact h
theorem frzC_dct {n : Nat} {mm : Mem} {ks vs : List D} (h : plainL vs = true) : frzC n mm (.dct ks vs) = some (.dct ks vs) := by
  show (frz1L n (rsC n mm 8) vs).map (fun vs => Cell.dct ks vs) = _
  rw [frzL_low (lowL_plain vs h)]
  rfl
/-- the first cell changed, new cells behind -/
theorem gcR_first {d : D} {c c' : Cell} {r x : Mem} (hd : plain d = true) (hc : ∀ n mm, frzC n mm c' = some c') : gcR d (c :: r) (c' :: (r ++ x)) = .ok d (c' :: r) := by
  unfold gcR
  rw [frz_low (low_plain d hd)]
  simp only
  rw [gcM, gcC_low (hc _ _), Option.bind_some, gcM_app]
  rfl
/-- lo, lo + 1, .. -/
def intsL (lo : Int) : Nat → List Int
  | 0 => []
  | n + 1 => lo :: intsL (lo + 1) n
theorem rangeL_ints : ∀ (n : Nat) (lo : Int), rangeL lo n = (intsL lo n).map .int
  | 0, _ => rfl
  | n + 1, lo => by rw [rangeL_succ, intsL, List.map_cons, rangeL_ints n]
theorem intsL_len : ∀ (n : Nat) (lo : Int), (intsL lo n).length = n
  | 0, _ => rfl
  | n + 1, lo => by rw [intsL, List.length_cons, intsL_len n]
theorem intsL_mem : ∀ {n : Nat} {lo v : Int}, v ∈ intsL lo n ↔ lo ≤ v ∧ v < lo + n
  | 0, lo, v => by simp [intsL]
  | n + 1, lo, v => by
    rw [intsL, List.mem_cons, intsL_mem]
    omega
theorem add_tup {m : Mem} {xs ys : List D} (h : xs.length + ys.length ≤ sizeLine) : binD .Add (.tup xs) (.tup ys) m = some (.tup (xs ++ ys)) := by
  show (if xs.length + ys.length ≤ sizeLine then some (D.tup (xs ++ ys)) else none) = _
  rw [if_pos h]
theorem add_lst {m : Mem} {xs ys : List D} (h : xs.length + ys.length ≤ sizeLine) : binD .Add (.lst xs) (.lst ys) m = some (.lst (xs ++ ys)) := by
  show (if xs.length + ys.length ≤ sizeLine then some (D.lst (xs ++ ys)) else none) = _
  rw [if_pos h]
theorem add_str {m : Mem} {x y : Str} (h : x.length + y.length ≤ sizeLine) : binD .Add (.str x) (.str y) m = some (.str (x ++ y)) := by
  show (if x.length + y.length ≤ sizeLine then some (D.str (x ++ y)) else none) = _
  rw [if_pos h]
theorem snoc_ind {α : Type} {P : List α → Prop} (h0 : P []) (hs : ∀ l a, P l → P (l ++ [a])) (l : List α) : P l := by
  have : ∀ r : List α, P r.reverse := fun r => by
    induction r with
    | nil => exact h0
    | cons a r ih => rw [List.reverse_cons]; exact hs _ a ih
  have := this l.reverse
  rwa [List.reverse_reverse] at this
theorem all_true {m : Mem} {α : Type} (l : List α) : bltD .all [.lst (l.map fun _ => .bl true)] m = some (.bl true) := by
  have e : (l.map fun _ => D.bl true) = (l.map fun _ => true).map .bl := by rw [List.map_map]; rfl
  rw [e, all_map]
  congr 2
  rw [List.all_eq_true]
  intro x hx
  obtain ⟨_, _, rfl⟩ := List.mem_map.mp hx
  rfl
/-! ### texts in tuples -/
theorem plainL_strs : ∀ ns : List Str, plainL (ns.map .str) = true
  | [] => rfl
  | d :: ds => by simp only [List.map_cons, plainL, Cs.plain, plainL_strs ds, Bool.and_self]
theorem depL_strs : ∀ ns : List Str, depL (ns.map .str) = 0
  | [] => rfl
  | d :: ds => by simp only [List.map_cons, depL, dep, depL_strs ds, Nat.max_self]
theorem in_strs {m : Mem} (x : Str) (ns : List Str) : cmpD .In (.str x) (.tup (ns.map .str)) m = some (ns.any (· == x)) := by
  show inD (.str x) (.tup (ns.map .str)) = _
  simp only [inD, Cs.plain, plainL_strs, depL_strs, dep, Nat.min_self, Nat.zero_le, decide_true, Bool.and_self, if_true]
  rw [List.any_map]
  rfl
theorem nm_strsT {n : Str} {ns : List Str} : nmT ((n :: ns).map .str) = true := by
  show (((n :: ns).map D.str).all fun d => match d with | .str _ => true | _ => false) = true
  rw [List.all_eq_true]
  intro d hd
  obtain ⟨_, _, rfl⟩ := List.mem_map.mp hd
  rfl
/-- the place of a text, or None -/
def plD (ns : List Str) (x : Str) : D := match ns.findIdx? (· == x) with
  | some i => .int i
  | none => .non
theorem idx_if {e : Sto} {m : Mem} {i j : Nat} {x : Str} {ns : List Str} (hi : atV e i = some (.str x)) (hj : atV e j = some (.tup (ns.map .str))) :
    fIf (fTr (fCmp .In (fVar i) (fVar j))) (fMth .index (fVar j) (fCons (fVar i) fNil)) (fCon .non) e m = .ok (plD ns x) m := by
  simp only [fIf_ap, fTr_ap, fCmp_ap, fVar_ap, hi, hj, ofO_some, bnd_ok, in_strs, ofB_some, trD_blS]
  cases hf : ns.findIdx? (· == x) with
  | none =>
    have : ns.any (· == x) = false := by
      rw [List.findIdx?_eq_none_iff] at hf
      rw [List.any_eq_false]
      intro y hy
      simpa using hf y hy
    simp [this, plD, hf]
  | some k =>
    have : ns.any (· == x) = true := by
      obtain ⟨y, hy, he⟩ := List.findIdx?_eq_some_iff_findIdx_eq.mp hf |>.1 |> fun h => (⟨ns[k], List.getElem_mem h, by
        have := List.findIdx?_eq_some_iff_getElem.mp hf
        exact this.2.1⟩ : ∃ y, y ∈ ns ∧ (y == x) = true)
      exact List.any_eq_true.mpr ⟨y, hy, he⟩
    simp only [this, if_true]
    cases ns with
    | nil => simp at hf
    | cons n ns =>
      refine (fMth_at .index (k := .tup) (fo := fVar j) (m2 := m) (ds := [.str x]) (by rw [fVar_ap, hj]; rfl) (by simp only [rkD, res_tupS, nm_strsT, if_true]) rfl (by simp [hi])).trans ?_
      show ofP (idxT (.tup ((n :: ns).map .str)) [.str x] m) = _
      simp only [idxT, res_tupS, nm_strsT, if_true, plD, hf]
      rw [List.findIdx?_map]
      have : (n :: ns).findIdx? ((fun y => eqD y (D.str x)) ∘ D.str) = some k := hf
      rw [this]
      rfl
end Cs

/-! The end: tuples of the module. -/
namespace Cs
open PySem L2 PySem.Spec PyProof.Rows
/-- a value of the module: what stands there is this data -/
structure Gv (K : PySem.W.Frag) (d : D) (v : V) (u : Value) : Prop where
  rel : RelV v u
  rep : ∀ F ι, Rep K F ι d v
inductive GvL (K : PySem.W.Frag) : List D → List V → List Value → Prop
  | nil : GvL K [] [] []
  | cons {d : D} {v : V} {u : Value} {ds : List D} {vs : List V} {us : List Value} : Gv K d v u → GvL K ds vs us → GvL K (d :: ds) (v :: vs) (u :: us)
section
variable {K : PySem.W.Frag}
theorem gv_str {z : Str} {t : Tok} : Gv K (.str z) (.str z) (.str z t) := ⟨⟨t, rfl⟩, fun _ _ => Rep.strI⟩
theorem gv_int {z : Int} {t : Tok} : Gv K (.int z) (.int z) (.int z t) := ⟨⟨t, rfl⟩, fun _ _ => Rep.intI⟩
theorem gv_bl {z : Bool} : Gv K (.bl z) (.bl z) (.bool z) := ⟨rfl, fun _ _ => by simp [Rep]⟩
theorem gv_non : Gv K .non .non .none := ⟨rfl, fun _ _ => Rep.nonI⟩
theorem GvL.vals : ∀ {ds : List D} {vs : List V} {us : List Value}, GvL K ds vs us → Vals vs us
  | _, _, _, .nil => .nil
  | _, _, _, .cons h t => .cons h.rel t.vals
theorem GvL.reps : ∀ {ds : List D} {vs : List V} {us : List Value}, GvL K ds vs us → ∀ F ι, Reps K F ι ds vs
  | _, _, _, .nil, _, _ => Reps.nil
  | _, _, _, .cons h t, F, ι => Reps.cons (h.rep F ι) (t.reps F ι)
theorem gv_tup {p : Addr} {o : Obj} {its : Array Value} {n : Nat} {ds : List D} {xs : List V} (l : K.lookup p = some o) (hc : o.cls = .type "tuple") (hd : o.data = .seq its n) (hz : its.size ≤ sizeLine) (hl : GvL K ds xs its.toList) (hk : keyT ds = false) (hn : o.dict = none) : Gv K (.tup ds) (.ref p) (.ref p) :=
  ⟨rfl, fun F ι => by
    simp only [Rep]
    exact ⟨p, xs, rfl, .inr ⟨o, its, n, l, hc, hd, hz, hl.vals⟩, fun z => (nomatch (hk.symm.trans z)), fun _ => .inr ⟨o, l, hc, hn⟩, hl.reps F ι⟩⟩
theorem g_any {h : Heap} {mg : Str → Option Value} {x : Str} {d : D} {v : V} {u : Value} (X : K.In h) (G : h.Ns mainGlobals mg) (a : PySem.W.nsIn K mainGlobals x = some (some u)) (q : Gv K d v u) : ∃ u v, mg x = some u ∧ RelV v u ∧ ∀ F ι, Rep K F ι d v :=
  ⟨_, v, PySem.W.mg_of X G a, q.rel, q.rep⟩
end
end Cs

/-! Defs that many laws share: their texts in short. -/
namespace Com
open PySem Cs
def b_names_of : FS :=
  (sRet (fBlt .tuple (fCons (fLc [1] (.name 1) (iVar 0) tYes (fIx (fVar 1) (fCon (.int 0)))) fNil)))
def b_place_of (g_names_of : FF) : FS :=
  (sSeq (sSet 2 (fApp g_names_of (fCons (fVar 0) fNil))) (sRet (fIf (fTr (fCmp .In (fVar 1) (fVar 2))) (fMth .index (fVar 2) (fCons (fVar 1) fNil)) (fCon .non))))
def b_worth (g_place_of g_worth : FF) : FS :=
  (sSeq (sSet 4 (fIx (fVar 3) (fCon (.int 0)))) (sSeq (sIf (fTr (fCmp .Eq (fVar 4) (fCon (.str "number")))) (sRet (fIx (fVar 3) (fCon (.int 1)))) sNx) (sSeq (sIf (fTr (fCmp .In (fVar 4) (fTup (fCons (fCon (.str "name")) (fCons (fCon (.str "old")) fNil))))) (sRet (fIx (fIf (fTr (fCmp .Eq (fVar 4) (fCon (.str "name")))) (fVar 1) (fVar 2)) (fApp g_place_of (fCons (fVar 0) (fCons (fIx (fVar 3) (fCon (.int 1))) fNil))))) sNx) (sSeq (sPar [5, 6] (fCons (fApp g_worth (fCons (fVar 0) (fCons (fVar 1) (fCons (fVar 2) (fCons (fIx (fVar 3) (fCon (.int 2))) fNil))))) (fCons (fApp g_worth (fCons (fVar 0) (fCons (fVar 1) (fCons (fVar 2) (fCons (fIx (fVar 3) (fCon (.int 3))) fNil))))) fNil))) (sSeq (sIf (fTr (fCmp .In (fIx (fVar 3) (fCon (.int 1))) (fTup (fCons (fCon (.str "min")) (fCons (fCon (.str "max")) fNil))))) (sRet (fIf (fTr (fCmp .Eq (fIx (fVar 3) (fCon (.int 1))) (fCon (.str "min")))) (fBlt .min (fCons (fVar 5) (fCons (fVar 6) fNil))) (fBlt .max (fCons (fVar 5) (fCons (fVar 6) fNil))))) sNx) (sSeq (sIf (fTr (fCmp .Eq (fIx (fVar 3) (fCon (.int 1))) (fCon (.str "*")))) (sRet (fBin .Mult (fVar 5) (fVar 6))) sNx) (sRet (fIf (fTr (fCmp .Eq (fIx (fVar 3) (fCon (.int 1))) (fCon (.str "+")))) (fBin .Add (fVar 5) (fVar 6)) (fBin .Sub (fVar 5) (fVar 6))))))))))
def b_holds (g_holds g_worth : FF) : FS :=
  (sSeq (sSet 4 (fIx (fVar 3) (fCon (.int 0)))) (sSeq (sIf (fTr (fCmp .Eq (fVar 4) (fCon (.str "truth")))) (sRet (fIx (fVar 3) (fCon (.int 1)))) sNx) (sSeq (sIf (fTr (fCmp .Eq (fVar 4) (fCon (.str "not")))) (sRet (fNotV (fApp g_holds (fCons (fVar 0) (fCons (fVar 1) (fCons (fVar 2) (fCons (fIx (fVar 3) (fCon (.int 1))) fNil))))))) sNx) (sSeq (sIf (fTr (fCmp .In (fVar 4) (fCon (.tup [.str "and", .str "or"])))) (sSeq (sSet 5 (fApp g_holds (fCons (fVar 0) (fCons (fVar 1) (fCons (fVar 2) (fCons (fIx (fVar 3) (fCon (.int 1))) fNil)))))) (sRet (fIf (fTr (fCmp .Eq (fVar 5) (fCmp .Eq (fVar 4) (fCon (.str "and"))))) (fApp g_holds (fCons (fVar 0) (fCons (fVar 1) (fCons (fVar 2) (fCons (fIx (fVar 3) (fCon (.int 2))) fNil))))) (fVar 5)))) sNx) (sSeq (sPar [5, 6] (fCons (fApp g_worth (fCons (fVar 0) (fCons (fVar 1) (fCons (fVar 2) (fCons (fIx (fVar 3) (fCon (.int 1))) fNil))))) (fCons (fApp g_worth (fCons (fVar 0) (fCons (fVar 1) (fCons (fVar 2) (fCons (fIx (fVar 3) (fCon (.int 2))) fNil))))) fNil))) (sRet (fIf (fTr (fCmp .Eq (fVar 4) (fCon (.str "same")))) (fCmp .Eq (fVar 5) (fVar 6)) (fCmp .Lt (fVar 5) (fVar 6)))))))))
def b__law_draws : FS :=
  (sSeq (sSet 2 (fNew (fLst fNil))) (sSeq (sSet 3 (fCon (.int 7))) (sSeq (sFor (.name 4) (jRng1 (fBlt .len (fCons (fVar 0) fNil))) (sSeq (sSet 5 (fBlt .abs (fCons (fBlt .int (fCons (fIx (fVar 0) (fVar 4)) fNil)) fNil))) (sSeq (sSet 3 (fBin .Mod (fBlt .int (fCons (fBin .Add (fBin .Add (fBin .Mult (fVar 3) (fCon (.int 48271))) (fBin .Mod (fVar 5) (fCon (.int 1000003)))) (fVar 4)) fNil)) (fCon (.int 65537)))) (sSeq (sSet 6 (fCon (.int 0))) (sSeq (sIf (fTr (fCmp .GtE (fVar 5) (fBin .Pow (fCon (.int 10)) (fCon (.int 18))))) (sSet 6 (fVar 5)) (sSeq (sDrop (fMth .append (fVar 2) (fCons (fBin .Mod (fBlt .int (fCons (fVar 5) fNil)) (fCon (.int 997))) fNil))) (sDrop (fMth .append (fVar 2) (fCons (fBin .Mod (fBin .Mod (fBlt .int (fCons (fBin .Add (fBin .Mult (fVar 3) (fCon (.int 69621))) (fCon (.int 5))) fNil)) (fCon (.int 65521))) (fCon (.int 997))) fNil))))) (sFor (.name 7) (jRng1 (fCon (.int 60))) (sIf (fTr (fCmp .Gt (fVar 6) (fCon (.int 0)))) (sSeq (sDrop (fMth .append (fVar 2) (fCons (fBin .Mod (fBlt .int (fCons (fVar 6) fNil)) (fCon (.int 997))) fNil))) (sSet 6 (fBin .FloorDiv (fVar 6) (fCon (.int 997))))) sNx))))))) (sSeq (sFor (.name 4) (jRng1 (fVar 1)) (sSeq (sSet 3 (fBin .Mod (fBlt .int (fCons (fBin .Add (fBin .Add (fBin .Mult (fVar 3) (fCon (.int 16807))) (fVar 4)) (fCon (.int 1))) fNil)) (fCon (.int 65537)))) (sDrop (fMth .append (fVar 2) (fCons (fBin .Mod (fBlt .int (fCons (fVar 3) fNil)) (fCon (.int 997))) fNil))))) (sRet (fSl (fVar 2) none (some (fVar 1))))))))
def b__law_next : FS :=
  (sSeq (sAugP .Add (fVar 0) (fCon (.str "at")) (fCon (.int 1))) (sSeq (sIf (fTr (fCmp .Gt (fIx (fVar 0) (fCon (.str "at"))) (fBlt .len (fCons (fIx (fVar 0) (fCon (.str "draws"))) fNil)))) (sRet (fCon (.int 0))) sNx) (sRet (fBin .Mod (fBlt .int (fCons (fIx (fIx (fVar 0) (fCon (.str "draws"))) (fBin .Sub (fIx (fVar 0) (fCon (.str "at"))) (fCon (.int 1)))) fNil)) (fVar 1)))))
def b__law_pick (g__law_next : FF) : FS :=
  (sRet (fIx (fVar 1) (fApp g__law_next (fCons (fVar 0) (fCons (fBlt .len (fCons (fVar 1) fNil)) fNil)))))
def b__law_says : FS :=
  (sRet (fAndV (fIsi .bool (fVar 0)) (fCmp .Eq (fVar 0) (fVar 1))))
def b__law_same : FS :=
  (sSeq (sSet 2 (fNew (fLst (fCons (fTup (fCons (fVar 0) (fCons (fVar 1) fNil))) fNil)))) (sSeq (sWhl (fTr (fCmp .NotEq (fVar 2) (fLst fNil))) (sSeq (sAsg (.tup [.name 3, .name 4]) (fMth .pop (fVar 2) fNil)) (sIf (fTr (fIsi .dict (fVar 4))) (sSeq (sIf (tOr (tNot (fTr (fIsi .dict (fVar 3)))) (tOr (fTr (fCmp .NotEq (fBlt .len (fCons (fVar 3) fNil)) (fBlt .len (fCons (fVar 4) fNil)))) (fTr (fCmp .NotEq (fLc [5] (.name 5) (iVar 4) (fTr (fCmp .NotIn (fVar 5) (fVar 3))) (fVar 5)) (fLst fNil))))) (sRet (fCon (.bl false))) sNx) (sDrop (fMth .extend (fVar 2) (fCons (fLc [5] (.name 5) (iVar 4) tYes (fTup (fCons (fIx (fVar 3) (fVar 5)) (fCons (fIx (fVar 4) (fVar 5)) fNil)))) fNil)))) (sIf (fTr (fIsi .tuple (fVar 4))) (sSeq (sIf (tOr (tNot (fTr (fIsi .tuple (fVar 3)))) (fTr (fCmp .NotEq (fBlt .len (fCons (fVar 3) fNil)) (fBlt .len (fCons (fVar 4) fNil))))) (sRet (fCon (.bl false))) sNx) (sDrop (fMth .extend (fVar 2) (fCons (fLc [6] (.name 6) (jRng1 (fBlt .len (fCons (fVar 4) fNil))) tYes (fTup (fCons (fIx (fVar 3) (fVar 6)) (fCons (fIx (fVar 4) (fVar 6)) fNil)))) fNil)))) (sIf (tOr (fTr (fCmp .NotEq (fIsi .bool (fVar 3)) (fIsi .bool (fVar 4)))) (tOr (fTr (fCmp .NotEq (fIsi .int (fVar 3)) (fIsi .int (fVar 4)))) (tOr (fTr (fCmp .NotEq (fIsi .str (fVar 3)) (fIsi .str (fVar 4)))) (fTr (fCmp .NotEq (fVar 3) (fVar 4)))))) (sRet (fCon (.bl false))) sNx))))) (sRet (fCon (.bl true)))))
def b__law_frame (g__law_next : FF) : FS :=
  (sSeq (sSet 1 (fIx (fTup (fCons (fCon (.int 0)) (fCons (fCon (.int 0)) (fCons (fNeg (fCon (.int 1))) fNil)))) (fApp g__law_next (fCons (fVar 0) (fCons (fCon (.int 3)) fNil))))) (sSeq (sSet 2 (fNew (fLst (fCons (fTup (fCons (fCon (.str "x")) (fCons (fVar 1) (fCons (fBin .Add (fBin .Add (fVar 1) (fCon (.int 1))) (fApp g__law_next (fCons (fVar 0) (fCons (fCon (.int 4)) fNil)))) fNil)))) fNil)))) (sSeq (sIf (fTr (fCmp .Gt (fApp g__law_next (fCons (fVar 0) (fCons (fCon (.int 3)) fNil))) (fCon (.int 0)))) (sDrop (fMth .append (fVar 2) (fCons (fTup (fCons (fCon (.str "y")) (fCons (fCon (.int 0)) (fCons (fBin .Add (fCon (.int 1)) (fApp g__law_next (fCons (fVar 0) (fCons (fCon (.int 3)) fNil)))) fNil)))) fNil))) sNx) (sRet (fBlt .tuple (fCons (fVar 2) fNil))))))
def b__law_states : FS :=
  (sSeq (sSet 1 (fLst (fCons (fTup fNil) fNil))) (sSeq (sFor (.tup [.name 2, .name 3, .name 4]) (iVal (fVar 0)) (sSeq (sSet 5 (fLst fNil)) (sSeq (sFor (.name 6) (iVal (fVar 1)) (sSet 5 (fBin .Add (fVar 5) (fLc [7] (.name 7) (jRng2 (fVar 3) (fBin .Add (fVar 4) (fCon (.int 1)))) tYes (fBin .Add (fVar 6) (fTup (fCons (fVar 7) fNil))))))) (sSet 1 (fVar 5))))) (sRet (fVar 1))))
def b__law_expr (g__law_next g__law_pick g__law_expr : FF) : FS :=
  (sSeq (sSet 4 (fApp g__law_next (fCons (fVar 0) (fCons (fCon (.int 5)) fNil)))) (sSeq (sIf (tOr (fTr (fCmp .Eq (fVar 2) (fCon (.int 0)))) (fTr (fCmp .Lt (fVar 4) (fCon (.int 2))))) (sSeq (sSet 5 (fLc [6] (.name 6) (iVar 1) tYes (fIx (fVar 6) (fCon (.int 0))))) (sSeq (sIf (fTr (fCmp .Eq (fApp g__law_next (fCons (fVar 0) (fCons (fCon (.int 3)) fNil))) (fCon (.int 0)))) (sRet (fTup (fCons (fCon (.str "number")) (fCons (fIx (fTup (fCons (fCon (.int 0)) (fCons (fCon (.int 1)) (fCons (fCon (.int 2)) (fCons (fCon (.int 3)) (fCons (fNeg (fCon (.int 1))) fNil)))))) (fApp g__law_next (fCons (fVar 0) (fCons (fCon (.int 5)) fNil)))) fNil)))) sNx) (sRet (fTup (fCons (fIf (tAnd (fTr (fVar 3)) (fTr (fCmp .Eq (fApp g__law_next (fCons (fVar 0) (fCons (fCon (.int 3)) fNil))) (fCon (.int 0))))) (fCon (.str "old")) (fCon (.str "name"))) (fCons (fApp g__law_pick (fCons (fVar 0) (fCons (fVar 5) fNil))) fNil)))))) sNx) (sSeq (sSet 7 (fIx (fTup (fCons (fCon (.str "+")) (fCons (fCon (.str "-")) (fCons (fCon (.str "*")) (fCons (fCon (.str "min")) (fCons (fCon (.str "max")) (fCons (fCon (.str "+")) (fCons (fCon (.str "-")) fNil)))))))) (fApp g__law_next (fCons (fVar 0) (fCons (fCon (.int 7)) fNil))))) (sRet (fTup (fCons (fCon (.str "two")) (fCons (fVar 7) (fCons (fApp g__law_expr (fCons (fVar 0) (fCons (fVar 1) (fCons (fBin .Sub (fVar 2) (fCon (.int 1))) (fCons (fVar 3) fNil))))) (fCons (fApp g__law_expr (fCons (fVar 0) (fCons (fVar 1) (fCons (fBin .Sub (fVar 2) (fCon (.int 1))) (fCons (fVar 3) fNil))))) fNil)))))))))
def b__law_cond (g__law_next g__law_cond g__law_expr : FF) : FS :=
  (sSeq (sSet 4 (fApp g__law_next (fCons (fVar 0) (fCons (fCon (.int 7)) fNil)))) (sSeq (sIf (tAnd (fTr (fCmp .Gt (fVar 2) (fCon (.int 0)))) (fTr (fCmp .Eq (fVar 4) (fCon (.int 0))))) (sRet (fTup (fCons (fCon (.str "not")) (fCons (fApp g__law_cond (fCons (fVar 0) (fCons (fVar 1) (fCons (fBin .Sub (fVar 2) (fCon (.int 1))) (fCons (fVar 3) fNil))))) fNil)))) sNx) (sSeq (sIf (tAnd (fTr (fCmp .Gt (fVar 2) (fCon (.int 0)))) (fTr (fCmp .Lt (fVar 4) (fCon (.int 3))))) (sRet (fTup (fCons (fIx (fTup (fCons (fCon (.str "and")) (fCons (fCon (.str "or")) fNil))) (fBin .Sub (fVar 4) (fCon (.int 1)))) (fCons (fApp g__law_cond (fCons (fVar 0) (fCons (fVar 1) (fCons (fBin .Sub (fVar 2) (fCon (.int 1))) (fCons (fVar 3) fNil))))) (fCons (fApp g__law_cond (fCons (fVar 0) (fCons (fVar 1) (fCons (fBin .Sub (fVar 2) (fCon (.int 1))) (fCons (fVar 3) fNil))))) fNil))))) sNx) (sSeq (sIf (tAnd (fTr (fCmp .Eq (fVar 4) (fCon (.int 3)))) (fTr (fCmp .Eq (fApp g__law_next (fCons (fVar 0) (fCons (fCon (.int 3)) fNil))) (fCon (.int 0))))) (sRet (fTup (fCons (fCon (.str "truth")) (fCons (fCmp .Gt (fApp g__law_next (fCons (fVar 0) (fCons (fCon (.int 3)) fNil))) (fCon (.int 0))) fNil)))) sNx) (sRet (fTup (fCons (fIx (fTup (fCons (fCon (.str "same")) (fCons (fCon (.str "below")) fNil))) (fApp g__law_next (fCons (fVar 0) (fCons (fCon (.int 2)) fNil)))) (fCons (fApp g__law_expr (fCons (fVar 0) (fCons (fVar 1) (fCons (fCon (.int 1)) (fCons (fVar 3) fNil))))) (fCons (fApp g__law_expr (fCons (fVar 0) (fCons (fVar 1) (fCons (fCon (.int 1)) (fCons (fVar 3) fNil))))) fNil)))))))))
def b__law_worth (g__law_worth : FF) : FS :=
  (sSeq (sIf (fTr (fCmp .Eq (fIx (fVar 3) (fCon (.int 0))) (fCon (.str "number")))) (sRet (fIx (fVar 3) (fCon (.int 1)))) sNx) (sSeq (sIf (fTr (fCmp .In (fIx (fVar 3) (fCon (.int 0))) (fTup (fCons (fCon (.str "name")) (fCons (fCon (.str "old")) fNil))))) (sSeq (sSet 4 (fMth .index (fLc [5] (.name 5) (iVar 0) tYes (fIx (fVar 5) (fCon (.int 0)))) (fCons (fIx (fVar 3) (fCon (.int 1))) fNil))) (sRet (fIf (fTr (fCmp .Eq (fIx (fVar 3) (fCon (.int 0))) (fCon (.str "name")))) (fIx (fVar 1) (fVar 4)) (fIx (fVar 2) (fVar 4))))) sNx) (sSeq (sPar [6, 7] (fCons (fApp g__law_worth (fCons (fVar 0) (fCons (fVar 1) (fCons (fVar 2) (fCons (fIx (fVar 3) (fCon (.int 2))) fNil))))) (fCons (fApp g__law_worth (fCons (fVar 0) (fCons (fVar 1) (fCons (fVar 2) (fCons (fIx (fVar 3) (fCon (.int 3))) fNil))))) fNil))) (sSeq (sIf (fTr (fCmp .In (fIx (fVar 3) (fCon (.int 1))) (fTup (fCons (fCon (.str "min")) (fCons (fCon (.str "max")) fNil))))) (sRet (fIf (fTr (fCmp .Eq (fIx (fVar 3) (fCon (.int 1))) (fCon (.str "min")))) (fIf (fTr (fCmp .Lt (fVar 6) (fVar 7))) (fVar 6) (fVar 7)) (fIf (fTr (fCmp .Lt (fVar 6) (fVar 7))) (fVar 7) (fVar 6)))) sNx) (sRet (fIf (fTr (fCmp .Eq (fIx (fVar 3) (fCon (.int 1))) (fCon (.str "+")))) (fBin .Add (fVar 6) (fVar 7)) (fIf (fTr (fCmp .Eq (fIx (fVar 3) (fCon (.int 1))) (fCon (.str "-")))) (fBin .Sub (fVar 6) (fVar 7)) (fBin .Mult (fVar 6) (fVar 7)))))))))
def b__law_holds (g__law_holds g__law_worth : FF) : FS :=
  (sSeq (sIf (fTr (fCmp .Eq (fIx (fVar 3) (fCon (.int 0))) (fCon (.str "truth")))) (sRet (fIx (fVar 3) (fCon (.int 1)))) sNx) (sSeq (sIf (fTr (fCmp .Eq (fIx (fVar 3) (fCon (.int 0))) (fCon (.str "not")))) (sRet (fNotV (fApp g__law_holds (fCons (fVar 0) (fCons (fVar 1) (fCons (fVar 2) (fCons (fIx (fVar 3) (fCon (.int 1))) fNil))))))) sNx) (sSeq (sIf (fTr (fCmp .In (fIx (fVar 3) (fCon (.int 0))) (fTup (fCons (fCon (.str "and")) (fCons (fCon (.str "or")) fNil))))) (sSeq (sSet 4 (fTup (fCons (fApp g__law_holds (fCons (fVar 0) (fCons (fVar 1) (fCons (fVar 2) (fCons (fIx (fVar 3) (fCon (.int 1))) fNil))))) (fCons (fApp g__law_holds (fCons (fVar 0) (fCons (fVar 1) (fCons (fVar 2) (fCons (fIx (fVar 3) (fCon (.int 2))) fNil))))) fNil)))) (sRet (fIf (fTr (fCmp .Eq (fIx (fVar 3) (fCon (.int 0))) (fCon (.str "and")))) (fCmp .Eq (fVar 4) (fTup (fCons (fCon (.bl true)) (fCons (fCon (.bl true)) fNil)))) (fCmp .NotEq (fVar 4) (fTup (fCons (fCon (.bl false)) (fCons (fCon (.bl false)) fNil))))))) sNx) (sSeq (sPar [5, 6] (fCons (fApp g__law_worth (fCons (fVar 0) (fCons (fVar 1) (fCons (fVar 2) (fCons (fIx (fVar 3) (fCon (.int 1))) fNil))))) (fCons (fApp g__law_worth (fCons (fVar 0) (fCons (fVar 1) (fCons (fVar 2) (fCons (fIx (fVar 3) (fCon (.int 2))) fNil))))) fNil))) (sRet (fIf (fTr (fCmp .Eq (fIx (fVar 3) (fCon (.int 0))) (fCon (.str "same")))) (fCmp .Eq (fVar 5) (fVar 6)) (fCmp .Lt (fVar 5) (fVar 6))))))))
end Com

/-! Draws, what is drawn; the same is the same. -/
namespace Com
open PySem Cs
def c__law_next : FF := runF false 2 2 b__law_next
def c__law_pick : FF := runF false 2 2 (b__law_pick c__law_next)
def c__law_draws : FF := runF true 2 8 b__law_draws
def c__law_says : FF := runF false 2 2 b__law_says
def c__law_same : FF := runF true 2 7 b__law_same
def c_names_of : FF := runF false 1 2 b_names_of
def c_place_of : FF := runF false 2 3 (b_place_of c_names_of)
def c__law_states : FF := runF false 1 8 b__law_states
def c__law_frame : FF := runF true 1 3 (b__law_frame c__law_next)
/-- w: the draws, the place -/
def wc (ds : List Int) (k : Int) : Cell := .dct [.str "draws", .str "at"] [.lst (ds.map .int), .int k]
theorem w_at (ds : List Int) (k : Int) (r : Mem) : ixD (.ref 0) (.str "at") (wc ds k :: r) = some (.int k) := by rfl
theorem w_at' (ds : List Int) (k : Int) (r : Mem) : dctAt (wc ds k :: r) (.ref 0) (.str "at") = some (.int k) := by rfl
theorem w_draws (ds : List Int) (k : Int) (r : Mem) : ixD (.ref 0) (.str "draws") (wc ds k :: r) = some (.lst (ds.map .int)) := by rfl
theorem w_put (ds : List Int) (k j : Int) (r : Mem) : putD (.ref 0) (.str "at") (.int j) (wc ds k :: r) = some (wc ds j :: r) := by rfl
theorem next_ok (ds : List Int) (k n : Int) (hk : 0 ≤ k) (hn : 0 < n) (r : Mem) : okR (c__law_next [.ref 0, .int n] (wc ds k :: r)) fun d m => ∃ v : Int, d = .int v ∧ 0 ≤ v ∧ v < n ∧ m = wc ds (k + 1) :: r := by
  unfold c__law_next
  rw [runF_ap (np := 2) _ rfl]
  unfold b__law_next
  have h0 : (0 : Int) ≤ k := hk
  simp [w_at', w_at, w_put, w_draws, mod_int _ n hn]
  by_cases h : (ds.length : Int) < k + 1
  · simp [h]
    exact okR.mk ⟨0, rfl, by omega, hn, rfl⟩
  · obtain ⟨v, hv⟩ : ∃ v, ds[k.toNat]? = some v := ⟨ds[k.toNat]'(by omega), List.getElem?_eq_getElem _⟩
    have e : ixD (.lst (ds.map .int)) (.int k) (wc ds (k + 1) :: r) = some (.int v) := ix_lst hk (by rw [List.getElem?_map, hv]; rfl)
    have ek : k + 1 - 1 = k := by omega
    simp [h, w_at, w_draws, mod_int _ n hn, ek, e]
    exact okR.mk ⟨v % n, rfl, Int.emod_nonneg _ (by omega), Int.emod_lt_of_pos _ hn, rfl⟩
theorem pick_ok (ds : List Int) (k : Int) (hk : 0 ≤ k) (rows : List D) (hr : rows ≠ []) (r : Mem) : okR (c__law_pick [.ref 0, .lst rows] (wc ds k :: r)) fun d m => d ∈ rows ∧ m = wc ds (k + 1) :: r := by
  unfold c__law_pick
  rw [runF_ap (np := 2) _ rfl]
  unfold b__law_pick
  have hl : 0 < rows.length := List.length_pos_iff.mpr hr
  obtain ⟨d, m, e, v, rfl, h0, h1, rfl⟩ := next_ok ds k rows.length hk (by omega) r
  obtain ⟨x, hx⟩ : ∃ x, rows[v.toNat]? = some x := ⟨rows[v.toNat]'(by omega), List.getElem?_eq_getElem _⟩
  simp [e, ix_lst h0 hx]
  exact okR.mk ⟨List.mem_of_getElem? hx, rfl⟩
/-! ### the draws -/
theorem mulOk_small {i j : Int} (h1 : i.natAbs < 2 ^ 60) (h2 : j.natAbs < 2 ^ 60) : mulOk i j = true := by
  unfold mulOk
  rw [decide_eq_true_eq]
  have a : i.natAbs.log2 < 60 := by
    by_cases q : i.natAbs = 0
    · rw [q]; decide
    · exact (Nat.log2_lt q).mpr h1
  have b : j.natAbs.log2 < 60 := by
    by_cases q : j.natAbs = 0
    · rw [q]; decide
    · exact (Nat.log2_lt q).mpr h2
  omega
theorem draws_ok (many : Nat) (hmany : many ≤ 100000) (ns : List Int) (h : ns.length ≤ 63) (m : Mem) : okR (c__law_draws [.scr (ns.map .int), .int many] m) fun d m' => m' = m ∧ ∃ ds : List Int, d = .lst (ds.map .int) := by
  unfold c__law_draws
  refine okF rfl ?_
  unfold b__law_draws
  have hz := size_big
  have e1 : jRng1 (fBlt .len (fCons (fVar 0) fNil)) [some (.scr (ns.map .int)), some (.int many), some (.ref m.length), some (.int 7), none, none, none, none] (m ++ [.lst []]) = .ok (rangeL 0 ns.length, []) (m ++ [.lst []]) :=
    (jRng1_ap (n := ns.length) (by simp) (by omega) (by omega)).trans (by simp)
  simp [e1]
  refine okS.thn ?_
  refine forT0 (fun rem e m' => ∃ (ds : List Int) (mixed : Int) (j : Nat) (x4 x5 x6 x7 : Option D), e = [some (.scr (ns.map .int)), some (.int many), some (.ref m.length), some (.int mixed), x4, x5, x6, x7] ∧ m' = m ++ [.lst (ds.map .int)] ∧ 0 ≤ mixed ∧ mixed < 65537 ∧ j ≤ ns.length ∧ rem = rangeL j (ns.length - j) ∧ ds.length ≤ 62 * j)
    ⟨[], 7, 0, none, none, none, none, rfl, rfl, by omega, by omega, by omega, rfl, by simp⟩ ?_ ?_
  · rintro e m' ⟨ds, mixed, j, x4, x5, x6, x7, rfl, rfl, h1, h2, h3, h4, h5⟩
    show okS _ _
    have e2 : jRng1 (fVar 1) [some (.scr (ns.map .int)), some (.int many), some (.ref m.length), some (.int mixed), x4, x5, x6, x7] (m ++ [.lst (ds.map .int)]) = .ok (rangeL 0 many, []) (m ++ [.lst (ds.map .int)]) := jRng1_ap (n := many) (by simp) (by omega) (by omega)
    simp only [sSeq_ap, sFor_ap, e2, sBd_ok]
    refine okS.thn ?_
    refine forT0 (fun rem e m' => ∃ (ds : List Int) (mixed : Int) (q : Nat) (x4 : Option D), e = [some (.scr (ns.map .int)), some (.int many), some (.ref m.length), some (.int mixed), x4, x5, x6, x7] ∧ m' = m ++ [.lst (ds.map .int)] ∧ 0 ≤ mixed ∧ mixed < 65537 ∧ rem = rangeL q rem.length ∧ rem.length + q = many ∧ ds.length ≤ 4000 + q)
      ⟨ds, mixed, 0, x4, rfl, rfl, h1, h2, by rw [rangeL_len]; rfl, by simp [rangeL_len], by omega⟩ ?_ ?_
    · rintro e m' ⟨ds, mixed, q, x4, rfl, rfl, h1, h2, _, h3, h4⟩
      show okS _ _
      have e3 : slD (.ref m.length) none (some (many : Int)) (m ++ [Cell.lst (ds.map .int)]) = some (.lst (cutD (ds.map .int) none (some (many : Int)))) := by
        simp [slD, Cs.res]
      simp [e3]
      refine okS.mk ?_
      show okR (gcR _ _ _) _
      have e4 : cutD (ds.map D.int) none (some (many : Int)) = ((ds.drop (HT.sIx ds.length 0 none)).take (HT.sIx ds.length ds.length (some (many : Int)) - HT.sIx ds.length 0 none)).map .int := by
        unfold cutD
        rw [List.length_map, List.map_take, List.map_drop]
      rw [e4, gcR_plain (by simp only [Cs.plain]; exact plainL_ints _)]
      exact okR.mk ⟨rfl, _, rfl⟩
    · rintro d r e m' ⟨ds, mixed, k, x4, rfl, rfl, h1, h2, hk, h3, h4⟩
      simp only [List.length_cons] at hk h3
      rw [rangeL_succ] at hk
      obtain ⟨rfl, hk'⟩ := List.cons.inj hk
      refine ⟨_, rfl, fun Q2 t2 => ?_⟩
      have e16 : ∀ m, binD .Mult (.int mixed) (.int 16807) m = some (.int (mixed * 16807)) := fun m => mul_int _ _ (mulOk_small (by omega) (by omega))
      generalize hm : (mixed * 16807 + (k : Int) + 1) % 65537 = mixed'
      have hm0 : 0 ≤ mixed' := by rw [← hm]; exact Int.emod_nonneg _ (by omega)
      have hm1 : mixed' < 65537 := by rw [← hm]; exact Int.emod_lt_of_pos _ (by omega)
      have ea := app_last (e := [some (.scr (ns.map .int)), some (.int many), some (.ref m.length), some (.int mixed'), some (.int k), x5, x6, x7]) (m0 := m) (m1 := m) (i := 2) (L := ds.map .int) (x := .int (mixed' % 997)) (fs := fCons (fBin .Mod (fBlt .int (fCons (fVar 3) fNil)) (fCon (.int 997))) fNil) (by simp) rfl (by simp [mod_int]) (by rw [List.length_map]; omega)
      simp [e16, mod_int, hm, ea]
      refine okS.mk (t2.nx _ _ ⟨ds ++ [mixed' % 997], mixed', k + 1, some (.int k), rfl, by simp, hm0, hm1, hk', by omega, by simp; omega⟩)
  · rintro d r e m' ⟨ds, mixed, j, x4, x5, x6, x7, rfl, rfl, h1, h2, h3, h4, h5⟩
    obtain ⟨n, hn⟩ : ∃ n, ns.length - j = n + 1 := by
      cases q : ns.length - j with
      | zero => rw [q] at h4; cases h4
      | succ n => exact ⟨n, rfl⟩
    rw [hn, rangeL_succ] at h4
    cases h4
    obtain ⟨z, hz1⟩ : ∃ z, ns[j]? = some z := ⟨ns[j]'(by omega), List.getElem?_eq_getElem _⟩
    have ez : ∀ m, ixD (.scr (ns.map .int)) (.int j) m = some (.int z) := fun m => ix_scr (by omega) (by rw [List.getElem?_map]; simp [hz1])
    refine ⟨_, rfl, fun Q' tn => ?_⟩
    have e48 : ∀ m, binD .Mult (.int mixed) (.int 48271) m = some (.int (mixed * 48271)) := fun m => mul_int _ _ (mulOk_small (by omega) (by omega))
    generalize hc : (if z < 0 then -z else z) = cell
    have hc0 : 0 ≤ cell := by
      rw [← hc]
      split <;> omega
    generalize hm : (mixed * 48271 + cell % 1000003 + (j : Int)) % 65537 = mixed'
    have hm0 : 0 ≤ mixed' := by rw [← hm]; exact Int.emod_nonneg _ (by omega)
    have hm1 : mixed' < 65537 := by rw [← hm]; exact Int.emod_lt_of_pos _ (by omega)
    have e69 : ∀ m, binD .Mult (.int mixed') (.int 69621) m = some (.int (mixed' * 69621)) := fun m => mul_int _ _ (mulOk_small (by omega) (by omega))
    simp [ez, e48, mod_int, hc, hm, e69, pow_18]
    -- the inner loop, from where it stands
    have inner : ∀ (L : List Int) (rest : Int) (x : Option D), 0 ≤ rest → L.length ≤ 62 * j + 2 → okS (sFor (.name 7) (jRng1 (fCon (.int 60))) (sIf (fTr (fCmp .Gt (fVar 6) (fCon (.int 0)))) (sSeq (sDrop (fMth .append (fVar 2) (fCons (fBin .Mod (fBlt .int (fCons (fVar 6) fNil)) (fCon (.int 997))) fNil))) (sSet 6 (fBin .FloorDiv (fVar 6) (fCon (.int 997))))) sNx)
        [some (.scr (ns.map .int)), some (.int many), some (.ref m.length), some (.int mixed'), some (.int j), some (.int cell), some (.int rest), x] (m ++ [.lst (L.map .int)])) Q' := by
      intro L rest x hr hL
      have e2 : jRng1 (fCon (.int 60)) [some (.scr (ns.map .int)), some (.int many), some (.ref m.length), some (.int mixed'), some (.int j), some (.int cell), some (.int rest), x] (m ++ [.lst (L.map .int)]) = .ok (rangeL 0 60, []) (m ++ [.lst (L.map .int)]) := jRng1_ap (n := 60) (by simp) (by omega) (by omega)
      simp [e2]
      refine forT0 (fun rem e m' => ∃ (ds : List Int) (q : Nat) (rest : Int) (x : Option D), e = [some (.scr (ns.map .int)), some (.int many), some (.ref m.length), some (.int mixed'), some (.int j), some (.int cell), some (.int rest), x] ∧ m' = m ++ [.lst (ds.map .int)] ∧ 0 ≤ rest ∧ rem.length + q = 60 ∧ ds.length ≤ 62 * j + 2 + q)
        ⟨L, 0, rest, x, rfl, rfl, hr, by simp [rangeL_len], by omega⟩ ?_ ?_
      · rintro e m' ⟨ds, q, rest, x, rfl, rfl, g1, g2, g3⟩
        simp only [List.length_nil] at g2
        refine tn.nx _ _ ⟨ds, mixed', j + 1, _, _, _, _, rfl, rfl, hm0, hm1, by omega, ?_, by omega⟩
        rw [show ns.length - (j + 1) = n by omega]
        congr 1
      · rintro d r e m' ⟨ds, q, rest, x, rfl, rfl, g1, g2, g3⟩
        refine ⟨_, rfl, fun Q2 t2 => ?_⟩
        simp only [List.length_cons] at g2
        by_cases hp : 0 < rest
        · have ea := app_last (e := [some (.scr (ns.map .int)), some (.int many), some (.ref m.length), some (.int mixed'), some (.int j), some (.int cell), some (.int rest), some d]) (m0 := m) (m1 := m) (i := 2) (L := ds.map .int) (x := .int (rest % 997)) (fs := fCons (fBin .Mod (fBlt .int (fCons (fVar 6) fNil)) (fCon (.int 997))) fNil) (by simp) rfl (by simp [mod_int]) (by rw [List.length_map]; omega)
          simp [hp, ea, div_int]
          exact okS.mk (t2.nx _ _ ⟨ds ++ [rest % 997], q + 1, rest / 997, some d, rfl, by simp, Int.ediv_nonneg g1 (by omega), by omega, by simp; omega⟩)
        · simp [hp]
          exact okS.mk (t2.nx _ _ ⟨ds, q + 1, rest, some d, rfl, rfl, g1, by omega, by omega⟩)
    by_cases hp : (1000000000000000000 : Int) ≤ cell
    · simp only [hp, if_true, sThen_nx]
      exact inner ds cell x7 hc0 (by omega)
    · simp only [hp, if_false]
      have ea := app_last (e := [some (.scr (ns.map .int)), some (.int many), some (.ref m.length), some (.int mixed'), some (.int j), some (.int cell), some (.int 0), x7]) (m0 := m) (m1 := m) (i := 2) (L := ds.map .int) (x := .int (cell % 997)) (fs := fCons (fBin .Mod (fBlt .int (fCons (fVar 5) fNil)) (fCon (.int 997))) fNil) (by simp) rfl (by simp [mod_int]) (by rw [List.length_map]; omega)
      have eb := app_last (e := [some (.scr (ns.map .int)), some (.int many), some (.ref m.length), some (.int mixed'), some (.int j), some (.int cell), some (.int 0), x7]) (m0 := m) (m1 := m) (i := 2) (L := ds.map .int ++ [.int (cell % 997)]) (x := .int ((mixed' * 69621 + 5) % 65521 % 997)) (fs := fCons (fBin .Mod (fBin .Mod (fBlt .int (fCons (fBin .Add (fBin .Mult (fVar 3) (fCon (.int 69621))) (fCon (.int 5))) fNil)) (fCon (.int 65521))) (fCon (.int 997))) fNil) (by simp) rfl (by simp [mod_int, e69]) (by simp; omega)
      simp only [ea, eb, sBd_ok, sThen_nx, sDrop_ap]
      have := inner (ds ++ [cell % 997, (mixed' * 69621 + 5) % 65521 % 997]) 0 x7 (by omega) (by simp; omega)
      simpa using this
/-! ### the same is the same -/
theorem depW : ∀ {xs : List D}, depL (xs.map fun x => .tup [x, x]) ≤ 1 + depL xs
  | [] => Nat.zero_le _
  | x :: xs => by
    have := depW (xs := xs)
    simp only [List.map_cons, depL, dep]
    omega
theorem szW {xs : List D} : xs.length ≤ szL xs := szL_len xs
theorem getW {xs : List D} {k : Nat} {m : Mem} (h : k < xs.length) : ∃ x, ixD (.tup xs) (.int k) m = some x ∧ xs[k]? = some x := ⟨xs[k], ix_tup (by omega) (by simp [h]), List.getElem?_eq_getElem h⟩
theorem rangeW {g : D → D} : ∀ (xs : List D) (j : Nat), (∀ k x, xs[k]? = some x → g (.int ((j + k : Nat) : Int)) = .tup [x, x]) → (rangeL j xs.length).map g = xs.map fun x => .tup [x, x]
  | [], _, _ => rfl
  | x :: xs, j, h => by
    rw [List.length_cons, rangeL_succ, List.map_cons, List.map_cons]
    have h0 := h 0 x rfl
    rw [show ((j + 0 : Nat) : Int) = (j : Int) by omega] at h0
    rw [h0]
    congr 1
    have := rangeW (g := g) xs (j + 1) fun k y hy => by
      have := h (k + 1) y (by simpa using hy)
      rw [← this]
      congr 2
      omega
    rw [← this]
    rfl
theorem same_ok (d : D) (hp : plain d = true) (hd : dep d ≤ 100) (hz : szD d ≤ 1000000) (m : Mem) : c__law_same [d, d] m = .ok (.bl true) m := by
  apply okR.eq
  unfold c__law_same
  refine okF rfl ?_
  unfold b__law_same
  have hsz := size_big
  simp
  refine okS.thn ?_
  refine whlT (fun n e m' => ∃ (xs : List D) (x3 x4 x5 x6 : Option D), e = [some d, some d, some (.ref m.length), x3, x4, x5, x6] ∧ m' = m ++ [.lst (xs.map fun x => .tup [x, x])] ∧ plainL xs = true ∧ depL xs ≤ 100 ∧ szL xs ≤ 1000000 ∧ n = szL xs) (szL [d]) (by simp [szL]; omega)
    ⟨[d], none, none, none, none, rfl, rfl, by simp [plainL, hp], by simp [depL]; exact hd, by simp [szL]; exact hz, rfl⟩ ?_
  rintro n e m' ⟨xs, x3, x4, x5, x6, rfl, rfl, g1, g2, g3, rfl⟩
  have pW : plainL (xs.map fun x => D.tup [x, x]) = true := plainL_of fun y hy => by
    obtain ⟨x, hx, rfl⟩ := List.mem_map.mp hy
    simp [Cs.plain, plainL, plainL_mem g1 hx]
  have et : ∀ (e : Sto) (M : Mem), atV e 2 = some (.ref m.length) → M = m ++ [.lst (xs.map fun x => D.tup [x, x])] → fTr (fCmp .NotEq (fVar 2) (fLst fNil)) e M = .ok (!eqL (xs.map fun x => D.tup [x, x]) []) M := by
    intro e M he hM
    subst hM
    have : cmpD .NotEq (.ref m.length) (.lst []) (m ++ [Cell.lst (xs.map fun x => D.tup [x, x])]) = some (!eqL (xs.map fun x => D.tup [x, x]) []) := by
      have hd : min (depL (xs.map fun x => D.tup [x, x]) + 1) 1 ≤ 150 := by omega
      simp [cmpD, Cs.res, eqOk, Cs.plain, pW, dep, depL, hd, eqD, plainL]
    simp [he, this]
  rw [et _ _ (by simp) rfl]
  cases hx : xs with
  | nil =>
    refine .inl ⟨rfl, ?_⟩
    simp
    exact okS.mk (by simp [gcR_plain (d := .bl true) (m := m) (x := [Cell.lst []]) rfl]; exact okR.mk ⟨rfl, rfl⟩)
  | cons x0 xr =>
    refine .inr ⟨rfl, ?_⟩
    rw [← hx]
    obtain ⟨ys, y, rfl⟩ := list_snoc (l := xs) (by rw [hx]; exact fun z => nomatch z)
    intro Q' tn
    have ep := pop_last (m0 := m) (i := 2) (e := [some d, some d, some (.ref m.length), x3, x4, x5, x6]) (L := ys.map fun x => D.tup [x, x]) (x := .tup [y, y]) (by simp)
    have hy : plain y = true := plainL_mem g1 (by simp)
    have hys : plainL ys = true := by
      rw [plainL_app, Bool.and_eq_true] at g1
      exact g1.1
    have hdy : dep y ≤ 100 := Nat.le_trans (dep_le (ds := ys ++ [y]) (by simp)) g2
    have hdys : depL ys ≤ 100 := depL_of fun z hz => Nat.le_trans (dep_le (ds := ys ++ [y]) (by simp [hz])) g2
    rw [szL_app] at g3
    simp only [szL, Nat.add_zero] at g3
    have hpos := szD_pos y
    have next : ∀ (m2 : Mem) (e2 : Sto), (∃ x3 x4 x5 x6, e2 = [some d, some d, some (.ref m.length), x3, x4, x5, x6]) → m2 = m ++ [.lst (ys.map fun x => .tup [x, x])] → Q' .nx e2 m2 := by
      rintro m2 e2 ⟨x3, x4, x5, x6, rfl⟩ rfl
      exact tn.nx _ _ ⟨szL ys, by rw [szL_app]; simp only [szL]; omega, ys, x3, x4, x5, x6, rfl, rfl, hys, hdys, by omega, rfl⟩
    rw [List.map_append, List.map_cons, List.map_nil, sSeq_ap, sAsg_ap, ep]
    simp only [sBd_ok, bindT_tup, bindL_cons, bindL_nil, bindT_name, Option.bind_some, sOf_some, sThen_nx, List.set_cons_succ, List.set_cons_zero]
    cases y with
    | tup ds =>
      have hlen : ds.length ≤ 1000000 := by
        have := szL_len ds
        simp only [szD] at g3
        omega
      simp only [szD] at g3
      simp only [Cs.plain] at hy
      simp only [dep] at hdy
      have hx := ext_last (m0 := m) (m1 := m) (i := 2) (e := [some d, some d, some (.ref m.length), some (.tup ds), some (.tup ds), x5, x6]) (L := ys.map fun x => D.tup [x, x]) (X := ds.map fun x => D.tup [x, x])
        (fs := fCons (fLc [6] (.name 6) (jRng1 (fBlt .len (fCons (fVar 4) fNil))) tYes (fTup (fCons (fIx (fVar 3) (fVar 6)) (fCons (fIx (fVar 4) (fVar 6)) fNil)))) fNil) (by simp) rfl ?_ ?_
      · simp [hx]
        refine okS.mk (tn.nx _ _ ⟨szL (ys ++ ds), ?_, ys ++ ds, _, _, _, _, rfl, by simp, ?_, ?_, ?_, rfl⟩)
        · rw [szL_app, szL_app]; simp only [szL, szD]; omega
        · rw [plainL_app, hys, hy]; rfl
        · refine depL_of fun z hz => ?_
          rcases List.mem_append.mp hz with hz | hz
          · exact Nat.le_trans (dep_le hz) hdys
          · have := dep_le hz
            omega
        · rw [szL_app]; omega
      · have hl : fLc [6] (.name 6) (jRng1 (fBlt .len (fCons (fVar 4) fNil))) tYes (fTup (fCons (fIx (fVar 3) (fVar 6)) (fCons (fIx (fVar 4) (fVar 6)) fNil))) [some d, some d, some (.ref m.length), some (.tup ds), some (.tup ds), x5, x6] (m ++ [Cell.lst (ys.map fun x => D.tup [x, x])]) = .ok (.lst (ds.map fun x => D.tup [x, x])) (m ++ [Cell.lst (ys.map fun x => D.tup [x, x])]) := by
          refine fLc_ap (p := (rangeL 0 ds.length, [])) ((jRng1_ap (n := ds.length) (by simp) (by omega) (by omega)).trans (by simp)) ?_ (by rw [List.length_map]; omega)
          refine (lcGo_map (g := byIx ds fun x => D.tup [x, x]) same_nil fun k hk => ?_).trans (by rw [range_by])
          obtain ⟨k, hk2, rfl⟩ := range_mem hk
          obtain ⟨x, hx1, hx2⟩ := getW (xs := ds) (k := k) (m := m ++ [Cell.lst (ys.map fun x => D.tup [x, x])]) hk2
          refine ⟨_, rfl, rfl, ?_⟩
          simp [hx1, byIx, hx2]
        simp [hl]
      · have := szL_len ys
        have := szL_len ds
        simp only [List.length_map]
        omega
    | dct _ _ => simp [Cs.plain] at hy
    | ref _ => simp [Cs.plain] at hy
    | scr _ => simp [Cs.plain] at hy
    | lst ds =>
      have := cmp_neD (m := m ++ [Cell.lst (ys.map fun x => D.tup [x, x])]) hy hy (by omega)
      rw [eqD_refl _ hy] at this
      simp [this]
      exact okS.mk (next _ _ ⟨_, _, _, _, rfl⟩ rfl)
    | non =>
      have := cmp_neD (m := m ++ [Cell.lst (ys.map fun x => D.tup [x, x])]) hy hy (by omega)
      rw [eqD_refl _ hy] at this
      simp [this]
      exact okS.mk (next _ _ ⟨_, _, _, _, rfl⟩ rfl)
    | bl b =>
      simp
      exact okS.mk (next _ _ ⟨_, _, _, _, rfl⟩ rfl)
    | int b =>
      simp
      exact okS.mk (next _ _ ⟨_, _, _, _, rfl⟩ rfl)
    | str b =>
      simp
      exact okS.mk (next _ _ ⟨_, _, _, _, rfl⟩ rfl)
theorem says_ok (b c : Bool) (m : Mem) : c__law_says [.bl b, .bl c] m = .ok (.bl (b == c)) m := by
  unfold c__law_says b__law_says
  rw [runF_ap (np := 2) _ rfl]
  simp
theorem szL_le {n : Nat} : ∀ {l : List D}, (∀ d ∈ l, szD d ≤ n) → szL l ≤ n * l.length
  | [], _ => Nat.le_refl _
  | d :: l, h => by
    have h1 := h d List.mem_cons_self
    have h2 := szL_le (l := l) fun e he => h e (List.mem_cons_of_mem _ he)
    simp only [szL, List.length_cons, Nat.mul_add, Nat.mul_one]
    omega
theorem szL_one : ∀ {l : List D}, (∀ d ∈ l, szD d = 1) → szL l = l.length
  | [], _ => rfl
  | d :: l, h => by
    simp only [szL, List.length_cons, h d List.mem_cons_self, szL_one (l := l) fun e he => h e (List.mem_cons_of_mem _ he)]
    omega
end Com

namespace Com
open PySem
@[simp] theorem wd1 : (("number" : Str) == ("name" : Str)) = false := by decide
@[simp] theorem we1 : (("number" : Str) = ("name" : Str)) = False := eq_false (by decide)
@[simp] theorem wd2 : (("number" : Str) == ("old" : Str)) = false := by decide
@[simp] theorem we2 : (("number" : Str) = ("old" : Str)) = False := eq_false (by decide)
@[simp] theorem wd3 : (("number" : Str) == ("two" : Str)) = false := by decide
@[simp] theorem we3 : (("number" : Str) = ("two" : Str)) = False := eq_false (by decide)
@[simp] theorem wd4 : (("name" : Str) == ("number" : Str)) = false := by decide
@[simp] theorem we4 : (("name" : Str) = ("number" : Str)) = False := eq_false (by decide)
@[simp] theorem wd5 : (("name" : Str) == ("old" : Str)) = false := by decide
@[simp] theorem we5 : (("name" : Str) = ("old" : Str)) = False := eq_false (by decide)
@[simp] theorem wd6 : (("name" : Str) == ("two" : Str)) = false := by decide
@[simp] theorem we6 : (("name" : Str) = ("two" : Str)) = False := eq_false (by decide)
@[simp] theorem wd7 : (("old" : Str) == ("number" : Str)) = false := by decide
@[simp] theorem we7 : (("old" : Str) = ("number" : Str)) = False := eq_false (by decide)
@[simp] theorem wd8 : (("old" : Str) == ("name" : Str)) = false := by decide
@[simp] theorem we8 : (("old" : Str) = ("name" : Str)) = False := eq_false (by decide)
@[simp] theorem wd9 : (("old" : Str) == ("two" : Str)) = false := by decide
@[simp] theorem we9 : (("old" : Str) = ("two" : Str)) = False := eq_false (by decide)
@[simp] theorem wd10 : (("two" : Str) == ("number" : Str)) = false := by decide
@[simp] theorem we10 : (("two" : Str) = ("number" : Str)) = False := eq_false (by decide)
@[simp] theorem wd11 : (("two" : Str) == ("name" : Str)) = false := by decide
@[simp] theorem we11 : (("two" : Str) = ("name" : Str)) = False := eq_false (by decide)
@[simp] theorem wd12 : (("two" : Str) == ("old" : Str)) = false := by decide
@[simp] theorem we12 : (("two" : Str) = ("old" : Str)) = False := eq_false (by decide)
@[simp] theorem wd13 : (("+" : Str) == ("-" : Str)) = false := by decide
@[simp] theorem we13 : (("+" : Str) = ("-" : Str)) = False := eq_false (by decide)
@[simp] theorem wd14 : (("+" : Str) == ("*" : Str)) = false := by decide
@[simp] theorem we14 : (("+" : Str) = ("*" : Str)) = False := eq_false (by decide)
@[simp] theorem wd15 : (("+" : Str) == ("min" : Str)) = false := by decide
@[simp] theorem we15 : (("+" : Str) = ("min" : Str)) = False := eq_false (by decide)
@[simp] theorem wd16 : (("+" : Str) == ("max" : Str)) = false := by decide
@[simp] theorem we16 : (("+" : Str) = ("max" : Str)) = False := eq_false (by decide)
@[simp] theorem wd17 : (("-" : Str) == ("+" : Str)) = false := by decide
@[simp] theorem we17 : (("-" : Str) = ("+" : Str)) = False := eq_false (by decide)
@[simp] theorem wd18 : (("-" : Str) == ("*" : Str)) = false := by decide
@[simp] theorem we18 : (("-" : Str) = ("*" : Str)) = False := eq_false (by decide)
@[simp] theorem wd19 : (("-" : Str) == ("min" : Str)) = false := by decide
@[simp] theorem we19 : (("-" : Str) = ("min" : Str)) = False := eq_false (by decide)
@[simp] theorem wd20 : (("-" : Str) == ("max" : Str)) = false := by decide
@[simp] theorem we20 : (("-" : Str) = ("max" : Str)) = False := eq_false (by decide)
@[simp] theorem wd21 : (("*" : Str) == ("+" : Str)) = false := by decide
@[simp] theorem we21 : (("*" : Str) = ("+" : Str)) = False := eq_false (by decide)
@[simp] theorem wd22 : (("*" : Str) == ("-" : Str)) = false := by decide
@[simp] theorem we22 : (("*" : Str) = ("-" : Str)) = False := eq_false (by decide)
@[simp] theorem wd23 : (("*" : Str) == ("min" : Str)) = false := by decide
@[simp] theorem we23 : (("*" : Str) = ("min" : Str)) = False := eq_false (by decide)
@[simp] theorem wd24 : (("*" : Str) == ("max" : Str)) = false := by decide
@[simp] theorem we24 : (("*" : Str) = ("max" : Str)) = False := eq_false (by decide)
@[simp] theorem wd25 : (("min" : Str) == ("+" : Str)) = false := by decide
@[simp] theorem we25 : (("min" : Str) = ("+" : Str)) = False := eq_false (by decide)
@[simp] theorem wd26 : (("min" : Str) == ("-" : Str)) = false := by decide
@[simp] theorem we26 : (("min" : Str) = ("-" : Str)) = False := eq_false (by decide)
@[simp] theorem wd27 : (("min" : Str) == ("*" : Str)) = false := by decide
@[simp] theorem we27 : (("min" : Str) = ("*" : Str)) = False := eq_false (by decide)
@[simp] theorem wd28 : (("min" : Str) == ("max" : Str)) = false := by decide
@[simp] theorem we28 : (("min" : Str) = ("max" : Str)) = False := eq_false (by decide)
@[simp] theorem wd29 : (("max" : Str) == ("+" : Str)) = false := by decide
@[simp] theorem we29 : (("max" : Str) = ("+" : Str)) = False := eq_false (by decide)
@[simp] theorem wd30 : (("max" : Str) == ("-" : Str)) = false := by decide
@[simp] theorem we30 : (("max" : Str) = ("-" : Str)) = False := eq_false (by decide)
@[simp] theorem wd31 : (("max" : Str) == ("*" : Str)) = false := by decide
@[simp] theorem we31 : (("max" : Str) = ("*" : Str)) = False := eq_false (by decide)
@[simp] theorem wd32 : (("max" : Str) == ("min" : Str)) = false := by decide
@[simp] theorem we32 : (("max" : Str) = ("min" : Str)) = False := eq_false (by decide)
@[simp] theorem wd33 : (("truth" : Str) == ("not" : Str)) = false := by decide
@[simp] theorem we33 : (("truth" : Str) = ("not" : Str)) = False := eq_false (by decide)
@[simp] theorem wd34 : (("truth" : Str) == ("and" : Str)) = false := by decide
@[simp] theorem we34 : (("truth" : Str) = ("and" : Str)) = False := eq_false (by decide)
@[simp] theorem wd35 : (("truth" : Str) == ("or" : Str)) = false := by decide
@[simp] theorem we35 : (("truth" : Str) = ("or" : Str)) = False := eq_false (by decide)
@[simp] theorem wd36 : (("truth" : Str) == ("same" : Str)) = false := by decide
@[simp] theorem we36 : (("truth" : Str) = ("same" : Str)) = False := eq_false (by decide)
@[simp] theorem wd37 : (("truth" : Str) == ("below" : Str)) = false := by decide
@[simp] theorem we37 : (("truth" : Str) = ("below" : Str)) = False := eq_false (by decide)
@[simp] theorem wd38 : (("not" : Str) == ("truth" : Str)) = false := by decide
@[simp] theorem we38 : (("not" : Str) = ("truth" : Str)) = False := eq_false (by decide)
@[simp] theorem wd39 : (("not" : Str) == ("and" : Str)) = false := by decide
@[simp] theorem we39 : (("not" : Str) = ("and" : Str)) = False := eq_false (by decide)
@[simp] theorem wd40 : (("not" : Str) == ("or" : Str)) = false := by decide
@[simp] theorem we40 : (("not" : Str) = ("or" : Str)) = False := eq_false (by decide)
@[simp] theorem wd41 : (("not" : Str) == ("same" : Str)) = false := by decide
@[simp] theorem we41 : (("not" : Str) = ("same" : Str)) = False := eq_false (by decide)
@[simp] theorem wd42 : (("not" : Str) == ("below" : Str)) = false := by decide
@[simp] theorem we42 : (("not" : Str) = ("below" : Str)) = False := eq_false (by decide)
@[simp] theorem wd43 : (("and" : Str) == ("truth" : Str)) = false := by decide
@[simp] theorem we43 : (("and" : Str) = ("truth" : Str)) = False := eq_false (by decide)
@[simp] theorem wd44 : (("and" : Str) == ("not" : Str)) = false := by decide
@[simp] theorem we44 : (("and" : Str) = ("not" : Str)) = False := eq_false (by decide)
@[simp] theorem wd45 : (("and" : Str) == ("or" : Str)) = false := by decide
@[simp] theorem we45 : (("and" : Str) = ("or" : Str)) = False := eq_false (by decide)
@[simp] theorem wd46 : (("and" : Str) == ("same" : Str)) = false := by decide
@[simp] theorem we46 : (("and" : Str) = ("same" : Str)) = False := eq_false (by decide)
@[simp] theorem wd47 : (("and" : Str) == ("below" : Str)) = false := by decide
@[simp] theorem we47 : (("and" : Str) = ("below" : Str)) = False := eq_false (by decide)
@[simp] theorem wd48 : (("or" : Str) == ("truth" : Str)) = false := by decide
@[simp] theorem we48 : (("or" : Str) = ("truth" : Str)) = False := eq_false (by decide)
@[simp] theorem wd49 : (("or" : Str) == ("not" : Str)) = false := by decide
@[simp] theorem we49 : (("or" : Str) = ("not" : Str)) = False := eq_false (by decide)
@[simp] theorem wd50 : (("or" : Str) == ("and" : Str)) = false := by decide
@[simp] theorem we50 : (("or" : Str) = ("and" : Str)) = False := eq_false (by decide)
@[simp] theorem wd51 : (("or" : Str) == ("same" : Str)) = false := by decide
@[simp] theorem we51 : (("or" : Str) = ("same" : Str)) = False := eq_false (by decide)
@[simp] theorem wd52 : (("or" : Str) == ("below" : Str)) = false := by decide
@[simp] theorem we52 : (("or" : Str) = ("below" : Str)) = False := eq_false (by decide)
@[simp] theorem wd53 : (("same" : Str) == ("truth" : Str)) = false := by decide
@[simp] theorem we53 : (("same" : Str) = ("truth" : Str)) = False := eq_false (by decide)
@[simp] theorem wd54 : (("same" : Str) == ("not" : Str)) = false := by decide
@[simp] theorem we54 : (("same" : Str) = ("not" : Str)) = False := eq_false (by decide)
@[simp] theorem wd55 : (("same" : Str) == ("and" : Str)) = false := by decide
@[simp] theorem we55 : (("same" : Str) = ("and" : Str)) = False := eq_false (by decide)
@[simp] theorem wd56 : (("same" : Str) == ("or" : Str)) = false := by decide
@[simp] theorem we56 : (("same" : Str) = ("or" : Str)) = False := eq_false (by decide)
@[simp] theorem wd57 : (("same" : Str) == ("below" : Str)) = false := by decide
@[simp] theorem we57 : (("same" : Str) = ("below" : Str)) = False := eq_false (by decide)
@[simp] theorem wd58 : (("below" : Str) == ("truth" : Str)) = false := by decide
@[simp] theorem we58 : (("below" : Str) = ("truth" : Str)) = False := eq_false (by decide)
@[simp] theorem wd59 : (("below" : Str) == ("not" : Str)) = false := by decide
@[simp] theorem we59 : (("below" : Str) = ("not" : Str)) = False := eq_false (by decide)
@[simp] theorem wd60 : (("below" : Str) == ("and" : Str)) = false := by decide
@[simp] theorem we60 : (("below" : Str) = ("and" : Str)) = False := eq_false (by decide)
@[simp] theorem wd61 : (("below" : Str) == ("or" : Str)) = false := by decide
@[simp] theorem we61 : (("below" : Str) = ("or" : Str)) = False := eq_false (by decide)
@[simp] theorem wd62 : (("below" : Str) == ("same" : Str)) = false := by decide
@[simp] theorem we62 : (("below" : Str) = ("same" : Str)) = False := eq_false (by decide)
end Com

/-! Expressions, conditions: what they are worth, whether they hold. -/
namespace Com
open PySem Cs
abbrev Row := Str × Int × Int
def encR (r : Row) : D := .tup [.str r.1, .int r.2.1, .int r.2.2]
def enc (fr : List Row) : D := .tup (fr.map encR)
def encS (st : List Int) : D := .tup (st.map .int)
def nms (fr : List Row) : List Str := fr.map (·.1)
inductive Sg where | add | sub | mul | min | max
  deriving DecidableEq
def Sg.str : Sg → Str
  | .add => "+"
  | .sub => "-"
  | .mul => "*"
  | .min => "min"
  | .max => "max"
def Sg.ap : Sg → Int → Int → Int
  | .add, a, b => a + b
  | .sub, a, b => a - b
  | .mul, a, b => a * b
  | .min, a, b => if a < b then a else b
  | .max, a, b => if a < b then b else a
inductive E where
  | num (i : Int) | nam (x : Str) | old (x : Str) | two (s : Sg) (a b : E)
  deriving DecidableEq
def E.enc : E → D
  | .num i => .tup [.str "number", .int i]
  | .nam x => .tup [.str "name", .str x]
  | .old x => .tup [.str "old", .str x]
  | .two s a b => .tup [.str "two", .str s.str, a.enc, b.enc]
def look (ns : List Str) (st : List Int) (x : Str) : Int := match ns.findIdx? (· == x) with
  | some i => (st[i]?).getD 0
  | none => 0
def E.wor (ns : List Str) (st ol : List Int) : E → Int
  | .num i => i
  | .nam x => look ns st x
  | .old x => look ns ol x
  | .two s a b => s.ap (a.wor ns st ol) (b.wor ns st ol)
def E.leaves : E → Nat
  | .two _ a b => a.leaves + b.leaves
  | _ => 1
def E.deep : E → Nat
  | .two _ a b => max a.deep b.deep + 1
  | _ => 0
/-- names of these, numbers not too big, old values only where they may be -/
def E.fits (ns : List Str) (o : Bool) : E → Bool
  | .num i => decide (i.natAbs < 2 ^ 20)
  | .nam x => ns.any (· == x)
  | .old x => o && ns.any (· == x)
  | .two _ a b => a.fits ns o && b.fits ns o
theorem E.leaves_pos : ∀ e : E, 1 ≤ e.leaves
  | .num _ => Nat.le_refl _
  | .nam _ => Nat.le_refl _
  | .old _ => Nat.le_refl _
  | .two _ a b => Nat.le_trans a.leaves_pos (Nat.le_add_right _ _)
def StOk (st : List Int) : Prop := ∀ v ∈ st, v.natAbs < 2 ^ 20
theorem look_lt {ns : List Str} {st : List Int} {x : Str} (h : StOk st) : (look ns st x).natAbs < 2 ^ 20 := by
  unfold look
  split
  · rename_i i _
    cases hi : st[i]? with
    | none => simp
    | some v => exact h v (List.mem_of_getElem? hi)
  · simp
theorem Sg.ap_lt (s : Sg) {a b : Int} {x y : Nat} (hx : 1 ≤ x) (hy : 1 ≤ y) (ha : a.natAbs < 2 ^ x) (hb : b.natAbs < 2 ^ y) : (s.ap a b).natAbs < 2 ^ (x + y) := by
  have h1 : 2 ^ x ≤ 2 ^ (x + y) := Nat.pow_le_pow_right (by omega) (by omega)
  have h2 : 2 ^ y ≤ 2 ^ (x + y) := Nat.pow_le_pow_right (by omega) (by omega)
  have h3 : 2 ^ x + 2 ^ y ≤ 2 ^ (x + y) := by
    rw [Nat.pow_add]
    have g1 : 2 ≤ 2 ^ x := Nat.le_trans (Nat.le_refl 2) (Nat.pow_le_pow_right (n := 2) (by omega) hx)
    have g2 : 2 ≤ 2 ^ y := Nat.le_trans (Nat.le_refl 2) (Nat.pow_le_pow_right (n := 2) (by omega) hy)
    have g3 := Nat.mul_le_mul_left (2 ^ x) g2
    have g4 := Nat.mul_le_mul_right (2 ^ y) g1
    omega
  cases s with
  | add => simp only [Sg.ap]; omega
  | sub => simp only [Sg.ap]; omega
  | mul =>
    simp only [Sg.ap]
    rw [Int.natAbs_mul, Nat.pow_add]
    exact Nat.mul_lt_mul'' ha hb
  | min => simp only [Sg.ap]; split <;> omega
  | max => simp only [Sg.ap]; split <;> omega
theorem E.wor_lt {ns : List Str} {st ol : List Int} {o : Bool} (hs : StOk st) (ho : StOk ol) : ∀ e : E, e.fits ns o = true → (e.wor ns st ol).natAbs < 2 ^ (20 * e.leaves)
  | .num i, h => by simpa [fits, wor, leaves] using h
  | .nam x, _ => look_lt hs
  | .old x, _ => look_lt ho
  | .two s a b, h => by
    simp only [fits, Bool.and_eq_true] at h
    have h1 := a.leaves_pos
    have h2 := b.leaves_pos
    have := s.ap_lt (x := 20 * a.leaves) (y := 20 * b.leaves) (by omega) (by omega) (a.wor_lt hs ho h.1) (b.wor_lt hs ho h.2)
    simp only [wor, leaves, Nat.mul_add]
    exact this
theorem mulOk_lt {i j : Int} {x y : Nat} (h1 : i.natAbs < 2 ^ x) (h2 : j.natAbs < 2 ^ y) (h : x + y < 1000000) (hx : 1 ≤ x) (hy : 1 ≤ y) : mulOk i j = true := by
  unfold mulOk
  rw [decide_eq_true_eq]
  have a : i.natAbs.log2 < x := by
    by_cases q : i.natAbs = 0
    · rw [q, Nat.log2_zero]; omega
    · exact (Nat.log2_lt q).mpr h1
  have b : j.natAbs.log2 < y := by
    by_cases q : j.natAbs = 0
    · rw [q, Nat.log2_zero]; omega
    · exact (Nat.log2_lt q).mpr h2
  omega
theorem names_ok (fr : List Row) (h : fr.length ≤ 1000) (m : Mem) : c_names_of [enc fr] m = .ok (.tup ((nms fr).map .str)) m := by
  have hz := size_big
  unfold c_names_of b_names_of
  rw [runF_ap (np := 1) _ rfl]
  have hl : fLc [1] (.name 1) (iVar 0) tYes (fIx (fVar 1) (fCon (.int 0))) [some (enc fr), none] m = .ok (.lst ((nms fr).map .str)) m := by
    refine fLc_ap (p := (fr.map encR, [])) (iVar_tup (by simp [enc])) ?_ (by simp [nms]; omega)
    refine (lcGo_map (g := fun d => match d with | .tup (x :: _) => x | _ => .non) same_nil fun d hd => ?_).trans ?_
    · obtain ⟨r, _, rfl⟩ := List.mem_map.mp hd
      refine ⟨_, rfl, rfl, ?_⟩
      simp [encR]
    · rw [List.map_map, nms, List.map_map]
      rfl
  simp [hl]
theorem place_ok (fr : List Row) (h : fr.length ≤ 1000) (x : Str) (m : Mem) : c_place_of [enc fr, .str x] m = .ok (plD (nms fr) x) m := by
  unfold c_place_of b_place_of
  rw [runF_ap (np := 2) _ rfl]
  have e1 := names_ok fr h m
  have e2 := idx_if (e := [some (enc fr), some (.str x), some (.tup ((nms fr).map .str))]) (m := m) (i := 1) (j := 2) (x := x) (ns := nms fr) (by simp) (by simp)
  simp [e1]
  simp only [fIf_ap, fTr_ap, fCmp_ap, fVar_ap, fCon_ap] at e2
  simp at e2
  rw [e2]
  rfl
end Com

namespace Com
open PySem Cs
/-- the defs that say what an expression is worth -/
structure Wth (p w : Nat → FF) : Prop where
  hp : ∀ k, p (k + 2) = c_place_of
  hw : ∀ k, w (k + 1) = runF false 4 7 (b_worth (p k) (w k))
theorem find_any {ns : List Str} {x : Str} (h : ns.any (· == x) = true) : ∃ i, ns.findIdx? (· == x) = some i ∧ i < ns.length := by
  cases hf : ns.findIdx? (· == x) with
  | none =>
    rw [List.findIdx?_eq_none_iff] at hf
    rw [List.any_eq_true] at h
    obtain ⟨y, hy, he⟩ := h
    rw [hf y hy] at he
    cases he
  | some i => exact ⟨i, rfl, (List.findIdx?_eq_some_iff_getElem.mp hf).1⟩
theorem look_ix {ns : List Str} {st : List Int} {x : Str} (h : ns.any (· == x) = true) (hl : st.length = ns.length) (m : Mem) : ∃ i : Nat, plD ns x = .int i ∧ ixD (encS st) (.int i) m = some (.int (look ns st x)) := by
  obtain ⟨i, h1, h2⟩ := find_any h
  refine ⟨i, by simp [plD, h1], ?_⟩
  refine ix_tup (by omega) ?_
  have h3 : st[i]? = some (st[i]'(by omega)) := List.getElem?_eq_getElem _
  rw [List.getElem?_map, show ((i : Int)).toNat = i by omega, h3]
  simp [look, h1, h3]
theorem in2 {m : Mem} (x a b : Str) : cmpD .In (.str x) (.tup [.str a, .str b]) m = some (a == x || b == x) := by
  have := in_strs (m := m) x [a, b]
  simpa using this
theorem min_int {m : Mem} (a b : Int) : bltD .min [.int a, .int b] m = some (.int (if b < a then b else a)) := by
  show (match D.int a, D.int b with
    | .int i, .int j => some (D.int (if j < i then j else i))
    | _, _ => none) = _
  rfl
theorem max_int {m : Mem} (a b : Int) : bltD .max [.int a, .int b] m = some (.int (if a < b then b else a)) := by
  show (match D.int a, D.int b with
    | .int i, .int j => some (D.int (if i < j then j else i))
    | _, _ => none) = _
  rfl
theorem atV_set {e : Sto} {i : Nat} {x : Option D} (h : i < e.length) : atV (e.set i x) i = x := by simp [atV, h]
/-- the place of a name among a frame's names -/
theorem lnames_ok (fr : List Row) (hf : fr.length ≤ 1000) (x : Str) (h : (nms fr).any (· == x) = true) {e : Sto} {m : Mem} {k : Str} (h0 : atV e 0 = some (enc fr)) (h3 : atV e 3 = some (.tup [.str k, .str x])) (hl : e.length = 8) :
    fMth .index (fLc [5] (.name 5) (iVar 0) tYes (fIx (fVar 5) (fCon (.int 0)))) (fCons (fIx (fVar 3) (fCon (.int 1))) fNil) e m = .ok (plD (nms fr) x) m := by
  have hl1 : fLc [5] (.name 5) (iVar 0) tYes (fIx (fVar 5) (fCon (.int 0))) e m = .ok (.lst ((nms fr).map .str)) m := by
    refine fLc_ap (p := (fr.map encR, [])) (iVar_tup (by simp [enc, h0])) ?_ (by simp [nms]; have := size_big; omega)
    refine (lcGo_map (g := fun d => match d with | .tup (x :: _) => x | _ => .non) same_nil fun d hd => ?_).trans ?_
    · obtain ⟨r, _, rfl⟩ := List.mem_map.mp hd
      refine ⟨_, rfl, rfl, ?_⟩
      have : atV ((wipe e [5]).set 5 (some (encR r))) 5 = some (encR r) := atV_set (by simp [hl])
      rw [fIx_ap, fVar_ap, this]
      simp [encR]
    · rw [List.map_map, nms, List.map_map]
      rfl
  obtain ⟨i, hi, hn⟩ := find_any h
  refine (fMth_at .index (k := .lst) (ds := [.str x]) (m2 := m) hl1 rfl rfl (by simp [h3])).trans ?_
  show ofP (idxL (.lst ((nms fr).map .str)) [.str x] m) = _
  obtain ⟨n, ns, hns⟩ : ∃ n ns, nms fr = n :: ns := by
    cases q : nms fr with
    | nil => rw [q] at hn; simp at hn
    | cons n ns => exact ⟨n, ns, rfl⟩
  rw [hns] at hi ⊢
  simp only [idxL, res_lst, nm_strsT, if_true, plD, hi]
  rw [List.findIdx?_map]
  have : (n :: ns).findIdx? ((fun y => eqD y (D.str x)) ∘ D.str) = some i := hi
  rw [this]
  rfl
theorem worth_ok {p w : Nat → FF} (W : Wth p w) {fr : List Row} (hf : fr.length ≤ 1000) {st ol : List Int} {olD : D} {o : Bool} (hs : st.length = fr.length) (ho : o = true → olD = encS ol ∧ ol.length = fr.length) (ss : StOk st) (so : StOk ol) :
    ∀ (e : E), e.fits (nms fr) o = true → e.leaves ≤ 20000 → ∀ k, e.deep + 3 ≤ k → ∀ m, w k [enc fr, encS st, olD, e.enc] m = .ok (.int (e.wor (nms fr) st ol)) m
  | .num i, h, _, k + 1, _, m => by
    rw [W.hw, runF_ap (np := 4) _ rfl]
    unfold b_worth
    simp [E.enc, E.wor]
  | .nam x, h, _, k + 3, _, m => by
    rw [W.hw, W.hp, runF_ap (np := 4) _ rfl]
    unfold b_worth
    have e1 := place_ok fr hf x m
    obtain ⟨i, h1, h2⟩ := look_ix (st := st) (m := m) h (by rw [hs, nms, List.length_map])
    simp [E.enc, E.wor, in2, e1, h1, h2]
  | .old x, h, _, k + 3, _, m => by
    simp only [E.fits, Bool.and_eq_true] at h
    obtain ⟨rfl, hl⟩ := ho h.1
    rw [W.hw, W.hp, runF_ap (np := 4) _ rfl]
    unfold b_worth
    have e1 := place_ok fr hf x m
    obtain ⟨i, h1, h2⟩ := look_ix (st := ol) (m := m) h.2 (by rw [hl, nms, List.length_map])
    simp [E.enc, E.wor, in2, e1, h1, h2]
  | .two s a b, h, hz, k + 1, hk, m => by
    simp only [E.fits, Bool.and_eq_true] at h
    simp only [E.leaves] at hz
    simp only [E.deep] at hk
    have e1 := worth_ok W hf hs ho ss so a h.1 (by omega) k (by omega) m
    have e2 := worth_ok W hf hs ho ss so b h.2 (by omega) k (by omega) m
    have p1 := a.leaves_pos
    have p2 := b.leaves_pos
    have hm := mulOk_lt (a.wor_lt ss so h.1) (b.wor_lt ss so h.2) (by omega) (by omega) (by omega)
    rw [W.hw, runF_ap (np := 4) _ rfl]
    unfold b_worth
    cases s <;> simp [E.enc, E.wor, in2, e1, e2, Sg.str, Sg.ap, mul_int _ _ hm, min_int, max_int]
    split <;> split <;> omega
/-- the law's own reckoning -/
theorem lworth_ok {w : Nat → FF} (W : ∀ k, w (k + 1) = runF false 4 8 (b__law_worth (w k))) {fr : List Row} (hf : fr.length ≤ 1000) {st ol : List Int} {olD : D} {o : Bool} (hs : st.length = fr.length) (ho : o = true → olD = encS ol ∧ ol.length = fr.length) (ss : StOk st) (so : StOk ol) :
    ∀ (e : E), e.fits (nms fr) o = true → e.leaves ≤ 20000 → ∀ k, e.deep + 1 ≤ k → ∀ m, w k [enc fr, encS st, olD, e.enc] m = .ok (.int (e.wor (nms fr) st ol)) m
  | .num i, h, _, k + 1, _, m => by
    rw [W, runF_ap (np := 4) _ rfl]
    unfold b__law_worth
    simp [E.enc, E.wor]
  | .nam x, h, _, k + 1, _, m => by
    rw [W, runF_ap (np := 4) _ rfl]
    unfold b__law_worth
    have e1 := lnames_ok fr hf x h (e := [some (enc fr), some (encS st), some olD, some (E.nam x).enc, none, none, none, none]) (m := m) (k := "name") rfl rfl rfl
    obtain ⟨i, h1, h2⟩ := look_ix (st := st) (m := m) h (by rw [hs, nms, List.length_map])
    simp only [E.enc] at e1
    simp [E.enc, E.wor, in2, e1, h1, h2]
  | .old x, h, _, k + 1, _, m => by
    simp only [E.fits, Bool.and_eq_true] at h
    obtain ⟨rfl, hl⟩ := ho h.1
    rw [W, runF_ap (np := 4) _ rfl]
    unfold b__law_worth
    have e1 := lnames_ok fr hf x h.2 (e := [some (enc fr), some (encS st), some (encS ol), some (E.old x).enc, none, none, none, none]) (m := m) (k := "old") rfl rfl rfl
    obtain ⟨i, h1, h2⟩ := look_ix (st := ol) (m := m) h.2 (by rw [hl, nms, List.length_map])
    simp only [E.enc] at e1
    simp [E.enc, E.wor, in2, e1, h1, h2]
  | .two s a b, h, hz, k + 1, hk, m => by
    simp only [E.fits, Bool.and_eq_true] at h
    simp only [E.leaves] at hz
    simp only [E.deep] at hk
    have e1 := lworth_ok W hf hs ho ss so a h.1 (by omega) k (by omega) m
    have e2 := lworth_ok W hf hs ho ss so b h.2 (by omega) k (by omega) m
    have p1 := a.leaves_pos
    have p2 := b.leaves_pos
    have hm := mulOk_lt (a.wor_lt ss so h.1) (b.wor_lt ss so h.2) (by omega) (by omega) (by omega)
    rw [W, runF_ap (np := 4) _ rfl]
    unfold b__law_worth
    cases s <;> simp [E.enc, E.wor, in2, e1, e2, Sg.str, Sg.ap, mul_int _ _ hm, min_int, max_int]
    · split <;> simp
    · split <;> simp
end Com

namespace Com
open PySem Cs
inductive Cd where
  | tru (b : Bool) | neg (c : Cd) | both (w : Bool) (a b : Cd) | cmp (w : Bool) (a b : E)
  deriving DecidableEq
def wBoth (w : Bool) : Str := if w then "and" else "or"
def wCmp (w : Bool) : Str := if w then "same" else "below"
def Cd.enc : Cd → D
  | .tru b => .tup [.str "truth", .bl b]
  | .neg c => .tup [.str "not", c.enc]
  | .both w a b => .tup [.str (wBoth w), a.enc, b.enc]
  | .cmp w a b => .tup [.str (wCmp w), a.enc, b.enc]
def Cd.hol (ns : List Str) (st ol : List Int) : Cd → Bool
  | .tru b => b
  | .neg c => !c.hol ns st ol
  | .both w a b => if w then a.hol ns st ol && b.hol ns st ol else a.hol ns st ol || b.hol ns st ol
  | .cmp w a b => if w then a.wor ns st ol == b.wor ns st ol else decide (a.wor ns st ol < b.wor ns st ol)
def Cd.deep : Cd → Nat
  | .tru _ => 0
  | .neg c => c.deep + 1
  | .both _ a b => max a.deep b.deep + 1
  | .cmp _ a b => max a.deep b.deep + 1
def Cd.fits (ns : List Str) (o : Bool) : Cd → Bool
  | .tru _ => true
  | .neg c => c.fits ns o
  | .both _ a b => a.fits ns o && b.fits ns o
  | .cmp _ a b => a.fits ns o && b.fits ns o && decide (a.leaves ≤ 20000) && decide (b.leaves ≤ 20000)
structure Hld (p w h : Nat → FF) : Prop extends Wth p w where
  hh : ∀ k, h (k + 1) = runF false 4 7 (b_holds (h k) (w k))
theorem holds_ok {p w h : Nat → FF} (W : Hld p w h) {fr : List Row} (hf : fr.length ≤ 1000) {st ol : List Int} {olD : D} {o : Bool} (hs : st.length = fr.length) (ho : o = true → olD = encS ol ∧ ol.length = fr.length) (ss : StOk st) (so : StOk ol) :
    ∀ (c : Cd), c.fits (nms fr) o = true → ∀ k, c.deep + 4 ≤ k → ∀ m, h k [enc fr, encS st, olD, c.enc] m = .ok (.bl (c.hol (nms fr) st ol)) m
  | .tru b, _, k + 1, _, m => by
    rw [W.hh, runF_ap (np := 4) _ rfl]
    unfold b_holds
    simp [Cd.enc, Cd.hol]
  | .neg c, h, k + 1, hk, m => by
    simp only [Cd.deep] at hk
    have e1 := holds_ok W hf hs ho ss so c h k (by omega) m
    rw [W.hh, runF_ap (np := 4) _ rfl]
    unfold b_holds
    simp [Cd.enc, Cd.hol, e1]
  | .both w a b, h, k + 1, hk, m => by
    simp only [Cd.fits, Bool.and_eq_true] at h
    simp only [Cd.deep] at hk
    have e1 := holds_ok W hf hs ho ss so a h.1 k (by omega) m
    have e2 := holds_ok W hf hs ho ss so b h.2 k (by omega) m
    rw [W.hh, runF_ap (np := 4) _ rfl]
    unfold b_holds
    generalize hu : a.hol (nms fr) st ol = u at *
    generalize hv : b.hol (nms fr) st ol = v at *
    cases w <;> cases u <;> simp [Cd.enc, Cd.hol, wBoth, in2, e1, e2, hu, hv]
  | .cmp w a b, h, k + 1, hk, m => by
    simp only [Cd.fits, Bool.and_eq_true, decide_eq_true_eq] at h
    simp only [Cd.deep] at hk
    have e1 := worth_ok W.toWth hf hs ho ss so a h.1.1.1 h.1.2 k (by omega) m
    have e2 := worth_ok W.toWth hf hs ho ss so b h.1.1.2 h.2 k (by omega) m
    rw [W.hh, runF_ap (np := 4) _ rfl]
    unfold b_holds
    cases w <;> simp [Cd.enc, Cd.hol, wCmp, in2, e1, e2]
theorem cmp_eqT {m : Mem} (a b c d : Bool) : cmpD .Eq (.tup [.bl a, .bl b]) (.tup [.bl c, .bl d]) m = some (a == c && b == d) := by
  simp [cmpD, eqOk, Cs.plain, plainL, dep, depL, eqD, eqL]
theorem cmp_neT {m : Mem} (a b c d : Bool) : cmpD .NotEq (.tup [.bl a, .bl b]) (.tup [.bl c, .bl d]) m = some (!(a == c && b == d)) := by
  simp [cmpD, eqOk, Cs.plain, plainL, dep, depL, eqD, eqL]
theorem lholds_ok {w h : Nat → FF} (W : ∀ k, w (k + 1) = runF false 4 8 (b__law_worth (w k))) (WH : ∀ k, h (k + 1) = runF false 4 7 (b__law_holds (h k) (w k))) {fr : List Row} (hf : fr.length ≤ 1000) {st ol : List Int} {olD : D} {o : Bool} (hs : st.length = fr.length) (ho : o = true → olD = encS ol ∧ ol.length = fr.length) (ss : StOk st) (so : StOk ol) :
    ∀ (c : Cd), c.fits (nms fr) o = true → ∀ k, c.deep + 2 ≤ k → ∀ m, h k [enc fr, encS st, olD, c.enc] m = .ok (.bl (c.hol (nms fr) st ol)) m
  | .tru b, _, k + 1, _, m => by
    rw [WH, runF_ap (np := 4) _ rfl]
    unfold b__law_holds
    simp [Cd.enc, Cd.hol]
  | .neg c, h, k + 1, hk, m => by
    simp only [Cd.deep] at hk
    have e1 := lholds_ok W WH hf hs ho ss so c h k (by omega) m
    rw [WH, runF_ap (np := 4) _ rfl]
    unfold b__law_holds
    simp [Cd.enc, Cd.hol, e1]
  | .both w a b, h, k + 1, hk, m => by
    simp only [Cd.fits, Bool.and_eq_true] at h
    simp only [Cd.deep] at hk
    have e1 := lholds_ok W WH hf hs ho ss so a h.1 k (by omega) m
    have e2 := lholds_ok W WH hf hs ho ss so b h.2 k (by omega) m
    rw [WH, runF_ap (np := 4) _ rfl]
    unfold b__law_holds
    generalize hu : a.hol (nms fr) st ol = u at *
    generalize hv : b.hol (nms fr) st ol = v at *
    cases w <;> cases u <;> cases v <;> simp [Cd.enc, Cd.hol, wBoth, in2, e1, e2, hu, hv, cmp_eqT, cmp_neT]
  | .cmp w a b, h, k + 1, hk, m => by
    simp only [Cd.fits, Bool.and_eq_true, decide_eq_true_eq] at h
    simp only [Cd.deep] at hk
    have e1 := lworth_ok W hf hs ho ss so a h.1.1.1 h.1.2 k (by omega) m
    have e2 := lworth_ok W hf hs ho ss so b h.1.1.2 h.2 k (by omega) m
    rw [WH, runF_ap (np := 4) _ rfl]
    unfold b__law_holds
    cases w <;> simp [Cd.enc, Cd.hol, wCmp, in2, e1, e2]
end Com

/-! Frames, states. -/
namespace Com
open PySem Cs
structure FrOk (fr : List Row) : Prop where
  len : fr.length ≤ 4
  lo : ∀ r ∈ fr, -100 ≤ r.2.1 ∧ r.2.1 ≤ r.2.2 ∧ r.2.2 ≤ 100 ∧ r.2.2 ≤ r.2.1 + 7
theorem plain_rows : ∀ fr : List Row, plainL (fr.map encR) = true
  | [] => rfl
  | r :: fr => by simp only [List.map_cons, encR, plainL, Cs.plain, plain_rows fr, Bool.and_self]
theorem plain_enc (fr : List Row) : Cs.plain (enc fr) = true := by
  simp only [enc, Cs.plain]
  exact plain_rows fr
theorem wc_frz (ds : List Int) (k : Int) (n : Nat) (mm : Mem) : frzC n mm (wc ds k) = some (wc ds k) := frzC_dct (by simp [plainL, Cs.plain, plainL_ints])
def grow (found : List (List Int)) (r : Row) : List (List Int) := found.flatMap fun st => (intsL r.2.1 (r.2.2 + 1 - r.2.1).toNat).map fun v => st ++ [v]
def states (fr : List Row) : List (List Int) := fr.foldl grow [[]]
theorem grow_map (found : List (List Int)) (r : Row) : (found.map encS).flatMap (fun d => match d with
    | .tup s => (intsL r.2.1 (r.2.2 + 1 - r.2.1).toNat).map fun v => D.tup (s ++ [.int v])
    | _ => []) = (grow found r).map encS := by
  unfold grow
  rw [List.map_flatMap, List.flatMap_map]
  congr 1
  funext st
  simp [encS]
theorem grow_len (found : List (List Int)) (r : Row) (h : r.2.2 ≤ r.2.1 + 7) : (grow found r).length ≤ found.length * 8 := by
  unfold grow
  induction found with
  | nil => simp
  | cons st found ih =>
    rw [List.flatMap_cons, List.length_append, List.length_map, intsL_len, List.length_cons]
    omega
theorem grow_each {found : List (List Int)} {r : Row} {n : Nat} (h : ∀ st ∈ found, st.length = n) : ∀ st ∈ grow found r, st.length = n + 1 := by
  intro st hst
  unfold grow at hst
  obtain ⟨s, h1, h2⟩ := List.mem_flatMap.mp hst
  obtain ⟨v, _, rfl⟩ := List.mem_map.mp h2
  simp [h s h1]
theorem states_snoc (fr : List Row) (r : Row) : states (fr ++ [r]) = grow (states fr) r := by simp [states]
theorem states_each (fr : List Row) : ∀ st ∈ states fr, st.length = fr.length := by
  refine snoc_ind (P := fun fr => ∀ st ∈ states fr, st.length = fr.length) ?_ (fun fr r ih => ?_) fr
  · intro st h; simp [states] at h; simp [h]
  · rw [states_snoc, List.length_append, List.length_singleton]
    exact grow_each ih
theorem states_len (fr : List Row) : (∀ r ∈ fr, r.2.2 ≤ r.2.1 + 7) → (states fr).length ≤ 8 ^ fr.length := by
  refine snoc_ind (P := fun fr => (∀ r ∈ fr, r.2.2 ≤ r.2.1 + 7) → (states fr).length ≤ 8 ^ fr.length) ?_ (fun fr r ih => ?_) fr
  · intro _; simp [states]
  · intro h
    have h1 := ih fun q hq => h q (List.mem_append_left _ hq)
    have h2 := grow_len (states fr) r (h r (by simp))
    rw [states_snoc, List.length_append, List.length_singleton, Nat.pow_succ]
    omega
theorem lstates_ok (fr : List Row) (h : FrOk fr) (m : Mem) : c__law_states [enc fr] m = .ok (.lst ((states fr).map encS)) m := by
  apply okR.eq
  unfold c__law_states
  refine okF rfl ?_
  unfold b__law_states
  have hsz := size_big
  have e1 : ∀ e, iVal (fVar 0) (some (enc fr) :: e) m = .ok (fr.map encR, []) m := fun e => iVal_tup (by simp [enc])
  simp [e1]
  refine okS.thn ?_
  refine forT0 (fun rem e m' => ∃ (dn rs : List Row) (x2 x3 x4 x5 x6 x7 : Option D), e = [some (enc fr), some (.lst ((states dn).map encS)), x2, x3, x4, x5, x6, x7] ∧ m' = m ∧ fr = dn ++ rs ∧ rem = rs.map encR)
    ⟨[], fr, none, none, none, none, none, none, rfl, rfl, rfl, rfl⟩ ?_ ?_
  · rintro e m' ⟨dn, rs, x2, x3, x4, x5, x6, x7, rfl, rfl, h1, h2⟩
    have : rs = [] := by simpa using h2.symm
    subst this
    rw [List.append_nil] at h1
    subst h1
    show okS _ _
    simp
    exact okS.mk (okR.mk ⟨rfl, rfl⟩)
  · rintro d r e m' ⟨dn, rs, x2, x3, x4, x5, x6, x7, rfl, rfl, h1, h2⟩
    cases rs with
    | nil => cases h2
    | cons q rs =>
      obtain ⟨rfl, rfl⟩ := List.cons.inj h2
      refine ⟨_, by simp [encR]; rfl, fun Q' tn => ?_⟩
      have hq : q ∈ fr := by rw [h1]; simp
      obtain ⟨g1, g2, g3, g4⟩ := h.lo q hq
      have hdn : dn.length ≤ 3 := by
        have := h.len
        rw [h1, List.length_append, List.length_cons] at this
        omega
      have hl : (states dn).length ≤ 512 := by
        have h3 := states_len dn fun q hq => (h.lo q (by rw [h1]; exact List.mem_append_left _ hq)).2.2.2
        have h4 : 8 ^ dn.length ≤ 8 ^ 3 := Nat.pow_le_pow_right (by omega) hdn
        omega
      have h3 : ∀ st ∈ states dn, st.length ≤ 4 := fun st hst => by rw [states_each dn st hst]; omega
      have e2 : ∀ x4 x5 x6 x7 e, iVal (fVar 1) (x4 :: some (.lst ((states dn).map encS)) :: x5 :: x6 :: x7 :: e) m' = .ok ((states dn).map encS, []) m' := fun _ _ _ _ _ => iVal_lst (by simp)
      simp [e2]
      refine okS.thn ?_
      refine forT0 (fun rem e m2 => ∃ (a b : List (List Int)) (x6 x7 : Option D), e = [some (enc fr), some (.lst ((states dn).map encS)), some (.str q.1), some (.int q.2.1), some (.int q.2.2), some (.lst ((grow a q).map encS)), x6, x7] ∧ m2 = m' ∧ states dn = a ++ b ∧ rem = b.map encS)
        ⟨[], states dn, x6, x7, rfl, rfl, rfl, rfl⟩ ?_ ?_
      · rintro e m2 ⟨a, b, x6, x7, rfl, rfl, k1, k2⟩
        have : b = [] := by simpa using k2.symm
        subst this
        rw [List.append_nil] at k1
        subst k1
        show okS _ _
        simp
        exact okS.mk (tn.nx _ _ ⟨dn ++ [q], rs, _, _, _, _, _, _, by rw [states_snoc], rfl, by rw [h1]; simp, rfl⟩)
      · rintro d r e m2 ⟨a, b, x6, x7, rfl, rfl, k1, k2⟩
        cases b with
        | nil => cases k2
        | cons st b =>
          obtain ⟨rfl, rfl⟩ := List.cons.inj k2
          refine ⟨_, rfl, fun Q2 t2 => ?_⟩
          have hst : st ∈ states dn := by rw [k1]; simp
          have hst3 := h3 st hst
          have hal : a.length ≤ 512 := by
            have := congrArg List.length k1
            rw [List.length_append] at this
            omega
          have hga := grow_len a q g4
          have el : ∀ e : Sto, atV e 3 = some (.int q.2.1) → atV e 4 = some (.int q.2.2) → atV e 6 = some (encS st) → e.length = 8 →
              fLc [7] (.name 7) (jRng2 (fVar 3) (fBin .Add (fVar 4) (fCon (.int 1)))) tYes (fBin .Add (fVar 6) (fTup (fCons (fVar 7) fNil))) e m2 = .ok (.lst ((grow [st] q).map encS)) m2 := by
            intro e a3 a4 a6 al
            obtain ⟨y0, y1, y2, y3, y4, y5, y6, y7, rfl⟩ : ∃ y0 y1 y2 y3 y4 y5 y6 y7, e = [y0, y1, y2, y3, y4, y5, y6, y7] := by
              match e, al with
              | [y0, y1, y2, y3, y4, y5, y6, y7], _ => exact ⟨_, _, _, _, _, _, _, _, rfl⟩
            simp only [atV_s, atV_0] at a3 a4 a6
            subst a3 a4 a6
            refine fLc_ap (p := (rangeL q.2.1 (q.2.2 + 1 - q.2.1).toNat, [])) (jRng2_ap (i := q.2.1) (n := q.2.2 + 1) (by simp) (by simp) (by omega) (by omega) (by omega) (by omega)) ?_ ?_
            · simp only [encS]
              rw [rangeL_ints]
              refine (lcGo_map (g := fun d => .tup (st.map .int ++ [d])) same_nil fun k hk => ?_).trans (by simp [grow, encS])
              obtain ⟨v, _, rfl⟩ := List.mem_map.mp hk
              refine ⟨_, rfl, rfl, ?_⟩
              simp
              rw [add_tup (by simp; omega)]
              rfl
            · rw [List.length_map]
              have := grow_len [st] q g4
              rw [List.length_singleton] at this
              omega
          have hg1 := grow_len [st] q g4
          rw [List.length_singleton] at hg1
          have ea : ∀ m, binD .Add (.lst ((grow a q).map encS)) (.lst ((grow [st] q).map encS)) m = some (.lst ((grow (a ++ [st]) q).map encS)) := fun m => by
            rw [add_lst (by rw [List.length_map, List.length_map]; omega), ← List.map_append]
            simp [grow]
          simp [el, ea]
          exact okS.mk (t2.nx _ _ ⟨a ++ [st], b, _, _, rfl, rfl, by rw [k1]; simp, rfl⟩)
theorem encS_plain (st : List Int) : Cs.plain (encS st) = true := by simp [encS, Cs.plain, plainL_ints]
theorem depL_ints : ∀ ds : List Int, depL (ds.map .int) = 0
  | [] => rfl
  | d :: ds => by simp only [List.map_cons, depL, dep, depL_ints ds, Nat.max_self]
theorem encS_dep (st : List Int) : dep (encS st) = 1 := by simp [encS, dep, depL_ints]
theorem encS_sz (st : List Int) : szD (encS st) = st.length + 1 := by
  simp only [encS, szD]
  rw [szL_one (fun d hd => by obtain ⟨_, _, rfl⟩ := List.mem_map.mp hd; rfl), List.length_map]
end Com

/-! What is drawn: frames, expressions, conditions. -/
namespace Com
open PySem Cs
theorem look_in {fr : List Row} : ∀ st ∈ states fr, (∀ r ∈ fr, -100 ≤ r.2.1 ∧ r.2.1 ≤ r.2.2 ∧ r.2.2 ≤ 100 ∧ r.2.2 ≤ r.2.1 + 7) → StOk st := by
  refine snoc_ind (P := fun fr => ∀ st ∈ states fr, (∀ r ∈ fr, -100 ≤ r.2.1 ∧ r.2.1 ≤ r.2.2 ∧ r.2.2 ≤ 100 ∧ r.2.2 ≤ r.2.1 + 7) → StOk st) ?_ (fun fr r ih => ?_) fr
  · intro st h _
    simp [states] at h
    subst h
    intro v hv
    cases hv
  · intro st hst hr
    rw [states_snoc] at hst
    unfold grow at hst
    obtain ⟨s, h1, h2⟩ := List.mem_flatMap.mp hst
    obtain ⟨v, hv, rfl⟩ := List.mem_map.mp h2
    rw [intsL_mem] at hv
    intro u hu
    rcases List.mem_append.mp hu with hu | hu
    · exact ih s h1 (fun q hq => hr q (List.mem_append_left _ hq)) u hu
    · rw [List.mem_singleton.mp hu]
      have := hr r (by simp)
      omega
theorem states_stOk {fr : List Row} (h : FrOk fr) {st : List Int} (hst : st ∈ states fr) : StOk st := look_in st hst h.lo
theorem gcR_wc {d : D} (hd : plain d = true) {ds : List Int} {k k' : Int} {r : Mem} {x : Mem} : gcR d (wc ds k :: r) (wc ds k' :: (r ++ x)) = .ok d (wc ds k' :: r) := gcR_first hd (wc_frz ds k')
/-- drawn: so, and the draws go on -/
def Drw (ds : List Int) (r : Mem) (P : D → Prop) (d : D) (m : Mem) : Prop := P d ∧ ∃ k, 0 ≤ k ∧ m = wc ds k :: r
theorem at_last (c : Cell) (r : Mem) (x : Cell) : (c :: (r ++ [x]))[r.length + 1]? = some x := List.getElem?_concat_length (l := c :: r) (a := x)
theorem tuple_ref {m : Mem} {n : Nat} {ds : List D} (h : m[n]? = some (.lst ds)) : bltD .tuple [.ref n] m = some (.tup ds) := by
  simp [bltD, b1, seqD, Cs.res, h]
theorem ix_pick {α : Type} {f : α → D} {l : List α} {v : Int} (h0 : 0 ≤ v) (h1 : v < l.length) (m : Mem) : ∃ a, a ∈ l ∧ ixD (.tup (l.map f)) (.int v) m = some (f a) := by
  have h2 : l[v.toNat]? = some (l[v.toNat]'(by omega)) := List.getElem?_eq_getElem _
  exact ⟨_, List.mem_of_getElem? h2, ix_tup h0 (by rw [List.getElem?_map, h2]; rfl)⟩
def FrN (fr : List Row) : Prop := FrOk fr ∧ fr ≠ [] ∧ (nms fr = [("x" : Str)] ∨ nms fr = [("x" : Str), ("y" : Str)])
theorem frame_drw (ds : List Int) (k : Int) (hk : 0 ≤ k) (r : Mem) : okR (c__law_frame [.ref 0] (wc ds k :: r)) (Drw ds r fun d => ∃ fr, d = enc fr ∧ FrN fr) := by
  unfold c__law_frame
  refine okF rfl ?_
  unfold b__law_frame
  obtain ⟨d1, m1, e1, v1, rfl, a1, b1, rfl⟩ := next_ok ds k 3 hk (by omega) r
  obtain ⟨lo, hl, q1⟩ := ix_pick (f := D.int) (l := [0, 0, -1]) a1 (by simpa using b1) (wc ds (k + 1) :: r)
  have hlo : -1 ≤ lo ∧ lo ≤ 0 := by
    simp only [List.mem_cons, List.not_mem_nil, or_false] at hl
    omega
  simp only [List.map_cons, List.map_nil] at q1
  obtain ⟨d2, m2, e2, v2, rfl, a2, b2, rfl⟩ := next_ok ds (k + 1) 4 (by omega) (by omega) r
  obtain ⟨d3, m3, e3, v3, rfl, a3, b3, rfl⟩ := next_ok ds (k + 1 + 1) 3 (by omega) (by omega) (r ++ [.lst [encR ("x", lo, lo + 1 + v2)]])
  simp only [List.map_cons, List.map_nil, List.length_cons, List.length_nil, List.replicate, List.cons_append, List.nil_append]
  simp [e1, q1, e2]
  have hr : D.tup [.str "x", .int lo, .int (lo + 1 + v2)] = encR ("x", lo, lo + 1 + v2) := rfl
  rw [hr]
  simp [e3]
  by_cases hv : 0 < v3
  · obtain ⟨d4, m4, e4, v4, rfl, a4, b4, rfl⟩ := next_ok ds (k + 1 + 1 + 1) 3 (by omega) (by omega) (r ++ [.lst [encR ("x", lo, lo + 1 + v2)]])
    have ea := app_last (m0 := wc ds (k + 1 + 1 + 1) :: r) (m1 := wc ds (k + 1 + 1 + 1 + 1) :: r) (i := 2) (e := [some (.ref 0), some (.int lo), some (.ref (r.length + 1))]) (L := [encR ("x", lo, lo + 1 + v2)]) (x := encR ("y", 0, 1 + v4))
      (fs := fCons (fTup (fCons (fCon (.str "y")) (fCons (fCon (.int 0)) (fCons (fBin .Add (fCon (.int 1)) (fApp c__law_next (fCons (fVar 0) (fCons (fCon (.int 3)) fNil)))) fNil)))) fNil) (by simp) rfl (by simp [e4]; rfl) (by simp; have := size_big; omega)
    simp only [List.cons_append] at ea
    simp [hv, ea, tuple_ref (at_last _ _ _)]
    refine okS.mk ?_
    show okR (gcR _ _ _) _
    have hp : Cs.plain (enc [("x", lo, lo + 1 + v2), ("y", 0, 1 + v4)]) = true := plain_enc _
    have := gcR_wc hp (ds := ds) (k := k) (k' := k + 1 + 1 + 1 + 1) (r := r) (x := [.lst [encR ("x", lo, lo + 1 + v2), encR ("y", 0, 1 + v4)]])
    simp only [enc, List.map_cons, List.map_nil] at this
    rw [this]
    refine okR.mk ⟨⟨[("x", lo, lo + 1 + v2), ("y", 0, 1 + v4)], rfl, ⟨by simp, ?_⟩, by simp, .inr rfl⟩, _, by omega, rfl⟩
    intro q hq
    simp only [List.mem_cons, List.not_mem_nil, or_false] at hq
    rcases hq with rfl | rfl <;> simp only <;> omega
  · simp [hv, tuple_ref (at_last _ _ _)]
    refine okS.mk ?_
    show okR (gcR _ _ _) _
    have hp : Cs.plain (enc [("x", lo, lo + 1 + v2)]) = true := plain_enc _
    have := gcR_wc hp (ds := ds) (k := k) (k' := k + 1 + 1 + 1) (r := r) (x := [.lst [encR ("x", lo, lo + 1 + v2)]])
    simp only [enc, List.map_cons, List.map_nil] at this
    rw [this]
    refine okR.mk ⟨⟨[("x", lo, lo + 1 + v2)], rfl, ⟨by simp, ?_⟩, by simp, .inl rfl⟩, _, by omega, rfl⟩
    intro q hq
    simp only [List.mem_cons, List.not_mem_nil, or_false] at hq
    subst hq
    simp only
    omega
end Com

/-! What is drawn: expressions, conditions. -/
namespace Com
open PySem Cs
theorem lnames_lc (fr : List Row) (hf : fr.length ≤ 1000) {e : Sto} {m : Mem} {i j : Nat} (h0 : atV e i = some (enc fr)) (hl : j < e.length) :
    fLc [j] (.name j) (iVar i) tYes (fIx (fVar j) (fCon (.int 0))) e m = .ok (.lst ((nms fr).map .str)) m := by
  refine fLc_ap (p := (fr.map encR, [])) (iVar_tup (by simp [enc, h0])) ?_ (by simp [nms]; have := size_big; omega)
  refine (lcGo_map (g := fun d => match d with | .tup (x :: _) => x | _ => .non) same_nil fun d hd => ?_).trans ?_
  · obtain ⟨r, _, rfl⟩ := List.mem_map.mp hd
    refine ⟨_, rfl, rfl, ?_⟩
    have : atV ((wipe e [j]).set j (some (encR r))) j = some (encR r) := atV_set (by simp [hl])
    rw [fIx_ap, fVar_ap, this]
    simp [encR]
  · rw [List.map_map, nms, List.map_map]
    rfl
structure Drs (n p x : Nat → FF) : Prop where
  hn : ∀ k, n (k + 1) = c__law_next
  hp : ∀ k, p (k + 2) = c__law_pick
  hx : ∀ k, x (k + 1) = runF false 4 8 (b__law_expr (n k) (p k) (x k))
def ExOk (fr : List Row) (o : Bool) (n : Nat) (d : D) : Prop := ∃ e : E, d = e.enc ∧ e.fits (nms fr) o = true ∧ e.deep ≤ n ∧ e.leaves ≤ 2 ^ n
theorem sg_of {v : Int} (h0 : 0 ≤ v) (h1 : v < 7) (m : Mem) : ∃ s : Sg, ixD (.tup [.str "+", .str "-", .str "*", .str "min", .str "max", .str "+", .str "-"]) (.int v) m = some (.str s.str) := by
  obtain ⟨a, _, h⟩ := ix_pick (f := fun s : Sg => D.str s.str) (l := [.add, .sub, .mul, .min, .max, .add, .sub]) h0 (by simpa using h1) m
  exact ⟨a, h⟩
theorem two_pow_pos (n : Nat) : 1 ≤ 2 ^ n := Nat.one_le_two_pow
theorem leaf_ok {fr : List Row} (hf : FrN fr) (o : Bool) (ds : List Int) (r : Mem) (k : Int) (hk : 0 ≤ k) {a2 a4 a5 a6 a7 : Option D} :
    okS ((sSeq (sSet 5 (fLc [6] (.name 6) (iVar 1) tYes (fIx (fVar 6) (fCon (.int 0))))) (sSeq (sIf (fTr (fCmp .Eq (fApp c__law_next (fCons (fVar 0) (fCons (fCon (.int 3)) fNil))) (fCon (.int 0)))) (sRet (fTup (fCons (fCon (.str "number")) (fCons (fIx (fTup (fCons (fCon (.int 0)) (fCons (fCon (.int 1)) (fCons (fCon (.int 2)) (fCons (fCon (.int 3)) (fCons (fNeg (fCon (.int 1))) fNil)))))) (fApp c__law_next (fCons (fVar 0) (fCons (fCon (.int 5)) fNil)))) fNil)))) sNx) (sRet (fTup (fCons (fIf (tAnd (fTr (fVar 3)) (fTr (fCmp .Eq (fApp c__law_next (fCons (fVar 0) (fCons (fCon (.int 3)) fNil))) (fCon (.int 0))))) (fCon (.str "old")) (fCon (.str "name"))) (fCons (fApp c__law_pick (fCons (fVar 0) (fCons (fVar 5) fNil))) fNil))))))
      [some (.ref 0), some (enc fr), a2, some (.bl o), a4, a5, a6, a7] (wc ds k :: r)) fun f _ m => ∃ d, f = .rt d ∧ Drw ds r (ExOk fr o 0) d m := by
  have hl : fr.length ≤ 1000 := by have := hf.1.len; omega
  have e1 := lnames_lc fr hl (e := [some (.ref 0), some (enc fr), a2, some (.bl o), a4, a5, a6, a7]) (m := wc ds k :: r) (i := 1) (j := 6) (by simp) (by simp)
  obtain ⟨d1, m1, e2, v1, rfl, a1, b1, rfl⟩ := next_ok ds k 3 hk (by omega) r
  simp only [sSeq_ap, sSet_ap, e1, sBd_ok, sThen_nx, List.set_cons_succ, List.set_cons_zero]
  by_cases hv : v1 = 0
  · subst hv
    obtain ⟨d2, m2, e3, v2, rfl, a2, b2, rfl⟩ := next_ok ds (k + 1) 5 (by omega) (by omega) r
    obtain ⟨i, hi, q⟩ := ix_pick (f := D.int) (l := [0, 1, 2, 3, -1]) a2 (by simpa using b2) (wc ds (k + 1 + 1) :: r)
    simp only [List.map_cons, List.map_nil] at q
    simp [e2, e3, q]
    refine okS.mk ⟨_, rfl, ⟨.num i, rfl, ?_, Nat.le_refl _, Nat.le_refl _⟩, _, by omega, rfl⟩
    simp only [List.mem_cons, List.not_mem_nil, or_false] at hi
    simp only [E.fits, decide_eq_true_eq]
    omega
  · have hne : (nms fr).map D.str ≠ [] := by
      have := hf.2.1
      simpa [nms] using this
    have fin : ∀ (k' : Int), 0 ≤ k' → ∀ (q : Bool), (q = true → o = true) → okR (c__law_pick [.ref 0, .lst ((nms fr).map .str)] (wc ds k' :: r)) fun d m => ∃ x, d = .str x ∧ (nms fr).any (· == x) = true ∧ m = wc ds (k' + 1) :: r := by
      intro k' hk' q hq
      refine (pick_ok ds k' hk' _ hne r).imp ?_
      rintro d m ⟨h1, rfl⟩
      obtain ⟨x, hx, rfl⟩ := List.mem_map.mp h1
      exact ⟨x, rfl, List.any_eq_true.mpr ⟨x, hx, by simp⟩, rfl⟩
    simp [e2, hv]
    cases o with
    | false =>
      obtain ⟨d2, m2, e3, x, rfl, hx, rfl⟩ := fin (k + 1) (by omega) false (by simp)
      simp [e3]
      exact okS.mk ⟨_, rfl, ⟨.nam x, rfl, by simp only [E.fits, hx], Nat.le_refl _, Nat.le_refl _⟩, _, by omega, rfl⟩
    | true =>
      obtain ⟨d2, m2, e3, v2, rfl, a2, b2, rfl⟩ := next_ok ds (k + 1) 3 (by omega) (by omega) r
      obtain ⟨d3, m3, e4, x, rfl, hx, rfl⟩ := fin (k + 1 + 1) (by omega) false (by simp)
      by_cases hw : v2 = 0
      · simp [e3, e4, hw]
        exact okS.mk ⟨_, rfl, ⟨.old x, rfl, by simp only [E.fits, hx, Bool.true_and], Nat.le_refl _, Nat.le_refl _⟩, _, by omega, rfl⟩
      · simp [e3, e4, hw]
        exact okS.mk ⟨_, rfl, ⟨.nam x, rfl, by simp only [E.fits, hx], Nat.le_refl _, Nat.le_refl _⟩, _, by omega, rfl⟩
theorem ExOk.mono {fr : List Row} {o : Bool} {a b : Nat} {d : D} (h : a ≤ b) (q : ExOk fr o a d) : ExOk fr o b d := by
  obtain ⟨e, h1, h2, h3, h4⟩ := q
  exact ⟨e, h1, h2, by omega, Nat.le_trans h4 (Nat.pow_le_pow_right (by omega) h)⟩
theorem expr_drw {n p x : Nat → FF} (W : Drs n p x) {fr : List Row} (hf : FrN fr) (o : Bool) (ds : List Int) (r : Mem) : ∀ (dp : Nat) (K : Nat), dp + 4 ≤ K → ∀ k : Int, 0 ≤ k →
    okR (x K [.ref 0, enc fr, .int dp, .bl o] (wc ds k :: r)) (Drw ds r (ExOk fr o dp)) := by
  intro dp
  induction dp with
  | zero =>
    intro K hK k hk
    obtain ⟨K, rfl⟩ : ∃ K', K = K' + 3 := ⟨K - 3, by omega⟩
    rw [W.hx, W.hn, W.hp]
    refine okF rfl ?_
    unfold b__law_expr
    obtain ⟨d1, m1, e1, v1, rfl, a1, b1, rfl⟩ := next_ok ds k 5 hk (by omega) r
    rw [sSeq_ap, sSet_ap]
    simp only [List.map_cons, List.map_nil, List.length_cons, List.length_nil, List.replicate, List.cons_append, List.nil_append, fApp_ap, fCons_ap, fNil_ap, fVar_ap, fCon_ap, atV_0, ofO_some, bnd_ok, e1, sBd_ok, List.set_cons_succ, List.set_cons_zero, sThen_nx]
    rw [sSeq_ap, sIf_ap]
    refine okS.thn ?_
    simp only [tOr_ap, fTr_ap, fCmp_ap, fVar_ap, fCon_ap, atV_s, atV_0, ofO_some, bnd_ok, cmp_eqI, ofB_some, trD_blS, Int.ofNat_zero, beq_self_eq_true, if_true, sBd_ok]
    refine (leaf_ok hf o ds r (k + 1) (by omega)).imp ?_
    rintro f e m ⟨d, rfl, h⟩
    exact okR.mk h
  | succ dp ih =>
    intro K hK k hk
    obtain ⟨K, rfl⟩ : ∃ K', K = K' + 3 := ⟨K - 3, by omega⟩
    rw [W.hx, W.hn, W.hp]
    refine okF rfl ?_
    unfold b__law_expr
    obtain ⟨d1, m1, e1, v1, rfl, a1, b1, rfl⟩ := next_ok ds k 5 hk (by omega) r
    rw [sSeq_ap, sSet_ap]
    simp only [List.map_cons, List.map_nil, List.length_cons, List.length_nil, List.replicate, List.cons_append, List.nil_append, fApp_ap, fCons_ap, fNil_ap, fVar_ap, fCon_ap, atV_0, ofO_some, bnd_ok, e1, sBd_ok, List.set_cons_succ, List.set_cons_zero, sThen_nx]
    rw [sSeq_ap, sIf_ap]
    have hz : ((((dp + 1 : Nat) : Int)) == 0) = false := by
      rw [beq_eq_false_iff_ne]
      omega
    refine okS.thn ?_
    simp only [tOr_ap, fTr_ap, fCmp_ap, fVar_ap, fCon_ap, atV_s, atV_0, ofO_some, bnd_ok, cmp_eqI, ofB_some, trD_blS, hz, Bool.false_eq_true, if_false, cmp_lt, sBd_ok]
    by_cases hv : v1 < 2
    · simp only [hv, decide_true, if_true]
      refine (leaf_ok hf o ds r (k + 1) (by omega)).imp ?_
      rintro f e m ⟨d, rfl, h1, h2⟩
      exact okR.mk ⟨h1.mono (Nat.zero_le _), h2⟩
    · simp only [hv, decide_false, Bool.false_eq_true, if_false]
      refine okS.mk ?_
      show okS _ _
      obtain ⟨d2, m2, e2, v2, rfl, a2, b2, rfl⟩ := next_ok ds (k + 1) 7 (by omega) (by omega) r
      obtain ⟨s, es⟩ := sg_of a2 b2 (wc ds (k + 1 + 1) :: r)
      obtain ⟨d3, m3, e3, ⟨x1, rfl, p1, p2, p3⟩, k3, h3, rfl⟩ := ih (K + 2) (by omega) (k + 1 + 1) (by omega)
      obtain ⟨d4, m4, e4, ⟨x2, rfl, q1, q2, q3⟩, k4, h4, rfl⟩ := ih (K + 2) (by omega) k3 h3
      have hd : ((dp + 1 : Nat) : Int) - 1 = (dp : Int) := by omega
      simp [e2, es, hd, e3, e4]
      refine okS.mk (okR.mk ⟨⟨.two s x1 x2, rfl, by simp only [E.fits, p1, q1, Bool.and_self], by simp only [E.deep]; omega, by simp only [E.leaves, Nat.pow_succ]; omega⟩, _, h4, rfl⟩)
end Com

/-! What is drawn: conditions; forms as data. -/
namespace Com
open PySem Cs
structure Drc (n p x c : Nat → FF) : Prop extends Drs n p x where
  hc : ∀ k, c (k + 1) = runF false 4 5 (b__law_cond (n k) (c k) (x k))
def Cd.leaves : Cd → Nat
  | .tru _ => 1
  | .neg c => c.leaves + 1
  | .both _ a b => a.leaves + b.leaves
  | .cmp _ a b => a.leaves + b.leaves
def CdOk (fr : List Row) (o : Bool) (n : Nat) (d : D) : Prop := ∃ e : Cd, d = e.enc ∧ e.fits (nms fr) o = true ∧ e.deep ≤ n + 2 ∧ e.leaves ≤ 8 * 2 ^ n
theorem cond_rest {n p x c : Nat → FF} (W : Drc n p x c) {fr : List Row} (hf : FrN fr) (o : Bool) (ds : List Int) (r : Mem) (dp : Nat) : ∀ (K : Nat) (v1 : Int) (k : Int), 0 ≤ k → okS ((sSeq (sIf (tAnd (fTr (fCmp .Eq (fVar 4) (fCon (.int 3)))) (fTr (fCmp .Eq (fApp c__law_next (fCons (fVar 0) (fCons (fCon (.int 3)) fNil))) (fCon (.int 0))))) (sRet (fTup (fCons (fCon (.str "truth")) (fCons (fCmp .Gt (fApp c__law_next (fCons (fVar 0) (fCons (fCon (.int 3)) fNil))) (fCon (.int 0))) fNil)))) sNx) (sRet (fTup (fCons (fIx (fTup (fCons (fCon (.str "same")) (fCons (fCon (.str "below")) fNil))) (fApp c__law_next (fCons (fVar 0) (fCons (fCon (.int 2)) fNil)))) (fCons (fApp (x (K + 5)) (fCons (fVar 0) (fCons (fVar 1) (fCons (fCon (.int 1)) (fCons (fVar 3) fNil))))) (fCons (fApp (x (K + 5)) (fCons (fVar 0) (fCons (fVar 1) (fCons (fCon (.int 1)) (fCons (fVar 3) fNil))))) fNil))))))
      [some (.ref 0), some (enc fr), some (.int dp), some (.bl o), some (.int v1)] (wc ds k :: r)) fun f _ m => ∃ d, f = .rt d ∧ Drw ds r (CdOk fr o 0) d m := by
    intro K v1 k hk
    have cmpc : ∀ k : Int, 0 ≤ k → okS ((sRet (fTup (fCons (fIx (fTup (fCons (fCon (.str "same")) (fCons (fCon (.str "below")) fNil))) (fApp c__law_next (fCons (fVar 0) (fCons (fCon (.int 2)) fNil)))) (fCons (fApp (x (K + 5)) (fCons (fVar 0) (fCons (fVar 1) (fCons (fCon (.int 1)) (fCons (fVar 3) fNil))))) (fCons (fApp (x (K + 5)) (fCons (fVar 0) (fCons (fVar 1) (fCons (fCon (.int 1)) (fCons (fVar 3) fNil))))) fNil)))))
      [some (.ref 0), some (enc fr), some (.int dp), some (.bl o), some (.int v1)] (wc ds k :: r)) fun f _ m => ∃ d, f = .rt d ∧ Drw ds r (CdOk fr o 0) d m := by
      intro k hk
      obtain ⟨d2, m2, e2, v2, rfl, a2, b2, rfl⟩ := next_ok ds k 2 hk (by omega) r
      obtain ⟨s, _, es⟩ := ix_pick (f := fun w : Bool => D.str (wCmp w)) (l := [true, false]) a2 (by simpa using b2) (wc ds (k + 1) :: r)
      simp only [List.map_cons, List.map_nil, wCmp, if_true, Bool.false_eq_true, if_false] at es
      obtain ⟨d3, m3, e3, ⟨x1, rfl, p1, p2, p3⟩, k3, h3, rfl⟩ := expr_drw W.toDrs hf o ds r 1 (K + 5) (by omega) (k + 1) (by omega)
      obtain ⟨d4, m4, e4, ⟨x2, rfl, q1, q2, q3⟩, k4, h4, rfl⟩ := expr_drw W.toDrs hf o ds r 1 (K + 5) (by omega) k3 h3
      simp only [Int.natCast_one, Int.ofNat_one] at e3 e4
      simp [e2, es, e3, e4]
      exact okS.mk ⟨_, rfl, ⟨.cmp s x1 x2, by simp [Cd.enc, wCmp], by simp only [Cd.fits, p1, q1, Bool.true_and, Bool.and_eq_true, decide_eq_true_eq]; omega, by simp only [Cd.deep]; omega, by simp only [Cd.leaves]; omega⟩, _, h4, rfl⟩
    rw [sSeq_ap]
    obtain ⟨d1, m1, e1, v2, rfl, a1, b1, rfl⟩ := next_ok ds k 3 hk (by omega) r
    by_cases h3 : v1 = 3
    · by_cases h0 : v2 = 0
      · obtain ⟨d2, m2, e2, v3, rfl, a2, b2, rfl⟩ := next_ok ds (k + 1) 3 (by omega) (by omega) r
        simp [h3, e1, h0, e2]
        exact okS.mk ⟨_, rfl, ⟨.tru (decide (0 < v3)), rfl, rfl, by simp only [Cd.deep]; omega, by simp only [Cd.leaves]; omega⟩, _, by omega, rfl⟩
      · refine okS.thn ?_
        simp [h3, e1, h0]
        refine okS.mk ?_
        subst h3
        exact cmpc _ (by omega)
    · refine okS.thn ?_
      simp [h3]
      refine okS.mk ?_
      exact cmpc _ hk
theorem CdOk.mono {fr : List Row} {o : Bool} {a b : Nat} {d : D} (h : a ≤ b) (q : CdOk fr o a d) : CdOk fr o b d := by
  obtain ⟨e, h1, h2, h3, h4⟩ := q
  exact ⟨e, h1, h2, by omega, Nat.le_trans h4 (Nat.mul_le_mul_left 8 (Nat.pow_le_pow_right (by omega) h))⟩
theorem cond_drw {n p x c : Nat → FF} (W : Drc n p x c) {fr : List Row} (hf : FrN fr) (o : Bool) (ds : List Int) (r : Mem) : ∀ (dp : Nat) (K : Nat), dp + 6 ≤ K → ∀ k : Int, 0 ≤ k →
    okR (c K [.ref 0, enc fr, .int dp, .bl o] (wc ds k :: r)) (Drw ds r (CdOk fr o dp)) := by
  intro dp
  induction dp with
  | zero =>
    intro K hK k hk
    obtain ⟨K, rfl⟩ : ∃ K', K = K' + 6 := ⟨K - 6, by omega⟩
    rw [W.hc, W.hn]
    refine okF rfl ?_
    unfold b__law_cond
    obtain ⟨d1, m1, e1, v1, rfl, a1, b1, rfl⟩ := next_ok ds k 7 hk (by omega) r
    simp only [List.map_cons, List.map_nil, List.length_cons, List.length_nil, List.replicate, List.cons_append, List.nil_append]
    rw [sSeq_ap, sSet_ap]
    simp only [fApp_ap, fCons_ap, fNil_ap, fVar_ap, fCon_ap, atV_0, ofO_some, bnd_ok, e1, sBd_ok, List.set_cons_succ, List.set_cons_zero, sThen_nx]
    rw [sSeq_ap, sIf_ap]
    simp only [tAnd_ap, fTr_ap, fCmp_ap, fVar_ap, fCon_ap, atV_s, atV_0, ofO_some, bnd_ok, cmp_gt, ofB_some, trD_blS, Int.ofNat_zero, Int.lt_irrefl, decide_false, Bool.false_eq_true, if_false, sBd_ok, sNx_ap, sThen_nx]
    rw [sSeq_ap, sIf_ap]
    simp only [tAnd_ap, fTr_ap, fCmp_ap, fVar_ap, fCon_ap, atV_s, atV_0, ofO_some, bnd_ok, cmp_gt, ofB_some, trD_blS, Int.ofNat_zero, Int.lt_irrefl, decide_false, Bool.false_eq_true, if_false, sBd_ok, sNx_ap, sThen_nx]
    refine (cond_rest W hf o ds r 0 K v1 (k + 1) (by omega)).imp ?_
    rintro f e m ⟨d, rfl, h⟩
    exact okR.mk h
  | succ dp ih =>
    intro K hK k hk
    obtain ⟨K, rfl⟩ : ∃ K', K = K' + 6 := ⟨K - 6, by omega⟩
    rw [W.hc, W.hn]
    refine okF rfl ?_
    unfold b__law_cond
    have hd : ((dp + 1 : Nat) : Int) - 1 = (dp : Int) := by omega
    have hp : (0 : Int) < ((dp + 1 : Nat) : Int) := by omega
    obtain ⟨d1, m1, e1, v1, rfl, a1, b1, rfl⟩ := next_ok ds k 7 hk (by omega) r
    obtain ⟨d3, m3, e3, ⟨x1, rfl, p1, p2, p3⟩, k3, h3, rfl⟩ := ih (K + 5) (by omega) (k + 1) (by omega)
    obtain ⟨d4, m4, e4, ⟨x2, rfl, q1, q2, q3⟩, k4, h4, rfl⟩ := ih (K + 5) (by omega) k3 h3
    simp only [List.map_cons, List.map_nil, List.length_cons, List.length_nil, List.replicate, List.cons_append, List.nil_append]
    rw [sSeq_ap, sSet_ap]
    simp only [fApp_ap, fCons_ap, fNil_ap, fVar_ap, fCon_ap, atV_0, ofO_some, bnd_ok, e1, sBd_ok, List.set_cons_succ, List.set_cons_zero, sThen_nx]
    rw [sSeq_ap, sIf_ap]
    simp only [tAnd_ap, fTr_ap, fCmp_ap, fVar_ap, fCon_ap, atV_s, atV_0, ofO_some, bnd_ok, cmp_gt, cmp_eqI, hp, decide_true, if_true, ofB_some, trD_blS, sBd_ok]
    have hw : 1 ≤ 2 ^ dp := Nat.one_le_two_pow
    by_cases h0 : v1 = 0
    · simp only [h0, beq_self_eq_true, if_true]
      simp only [sRet_ap, fTup_ap, fCons_ap, fApp_ap, fBin_ap, fCon_ap, fNil_ap, fVar_ap, atV_s, atV_0, ofO_some, bnd_ok, sub_int, hd, e3, List.length_cons, List.length_nil, Nat.zero_add, Nat.reduceAdd, sl_2, if_true, sBd_ok, sThen_rt]
      refine okS.mk (okR.mk ⟨⟨.neg x1, rfl, p1, by simp only [Cd.deep]; omega, by simp only [Cd.leaves, Nat.pow_succ]; omega⟩, _, h3, rfl⟩)
    · have h0' : (v1 == 0) = false := by rw [beq_eq_false_iff_ne]; exact h0
      simp only [h0', Bool.false_eq_true, if_false, sNx_ap, sThen_nx]
      rw [sSeq_ap, sIf_ap]
      simp only [tAnd_ap, fTr_ap, fCmp_ap, fVar_ap, fCon_ap, atV_s, atV_0, ofO_some, bnd_ok, cmp_gt, cmp_lt, hp, decide_true, if_true, ofB_some, trD_blS, sBd_ok]
      by_cases h3' : v1 < 3
      · obtain ⟨s, _, es⟩ := ix_pick (f := fun w : Bool => D.str (wBoth w)) (l := [true, false]) (v := v1 - 1) (by omega) (by simp; omega) (wc ds (k + 1) :: r)
        simp only [List.map_cons, List.map_nil, wBoth, if_true, Bool.false_eq_true, if_false] at es
        simp [h3', es, hd, e3, e4]
        refine okS.mk (okR.mk ⟨⟨.both s x1 x2, by simp [Cd.enc, wBoth], by simp only [Cd.fits, p1, q1, Bool.and_self], by simp only [Cd.deep]; omega, by simp only [Cd.leaves, Nat.pow_succ]; omega⟩, _, h4, rfl⟩)
      · simp only [h3', decide_false, Bool.false_eq_true, if_false, sNx_ap, sThen_nx]
        refine (cond_rest W hf o ds r (dp + 1) K v1 (k + 1) (by omega)).imp ?_
        rintro f e m ⟨d, rfl, h1, h2⟩
        exact okR.mk ⟨h1.mono (Nat.zero_le _), h2⟩
end Com

/-! Forms as data: plain, their depth and size, when equal. -/
namespace Com
open PySem Cs
theorem E.plain_enc : ∀ e : E, Cs.plain e.enc = true
  | .num _ => rfl
  | .nam _ => rfl
  | .old _ => rfl
  | .two s a b => by simp [E.enc, Cs.plain, plainL, a.plain_enc, b.plain_enc]
theorem E.dep_enc : ∀ e : E, dep e.enc = e.deep + 1
  | .num _ => rfl
  | .nam _ => rfl
  | .old _ => rfl
  | .two s a b => by simp only [E.enc, dep, depL, a.dep_enc, b.dep_enc, E.deep]; omega
theorem E.sz_enc : ∀ e : E, szD e.enc + 3 ≤ 6 * e.leaves
  | .num _ => by simp [E.enc, szD, szL, E.leaves]
  | .nam _ => by simp [E.enc, szD, szL, E.leaves]
  | .old _ => by simp [E.enc, szD, szL, E.leaves]
  | .two s a b => by
    have := a.sz_enc
    have := b.sz_enc
    simp only [E.enc, szD, szL, E.leaves]
    omega
theorem Sg.str_inj : ∀ {a b : Sg}, a.str = b.str → a = b := by
  intro a b
  cases a <;> cases b <;> simp [Sg.str]
theorem Sg.str_beq (a b : Sg) : (a.str == b.str) = decide (a = b) := by
  by_cases h : a = b
  · simp [h]
  · have : a.str ≠ b.str := fun q => h (Sg.str_inj q)
    simp [h, this]
theorem dec_and {p q r : Prop} [Decidable p] [Decidable q] [Decidable r] (h : r ↔ p ∧ q) : (decide p && decide q) = decide r := by
  by_cases hp : p <;> by_cases hq : q <;> simp [hp, hq, h]
theorem E.eq_enc : ∀ a b : E, eqD a.enc b.enc = decide (a = b)
  | .num i, b => by
    cases b with
    | num j => by_cases h : i = j <;> simp [E.enc, eqD, eqL, h]
    | _ => simp [E.enc, eqD, eqL]
  | .nam i, b => by
    cases b with
    | nam j => by_cases h : i = j <;> simp [E.enc, eqD, eqL, h]
    | _ => simp [E.enc, eqD, eqL]
  | .old i, b => by
    cases b with
    | old j => by_cases h : i = j <;> simp [E.enc, eqD, eqL, h]
    | _ => simp [E.enc, eqD, eqL]
  | .two s x y, b => by
    cases b with
    | two t u v =>
      have h1 := E.eq_enc x u
      have h2 := E.eq_enc y v
      simp only [E.enc, eqD, eqL, beq_self_eq_true, Bool.true_and, Bool.and_true, h1, h2, Sg.str_beq]
      by_cases g1 : s = t <;> by_cases g2 : x = u <;> by_cases g3 : y = v <;> simp [g1, g2, g3]
    | _ => simp [E.enc, eqD, eqL]
theorem cmp_eqE {m : Mem} {a b : E} (h : a.deep ≤ 140) : cmpD .Eq a.enc b.enc m = some (decide (a = b)) := by
  rw [cmp_eqD a.plain_enc b.plain_enc (by rw [a.dep_enc, b.dep_enc]; omega), E.eq_enc]
theorem cmp_eqE' {m : Mem} {a b : E} (h : b.deep ≤ 140) : cmpD .Eq a.enc b.enc m = some (decide (a = b)) := by
  rw [cmp_eqD a.plain_enc b.plain_enc (by rw [a.dep_enc, b.dep_enc]; omega), E.eq_enc]
theorem Cd.plain_enc : ∀ e : Cd, Cs.plain e.enc = true
  | .tru _ => rfl
  | .neg c => by simp [Cd.enc, Cs.plain, plainL, c.plain_enc]
  | .both _ a b => by simp [Cd.enc, Cs.plain, plainL, a.plain_enc, b.plain_enc]
  | .cmp _ a b => by simp [Cd.enc, Cs.plain, plainL, a.plain_enc, b.plain_enc]
theorem Cd.dep_enc : ∀ e : Cd, dep e.enc ≤ e.deep + 1
  | .tru _ => by simp [Cd.enc, dep, depL]
  | .neg c => by have := c.dep_enc; simp only [Cd.enc, dep, depL, Cd.deep]; omega
  | .both _ a b => by have := a.dep_enc; have := b.dep_enc; simp only [Cd.enc, dep, depL, Cd.deep]; omega
  | .cmp _ a b => by have := a.dep_enc; have := b.dep_enc; simp only [Cd.enc, dep, depL, Cd.deep]; omega
theorem Cd.sz_enc : ∀ e : Cd, szD e.enc + 2 ≤ 6 * e.leaves
  | .tru _ => by simp [Cd.enc, szD, szL, Cd.leaves]
  | .neg c => by have := c.sz_enc; simp only [Cd.enc, szD, szL, Cd.leaves]; omega
  | .both _ a b => by have := a.sz_enc; have := b.sz_enc; simp only [Cd.enc, szD, szL, Cd.leaves]; omega
  | .cmp _ a b => by have := a.sz_enc; have := b.sz_enc; simp only [Cd.enc, szD, szL, Cd.leaves]; omega
theorem wBoth_beq (a b : Bool) : (wBoth a == wBoth b) = (a == b) := by cases a <;> cases b <;> simp [wBoth]
theorem wCmp_beq (a b : Bool) : (wCmp a == wCmp b) = (a == b) := by cases a <;> cases b <;> simp [wCmp]
theorem eqT_hd (a b : Str) (x y : List D) : eqD (.tup (.str a :: x)) (.tup (.str b :: y)) = ((a == b) && eqL x y) := by simp only [eqD, eqL]
theorem eqL_hd (a b : D) (x y : List D) : eqL (a :: x) (b :: y) = (eqD a b && eqL x y) := by simp only [eqL]
theorem eqB_hd (a b : Bool) : eqD (.bl a) (.bl b) = (a == b) := by simp only [eqD]
theorem eqL_nil : eqL [] [] = true := by simp only [eqL]
theorem Cd.eq_enc : ∀ a b : Cd, eqD a.enc b.enc = decide (a = b)
  | .tru i, .tru j => by simp only [Cd.enc, eqT_hd, eqL_hd, eqB_hd, eqL_nil]; cases i <;> cases j <;> simp
  | .tru i, .neg _ => by simp [Cd.enc, eqT_hd]
  | .tru i, .both w _ _ => by cases w <;> simp [Cd.enc, eqT_hd, wBoth]
  | .tru i, .cmp w _ _ => by cases w <;> simp [Cd.enc, eqT_hd, wCmp]
  | .neg c, .tru _ => by simp [Cd.enc, eqT_hd]
  | .neg c, .neg d => by
    have := Cd.eq_enc c d
    simp [Cd.enc, eqT_hd, eqL_hd, eqL_nil, this]
  | .neg c, .both w _ _ => by cases w <;> simp [Cd.enc, eqT_hd, wBoth]
  | .neg c, .cmp w _ _ => by cases w <;> simp [Cd.enc, eqT_hd, wCmp]
  | .both w x y, .tru _ => by cases w <;> simp [Cd.enc, eqT_hd, wBoth]
  | .both w x y, .neg _ => by cases w <;> simp [Cd.enc, eqT_hd, wBoth]
  | .both w x y, .both t u v => by
    have h1 := Cd.eq_enc x u
    have h2 := Cd.eq_enc y v
    simp only [Cd.enc, eqT_hd, eqL_hd, eqL_nil, Bool.and_true, h1, h2, wBoth_beq]
    by_cases g2 : x = u <;> by_cases g3 : y = v <;> cases w <;> cases t <;> simp [g2, g3]
  | .both w x y, .cmp t _ _ => by cases w <;> cases t <;> simp [Cd.enc, eqT_hd, wBoth, wCmp]
  | .cmp w x y, .tru _ => by cases w <;> simp [Cd.enc, eqT_hd, wCmp]
  | .cmp w x y, .neg _ => by cases w <;> simp [Cd.enc, eqT_hd, wCmp]
  | .cmp w x y, .both t _ _ => by cases w <;> cases t <;> simp [Cd.enc, eqT_hd, wBoth, wCmp]
  | .cmp w x y, .cmp t u v => by
    have h1 := E.eq_enc x u
    have h2 := E.eq_enc y v
    simp only [Cd.enc, eqT_hd, eqL_hd, eqL_nil, Bool.and_true, h1, h2, wCmp_beq]
    by_cases g2 : x = u <;> by_cases g3 : y = v <;> cases w <;> cases t <;> simp [g2, g3]
theorem cmp_eqC {m : Mem} {a b : Cd} (h : a.deep ≤ 140) : cmpD .Eq a.enc b.enc m = some (decide (a = b)) := by
  have := a.dep_enc
  rw [cmp_eqD a.plain_enc b.plain_enc (by omega), Cd.eq_enc]
end Com

/-! Names, expressions and conditions told from other values: the defs' texts. -/
namespace Com
open PySem Cs
/-! ### words differ as texts do -/
theorem map_toNat_inj : ∀ {a b : List Char}, a.map Char.toNat = b.map Char.toNat → a = b
  | [], [], _ => rfl
  | [], _ :: _, h => by simp at h
  | _ :: _, [], h => by simp at h
  | c :: a, d :: b, h => by
    simp only [List.map_cons, List.cons.injEq] at h
    rw [map_toNat_inj h.2, Char.toNat_inj.mp h.1]
@[simp] theorem ofS_inj {a b : String} : (Str.ofString a = Str.ofString b) = (a = b) := by
  apply propext
  constructor
  · intro h
    rw [Str.ofString_eq_toList, Str.ofString_eq_toList] at h
    simp only [Str.mk.injEq] at h
    have h := congrArg Array.toList h
    simp only at h
    exact String.toList_inj.mp (map_toNat_inj h)
  · rintro rfl; rfl
@[simp] theorem ofS_beq {a b : String} : (Str.ofString a == Str.ofString b) = (a == b) := by
  by_cases h : a = b
  · subst h; simp
  · have : ¬ Str.ofString a = Str.ofString b := by rw [ofS_inj]; exact h
    rw [beq_eq_false_iff_ne.mpr h, beq_eq_false_iff_ne.mpr this]
def b_is_integer : FS :=
  (sRet (fAndV (fIsi .int (fVar 0)) (fNotV (fIsi .bool (fVar 0)))))
def b_is_name : FS :=
  (sSeq (sIf (tOr (tNot (fTr (fIsi .str (fVar 0)))) (tOr (tNot (fTr (fCmpN (fCon (.int 1)) [(.LtE, (fBlt .len (fCons (fVar 0) fNil))), (.LtE, (fCon (.int 12)))]))) (fTr (fCmp .NotIn (fIx (fVar 0) (fCon (.int 0))) (fCon (.str "abcdefghijklmnopqrstuvwxyz")))))) (sRet (fCon (.bl false))) sNx) (sRet (fBlt .all (fCons (fLc [1] (.name 1) (iVar 0) tYes (fCmp .In (fVar 1) (fBin .Add (fCon (.str "abcdefghijklmnopqrstuvwxyz")) (fCon (.str "0123456789"))))) fNil))))
def b_is_word : FS :=
  (sRet (fAndV (fIsi .str (fVar 0)) (fCmp .In (fVar 0) (fVar 1))))
def b_is_value (g_is_integer g_names_of g_is_name g_is_word g_is_value : FF) : FS :=
  (sSeq (sIf (tOr (tNot (fTr (fIsi .tuple (fVar 1)))) (tOr (fTr (fCmp .NotIn (fBlt .len (fCons (fVar 1) fNil)) (fTup (fCons (fCon (.int 2)) (fCons (fCon (.int 4)) fNil))))) (tNot (fTr (fIsi .str (fIx (fVar 1) (fCon (.int 0)))))))) (sRet (fCon (.bl false))) sNx) (sSeq (sIf (fTr (fCmp .Eq (fIx (fVar 1) (fCon (.int 0))) (fCon (.str "number")))) (sRet (fAndV (fCmp .Eq (fBlt .len (fCons (fVar 1) fNil)) (fCon (.int 2))) (fAndV (fApp g_is_integer (fCons (fIx (fVar 1) (fCon (.int 1))) fNil)) (fCmpN (fNeg (fCon (.int 999))) [(.LtE, (fIx (fVar 1) (fCon (.int 1)))), (.LtE, (fCon (.int 999)))])))) sNx) (sSeq (sIf (fTr (fCmp .In (fIx (fVar 1) (fCon (.int 0))) (fTup (fCons (fCon (.str "name")) (fCons (fCon (.str "old")) fNil))))) (sSeq (sSet 3 (fAndV (fCmp .Eq (fBlt .len (fCons (fVar 1) fNil)) (fCon (.int 2))) (fAndV (fApp g_is_name (fCons (fIx (fVar 1) (fCon (.int 1))) fNil)) (fCmp .In (fIx (fVar 1) (fCon (.int 1))) (fApp g_names_of (fCons (fVar 0) fNil)))))) (sRet (fAndV (fVar 3) (fOrV (fVar 2) (fCmp .Eq (fIx (fVar 1) (fCon (.int 0))) (fCon (.str "name"))))))) sNx) (sSeq (sIf (tOr (fTr (fCmp .NotEq (fIx (fVar 1) (fCon (.int 0))) (fCon (.str "two")))) (tOr (fTr (fCmp .NotEq (fBlt .len (fCons (fVar 1) fNil)) (fCon (.int 4)))) (tNot (fTr (fApp g_is_word (fCons (fIx (fVar 1) (fCon (.int 1))) (fCons (fCon (.tup [.str "+", .str "-", .str "*", .str "min", .str "max"])) fNil))))))) (sRet (fCon (.bl false))) sNx) (sRet (fAndV (fApp g_is_value (fCons (fVar 0) (fCons (fIx (fVar 1) (fCon (.int 2))) (fCons (fVar 2) fNil)))) (fApp g_is_value (fCons (fVar 0) (fCons (fIx (fVar 1) (fCon (.int 3))) (fCons (fVar 2) fNil))))))))))
def b_is_truth (g_is_truth g_is_value : FF) : FS :=
  (sSeq (sIf (tOr (tNot (fTr (fIsi .tuple (fVar 1)))) (tOr (fTr (fCmp .NotIn (fBlt .len (fCons (fVar 1) fNil)) (fTup (fCons (fCon (.int 2)) (fCons (fCon (.int 3)) fNil))))) (tNot (fTr (fIsi .str (fIx (fVar 1) (fCon (.int 0)))))))) (sRet (fCon (.bl false))) sNx) (sSeq (sIf (fTr (fCmp .Eq (fIx (fVar 1) (fCon (.int 0))) (fCon (.str "truth")))) (sRet (fAndV (fCmp .Eq (fBlt .len (fCons (fVar 1) fNil)) (fCon (.int 2))) (fOrV (fCmp .Is (fIx (fVar 1) (fCon (.int 1))) (fCon (.bl true))) (fCmp .Is (fIx (fVar 1) (fCon (.int 1))) (fCon (.bl false)))))) sNx) (sSeq (sIf (fTr (fCmp .Eq (fIx (fVar 1) (fCon (.int 0))) (fCon (.str "not")))) (sRet (fAndV (fCmp .Eq (fBlt .len (fCons (fVar 1) fNil)) (fCon (.int 2))) (fApp g_is_truth (fCons (fVar 0) (fCons (fIx (fVar 1) (fCon (.int 1))) (fCons (fVar 2) fNil)))))) sNx) (sSeq (sIf (fTr (fCmp .NotEq (fBlt .len (fCons (fVar 1) fNil)) (fCon (.int 3)))) (sRet (fCon (.bl false))) sNx) (sSeq (sIf (fTr (fCmp .In (fIx (fVar 1) (fCon (.int 0))) (fTup (fCons (fCon (.str "same")) (fCons (fCon (.str "below")) fNil))))) (sRet (fAndV (fApp g_is_value (fCons (fVar 0) (fCons (fIx (fVar 1) (fCon (.int 1))) (fCons (fVar 2) fNil)))) (fApp g_is_value (fCons (fVar 0) (fCons (fIx (fVar 1) (fCon (.int 2))) (fCons (fVar 2) fNil)))))) sNx) (sRet (fAndV (fCmp .In (fIx (fVar 1) (fCon (.int 0))) (fCon (.tup [.str "and", .str "or"]))) (fAndV (fApp g_is_truth (fCons (fVar 0) (fCons (fIx (fVar 1) (fCon (.int 1))) (fCons (fVar 2) fNil)))) (fApp g_is_truth (fCons (fVar 0) (fCons (fIx (fVar 1) (fCon (.int 2))) (fCons (fVar 2) fNil))))))))))))
def c_is_integer : FF := runF false 1 1 (b_is_integer)
def c_is_name : FF := runF false 1 2 (b_is_name)
def c_is_word : FF := runF false 2 2 (b_is_word)
end Com

/-! Names, numbers: what is one. -/
namespace Com
open PySem Cs
def LET : Str := "abcdefghijklmnopqrstuvwxyz"
def FIG : Str := "0123456789"
def isLet (c : Nat) : Bool := decide (c ∈ LET.cps.toList)
def isLF (c : Nat) : Bool := decide (c ∈ (LET ++ FIG).cps.toList)
/-- a name, by its signs -/
def nmL : List Nat → Bool
  | [] => false
  | c :: r => decide (r.length < 12) && isLet c && (c :: r).all isLF
def nmS (z : Str) : Bool := nmL z.cps.toList
theorem str_len (z : Str) : z.length = z.cps.toList.length := by simp [Str.length]
theorem iVar_str {e : Sto} {m : Mem} {i : Nat} {z : Str} (h : atV e i = some (.str z)) : iVar i e m = .ok (z.cps.toList.map fun c => .str ⟨#[c]⟩, []) m := by
  have : e[i]? = some (some (.str z)) := by
    unfold atV at h
    cases q : e[i]? with
    | none => rw [q] at h; cases h
    | some x => rw [q] at h; simp at h; rw [h]
  unfold iVar
  rw [this]
  unfold iVal fVar
  rw [this]
  rfl
theorem in_chr (c : Nat) (z : Str) (m : Mem) : cmpD .In (.str ⟨#[c]⟩) (.str z) m = some (decide (c ∈ z.cps.toList)) := by
  show inD (.str ⟨#[c]⟩) (.str z) = _
  simp [inD]
theorem notin_chr (c : Nat) (z : Str) (m : Mem) : cmpD .NotIn (.str ⟨#[c]⟩) (.str z) m = some (!decide (c ∈ z.cps.toList)) := by
  show (inD (.str ⟨#[c]⟩) (.str z)).map (!·) = _
  simp [inD]
theorem len_str {m : Mem} {z : Str} (h : z.length ≤ 100000) : bltD .len [.str z] m = some (.int z.length) := by
  show lenB (.str z) m = _
  have : z.length ≤ sizeLine := sl_of (by omega)
  simp [lenB, this]
theorem ix_str0 {m : Mem} {z : Str} {c : Nat} {r : List Nat} (h : z.length ≤ 100000) (hz : z.cps.toList = c :: r) : ixD (.str z) (.int 0) m = some (.str ⟨#[c]⟩) := by
  have : z.length ≤ sizeLine := sl_of (by omega)
  simp [ixD, this, hz, L2.atI, L2.ixN]
theorem isname_str (z : Str) (h : z.length ≤ 100000) (m : Mem) : c_is_name [.str z] m = .ok (.bl (nmS z)) m := by
  unfold c_is_name
  rw [runF_ap (np := 1) _ rfl]
  unfold b_is_name
  have hl := str_len z
  have e1 := len_str (m := m) h
  unfold nmS
  cases hz : z.cps.toList with
  | nil =>
    rw [hz] at hl
    simp [e1, hl, nmL]
  | cons c r =>
    rw [hz] at hl
    simp only [List.length_cons] at hl
    have e2 := ix_str0 (m := m) h hz
    have e3 : cmpD .NotIn (.str ⟨#[c]⟩) (.str "abcdefghijklmnopqrstuvwxyz") m = some (!isLet c) := notin_chr c LET m
    have h1 : (1 : Int) ≤ z.length := by omega
    by_cases h12 : r.length < 12
    case neg =>
      have h2 : ¬ (z.length : Int) ≤ 12 := by omega
      simp [e1, h1, h2, nmL, h12]
    have h2 : (z.length : Int) ≤ 12 := by omega
    cases hc : isLet c with
    | false =>
      simp [e1, h1, h2, e2, e3, nmL, h12, hc]
    | true =>
      have hz9 : ("abcdefghijklmnopqrstuvwxyz" : Str).length + ("0123456789" : Str).length ≤ sizeLine := sl_of (by decide)
      have ea : ∀ m, binD .Add (.str "abcdefghijklmnopqrstuvwxyz") (.str "0123456789") m = some (.str (LET ++ FIG)) := fun m => by
        simp only [binD, res_str, hz9, if_true]
        rfl
      have el : ∀ e : Sto, e = [some (.str z), none] → fLc [1] (.name 1) (iVar 0) Cs.tYes (fCmp .In (fVar 1) (fBin .Add (fCon (.str "abcdefghijklmnopqrstuvwxyz")) (fCon (.str "0123456789")))) e m = .ok (.lst ((z.cps.toList.map isLF).map .bl)) m := by
        rintro e rfl
        refine fLc_ap (p := (z.cps.toList.map fun c => .str ⟨#[c]⟩, [])) (iVar_str (by simp)) ?_ (by rw [List.length_map, List.length_map, hz]; exact sl_of (by simp only [List.length_cons]; omega))
        refine (lcGo_map (g := fun d => match d with | .str ⟨⟨[c]⟩⟩ => .bl (isLF c) | _ => .non) same_nil fun k hk => ?_).trans ?_
        · obtain ⟨c', _, rfl⟩ := List.mem_map.mp hk
          refine ⟨_, rfl, rfl, ?_⟩
          have : cmpD .In (.str ⟨#[c']⟩) (.str (LET ++ FIG)) m = some (isLF c') := in_chr c' (LET ++ FIG) m
          simp [ea, this]
        · rw [List.map_map, List.map_map]
          rfl
      rw [hz] at el
      have ha := all_map (m := m) ((c :: r).map isLF)
      simp at ha
      simp [e1, h1, h2, e2, e3, el, ha, nmL, h12, hc]
/-- no cell within -/
def flat0 : D → Bool
  | .ref _ => false
  | .scr _ => false
  | _ => true
theorem isname_not (d : D) (h : flat0 d = true) (hs : ∀ z, d ≠ .str z) (m : Mem) : c_is_name [d] m = .ok (.bl false) m := by
  unfold c_is_name
  rw [runF_ap (np := 1) _ rfl]
  unfold b_is_name
  cases d with
  | str z => exact absurd rfl (hs z)
  | ref n => cases h
  | scr n => cases h
  | _ => simp
def isI : D → Bool
  | .int _ => true
  | _ => false
theorem isint_ok (d : D) (h : flat0 d = true) (m : Mem) : c_is_integer [d] m = .ok (.bl (isI d)) m := by
  unfold c_is_integer
  rw [runF_ap (np := 1) _ rfl]
  unfold b_is_integer
  cases d with
  | ref n => cases h
  | scr n => cases h
  | _ => simp [isI]
theorem isword_not (d : D) (h : flat0 d = true) (hs : ∀ z, d ≠ .str z) (ws : D) (m : Mem) : c_is_word [d, ws] m = .ok (.bl false) m := by
  unfold c_is_word
  rw [runF_ap (np := 2) _ rfl]
  unfold b_is_word
  cases d with
  | str z => exact absurd rfl (hs z)
  | ref n => cases h
  | scr n => cases h
  | _ => simp
theorem isword_str (z : Str) (ws : List Str) (m : Mem) : c_is_word [.str z, .tup (ws.map .str)] m = .ok (.bl (ws.any (· == z))) m := by
  unfold c_is_word
  rw [runF_ap (np := 2) _ rfl]
  unfold b_is_word
  have := in_strs (m := m) z ws
  simp [this]
end Com

/-! Expressions and conditions told from other values. -/
namespace Com
open PySem Cs
mutual
/-- texts, numbers, tuples, lists: no dict, no cell, no long text -/
def fine : D → Bool
  | .str z => decide (z.length ≤ 1000)
  | .tup ds => fineL ds
  | .lst ds => fineL ds
  | .dct _ _ => false
  | .ref _ => false
  | .scr _ => false
  | _ => true
def fineL : List D → Bool
  | [] => true
  | d :: ds => fine d && fineL ds
end
mutual
theorem fine_plain : ∀ d : D, fine d = true → Cs.plain d = true
  | .non, _ => rfl
  | .bl _, _ => rfl
  | .int _, _ => rfl
  | .str _, _ => rfl
  | .tup ds, h => by simp only [fine] at h; simp only [Cs.plain]; exact fine_plainL ds h
  | .lst ds, h => by simp only [fine] at h; simp only [Cs.plain]; exact fine_plainL ds h
  | .dct _ _, h => by simp [fine] at h
  | .ref _, h => by simp [fine] at h
  | .scr _, h => by simp [fine] at h
theorem fine_plainL : ∀ d : List D, fineL d = true → plainL d = true
  | [], _ => rfl
  | d :: ds, h => by
    simp only [fineL, Bool.and_eq_true] at h
    simp only [plainL, fine_plain d h.1, fine_plainL ds h.2, Bool.and_self]
end
theorem fine_flat0 {d : D} (h : fine d = true) : flat0 d = true := by
  cases d with
  | ref _ => simp [fine] at h
  | scr _ => simp [fine] at h
  | _ => rfl
def n999 : D → Bool
  | .int i => decide (-999 ≤ i) && decide (i ≤ 999)
  | _ => false
def isSgS (z : Str) : Bool := (["+", "-", "*", "min", "max"] : List Str).any (· == z)
def inS (ws : List Str) : D → Bool
  | .str z => ws.any (· == z)
  | _ => false
def isTr : D → Bool
  | .bl _ => true
  | _ => false
/-- an expression of these names, with old values or without -/
def isE (ns : List Str) (o : Bool) : D → Bool
  | .tup [.str w, x] => if w = "number" then n999 x else if w = "name" then inS ns x else if w = "old" then inS ns x && o else false
  | .tup [.str w, s, a, b] => decide (w = "two") && inS ["+", "-", "*", "min", "max"] s && isE ns o a && isE ns o b
  | _ => false
def isC (ns : List Str) (o : Bool) : D → Bool
  | .tup [.str w, x] => if w = "truth" then isTr x else if w = "not" then isC ns o x else false
  | .tup [.str w, a, b] => if w = "same" ∨ w = "below" then isE ns o a && isE ns o b else if w = "and" ∨ w = "or" then isC ns o a && isC ns o b else false
  | _ => false
structure Vl (i n m w v : Nat → FF) : Prop where
  hi : ∀ k, i (k + 1) = c_is_integer
  hn : ∀ k, n (k + 1) = c_names_of
  hm : ∀ k, m (k + 1) = c_is_name
  hw : ∀ k, w (k + 1) = c_is_word
  hv : ∀ k, v (k + 1) = runF false 3 4 (b_is_value (i k) (n k) (m k) (w k) (v k))
theorem in_ints2 (i a b : Int) (m : Mem) : cmpD .NotIn (.int i) (.tup [.int a, .int b]) m = some (!(a == i || b == i)) := by
  show (inD (.int i) (.tup [.int a, .int b])).map (!·) = _
  simp [inD, Cs.plain, plainL, dep, depL, eqD]
theorem len_tupN {m : Mem} (ds : List D) : bltD .len [.tup ds] m = some (.int ds.length) := rfl
theorem ix_h (a : D) (r : List D) (m : Mem) : ixD (.tup (a :: r)) (.int 0) m = some a := ix_tup (by omega) rfl
theorem isi_fine {d : D} (t : Ty) (h : fine d = true) (m : Mem) : Cs.res m d = d := by
  cases d with
  | ref _ => simp [fine] at h
  | scr _ => simp [fine] at h
  | _ => rfl
theorem isiS (d : D) (h : fine d = true) : isiD .str d = some (match d with | .str _ => true | _ => false) := by
  cases d with
  | ref _ => simp [fine] at h
  | scr _ => simp [fine] at h
  | _ => rfl
def isS : D → Bool
  | .str _ => true
  | _ => false
/-- the test ahead of all: a tuple of so many, a text first -/
def hd2 (a b : Nat) : D → Bool
  | .tup (.str _ :: r) => decide (r.length + 1 = a) || decide (r.length + 1 = b)
  | _ => false
theorem head_ok (d : D) (h : fine d = true) (a b : Nat) (ha : 1 ≤ a) (hb : 1 ≤ b) {e : Sto} {m : Mem} (he : atV e 1 = some d) :
    (tOr (tNot (fTr (fIsi .tuple (fVar 1)))) (tOr (fTr (fCmp .NotIn (fBlt .len (fCons (fVar 1) fNil)) (fTup (fCons (fCon (.int a)) (fCons (fCon (.int b)) fNil))))) (tNot (fTr (fIsi .str (fIx (fVar 1) (fCon (.int 0)))))))) e m = .ok (!hd2 a b d) m := by
  cases d with
  | tup ds =>
    cases ds with
    | nil =>
      have h1 : (a : Int) ≠ 0 := by omega
      have h2 : (b : Int) ≠ 0 := by omega
      simp [he, in_ints2, hd2, h1, h2]
      intro q
      exact absurd (q (by omega)) (by omega)
    | cons x r =>
      simp only [fine, fineL, Bool.and_eq_true] at h
      have e1 := ix_h x r m
      have e2 := isi_fine .str h.1 m
      have e3 := isiS x h.1
      have e4 : ((a : Int) == ((r.length : Int) + 1)) = decide (r.length + 1 = a) := by
        by_cases q : r.length + 1 = a
        · have : (a : Int) = (r.length : Int) + 1 := by omega
          simp [q, this]
        · have : ¬ (a : Int) = (r.length : Int) + 1 := by omega
          simp [q, this]
      have e5 : ((b : Int) == ((r.length : Int) + 1)) = decide (r.length + 1 = b) := by
        by_cases q : r.length + 1 = b
        · have : (b : Int) = (r.length : Int) + 1 := by omega
          simp [q, this]
        · have : ¬ (b : Int) = (r.length : Int) + 1 := by omega
          simp [q, this]
      have e6 := in_ints2 ((r.length : Int) + 1) a b m
      rw [e4, e5] at e6
      by_cases q1 : r.length + 1 = a <;> by_cases q2 : r.length + 1 = b <;> cases x <;> simp_all [hd2]
  | ref _ => simp [fine] at h
  | scr _ => simp [fine] at h
  | _ => simp [he, hd2]

theorem names_str (fr : List Row) : (nms fr).map D.str = (nms fr).map D.str := rfl
theorem n999_eq (i : Int) : n999 (.int i) = (decide (-999 ≤ i) && decide (i ≤ 999)) := rfl
theorem hd2_no {a b : Nat} {d : D} (h : hd2 a b d = false) (ns : List Str) (o : Bool) (ha : a = 2) (hb : b = 4) : isE ns o d = false := by
  subst ha hb
  unfold isE
  split
  · simp [hd2] at h
  · simp [hd2] at h
  · rfl
theorem isvalue_ok {i n mm w v : Nat → FF} (W : Vl i n mm w v) {fr : List Row} (hf : fr.length ≤ 1000) (hnm : ∀ z ∈ nms fr, nmS z = true) (o : Bool) : ∀ (k : Nat) (d : D), fine d = true → dep d + 2 ≤ k → ∀ m, v k [enc fr, d, .bl o] m = .ok (.bl (isE (nms fr) o d)) m
  | 0, _, _, hk, _ => by omega
  | 1, _, _, hk, _ => by omega
  | k + 2, d, h, hk, m => by
    rw [W.hv, W.hi, W.hn, W.hm, W.hw, runF_ap (np := 3) _ rfl]
    unfold b_is_value
    have e0 := head_ok d h 2 4 (by omega) (by omega) (e := [some (enc fr), some d, some (.bl o), none]) (m := m) (by simp)
    rw [show ((2 : Nat) : Int) = 2 from rfl, show ((4 : Nat) : Int) = 4 from rfl] at e0
    have e1 := names_ok fr hf m
    rw [sSeq_ap, sIf_ap]
    simp only [List.map_cons, List.map_nil, List.length_cons, List.length_nil, List.replicate, List.cons_append, List.nil_append]
    rw [e0]
    cases hh : hd2 2 4 d with
    | false =>
      rw [hd2_no hh _ _ rfl rfl]
      simp
    | true =>
      obtain ⟨w, r, rfl, hr⟩ : ∃ w r, d = .tup (.str w :: r) ∧ (r.length = 1 ∨ r.length = 3) := by
        unfold hd2 at hh
        split at hh
        · rename_i w r
          simp only [Bool.or_eq_true, decide_eq_true_eq] at hh
          exact ⟨w, r, rfl, by omega⟩
        · cases hh
      simp only [fine, fineL, Bool.and_eq_true] at h
      simp only [dep, depL] at hk
      rcases hr with hr | hr
      · match r, hr with
        | [x], _ =>
          simp only [fineL, Bool.and_eq_true] at h
          simp only [depL] at hk
          have i1 := isint_ok x (fine_flat0 h.2.1) m
          by_cases q1 : w = "number"
          · subst q1
            cases x with
            | int i =>
              by_cases g1 : -999 ≤ i
              · by_cases g2 : i ≤ 999 <;> simp [i1, isI, isE, n999, g1, g2]
              · simp [i1, isI, isE, n999, g1]
            | _ => simp [i1, isI, isE, n999]
          have q1' : (w == ("number" : Str)) = false := by rw [beq_eq_false_iff_ne]; exact q1
          by_cases q2 : w = "name" ∨ w = "old"
          · have i2 : cmpD .In (.str w) (.tup [.str "name", .str "old"]) m = some true := by
              rw [in2]
              rcases q2 with rfl | rfl <;> simp
            cases x with
            | str z =>
              have i3 := isname_str z (by have := h.2.1; simp [fine] at this; omega) m
              have i4 := in_strs (m := m) z (nms fr)
              have i5 : (nmS z && (nms fr).any (· == z)) = (nms fr).any (· == z) := by
                cases q : (nms fr).any (· == z) with
                | false => simp
                | true =>
                  obtain ⟨y, hy, e⟩ := List.any_eq_true.mp q
                  rw [← eq_of_beq e, hnm y hy]
                  rfl
              cases hz : nmS z with
              | false =>
                rw [hz] at i5
                simp only [Bool.false_and] at i5
                rcases q2 with rfl | rfl <;> simp [i2, i3, hz, isE, inS, ← i5]
              | true =>
                cases q : (nms fr).any (· == z) with
                | false =>
                  rw [q] at i4
                  rcases q2 with rfl | rfl <;> simp [i2, i3, hz, isE, inS, q, e1, i4]
                | true =>
                  rw [q] at i4
                  rcases q2 with rfl | rfl <;> cases o <;> simp [i2, i3, hz, isE, inS, q, e1, i4]
            | ref _ => simp [fine] at h
            | scr _ => simp [fine] at h
            | _ =>
              have i3 := isname_not _ (fine_flat0 h.2.1) (fun z => by simp) m
              rcases q2 with rfl | rfl <;> simp [i2, i3, isE, inS]
          · have q2' : ¬ w = "name" ∧ ¬ w = "old" := ⟨fun z => q2 (.inl z), fun z => q2 (.inr z)⟩
            have i2 : cmpD .In (.str w) (.tup [.str "name", .str "old"]) m = some false := by
              rw [in2]
              simp only [Option.some.injEq, Bool.or_eq_false_iff, beq_eq_false_iff_ne]
              exact ⟨fun z => q2'.1 z.symm, fun z => q2'.2 z.symm⟩
            by_cases q3 : w = "two"
            · subst q3
              simp [i2, isE]
            · have q3' : (w == ("two" : Str)) = false := by rw [beq_eq_false_iff_ne]; exact q3
              simp [i2, isE, q1, q1', q2', q3']
      · match r, hr with
        | [s, a, b], _ =>
          simp only [fineL, Bool.and_eq_true] at h
          simp only [depL] at hk
          have ra := isvalue_ok W hf hnm o (k + 1) a h.2.2.1 (by omega) m
          have rb := isvalue_ok W hf hnm o (k + 1) b h.2.2.2.1 (by omega) m
          by_cases q1 : w = "number"
          · subst q1; simp [isE]
          have q1' : (w == ("number" : Str)) = false := by rw [beq_eq_false_iff_ne]; exact q1
          by_cases q2 : w = "name" ∨ w = "old"
          · have i2 : cmpD .In (.str w) (.tup [.str "name", .str "old"]) m = some true := by
              rw [in2]
              rcases q2 with rfl | rfl <;> simp
            rcases q2 with rfl | rfl <;> simp [i2, isE]
          have q2' : ¬ w = "name" ∧ ¬ w = "old" := ⟨fun z => q2 (.inl z), fun z => q2 (.inr z)⟩
          have i2 : cmpD .In (.str w) (.tup [.str "name", .str "old"]) m = some false := by
            rw [in2]
            simp only [Option.some.injEq, Bool.or_eq_false_iff, beq_eq_false_iff_ne]
            exact ⟨fun z => q2'.1 z.symm, fun z => q2'.2 z.symm⟩
          by_cases q3 : w = "two"
          · subst q3
            cases s with
            | str z =>
              have i6 : c_is_word [.str z, .tup [.str "+", .str "-", .str "*", .str "min", .str "max"]] m = .ok (.bl (inS ["+", "-", "*", "min", "max"] (.str z))) m := isword_str z ["+", "-", "*", "min", "max"] m
              cases q : inS ["+", "-", "*", "min", "max"] (.str z) <;> cases qa : isE (nms fr) o a <;> simp [i2, i6, isE, q, ra, rb, qa]
            | ref _ => simp [fine] at h
            | scr _ => simp [fine] at h
            | _ =>
              have i6 := isword_not _ (fine_flat0 h.2.1) (fun z => by simp) (.tup [.str "+", .str "-", .str "*", .str "min", .str "max"]) m
              simp [i2, i6, isE, inS]
          · have q3' : (w == ("two" : Str)) = false := by rw [beq_eq_false_iff_ne]; exact q3
            simp [i2, isE, q1', q3, q3']
theorem hd2_noC {a b : Nat} {d : D} (h : hd2 a b d = false) (ns : List Str) (o : Bool) (ha : a = 2) (hb : b = 3) : isC ns o d = false := by
  subst ha hb
  unfold isC
  split
  · simp [hd2] at h
  · simp [hd2] at h
  · rfl
structure Tv (i n m w v t : Nat → FF) : Prop extends Vl i n m w v where
  ht : ∀ k, t (k + 1) = runF false 3 3 (b_is_truth (t k) (v k))
theorem isnt {b : Bool} (d : D) (m : Mem) : cmpD .Is d (.bl b) m = some (match d with | .bl j => j == b | _ => false) := by
  cases d <;> rfl
theorem istruth_ok {i n mm w v t : Nat → FF} (W : Tv i n mm w v t) {fr : List Row} (hf : fr.length ≤ 1000) (hnm : ∀ z ∈ nms fr, nmS z = true) (o : Bool) : ∀ (k : Nat) (d : D), fine d = true → dep d + 3 ≤ k → ∀ m, t k [enc fr, d, .bl o] m = .ok (.bl (isC (nms fr) o d)) m
  | 0, _, _, hk, _ => by omega
  | k + 1, d, h, hk, m => by
    rw [W.ht, runF_ap (np := 3) _ rfl]
    unfold b_is_truth
    have e0 := head_ok d h 2 3 (by omega) (by omega) (e := [some (enc fr), some d, some (.bl o)]) (m := m) (by simp)
    rw [show ((2 : Nat) : Int) = 2 from rfl, show ((3 : Nat) : Int) = 3 from rfl] at e0
    rw [sSeq_ap, sIf_ap]
    simp only [List.map_cons, List.map_nil, List.length_cons, List.length_nil, Nat.zero_add, Nat.reduceAdd, Nat.sub_self, List.replicate, List.cons_append, List.nil_append, List.append_nil]
    rw [e0]
    cases hh : hd2 2 3 d with
    | false =>
      rw [hd2_noC hh _ _ rfl rfl]
      simp
    | true =>
      obtain ⟨w, r, rfl, hr⟩ : ∃ w r, d = .tup (.str w :: r) ∧ (r.length = 1 ∨ r.length = 2) := by
        unfold hd2 at hh
        split at hh
        · rename_i w r
          simp only [Bool.or_eq_true, decide_eq_true_eq] at hh
          exact ⟨w, r, rfl, by omega⟩
        · cases hh
      simp only [fine, fineL, Bool.and_eq_true] at h
      simp only [dep, depL] at hk
      rcases hr with hr | hr
      · match r, hr with
        | [x], _ =>
          simp only [fineL, Bool.and_eq_true] at h
          simp only [depL] at hk
          by_cases q1 : w = "truth"
          · subst q1
            cases x with
            | bl b => cases b <;> simp [isnt, isC, isTr]
            | _ => simp [isnt, isC, isTr]
          have q1' : (w == ("truth" : Str)) = false := by rw [beq_eq_false_iff_ne]; exact q1
          by_cases q2 : w = "not"
          · subst q2
            have ra := istruth_ok W hf hnm o k x h.2.1 (by omega) m
            simp [isC, ra]
          · have q2' : (w == ("not" : Str)) = false := by rw [beq_eq_false_iff_ne]; exact q2
            simp [isC, q1, q2, q1', q2']
      · match r, hr with
        | [a, b], _ =>
          simp only [fineL, Bool.and_eq_true] at h
          simp only [depL] at hk
          have ra := istruth_ok W hf hnm o k a h.2.1 (by omega) m
          have rb := istruth_ok W hf hnm o k b h.2.2.1 (by omega) m
          have va := isvalue_ok W.toVl hf hnm o k a h.2.1 (by omega) m
          have vb := isvalue_ok W.toVl hf hnm o k b h.2.2.1 (by omega) m
          by_cases q1 : w = "truth"
          · subst q1; simp [isC]
          have q1' : (w == ("truth" : Str)) = false := by rw [beq_eq_false_iff_ne]; exact q1
          by_cases q2 : w = "not"
          · subst q2; simp [isC]
          have q2' : (w == ("not" : Str)) = false := by rw [beq_eq_false_iff_ne]; exact q2
          by_cases q3 : w = "same" ∨ w = "below"
          · have i2 : cmpD .In (.str w) (.tup [.str "same", .str "below"]) m = some true := by
              rw [in2]
              rcases q3 with rfl | rfl <;> simp
            cases qa : isE (nms fr) o a <;> simp [q1', q2', i2, va, vb, qa, isC, q3]
          have i2 : cmpD .In (.str w) (.tup [.str "same", .str "below"]) m = some false := by
            rw [in2]
            simp only [Option.some.injEq, Bool.or_eq_false_iff, beq_eq_false_iff_ne]
            exact ⟨fun z => q3 (.inl z.symm), fun z => q3 (.inr z.symm)⟩
          by_cases q4 : w = "and" ∨ w = "or"
          · have i3 : cmpD .In (.str w) (.tup [.str "and", .str "or"]) m = some true := by
              rw [in2]
              rcases q4 with rfl | rfl <;> simp
            cases qa : isC (nms fr) o a <;> simp [q1', q2', i2, i3, ra, rb, qa, isC, q3, q4]
          · have i3 : cmpD .In (.str w) (.tup [.str "and", .str "or"]) m = some false := by
              rw [in2]
              simp only [Option.some.injEq, Bool.or_eq_false_iff, beq_eq_false_iff_ne]
              exact ⟨fun z => q4 (.inl z.symm), fun z => q4 (.inr z.symm)⟩
            simp [q1', q2', i2, i3, isC, q3, q4]
end Com

/-! Dicts of names that are the same. -/
namespace Com
open PySem Cs
/-- a dict of names to True -/
def dK (l : List Str) : D := .dct (l.map .str) (l.map fun _ => .bl true)
theorem findK_str (x : Str) : ∀ l : List Str, findK (.str x) (l.map .str) = l.findIdx? (· == x)
  | [] => rfl
  | y :: l => by
    simp only [List.map_cons, findK, eqD, List.findIdx?_cons, findK_str x l]
theorem flat_strs : ∀ l : List Str, (l.map D.str).all flatK = true
  | [] => rfl
  | x :: l => by simp only [List.map_cons, List.all_cons, flatK, flat_strs l, Bool.and_self]
theorem getK_dK {l : List Str} {x : Str} (h : x ∈ l) : getK (l.map .str) (l.map fun _ => D.bl true) (.str x) = some (.bl true) := by
  unfold getK
  rw [findK_str]
  cases hf : l.findIdx? (· == x) with
  | none =>
    rw [List.findIdx?_eq_none_iff] at hf
    have := hf x h
    simp at this
  | some i =>
    have := (List.findIdx?_eq_some_iff_getElem.mp hf).1
    simp [this]
theorem keyD_strs (l : List Str) (x : Str) : keyD (l.map .str) (.str x) = true := by
  simp only [keyD, List.all_map, List.all_eq_true]
  intro y _
  rfl
theorem lst_repl (n : Nat) (d : D) : List.replicate (n + 1) d = List.replicate n d ++ [d] := List.replicate_succ'
theorem plain_repl (n : Nat) {d : D} (h : Cs.plain d = true) : plainL (List.replicate n d) = true := plainL_of fun e he => by rw [List.eq_of_mem_replicate he]; exact h
theorem map_repl (d : D) : ∀ l : List Str, (l.map D.str).map (fun _ => d) = List.replicate l.length d
  | [] => rfl
  | _ :: l => by
    have := map_repl d l
    simp only [List.map_cons, List.length_cons, List.replicate_succ, this]
theorem same_dK (l : List Str) (hl : l.length ≤ 1000) (m : Mem) : c__law_same [dK l, dK l] m = .ok (.bl true) m := by
  apply okR.eq
  unfold c__law_same
  refine okF rfl ?_
  unfold b__law_same
  have hsz := size_big
  simp
  refine okS.thn ?_
  refine whlT (fun n e m' => ∃ (x3 x4 x5 x6 : Option D), e = [some (dK l), some (dK l), some (.ref m.length), x3, x4, x5, x6] ∧ ((n = 5000 ∧ m' = m ++ [.lst [.tup [dK l, dK l]]]) ∨ ∃ j, n = j ∧ j ≤ l.length ∧ m' = m ++ [.lst (List.replicate j (.tup [.bl true, .bl true]))])) 5000 (by omega)
    ⟨none, none, none, none, rfl, .inl ⟨rfl, rfl⟩⟩ ?_
  rintro n e m' ⟨x3, x4, x5, x6, rfl, h⟩
  rcases h with ⟨rfl, rfl⟩ | ⟨j, hnj, hj, rfl⟩
  · refine .inr ⟨?_, ?_⟩
    · have : cmpD .NotEq (.ref m.length) (.lst []) (m ++ [Cell.lst [.tup [dK l, dK l]]]) = some true := by
        simp [cmpD, Cs.res, eqOk, lst0, Cs.plain, plainL, dK, eqD, eqL]
      simp [this]
    · intro Q' tn
      have ep := pop_last (m0 := m) (i := 2) (e := [some (dK l), some (dK l), some (.ref m.length), x3, x4, x5, x6]) (L := []) (x := .tup [dK l, dK l]) (by simp)
      simp only [List.nil_append] at ep
      rw [sSeq_ap, sAsg_ap, ep]
      simp only [sBd_ok, bindT_tup, bindL_cons, bindL_nil, bindT_name, Option.bind_some, sOf_some, sThen_nx, List.set_cons_succ, List.set_cons_zero]
      have el : ∀ e : Sto, e = [some (dK l), some (dK l), some (.ref m.length), some (dK l), some (dK l), x5, x6] → fLc [5] (.name 5) (iVar 4) (fTr (fCmp .NotIn (fVar 5) (fVar 3))) (fVar 5) e (m ++ [Cell.lst []]) = .ok (.lst []) (m ++ [Cell.lst []]) := by
        rintro e rfl
        refine fLc_ap (p := (l.map .str, [])) (iVar_dct (ks := l.map .str) (vs := l.map fun _ => .bl true) (by simp; rfl) (flat_strs l)) ?_ (by simp)
        refine (lcGo_pure (p := fun _ => false) (g := fun d => d) same_nil fun d hd => ?_).trans (by simp)
        obtain ⟨x, hx, rfl⟩ := List.mem_map.mp hd
        refine ⟨_, rfl, ?_, fun h => by cases h⟩
        have : cmpD .NotIn (.str x) (dK l) (m ++ [Cell.lst []]) = some false := by
          show (inD (.str x) (dK l)).map (!·) = _
          simp only [inD, dK, keyD_strs, if_true, getK_dK hx]
          rfl
        simp [this]
      have el2 : ∀ e : Sto, e = [some (dK l), some (dK l), some (.ref m.length), some (dK l), some (dK l), x5, x6] → fLc [5] (.name 5) (iVar 4) Cs.tYes (fTup (fCons (fIx (fVar 3) (fVar 5)) (fCons (fIx (fVar 4) (fVar 5)) fNil))) e (m ++ [Cell.lst []]) = .ok (.lst (List.replicate l.length (.tup [.bl true, .bl true]))) (m ++ [Cell.lst []]) := by
        rintro e rfl
        refine fLc_ap (p := (l.map .str, [])) (iVar_dct (ks := l.map .str) (vs := l.map fun _ => .bl true) (by simp; rfl) (flat_strs l)) ?_ (by rw [List.length_replicate]; omega)
        refine (lcGo_map (g := fun _ => .tup [.bl true, .bl true]) same_nil fun d hd => ?_).trans (by rw [map_repl])
        obtain ⟨x, hx, rfl⟩ := List.mem_map.mp hd
        refine ⟨_, rfl, rfl, ?_⟩
        have : ixD (dK l) (.str x) (m ++ [Cell.lst []]) = some (.bl true) := by
          show (if keyD (l.map .str) (.str x) then getK (l.map .str) (l.map fun _ => D.bl true) (.str x) else none) = _
          rw [keyD_strs, getK_dK hx]
          rfl
        simp [this]
      have elen : ∀ m, bltD .len [dK l] m = some (.int l.length) := fun m => by
        show (if (l.map D.str).all flatK = true then some (D.int (l.map D.str).length) else none) = _
        rw [flat_strs, if_pos rfl, List.length_map]
      have edct : ∀ m, isiD .dict (Cs.res m (dK l)) = some true := fun m => rfl
      have hx := ext_last (m0 := m) (m1 := m) (i := 2) (e := [some (dK l), some (dK l), some (.ref m.length), some (dK l), some (dK l), x5, x6]) (L := []) (X := List.replicate l.length (.tup [.bl true, .bl true]))
        (fs := fCons (fLc [5] (.name 5) (iVar 4) Cs.tYes (fTup (fCons (fIx (fVar 3) (fVar 5)) (fCons (fIx (fVar 4) (fVar 5)) fNil)))) fNil) (by simp) rfl (by simp [el2]) (by simp; omega)
      simp [edct, elen, el, cmpD, eqOk, Cs.plain, plainL, dep, depL, eqD, eqL, hx]
      exact okS.mk (tn.nx _ _ ⟨l.length, by omega, _, _, _, _, rfl, .inr ⟨l.length, rfl, Nat.le_refl _, by simp⟩⟩)
  · obtain rfl := hnj.symm
    have et : cmpD .NotEq (.ref m.length) (.lst []) (m ++ [Cell.lst (List.replicate j (.tup [.bl true, .bl true]))]) = some (decide (0 < j)) := by
      have hp : plainL (List.replicate j (D.tup [.bl true, .bl true])) = true := plain_repl j rfl
      have hd : min (depL (List.replicate j (D.tup [.bl true, .bl true])) + 1) 1 ≤ 150 := by omega
      cases j with
      | zero => simp [cmpD, Cs.res, eqOk, Cs.plain, plainL, dep, depL, eqD, eqL]
      | succ j =>
        rw [List.replicate_succ] at hp hd ⊢
        simp [cmpD, Cs.res, eqOk, Cs.plain, hp, dep, hd, eqD, eqL, plainL, depL, lst0]
    cases j with
    | zero =>
      refine .inl ⟨?_, ?_⟩
      · simp only [List.replicate_zero] at et
        simp [et]
      · simp
        exact okS.mk (by simp [gcR_plain (d := .bl true) (m := m) (x := [Cell.lst []]) rfl]; exact okR.mk ⟨rfl, rfl⟩)
    | succ j =>
      refine .inr ⟨by simp [et], ?_⟩
      intro Q' tn
      rw [lst_repl]
      have ep := pop_last (m0 := m) (i := 2) (e := [some (dK l), some (dK l), some (.ref m.length), x3, x4, x5, x6]) (L := List.replicate j (.tup [.bl true, .bl true])) (x := .tup [.bl true, .bl true]) (by simp)
      rw [sSeq_ap, sAsg_ap, ep]
      simp
      exact okS.mk (tn.nx _ _ ⟨j, by omega, _, _, _, _, rfl, .inr ⟨j, rfl, by omega, rfl⟩⟩)
end Com

namespace K01
open PySem Cs
/-- the i-th statement of the text -/
def top (i : Nat) : Stmt := PySem.Challenge.pw_closersteps_k01_expressions_and_conditio.main.body.getD i (.Pass ⟨0, 0, 0, 0⟩)
def f_is_integer : FD := ⟨top 4, ["thing"], ["thing"], []⟩
def f_is_name : FD := ⟨top 5, ["thing", "sign"], ["thing"], []⟩
def f_names_of : FD := ⟨top 7, ["frame", "own"], ["frame"], []⟩
def f_place_of : FD := ⟨top 8, ["frame", "name", "names"], ["frame", "name"], []⟩
def f_is_word : FD := ⟨top 13, ["thing", "words"], ["thing", "words"], []⟩
def f_is_value : FD := ⟨top 14, ["frame", "thing", "has_old", "is_there"], ["frame", "thing", "has_old"], []⟩
def f_is_truth : FD := ⟨top 15, ["frame", "thing", "has_old"], ["frame", "thing", "has_old"], []⟩
def f_is_expr : FD := ⟨top 16, ["frame", "thing"], ["frame", "thing"], []⟩
def f_is_cond : FD := ⟨top 17, ["frame", "thing"], ["frame", "thing"], []⟩
def f_is_post : FD := ⟨top 18, ["frame", "thing"], ["frame", "thing"], []⟩
def f_worth : FD := ⟨top 19, ["frame", "state", "old", "expr", "word", "one", "other"], ["frame", "state", "old", "expr"], []⟩
def f_holds : FD := ⟨top 20, ["frame", "state", "old", "cond", "word", "one", "other"], ["frame", "state", "old", "cond"], []⟩
def f_names_in : FD := ⟨top 21, ["thing", "found", "own"], ["thing"], ["found"]⟩
def f_has_old : FD := ⟨top 22, ["thing", "own"], ["thing"], []⟩
def f_put_in : FD := ⟨top 23, ["thing", "values", "is_old", "own"], ["thing", "values", "is_old"], []⟩
def f__law_draws : FD := ⟨top 25, ["script", "many", "draws", "mixed", "k", "cell", "rest", "turn"], ["script", "many"], ["draws"]⟩
def f__law_next : FD := ⟨top 26, ["w", "many"], ["w", "many"], []⟩
def f__law_pick : FD := ⟨top 27, ["w", "rows"], ["w", "rows"], []⟩
def f__law_says : FD := ⟨top 28, ["seen", "due"], ["seen", "due"], []⟩
def f__law_same : FD := ⟨top 29, ["seen", "due", "waiting", "one", "other", "key", "k"], ["seen", "due"], ["waiting"]⟩
def f__law_frame : FD := ⟨top 30, ["w", "low", "rows"], ["w"], ["rows"]⟩
def f__law_states : FD := ⟨top 31, ["frame", "found", "name", "low", "high", "longer", "state", "value"], ["frame"], []⟩
def f__law_expr : FD := ⟨top 32, ["w", "frame", "deep", "old", "kind", "names", "own", "sign"], ["w", "frame", "deep", "old"], []⟩
def f__law_cond : FD := ⟨top 33, ["w", "frame", "deep", "old", "kind"], ["w", "frame", "deep", "old"], []⟩
def f__law_worth : FD := ⟨top 34, ["frame", "state", "old", "expr", "k", "own", "a", "b"], ["frame", "state", "old", "expr"], []⟩
def f__law_holds : FD := ⟨top 35, ["frame", "state", "old", "cond", "both", "a", "b"], ["frame", "state", "old", "cond"], []⟩
def f__law_bent : FD := ⟨top 36, ["w", "thing", "rows", "k"], ["w", "thing"], []⟩
def f__law_is_expr : FD := ⟨top 37, ["names", "thing", "old"], ["names", "thing", "old"], []⟩
def f__law_is_cond : FD := ⟨top 38, ["names", "thing", "old"], ["names", "thing", "old"], []⟩
def f__law_names : FD := ⟨top 39, ["thing", "found", "own"], ["thing"], []⟩
def f__law_put : FD := ⟨top 40, ["thing", "values", "is_old", "own"], ["thing", "values", "is_old"], []⟩
def f_law : FD := ⟨top 41, ["script", "w", "turn", "frame", "names", "states", "row", "expr", "cond", "thing", "k", "told", "due", "time", "state", "old", "found", "name", "is_so", "values", "own"], ["script"], ["w"]⟩
def pg : PG' :=
  { defs := [("is_integer", f_is_integer), ("is_name", f_is_name), ("names_of", f_names_of), ("place_of", f_place_of), ("is_word", f_is_word), ("is_value", f_is_value), ("is_truth", f_is_truth), ("is_expr", f_is_expr), ("is_cond", f_is_cond), ("is_post", f_is_post), ("worth", f_worth), ("holds", f_holds), ("names_in", f_names_in), ("has_old", f_has_old), ("put_in", f_put_in), ("_law_draws", f__law_draws), ("_law_next", f__law_next), ("_law_pick", f__law_pick), ("_law_says", f__law_says), ("_law_same", f__law_same), ("_law_frame", f__law_frame), ("_law_states", f__law_states), ("_law_expr", f__law_expr), ("_law_cond", f__law_cond), ("_law_worth", f__law_worth), ("_law_holds", f__law_holds), ("_law_bent", f__law_bent), ("_law_is_expr", f__law_is_expr), ("_law_is_cond", f__law_is_cond), ("_law_names", f__law_names), ("_law_put", f__law_put), ("law", f_law)]
    G := [("LETTERS", .str "abcdefghijklmnopqrstuvwxyz"), ("FIGURES", .str "0123456789"), ("MOST_NAME", .int 12), ("SIGNS", .tup [.str "+", .str "-", .str "*", .str "min", .str "max"]), ("BOTH", .tup [.str "and", .str "or"]), ("MOST_NUMBER", .int 999)]
    bl := ["len", "tuple", "all", "any", "int", "list", "abs", "str", "min", "max", "range", "isinstance", "bool", "dict"] }
theorem e_is_integer (C : Str → List D → Mem → Res D) : (ev deep).s (pg.sc C f_is_integer) (L2.defBody f_is_integer.st) = Com.b_is_integer := by kernel_rfl
abbrev b_is_integer := @Com.b_is_integer
theorem e_is_name (C : Str → List D → Mem → Res D) : (ev deep).s (pg.sc C f_is_name) (L2.defBody f_is_name.st) = Com.b_is_name := by kernel_rfl
abbrev b_is_name := @Com.b_is_name
theorem e_names_of (C : Str → List D → Mem → Res D) : (ev deep).s (pg.sc C f_names_of) (L2.defBody f_names_of.st) = Com.b_names_of := by kernel_rfl
abbrev b_names_of := @Com.b_names_of
theorem e_place_of (C : Str → List D → Mem → Res D) : (ev deep).s (pg.sc C f_place_of) (L2.defBody f_place_of.st) = Com.b_place_of (C "names_of") := by kernel_rfl
abbrev b_place_of := @Com.b_place_of
theorem e_is_word (C : Str → List D → Mem → Res D) : (ev deep).s (pg.sc C f_is_word) (L2.defBody f_is_word.st) = Com.b_is_word := by kernel_rfl
abbrev b_is_word := @Com.b_is_word
theorem e_is_value (C : Str → List D → Mem → Res D) : (ev deep).s (pg.sc C f_is_value) (L2.defBody f_is_value.st) = Com.b_is_value (C "is_integer") (C "names_of") (C "is_name") (C "is_word") (C "is_value") := by kernel_rfl
abbrev b_is_value := @Com.b_is_value
theorem e_is_truth (C : Str → List D → Mem → Res D) : (ev deep).s (pg.sc C f_is_truth) (L2.defBody f_is_truth.st) = Com.b_is_truth (C "is_truth") (C "is_value") := by kernel_rfl
abbrev b_is_truth := @Com.b_is_truth
def b_is_expr (g_is_value : FF) : FS :=
  (sRet (fApp g_is_value (fCons (fVar 0) (fCons (fVar 1) (fCons (fCon (.bl false)) fNil)))))
theorem e_is_expr (C : Str → List D → Mem → Res D) : (ev deep).s (pg.sc C f_is_expr) (L2.defBody f_is_expr.st) = b_is_expr (C "is_value") := by kernel_rfl
def b_is_cond (g_is_truth : FF) : FS :=
  (sRet (fApp g_is_truth (fCons (fVar 0) (fCons (fVar 1) (fCons (fCon (.bl false)) fNil)))))
theorem e_is_cond (C : Str → List D → Mem → Res D) : (ev deep).s (pg.sc C f_is_cond) (L2.defBody f_is_cond.st) = b_is_cond (C "is_truth") := by kernel_rfl
def b_is_post (g_is_truth : FF) : FS :=
  (sRet (fApp g_is_truth (fCons (fVar 0) (fCons (fVar 1) (fCons (fCon (.bl true)) fNil)))))
theorem e_is_post (C : Str → List D → Mem → Res D) : (ev deep).s (pg.sc C f_is_post) (L2.defBody f_is_post.st) = b_is_post (C "is_truth") := by kernel_rfl
theorem e_worth (C : Str → List D → Mem → Res D) : (ev deep).s (pg.sc C f_worth) (L2.defBody f_worth.st) = Com.b_worth (C "place_of") (C "worth") := by kernel_rfl
abbrev b_worth := @Com.b_worth
theorem e_holds (C : Str → List D → Mem → Res D) : (ev deep).s (pg.sc C f_holds) (L2.defBody f_holds.st) = Com.b_holds (C "holds") (C "worth") := by kernel_rfl
abbrev b_holds := @Com.b_holds
def b_names_in (g_names_in : FF) : FS :=
  (sSeq (sIf (fTr (fCmp .In (fIx (fVar 0) (fCon (.int 0))) (fTup (fCons (fCon (.str "name")) (fCons (fCon (.str "old")) fNil))))) (sRet (fDct [((fIx (fVar 0) (fCon (.int 1))), (fCon (.bl true)))])) sNx) (sSeq (sSet 1 (fNew (fDct0))) (sSeq (sFor (.name 2) (iVal (fSl (fVar 0) (some (fCon (.int 1))) none)) (sIf (fTr (fIsi .tuple (fVar 2))) (sDrop (fMth .update (fVar 1) (fCons (fApp g_names_in (fCons (fVar 2) fNil)) fNil))) sNx)) (sRet (fVar 1)))))
theorem e_names_in (C : Str → List D → Mem → Res D) : (ev deep).s (pg.sc C f_names_in) (L2.defBody f_names_in.st) = b_names_in (C "names_in") := by kernel_rfl
def b_has_old (g_has_old : FF) : FS :=
  (sRet (fOrV (fCmp .Eq (fIx (fVar 0) (fCon (.int 0))) (fCon (.str "old"))) (fBlt .any (fCons (fLc [1] (.name 1) (iVal (fSl (fVar 0) (some (fCon (.int 1))) none)) tYes (fAndV (fIsi .tuple (fVar 1)) (fApp g_has_old (fCons (fVar 1) fNil)))) fNil))))
theorem e_has_old (C : Str → List D → Mem → Res D) : (ev deep).s (pg.sc C f_has_old) (L2.defBody f_has_old.st) = b_has_old (C "has_old") := by kernel_rfl
def b_put_in (g_put_in : FF) : FS :=
  (sSeq (sIf (fTr (fCmp .In (fIx (fVar 0) (fCon (.int 0))) (fTup (fCons (fCon (.str "name")) (fCons (fCon (.str "old")) fNil))))) (sRet (fIf (fTr (fCmp .Eq (fCmp .Eq (fIx (fVar 0) (fCon (.int 0))) (fCon (.str "old"))) (fVar 2))) (fMth .get (fVar 1) (fCons (fIx (fVar 0) (fCon (.int 1))) (fCons (fVar 0) fNil))) (fVar 0))) sNx) (sRet (fBlt .tuple (fCons (fLc [3] (.name 3) (iVar 0) tYes (fIf (fTr (fIsi .tuple (fVar 3))) (fApp g_put_in (fCons (fVar 3) (fCons (fVar 1) (fCons (fVar 2) fNil)))) (fVar 3))) fNil))))
theorem e_put_in (C : Str → List D → Mem → Res D) : (ev deep).s (pg.sc C f_put_in) (L2.defBody f_put_in.st) = b_put_in (C "put_in") := by kernel_rfl
theorem e__law_draws (C : Str → List D → Mem → Res D) : (ev deep).s (pg.sc C f__law_draws) (L2.defBody f__law_draws.st) = Com.b__law_draws := by kernel_rfl
abbrev b__law_draws := @Com.b__law_draws
theorem e__law_next (C : Str → List D → Mem → Res D) : (ev deep).s (pg.sc C f__law_next) (L2.defBody f__law_next.st) = Com.b__law_next := by kernel_rfl
abbrev b__law_next := @Com.b__law_next
theorem e__law_pick (C : Str → List D → Mem → Res D) : (ev deep).s (pg.sc C f__law_pick) (L2.defBody f__law_pick.st) = Com.b__law_pick (C "_law_next") := by kernel_rfl
abbrev b__law_pick := @Com.b__law_pick
theorem e__law_says (C : Str → List D → Mem → Res D) : (ev deep).s (pg.sc C f__law_says) (L2.defBody f__law_says.st) = Com.b__law_says := by kernel_rfl
abbrev b__law_says := @Com.b__law_says
theorem e__law_same (C : Str → List D → Mem → Res D) : (ev deep).s (pg.sc C f__law_same) (L2.defBody f__law_same.st) = Com.b__law_same := by kernel_rfl
abbrev b__law_same := @Com.b__law_same
theorem e__law_frame (C : Str → List D → Mem → Res D) : (ev deep).s (pg.sc C f__law_frame) (L2.defBody f__law_frame.st) = Com.b__law_frame (C "_law_next") := by kernel_rfl
abbrev b__law_frame := @Com.b__law_frame
theorem e__law_states (C : Str → List D → Mem → Res D) : (ev deep).s (pg.sc C f__law_states) (L2.defBody f__law_states.st) = Com.b__law_states := by kernel_rfl
abbrev b__law_states := @Com.b__law_states
theorem e__law_expr (C : Str → List D → Mem → Res D) : (ev deep).s (pg.sc C f__law_expr) (L2.defBody f__law_expr.st) = Com.b__law_expr (C "_law_next") (C "_law_pick") (C "_law_expr") := by kernel_rfl
abbrev b__law_expr := @Com.b__law_expr
theorem e__law_cond (C : Str → List D → Mem → Res D) : (ev deep).s (pg.sc C f__law_cond) (L2.defBody f__law_cond.st) = Com.b__law_cond (C "_law_next") (C "_law_cond") (C "_law_expr") := by kernel_rfl
abbrev b__law_cond := @Com.b__law_cond
theorem e__law_worth (C : Str → List D → Mem → Res D) : (ev deep).s (pg.sc C f__law_worth) (L2.defBody f__law_worth.st) = Com.b__law_worth (C "_law_worth") := by kernel_rfl
abbrev b__law_worth := @Com.b__law_worth
theorem e__law_holds (C : Str → List D → Mem → Res D) : (ev deep).s (pg.sc C f__law_holds) (L2.defBody f__law_holds.st) = Com.b__law_holds (C "_law_holds") (C "_law_worth") := by kernel_rfl
abbrev b__law_holds := @Com.b__law_holds
def b__law_bent (g__law_next g__law_pick g__law_bent : FF) : FS :=
  (sSeq (sIf (tOr (tNot (fTr (fIsi .tuple (fVar 1)))) (fTr (fCmp .Eq (fApp g__law_next (fCons (fVar 0) (fCons (fCon (.int 3)) fNil))) (fCon (.int 0))))) (sSeq (sSet 2 (fLst (fCons (fCon .non) (fCons (fCon (.int 3)) (fCons (fCon (.str "x")) (fCons (fLst fNil) (fCons (fTup fNil) (fCons (fTup (fCons (fCon (.str "number")) fNil)) (fCons (fTup (fCons (fCon (.str "number")) (fCons (fCon (.int 1000)) fNil))) (fCons (fTup (fCons (fCon (.str "number")) (fCons (fCon (.bl true)) fNil))) (fCons (fTup (fCons (fCon (.str "number")) (fCons (fCon (.str "1")) fNil))) (fCons (fTup (fCons (fCon (.str "name")) (fCons (fCon (.str "q")) fNil))) (fCons (fTup (fCons (fCon (.str "name")) (fCons (fCon (.str "X")) fNil))) (fCons (fTup (fCons (fCon (.str "name")) (fCons (fCon .non) fNil))) fNil)))))))))))))) (sSeq (sSet 2 (fBin .Add (fVar 2) (fLst (fCons (fTup (fCons (fCon (.str "truth")) (fCons (fCon (.int 1)) fNil))) (fCons (fTup (fCons (fCon (.str "truth")) fNil)) (fCons (fTup (fCons (fCon (.str "two")) (fCons (fCon (.str "+")) (fCons (fTup (fCons (fCon (.str "number")) (fCons (fCon (.int 1)) fNil))) fNil)))) (fCons (fTup (fCons (fCon (.str "same")) (fCons (fTup (fCons (fCon (.str "number")) (fCons (fCon (.int 1)) fNil))) fNil))) (fCons (fIf (fTr (fIsi .tuple (fVar 1))) (fBlt .list (fCons (fVar 1) fNil)) (fVar 1)) fNil)))))))) (sRet (fApp g__law_pick (fCons (fVar 0) (fCons (fVar 2) fNil)))))) sNx) (sSeq (sSet 3 (fApp g__law_next (fCons (fVar 0) (fCons (fBlt .len (fCons (fVar 1) fNil)) fNil)))) (sRet (fBin .Add (fBin .Add (fSl (fVar 1) none (some (fVar 3))) (fTup (fCons (fApp g__law_bent (fCons (fVar 0) (fCons (fIx (fVar 1) (fVar 3)) fNil))) fNil))) (fSl (fVar 1) (some (fBin .Add (fVar 3) (fCon (.int 1)))) none)))))
theorem e__law_bent (C : Str → List D → Mem → Res D) : (ev deep).s (pg.sc C f__law_bent) (L2.defBody f__law_bent.st) = b__law_bent (C "_law_next") (C "_law_pick") (C "_law_bent") := by kernel_rfl
def b__law_is_expr (g__law_is_expr : FF) : FS :=
  (sSeq (sIf (tOr (tNot (fTr (fIsi .tuple (fVar 1)))) (tOr (fTr (fCmp .Eq (fVar 1) (fTup fNil))) (tNot (fTr (fIsi .str (fIx (fVar 1) (fCon (.int 0)))))))) (sRet (fCon (.bl false))) sNx) (sSeq (sIf (fTr (fCmp .Eq (fIx (fVar 1) (fCon (.int 0))) (fCon (.str "number")))) (sRet (fAndV (fCmp .Eq (fBlt .len (fCons (fVar 1) fNil)) (fCon (.int 2))) (fAndV (fIsi .int (fIx (fVar 1) (fCon (.int 1)))) (fAndV (fNotV (fIsi .bool (fIx (fVar 1) (fCon (.int 1))))) (fCmpN (fNeg (fCon (.int 999))) [(.LtE, (fIx (fVar 1) (fCon (.int 1)))), (.LtE, (fCon (.int 999)))]))))) sNx) (sSeq (sIf (fTr (fCmp .In (fIx (fVar 1) (fCon (.int 0))) (fTup (fCons (fCon (.str "name")) (fCons (fCon (.str "old")) fNil))))) (sRet (fAndV (fCmp .Eq (fBlt .len (fCons (fVar 1) fNil)) (fCon (.int 2))) (fAndV (fIsi .str (fIx (fVar 1) (fCon (.int 1)))) (fAndV (fCmp .In (fIx (fVar 1) (fCon (.int 1))) (fVar 0)) (fOrV (fVar 2) (fCmp .Eq (fIx (fVar 1) (fCon (.int 0))) (fCon (.str "name")))))))) sNx) (sSeq (sIf (tOr (fTr (fCmp .NotEq (fIx (fVar 1) (fCon (.int 0))) (fCon (.str "two")))) (tOr (fTr (fCmp .NotEq (fBlt .len (fCons (fVar 1) fNil)) (fCon (.int 4)))) (tOr (tNot (fTr (fIsi .str (fIx (fVar 1) (fCon (.int 1)))))) (fTr (fCmp .NotIn (fIx (fVar 1) (fCon (.int 1))) (fTup (fCons (fCon (.str "+")) (fCons (fCon (.str "-")) (fCons (fCon (.str "*")) (fCons (fCon (.str "min")) (fCons (fCon (.str "max")) fNil))))))))))) (sRet (fCon (.bl false))) sNx) (sRet (fAndV (fApp g__law_is_expr (fCons (fVar 0) (fCons (fIx (fVar 1) (fCon (.int 2))) (fCons (fVar 2) fNil)))) (fApp g__law_is_expr (fCons (fVar 0) (fCons (fIx (fVar 1) (fCon (.int 3))) (fCons (fVar 2) fNil))))))))))
theorem e__law_is_expr (C : Str → List D → Mem → Res D) : (ev deep).s (pg.sc C f__law_is_expr) (L2.defBody f__law_is_expr.st) = b__law_is_expr (C "_law_is_expr") := by kernel_rfl
def b__law_is_cond (g__law_is_cond g__law_is_expr : FF) : FS :=
  (sSeq (sIf (tOr (tNot (fTr (fIsi .tuple (fVar 1)))) (tOr (fTr (fCmp .Eq (fVar 1) (fTup fNil))) (tNot (fTr (fIsi .str (fIx (fVar 1) (fCon (.int 0)))))))) (sRet (fCon (.bl false))) sNx) (sSeq (sIf (fTr (fCmp .Eq (fIx (fVar 1) (fCon (.int 0))) (fCon (.str "truth")))) (sRet (fAndV (fCmp .Eq (fBlt .len (fCons (fVar 1) fNil)) (fCon (.int 2))) (fIsi .bool (fIx (fVar 1) (fCon (.int 1)))))) sNx) (sSeq (sIf (fTr (fCmp .Eq (fIx (fVar 1) (fCon (.int 0))) (fCon (.str "not")))) (sRet (fAndV (fCmp .Eq (fBlt .len (fCons (fVar 1) fNil)) (fCon (.int 2))) (fApp g__law_is_cond (fCons (fVar 0) (fCons (fIx (fVar 1) (fCon (.int 1))) (fCons (fVar 2) fNil)))))) sNx) (sSeq (sIf (tOr (fTr (fCmp .NotEq (fBlt .len (fCons (fVar 1) fNil)) (fCon (.int 3)))) (fTr (fCmp .NotIn (fIx (fVar 1) (fCon (.int 0))) (fTup (fCons (fCon (.str "same")) (fCons (fCon (.str "below")) (fCons (fCon (.str "and")) (fCons (fCon (.str "or")) fNil)))))))) (sRet (fCon (.bl false))) sNx) (sSeq (sIf (fTr (fCmp .In (fIx (fVar 1) (fCon (.int 0))) (fTup (fCons (fCon (.str "same")) (fCons (fCon (.str "below")) fNil))))) (sRet (fAndV (fApp g__law_is_expr (fCons (fVar 0) (fCons (fIx (fVar 1) (fCon (.int 1))) (fCons (fVar 2) fNil)))) (fApp g__law_is_expr (fCons (fVar 0) (fCons (fIx (fVar 1) (fCon (.int 2))) (fCons (fVar 2) fNil)))))) sNx) (sRet (fAndV (fApp g__law_is_cond (fCons (fVar 0) (fCons (fIx (fVar 1) (fCon (.int 1))) (fCons (fVar 2) fNil)))) (fApp g__law_is_cond (fCons (fVar 0) (fCons (fIx (fVar 1) (fCon (.int 2))) (fCons (fVar 2) fNil)))))))))))
theorem e__law_is_cond (C : Str → List D → Mem → Res D) : (ev deep).s (pg.sc C f__law_is_cond) (L2.defBody f__law_is_cond.st) = b__law_is_cond (C "_law_is_cond") (C "_law_is_expr") := by kernel_rfl
def b__law_names (g__law_names : FF) : FS :=
  (sSeq (sIf (fTr (fCmp .In (fIx (fVar 0) (fCon (.int 0))) (fTup (fCons (fCon (.str "name")) (fCons (fCon (.str "old")) fNil))))) (sRet (fLst (fCons (fTup (fCons (fIx (fVar 0) (fCon (.int 1))) (fCons (fCmp .Eq (fIx (fVar 0) (fCon (.int 0))) (fCon (.str "old"))) fNil))) fNil))) sNx) (sSeq (sSet 1 (fLst fNil)) (sSeq (sFor (.name 2) (iVal (fSl (fVar 0) (some (fCon (.int 1))) none)) (sSet 1 (fBin .Add (fVar 1) (fIf (fTr (fIsi .tuple (fVar 2))) (fApp g__law_names (fCons (fVar 2) fNil)) (fLst fNil))))) (sRet (fVar 1)))))
theorem e__law_names (C : Str → List D → Mem → Res D) : (ev deep).s (pg.sc C f__law_names) (L2.defBody f__law_names.st) = b__law_names (C "_law_names") := by kernel_rfl
def b__law_put (g__law_put : FF) : FS :=
  (sSeq (sIf (tAnd (fTr (fCmp .In (fIx (fVar 0) (fCon (.int 0))) (fTup (fCons (fCon (.str "name")) (fCons (fCon (.str "old")) fNil))))) (fTr (fCmp .Eq (fCmp .Eq (fIx (fVar 0) (fCon (.int 0))) (fCon (.str "old"))) (fVar 2)))) (sRet (fMth .get (fVar 1) (fCons (fIx (fVar 0) (fCon (.int 1))) (fCons (fVar 0) fNil)))) sNx) (sRet (fBlt .tuple (fCons (fLc [3] (.name 3) (iVar 0) tYes (fIf (fTr (fIsi .tuple (fVar 3))) (fApp g__law_put (fCons (fVar 3) (fCons (fVar 1) (fCons (fVar 2) fNil)))) (fVar 3))) fNil))))
theorem e__law_put (C : Str → List D → Mem → Res D) : (ev deep).s (pg.sc C f__law_put) (L2.defBody f__law_put.st) = b__law_put (C "_law_put") := by kernel_rfl
def b_law_L1 (g_is_post g_is_cond g_is_expr g__law_is_cond g__law_is_expr g__law_same : FF) : FS :=
  (sSeq (sSet 11 (fTup (fCons (fApp g_is_expr (fCons (fVar 3) (fCons (fVar 9) fNil))) (fCons (fApp g_is_cond (fCons (fVar 3) (fCons (fVar 9) fNil))) (fCons (fApp g_is_post (fCons (fVar 3) (fCons (fVar 9) fNil))) fNil))))) (sSeq (sSet 12 (fTup (fCons (fApp g__law_is_expr (fCons (fVar 4) (fCons (fVar 9) (fCons (fCon (.bl false)) fNil)))) (fCons (fApp g__law_is_cond (fCons (fVar 4) (fCons (fVar 9) (fCons (fCon (.bl false)) fNil)))) (fCons (fApp g__law_is_cond (fCons (fVar 4) (fCons (fVar 9) (fCons (fCon (.bl true)) fNil)))) fNil))))) (sIf (tNot (fTr (fApp g__law_same (fCons (fVar 11) (fCons (fVar 12) fNil))))) (sRet (fCon (.bl false))) sNx)))
def b_law_L2 (g__law_pick g__law_says g__law_holds g_holds g__law_same g__law_worth g_worth : FF) : FS :=
  (sSeq (sPar [14, 15] (fCons (fApp g__law_pick (fCons (fVar 1) (fCons (fVar 5) fNil))) (fCons (fApp g__law_pick (fCons (fVar 1) (fCons (fVar 5) fNil))) fNil))) (sIf (tOr (tNot (fTr (fApp g__law_same (fCons (fApp g_worth (fCons (fVar 3) (fCons (fVar 14) (fCons (fVar 15) (fCons (fVar 7) fNil))))) (fCons (fApp g__law_worth (fCons (fVar 3) (fCons (fVar 14) (fCons (fVar 15) (fCons (fVar 7) fNil))))) fNil))))) (tNot (fTr (fApp g__law_says (fCons (fApp g_holds (fCons (fVar 3) (fCons (fVar 14) (fCons (fVar 15) (fCons (fVar 8) fNil))))) (fCons (fApp g__law_holds (fCons (fVar 3) (fCons (fVar 14) (fCons (fVar 15) (fCons (fVar 8) fNil))))) fNil)))))) (sRet (fCon (.bl false))) sNx))
def b_law_L3 (g__law_names g__law_says g_has_old g__law_same g_names_in g__law_pick g__law_expr g__law_put g_put_in : FF) : FS :=
  (sSeq (sSet 16 (fApp g__law_names (fCons (fVar 9) fNil))) (sSeq (sIf (tOr (tNot (fTr (fApp g__law_same (fCons (fApp g_names_in (fCons (fVar 9) fNil)) (fCons (fBlt .dict (fCons (fLc [17, 18] (.tup [.name 17, .name 18]) (iVar 16) tYes (fTup (fCons (fVar 17) (fCons (fCon (.bl true)) fNil)))) fNil)) fNil))))) (tNot (fTr (fApp g__law_says (fCons (fApp g_has_old (fCons (fVar 9) fNil)) (fCons (fCmp .NotEq (fLc [17, 18] (.tup [.name 17, .name 18]) (iVar 16) (fTr (fVar 18)) (fVar 17)) (fLst fNil)) fNil)))))) (sRet (fCon (.bl false))) sNx) (sSeq (sSet 19 (fDct [((fApp g__law_pick (fCons (fVar 1) (fCons (fVar 4) fNil))), (fApp g__law_expr (fCons (fVar 1) (fCons (fVar 3) (fCons (fCon (.int 1)) (fCons (fCon (.bl false)) fNil))))))])) (sIf (fTr (fCmp .NotEq (fLc [20] (.name 20) (iVal (fTup (fCons (fCon (.bl true)) (fCons (fCon (.bl false)) fNil)))) (tNot (fTr (fApp g__law_same (fCons (fApp g_put_in (fCons (fVar 9) (fCons (fVar 19) (fCons (fVar 20) fNil)))) (fCons (fApp g__law_put (fCons (fVar 9) (fCons (fVar 19) (fCons (fVar 20) fNil)))) fNil))))) (fVar 20)) (fLst fNil))) (sRet (fCon (.bl false))) sNx))))
def b_law_L4 (g__law_frame g__law_states g__law_expr g__law_next g__law_cond g__law_bent g_is_post g_is_cond g_is_expr g__law_is_cond g__law_is_expr g__law_same g__law_pick g__law_says g__law_holds g_holds g__law_worth g_worth g__law_names g_has_old g_names_in g__law_put g_put_in : FF) : FS :=
  (sSeq (sSet 3 (fApp g__law_frame (fCons (fVar 1) fNil))) (sSeq (sPar [4, 5] (fCons (fLc [6] (.name 6) (iVar 3) tYes (fIx (fVar 6) (fCon (.int 0)))) (fCons (fApp g__law_states (fCons (fVar 3) fNil)) fNil))) (sSeq (sAsg (.tup [.name 7, .name 8]) (fTup (fCons (fApp g__law_expr (fCons (fVar 1) (fCons (fVar 3) (fCons (fCon (.int 3)) (fCons (fCmp .Eq (fApp g__law_next (fCons (fVar 1) (fCons (fCon (.int 2)) fNil))) (fCon (.int 0))) fNil))))) (fCons (fApp g__law_cond (fCons (fVar 1) (fCons (fVar 3) (fCons (fCon (.int 3)) (fCons (fCmp .Eq (fApp g__law_next (fCons (fVar 1) (fCons (fCon (.int 2)) fNil))) (fCon (.int 0))) fNil))))) fNil)))) (sSeq (sFor (.name 9) (iVal (fBin .Add (fBin .Add (fLst (fCons (fVar 7) (fCons (fVar 8) fNil))) (fLc [10] (.name 10) (jRng1 (fCon (.int 4))) tYes (fApp g__law_bent (fCons (fVar 1) (fCons (fVar 7) fNil))))) (fLc [10] (.name 10) (jRng1 (fCon (.int 4))) tYes (fApp g__law_bent (fCons (fVar 1) (fCons (fVar 8) fNil)))))) (b_law_L1 g_is_post g_is_cond g_is_expr g__law_is_cond g__law_is_expr g__law_same)) (sSeq (sFor (.name 13) (jRng1 (fCon (.int 6))) (b_law_L2 g__law_pick g__law_says g__law_holds g_holds g__law_same g__law_worth g_worth)) (sFor (.name 9) (iVal (fTup (fCons (fVar 7) (fCons (fVar 8) fNil)))) (b_law_L3 g__law_names g__law_says g_has_old g__law_same g_names_in g__law_pick g__law_expr g__law_put g_put_in)))))))
def b_law (g__law_draws g__law_frame g__law_states g__law_expr g__law_next g__law_cond g__law_bent g_is_post g_is_cond g_is_expr g__law_is_cond g__law_is_expr g__law_same g__law_pick g__law_says g__law_holds g_holds g__law_worth g_worth g__law_names g_has_old g_names_in g__law_put g_put_in : FF) : FS :=
  (sSeq (sSet 1 (fNew (fDct [((fCon (.str "draws")), (fApp g__law_draws (fCons (fVar 0) (fCons (fCon (.int 4000)) fNil)))), ((fCon (.str "at")), (fCon (.int 0)))]))) (sSeq (sFor (.name 2) (jRng1 (fCon (.int 8))) (b_law_L4 g__law_frame g__law_states g__law_expr g__law_next g__law_cond g__law_bent g_is_post g_is_cond g_is_expr g__law_is_cond g__law_is_expr g__law_same g__law_pick g__law_says g__law_holds g_holds g__law_worth g_worth g__law_names g_has_old g_names_in g__law_put g_put_in)) (sRet (fCon (.bl true)))))
theorem e_law (C : Str → List D → Mem → Res D) : (ev deep).s (pg.sc C f_law) (L2.defBody f_law.st) = b_law (C "_law_draws") (C "_law_frame") (C "_law_states") (C "_law_expr") (C "_law_next") (C "_law_cond") (C "_law_bent") (C "is_post") (C "is_cond") (C "is_expr") (C "_law_is_cond") (C "_law_is_expr") (C "_law_same") (C "_law_pick") (C "_law_says") (C "_law_holds") (C "holds") (C "_law_worth") (C "worth") (C "_law_names") (C "has_old") (C "names_in") (C "_law_put") (C "put_in") := by kernel_rfl
abbrev c_is_integer : FF := Com.c_is_integer
theorem k_is_integer (k : Nat) : pg.call (k + 1) "is_integer" = c_is_integer := by
  refine (call_by (k := k + 0) rfl (e_is_integer _) rfl rfl rfl).trans ?_
  rfl
abbrev c_is_name : FF := Com.c_is_name
theorem k_is_name (k : Nat) : pg.call (k + 1) "is_name" = c_is_name := by
  refine (call_by (k := k + 0) rfl (e_is_name _) rfl rfl rfl).trans ?_
  rfl
abbrev c_names_of : FF := Com.c_names_of
theorem k_names_of (k : Nat) : pg.call (k + 1) "names_of" = c_names_of := by
  refine (call_by (k := k + 0) rfl (e_names_of _) rfl rfl rfl).trans ?_
  rfl
abbrev c_is_word : FF := Com.c_is_word
theorem k_is_word (k : Nat) : pg.call (k + 1) "is_word" = c_is_word := by
  refine (call_by (k := k + 0) rfl (e_is_word _) rfl rfl rfl).trans ?_
  rfl
abbrev c__law_draws : FF := Com.c__law_draws
theorem k__law_draws (k : Nat) : pg.call (k + 1) "_law_draws" = c__law_draws := by
  refine (call_by (k := k + 0) rfl (e__law_draws _) rfl rfl rfl).trans ?_
  rfl
abbrev c__law_next : FF := Com.c__law_next
theorem k__law_next (k : Nat) : pg.call (k + 1) "_law_next" = c__law_next := by
  refine (call_by (k := k + 0) rfl (e__law_next _) rfl rfl rfl).trans ?_
  rfl
abbrev c__law_says : FF := Com.c__law_says
theorem k__law_says (k : Nat) : pg.call (k + 1) "_law_says" = c__law_says := by
  refine (call_by (k := k + 0) rfl (e__law_says _) rfl rfl rfl).trans ?_
  rfl
abbrev c__law_same : FF := Com.c__law_same
theorem k__law_same (k : Nat) : pg.call (k + 1) "_law_same" = c__law_same := by
  refine (call_by (k := k + 0) rfl (e__law_same _) rfl rfl rfl).trans ?_
  rfl
abbrev c__law_states : FF := Com.c__law_states
theorem k__law_states (k : Nat) : pg.call (k + 1) "_law_states" = c__law_states := by
  refine (call_by (k := k + 0) rfl (e__law_states _) rfl rfl rfl).trans ?_
  rfl
abbrev c_place_of : FF := Com.c_place_of
theorem k_place_of (k : Nat) : pg.call (k + 2) "place_of" = c_place_of := by
  refine (call_by (k := k + 1) rfl (e_place_of _) rfl rfl rfl).trans ?_
  rw [k_names_of k]
  rfl
abbrev c__law_pick : FF := Com.c__law_pick
theorem k__law_pick (k : Nat) : pg.call (k + 2) "_law_pick" = c__law_pick := by
  refine (call_by (k := k + 1) rfl (e__law_pick _) rfl rfl rfl).trans ?_
  rw [k__law_next k]
  rfl
abbrev c__law_frame : FF := Com.c__law_frame
theorem k__law_frame (k : Nat) : pg.call (k + 2) "_law_frame" = c__law_frame := by
  refine (call_by (k := k + 1) rfl (e__law_frame _) rfl rfl rfl).trans ?_
  rw [k__law_next k]
  rfl
theorem r_is_integer (k : Nat) : pg.call (k + 1) "is_integer" = runF false 1 1 (Com.b_is_integer) := call_by rfl (e_is_integer _) rfl rfl rfl
theorem r_is_name (k : Nat) : pg.call (k + 1) "is_name" = runF false 1 2 (Com.b_is_name) := call_by rfl (e_is_name _) rfl rfl rfl
theorem r_names_of (k : Nat) : pg.call (k + 1) "names_of" = runF false 1 2 (Com.b_names_of) := call_by rfl (e_names_of _) rfl rfl rfl
theorem r_place_of (k : Nat) : pg.call (k + 1) "place_of" = runF false 2 3 (Com.b_place_of (pg.call k "names_of")) := call_by rfl (e_place_of _) rfl rfl rfl
theorem r_is_word (k : Nat) : pg.call (k + 1) "is_word" = runF false 2 2 (Com.b_is_word) := call_by rfl (e_is_word _) rfl rfl rfl
theorem r_is_value (k : Nat) : pg.call (k + 1) "is_value" = runF false 3 4 (Com.b_is_value (pg.call k "is_integer") (pg.call k "names_of") (pg.call k "is_name") (pg.call k "is_word") (pg.call k "is_value")) := call_by rfl (e_is_value _) rfl rfl rfl
theorem r_is_truth (k : Nat) : pg.call (k + 1) "is_truth" = runF false 3 3 (Com.b_is_truth (pg.call k "is_truth") (pg.call k "is_value")) := call_by rfl (e_is_truth _) rfl rfl rfl
theorem r_is_expr (k : Nat) : pg.call (k + 1) "is_expr" = runF false 2 2 (b_is_expr (pg.call k "is_value")) := call_by rfl (e_is_expr _) rfl rfl rfl
theorem r_is_cond (k : Nat) : pg.call (k + 1) "is_cond" = runF false 2 2 (b_is_cond (pg.call k "is_truth")) := call_by rfl (e_is_cond _) rfl rfl rfl
theorem r_is_post (k : Nat) : pg.call (k + 1) "is_post" = runF false 2 2 (b_is_post (pg.call k "is_truth")) := call_by rfl (e_is_post _) rfl rfl rfl
theorem r_worth (k : Nat) : pg.call (k + 1) "worth" = runF false 4 7 (Com.b_worth (pg.call k "place_of") (pg.call k "worth")) := call_by rfl (e_worth _) rfl rfl rfl
theorem r_holds (k : Nat) : pg.call (k + 1) "holds" = runF false 4 7 (Com.b_holds (pg.call k "holds") (pg.call k "worth")) := call_by rfl (e_holds _) rfl rfl rfl
theorem r_names_in (k : Nat) : pg.call (k + 1) "names_in" = runF true 1 3 (b_names_in (pg.call k "names_in")) := call_by rfl (e_names_in _) rfl rfl rfl
theorem r_has_old (k : Nat) : pg.call (k + 1) "has_old" = runF false 1 2 (b_has_old (pg.call k "has_old")) := call_by rfl (e_has_old _) rfl rfl rfl
theorem r_put_in (k : Nat) : pg.call (k + 1) "put_in" = runF false 3 4 (b_put_in (pg.call k "put_in")) := call_by rfl (e_put_in _) rfl rfl rfl
theorem r__law_draws (k : Nat) : pg.call (k + 1) "_law_draws" = runF true 2 8 (Com.b__law_draws) := call_by rfl (e__law_draws _) rfl rfl rfl
theorem r__law_next (k : Nat) : pg.call (k + 1) "_law_next" = runF false 2 2 (Com.b__law_next) := call_by rfl (e__law_next _) rfl rfl rfl
theorem r__law_pick (k : Nat) : pg.call (k + 1) "_law_pick" = runF false 2 2 (Com.b__law_pick (pg.call k "_law_next")) := call_by rfl (e__law_pick _) rfl rfl rfl
theorem r__law_says (k : Nat) : pg.call (k + 1) "_law_says" = runF false 2 2 (Com.b__law_says) := call_by rfl (e__law_says _) rfl rfl rfl
theorem r__law_same (k : Nat) : pg.call (k + 1) "_law_same" = runF true 2 7 (Com.b__law_same) := call_by rfl (e__law_same _) rfl rfl rfl
theorem r__law_frame (k : Nat) : pg.call (k + 1) "_law_frame" = runF true 1 3 (Com.b__law_frame (pg.call k "_law_next")) := call_by rfl (e__law_frame _) rfl rfl rfl
theorem r__law_states (k : Nat) : pg.call (k + 1) "_law_states" = runF false 1 8 (Com.b__law_states) := call_by rfl (e__law_states _) rfl rfl rfl
theorem r__law_expr (k : Nat) : pg.call (k + 1) "_law_expr" = runF false 4 8 (Com.b__law_expr (pg.call k "_law_next") (pg.call k "_law_pick") (pg.call k "_law_expr")) := call_by rfl (e__law_expr _) rfl rfl rfl
theorem r__law_cond (k : Nat) : pg.call (k + 1) "_law_cond" = runF false 4 5 (Com.b__law_cond (pg.call k "_law_next") (pg.call k "_law_cond") (pg.call k "_law_expr")) := call_by rfl (e__law_cond _) rfl rfl rfl
theorem r__law_worth (k : Nat) : pg.call (k + 1) "_law_worth" = runF false 4 8 (Com.b__law_worth (pg.call k "_law_worth")) := call_by rfl (e__law_worth _) rfl rfl rfl
theorem r__law_holds (k : Nat) : pg.call (k + 1) "_law_holds" = runF false 4 7 (Com.b__law_holds (pg.call k "_law_holds") (pg.call k "_law_worth")) := call_by rfl (e__law_holds _) rfl rfl rfl
theorem r__law_bent (k : Nat) : pg.call (k + 1) "_law_bent" = runF false 2 4 (b__law_bent (pg.call k "_law_next") (pg.call k "_law_pick") (pg.call k "_law_bent")) := call_by rfl (e__law_bent _) rfl rfl rfl
theorem r__law_is_expr (k : Nat) : pg.call (k + 1) "_law_is_expr" = runF false 3 3 (b__law_is_expr (pg.call k "_law_is_expr")) := call_by rfl (e__law_is_expr _) rfl rfl rfl
theorem r__law_is_cond (k : Nat) : pg.call (k + 1) "_law_is_cond" = runF false 3 3 (b__law_is_cond (pg.call k "_law_is_cond") (pg.call k "_law_is_expr")) := call_by rfl (e__law_is_cond _) rfl rfl rfl
theorem r__law_names (k : Nat) : pg.call (k + 1) "_law_names" = runF false 1 3 (b__law_names (pg.call k "_law_names")) := call_by rfl (e__law_names _) rfl rfl rfl
theorem r__law_put (k : Nat) : pg.call (k + 1) "_law_put" = runF false 3 4 (b__law_put (pg.call k "_law_put")) := call_by rfl (e__law_put _) rfl rfl rfl
theorem r_law (k : Nat) : pg.call (k + 1) "law" = runF true 1 21 (b_law (pg.call k "_law_draws") (pg.call k "_law_frame") (pg.call k "_law_states") (pg.call k "_law_expr") (pg.call k "_law_next") (pg.call k "_law_cond") (pg.call k "_law_bent") (pg.call k "is_post") (pg.call k "is_cond") (pg.call k "is_expr") (pg.call k "_law_is_cond") (pg.call k "_law_is_expr") (pg.call k "_law_same") (pg.call k "_law_pick") (pg.call k "_law_says") (pg.call k "_law_holds") (pg.call k "holds") (pg.call k "_law_worth") (pg.call k "worth") (pg.call k "_law_names") (pg.call k "has_old") (pg.call k "names_in") (pg.call k "_law_put") (pg.call k "put_in")) := call_by rfl (e_law _) rfl rfl rfl
-- RECURSIVE law
-- RECURSIVE is_cond
-- RECURSIVE holds
-- RECURSIVE _law_cond
-- RECURSIVE names_in
-- RECURSIVE _law_worth
-- RECURSIVE is_truth
-- RECURSIVE is_post
-- RECURSIVE _law_holds
-- RECURSIVE _law_expr
-- RECURSIVE _law_is_expr
-- RECURSIVE _law_is_cond
-- RECURSIVE _law_bent
-- RECURSIVE has_old
-- RECURSIVE is_value
-- RECURSIVE is_expr
-- RECURSIVE put_in
-- RECURSIVE worth
-- RECURSIVE _law_names
-- RECURSIVE _law_put
end K01

/-! The law's own telling of expressions and conditions. -/
namespace K01
open PySem Cs Com
def hd1 : D → Bool
  | .tup (.str _ :: _) => true
  | _ => false
theorem head1_ok (d : D) (h : fine d = true) (hd : dep d ≤ 100) {e : Sto} {m : Mem} (he : atV e 1 = some d) :
    (tOr (tNot (fTr (fIsi .tuple (fVar 1)))) (tOr (fTr (fCmp .Eq (fVar 1) (fTup fNil))) (tNot (fTr (fIsi .str (fIx (fVar 1) (fCon (.int 0)))))))) e m = .ok (!hd1 d) m := by
  have hp := fine_plain d h
  cases d with
  | tup ds =>
    have e1 : cmpD .Eq (.tup ds) (.tup []) m = some (eqD (.tup ds) (.tup [])) := cmp_eqD hp rfl (by simp [dep, depL])
    cases ds with
    | nil => simp [he, e1, hd1, eqD, eqL]
    | cons x r =>
      simp only [fine, fineL, Bool.and_eq_true] at h
      have e2 := isi_fine .str h.1 m
      cases x with
      | ref _ => simp [fine] at h
      | scr _ => simp [fine] at h
      | _ => simp_all [hd1, eqD, eqL, ix_h]
  | ref _ => simp [fine] at h
  | scr _ => simp [fine] at h
  | _ => simp [he, hd1]
theorem hd1_no {d : D} (h : hd1 d = false) (ns : List Str) (o : Bool) : isE ns o d = false ∧ isC ns o d = false := by
  unfold isE isC
  constructor <;> split <;> first | (simp [hd1] at h; done) | rfl
theorem in_strL {m : Mem} (x : Str) (ns : List Str) : cmpD .In (.str x) (.lst (ns.map .str)) m = some (ns.any (· == x)) := by
  have := in_strs (m := m) x ns
  exact this
theorem lisE_ok {ns : List Str} (hn : ns.length ≤ 1000) (o : Bool) : ∀ (k : Nat) (d : D), fine d = true → dep d + 1 ≤ k → dep d ≤ 100 → ∀ m, pg.call k "_law_is_expr" [.lst (ns.map .str), d, .bl o] m = .ok (.bl (isE ns o d)) m
  | 0, _, _, hk, _, _ => by omega
  | k + 1, d, h, hk, hd, m => by
    rw [r__law_is_expr, runF_ap (np := 3) _ rfl]
    unfold b__law_is_expr
    have e0 := head1_ok d h hd (e := [some (.lst (ns.map .str)), some d, some (.bl o)]) (m := m) (by simp)
    rw [sSeq_ap, sIf_ap]
    simp only [List.map_cons, List.map_nil, List.length_cons, List.length_nil, Nat.zero_add, Nat.reduceAdd, Nat.sub_self, List.replicate, List.cons_append, List.nil_append, List.append_nil]
    rw [e0]
    cases hh : hd1 d with
    | false =>
      rw [(hd1_no hh _ _).1]
      simp
    | true =>
      obtain ⟨w, r, rfl⟩ : ∃ w r, d = .tup (.str w :: r) := by
        unfold hd1 at hh
        split at hh
        · exact ⟨_, _, rfl⟩
        · cases hh
      simp only [fine, fineL, Bool.and_eq_true] at h
      simp only [dep, depL] at hk hd
      match r, h, hk, hd with
      | [x], h, hk, hd =>
        simp only [fineL, Bool.and_eq_true] at h
        by_cases q1 : w = "number"
        · subst q1
          cases x with
          | int i =>
            by_cases g1 : -999 ≤ i
            · by_cases g2 : i ≤ 999 <;> simp [isE, n999, g1, g2]
            · simp [isE, n999, g1]
          | ref _ => simp [fine] at h
          | scr _ => simp [fine] at h
          | _ => simp [isE, n999]
        have q1' : (w == ("number" : Str)) = false := by rw [beq_eq_false_iff_ne]; exact q1
        by_cases q2 : w = "name" ∨ w = "old"
        · have i2 : cmpD .In (.str w) (.tup [.str "name", .str "old"]) m = some true := by
            rw [in2]
            rcases q2 with rfl | rfl <;> simp
          cases x with
          | str z =>
            have i4 := in_strL (m := m) z ns
            cases q : ns.any (· == z) with
            | false =>
              rw [q] at i4
              rcases q2 with rfl | rfl <;> simp [i2, isE, inS, q, i4]
            | true =>
              rw [q] at i4
              rcases q2 with rfl | rfl <;> cases o <;> simp [i2, isE, inS, q, i4]
          | ref _ => simp [fine] at h
          | scr _ => simp [fine] at h
          | _ => rcases q2 with rfl | rfl <;> simp [i2, isE, inS]
        · have q2' : ¬ w = "name" ∧ ¬ w = "old" := ⟨fun z => q2 (.inl z), fun z => q2 (.inr z)⟩
          have i2 : cmpD .In (.str w) (.tup [.str "name", .str "old"]) m = some false := by
            rw [in2]
            simp only [Option.some.injEq, Bool.or_eq_false_iff, beq_eq_false_iff_ne]
            exact ⟨fun z => q2'.1 z.symm, fun z => q2'.2 z.symm⟩
          by_cases q3 : w = "two"
          · subst q3
            simp [i2, isE]
          · have q3' : (w == ("two" : Str)) = false := by rw [beq_eq_false_iff_ne]; exact q3
            simp [i2, isE, q1, q1', q2', q3']
      | [s, a, b], h, hk, hd =>
        simp only [fineL, Bool.and_eq_true] at h
        simp only [depL] at hk hd
        have ra := lisE_ok hn o k a h.2.2.1 (by omega) (by omega) m
        have rb := lisE_ok hn o k b h.2.2.2.1 (by omega) (by omega) m
        by_cases q1 : w = "number"
        · subst q1; simp [isE]
        have q1' : (w == ("number" : Str)) = false := by rw [beq_eq_false_iff_ne]; exact q1
        by_cases q2 : w = "name" ∨ w = "old"
        · have i2 : cmpD .In (.str w) (.tup [.str "name", .str "old"]) m = some true := by
            rw [in2]
            rcases q2 with rfl | rfl <;> simp
          rcases q2 with rfl | rfl <;> simp [i2, isE]
        have q2' : ¬ w = "name" ∧ ¬ w = "old" := ⟨fun z => q2 (.inl z), fun z => q2 (.inr z)⟩
        have i2 : cmpD .In (.str w) (.tup [.str "name", .str "old"]) m = some false := by
          rw [in2]
          simp only [Option.some.injEq, Bool.or_eq_false_iff, beq_eq_false_iff_ne]
          exact ⟨fun z => q2'.1 z.symm, fun z => q2'.2 z.symm⟩
        by_cases q3 : w = "two"
        · subst q3
          cases s with
          | str z =>
            have i6 : cmpD .NotIn (.str z) (.tup [.str "+", .str "-", .str "*", .str "min", .str "max"]) m = some (!inS ["+", "-", "*", "min", "max"] (.str z)) := by
              show (inD (.str z) (.tup [.str "+", .str "-", .str "*", .str "min", .str "max"])).map (!·) = _
              have : inD (.str z) (.tup [.str "+", .str "-", .str "*", .str "min", .str "max"]) = some (inS ["+", "-", "*", "min", "max"] (.str z)) := in_strs (m := m) z ["+", "-", "*", "min", "max"]
              rw [this]
              rfl
            cases q : inS ["+", "-", "*", "min", "max"] (.str z) <;> cases qa : isE ns o a <;> simp [i2, i6, isE, q, ra, rb, qa]
          | ref _ => simp [fine] at h
          | scr _ => simp [fine] at h
          | _ => simp [i2, isE, inS]
        · have q3' : (w == ("two" : Str)) = false := by rw [beq_eq_false_iff_ne]; exact q3
          simp [i2, isE, q1', q3, q3']
      | [], h, hk, hd =>
        by_cases q1 : w = "number"
        · subst q1; simp [isE]
        have q1' : (w == ("number" : Str)) = false := by rw [beq_eq_false_iff_ne]; exact q1
        by_cases q2 : w = "name" ∨ w = "old"
        · have i2 : cmpD .In (.str w) (.tup [.str "name", .str "old"]) m = some true := by
            rw [in2]
            rcases q2 with rfl | rfl <;> simp
          rcases q2 with rfl | rfl <;> simp [i2, isE]
        have i2 : cmpD .In (.str w) (.tup [.str "name", .str "old"]) m = some false := by
          rw [in2]
          simp only [Option.some.injEq, Bool.or_eq_false_iff, beq_eq_false_iff_ne]
          exact ⟨fun z => q2 (.inl z.symm), fun z => q2 (.inr z.symm)⟩
        by_cases q3 : w = "two"
        · subst q3; simp [i2, isE]
        · have q3' : (w == ("two" : Str)) = false := by rw [beq_eq_false_iff_ne]; exact q3
          simp [i2, isE, q1', q3']
      | [s, a], h, hk, hd =>
        by_cases q1 : w = "number"
        · subst q1; simp [isE]
        have q1' : (w == ("number" : Str)) = false := by rw [beq_eq_false_iff_ne]; exact q1
        by_cases q2 : w = "name" ∨ w = "old"
        · have i2 : cmpD .In (.str w) (.tup [.str "name", .str "old"]) m = some true := by
            rw [in2]
            rcases q2 with rfl | rfl <;> simp
          rcases q2 with rfl | rfl <;> simp [i2, isE]
        have i2 : cmpD .In (.str w) (.tup [.str "name", .str "old"]) m = some false := by
          rw [in2]
          simp only [Option.some.injEq, Bool.or_eq_false_iff, beq_eq_false_iff_ne]
          exact ⟨fun z => q2 (.inl z.symm), fun z => q2 (.inr z.symm)⟩
        by_cases q3 : w = "two"
        · subst q3; simp [i2, isE]
        · have q3' : (w == ("two" : Str)) = false := by rw [beq_eq_false_iff_ne]; exact q3
          simp [i2, isE, q1', q3']
      | s :: a :: b :: c :: r, h, hk, hd =>
        have l1 : ∀ i : Int, 0 ≤ i → i ≤ 4 → (((r.length : Int) + 1 + 1 + 1 + 1 + 1) == i) = false := fun i h0 h4 => by rw [beq_eq_false_iff_ne]; omega
        have l2 := l1 2 (by omega) (by omega)
        have l4 := l1 4 (by omega) (by omega)
        by_cases q1 : w = "number"
        · subst q1; simp [isE, l2]
        have q1' : (w == ("number" : Str)) = false := by rw [beq_eq_false_iff_ne]; exact q1
        by_cases q2 : w = "name" ∨ w = "old"
        · have i2 : cmpD .In (.str w) (.tup [.str "name", .str "old"]) m = some true := by
            rw [in2]
            rcases q2 with rfl | rfl <;> simp
          rcases q2 with rfl | rfl <;> simp [i2, isE, l2]
        have i2 : cmpD .In (.str w) (.tup [.str "name", .str "old"]) m = some false := by
          rw [in2]
          simp only [Option.some.injEq, Bool.or_eq_false_iff, beq_eq_false_iff_ne]
          exact ⟨fun z => q2 (.inl z.symm), fun z => q2 (.inr z.symm)⟩
        by_cases q3 : w = "two"
        · subst q3; simp [i2, isE, l4]
        · have q3' : (w == ("two" : Str)) = false := by rw [beq_eq_false_iff_ne]; exact q3
          simp [i2, isE, q1', q3']
theorem notin4 (w a b c d : Str) (m : Mem) : cmpD .NotIn (.str w) (.tup [.str a, .str b, .str c, .str d]) m = some (!(a == w || b == w || c == w || d == w)) := by
  show (inD (.str w) (.tup [.str a, .str b, .str c, .str d])).map (!·) = _
  have : inD (.str w) (.tup [.str a, .str b, .str c, .str d]) = some (([a, b, c, d] : List Str).any (· == w)) := in_strs (m := m) w [a, b, c, d]
  rw [this]
  simp [Bool.or_assoc]
theorem lisC_ok {ns : List Str} (hn : ns.length ≤ 1000) (o : Bool) : ∀ (k : Nat) (d : D), fine d = true → dep d + 2 ≤ k → dep d ≤ 100 → ∀ m, pg.call k "_law_is_cond" [.lst (ns.map .str), d, .bl o] m = .ok (.bl (isC ns o d)) m
  | 0, _, _, hk, _, _ => by omega
  | k + 1, d, h, hk, hd, m => by
    rw [r__law_is_cond, runF_ap (np := 3) _ rfl]
    unfold b__law_is_cond
    have e0 := head1_ok d h hd (e := [some (.lst (ns.map .str)), some d, some (.bl o)]) (m := m) (by simp)
    rw [sSeq_ap, sIf_ap]
    simp only [List.map_cons, List.map_nil, List.length_cons, List.length_nil, Nat.zero_add, Nat.reduceAdd, Nat.sub_self, List.replicate, List.cons_append, List.nil_append, List.append_nil]
    rw [e0]
    cases hh : hd1 d with
    | false =>
      rw [(hd1_no hh _ _).2]
      simp
    | true =>
      obtain ⟨w, r, rfl⟩ : ∃ w r, d = .tup (.str w :: r) := by
        unfold hd1 at hh
        split at hh
        · exact ⟨_, _, rfl⟩
        · cases hh
      simp only [fine, fineL, Bool.and_eq_true] at h
      simp only [dep, depL] at hk hd
      by_cases hr1 : r.length = 1
      · match r, hr1, h, hk, hd with
        | [x], _, h, hk, hd =>
          simp only [fineL, Bool.and_eq_true] at h
          simp only [depL] at hk hd
          by_cases q1 : w = "truth"
          · subst q1
            cases x with
            | ref _ => simp [fine] at h
            | scr _ => simp [fine] at h
            | _ => simp [isC, isTr]
          have q1' : (w == ("truth" : Str)) = false := by rw [beq_eq_false_iff_ne]; exact q1
          by_cases q2 : w = "not"
          · subst q2
            have ra := lisC_ok hn o k x h.2.1 (by omega) (by omega) m
            simp [isC, ra]
          · have q2' : (w == ("not" : Str)) = false := by rw [beq_eq_false_iff_ne]; exact q2
            simp [isC, q1, q2, q1', q2']
      by_cases hr2 : r.length = 2
      · match r, hr2, h, hk, hd with
        | [a, b], _, h, hk, hd =>
          simp only [fineL, Bool.and_eq_true] at h
          simp only [depL] at hk hd
          have ra := lisC_ok hn o k a h.2.1 (by omega) (by omega) m
          have rb := lisC_ok hn o k b h.2.2.1 (by omega) (by omega) m
          have va := lisE_ok hn o k a h.2.1 (by omega) (by omega) m
          have vb := lisE_ok hn o k b h.2.2.1 (by omega) (by omega) m
          by_cases q1 : w = "truth"
          · subst q1; simp [isC]
          have q1' : (w == ("truth" : Str)) = false := by rw [beq_eq_false_iff_ne]; exact q1
          by_cases q2 : w = "not"
          · subst q2; simp [isC]
          have q2' : (w == ("not" : Str)) = false := by rw [beq_eq_false_iff_ne]; exact q2
          by_cases q3 : w = "same" ∨ w = "below"
          · have i2 : cmpD .In (.str w) (.tup [.str "same", .str "below"]) m = some true := by
              rw [in2]
              rcases q3 with rfl | rfl <;> simp
            rcases q3 with rfl | rfl <;> cases qa : isE ns o a <;> simp [notin4, i2, va, vb, qa, isC]
          have i2 : cmpD .In (.str w) (.tup [.str "same", .str "below"]) m = some false := by
            rw [in2]
            simp only [Option.some.injEq, Bool.or_eq_false_iff, beq_eq_false_iff_ne]
            exact ⟨fun z => q3 (.inl z.symm), fun z => q3 (.inr z.symm)⟩
          by_cases q4 : w = "and" ∨ w = "or"
          · rcases q4 with rfl | rfl <;> cases qa : isC ns o a <;> simp [notin4, in2, ra, rb, qa, isC]
          · have i3 : cmpD .NotIn (.str w) (.tup [.str "same", .str "below", .str "and", .str "or"]) m = some true := by
              rw [notin4]
              have h1 : (("same" : Str) == w) = false := by rw [beq_eq_false_iff_ne]; exact fun z => q3 (.inl z.symm)
              have h2 : (("below" : Str) == w) = false := by rw [beq_eq_false_iff_ne]; exact fun z => q3 (.inr z.symm)
              have h3 : (("and" : Str) == w) = false := by rw [beq_eq_false_iff_ne]; exact fun z => q4 (.inl z.symm)
              have h4 : (("or" : Str) == w) = false := by rw [beq_eq_false_iff_ne]; exact fun z => q4 (.inr z.symm)
              rw [h1, h2, h3, h4]
              rfl
            simp [q1', q2', i3, isC, q3, q4]
      · have eC : isC ns o (.tup (.str w :: r)) = false := by
          unfold isC
          split
          · rename_i e; simp only [D.tup.injEq, List.cons.injEq] at e; rw [e.2] at hr1; exact absurd rfl hr1
          · rename_i e; simp only [D.tup.injEq, List.cons.injEq] at e; rw [e.2] at hr2; exact absurd rfl hr2
          · rfl
        have l2 : (((r.length : Int) + 1) == 2) = false := by rw [beq_eq_false_iff_ne]; omega
        have l3 : (((r.length : Int) + 1) == 3) = false := by rw [beq_eq_false_iff_ne]; omega
        by_cases q1 : w = "truth"
        · subst q1; simp [eC, l2]
        have q1' : (w == ("truth" : Str)) = false := by rw [beq_eq_false_iff_ne]; exact q1
        by_cases q2 : w = "not"
        · subst q2; simp [eC, l2]
        have q2' : (w == ("not" : Str)) = false := by rw [beq_eq_false_iff_ne]; exact q2
        simp [eC, q1', q2', l3]
end K01

/-! Names that stand in a form; others put in their stead. -/
namespace K01
open PySem Cs Com
theorem cut1 (x : D) (r : List D) (m : Mem) : slD (.tup (x :: r)) (some 1) none m = some (.tup r) := by
  simp [slD, cutD, HT.sIx]
theorem it_tup (ds : List D) (m : Mem) : itOf m (.tup ds) = some (ds, []) := rfl
def nmE : E → List (Str × Bool)
  | .num _ => []
  | .nam x => [(x, false)]
  | .old x => [(x, true)]
  | .two _ a b => nmE a ++ nmE b
def nmC : Cd → List (Str × Bool)
  | .tru _ => []
  | .neg c => nmC c
  | .both _ a b => nmC a ++ nmC b
  | .cmp _ a b => nmE a ++ nmE b
def pr (p : Str × Bool) : D := .tup [.str p.1, .bl p.2]
theorem nmE_len : ∀ e : E, (nmE e).length ≤ e.leaves
  | .num _ => Nat.zero_le _
  | .nam _ => Nat.le_refl _
  | .old _ => Nat.le_refl _
  | .two _ a b => by have := nmE_len a; have := nmE_len b; simp only [nmE, List.length_append, E.leaves]; omega
theorem nmC_len : ∀ e : Cd, (nmC e).length ≤ e.leaves
  | .tru _ => Nat.zero_le _
  | .neg c => by have := nmC_len c; simp only [nmC, Cd.leaves]; omega
  | .both _ a b => by have := nmC_len a; have := nmC_len b; simp only [nmC, List.length_append, Cd.leaves]; omega
  | .cmp _ a b => by have := nmE_len a; have := nmE_len b; simp only [nmC, List.length_append, Cd.leaves]; omega
theorem addN {m : Mem} (a b : List (Str × Bool)) (h : a.length + b.length ≤ 1000000) : binD .Add (.lst (a.map pr)) (.lst (b.map pr)) m = some (.lst ((a ++ b).map pr)) := by
  rw [add_lst (by rw [List.length_map, List.length_map]; exact sl_of h), List.map_append]
theorem addN0 {m : Mem} (a : List (Str × Bool)) (h : a.length ≤ 1000000) : binD .Add (.lst (a.map pr)) (.lst []) m = some (.lst (a.map pr)) := by
  have := addN (m := m) a [] (by simpa using h)
  simpa using this
theorem add0N {m : Mem} (a : List (Str × Bool)) (h : a.length ≤ 1000000) : binD .Add (.lst []) (.lst (a.map pr)) m = some (.lst (a.map pr)) := by
  have := addN (m := m) [] a (by simpa using h)
  simpa using this
theorem add00 {m : Mem} : binD .Add (.lst []) (.lst []) m = some (.lst []) := by
  have := addN (m := m) [] [] (by simp)
  simpa using this
theorem namesE_ok : ∀ (e : E), e.leaves ≤ 1000 → ∀ k, e.deep + 1 ≤ k → ∀ m, pg.call k "_law_names" [e.enc] m = .ok (.lst ((nmE e).map pr)) m
  | .num i, _, k + 1, _, m => by
    rw [r__law_names, runF_ap (np := 1) _ rfl]
    unfold b__law_names
    simp [E.enc, in2, cut1, it_tup, forGo, same_nil, nmE, add00]
  | .nam x, _, k + 1, _, m => by
    rw [r__law_names, runF_ap (np := 1) _ rfl]
    unfold b__law_names
    simp [E.enc, in2, nmE, pr]
  | .old x, _, k + 1, _, m => by
    rw [r__law_names, runF_ap (np := 1) _ rfl]
    unfold b__law_names
    simp [E.enc, in2, nmE, pr]
  | .two s a b, h, k + 1, hk, m => by
    simp only [E.deep] at hk
    simp only [E.leaves] at h
    have pa := a.leaves_pos
    have pb := b.leaves_pos
    have ra := namesE_ok a (by omega) k (by omega) m
    have rb := namesE_ok b (by omega) k (by omega) m
    have la := nmE_len a
    have lb := nmE_len b
    obtain ⟨da, ea⟩ : ∃ ds, a.enc = .tup ds := by cases a <;> exact ⟨_, rfl⟩
    obtain ⟨db, eb⟩ : ∃ ds, b.enc = .tup ds := by cases b <;> exact ⟨_, rfl⟩
    rw [ea] at ra
    rw [eb] at rb
    have e1 := fun m => add0N (m := m) (nmE a) (by omega)
    have e2 := fun m => addN (m := m) (nmE a) (nmE b) (by omega)
    rw [r__law_names, runF_ap (np := 1) _ rfl]
    unfold b__law_names
    simp only [List.map_append] at e2
    simp [E.enc, in2, cut1, it_tup, forGo, same_nil, nmE, add00, ea, eb, ra, rb, e1, e2]
theorem namesC_ok : ∀ (e : Cd), e.leaves ≤ 1000 → ∀ k, e.deep + 2 ≤ k → ∀ m, pg.call k "_law_names" [e.enc] m = .ok (.lst ((nmC e).map pr)) m
  | .tru b, _, k + 1, _, m => by
    rw [r__law_names, runF_ap (np := 1) _ rfl]
    unfold b__law_names
    simp [Cd.enc, in2, cut1, it_tup, forGo, same_nil, nmC, add00]
  | .neg c, h, k + 1, hk, m => by
    simp only [Cd.deep] at hk
    simp only [Cd.leaves] at h
    have ra := namesC_ok c (by omega) k (by omega) m
    have la := nmC_len c
    obtain ⟨da, ea⟩ : ∃ ds, c.enc = .tup ds := by cases c <;> exact ⟨_, rfl⟩
    rw [ea] at ra
    have e1 := fun m => add0N (m := m) (nmC c) (by omega)
    rw [r__law_names, runF_ap (np := 1) _ rfl]
    unfold b__law_names
    simp [Cd.enc, in2, cut1, it_tup, forGo, same_nil, nmC, add00, ea, ra, e1]
  | .both w a b, h, k + 1, hk, m => by
    simp only [Cd.deep] at hk
    simp only [Cd.leaves] at h
    have ra := namesC_ok a (by omega) k (by omega) m
    have rb := namesC_ok b (by omega) k (by omega) m
    have la := nmC_len a
    have lb := nmC_len b
    obtain ⟨da, ea⟩ : ∃ ds, a.enc = .tup ds := by cases a <;> exact ⟨_, rfl⟩
    obtain ⟨db, eb⟩ : ∃ ds, b.enc = .tup ds := by cases b <;> exact ⟨_, rfl⟩
    rw [ea] at ra
    rw [eb] at rb
    have e1 := fun m => add0N (m := m) (nmC a) (by omega)
    have e2 := fun m => addN (m := m) (nmC a) (nmC b) (by omega)
    rw [r__law_names, runF_ap (np := 1) _ rfl]
    unfold b__law_names
    simp only [List.map_append] at e2
    cases w <;> simp [Cd.enc, wBoth, in2, cut1, it_tup, forGo, same_nil, nmC, add00, ea, eb, ra, rb, e1, e2]
  | .cmp w a b, h, k + 1, hk, m => by
    simp only [Cd.deep] at hk
    simp only [Cd.leaves] at h
    have ra := namesE_ok a (by omega) k (by omega) m
    have rb := namesE_ok b (by omega) k (by omega) m
    have la := nmE_len a
    have lb := nmE_len b
    obtain ⟨da, ea⟩ : ∃ ds, a.enc = .tup ds := by cases a <;> exact ⟨_, rfl⟩
    obtain ⟨db, eb⟩ : ∃ ds, b.enc = .tup ds := by cases b <;> exact ⟨_, rfl⟩
    rw [ea] at ra
    rw [eb] at rb
    have e1 := fun m => add0N (m := m) (nmE a) (by omega)
    have e2 := fun m => addN (m := m) (nmE a) (nmE b) (by omega)
    rw [r__law_names, runF_ap (np := 1) _ rfl]
    unfold b__law_names
    simp only [List.map_append] at e2
    cases w <;> simp [Cd.enc, wCmp, in2, cut1, it_tup, forGo, same_nil, nmC, add00, ea, eb, ra, rb, e1, e2]
/-! ### old ones -/
def hoE : E → Bool
  | .num _ => false
  | .nam _ => false
  | .old _ => true
  | .two _ a b => hoE a || hoE b
def hoC : Cd → Bool
  | .tru _ => false
  | .neg c => hoC c
  | .both _ a b => hoC a || hoC b
  | .cmp _ a b => hoE a || hoE b
theorem any1 {m : Mem} (a : Bool) : bltD .any [.lst [.bl a]] m = some (.bl a) := by
  have := any_map (m := m) [a]
  simpa using this
theorem any2 {m : Mem} (a b : Bool) : bltD .any [.lst [.bl a, .bl b]] m = some (.bl (a || b)) := by
  have := any_map (m := m) [a, b]
  simpa using this
theorem any3 {m : Mem} (a b c : Bool) : bltD .any [.lst [.bl a, .bl b, .bl c]] m = some (.bl (a || b || c)) := by
  have := any_map (m := m) [a, b, c]
  simpa [Bool.or_assoc] using this
theorem lc_sl {e : Sto} {m : Mem} {x : D} {r vs : List D} {ft : FB} {fe : FE} (h0 : atV e 0 = some (.tup (x :: r))) (h : lcGo (.name 1) ft fe (wipe e [1]) [] m r m = .ok vs m) (hz : vs.length ≤ 1000) :
    fLc [1] (.name 1) (iVal (fSl (fVar 0) (some (fCon (.int 1))) none)) ft fe e m = .ok (.lst vs) m :=
  fLc_ap (p := (r, [])) (iVal_tup (by simp [h0, cut1])) h (sl_of (by omega))
theorem hasE_ok : ∀ (e : E) k, e.deep + 1 ≤ k → ∀ m, pg.call k "has_old" [e.enc] m = .ok (.bl (hoE e)) m
  | .num i, k + 1, _, m => by
    rw [r_has_old, runF_ap (np := 1) _ rfl]
    unfold b_has_old
    have e1 := lc_sl (e := [some (E.num i).enc, none]) (m := m) (x := .str "number") (r := [.int i]) (vs := [.bl false]) (ft := Cs.tYes) (fe := fAndV (fIsi .tuple (fVar 1)) (fApp (pg.call k "has_old") (fCons (fVar 1) fNil))) (by simp [E.enc]) (by simp [lcGo, same_nil]) (by simp)
    simp only [E.enc] at e1
    simp [E.enc, e1, any1, hoE]
  | .nam x, k + 1, _, m => by
    rw [r_has_old, runF_ap (np := 1) _ rfl]
    unfold b_has_old
    have e1 := lc_sl (e := [some (E.nam x).enc, none]) (m := m) (x := .str "name") (r := [.str x]) (vs := [.bl false]) (ft := Cs.tYes) (fe := fAndV (fIsi .tuple (fVar 1)) (fApp (pg.call k "has_old") (fCons (fVar 1) fNil))) (by simp [E.enc]) (by simp [lcGo, same_nil]) (by simp)
    simp only [E.enc] at e1
    simp [E.enc, e1, any1, hoE]
  | .old x, k + 1, _, m => by
    rw [r_has_old, runF_ap (np := 1) _ rfl]
    unfold b_has_old
    simp [E.enc, hoE]
  | .two s a b, k + 1, hk, m => by
    simp only [E.deep] at hk
    have ra := hasE_ok a k (by omega) m
    have rb := hasE_ok b k (by omega) m
    obtain ⟨da, ea⟩ : ∃ ds, a.enc = .tup ds := by cases a <;> exact ⟨_, rfl⟩
    obtain ⟨db, eb⟩ : ∃ ds, b.enc = .tup ds := by cases b <;> exact ⟨_, rfl⟩
    rw [ea] at ra
    rw [eb] at rb
    rw [r_has_old, runF_ap (np := 1) _ rfl]
    unfold b_has_old
    have e1 := lc_sl (e := [some (.tup [.str "two", .str s.str, .tup da, .tup db]), none]) (m := m) (x := .str "two") (r := [.str s.str, .tup da, .tup db]) (vs := [.bl false, .bl (hoE a), .bl (hoE b)]) (ft := Cs.tYes) (fe := fAndV (fIsi .tuple (fVar 1)) (fApp (pg.call k "has_old") (fCons (fVar 1) fNil))) (by simp) (by simp [lcGo, same_nil, ra, rb]) (by simp)
    simp [E.enc, ea, eb, e1, any3, hoE]
theorem hasC_ok : ∀ (e : Cd) k, e.deep + 2 ≤ k → ∀ m, pg.call k "has_old" [e.enc] m = .ok (.bl (hoC e)) m
  | .tru b, k + 1, _, m => by
    rw [r_has_old, runF_ap (np := 1) _ rfl]
    unfold b_has_old
    have e1 := lc_sl (e := [some (Cd.tru b).enc, none]) (m := m) (x := .str "truth") (r := [.bl b]) (vs := [.bl false]) (ft := Cs.tYes) (fe := fAndV (fIsi .tuple (fVar 1)) (fApp (pg.call k "has_old") (fCons (fVar 1) fNil))) (by simp [Cd.enc]) (by simp [lcGo, same_nil]) (by simp)
    simp only [Cd.enc] at e1
    simp [Cd.enc, e1, any1, hoC]
  | .neg c, k + 1, hk, m => by
    simp only [Cd.deep] at hk
    have ra := hasC_ok c k (by omega) m
    obtain ⟨da, ea⟩ : ∃ ds, c.enc = .tup ds := by cases c <;> exact ⟨_, rfl⟩
    rw [ea] at ra
    rw [r_has_old, runF_ap (np := 1) _ rfl]
    unfold b_has_old
    have e1 := lc_sl (e := [some (.tup [.str "not", .tup da]), none]) (m := m) (x := .str "not") (r := [.tup da]) (vs := [.bl (hoC c)]) (ft := Cs.tYes) (fe := fAndV (fIsi .tuple (fVar 1)) (fApp (pg.call k "has_old") (fCons (fVar 1) fNil))) (by simp) (by simp [lcGo, same_nil, ra]) (by simp)
    simp [Cd.enc, ea, e1, any1, hoC]
  | .both w a b, k + 1, hk, m => by
    simp only [Cd.deep] at hk
    have ra := hasC_ok a k (by omega) m
    have rb := hasC_ok b k (by omega) m
    obtain ⟨da, ea⟩ : ∃ ds, a.enc = .tup ds := by cases a <;> exact ⟨_, rfl⟩
    obtain ⟨db, eb⟩ : ∃ ds, b.enc = .tup ds := by cases b <;> exact ⟨_, rfl⟩
    rw [ea] at ra
    rw [eb] at rb
    rw [r_has_old, runF_ap (np := 1) _ rfl]
    unfold b_has_old
    have e1 := lc_sl (e := [some (.tup [.str (wBoth w), .tup da, .tup db]), none]) (m := m) (x := .str (wBoth w)) (r := [.tup da, .tup db]) (vs := [.bl (hoC a), .bl (hoC b)]) (ft := Cs.tYes) (fe := fAndV (fIsi .tuple (fVar 1)) (fApp (pg.call k "has_old") (fCons (fVar 1) fNil))) (by simp) (by simp [lcGo, same_nil, ra, rb]) (by simp)
    have g : (wBoth w == ("old" : Str)) = false := by cases w <;> simp [wBoth] <;> decide
    simp [Cd.enc, ea, eb, e1, any2, hoC, g]
  | .cmp w a b, k + 1, hk, m => by
    simp only [Cd.deep] at hk
    have ra := hasE_ok a k (by omega) m
    have rb := hasE_ok b k (by omega) m
    obtain ⟨da, ea⟩ : ∃ ds, a.enc = .tup ds := by cases a <;> exact ⟨_, rfl⟩
    obtain ⟨db, eb⟩ : ∃ ds, b.enc = .tup ds := by cases b <;> exact ⟨_, rfl⟩
    rw [ea] at ra
    rw [eb] at rb
    rw [r_has_old, runF_ap (np := 1) _ rfl]
    unfold b_has_old
    have e1 := lc_sl (e := [some (.tup [.str (wCmp w), .tup da, .tup db]), none]) (m := m) (x := .str (wCmp w)) (r := [.tup da, .tup db]) (vs := [.bl (hoE a), .bl (hoE b)]) (ft := Cs.tYes) (fe := fAndV (fIsi .tuple (fVar 1)) (fApp (pg.call k "has_old") (fCons (fVar 1) fNil))) (by simp) (by simp [lcGo, same_nil, ra, rb]) (by simp)
    have g : (wCmp w == ("old" : Str)) = false := by cases w <;> simp [wCmp] <;> decide
    simp [Cd.enc, ea, eb, e1, any2, hoC, g]
end K01

/-! The names as a dict; what is put in their stead. -/
namespace K01
open PySem Cs Com
def ins (l : List Str) (x : Str) : List Str := if l.any (· == x) then l else l ++ [x]
def mg (a b : List Str) : List Str := b.foldl ins a
theorem any_find {l : List Str} {x : Str} : l.any (· == x) = (l.findIdx? (· == x)).isSome := by
  induction l with
  | nil => rfl
  | cons y l ih =>
    rw [List.any_cons, List.findIdx?_cons, ih]
    cases h : (y == x) <;> simp
theorem putK_ins (l : List Str) (x : Str) : putK (l.map .str) (l.map fun _ => D.bl true) (.str x) (.bl true) = ((ins l x).map .str, (ins l x).map fun _ => .bl true) := by
  unfold putK ins
  rw [findK_str, any_find]
  cases h : l.findIdx? (· == x) with
  | none => simp
  | some i =>
    simp
    apply List.ext_getElem
    · simp
    · intro j h1 h2
      rw [List.getElem_set]
      split <;> simp
theorem mergeD_mg : ∀ (b a : List Str), mergeD (a.map .str) (a.map fun _ => D.bl true) (b.map .str) (b.map fun _ => D.bl true) = ((mg a b).map .str, (mg a b).map fun _ => .bl true)
  | [], a => rfl
  | x :: b, a => by
    simp only [List.map_cons, mergeD, putK_ins, mergeD_mg b (ins a x), mg, List.foldl_cons]
theorem ins_mem {l : List Str} {x y : Str} : y ∈ ins l x ↔ y ∈ l ∨ y = x := by
  unfold ins
  split
  · rename_i h
    obtain ⟨z, hz, e⟩ := List.any_eq_true.mp h
    have := eq_of_beq e
    subst this
    exact ⟨.inl, fun h => h.elim id fun e => e ▸ hz⟩
  · simp
theorem ins_old {l : List Str} {x : Str} (h : x ∈ l) : ins l x = l := by
  unfold ins
  rw [if_pos]
  exact List.any_eq_true.mpr ⟨x, h, by simp⟩
theorem mg_mem {b a : List Str} {y : Str} : y ∈ mg a b ↔ y ∈ a ∨ y ∈ b := by
  induction b generalizing a with
  | nil => simp [mg]
  | cons x b ih =>
    show y ∈ mg (ins a x) b ↔ _
    rw [ih, ins_mem, List.mem_cons, or_assoc]
theorem mg_app (a b c : List Str) : mg a (b ++ c) = mg (mg a b) c := by simp [mg, List.foldl_append]
theorem mg_old {b a : List Str} (h : ∀ x ∈ b, x ∈ a) : mg a b = a := by
  induction b with
  | nil => rfl
  | cons x b ih =>
    show mg (ins a x) b = a
    rw [ins_old (h x List.mem_cons_self)]
    exact ih fun y hy => h y (List.mem_cons_of_mem _ hy)
/-- what was gathered apart may be gathered at once -/
theorem mg_mg (a l : List Str) : ∀ c : List Str, (∀ x ∈ c, x ∈ a) → mg a (mg c l) = mg a l := by
  induction l generalizing a with
  | nil => exact fun c h => mg_old h
  | cons x l ih =>
    intro c h
    show mg a (mg (ins c x) l) = mg (ins a x) l
    by_cases hx : x ∈ c
    · rw [ins_old hx, ins_old (h x hx)]
      exact ih a c h
    · have e : ∀ (a : List Str) (c : List Str), (∀ y ∈ c, y ∈ a) → mg a (mg (c ++ [x]) l) = mg (ins a x) (mg (c ++ [x]) l) := by
        intro a c h
        have pre : ∀ (l c : List Str), ∃ t, mg c l = c ++ t := by
          intro l
          induction l with
          | nil => exact fun c => ⟨[], by simp [mg]⟩
          | cons y l ih =>
            intro c
            obtain ⟨t, ht⟩ := ih (ins c y)
            show ∃ t, mg (ins c y) l = c ++ t
            rw [ht]
            unfold ins
            split
            · exact ⟨t, rfl⟩
            · exact ⟨[y] ++ t, by simp⟩
        obtain ⟨t, ht⟩ := pre l (c ++ [x])
        rw [ht, List.append_assoc, mg_app, mg_app (ins a x), mg_old h, mg_old (a := ins a x) (fun y hy => ins_mem.mpr (.inl (h y hy)))]
        show mg (ins a x) t = mg (ins (ins a x) x) t
        rw [ins_old (l := ins a x) (ins_mem.mpr (.inr rfl))]
      have e2 : ins c x = c ++ [x] := by
        unfold ins
        rw [if_neg]
        intro q
        obtain ⟨z, hz, e⟩ := List.any_eq_true.mp q
        exact hx (eq_of_beq e ▸ hz)
      rw [e2, e a c h]
      refine ih (ins a x) (c ++ [x]) fun y hy => ?_
      rcases List.mem_append.mp hy with hy | hy
      · exact ins_mem.mpr (.inl (h y hy))
      · exact ins_mem.mpr (.inr (List.mem_singleton.mp hy))
theorem mg0 (a l : List Str) : mg a (mg [] l) = mg a l := mg_mg a l [] (fun _ h => nomatch h)
theorem ins_nodup {l : List Str} (x : Str) (h : l.Nodup) : (ins l x).Nodup := by
  unfold ins
  split
  · exact h
  · rename_i q
    rw [List.nodup_append]
    refine ⟨h, by simp, fun y hy z hz => ?_⟩
    rw [List.mem_singleton.mp hz]
    rintro rfl
    exact q (List.any_eq_true.mpr ⟨y, hy, by simp⟩)
theorem mg_nodup {b a : List Str} (h : a.Nodup) : (mg a b).Nodup := by
  induction b generalizing a with
  | nil => exact h
  | cons x b ih => exact ih (ins_nodup x h)
theorem mg_len (b a : List Str) : (mg a b).length ≤ a.length + b.length := by
  induction b generalizing a with
  | nil => exact Nat.le_refl _
  | cons x b ih =>
    have := ih (ins a x)
    have h2 : (ins a x).length ≤ a.length + 1 := by unfold ins; split <;> simp
    show (mg (ins a x) b).length ≤ _
    rw [List.length_cons]
    omega
def uq (l : List (Str × Bool)) : List Str := mg [] (l.map (·.1))
theorem uq_app (a b : List (Str × Bool)) : mg (uq a) (uq b) = uq (a ++ b) := by
  unfold uq
  rw [mg0, List.map_append, mg_app]
theorem uq_len (a : List (Str × Bool)) : (uq a).length ≤ a.length := by
  have := mg_len (a.map (·.1)) []
  unfold uq
  simpa using this
/-- one put into the other, which stands last -/
theorem upd_last {e : Sto} {m : Mem} {i : Nat} {fs : FL} {a b : List Str} (he : atV e i = some (.ref m.length)) (hf : fs e (m ++ [.dct (a.map .str) (a.map fun _ => .bl true)]) = .ok [dK b] (m ++ [.dct (a.map .str) (a.map fun _ => .bl true)])) (hz : a.length + b.length ≤ 1000000) :
    fMth .update (fVar i) fs e (m ++ [.dct (a.map .str) (a.map fun _ => .bl true)]) = .ok .non (m ++ [.dct ((mg a b).map .str) ((mg a b).map fun _ => .bl true)]) := by
  have h1 : (m ++ [Cell.dct (a.map .str) (a.map fun _ => .bl true)])[m.length]? = some (.dct (a.map .str) (a.map fun _ => .bl true)) := by simp
  refine (fMth_at .update (k := .dct) (fo := fVar i) (by rw [fVar_ap, he]; rfl) (by simp [rkD, Cs.res, h1]) rfl hf).trans ?_
  show ofP (updM (.ref m.length) [dK b] (m ++ [Cell.dct (a.map .str) (a.map fun _ => .bl true)])) = _
  have hz' : (a.map D.str).length + (b.map D.str).length ≤ sizeLine := by rw [List.length_map, List.length_map]; exact sl_of hz
  simp only [updM, dK, h1, flat_strs, hz', Bool.and_self, decide_true, if_true, ofP_some, setC, mergeD_mg]
  simp
theorem plain_tr : ∀ l : List Str, plainL (l.map fun _ => D.bl true) = true
  | [] => rfl
  | _ :: l => by simp only [List.map_cons, plainL, Cs.plain, plain_tr l, Bool.and_self]
theorem gc_dK (m : Mem) (l : List Str) : gcR (.ref m.length) m (m ++ [.dct (l.map .str) (l.map fun _ => .bl true)]) = .ok (dK l) m := by
  refine gcR_app ?_
  have h1 : (m ++ [Cell.dct (l.map .str) (l.map fun _ => .bl true)])[m.length]? = some (.dct (l.map .str) (l.map fun _ => .bl true)) := by simp
  simp only [frz1, Nat.lt_irrefl, if_false, rsC, h1]
  rw [frzL_low (lowL_plain _ (plain_tr l))]
  rfl
theorem nodup1 (x : Str) : mg [] [x] = [x] := rfl
theorem ninE_ok : ∀ (e : E), e.leaves ≤ 1000 → ∀ k, e.deep + 1 ≤ k → ∀ m, pg.call k "names_in" [e.enc] m = .ok (dK (uq (nmE e))) m
  | .num i, _, k + 1, _, m => by
    rw [r_names_in, runF_ap (np := 1) _ rfl]
    unfold b_names_in
    have g := gc_dK m []
    simp only [List.map_nil] at g
    simp [E.enc, in2, cut1, it_tup, forGo, same_nil, nmE, uq, mg, g]
  | .nam x, _, k + 1, _, m => by
    rw [r_names_in, runF_ap (np := 1) _ rfl]
    unfold b_names_in
    have : ∀ e : Sto, atV e 0 = some (.tup [.str "name", .str x]) → fDct [((fIx (fVar 0) (fCon (.int 1))), (fCon (.bl true)))] e m = .ok (dK [x]) m := by
      intro e he
      simp [fDct, fPairs, he, flatK, mergeD, putK, findK, dK]
    have g := gcR_low (m := m) (d := dK [x]) (x := []) (by simp [dK, low, lowL])
    simp only [List.append_nil] at g
    simp [E.enc, in2, this, nmE, uq, nodup1, g]
  | .old x, _, k + 1, _, m => by
    rw [r_names_in, runF_ap (np := 1) _ rfl]
    unfold b_names_in
    have : ∀ e : Sto, atV e 0 = some (.tup [.str "old", .str x]) → fDct [((fIx (fVar 0) (fCon (.int 1))), (fCon (.bl true)))] e m = .ok (dK [x]) m := by
      intro e he
      simp [fDct, fPairs, he, flatK, mergeD, putK, findK, dK]
    have g := gcR_low (m := m) (d := dK [x]) (x := []) (by simp [dK, low, lowL])
    simp only [List.append_nil] at g
    simp [E.enc, in2, this, nmE, uq, nodup1, g]
  | .two s a b, h, k + 1, hk, m => by
    simp only [E.deep] at hk
    simp only [E.leaves] at h
    have pa := a.leaves_pos
    have pb := b.leaves_pos
    obtain ⟨da, ea⟩ : ∃ ds, a.enc = .tup ds := by cases a <;> exact ⟨_, rfl⟩
    obtain ⟨db, eb⟩ : ∃ ds, b.enc = .tup ds := by cases b <;> exact ⟨_, rfl⟩
    have ra := ninE_ok a (by omega) k (by omega)
    have rb := ninE_ok b (by omega) k (by omega)
    rw [ea] at ra
    rw [eb] at rb
    have la := Nat.le_trans (uq_len (nmE a)) (nmE_len a)
    have lb := Nat.le_trans (uq_len (nmE b)) (nmE_len b)
    rw [r_names_in, runF_ap (np := 1) _ rfl]
    unfold b_names_in
    have u1 := upd_last (m := m) (i := 1) (e := [some (.tup [.str "two", .str s.str, .tup da, .tup db]), some (.ref m.length), some (.tup da)]) (fs := fCons (fApp (pg.call k "names_in") (fCons (fVar 2) fNil)) fNil) (a := []) (b := uq (nmE a)) (by simp) (by simp [ra]) (by simp; omega)
    have u2 := upd_last (m := m) (i := 1) (e := [some (.tup [.str "two", .str s.str, .tup da, .tup db]), some (.ref m.length), some (.tup db)]) (fs := fCons (fApp (pg.call k "names_in") (fCons (fVar 2) fNil)) fNil) (a := uq (nmE a)) (b := uq (nmE b)) (by simp) (by simp [rb]) (by omega)
    rw [uq_app] at u2
    have e0 : mg [] (uq (nmE a)) = uq (nmE a) := mg0 [] _
    rw [e0] at u1
    simp only [List.map_nil] at u1
    have g := gc_dK m (uq (nmE a ++ nmE b))
    simp [E.enc, in2, cut1, it_tup, forGo, same_nil, nmE, ea, eb, u1, u2, g]
theorem ninC_ok : ∀ (e : Cd), e.leaves ≤ 1000 → ∀ k, e.deep + 2 ≤ k → ∀ m, pg.call k "names_in" [e.enc] m = .ok (dK (uq (nmC e))) m
  | .tru i, _, k + 1, _, m => by
    rw [r_names_in, runF_ap (np := 1) _ rfl]
    unfold b_names_in
    have g := gc_dK m []
    simp only [List.map_nil] at g
    simp [Cd.enc, in2, cut1, it_tup, forGo, same_nil, nmC, uq, mg, g]
  | .neg c, h, k + 1, hk, m => by
    simp only [Cd.deep] at hk
    simp only [Cd.leaves] at h
    obtain ⟨da, ea⟩ : ∃ ds, c.enc = .tup ds := by cases c <;> exact ⟨_, rfl⟩
    have ra := ninC_ok c (by omega) k (by omega)
    rw [ea] at ra
    have la := Nat.le_trans (uq_len (nmC c)) (nmC_len c)
    rw [r_names_in, runF_ap (np := 1) _ rfl]
    unfold b_names_in
    have u1 := upd_last (m := m) (i := 1) (e := [some (.tup [.str "not", .tup da]), some (.ref m.length), some (.tup da)]) (fs := fCons (fApp (pg.call k "names_in") (fCons (fVar 2) fNil)) fNil) (a := []) (b := uq (nmC c)) (by simp) (by simp [ra]) (by simp; omega)
    have e0 : mg [] (uq (nmC c)) = uq (nmC c) := mg0 [] _
    rw [e0] at u1
    simp only [List.map_nil] at u1
    have g := gc_dK m (uq (nmC c))
    simp [Cd.enc, in2, cut1, it_tup, forGo, same_nil, nmC, ea, u1, g]
  | .both w a b, h, k + 1, hk, m => by
    simp only [Cd.deep] at hk
    simp only [Cd.leaves] at h
    obtain ⟨da, ea⟩ : ∃ ds, a.enc = .tup ds := by cases a <;> exact ⟨_, rfl⟩
    obtain ⟨db, eb⟩ : ∃ ds, b.enc = .tup ds := by cases b <;> exact ⟨_, rfl⟩
    have ra := ninC_ok a (by omega) k (by omega)
    have rb := ninC_ok b (by omega) k (by omega)
    rw [ea] at ra
    rw [eb] at rb
    have la := Nat.le_trans (uq_len (nmC a)) (nmC_len a)
    have lb := Nat.le_trans (uq_len (nmC b)) (nmC_len b)
    rw [r_names_in, runF_ap (np := 1) _ rfl]
    unfold b_names_in
    have u1 := upd_last (m := m) (i := 1) (e := [some (.tup [.str (wBoth w), .tup da, .tup db]), some (.ref m.length), some (.tup da)]) (fs := fCons (fApp (pg.call k "names_in") (fCons (fVar 2) fNil)) fNil) (a := []) (b := uq (nmC a)) (by simp) (by simp [ra]) (by simp; omega)
    have u2 := upd_last (m := m) (i := 1) (e := [some (.tup [.str (wBoth w), .tup da, .tup db]), some (.ref m.length), some (.tup db)]) (fs := fCons (fApp (pg.call k "names_in") (fCons (fVar 2) fNil)) fNil) (a := uq (nmC a)) (b := uq (nmC b)) (by simp) (by simp [rb]) (by omega)
    rw [uq_app] at u2
    have e0 : mg [] (uq (nmC a)) = uq (nmC a) := mg0 [] _
    rw [e0] at u1
    simp only [List.map_nil] at u1
    have g := gc_dK m (uq (nmC a ++ nmC b))
    have i2 : ∀ m, cmpD .In (.str (wBoth w)) (.tup [.str "name", .str "old"]) m = some false := fun m => by rw [in2]; cases w <;> simp [wBoth]
    simp [Cd.enc, i2, cut1, it_tup, forGo, same_nil, nmC, ea, eb, u1, u2, g]
  | .cmp w a b, h, k + 1, hk, m => by
    simp only [Cd.deep] at hk
    simp only [Cd.leaves] at h
    obtain ⟨da, ea⟩ : ∃ ds, a.enc = .tup ds := by cases a <;> exact ⟨_, rfl⟩
    obtain ⟨db, eb⟩ : ∃ ds, b.enc = .tup ds := by cases b <;> exact ⟨_, rfl⟩
    have ra := ninE_ok a (by omega) k (by omega)
    have rb := ninE_ok b (by omega) k (by omega)
    rw [ea] at ra
    rw [eb] at rb
    have la := Nat.le_trans (uq_len (nmE a)) (nmE_len a)
    have lb := Nat.le_trans (uq_len (nmE b)) (nmE_len b)
    rw [r_names_in, runF_ap (np := 1) _ rfl]
    unfold b_names_in
    have u1 := upd_last (m := m) (i := 1) (e := [some (.tup [.str (wCmp w), .tup da, .tup db]), some (.ref m.length), some (.tup da)]) (fs := fCons (fApp (pg.call k "names_in") (fCons (fVar 2) fNil)) fNil) (a := []) (b := uq (nmE a)) (by simp) (by simp [ra]) (by simp; omega)
    have u2 := upd_last (m := m) (i := 1) (e := [some (.tup [.str (wCmp w), .tup da, .tup db]), some (.ref m.length), some (.tup db)]) (fs := fCons (fApp (pg.call k "names_in") (fCons (fVar 2) fNil)) fNil) (a := uq (nmE a)) (b := uq (nmE b)) (by simp) (by simp [rb]) (by omega)
    rw [uq_app] at u2
    have e0 : mg [] (uq (nmE a)) = uq (nmE a) := mg0 [] _
    rw [e0] at u1
    simp only [List.map_nil] at u1
    have g := gc_dK m (uq (nmE a ++ nmE b))
    have i2 : ∀ m, cmpD .In (.str (wCmp w)) (.tup [.str "name", .str "old"]) m = some false := fun m => by rw [in2]; cases w <;> simp [wCmp]
    simp [Cd.enc, i2, cut1, it_tup, forGo, same_nil, nmC, ea, eb, u1, u2, g]
end K01

/-! Others put in the stead of names; dicts that are the same. -/
namespace K01
open PySem Cs Com
def ptE (o : Bool) (x : Str) (f : E) : E → E
  | .num i => .num i
  | .nam y => if o = false ∧ x = y then f else .nam y
  | .old y => if o = true ∧ x = y then f else .old y
  | .two s a b => .two s (ptE o x f a) (ptE o x f b)
def ptC (o : Bool) (x : Str) (f : E) : Cd → Cd
  | .tru b => .tru b
  | .neg c => .neg (ptC o x f c)
  | .both w a b => .both w (ptC o x f a) (ptC o x f b)
  | .cmp w a b => .cmp w (ptE o x f a) (ptE o x f b)
theorem ptE_deep (o : Bool) (x : Str) (f : E) : ∀ e : E, (ptE o x f e).deep ≤ e.deep + f.deep
  | .num _ => Nat.zero_le _
  | .nam _ => by simp only [ptE]; split <;> simp only [E.deep] <;> omega
  | .old _ => by simp only [ptE]; split <;> simp only [E.deep] <;> omega
  | .two _ a b => by have := ptE_deep o x f a; have := ptE_deep o x f b; simp only [ptE, E.deep]; omega
theorem ptE_leaves (o : Bool) (x : Str) (f : E) : ∀ e : E, (ptE o x f e).leaves ≤ e.leaves * f.leaves
  | .num _ => by have := f.leaves_pos; simp only [ptE, E.leaves]; omega
  | .nam _ => by have := f.leaves_pos; simp only [ptE]; split <;> simp only [E.leaves] <;> omega
  | .old _ => by have := f.leaves_pos; simp only [ptE]; split <;> simp only [E.leaves] <;> omega
  | .two _ a b => by have := ptE_leaves o x f a; have := ptE_leaves o x f b; simp only [ptE, E.leaves, Nat.add_mul]; omega
theorem ptC_deep (o : Bool) (x : Str) (f : E) : ∀ e : Cd, (ptC o x f e).deep ≤ e.deep + f.deep
  | .tru _ => Nat.zero_le _
  | .neg c => by have := ptC_deep o x f c; simp only [ptC, Cd.deep]; omega
  | .both _ a b => by have := ptC_deep o x f a; have := ptC_deep o x f b; simp only [ptC, Cd.deep]; omega
  | .cmp _ a b => by have := ptE_deep o x f a; have := ptE_deep o x f b; simp only [ptC, Cd.deep]; omega
theorem ptC_leaves (o : Bool) (x : Str) (f : E) : ∀ e : Cd, (ptC o x f e).leaves ≤ e.leaves * f.leaves
  | .tru _ => by have := f.leaves_pos; simp only [ptC, Cd.leaves]; omega
  | .neg c => by have := ptC_leaves o x f c; have := f.leaves_pos; simp only [ptC, Cd.leaves, Nat.add_mul]; omega
  | .both _ a b => by have := ptC_leaves o x f a; have := ptC_leaves o x f b; simp only [ptC, Cd.leaves, Nat.add_mul]; omega
  | .cmp _ a b => by have := ptE_leaves o x f a; have := ptE_leaves o x f b; simp only [ptC, Cd.leaves, Nat.add_mul]; omega
theorem get_one {e : Sto} {m : Mem} {x y : Str} {v d : D} {w : D} (h0 : atV e 0 = some (.tup [w, .str y])) (h1 : atV e 1 = some (.dct [.str x] [v])) :
    fMth .get (fVar 1) (fCons (fIx (fVar 0) (fCon (.int 1))) (fCons (fVar 0) fNil)) e m = .ok (if x = y then v else .tup [w, .str y]) m := by
  refine (fMth_at .get (k := .dct) (o := .dct [.str x] [v]) (ds := [.str y, .tup [w, .str y]]) (m1 := m) (m2 := m) (by simp [h1]) rfl rfl (by simp [h0])).trans ?_
  show ofP (getM (.dct [.str x] [v]) [.str y, .tup [w, .str y]] m) = _
  by_cases h : x = y
  · subst h
    simp [getM, keyD, getK, findK, eqD]
  · have : (x == y) = false := by rw [beq_eq_false_iff_ne]; exact h
    simp [getM, keyD, getK, findK, eqD, h, this]
theorem lc3 {e : Sto} {m : Mem} {ds vs : List D} {ft : FB} {fe : FE} (h0 : atV e 0 = some (.tup ds)) (h : lcGo (.name 3) ft fe (wipe e [3]) [] m ds m = .ok vs m) (hz : vs.length ≤ 1000) :
    fLc [3] (.name 3) (iVar 0) ft fe e m = .ok (.lst vs) m :=
  fLc_ap (p := (ds, [])) (iVar_tup h0) h (sl_of (by omega))
theorem encE_tup (e : E) : ∃ ds, e.enc = .tup ds := by cases e <;> exact ⟨_, rfl⟩
theorem encC_tup (e : Cd) : ∃ ds, e.enc = .tup ds := by cases e <;> exact ⟨_, rfl⟩
/-- what either def does -/
def PutE (g : Nat → FF) : Prop := ∀ (o : Bool) (x : Str) (f : E) (e : E) k, e.deep + 1 ≤ k → ∀ m, g k [e.enc, .dct [.str x] [f.enc], .bl o] m = .ok (ptE o x f e).enc m
def PutC (g : Nat → FF) : Prop := ∀ (o : Bool) (x : Str) (f : E) (e : Cd) k, e.deep + 2 ≤ k → ∀ m, g k [e.enc, .dct [.str x] [f.enc], .bl o] m = .ok (ptC o x f e).enc m
theorem putE_ok (o : Bool) (x : Str) (f : E) : ∀ (e : E) k, e.deep + 1 ≤ k → ∀ m, pg.call k "put_in" [e.enc, .dct [.str x] [f.enc], .bl o] m = .ok (ptE o x f e).enc m
  | .num i, k + 1, _, m => by
    rw [r_put_in, runF_ap (np := 3) _ rfl]
    unfold b_put_in
    have e1 := lc3 (e := [some (.tup [.str "number", .int i]), some (.dct [.str x] [f.enc]), some (.bl o), none]) (m := m) (vs := [.str "number", .int i]) (ft := Cs.tYes) (fe := fIf (fTr (fIsi .tuple (fVar 3))) (fApp (pg.call k "put_in") (fCons (fVar 3) (fCons (fVar 1) (fCons (fVar 2) fNil)))) (fVar 3)) (by simp; rfl) (by simp [lcGo, same_nil]) (by simp)
    simp [E.enc, in2, e1, ptE]
  | .nam y, k + 1, _, m => by
    rw [r_put_in, runF_ap (np := 3) _ rfl]
    unfold b_put_in
    have e1 := get_one (e := [some (.tup [.str "name", .str y]), some (.dct [.str x] [f.enc]), some (.bl o), none]) (m := m) (x := x) (y := y) (v := f.enc) (d := .non) (w := .str "name") (by simp) (by simp)
    cases o
    · simp [E.enc, in2, e1, ptE]
      split <;> rfl
    · simp [E.enc, in2, ptE]
  | .old y, k + 1, _, m => by
    rw [r_put_in, runF_ap (np := 3) _ rfl]
    unfold b_put_in
    have e1 := get_one (e := [some (.tup [.str "old", .str y]), some (.dct [.str x] [f.enc]), some (.bl o), none]) (m := m) (x := x) (y := y) (v := f.enc) (d := .non) (w := .str "old") (by simp) (by simp)
    cases o
    · simp [E.enc, in2, ptE]
    · simp [E.enc, in2, e1, ptE]
      split <;> rfl
  | .two s a b, k + 1, hk, m => by
    simp only [E.deep] at hk
    have ra := putE_ok o x f a k (by omega) m
    have rb := putE_ok o x f b k (by omega) m
    obtain ⟨da, ea⟩ := encE_tup a
    obtain ⟨db, eb⟩ := encE_tup b
    rw [ea] at ra
    rw [eb] at rb
    rw [r_put_in, runF_ap (np := 3) _ rfl]
    unfold b_put_in
    have e1 := lc3 (e := [some (.tup [.str "two", .str s.str, .tup da, .tup db]), some (.dct [.str x] [f.enc]), some (.bl o), none]) (m := m) (vs := [.str "two", .str s.str, (ptE o x f a).enc, (ptE o x f b).enc]) (ft := Cs.tYes) (fe := fIf (fTr (fIsi .tuple (fVar 3))) (fApp (pg.call k "put_in") (fCons (fVar 3) (fCons (fVar 1) (fCons (fVar 2) fNil)))) (fVar 3)) (by simp; rfl) (by simp [lcGo, same_nil, ra, rb]) (by simp)
    simp [E.enc, in2, ea, eb, e1, ptE]
theorem putC_ok (o : Bool) (x : Str) (f : E) : ∀ (e : Cd) k, e.deep + 2 ≤ k → ∀ m, pg.call k "put_in" [e.enc, .dct [.str x] [f.enc], .bl o] m = .ok (ptC o x f e).enc m
  | .tru i, k + 1, _, m => by
    rw [r_put_in, runF_ap (np := 3) _ rfl]
    unfold b_put_in
    have e1 := lc3 (e := [some (.tup [.str "truth", .bl i]), some (.dct [.str x] [f.enc]), some (.bl o), none]) (m := m) (vs := [.str "truth", .bl i]) (ft := Cs.tYes) (fe := fIf (fTr (fIsi .tuple (fVar 3))) (fApp (pg.call k "put_in") (fCons (fVar 3) (fCons (fVar 1) (fCons (fVar 2) fNil)))) (fVar 3)) (by simp; rfl) (by simp [lcGo, same_nil]) (by simp)
    simp [Cd.enc, in2, e1, ptC]
  | .neg c, k + 1, hk, m => by
    simp only [Cd.deep] at hk
    have ra := putC_ok o x f c k (by omega) m
    obtain ⟨da, ea⟩ := encC_tup c
    rw [ea] at ra
    rw [r_put_in, runF_ap (np := 3) _ rfl]
    unfold b_put_in
    have e1 := lc3 (e := [some (.tup [.str "not", .tup da]), some (.dct [.str x] [f.enc]), some (.bl o), none]) (m := m) (vs := [.str "not", (ptC o x f c).enc]) (ft := Cs.tYes) (fe := fIf (fTr (fIsi .tuple (fVar 3))) (fApp (pg.call k "put_in") (fCons (fVar 3) (fCons (fVar 1) (fCons (fVar 2) fNil)))) (fVar 3)) (by simp; rfl) (by simp [lcGo, same_nil, ra]) (by simp)
    simp [Cd.enc, in2, ea, e1, ptC]
  | .both w a b, k + 1, hk, m => by
    simp only [Cd.deep] at hk
    have ra := putC_ok o x f a k (by omega) m
    have rb := putC_ok o x f b k (by omega) m
    obtain ⟨da, ea⟩ := encC_tup a
    obtain ⟨db, eb⟩ := encC_tup b
    rw [ea] at ra
    rw [eb] at rb
    rw [r_put_in, runF_ap (np := 3) _ rfl]
    unfold b_put_in
    have e1 := lc3 (e := [some (.tup [.str (wBoth w), .tup da, .tup db]), some (.dct [.str x] [f.enc]), some (.bl o), none]) (m := m) (vs := [.str (wBoth w), (ptC o x f a).enc, (ptC o x f b).enc]) (ft := Cs.tYes) (fe := fIf (fTr (fIsi .tuple (fVar 3))) (fApp (pg.call k "put_in") (fCons (fVar 3) (fCons (fVar 1) (fCons (fVar 2) fNil)))) (fVar 3)) (by simp; rfl) (by simp [lcGo, same_nil, ra, rb]) (by simp)
    have i2 : ∀ m, cmpD .In (.str (wBoth w)) (.tup [.str "name", .str "old"]) m = some false := fun m => by rw [in2]; cases w <;> simp [wBoth]
    simp [Cd.enc, i2, ea, eb, e1, ptC]
  | .cmp w a b, k + 1, hk, m => by
    simp only [Cd.deep] at hk
    have ra := putE_ok o x f a k (by omega) m
    have rb := putE_ok o x f b k (by omega) m
    obtain ⟨da, ea⟩ := encE_tup a
    obtain ⟨db, eb⟩ := encE_tup b
    rw [ea] at ra
    rw [eb] at rb
    rw [r_put_in, runF_ap (np := 3) _ rfl]
    unfold b_put_in
    have e1 := lc3 (e := [some (.tup [.str (wCmp w), .tup da, .tup db]), some (.dct [.str x] [f.enc]), some (.bl o), none]) (m := m) (vs := [.str (wCmp w), (ptE o x f a).enc, (ptE o x f b).enc]) (ft := Cs.tYes) (fe := fIf (fTr (fIsi .tuple (fVar 3))) (fApp (pg.call k "put_in") (fCons (fVar 3) (fCons (fVar 1) (fCons (fVar 2) fNil)))) (fVar 3)) (by simp; rfl) (by simp [lcGo, same_nil, ra, rb]) (by simp)
    have i2 : ∀ m, cmpD .In (.str (wCmp w)) (.tup [.str "name", .str "old"]) m = some false := fun m => by rw [in2]; cases w <;> simp [wCmp]
    simp [Cd.enc, i2, ea, eb, e1, ptC]
theorem lputE_ok (o : Bool) (x : Str) (f : E) : ∀ (e : E) k, e.deep + 1 ≤ k → ∀ m, pg.call k "_law_put" [e.enc, .dct [.str x] [f.enc], .bl o] m = .ok (ptE o x f e).enc m
  | .num i, k + 1, _, m => by
    rw [r__law_put, runF_ap (np := 3) _ rfl]
    unfold b__law_put
    have e1 := lc3 (e := [some (.tup [.str "number", .int i]), some (.dct [.str x] [f.enc]), some (.bl o), none]) (m := m) (vs := [.str "number", .int i]) (ft := Cs.tYes) (fe := fIf (fTr (fIsi .tuple (fVar 3))) (fApp (pg.call k "_law_put") (fCons (fVar 3) (fCons (fVar 1) (fCons (fVar 2) fNil)))) (fVar 3)) (by simp; rfl) (by simp [lcGo, same_nil]) (by simp)
    simp [E.enc, in2, e1, ptE]
  | .nam y, k + 1, _, m => by
    rw [r__law_put, runF_ap (np := 3) _ rfl]
    unfold b__law_put
    have e1 := get_one (e := [some (.tup [.str "name", .str y]), some (.dct [.str x] [f.enc]), some (.bl o), none]) (m := m) (x := x) (y := y) (v := f.enc) (d := .non) (w := .str "name") (by simp) (by simp)
    have e2 := lc3 (e := [some (.tup [.str "name", .str y]), some (.dct [.str x] [f.enc]), some (.bl o), none]) (m := m) (vs := [.str "name", .str y]) (ft := Cs.tYes) (fe := fIf (fTr (fIsi .tuple (fVar 3))) (fApp (pg.call k "_law_put") (fCons (fVar 3) (fCons (fVar 1) (fCons (fVar 2) fNil)))) (fVar 3)) (by simp; rfl) (by simp [lcGo, same_nil]) (by simp)
    cases o
    · simp [E.enc, in2, e1, ptE]
      split <;> rfl
    · simp [E.enc, in2, e2, ptE]
  | .old y, k + 1, _, m => by
    rw [r__law_put, runF_ap (np := 3) _ rfl]
    unfold b__law_put
    have e1 := get_one (e := [some (.tup [.str "old", .str y]), some (.dct [.str x] [f.enc]), some (.bl o), none]) (m := m) (x := x) (y := y) (v := f.enc) (d := .non) (w := .str "old") (by simp) (by simp)
    have e2 := lc3 (e := [some (.tup [.str "old", .str y]), some (.dct [.str x] [f.enc]), some (.bl o), none]) (m := m) (vs := [.str "old", .str y]) (ft := Cs.tYes) (fe := fIf (fTr (fIsi .tuple (fVar 3))) (fApp (pg.call k "_law_put") (fCons (fVar 3) (fCons (fVar 1) (fCons (fVar 2) fNil)))) (fVar 3)) (by simp; rfl) (by simp [lcGo, same_nil]) (by simp)
    cases o
    · simp [E.enc, in2, e2, ptE]
    · simp [E.enc, in2, e1, ptE]
      split <;> rfl
  | .two s a b, k + 1, hk, m => by
    simp only [E.deep] at hk
    have ra := lputE_ok o x f a k (by omega) m
    have rb := lputE_ok o x f b k (by omega) m
    obtain ⟨da, ea⟩ := encE_tup a
    obtain ⟨db, eb⟩ := encE_tup b
    rw [ea] at ra
    rw [eb] at rb
    rw [r__law_put, runF_ap (np := 3) _ rfl]
    unfold b__law_put
    have e1 := lc3 (e := [some (.tup [.str "two", .str s.str, .tup da, .tup db]), some (.dct [.str x] [f.enc]), some (.bl o), none]) (m := m) (vs := [.str "two", .str s.str, (ptE o x f a).enc, (ptE o x f b).enc]) (ft := Cs.tYes) (fe := fIf (fTr (fIsi .tuple (fVar 3))) (fApp (pg.call k "_law_put") (fCons (fVar 3) (fCons (fVar 1) (fCons (fVar 2) fNil)))) (fVar 3)) (by simp; rfl) (by simp [lcGo, same_nil, ra, rb]) (by simp)
    simp [E.enc, in2, ea, eb, e1, ptE]
theorem lputC_ok (o : Bool) (x : Str) (f : E) : ∀ (e : Cd) k, e.deep + 2 ≤ k → ∀ m, pg.call k "_law_put" [e.enc, .dct [.str x] [f.enc], .bl o] m = .ok (ptC o x f e).enc m
  | .tru i, k + 1, _, m => by
    rw [r__law_put, runF_ap (np := 3) _ rfl]
    unfold b__law_put
    have e1 := lc3 (e := [some (.tup [.str "truth", .bl i]), some (.dct [.str x] [f.enc]), some (.bl o), none]) (m := m) (vs := [.str "truth", .bl i]) (ft := Cs.tYes) (fe := fIf (fTr (fIsi .tuple (fVar 3))) (fApp (pg.call k "_law_put") (fCons (fVar 3) (fCons (fVar 1) (fCons (fVar 2) fNil)))) (fVar 3)) (by simp; rfl) (by simp [lcGo, same_nil]) (by simp)
    simp [Cd.enc, in2, e1, ptC]
  | .neg c, k + 1, hk, m => by
    simp only [Cd.deep] at hk
    have ra := lputC_ok o x f c k (by omega) m
    obtain ⟨da, ea⟩ := encC_tup c
    rw [ea] at ra
    rw [r__law_put, runF_ap (np := 3) _ rfl]
    unfold b__law_put
    have e1 := lc3 (e := [some (.tup [.str "not", .tup da]), some (.dct [.str x] [f.enc]), some (.bl o), none]) (m := m) (vs := [.str "not", (ptC o x f c).enc]) (ft := Cs.tYes) (fe := fIf (fTr (fIsi .tuple (fVar 3))) (fApp (pg.call k "_law_put") (fCons (fVar 3) (fCons (fVar 1) (fCons (fVar 2) fNil)))) (fVar 3)) (by simp; rfl) (by simp [lcGo, same_nil, ra]) (by simp)
    simp [Cd.enc, in2, ea, e1, ptC]
  | .both w a b, k + 1, hk, m => by
    simp only [Cd.deep] at hk
    have ra := lputC_ok o x f a k (by omega) m
    have rb := lputC_ok o x f b k (by omega) m
    obtain ⟨da, ea⟩ := encC_tup a
    obtain ⟨db, eb⟩ := encC_tup b
    rw [ea] at ra
    rw [eb] at rb
    rw [r__law_put, runF_ap (np := 3) _ rfl]
    unfold b__law_put
    have e1 := lc3 (e := [some (.tup [.str (wBoth w), .tup da, .tup db]), some (.dct [.str x] [f.enc]), some (.bl o), none]) (m := m) (vs := [.str (wBoth w), (ptC o x f a).enc, (ptC o x f b).enc]) (ft := Cs.tYes) (fe := fIf (fTr (fIsi .tuple (fVar 3))) (fApp (pg.call k "_law_put") (fCons (fVar 3) (fCons (fVar 1) (fCons (fVar 2) fNil)))) (fVar 3)) (by simp; rfl) (by simp [lcGo, same_nil, ra, rb]) (by simp)
    have i2 : ∀ m, cmpD .In (.str (wBoth w)) (.tup [.str "name", .str "old"]) m = some false := fun m => by rw [in2]; cases w <;> simp [wBoth]
    simp [Cd.enc, i2, ea, eb, e1, ptC]
  | .cmp w a b, k + 1, hk, m => by
    simp only [Cd.deep] at hk
    have ra := lputE_ok o x f a k (by omega) m
    have rb := lputE_ok o x f b k (by omega) m
    obtain ⟨da, ea⟩ := encE_tup a
    obtain ⟨db, eb⟩ := encE_tup b
    rw [ea] at ra
    rw [eb] at rb
    rw [r__law_put, runF_ap (np := 3) _ rfl]
    unfold b__law_put
    have e1 := lc3 (e := [some (.tup [.str (wCmp w), .tup da, .tup db]), some (.dct [.str x] [f.enc]), some (.bl o), none]) (m := m) (vs := [.str (wCmp w), (ptE o x f a).enc, (ptE o x f b).enc]) (ft := Cs.tYes) (fe := fIf (fTr (fIsi .tuple (fVar 3))) (fApp (pg.call k "_law_put") (fCons (fVar 3) (fCons (fVar 1) (fCons (fVar 2) fNil)))) (fVar 3)) (by simp; rfl) (by simp [lcGo, same_nil, ra, rb]) (by simp)
    have i2 : ∀ m, cmpD .In (.str (wCmp w)) (.tup [.str "name", .str "old"]) m = some false := fun m => by rw [in2]; cases w <;> simp [wCmp]
    simp [Cd.enc, i2, ea, eb, e1, ptC]
end K01

/-! Values bent. -/
namespace K01
open PySem Cs Com
mutual
/-- no empty tuple within tuples -/
def nem : D → Bool
  | .tup ds => !ds.isEmpty && nemL ds
  | _ => true
def nemL : List D → Bool
  | [] => true
  | d :: ds => nem d && nemL ds
end
theorem fineL_app : ∀ a b : List D, fineL (a ++ b) = (fineL a && fineL b)
  | [], _ => by simp [fineL]
  | d :: a, b => by simp only [List.cons_append, fineL, fineL_app a b, Bool.and_assoc]
theorem fineL_mem : ∀ {ds : List D} {d : D}, fineL ds = true → d ∈ ds → fine d = true
  | e :: ds, d, h, hd => by
    simp only [fineL, Bool.and_eq_true] at h
    rcases List.mem_cons.mp hd with rfl | hd
    · exact h.1
    · exact fineL_mem h.2 hd
theorem fineL_of : ∀ {ds : List D}, (∀ d ∈ ds, fine d = true) → fineL ds = true
  | [], _ => rfl
  | d :: ds, h => by simp only [fineL, h d List.mem_cons_self, fineL_of (ds := ds) fun e he => h e (List.mem_cons_of_mem _ he), Bool.and_self]
theorem nemL_mem : ∀ {ds : List D} {d : D}, nemL ds = true → d ∈ ds → nem d = true
  | e :: ds, d, h, hd => by
    simp only [nemL, Bool.and_eq_true] at h
    rcases List.mem_cons.mp hd with rfl | hd
    · exact h.1
    · exact nemL_mem h.2 hd
def Bent (ds : List Int) (r : Mem) (d : D) : D → Mem → Prop := Drw ds r fun d' => fine d' = true ∧ dep d' ≤ dep d + 2 ∧ szD d' ≤ szD d + 10
theorem cut_lo (ds : List D) (k : Nat) (h : k ≤ ds.length) (m : Mem) : slD (.tup ds) none (some (k : Int)) m = some (.tup (ds.take k)) := by
  simp only [slD, res_tupS, cutD]
  rw [HT.sIx_nat, HT.sIx_none, Nat.min_eq_left h]
  simp
theorem cut_hi (ds : List D) (k : Nat) (h : k + 1 ≤ ds.length) (m : Mem) : slD (.tup ds) (some ((k : Int) + 1)) none m = some (.tup (ds.drop (k + 1))) := by
  have e : ((k : Int) + 1) = ((k + 1 : Nat) : Int) := by omega
  simp only [slD, res_tupS, cutD]
  rw [e, HT.sIx_nat, HT.sIx_none, Nat.min_eq_left h]
  rw [List.take_of_length_le (by simp)]
theorem dep_take (ds : List D) (k : Nat) : depL (ds.take k) ≤ depL ds := depL_of fun d hd => dep_le (List.mem_of_mem_take hd)
theorem dep_drop (ds : List D) (k : Nat) : depL (ds.drop k) ≤ depL ds := depL_of fun d hd => dep_le (List.mem_of_mem_drop hd)
theorem depL_app (a b : List D) : depL (a ++ b) = max (depL a) (depL b) := by
  induction a with
  | nil => simp [depL]
  | cons d a ih => simp only [List.cons_append, depL, ih, Nat.max_assoc]
theorem rows_ok (d : D) (h : fine d = true) (ds : List Int) (r : Mem) (k : Int) (hk : 0 ≤ k) {a3 : Option D} {a2 : Option D} : okS (
      (sSeq (sSet 2 (fLst (fCons (fCon .non) (fCons (fCon (.int 3)) (fCons (fCon (.str "x")) (fCons (fLst fNil) (fCons (fTup fNil) (fCons (fTup (fCons (fCon (.str "number")) fNil)) (fCons (fTup (fCons (fCon (.str "number")) (fCons (fCon (.int 1000)) fNil))) (fCons (fTup (fCons (fCon (.str "number")) (fCons (fCon (.bl true)) fNil))) (fCons (fTup (fCons (fCon (.str "number")) (fCons (fCon (.str "1")) fNil))) (fCons (fTup (fCons (fCon (.str "name")) (fCons (fCon (.str "q")) fNil))) (fCons (fTup (fCons (fCon (.str "name")) (fCons (fCon (.str "X")) fNil))) (fCons (fTup (fCons (fCon (.str "name")) (fCons (fCon .non) fNil))) fNil)))))))))))))) (sSeq (sSet 2 (fBin .Add (fVar 2) (fLst (fCons (fTup (fCons (fCon (.str "truth")) (fCons (fCon (.int 1)) fNil))) (fCons (fTup (fCons (fCon (.str "truth")) fNil)) (fCons (fTup (fCons (fCon (.str "two")) (fCons (fCon (.str "+")) (fCons (fTup (fCons (fCon (.str "number")) (fCons (fCon (.int 1)) fNil))) fNil)))) (fCons (fTup (fCons (fCon (.str "same")) (fCons (fTup (fCons (fCon (.str "number")) (fCons (fCon (.int 1)) fNil))) fNil))) (fCons (fIf (fTr (fIsi .tuple (fVar 1))) (fBlt .list (fCons (fVar 1) fNil)) (fVar 1)) fNil)))))))) (sRet (fApp c__law_pick (fCons (fVar 0) (fCons (fVar 2) fNil)))))) [some (.ref 0), some d, a2, a3] (wc ds k :: r)) fun f _ m => ∃ d', f = .rt d' ∧ Bent ds r d d' m := by
  obtain ⟨l, hl, el⟩ : ∃ l : D, (fine l = true ∧ dep l ≤ dep d ∧ szD l ≤ szD d) ∧ fIf (fTr (fIsi .tuple (fVar 1))) (fBlt .list (fCons (fVar 1) fNil)) (fVar 1) [some (.ref 0), some d, some (.lst [.non, .int 3, .str "x", .lst [], .tup [], .tup [.str "number"], .tup [.str "number", .int 1000], .tup [.str "number", .bl true], .tup [.str "number", .str "1"], .tup [.str "name", .str "q"], .tup [.str "name", .str "X"], .tup [.str "name", .non]]), a3] (wc ds k :: r) = .ok l (wc ds k :: r) := by
    cases d with
    | tup xs => exact ⟨.lst xs, ⟨h, Nat.le_refl _, Nat.le_refl _⟩, by simp⟩
    | ref _ => simp [fine] at h
    | scr _ => simp [fine] at h
    | dct _ _ => simp [fine] at h
    | lst xs => exact ⟨.lst xs, ⟨h, Nat.le_refl _, Nat.le_refl _⟩, by simp⟩
    | non => exact ⟨_, ⟨h, Nat.le_refl _, Nat.le_refl _⟩, by simp⟩
    | bl b => exact ⟨_, ⟨h, Nat.le_refl _, Nat.le_refl _⟩, by simp⟩
    | int b => exact ⟨_, ⟨h, Nat.le_refl _, Nat.le_refl _⟩, by simp⟩
    | str b => exact ⟨_, ⟨h, Nat.le_refl _, Nat.le_refl _⟩, by simp⟩
  obtain ⟨d1, m1, e1, hd, rfl⟩ := pick_ok ds k hk ([.non, .int 3, .str "x", .lst [], .tup [], .tup [.str "number"], .tup [.str "number", .int 1000], .tup [.str "number", .bl true], .tup [.str "number", .str "1"], .tup [.str "name", .str "q"], .tup [.str "name", .str "X"], .tup [.str "name", .non], .tup [.str "truth", .int 1], .tup [.str "truth"], .tup [.str "two", .str "+", .tup [.str "number", .int 1]], .tup [.str "same", .tup [.str "number", .int 1]], l]) (by simp) r
  have ea : ∀ m, binD .Add (.lst [.non, .int 3, .str "x", .lst [], .tup [], .tup [.str "number"], .tup [.str "number", .int 1000], .tup [.str "number", .bl true], .tup [.str "number", .str "1"], .tup [.str "name", .str "q"], .tup [.str "name", .str "X"], .tup [.str "name", .non]]) (.lst [.tup [.str "truth", .int 1], .tup [.str "truth"], .tup [.str "two", .str "+", .tup [.str "number", .int 1]], .tup [.str "same", .tup [.str "number", .int 1]], l]) m = some (.lst [.non, .int 3, .str "x", .lst [], .tup [], .tup [.str "number"], .tup [.str "number", .int 1000], .tup [.str "number", .bl true], .tup [.str "number", .str "1"], .tup [.str "name", .str "q"], .tup [.str "name", .str "X"], .tup [.str "name", .non], .tup [.str "truth", .int 1], .tup [.str "truth"], .tup [.str "two", .str "+", .tup [.str "number", .int 1]], .tup [.str "same", .tup [.str "number", .int 1]], l]) := fun m => add_lst (by simp)
  simp only [fIf_ap] at el
  simp at el
  simp [el, ea, e1]
  refine okS.mk ⟨_, rfl, ?_, k + 1, by omega, rfl⟩
  simp only [List.mem_cons, List.not_mem_nil, or_false] at hd
  have h1 : fine (.str "x") = true := by decide +kernel
  have hp := szD_pos d
  rcases hd with rfl | rfl | rfl | rfl | rfl | rfl | rfl | rfl | rfl | rfl | rfl | rfl | rfl | rfl | rfl | rfl | rfl
  case inr.inr.inr.inr.inr.inr.inr.inr.inr.inr.inr.inr.inr.inr.inr.inr => exact ⟨hl.1, by omega, by omega⟩
  all_goals exact ⟨by decide +kernel, by simp only [dep, depL]; omega, by simp only [szD, szL]; omega⟩
theorem bent_drw (ds : List Int) (r : Mem) : ∀ (n : Nat) (d : D), dep d ≤ n → fine d = true → nem d = true → szD d ≤ 100000 → ∀ K, n + 4 ≤ K → ∀ k : Int, 0 ≤ k → okR (pg.call K "_law_bent" [.ref 0, d] (wc ds k :: r)) (Bent ds r d) := by
  intro n
  induction n with
  | zero =>
    intro d hd hf hn hz K hK k hk
    obtain ⟨K, rfl⟩ : ∃ K', K = K' + 3 := ⟨K - 3, by omega⟩
    have e1 : pg.call (K + 2) "_law_next" = c__law_next := k__law_next (K + 1)
    have e2 : pg.call (K + 2) "_law_pick" = c__law_pick := k__law_pick K
    rw [r__law_bent, e1, e2]
    refine okF rfl ?_
    unfold b__law_bent
    have ht : ∀ e m, atV e 1 = some d → fTr (fIsi .tuple (fVar 1)) e m = .ok false m := by
      intro e m he
      cases d with
      | tup _ => simp [dep] at hd
      | ref _ => simp [fine] at hf
      | scr _ => simp [fine] at hf
      | _ => simp [he]
    rw [sSeq_ap, sIf_ap]
    simp only [List.map_cons, List.map_nil, List.length_cons, List.length_nil, List.replicate, List.cons_append, List.nil_append, Nat.zero_add, Nat.reduceAdd, Nat.reduceSub]
    simp only [tOr_ap, tNot_ap, ht _ _ (show atV [some (.ref 0), some d, none, none] 1 = some d by simp), bnd_ok, Bool.not_false, if_true, sBd_ok]
    refine okS.thn ?_
    refine (rows_ok d hf ds r k hk).imp ?_
    rintro f e m ⟨d', rfl, h⟩
    exact okR.mk h
  | succ n ih =>
    intro d hd hf hn hz K hK k hk
    obtain ⟨K, rfl⟩ : ∃ K', K = K' + 3 := ⟨K - 3, by omega⟩
    have e1 : pg.call (K + 2) "_law_next" = c__law_next := k__law_next (K + 1)
    have e2 : pg.call (K + 2) "_law_pick" = c__law_pick := k__law_pick K
    by_cases htup : ∃ xs, d = .tup xs
    case neg =>
      rw [r__law_bent, e1, e2]
      refine okF rfl ?_
      unfold b__law_bent
      have ht : ∀ e m, atV e 1 = some d → fTr (fIsi .tuple (fVar 1)) e m = .ok false m := by
        intro e m he
        cases d with
        | tup xs => exact absurd ⟨xs, rfl⟩ htup
        | ref _ => simp [fine] at hf
        | scr _ => simp [fine] at hf
        | _ => simp [he]
      rw [sSeq_ap, sIf_ap]
      simp only [List.map_cons, List.map_nil, List.length_cons, List.length_nil, List.replicate, List.cons_append, List.nil_append, Nat.zero_add, Nat.reduceAdd, Nat.reduceSub]
      simp only [tOr_ap, tNot_ap, ht _ _ (show atV [some (.ref 0), some d, none, none] 1 = some d by simp), bnd_ok, Bool.not_false, if_true, sBd_ok]
      refine okS.thn ?_
      refine (rows_ok d hf ds r k hk).imp ?_
      rintro f e m ⟨d', rfl, h⟩
      exact okR.mk h
    obtain ⟨xs, rfl⟩ := htup
    obtain ⟨d1, m1, n1, v1, rfl, a1, b1, rfl⟩ := next_ok ds k 3 hk (by omega) r
    by_cases hv : v1 = 0
    · rw [r__law_bent, e1, e2]
      refine okF rfl ?_
      unfold b__law_bent
      rw [sSeq_ap, sIf_ap]
      simp only [List.map_cons, List.map_nil, List.length_cons, List.length_nil, List.replicate, List.cons_append, List.nil_append, Nat.zero_add, Nat.reduceAdd, Nat.reduceSub]
      simp only [tOr_ap, tNot_ap, fTr_ap, fIsi_ap, fCmp_ap, fApp_ap, fCons_ap, fNil_ap, fVar_ap, fCon_ap, atV_s, atV_0, ofO_some, bnd_ok, res_tupS, isi_tup, beq_self_eq_true, ofB_some, trD_blS, Bool.not_true, Bool.false_eq_true, if_false, n1, cmp_eqI, hv, if_true, sBd_ok]
      refine okS.thn ?_
      refine (rows_ok (.tup xs) hf ds r (k + 1) (by omega)).imp ?_
      rintro f e m ⟨d', rfl, h⟩
      exact okR.mk h
    · simp only [nem, Bool.and_eq_true, Bool.not_eq_true', List.isEmpty_eq_false_iff] at hn
      have hlen : 0 < xs.length := List.length_pos_iff.mpr hn.1
      simp only [fine] at hf
      simp only [dep] at hd
      simp only [szD] at hz
      obtain ⟨d2, m2, n2, v2, rfl, a2, b2, rfl⟩ := next_ok ds (k + 1) xs.length (by omega) (by omega) r
      obtain ⟨j, rfl⟩ : ∃ j : Nat, v2 = j := ⟨v2.toNat, by omega⟩
      have hj : j < xs.length := by omega
      have hx : xs[j]? = some xs[j] := List.getElem?_eq_getElem hj
      have hxm : xs[j] ∈ xs := List.getElem_mem hj
      have hsz : szL (xs.take j) + szD xs[j] + szL (xs.drop (j + 1)) = szL xs := by
        have e : xs = xs.take j ++ (xs[j] :: xs.drop (j + 1)) := by
          rw [← List.drop_eq_getElem_cons hj, List.take_append_drop]
        have := congrArg szL e
        rw [szL_app] at this
        simp only [szL] at this
        omega
      have hdx := dep_le hxm
      obtain ⟨d3, m3, n3, ⟨g1, g2, g3⟩, k3, hk3, rfl⟩ := ih xs[j] (by omega) (fineL_mem hf hxm) (nemL_mem hn.2 hxm) (by omega) (K + 2) (by omega) (k + 1 + 1) (by omega)
      rw [r__law_bent, e1, e2]
      refine okF rfl ?_
      unfold b__law_bent
      have c1 := fun m => cut_lo xs j (by omega) m
      have c2 := fun m => cut_hi xs j (by omega) m
      have ll := szL_len xs
      have lt : (xs.take j).length ≤ 100000 := by rw [List.length_take]; omega
      have c3 : ∀ m, binD .Add (.tup (xs.take j)) (.tup [d3]) m = some (.tup (xs.take j ++ [d3])) := fun m => add_tup (sl_of (by simp; omega))
      have c4 : ∀ m, binD .Add (.tup (xs.take j ++ [d3])) (.tup (xs.drop (j + 1))) m = some (.tup (xs.take j ++ [d3] ++ xs.drop (j + 1))) := fun m => add_tup (sl_of (by simp; omega))
      have c5 : ∀ m, ixD (.tup xs) (.int (j : Int)) m = some xs[j] := fun m => ix_tup (by omega) (by simpa using hx)
      simp [n1, hv, n2, c1, c5, n3, c2, c3]
      have c4' : ∀ m, binD .Add (.tup (xs.take j ++ [d3])) (.tup (xs.drop (j + 1))) m = some (.tup (xs.take j ++ d3 :: xs.drop (j + 1))) := fun m => by rw [c4]; simp
      simp [c4']
      refine okS.mk (okR.mk ⟨⟨?_, ?_, ?_⟩, k3, hk3, rfl⟩)
      · simp only [fine, fineL_app, fineL, g1, Bool.true_and, Bool.and_eq_true]
        exact ⟨fineL_of fun d hd => fineL_mem hf (List.mem_of_mem_take hd), fineL_of fun d hd => fineL_mem hf (List.mem_of_mem_drop hd)⟩
      · have := dep_take xs j
        have := dep_drop xs (j + 1)
        simp only [dep, depL_app, depL]
        omega
      · simp only [szD, szL_app, szL]
        omega
end K01

/-! The turns of the law. -/
namespace K01
open PySem Cs Com
theorem hW : Wth (fun k => pg.call k "place_of") (fun k => pg.call k "worth") := ⟨k_place_of, r_worth⟩
theorem hH : Hld (fun k => pg.call k "place_of") (fun k => pg.call k "worth") (fun k => pg.call k "holds") := ⟨hW, r_holds⟩
theorem lW : ∀ k, pg.call (k + 1) "_law_worth" = runF false 4 8 (b__law_worth (pg.call k "_law_worth")) := r__law_worth
theorem hDc : Drc (fun k => pg.call k "_law_next") (fun k => pg.call k "_law_pick") (fun k => pg.call k "_law_expr") (fun k => pg.call k "_law_cond") := ⟨⟨k__law_next, k__law_pick, r__law_expr⟩, r__law_cond⟩
theorem hT : Tv (fun k => pg.call k "is_integer") (fun k => pg.call k "names_of") (fun k => pg.call k "is_name") (fun k => pg.call k "is_word") (fun k => pg.call k "is_value") (fun k => pg.call k "is_truth") := ⟨⟨k_is_integer, k_names_of, k_is_name, k_is_word, r_is_value⟩, r_is_truth⟩
theorem states_ne (fr : List Row) : (∀ r ∈ fr, r.2.1 ≤ r.2.2) → states fr ≠ [] := by
  refine snoc_ind (P := fun fr => (∀ r ∈ fr, r.2.1 ≤ r.2.2) → states fr ≠ []) (fun _ => by simp [states]) (fun fr r ih h => ?_) fr
  have h1 := ih fun q hq => h q (List.mem_append_left _ hq)
  have h2 := h r (by simp)
  rw [states_snoc]
  obtain ⟨s, ss, e⟩ := List.exists_cons_of_ne_nil h1
  rw [e]
  unfold grow
  rw [List.flatMap_cons]
  intro hc
  have := congrArg List.length hc
  rw [List.length_append, List.length_map, intsL_len, List.length_nil] at this
  omega
theorem pickS {α : Type} (f : α → D) (ds : List Int) (k : Int) (hk : 0 ≤ k) (l : List α) (hl : l ≠ []) (r : Mem) : ∃ a, a ∈ l ∧ c__law_pick [.ref 0, .lst (l.map f)] (wc ds k :: r) = .ok (f a) (wc ds (k + 1) :: r) := by
  obtain ⟨d, m, e, hd, rfl⟩ := pick_ok ds k hk (l.map f) (by simpa using hl) r
  obtain ⟨x, hx, rfl⟩ := List.mem_map.mp hd
  exact ⟨x, hx, e⟩
theorem nms_ok {fr : List Row} (hf : FrN fr) : (∀ z ∈ nms fr, nmS z = true) ∧ (∀ z ∈ nms fr, z.length ≤ 1000) ∧ (nms fr).length ≤ 1000 ∧ nms fr ≠ [] := by
  rcases hf.2.2 with h | h <;> rw [h]
  · exact ⟨by intro z hz; simp at hz; subst hz; decide, by intro z hz; simp at hz; subst hz; decide, by simp, by simp⟩
  · refine ⟨?_, ?_, by simp, by simp⟩ <;> intro z hz <;> simp at hz <;> rcases hz with rfl | rfl <;> decide
theorem E.fine_enc {ns : List Str} (hn : ∀ z ∈ ns, z.length ≤ 1000) {o : Bool} : ∀ e : E, e.fits ns o = true → fine e.enc = true
  | .num i, _ => by simp [E.enc, fine, fineL]; decide
  | .nam x, h => by
    simp only [E.fits, List.any_eq_true] at h
    obtain ⟨y, hy, e⟩ := h
    have := hn y hy
    rw [eq_of_beq e] at this
    simp only [E.enc, fine, fineL, Bool.and_eq_true, decide_eq_true_eq]
    exact ⟨by decide, this, trivial⟩
  | .old x, h => by
    simp only [E.fits, Bool.and_eq_true, List.any_eq_true] at h
    obtain ⟨_, y, hy, e⟩ := h
    have := hn y hy
    rw [eq_of_beq e] at this
    simp only [E.enc, fine, fineL, Bool.and_eq_true, decide_eq_true_eq]
    exact ⟨by decide, this, trivial⟩
  | .two s a b, h => by
    simp only [E.fits, Bool.and_eq_true] at h
    simp only [E.enc, fine, fineL, Bool.and_eq_true, decide_eq_true_eq]
    exact ⟨by decide, by cases s <;> decide, E.fine_enc hn a h.1, E.fine_enc hn b h.2, trivial⟩
theorem Cd.fine_enc {ns : List Str} (hn : ∀ z ∈ ns, z.length ≤ 1000) {o : Bool} : ∀ e : Cd, e.fits ns o = true → fine e.enc = true
  | .tru _, _ => by simp [Cd.enc, fine, fineL]; decide
  | .neg c, h => by
    simp only [Cd.fits] at h
    simp only [Cd.enc, fine, fineL, Bool.and_eq_true, decide_eq_true_eq]
    exact ⟨by decide, Cd.fine_enc hn c h, trivial⟩
  | .both w a b, h => by
    simp only [Cd.fits, Bool.and_eq_true] at h
    simp only [Cd.enc, fine, fineL, Bool.and_eq_true, decide_eq_true_eq]
    exact ⟨by cases w <;> decide, Cd.fine_enc hn a h.1, Cd.fine_enc hn b h.2, trivial⟩
  | .cmp w a b, h => by
    simp only [Cd.fits, Bool.and_eq_true] at h
    simp only [Cd.enc, fine, fineL, Bool.and_eq_true, decide_eq_true_eq]
    exact ⟨by cases w <;> decide, E.fine_enc hn a h.1.1.1, E.fine_enc hn b h.1.1.2, trivial⟩
theorem E.nem_enc : ∀ e : E, nem e.enc = true
  | .num i => rfl
  | .nam x => rfl
  | .old x => rfl
  | .two s a b => by simp only [E.enc, nem, nemL, E.nem_enc a, E.nem_enc b]; rfl
theorem Cd.nem_enc : ∀ e : Cd, nem e.enc = true
  | .tru _ => rfl
  | .neg c => by simp only [Cd.enc, nem, nemL, Cd.nem_enc c]; rfl
  | .both w a b => by simp only [Cd.enc, nem, nemL, Cd.nem_enc a, Cd.nem_enc b]; rfl
  | .cmp w a b => by simp only [Cd.enc, nem, nemL, E.nem_enc a, E.nem_enc b]; rfl
theorem hoE_any : ∀ e : E, hoE e = (nmE e).any (·.2)
  | .num i => rfl
  | .nam x => rfl
  | .old x => rfl
  | .two s a b => by simp [hoE, nmE, hoE_any a, hoE_any b]
theorem hoC_any : ∀ e : Cd, hoC e = (nmC e).any (·.2)
  | .tru _ => rfl
  | .neg c => by simp [hoC, nmC, hoC_any c]
  | .both w a b => by simp [hoC, nmC, hoC_any a, hoC_any b]
  | .cmp w a b => by simp [hoC, nmC, hoE_any a, hoE_any b]
/-- walked, and drawn for each -/
theorem lcGo_eff {t : Tgt} {ft : FB} {fe : FE} {e : Sto} {m0 : Mem} {P : D → Prop} {J : Mem → Prop} : ∀ (ds : List D) (m : Mem), J m → (∀ d ∈ ds, ∀ m, J m → ∃ e', bindT t d e = some e' ∧ ft e' m = .ok true m ∧ okR (fe e' m) fun v m' => P v ∧ J m') →
    ∃ vs m', lcGo t ft fe e [] m0 ds m = .ok vs m' ∧ (∀ v ∈ vs, P v) ∧ vs.length = ds.length ∧ J m'
  | [], m, hj, _ => ⟨[], m, rfl, (fun _ h => by cases h), rfl, hj⟩
  | d :: ds, m, hj, h => by
    obtain ⟨e', h1, h2, v, m1, h3, hp, hj1⟩ := h d List.mem_cons_self m hj
    obtain ⟨vs, m2, h4, h5, h6, h7⟩ := lcGo_eff (m0 := m0) ds m1 hj1 fun d hd => h d (List.mem_cons_of_mem _ hd)
    refine ⟨v :: vs, m2, ?_, ?_, by simp [h6], h7⟩
    · unfold lcGo
      simp only [h1, h2, h3, same_nil, h4, if_true]
    · intro x hx
      rcases List.mem_cons.mp hx with rfl | hx
      · exact hp
      · exact h5 x hx
/-- four of them bent -/
def Fin4 (d : D) : Prop := fine d = true ∧ dep d ≤ 20
theorem bents {ds : List Int} {r : Mem} {e : Sto} {i : Nat} {d : D} (h1 : atV (wipe e [10]) 1 = some (.ref 0)) (hi : atV (wipe e [10]) i = some d) (n1 : i ≠ 10) (hl : 10 < e.length) (hf : fine d = true) (hn : nem d = true) (hd : dep d ≤ 10) (hz : szD d ≤ 10000) (k : Int) (hk : 0 ≤ k) :
    okR (fLc [10] (.name 10) (jRng1 (fCon (.int 4))) Cs.tYes (fApp (pg.call 59 "_law_bent") (fCons (fVar 1) (fCons (fVar i) fNil))) e (wc ds k :: r)) (Drw ds r fun d => ∃ xs, d = .lst xs ∧ xs.length = 4 ∧ ∀ x ∈ xs, Fin4 x) := by
  obtain ⟨vs, m', g1, g2, g3, k', hk', rfl⟩ := lcGo_eff (t := .name 10) (ft := Cs.tYes) (fe := fApp (pg.call 59 "_law_bent") (fCons (fVar 1) (fCons (fVar i) fNil))) (e := wipe e [10]) (m0 := wc ds k :: r) (P := Fin4) (J := fun m => ∃ k', 0 ≤ k' ∧ m = wc ds k' :: r) (rangeL 0 4) (wc ds k :: r) ⟨k, hk, rfl⟩ (by
    rintro x hx m ⟨k', hk', rfl⟩
    refine ⟨_, rfl, rfl, ?_⟩
    have a1 : atV ((wipe e [10]).set 10 (some x)) 1 = some (.ref 0) := by
      unfold atV at h1 ⊢
      rw [List.getElem?_set_ne (by omega)]
      exact h1
    have a2 : atV ((wipe e [10]).set 10 (some x)) i = some d := by
      unfold atV at hi ⊢
      rw [List.getElem?_set_ne (by omega)]
      exact hi
    obtain ⟨d', m', q1, ⟨b1, b2, b3⟩, k2, hk2, rfl⟩ := bent_drw ds r 10 d hd hf hn (by omega) 59 (by omega) k' hk'
    simp only [fApp_ap, fCons_ap, fNil_ap, fVar_ap, a1, a2, ofO_some, bnd_ok, q1]
    exact okR.mk ⟨⟨b1, by omega⟩, k2, hk2, rfl⟩)
  have hr : (rangeL 0 4).length = 4 := rfl
  unfold fLc
  rw [jRng1_ap (n := 4) (by simp) (by omega) (by omega)]
  rw [bnd_ok]
  have g1' : lcGo (.name 10) Cs.tYes (fApp (pg.call 59 "_law_bent") (fCons (fVar 1) (fCons (fVar i) fNil))) (wipe e [10]) (rangeL 0 (Int.toNat 4), ([] : List Nat)).2 (wc ds k :: r) (rangeL 0 (Int.toNat 4), ([] : List Nat)).1 (wc ds k :: r) = .ok vs (wc ds k' :: r) := g1
  rw [g1']
  simp only [if_pos (sl_of (show vs.length ≤ 1000000 by omega))]
  exact okR.mk ⟨⟨vs, rfl, by omega, g2⟩, k', hk', rfl⟩
/-- the store amid a turn -/
def Sh (S : D) (a2 : Option D) (fr : List Row) (X : E) (C : Cd) (e : Sto) : Prop := ∃ a6 a9 a10 a11 a12 a13 a14 a15 a16 a17 a18 a19 a20,
  e = [some S, some (.ref 0), a2, some (enc fr), some (.lst ((nms fr).map .str)), some (.lst ((states fr).map encS)), a6, some X.enc, some C.enc, a9, a10, a11, a12, a13, a14, a15, a16, a17, a18, a19, a20]
theorem L1_ok {S : D} {a2 : Option D} {fr : List Row} (hf : FrN fr) {X : E} {C : Cd} {d : D} (hd : Fin4 d) {e : Sto} (he : Sh S a2 fr X C e) {m : Mem} : okS (b_law_L1 (pg.call 59 "is_post") (pg.call 59 "is_cond") (pg.call 59 "is_expr") (pg.call 59 "_law_is_cond") (pg.call 59 "_law_is_expr") c__law_same (e.set 9 (some d)) m) fun f e' m' => f = .nx ∧ Sh S a2 fr X C e' ∧ m' = m := by
  obtain ⟨a6, a9, a10, a11, a12, a13, a14, a15, a16, a17, a18, a19, a20, rfl⟩ := he
  obtain ⟨n1, n2, n3, n4⟩ := nms_ok hf
  have hl : fr.length ≤ 1000 := by have := hf.1.len; omega
  have x1 : pg.call 59 "is_expr" [enc fr, d] m = .ok (.bl (isE (nms fr) false d)) m := by
    rw [r_is_expr 58, runF_ap (np := 2) _ rfl]
    unfold b_is_expr
    have := isvalue_ok hT.toVl hl n1 false 58 d hd.1 (by have := hd.2; omega) m
    simp [this]
  have x2 : pg.call 59 "is_cond" [enc fr, d] m = .ok (.bl (isC (nms fr) false d)) m := by
    rw [r_is_cond 58, runF_ap (np := 2) _ rfl]
    unfold b_is_cond
    have := istruth_ok hT hl n1 false 58 d hd.1 (by have := hd.2; omega) m
    simp [this]
  have x3 : pg.call 59 "is_post" [enc fr, d] m = .ok (.bl (isC (nms fr) true d)) m := by
    rw [r_is_post 58, runF_ap (np := 2) _ rfl]
    unfold b_is_post
    have := istruth_ok hT hl n1 true 58 d hd.1 (by have := hd.2; omega) m
    simp [this]
  have y1 := lisE_ok n3 false 59 d hd.1 (by have := hd.2; omega) (by have := hd.2; omega) m
  have y2 := lisC_ok n3 false 59 d hd.1 (by have := hd.2; omega) (by have := hd.2; omega) m
  have y3 := lisC_ok n3 true 59 d hd.1 (by have := hd.2; omega) (by have := hd.2; omega) m
  have z := same_ok (.tup [.bl (isE (nms fr) false d), .bl (isC (nms fr) false d), .bl (isC (nms fr) true d)]) rfl (by simp [dep, depL]) (by simp [szD, szL]) m
  unfold b_law_L1
  simp [x1, x2, x3, y1, y2, y3, z]
  exact okS.mk ⟨rfl, ⟨_, _, _, _, _, _, _, _, _, _, _, _, _, rfl⟩, rfl⟩
theorem L2_ok {S : D} {a2 : Option D} {fr : List Row} (hf : FrN fr) {o1 o2 : Bool} (X : E) (C : Cd) (hx : X.fits (nms fr) o1 = true) (h1 : X.deep ≤ 40) (h2 : X.leaves ≤ 20000) (hc : C.fits (nms fr) o2 = true) (h3 : C.deep ≤ 40) {e : Sto} (he : Sh S a2 fr X C e) {d : D} {ds : List Int} {k : Int} (hk : 0 ≤ k) {r : Mem} :
    okS (b_law_L2 c__law_pick c__law_says (pg.call 59 "_law_holds") (pg.call 59 "holds") c__law_same (pg.call 59 "_law_worth") (pg.call 59 "worth") (e.set 13 (some d)) (wc ds k :: r)) fun f e' m' => f = .nx ∧ Sh S a2 fr X C e' ∧ ∃ k, 0 ≤ k ∧ m' = wc ds k :: r := by
  obtain ⟨a6, a9, a10, a11, a12, a13, a14, a15, a16, a17, a18, a19, a20, rfl⟩ := he
  have hne : states fr ≠ [] := states_ne fr (fun q hq => (hf.1.lo q hq).2.1)
  obtain ⟨st, hst, p1⟩ := pickS encS ds k hk (states fr) hne r
  obtain ⟨ol, hol, p2⟩ := pickS encS ds (k + 1) (by omega) (states fr) hne r
  have s1 := states_each fr st hst
  have s2 := states_each fr ol hol
  have s3 := states_stOk hf.1 hst
  have s4 := states_stOk hf.1 hol
  have hl : fr.length ≤ 1000 := by have := hf.1.len; omega
  have e1 := worth_ok hW hl (st := st) (ol := ol) (olD := encS ol) (o := o1) s1 (fun _ => ⟨rfl, s2⟩) s3 s4 X hx h2 59 (by omega) (wc ds (k + 1 + 1) :: r)
  have e2 := holds_ok hH hl (st := st) (ol := ol) (olD := encS ol) (o := o2) s1 (fun _ => ⟨rfl, s2⟩) s3 s4 C hc 59 (by omega) (wc ds (k + 1 + 1) :: r)
  have e3 := lworth_ok (w := fun k => pg.call k "_law_worth") lW hl (st := st) (ol := ol) (olD := encS ol) (o := o1) s1 (fun _ => ⟨rfl, s2⟩) s3 s4 X hx h2 59 (by omega) (wc ds (k + 1 + 1) :: r)
  have e4 := lholds_ok (w := fun k => pg.call k "_law_worth") (h := fun k => pg.call k "_law_holds") lW r__law_holds hl (st := st) (ol := ol) (olD := encS ol) (o := o2) s1 (fun _ => ⟨rfl, s2⟩) s3 s4 C hc 59 (by omega) (wc ds (k + 1 + 1) :: r)
  have e5 := same_ok (.int (X.wor (nms fr) st ol)) rfl (by simp [dep]) (by simp [szD]) (wc ds (k + 1 + 1) :: r)
  have e6 := says_ok (C.hol (nms fr) st ol) (C.hol (nms fr) st ol) (wc ds (k + 1 + 1) :: r)
  unfold b_law_L2
  simp [p1, p2, e1, e2, e3, e4, e5, e6]
  exact okS.mk ⟨rfl, ⟨_, _, _, _, _, _, _, _, _, _, _, _, _, rfl⟩, k + 1 + 1, by omega, rfl⟩
/-- what is known of a thing at L3 -/
structure Th (d : D) (nm : List (Str × Bool)) : Prop where
  n1 : ∀ m, pg.call 59 "_law_names" [d] m = .ok (.lst (nm.map pr)) m
  n2 : ∀ m, pg.call 59 "names_in" [d] m = .ok (dK (uq nm)) m
  n3 : ∀ m, pg.call 59 "has_old" [d] m = .ok (.bl (nm.any (·.2))) m
  n4 : nm.length ≤ 1000
  n5 : ∀ (o : Bool) (x : Str) (f : E), f.deep ≤ 1 → f.leaves ≤ 2 → ∃ d', (∀ m, pg.call 59 "put_in" [d, .dct [.str x] [f.enc], .bl o] m = .ok d' m) ∧ (∀ m, pg.call 59 "_law_put" [d, .dct [.str x] [f.enc], .bl o] m = .ok d' m) ∧ ∀ m, c__law_same [d', d'] m = .ok (.bl true) m
theorem thE (e : E) (h1 : e.deep ≤ 20) (h2 : e.leaves ≤ 1000) : Th e.enc (nmE e) where
  n1 := namesE_ok e h2 59 (by omega)
  n2 := ninE_ok e h2 59 (by omega)
  n3 m := by rw [← hoE_any]; exact hasE_ok e 59 (by omega) m
  n4 := Nat.le_trans (nmE_len e) h2
  n5 o x f g1 g2 := ⟨_, putE_ok o x f e 59 (by omega), lputE_ok o x f e 59 (by omega), fun m => by
    have d1 := ptE_deep o x f e
    have d2 := ptE_leaves o x f e
    have d3 : e.leaves * f.leaves ≤ 1000 * 2 := Nat.mul_le_mul h2 g2
    have d4 := E.sz_enc (ptE o x f e)
    exact same_ok _ (E.plain_enc _) (by rw [E.dep_enc]; omega) (by omega) m⟩
theorem thC (e : Cd) (h1 : e.deep ≤ 20) (h2 : e.leaves ≤ 1000) : Th e.enc (nmC e) where
  n1 := namesC_ok e h2 59 (by omega)
  n2 := ninC_ok e h2 59 (by omega)
  n3 m := by rw [← hoC_any]; exact hasC_ok e 59 (by omega) m
  n4 := Nat.le_trans (nmC_len e) h2
  n5 o x f g1 g2 := ⟨_, putC_ok o x f e 59 (by omega), lputC_ok o x f e 59 (by omega), fun m => by
    have d1 := ptC_deep o x f e
    have d2 := ptC_leaves o x f e
    have d3 : e.leaves * f.leaves ≤ 1000 * 2 := Nat.mul_le_mul h2 g2
    have d4 := Cd.sz_enc (ptC o x f e)
    have d5 := Cd.dep_enc (ptC o x f e)
    exact same_ok _ (Cd.plain_enc _) (by omega) (by omega) m⟩
theorem pairs_ok : ∀ nm : List (Str × Bool), pairsD (nm.map fun p => D.tup [.str p.1, .bl true]) = some ((nm.map (·.1)).map .str, (nm.map (·.1)).map fun _ => D.bl true)
  | [] => rfl
  | p :: nm => by simp [pairsD, flatK, pairs_ok nm]
theorem dict_ok (nm : List (Str × Bool)) (m : Mem) : bltD .dict [.lst (nm.map fun p => D.tup [.str p.1, .bl true])] m = some (dK (uq nm)) := by
  show ((lstD m (.lst _)).bind fun ds => (pairsD ds).map fun p => D.dct (mergeD [] [] p.1 p.2).1 (mergeD [] [] p.1 p.2).2) = _
  have : lstD m (.lst (nm.map fun p => D.tup [.str p.1, .bl true])) = some (nm.map fun p => D.tup [.str p.1, .bl true]) := rfl
  rw [this, Option.bind_some, pairs_ok, Option.map_some]
  have := mergeD_mg (nm.map (·.1)) []
  simp only [List.map_nil] at this
  simp only [this]
  rfl
theorem ne_nil (l : List Str) (m : Mem) : cmpD .NotEq (.lst (l.map .str)) (.lst []) m = some (!l.isEmpty) := by
  have hp : plainL (l.map .str) = true := plainL_of fun d hd => by obtain ⟨_, _, rfl⟩ := List.mem_map.mp hd; rfl
  cases l with
  | nil => simp [cmpD, Cs.res, eqOk, Cs.plain, plainL, dep, depL, eqD, eqL]
  | cons x l =>
    simp only [List.map_cons] at hp ⊢
    have hd : min (depL (D.str x :: l.map .str) + 1) 1 ≤ 150 := by omega
    simp [cmpD, Cs.res, eqOk, Cs.plain, hp, dep, hd, eqD, eqL, plainL, depL, lst0]
theorem any_filter (nm : List (Str × Bool)) : (!((nm.filter (·.2)).map (·.1)).isEmpty) = nm.any (·.2) := by
  induction nm with
  | nil => rfl
  | cons p nm ih =>
    cases h : p.2 with
    | false => rw [List.filter_cons_of_neg (by simp [h]), ih]; simp [h]
    | true => rw [List.filter_cons_of_pos (by simp [h])]; simp [h]
end K01

/-! The law itself. -/
namespace K01
open PySem Cs Com
theorem L3_ok {S : D} {a2 : Option D} {fr : List Row} (hf : FrN fr) {X : E} {C : Cd} {d : D} {nm : List (Str × Bool)} (T : Th d nm) {e : Sto} (he : Sh S a2 fr X C e) {ds : List Int} {k : Int} (hk : 0 ≤ k) {r : Mem} :
    okS (b_law_L3 (pg.call 59 "_law_names") c__law_says (pg.call 59 "has_old") c__law_same (pg.call 59 "names_in") c__law_pick (pg.call 59 "_law_expr") (pg.call 59 "_law_put") (pg.call 59 "put_in") (e.set 9 (some d)) (wc ds k :: r)) fun f e' m' => f = .nx ∧ Sh S a2 fr X C e' ∧ ∃ k, 0 ≤ k ∧ m' = wc ds k :: r := by
  obtain ⟨a6, a9, a10, a11, a12, a13, a14, a15, a16, a17, a18, a19, a20, rfl⟩ := he
  obtain ⟨n1, n2, n3, n4⟩ := nms_ok hf
  have t4 := T.n4
  obtain ⟨x, hx, p1⟩ := pickS D.str ds k hk (nms fr) n4 r
  obtain ⟨d2, m2, p2, ⟨f, rfl, f1, f2, f3⟩, k2, hk2, rfl⟩ := expr_drw hDc.toDrs hf false ds r 1 59 (by omega) (k + 1) (by omega)
  obtain ⟨da, u1, u2, u3⟩ := T.n5 true x f f2 (by simpa using f3)
  obtain ⟨db, v1, v2, v3⟩ := T.n5 false x f f2 (by simpa using f3)
  have i1 : ((1 : Nat) : Int) = 1 := rfl
  rw [i1] at p2
  have c1 : ∀ e : Sto, e = [some S, some (.ref 0), a2, some (enc fr), some (.lst ((nms fr).map .str)), some (.lst ((states fr).map encS)), a6, some X.enc, some C.enc, some d, a10, a11, a12, a13, a14, a15, some (.lst (nm.map pr)), a17, a18, a19, a20] → ∀ m, fLc [17, 18] (.tup [.name 17, .name 18]) (iVar 16) Cs.tYes (fTup (fCons (fVar 17) (fCons (fCon (.bl true)) fNil))) e m = .ok (.lst (nm.map fun p => D.tup [.str p.1, .bl true])) m := by
    rintro e rfl m
    refine fLc_ap (iVar_lst (by simp; rfl)) ?_ (by rw [List.length_map]; exact sl_of (by omega))
    refine (lcGo_map (g := fun d => match d with | .tup [x, _] => .tup [x, .bl true] | _ => .non) same_nil fun d hd => ?_).trans (by rw [List.map_map]; rfl)
    obtain ⟨p, _, rfl⟩ := List.mem_map.mp hd
    refine ⟨_, rfl, rfl, ?_⟩
    simp [pr, wipe]
  have c2 : ∀ e : Sto, e = [some S, some (.ref 0), a2, some (enc fr), some (.lst ((nms fr).map .str)), some (.lst ((states fr).map encS)), a6, some X.enc, some C.enc, some d, a10, a11, a12, a13, a14, a15, some (.lst (nm.map pr)), a17, a18, a19, a20] → ∀ m, fLc [17, 18] (.tup [.name 17, .name 18]) (iVar 16) (fTr (fVar 18)) (fVar 17) e m = .ok (.lst (((nm.filter (·.2)).map (·.1)).map .str)) m := by
    rintro e rfl m
    refine fLc_ap (iVar_lst (by simp; rfl)) ?_ (by rw [List.length_map, List.length_map]; have := List.length_filter_le (·.2) nm; exact sl_of (by omega))
    refine (lcGo_pure (p := fun d => match d with | .tup [_, .bl b] => b | _ => false) (g := fun d => match d with | .tup [x, _] => x | _ => .non) same_nil fun d hd => ?_).trans (by rw [List.filter_map, List.map_map, List.map_map]; rfl)
    obtain ⟨p, _, rfl⟩ := List.mem_map.mp hd
    exact ⟨_, rfl, by simp [pr, wipe], fun _ => by simp [pr, wipe]⟩
  have hq := same_dK (uq nm) (by have := uq_len nm; omega)
  have q2 := any_filter nm
  have e1 := T.n1 (wc ds k :: r)
  unfold b_law_L3
  rw [sSeq_ap, sSet_ap]
  have g1 : (fApp (pg.call 59 "_law_names") (fCons (fVar 9) fNil)) [some S, some (.ref 0), a2, some (enc fr), some (.lst ((nms fr).map .str)), some (.lst ((states fr).map encS)), a6, some X.enc, some C.enc, some d, a10, a11, a12, a13, a14, a15, a16, a17, a18, a19, a20] (wc ds k :: r) = .ok (.lst (nm.map pr)) (wc ds k :: r) := by simp [e1]
  simp only [List.set_cons_succ, List.set_cons_zero]
  rw [g1]
  simp only [sBd_ok, sThen_nx, List.set_cons_succ, List.set_cons_zero]
  have g2 : ∀ e : Sto, e = [some S, some (.ref 0), a2, some (enc fr), some (.lst ((nms fr).map .str)), some (.lst ((states fr).map encS)), a6, some X.enc, some C.enc, some d, a10, a11, a12, a13, a14, a15, some (.lst (nm.map pr)), a17, a18, a19, a20] → fDct [((fApp c__law_pick (fCons (fVar 1) (fCons (fVar 4) fNil))), (fApp (pg.call 59 "_law_expr") (fCons (fVar 1) (fCons (fVar 3) (fCons (fCon (.int 1)) (fCons (fCon (.bl false)) fNil))))))] e (wc ds k :: r) = .ok (.dct [.str x] [f.enc]) (wc ds k2 :: r) := by
    rintro e rfl
    have : fPairs [((fApp c__law_pick (fCons (fVar 1) (fCons (fVar 4) fNil))), (fApp (pg.call 59 "_law_expr") (fCons (fVar 1) (fCons (fVar 3) (fCons (fCon (.int 1)) (fCons (fCon (.bl false)) fNil))))))] [some S, some (.ref 0), a2, some (enc fr), some (.lst ((nms fr).map .str)), some (.lst ((states fr).map encS)), a6, some X.enc, some C.enc, some d, a10, a11, a12, a13, a14, a15, some (.lst (nm.map pr)), a17, a18, a19, a20] (wc ds k :: r) = .ok ([.str x], [f.enc]) (wc ds k2 :: r) := by
      simp [fPairs, p1, p2]
    unfold fDct
    rw [this]
    rfl
  have c1' := c1 [some S, some (.ref 0), a2, some (enc fr), some (.lst ((nms fr).map .str)), some (.lst ((states fr).map encS)), a6, some X.enc, some C.enc, some d, a10, a11, a12, a13, a14, a15, some (.lst (nm.map pr)), a17, a18, a19, a20] rfl (wc ds k :: r)
  have c2' := c2 [some S, some (.ref 0), a2, some (enc fr), some (.lst ((nms fr).map .str)), some (.lst ((states fr).map encS)), a6, some X.enc, some C.enc, some d, a10, a11, a12, a13, a14, a15, some (.lst (nm.map pr)), a17, a18, a19, a20] rfl (wc ds k :: r)
  have c3 := dict_ok nm (wc ds k :: r)
  have c4 := ne_nil ((nm.filter (·.2)).map (·.1)) (wc ds k :: r)
  rw [q2] at c4
  have c5 := says_ok (nm.any (·.2)) (nm.any (·.2)) (wc ds k :: r)
  have c6 := g2 _ rfl
  have qi : ∀ (ds : List D) (m : Mem), itOf m (.tup ds) = some (ds, []) := fun _ _ => rfl
  have g3 : ∀ e : Sto, e = [some S, some (.ref 0), a2, some (enc fr), some (.lst ((nms fr).map .str)), some (.lst ((states fr).map encS)), a6, some X.enc, some C.enc, some d, a10, a11, a12, a13, a14, a15, some (.lst (nm.map pr)), a17, a18, some (.dct [.str x] [f.enc]), a20] → ∀ m, fLc [20] (.name 20) (iVal (fTup (fCons (fCon (.bl true)) (fCons (fCon (.bl false)) fNil)))) (tNot (fTr (fApp c__law_same (fCons (fApp (pg.call 59 "put_in") (fCons (fVar 9) (fCons (fVar 19) (fCons (fVar 20) fNil)))) (fCons (fApp (pg.call 59 "_law_put") (fCons (fVar 9) (fCons (fVar 19) (fCons (fVar 20) fNil)))) fNil))))) (fVar 20) e m = .ok (.lst []) m := by
    rintro e rfl m
    refine fLc_ap (p := ([.bl true, .bl false], [])) (by simp [qi]) ?_ (by simp)
    simp [lcGo, wipe, u1, u2, u3, v1, v2, v3, same_nil]
  have g4 := g3 _ rfl (wc ds k2 :: r)
  have c7 := ne_nil [] (wc ds k2 :: r)
  simp only [List.map_nil] at c7
  simp [-List.map_map, T.n2, T.n3, c1', c2', c3, hq, c4, c5, c6, g4, c7]

  exact okS.mk ⟨rfl, ⟨_, _, _, _, _, _, _, _, _, _, _, _, _, rfl⟩, k2, hk2, rfl⟩
end K01

/-! The law holds. -/
namespace K01
open PySem Cs Com
theorem turn_ok (ds : List Int) (k : Int) (hk : 0 ≤ k) (r : Mem) (S : D) (a2 a3 a4 a5 a6 a7 a8 a9 a10 a11 a12 a13 a14 a15 a16 a17 a18 a19 a20 : Option D) (Q : Fl → Sto → Mem → Prop)
    (hq : ∀ fr X C e, Sh S a2 fr X C e → ∀ k, 0 ≤ k → Q .nx e (wc ds k :: r)) :
    okS (b_law_L4 c__law_frame c__law_states (pg.call 59 "_law_expr") c__law_next (pg.call 59 "_law_cond") (pg.call 59 "_law_bent") (pg.call 59 "is_post") (pg.call 59 "is_cond") (pg.call 59 "is_expr") (pg.call 59 "_law_is_cond") (pg.call 59 "_law_is_expr") c__law_same c__law_pick c__law_says (pg.call 59 "_law_holds") (pg.call 59 "holds") (pg.call 59 "_law_worth") (pg.call 59 "worth") (pg.call 59 "_law_names") (pg.call 59 "has_old") (pg.call 59 "names_in") (pg.call 59 "_law_put") (pg.call 59 "put_in")
      [some S, some (.ref 0), a2, a3, a4, a5, a6, a7, a8, a9, a10, a11, a12, a13, a14, a15, a16, a17, a18, a19, a20] (wc ds k :: r)) Q := by
  obtain ⟨d1, m1, e1, ⟨fr, rfl, hf⟩, k1, hk1, rfl⟩ := frame_drw ds k hk r
  have e2 := lstates_ok fr hf.1 (wc ds k1 :: r)
  obtain ⟨d3, m3, e3, v3, rfl, b3, c3, rfl⟩ := next_ok ds k1 2 hk1 (by omega) r
  obtain ⟨d4, m4, e4, ⟨X, rfl, x1, x2, x3⟩, k4, hk4, rfl⟩ := expr_drw hDc.toDrs hf (v3 == 0) ds r 3 59 (by omega) (k1 + 1) (by omega)
  obtain ⟨d5, m5, e5, v5, rfl, b5, c5, rfl⟩ := next_ok ds k4 2 hk4 (by omega) r
  obtain ⟨d6, m6, e6, ⟨C, rfl, y1, y2, y3⟩, k6, hk6, rfl⟩ := cond_drw hDc hf (v5 == 0) ds r 3 59 (by omega) (k4 + 1) (by omega)
  have hl : fr.length ≤ 1000 := by have := hf.1.len; omega
  obtain ⟨n1, n2, n3, n4⟩ := nms_ok hf
  have e7 := lnames_lc fr hl (e := [some S, some (.ref 0), a2, some (enc fr), a4, a5, a6, a7, a8, a9, a10, a11, a12, a13, a14, a15, a16, a17, a18, a19, a20]) (m := wc ds k1 :: r) (i := 3) (j := 6) (by simp) (by simp)
  have i1 : ((3 : Nat) : Int) = 3 := rfl
  rw [i1] at e4 e6
  unfold b_law_L4
  rw [sSeq_ap, sSet_ap]
  simp only [fApp_ap, fCons_ap, fNil_ap, fVar_ap, atV_s, atV_0, ofO_some, bnd_ok, e1, sBd_ok, sThen_nx, List.set_cons_succ, List.set_cons_zero]
  rw [sSeq_ap, sPar_ap]
  simp only [fApp_ap, fCons_ap, fNil_ap, fVar_ap, atV_s, atV_0, ofO_some, bnd_ok, e7, e2, sBd_ok, sThen_nx, setsL_cons, setsL_nil, List.set_cons_succ, List.set_cons_zero]
  rw [sSeq_ap, sAsg_ap]
  simp only [fTup_ap, fApp_ap, fCons_ap, fNil_ap, fVar_ap, fCon_ap, fCmp_ap, atV_s, atV_0, ofO_some, ofB_some, bnd_ok, e3, cmp_eqI, e4, e5, e6, List.length_cons, List.length_nil, Nat.zero_add, Nat.reduceAdd, sl_2, if_true, sBd_ok, sThen_nx, bindT_tup, bindL_cons, bindL_nil, bindT_name, Option.bind_some, sOf_some, List.set_cons_succ, List.set_cons_zero]
  have zX := E.sz_enc X
  have zC := Cd.sz_enc C
  have dX := E.dep_enc X
  have dC := Cd.dep_enc C
  have fX := E.fine_enc n2 X x1
  have fC := Cd.fine_enc n2 C y1
  simp only [Nat.reducePow, Nat.reduceMul] at x3 y3
  obtain ⟨_, _, e8, ⟨xs, rfl, l8, g8⟩, k8, hk8, rfl⟩ := bents (ds := ds) (r := r) (i := 7) (d := X.enc) (e := [some S, some (.ref 0), a2, some (enc fr), some (.lst ((nms fr).map .str)), some (.lst ((states fr).map encS)), a6, some X.enc, some C.enc, a9, a10, a11, a12, a13, a14, a15, a16, a17, a18, a19, a20]) (by simp [wipe]) (by simp [wipe]) (by omega) (by simp) fX (E.nem_enc X) (by omega) (by omega) k6 hk6
  obtain ⟨_, _, e9, ⟨ys, rfl, l9, g9⟩, k9, hk9, rfl⟩ := bents (ds := ds) (r := r) (i := 8) (d := C.enc) (e := [some S, some (.ref 0), a2, some (enc fr), some (.lst ((nms fr).map .str)), some (.lst ((states fr).map encS)), a6, some X.enc, some C.enc, a9, a10, a11, a12, a13, a14, a15, a16, a17, a18, a19, a20]) (by simp [wipe]) (by simp [wipe]) (by omega) (by simp) fC (Cd.nem_enc C) (by omega) (by omega) k8 hk8
  have s1 : ∀ m, binD .Add (.lst [X.enc, C.enc]) (.lst xs) m = some (.lst ([X.enc, C.enc] ++ xs)) := fun m => add_lst (sl_of (by simp; omega))
  have s2 : ∀ m, binD .Add (.lst ([X.enc, C.enc] ++ xs)) (.lst ys) m = some (.lst ([X.enc, C.enc] ++ xs ++ ys)) := fun m => add_lst (sl_of (by simp; omega))
  have qi : ∀ (ds : List D) (m : Mem), itOf m (.lst ds) = some (ds, []) := fun _ _ => rfl
  have qj : ∀ (ds : List D) (m : Mem), itOf m (.tup ds) = some (ds, []) := fun _ _ => rfl
  rw [sSeq_ap, sFor_ap]
  simp only [iVal_ap, fBin_ap, fLst_ap, fCons_ap, fNil_ap, fVar_ap, atV_s, atV_0, ofO_some, bnd_ok, List.length_cons, List.length_nil, Nat.zero_add, Nat.reduceAdd, sl_2, if_true, e8, e9, s1, s2, qi, sBd_ok]
  refine okS.thn ?_
  refine forT0 (fun rem e m => (∀ d ∈ rem, Fin4 d) ∧ Sh S a2 fr X C e ∧ ∃ k, 0 ≤ k ∧ m = wc ds k :: r) ⟨?_, ⟨_, _, _, _, _, _, _, _, _, _, _, _, _, rfl⟩, k9, hk9, rfl⟩ ?_ ?_
  · intro d hd
    simp only [List.mem_append, List.mem_cons, List.not_mem_nil, or_false] at hd
    rcases hd with ((rfl | rfl) | hd) | hd
    · exact ⟨fX, by omega⟩
    · exact ⟨fC, by omega⟩
    · exact g8 d hd
    · exact g9 d hd
  · rintro e m ⟨-, he, k, hk, rfl⟩
    show okS _ _
    rw [sSeq_ap, sFor_ap, jRng1_ap (n := 6) (by simp) (by omega) (by omega), sBd_ok]
    refine okS.thn ?_
    refine forT0 (fun rem e m => Sh S a2 fr X C e ∧ ∃ k, 0 ≤ k ∧ m = wc ds k :: r) ⟨he, k, hk, rfl⟩ ?_ ?_
    · rintro e m ⟨he, k, hk, rfl⟩
      show okS _ _
      have h7 : (iVal (fTup (fCons (fVar 7) (fCons (fVar 8) fNil)))) e (wc ds k :: r) = .ok ([X.enc, C.enc], []) (wc ds k :: r) := by
        obtain ⟨a6, a9, a10, a11, a12, a13, a14, a15, a16, a17, a18, a19, a20, rfl⟩ := he
        simp [qj]
      rw [sFor_ap, h7, sBd_ok]
      refine forT0 (fun rem e m => (∀ d ∈ rem, ∃ nm, Th d nm) ∧ Sh S a2 fr X C e ∧ ∃ k, 0 ≤ k ∧ m = wc ds k :: r) ⟨?_, he, k, hk, rfl⟩ ?_ ?_
      · intro d hd
        simp only [List.mem_cons, List.not_mem_nil, or_false] at hd
        rcases hd with rfl | rfl
        · exact ⟨_, thE X (by omega) (by omega)⟩
        · exact ⟨_, thC C (by omega) (by omega)⟩
      · rintro e m ⟨-, he, k, hk, rfl⟩
        exact hq fr X C e he k hk
      · rintro d rem e m ⟨hd, he, k, hk, rfl⟩
        refine ⟨_, rfl, fun Q' tn => ?_⟩
        obtain ⟨nm, T⟩ := hd d List.mem_cons_self
        refine (L3_ok hf T he hk).imp ?_
        rintro f e m ⟨rfl, he, k, hk, rfl⟩
        exact tn.nx _ _ ⟨fun d h => hd d (List.mem_cons_of_mem _ h), he, k, hk, rfl⟩
    · rintro d rem e m ⟨he, k, hk, rfl⟩
      refine ⟨_, rfl, fun Q' tn => ?_⟩
      refine (L2_ok hf X C x1 (by omega) (by omega) y1 (by omega) he hk).imp ?_
      rintro f e m ⟨rfl, he, k, hk, rfl⟩
      exact tn.nx _ _ ⟨he, k, hk, rfl⟩
  · rintro d rem e m ⟨hd, he, k, hk, rfl⟩
    refine ⟨_, rfl, fun Q' tn => ?_⟩
    refine (L1_ok hf (hd d List.mem_cons_self) he).imp ?_
    rintro f e m ⟨rfl, he, rfl⟩
    exact tn.nx _ _ ⟨fun d h => hd d (List.mem_cons_of_mem _ h), he, k, hk, rfl⟩
theorem law_ok (ns : List Int) (h : ns.length ≤ 63) : okR (pg.call 60 "law" [.scr (ns.map .int)] []) fun d m => d = .bl true ∧ m = [] := by
  have h1 : pg.call 59 "_law_draws" = c__law_draws := k__law_draws 58
  have h2 : pg.call 59 "_law_frame" = c__law_frame := k__law_frame 57
  have h3 : pg.call 59 "_law_states" = c__law_states := k__law_states 58
  have h5 : pg.call 59 "_law_pick" = c__law_pick := k__law_pick 57
  have h6 : pg.call 59 "_law_says" = c__law_says := k__law_says 58
  have h7 : pg.call 59 "_law_next" = c__law_next := k__law_next 58
  have h8 : pg.call 59 "_law_same" = c__law_same := k__law_same 58
  rw [r_law 59, h1, h2, h3, h5, h6, h7, h8]
  refine okF rfl ?_
  unfold b_law
  obtain ⟨d1, m1, e1, rfl, ds, rfl⟩ := draws_ok 4000 (by omega) ns h []
  have i1 : ((4000 : Nat) : Int) = 4000 := rfl
  rw [i1] at e1
  have hr : List.map some [D.scr (ns.map .int)] ++ List.replicate (21 - [D.scr (ns.map .int)].length) none = [some (.scr (ns.map .int)), none, none, none, none, none, none, none, none, none, none, none, none, none, none, none, none, none, none, none, none] := rfl
  have ed : fDct [((fCon (.str "draws")), (fApp c__law_draws (fCons (fVar 0) (fCons (fCon (.int 4000)) fNil)))), ((fCon (.str "at")), (fCon (.int 0)))] [some (.scr (ns.map .int)), none, none, none, none, none, none, none, none, none, none, none, none, none, none, none, none, none, none, none, none] [] = .ok (.dct [.str "draws", .str "at"] [.lst (ds.map .int), .int 0]) [] := by
    unfold fDct
    have : fPairs [((fCon (.str "draws")), (fApp c__law_draws (fCons (fVar 0) (fCons (fCon (.int 4000)) fNil)))), ((fCon (.str "at")), (fCon (.int 0)))] [some (.scr (ns.map .int)), none, none, none, none, none, none, none, none, none, none, none, none, none, none, none, none, none, none, none, none] [] = .ok ([.str "draws", .str "at"], [.lst (ds.map .int), .int 0]) [] := by
      simp [fPairs, e1]
    rw [this]
    rfl
  rw [hr, sSeq_ap, sSet_ap, fNew_ap, ed]
  simp only [bnd_ok, newC_dct, ofP_some, sBd_ok, List.set_cons_succ, List.set_cons_zero, sThen_nx, List.length_nil, List.nil_append]
  rw [sSeq_ap, sFor_ap, jRng1_ap (n := 8) (by simp) (by omega) (by omega), sBd_ok]
  refine okS.thn ?_
  refine forT0 (fun rem e m => ∃ k a2 a3 a4 a5 a6 a7 a8 a9 a10 a11 a12 a13 a14 a15 a16 a17 a18 a19 a20, 0 ≤ k ∧ e = [some (.scr (ns.map .int)), some (.ref 0), a2, a3, a4, a5, a6, a7, a8, a9, a10, a11, a12, a13, a14, a15, a16, a17, a18, a19, a20] ∧ m = [wc ds k]) ⟨0, _, _, _, _, _, _, _, _, _, _, _, _, _, _, _, _, _, _, _, Int.le_refl 0, rfl, rfl⟩ ?_ ?_
  · rintro e m ⟨k, a2, a3, a4, a5, a6, a7, a8, a9, a10, a11, a12, a13, a14, a15, a16, a17, a18, a19, a20, hk, rfl, rfl⟩
    show okS _ _
    simp only [sRet_ap, fCon_ap, sBd_ok]
    refine okS.mk ?_
    show okR (gcR (.bl true) [] ([] ++ [wc ds k])) _
    rw [gcR_plain rfl]
    exact okR.mk ⟨rfl, rfl⟩
  · rintro d rest e m ⟨k, a2, a3, a4, a5, a6, a7, a8, a9, a10, a11, a12, a13, a14, a15, a16, a17, a18, a19, a20, hk, rfl, rfl⟩
    refine ⟨_, rfl, fun Q' tn => ?_⟩
    refine turn_ok ds k hk [] _ _ _ _ _ _ _ _ _ _ _ _ _ _ _ _ _ _ _ _ Q' fun fr X C e he k' hk' => ?_
    obtain ⟨a6, a9, a10, a11, a12, a13, a14, a15, a16, a17, a18, a19, a20, rfl⟩ := he
    exact tn.nx _ _ ⟨k', _, _, _, _, _, _, _, _, _, _, _, _, _, _, _, _, _, _, _, hk', rfl, rfl⟩
theorem plain (ns : List Int) (h : ns.length ≤ 63) : pg.call 60 "law" [.scr (ns.map .int)] [] = .ok (.bl true) [] := okR.eq (law_ok ns h)
end K01

open PySem PySem.W PyProof.Rows
set_option maxRecDepth 100000 in
set_option maxHeartbeats 0 in
theorem PySem.Challenge.cw_closersteps_k01_expressions_and_conditio_holds : PySem.Challenge.rw_closersteps_k01_expressions_and_conditio.Holds := by
  w_on; o_law; k_head; (case hw => w_witness2)
  k_fill
  refine Cs.walk_cs (l := PySem.Challenge.rw_closersteps_k01_expressions_and_conditio) (p := K01.pg) (fd := K01.f_law) 60 (by decide) rfl (by decide) rfl rfl rfl (fun w h Y => PySem.W.kIn_of Y) ?F K01.plain
  case F =>
    intro w mg h KX G
    constructor
    case defs =>
      refine' Cs.allC (Cs.def_mk KX G ?a ?l ?c ?k (by decide +kernel) (fun _ _ _ _ _ _ us hl => match us, hl with | [_], _ => rfl)) ?_
      (case a => k_is); (case l => k_is); (case c => k_is); (case k => k_is)
      refine' Cs.allC (Cs.def_mk KX G ?a ?l ?c ?k (by decide +kernel) (fun _ _ _ _ _ _ us hl => match us, hl with | [_], _ => rfl)) ?_
      (case a => k_is); (case l => k_is); (case c => k_is); (case k => k_is)
      refine' Cs.allC (Cs.def_mk KX G ?a ?l ?c ?k (by decide +kernel) (fun _ _ _ _ _ _ us hl => match us, hl with | [_], _ => rfl)) ?_
      (case a => k_is); (case l => k_is); (case c => k_is); (case k => k_is)
      refine' Cs.allC (Cs.def_mk KX G ?a ?l ?c ?k (by decide +kernel) (fun _ _ _ _ _ _ us hl => match us, hl with | [_, _], _ => rfl)) ?_
      (case a => k_is); (case l => k_is); (case c => k_is); (case k => k_is)
      refine' Cs.allC (Cs.def_mk KX G ?a ?l ?c ?k (by decide +kernel) (fun _ _ _ _ _ _ us hl => match us, hl with | [_, _], _ => rfl)) ?_
      (case a => k_is); (case l => k_is); (case c => k_is); (case k => k_is)
      refine' Cs.allC (Cs.def_mk KX G ?a ?l ?c ?k (by decide +kernel) (fun _ _ _ _ _ _ us hl => match us, hl with | [_, _, _], _ => rfl)) ?_
      (case a => k_is); (case l => k_is); (case c => k_is); (case k => k_is)
      refine' Cs.allC (Cs.def_mk KX G ?a ?l ?c ?k (by decide +kernel) (fun _ _ _ _ _ _ us hl => match us, hl with | [_, _, _], _ => rfl)) ?_
      (case a => k_is); (case l => k_is); (case c => k_is); (case k => k_is)
      refine' Cs.allC (Cs.def_mk KX G ?a ?l ?c ?k (by decide +kernel) (fun _ _ _ _ _ _ us hl => match us, hl with | [_, _], _ => rfl)) ?_
      (case a => k_is); (case l => k_is); (case c => k_is); (case k => k_is)
      refine' Cs.allC (Cs.def_mk KX G ?a ?l ?c ?k (by decide +kernel) (fun _ _ _ _ _ _ us hl => match us, hl with | [_, _], _ => rfl)) ?_
      (case a => k_is); (case l => k_is); (case c => k_is); (case k => k_is)
      refine' Cs.allC (Cs.def_mk KX G ?a ?l ?c ?k (by decide +kernel) (fun _ _ _ _ _ _ us hl => match us, hl with | [_, _], _ => rfl)) ?_
      (case a => k_is); (case l => k_is); (case c => k_is); (case k => k_is)
      refine' Cs.allC (Cs.def_mk KX G ?a ?l ?c ?k (by decide +kernel) (fun _ _ _ _ _ _ us hl => match us, hl with | [_, _, _, _], _ => rfl)) ?_
      (case a => k_is); (case l => k_is); (case c => k_is); (case k => k_is)
      refine' Cs.allC (Cs.def_mk KX G ?a ?l ?c ?k (by decide +kernel) (fun _ _ _ _ _ _ us hl => match us, hl with | [_, _, _, _], _ => rfl)) ?_
      (case a => k_is); (case l => k_is); (case c => k_is); (case k => k_is)
      refine' Cs.allC (Cs.def_mk KX G ?a ?l ?c ?k (by decide +kernel) (fun _ _ _ _ _ _ us hl => match us, hl with | [_], _ => rfl)) ?_
      (case a => k_is); (case l => k_is); (case c => k_is); (case k => k_is)
      refine' Cs.allC (Cs.def_mk KX G ?a ?l ?c ?k (by decide +kernel) (fun _ _ _ _ _ _ us hl => match us, hl with | [_], _ => rfl)) ?_
      (case a => k_is); (case l => k_is); (case c => k_is); (case k => k_is)
      refine' Cs.allC (Cs.def_mk KX G ?a ?l ?c ?k (by decide +kernel) (fun _ _ _ _ _ _ us hl => match us, hl with | [_, _, _], _ => rfl)) ?_
      (case a => k_is); (case l => k_is); (case c => k_is); (case k => k_is)
      refine' Cs.allC (Cs.def_mk KX G ?a ?l ?c ?k (by decide +kernel) (fun _ _ _ _ _ _ us hl => match us, hl with | [_, _], _ => rfl)) ?_
      (case a => k_is); (case l => k_is); (case c => k_is); (case k => k_is)
      refine' Cs.allC (Cs.def_mk KX G ?a ?l ?c ?k (by decide +kernel) (fun _ _ _ _ _ _ us hl => match us, hl with | [_, _], _ => rfl)) ?_
      (case a => k_is); (case l => k_is); (case c => k_is); (case k => k_is)
      refine' Cs.allC (Cs.def_mk KX G ?a ?l ?c ?k (by decide +kernel) (fun _ _ _ _ _ _ us hl => match us, hl with | [_, _], _ => rfl)) ?_
      (case a => k_is); (case l => k_is); (case c => k_is); (case k => k_is)
      refine' Cs.allC (Cs.def_mk KX G ?a ?l ?c ?k (by decide +kernel) (fun _ _ _ _ _ _ us hl => match us, hl with | [_, _], _ => rfl)) ?_
      (case a => k_is); (case l => k_is); (case c => k_is); (case k => k_is)
      refine' Cs.allC (Cs.def_mk KX G ?a ?l ?c ?k (by decide +kernel) (fun _ _ _ _ _ _ us hl => match us, hl with | [_, _], _ => rfl)) ?_
      (case a => k_is); (case l => k_is); (case c => k_is); (case k => k_is)
      refine' Cs.allC (Cs.def_mk KX G ?a ?l ?c ?k (by decide +kernel) (fun _ _ _ _ _ _ us hl => match us, hl with | [_], _ => rfl)) ?_
      (case a => k_is); (case l => k_is); (case c => k_is); (case k => k_is)
      refine' Cs.allC (Cs.def_mk KX G ?a ?l ?c ?k (by decide +kernel) (fun _ _ _ _ _ _ us hl => match us, hl with | [_], _ => rfl)) ?_
      (case a => k_is); (case l => k_is); (case c => k_is); (case k => k_is)
      refine' Cs.allC (Cs.def_mk KX G ?a ?l ?c ?k (by decide +kernel) (fun _ _ _ _ _ _ us hl => match us, hl with | [_, _, _, _], _ => rfl)) ?_
      (case a => k_is); (case l => k_is); (case c => k_is); (case k => k_is)
      refine' Cs.allC (Cs.def_mk KX G ?a ?l ?c ?k (by decide +kernel) (fun _ _ _ _ _ _ us hl => match us, hl with | [_, _, _, _], _ => rfl)) ?_
      (case a => k_is); (case l => k_is); (case c => k_is); (case k => k_is)
      refine' Cs.allC (Cs.def_mk KX G ?a ?l ?c ?k (by decide +kernel) (fun _ _ _ _ _ _ us hl => match us, hl with | [_, _, _, _], _ => rfl)) ?_
      (case a => k_is); (case l => k_is); (case c => k_is); (case k => k_is)
      refine' Cs.allC (Cs.def_mk KX G ?a ?l ?c ?k (by decide +kernel) (fun _ _ _ _ _ _ us hl => match us, hl with | [_, _, _, _], _ => rfl)) ?_
      (case a => k_is); (case l => k_is); (case c => k_is); (case k => k_is)
      refine' Cs.allC (Cs.def_mk KX G ?a ?l ?c ?k (by decide +kernel) (fun _ _ _ _ _ _ us hl => match us, hl with | [_, _], _ => rfl)) ?_
      (case a => k_is); (case l => k_is); (case c => k_is); (case k => k_is)
      refine' Cs.allC (Cs.def_mk KX G ?a ?l ?c ?k (by decide +kernel) (fun _ _ _ _ _ _ us hl => match us, hl with | [_, _, _], _ => rfl)) ?_
      (case a => k_is); (case l => k_is); (case c => k_is); (case k => k_is)
      refine' Cs.allC (Cs.def_mk KX G ?a ?l ?c ?k (by decide +kernel) (fun _ _ _ _ _ _ us hl => match us, hl with | [_, _, _], _ => rfl)) ?_
      (case a => k_is); (case l => k_is); (case c => k_is); (case k => k_is)
      refine' Cs.allC (Cs.def_mk KX G ?a ?l ?c ?k (by decide +kernel) (fun _ _ _ _ _ _ us hl => match us, hl with | [_], _ => rfl)) ?_
      (case a => k_is); (case l => k_is); (case c => k_is); (case k => k_is)
      refine' Cs.allC (Cs.def_mk KX G ?a ?l ?c ?k (by decide +kernel) (fun _ _ _ _ _ _ us hl => match us, hl with | [_, _, _], _ => rfl)) ?_
      (case a => k_is); (case l => k_is); (case c => k_is); (case k => k_is)
      refine' Cs.allC (Cs.def_mk KX G ?a ?l ?c ?k (by decide +kernel) (fun _ _ _ _ _ _ us hl => match us, hl with | [_], _ => rfl)) ?_
      (case a => k_is); (case l => k_is); (case c => k_is); (case k => k_is)
      exact Cs.allN
    case glob =>
      refine' Cs.allC (Cs.g_str KX G ?a) ?_; (case a => k_is)
      refine' Cs.allC (Cs.g_str KX G ?a) ?_; (case a => k_is)
      refine' Cs.allC (Cs.g_int KX G ?a) ?_; (case a => k_is)
      refine' Cs.allC (Cs.g_any KX G ?a (Cs.gv_tup ?l0 ?c0 ?d0 ?z0 ?i0 rfl ?n0)) ?_
      (case a => k_is); (case l0 => k_is); (case c0 => rfl); (case d0 => rfl); (case n0 => rfl); (case z0 => decide +kernel); (case i0 => exact (.cons Cs.gv_str (.cons Cs.gv_str (.cons Cs.gv_str (.cons Cs.gv_str (.cons Cs.gv_str .nil))))))
      refine' Cs.allC (Cs.g_any KX G ?a (Cs.gv_tup ?l0 ?c0 ?d0 ?z0 ?i0 rfl ?n0)) ?_
      (case a => k_is); (case l0 => k_is); (case c0 => rfl); (case d0 => rfl); (case n0 => rfl); (case z0 => decide +kernel); (case i0 => exact (.cons Cs.gv_str (.cons Cs.gv_str .nil)))
      refine' Cs.allC (Cs.g_int KX G ?a) ?_; (case a => k_is)
      exact Cs.allN
    case bl =>
      refine' Cs.allC (Cs.b_none KX G ?a) ?_; (case a => k_is)
      refine' Cs.allC (Cs.b_none KX G ?a) ?_; (case a => k_is)
      refine' Cs.allC (Cs.b_none KX G ?a) ?_; (case a => k_is)
      refine' Cs.allC (Cs.b_none KX G ?a) ?_; (case a => k_is)
      refine' Cs.allC (Cs.b_none KX G ?a) ?_; (case a => k_is)
      refine' Cs.allC (Cs.b_none KX G ?a) ?_; (case a => k_is)
      refine' Cs.allC (Cs.b_none KX G ?a) ?_; (case a => k_is)
      refine' Cs.allC (Cs.b_none KX G ?a) ?_; (case a => k_is)
      refine' Cs.allC (Cs.b_none KX G ?a) ?_; (case a => k_is)
      refine' Cs.allC (Cs.b_none KX G ?a) ?_; (case a => k_is)
      refine' Cs.allC (Cs.b_none KX G ?a) ?_; (case a => k_is)
      refine' Cs.allC (Cs.b_none KX G ?a) ?_; (case a => k_is)
      refine' Cs.allC (Cs.b_none KX G ?a) ?_; (case a => k_is)
      refine' Cs.allC (Cs.b_none KX G ?a) ?_; (case a => k_is)
      exact Cs.allN

