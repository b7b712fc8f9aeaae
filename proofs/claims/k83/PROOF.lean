import PyProof.Rows.All
import Wide.All
import OpenK.AllK
import Wide.FinOn
import HandS.Codes
import HandS.Conv
import HandS.Deep
import HandS.Dict
import HandS.ExcIs
import HandS.ExcValue
import HandS.FStr
import HandS.Flow
import HandS.Flt
import HandS.ForMost
import HandS.IsInst
import HandS.List
import HandS.ListItems
import HandS.More
import HandS.RaiseMore
import HandS.ReplaceLit
import HandS.SetFor
import HandS.SortRule
import HandS.Strs
import HandS.Style
import HandS.Text
import HandS.TryOnly
import HandS.TupAny
import HandS.TupLe
import HandS.Wide
import HandS.WordsExc
import KE.DataMinMax
import KE.GoesMore
import KE.IntText
import KE.KDictDisplayH
import KE.KDictZip
import KE.KItemsList
import KE.LtData
import PyProof.CollectStr
import PyProof.EqKinds
import PyProof.FactsAll.dict
import PyProof.FactsAll.subtypes
import PyProof.ListStr
import PyProof.NeKinds
import PyProof.ReprLen
import PyProof.ReprReads
import PyProof.ReprRoads
import PyProof.Rows.FactsT3
import PyProof.Rows.ReprOcc
import PyProof.Rows.SetFrom
import PyProof.Rows.SortStr
import PyProof.SetRoads
import PyProof.StrBlock2
import PyProof.TupleOfStr
import Wide.Txt
import PySem.Challenge.RW_farline_k83_texts_written
set_option Elab.async false
set_option linter.all false
set_option maxRecDepth 100000
set_option maxHeartbeats 4000000
namespace Fl
inductive D where
  | non
  | bl (b : Bool)
  | int (i : Int)
  | str (x : List Nat)
  | tup (xs : List D)
  | lst (xs : List D)
  | ref (n : Nat)
  | scr (xs : List D)
  deriving Inhabited
/-- a dict's key -/
inductive DK where
  | i (i : Int)
  | s (x : List Nat)
  deriving DecidableEq
inductive Ob where
  | lst (xs : List D)
  | ins (c : String) (fs : List (String × D))
  | dic (kvs : List (DK × D))
  | exc (c : String)
  | dit (kvs : List (List DK × D))
structure S where
  m : Nat → Option Ob
  nx : Nat
def S.put (s : S) (n : Nat) (o : Ob) : S := ⟨fun k => if k = n then some o else s.m k, s.nx⟩
def S.new (s : S) (o : Ob) : S := ⟨fun k => if k = s.nx then some o else s.m k, s.nx + 1⟩
def S.kill (s : S) (n : Nat) : S := ⟨fun k => if k = n then none else s.m k, s.nx⟩
inductive Rs (α : Type) where
  | ok (a : α)
  | er (c : String)
abbrev R (α : Type) := Option (Rs α × S)
def bnd {α β : Type} (x : R α) (f : α → S → R β) : R β :=
  match x with
  | some (.ok a, s) => f a s
  | some (.er c, s) => some (.er c, s)
  | none => none
def lft {α : Type} (o : Option α) (s : S) : R α :=
  match o with
  | some a => some (.ok a, s)
  | none => none
theorem bnd_ok {α β : Type} (a : α) (s : S) (f : α → S → R β) : bnd (some (.ok a, s)) f = f a s := rfl
theorem bnd_er {α β : Type} (c : String) (s : S) (f : α → S → R β) : bnd (some (.er c, s)) f = some (.er c, s) := rfl
theorem bnd_no {α β : Type} (f : α → S → R β) : bnd (none : R α) f = none := rfl
theorem lft_some {α : Type} (a : α) (s : S) : lft (some a) s = some (.ok a, s) := rfl
theorem lft_none {α : Type} (s : S) : lft (none : Option α) s = none := rfl
theorem bnd_inv {α β : Type} {x : R α} {f : α → S → R β} {b : β} {s' : S} (h : bnd x f = some (.ok b, s')) : ∃ a s, x = some (.ok a, s) ∧ f a s = some (.ok b, s') := by
  unfold bnd at h
  split at h
  · exact ⟨_, _, rfl, h⟩
  · cases h
  · cases h
theorem lft_inv {α : Type} {o : Option α} {s s' : S} {a : α} (h : lft o s = some (.ok a, s')) : o = some a ∧ s' = s := by
  unfold lft at h
  split at h
  · cases h
    exact ⟨rfl, rfl⟩
  · cases h
def LIM : Nat := 16777216
def ccont (s : S) : D → Option (List D)
  | .lst xs => some xs
  | .ref n => match s.m n with
    | some (.lst xs) => some xs
    | _ => none
  | _ => none
def lcont (s : S) : D → Option (List D)
  | .lst xs => some xs
  | .scr xs => some xs
  | .ref n => match s.m n with
    | some (.lst xs) => some xs
    | _ => none
  | _ => none
def cont (s : S) : D → Option (List D)
  | .tup xs => some xs
  | d => lcont s d
/-- dicts -/
def keyOf : D → Option DK
  | .int i => some (.i i)
  | .str x => some (.s x)
  | _ => none
def dlook {κ : Type} [DecidableEq κ] (kvs : List (κ × D)) (k : κ) : Option D := (kvs.find? fun kv => decide (kv.1 = k)).map (·.2)
def dput {κ : Type} [DecidableEq κ] (kvs : List (κ × D)) (k : κ) (v : D) : List (κ × D) :=
  if (kvs.any fun kv => decide (kv.1 = k)) = true then kvs.map (fun kv => if kv.1 = k then (kv.1, v) else kv) else kvs ++ [(k, v)]
def dmk (ks : List (List Nat)) (vs : List D) : List (DK × D) := (ks.zip vs).foldl (fun acc kv => dput acc (.s kv.1) kv.2) []
def dcont (s : S) : D → Option (List (DK × D))
  | .ref n => match s.m n with
    | some (.dic kvs) => some kvs
    | _ => none
  | _ => none
/-- dicts whose keys are tuples -/
def keyTs : List D → Option (List DK)
  | [] => some []
  | d :: r => (keyOf d).bind fun k => (keyTs r).map fun q => k :: q
def keyT : D → Option (List DK)
  | .tup ds => keyTs ds
  | _ => none
def tcont (s : S) : D → Option (List (List DK × D))
  | .ref n => match s.m n with
    | some (.dit kvs) => some kvs
    | _ => none
  | _ => none
def ixN (n : Nat) (i : Int) : Option Nat := if 0 ≤ i then (if i < n then some i.toNat else none) else if -(n : Int) ≤ i then some (i + n).toNat else none
def atI {α : Type} (xs : List α) (i : Int) : Option α := (ixN xs.length i).bind fun j => xs[j]?
def sIx (n d : Nat) : Option Int → Nat
  | none => d
  | some v => if v < 0 then (v + (n : Int)).toNat else min v.toNat n
def cut {α : Type} (xs : List α) (lo hi : Option Int) : List α := (xs.drop (sIx xs.length 0 lo)).take (sIx xs.length xs.length hi - sIx xs.length 0 lo)
def mkL (bx : Bool) (xs : List D) (s : S) : R D :=
  if bx then some (.ok (.ref s.nx), s.new (.lst xs)) else some (.ok (.lst xs), s)
/-- a list whose length is to be looked at -/
def mkLz (bx : Bool) (xs : List D) (s : S) : R D := if xs.length ≤ LIM then mkL bx xs s else none
inductive Bop where
  | add | sub | mul | fdiv | mod | pow
inductive Cop where
  | eq | ne | lt | le | gt | ge | is | isn | inn | nin
def sm64 (i : Int) : Bool := decide (-(2 ^ 64) < i) && decide (i < 2 ^ 64)
def wd (i j : Int) : Bool := decide (i.natAbs < 2 ^ 1000) && decide (j.natAbs < 2 ^ 1000)
def binI : Bop → Int → Int → Option Int
  | .add, i, j => some (i + j)
  | .sub, i, j => some (i - j)
  | .mul, i, j => if (sm64 i || sm64 j) || wd i j then some (i * j) else none
  | .fdiv, i, j => if j ≠ 0 ∧ j.natAbs < 10000000000000000000000000000000000000000 then some (i.fdiv j) else none
  | .mod, i, j => if j ≠ 0 then some (i.fmod j) else none
  | .pow, i, j => if 0 ≤ j ∧ j ≤ 1000000 ∧ i.natAbs < 2 ^ 64 then some (i ^ j.toNat) else none
def binD : Bop → D → D → Option D
  | o, .int i, .int j => (binI o i j).map .int
  | .add, .str x, .str y => if x.length + y.length ≤ LIM then some (.str (x ++ y)) else none
  | .add, .tup xs, .tup ys => if xs.length + ys.length ≤ LIM then some (.tup (xs ++ ys)) else none
  | _, _, _ => none
mutual
def eqD : D → D → Bool
  | .non, .non => true
  | .bl a, .bl b => a == b
  | .bl a, .int j => (if a then 1 else 0) == j
  | .int i, .bl b => i == (if b then 1 else 0)
  | .int i, .int j => i == j
  | .str x, .str y => x == y
  | .lst xs, .lst ys => eqL xs ys
  | .tup xs, .tup ys => eqL xs ys
  | _, _ => false
def eqL : List D → List D → Bool
  | [], [] => true
  | x :: xs, y :: ys => eqD x y && eqL xs ys
  | _, _ => false
end
/- without boxes, not too deep, texts of code points -/
mutual
def shp : Nat → D → Bool
  | _, .non => true
  | _, .bl _ => true
  | _, .int _ => true
  | _, .str x => x.all (· < 1114112)
  | 0, .tup _ => false
  | 0, .lst _ => false
  | k + 1, .tup xs => shpL k xs
  | k + 1, .lst xs => shpL k xs
  | _, .ref _ => false
  | _, .scr _ => false
def shpL : Nat → List D → Bool
  | _, [] => true
  | k, x :: xs => shp k x && shpL k xs
end
/-- boxes of lists opened, one level -/
def opn (s : S) : D → D
  | .ref n => match s.m n with
    | some (.lst xs) => .lst xs
    | _ => .ref n
  | .scr xs => .lst xs
  | d => d
/-- boxes of lists opened, many levels -/
def opnD (s : S) : Nat → D → D
  | 0, d => d
  | k + 1, .ref n => match s.m n with
    | some (.lst xs) => .lst (xs.map (opnD s k))
    | _ => .ref n
  | _ + 1, .scr xs => .lst xs
  | k + 1, .tup xs => .tup (xs.map (opnD s k))
  | k + 1, .lst xs => .lst (xs.map (opnD s k))
  | _ + 1, d => d
/-- a list, a tuple, a dict -/
def hvD (s : S) : D → Bool
  | .tup _ => true
  | .lst _ => true
  | .ref n => match s.m n with
    | some (.lst _) => true
    | some (.dic _) => true
    | _ => false
  | _ => false
def lgtD : D → Bool
  | .non => true
  | .int _ => true
  | _ => false
/-- two lists of unlike lengths -/
def lenU (s : S) (a b : D) : Bool := match ccont s a, ccont s b with
  | some xs, some ys => decide (xs.length ≠ ys.length)
  | _, _ => false
/-- things that are unlike whatever they hold -/
def unS (s : S) (a b : D) : Option Bool := if (hvD s a && lgtD b || lenU s a b) = true then some false else none
def eqS (s : S) (a b : D) : Option Bool :=
  match a, b with
  | .int i, .int j => some (decide (i = j))
  | .str x, .str y => some (decide (x = y))
  | .bl x, .bl y => some (decide (x = y))
  | .non, .non => some true
  | a, b => if shp 60 (opn s a) && shp 60 (opn s b) then some (eqD (opn s a) (opn s b)) else if shp 60 (opnD s 20 a) && shp 60 (opnD s 20 b) then some (eqD (opnD s 20 a) (opnD s 20 b)) else unS s a b
mutual
def toPD : D → PySem.PyData
  | .non => .none
  | .bl b => .bool b
  | .int i => .int i
  | .str x => .str ⟨x.toArray⟩
  | .tup xs => .tuple (toPDs xs)
  | .lst xs => .list (toPDs xs)
  | .ref _ => .none
  | .scr _ => .none
def toPDs : List D → List PySem.PyData
  | [] => []
  | x :: xs => toPD x :: toPDs xs
end
/-- a thing as data, its boxes opened -/
def pdK : DK → PySem.PyData
  | .i i => .int i
  | .s x => .str ⟨x.toArray⟩
mutual
def pdO (s : S) : Nat → D → Option PySem.PyData
  | _, .non => some .none
  | _, .bl b => some (.bool b)
  | _, .int i => some (.int i)
  | _, .str x => some (.str ⟨x.toArray⟩)
  | k + 1, .tup xs => (pdOs s k xs).map .tuple
  | k + 1, .lst xs => (pdOs s k xs).map .list
  | k + 1, .ref n => match s.m n with
    | some (.lst xs) => (pdOs s k xs).map .list
    | some (.dic kvs) => (pdOv s k kvs).map .dict
    | _ => none
  | _, _ => none
  termination_by k d => (k, sizeOf d)
def pdOs (s : S) : Nat → List D → Option (List PySem.PyData)
  | _, [] => some []
  | k, x :: xs => (pdO s k x).bind fun d => (pdOs s k xs).map fun ds => d :: ds
  termination_by k ds => (k, sizeOf ds)
def pdOv (s : S) : Nat → List (DK × D) → Option (List (PySem.PyData × PySem.PyData))
  | _, [] => some []
  | k, (q, x) :: xs => (pdO s k x).bind fun d => (pdOv s k xs).map fun ds => (pdK q, d) :: ds
  termination_by k ds => (k, sizeOf ds)
end
def rpOk (d : PySem.PyData) : Bool := d.showable && d.leavesShort 120 && decide (d.depth ≤ 4000) && decide (d.weight ≤ 120000)
/-- what repr writes -/
def reprD (s : S) (x : D) : Option D := (pdO s 4100 x).bind fun d => if rpOk d then some (.str d.shown.cps.toList) else none
def isNon : D → Bool
  | .non => true
  | _ => false
def flat : D → Bool
  | .non => true
  | .bl _ => true
  | .int _ => true
  | .str _ => true
  | _ => false
/-- stands in a list or tuple -/
def inD (s : S) (a b : D) : Option Bool := (cont s b).bind fun xs => if flat a && xs.all flat then some (xs.any fun x => eqD x a) else match opnD s 20 b with
  | .lst zs => if shp 60 (opnD s 20 a) && shp 60 (.lst zs) then some (zs.any fun z => eqD z (opnD s 20 a)) else none
  | _ => none
/-- x stands in y as a part -/
def sub? (x : List Nat) : List Nat → Bool
  | [] => x.isPrefixOf []
  | c :: y => x.isPrefixOf (c :: y) || sub? x y
def notN : PySem.PyData → Bool
  | .none => false
  | _ => true
/-- the order of tuples and lists whose parts are alike -/
def ltS (s : S) (a b : D) : Option Bool := match pdO s 20 a, pdO s 20 b with
  | some x, some y => if PySem.W.alike x y && notN x && decide (x.depth ≤ 100) then some (PySem.W.dataLt x y) else none
  | _, _ => none
def cmpD (s : S) : Cop → D → D → Option Bool
  | .eq, a, b => eqS s a b
  | .ne, a, b => (eqS s a b).map (!·)
  | .lt, .int i, .int j => some (decide (i < j))
  | .le, .int i, .int j => some (decide (i ≤ j))
  | .gt, .int i, .int j => some (decide (j < i))
  | .ge, .int i, .int j => some (decide (j ≤ i))
  | .lt, .str x, .str y => some (decide (x < y))
  | .le, .str x, .str y => some (!decide (y < x))
  | .lt, a, b => ltS s a b
  | .is, a, .non => some (isNon a)
  | .isn, a, .non => some (!isNon a)
  | .is, .bl a, .bl b => some (a == b)
  | .isn, .bl a, .bl b => some (!(a == b))
  | .inn, .str [c], .str y => some (decide (c ∈ y))
  | .nin, .str [c], .str y => some (!decide (c ∈ y))
  | .inn, a, b => match dcont s b with
    | some kvs => (keyOf a).map fun k => (dlook kvs k).isSome
    | none => match tcont s b with
      | some kvs => (keyT a).map fun k => (dlook kvs k).isSome
      | none => inD s a b
  | .nin, a, b => match dcont s b with
    | some kvs => (keyOf a).map fun k => !(dlook kvs k).isSome
    | none => match tcont s b with
      | some kvs => (keyT a).map fun k => !(dlook kvs k).isSome
      | none => (inD s a b).map (!·)
  | _, _, _ => none
def truth (s : S) : D → Option Bool
  | .bl b => some b
  | .non => some false
  | .int i => some (i != 0)
  | .str x => if x.length ≤ LIM then some (x.length != 0) else none
  | .tup xs => some (!xs.isEmpty)
  | d => (lcont s d).map fun xs => !xs.isEmpty
def idxL (s : S) (a b : D) : Option D :=
  match b with
  | .int i => match a with
    | .str x => if x.length ≤ LIM then (atI x i).map fun c => .str [c] else none
    | a => (cont s a).bind fun xs => atI xs i
  | _ => none
def idxD (s : S) (a b : D) : Option D := match dcont s a with
  | some kvs => (keyOf b).bind (dlook kvs)
  | none => match tcont s a with
    | some kvs => (keyT b).bind (dlook kvs)
    | none => idxL s a b
inductive Ty where
  | int | str | bool | tuple | list | dict
inductive Bi where
  | len | int | list (bx : Bool) | tuple | min2 | max2 | abs | sum | min3 | minL | minT | str | sorted (bx : Bool) | dict | minE | intT
inductive Mt where
  | append | pop | popAt | insert | join | index | clear | count | upper | extend | split (bx : Bool)
def tyOf (s : S) : D → Option Ty
  | .bl _ => some .bool
  | .int _ => some .int
  | .str _ => some .str
  | .tup _ => some .tuple
  | .lst _ => some .list
  | .scr _ => some .list
  | .ref n => match s.m n with
    | some (.lst _) => some .list
    | some (.dic _) => some .dict
    | some (.dit _) => some .dict
    | _ => none
  | .non => none
def subTy : Ty → Ty → Bool
  | .int, .int => true | .bool, .int => true | .bool, .bool => true | .str, .str => true | .tuple, .tuple => true | .list, .list => true | .dict, .dict => true
  | _, _ => false
def isiD (s : S) (d : D) (t : Ty) : Option Bool :=
  match d with
  | .non => some false
  | d => (tyOf s d).map fun u => subTy u t
def isiTD (s : S) (d : D) (ts : List Ty) : Option Bool :=
  match d with
  | .non => some false
  | d => (tyOf s d).map fun u => ts.any fun t => subTy u t
def txtOf : D → Option (List Nat)
  | .str x => some x
  | _ => none
def txts : List D → Option (List (List Nat))
  | [] => some []
  | d :: r => (txtOf d).bind fun x => (txts r).map fun y => x :: y
def joinT (sep : List Nat) : List (List Nat) → List Nat
  | [] => []
  | [x] => x
  | x :: y :: r => x ++ (sep ++ joinT sep (y :: r))
def sumLen : List (List Nat) → Nat
  | [] => 0
  | x :: r => x.length + sumLen r
def lenD (s : S) : List D → R D
  | [.str x] => if x.length ≤ LIM then some (.ok (.int x.length), s) else none
  | [d] => match dcont s d with
    | some kvs => some (.ok (.int kvs.length), s)
    | none => lft ((cont s d).map fun xs => .int xs.length) s
  | _ => none
def intD (s : S) : List D → R D
  | [.int i] => some (.ok (.int i), s)
  | [.bl b] => some (.ok (.int (if b then 1 else 0)), s)
  | _ => none
def listD (s : S) (bx : Bool) : List D → R D
  | [.str x] => if x.length ≤ LIM then mkL bx (x.map fun c => .str [c]) s else none
  | [d] => match cont s d with
    | some xs => mkL bx xs s
    | none => none
  | _ => none
def tupleD (s : S) : List D → R D
  | [.tup xs] => some (.ok (.tup xs), s)
  | [.str x] => if x.length ≤ LIM then some (.ok (.tup (x.map fun c => .str [c])), s) else none
  | [d] => lft ((lcont s d).map fun xs => .tup xs) s
  | _ => none
def minD (s : S) : List D → R D
  | [.int i, .int j] => some (.ok (.int (if j < i then j else i)), s)
  | _ => none
def maxD (s : S) : List D → R D
  | [.int i, .int j] => some (.ok (.int (if j > i then j else i)), s)
  | _ => none
def absD (s : S) : List D → R D
  | [.int i] => some (.ok (.int (if i < 0 then -i else i)), s)
  | _ => none
def intsD : List D → Option (List Int)
  | [] => some []
  | .int i :: r => (intsD r).map fun q => i :: q
  | _ => none
def sumD (s : S) : List D → R D
  | [d] => lft (((lcont s d).bind intsD).map fun ns => .int ns.sum) s
  | _ => none
def min3D (s : S) : List D → R D
  | [.int i, .int j, .int k] => some (.ok (.int (min (min i j) k)), s)
  | _ => none
def minI : List Int → Option Int
  | [] => none
  | [i] => some i
  | i :: j :: r => (minI (j :: r)).map (min i)
def minLD (s : S) : List D → R D
  | [d] => lft ((((lcont s d).bind intsD).bind minI).map .int) s
  | _ => none
/-- the order of two tuples that begin with a text and a number, which tell them apart -/
def ltEv : D → D → Option Bool
  | .tup (.str a :: .int i :: _), .tup (.str b :: .int j :: _) => if a = b then (if i = j then none else some (decide (i < j))) else some (decide (a < b))
  | _, _ => none
def minTL : List D → Option D
  | [.tup x] => some (.tup x)
  | [x, y] => (ltEv y x).map fun b => if b then y else x
  | _ => none
def minTD (s : S) : List D → R D
  | [d] => lft ((lcont s d).bind minTL) s
  | _ => none
/-- which of the things is the first of the least -/
def bestD (f : Nat → Nat → Bool) : Nat → Nat
  | 0 => 0
  | k + 1 => if f (k + 1) (bestD f k) = true then k + 1 else bestD f k
/-- min(xs) of things whose parts are alike -/
def minED (s : S) : List D → R D
  | [d] => match lcont s d with
    | some xs => match pdOs s 20 xs with
      | some ds => if (ds.all fun x => notN x && ds.all fun y => PySem.W.alike x y) && decide (PySem.PyData.depthAll ds ≤ 100) then lft (xs[bestD (fun i j => PySem.W.dataLt (ds.getD i .none) (ds.getD j .none)) (ds.length - 1)]?) s else none
      | none => none
    | none => none
  | _ => none
/-- int of a text -/
def intTD (s : S) : List D → R D
  | [.str x] => if x.length ≤ 640 then lft ((PySem.intText? ⟨x.toArray⟩).map .int) s else none
  | _ => none
/-- a part of f'..' -/
def fstP : D → Option (List Nat)
  | .str x => some x
  | .int i => if i.natAbs < 2 ^ 1900 then some (PySem.PyData.int i).shown.cps.toList else none
  | _ => none
def fstJ : List D → Option (List Nat)
  | [] => some []
  | d :: ds => (fstP d).bind fun x => (fstJ ds).map fun y => x ++ y
/-- str of a whole number, a text, a thing -/
def strD (s : S) : List D → R D
  | [.int i] => if i.natAbs < 2 ^ 1900 then some (.ok (.str (PySem.PyData.int i).shown.cps.toList), s) else none
  | [.str x] => some (.ok (.str x), s)
  | [d] => lft (reprD s d) s
  | _ => none
/-- numbers in order: once each, or as often as they stand -/
def insU (c : Nat) : List Nat → List Nat
  | [] => [c]
  | d :: r => if c < d then c :: d :: r else if c = d then d :: r else d :: insU c r
def sortU (x : List Nat) : List Nat := x.foldr insU []
def insM (c : Nat) : List Nat → List Nat
  | [] => [c]
  | d :: r => if c ≤ d then c :: d :: r else d :: insM c r
def sortM (x : List Nat) : List Nat := x.foldr insM []
/-- the points of texts of one sign -/
def onesD : List D → Option (List Nat)
  | [] => some []
  | .str [c] :: r => (onesD r).map fun q => c :: q
  | _ => none
/-- the numbers of tuples of the word z and a number -/
def wnD (z : List Nat) : List D → Option (List Int)
  | [] => some []
  | .tup [.str x, .int i] :: r => if x = z then (wnD z r).map fun q => i :: q else none
  | _ => none
/-- the first word -/
def wn1 : List D → List Nat
  | .tup (.str z :: _) :: _ => z
  | _ => []
def ordI : List Int → Bool
  | [] => true
  | i :: r => r.all (fun j => decide (i ≤ j)) && ordI r
/-- sorted of a list: of texts of one sign, or of tuples of one word and a number that are in order -/
def sortL (s : S) (bx : Bool) (xs : List D) : R D :=
  match onesD xs with
  | some l => if l.length < 64 then mkL bx ((sortM l).map fun c => .str [c]) s else none
  | none => match wnD (wn1 xs) xs with
    | some ks => if ordI ks then mkL bx xs s else none
    | none => none
def risI : List Int → Bool
  | [] => true
  | i :: r => r.all (fun j => decide (i < j)) && risI r
/-- sorted(set(xs)): of texts of one sign, or of whole numbers that rise -/
def ssetL (s : S) (bx : Bool) (xs : List D) : R D :=
  match onesD xs with
  | some l => if l.length < 64 then mkL bx ((sortU l).map fun c => .str [c]) s else none
  | none => match intsD xs with
    | some ks => if ks.length < 64 && risI ks then mkL bx xs s else none
    | none => none
def sortD (s : S) (bx : Bool) : List D → R D
  | [.str x] => if x.length < 64 then mkL bx ((sortM x).map fun c => .str [c]) s else none
  | [d] => match lcont s d with
    | some xs => sortL s bx xs
    | none => none
  | _ => none
def enumL : Nat → List D → List D
  | _, [] => []
  | i, x :: r => .tup [.int (i : Nat), x] :: enumL (i + 1) r
/-- the entries of dict(enumerate(xs)) -/
def denL : Nat → List D → List (DK × D)
  | _, [] => []
  | i, x :: r => (.i (i : Nat), x) :: denL (i + 1) r
def rngL (n : Int) : List D := (List.range n.toNat).map fun i => .int (i : Nat)
def lrngD (s : S) (bx : Bool) : List D → R D
  | [.int n] => if n ≤ 1000000 ∧ -1000000 ≤ n then mkL bx (rngL n) s else none
  | _ => none
/-- dict(xs) of a list of pairs -/
def pairsD : List D → Option (List (DK × D))
  | [] => some []
  | .tup [a, v] :: r => (keyOf a).bind fun k => (pairsD r).map fun q => (k, v) :: q
  | _ => none
def dictD (s : S) : List D → R D
  | [d] => match (lcont s d).bind pairsD with
    | some kvs => some (.ok (.ref s.nx), s.new (.dic (kvs.foldl (fun acc kv => dput acc kv.1 kv.2) [])))
    | none => none
  | _ => none
def biD (s : S) : Bi → List D → R D
  | .len, ds => lenD s ds
  | .int, ds => intD s ds
  | .list bx, ds => listD s bx ds
  | .tuple, ds => tupleD s ds
  | .min2, ds => minD s ds
  | .max2, ds => maxD s ds
  | .abs, ds => absD s ds
  | .sum, ds => sumD s ds
  | .min3, ds => min3D s ds
  | .minL, ds => minLD s ds
  | .minT, ds => minTD s ds
  | .str, ds => strD s ds
  | .intT, ds => intTD s ds
  | .sorted bx, ds => sortD s bx ds
  | .dict, ds => dictD s ds
  | .minE, ds => minED s ds
def appD (s : S) : D → List D → R D
  | .ref n, [x] => match s.m n with
    | some (.lst xs) => if xs.length < LIM then some (.ok .non, s.put n (.lst (xs ++ [x]))) else none
    | _ => none
  | _, _ => none
def popD (s : S) : D → List D → R D
  | .ref n, [] => match s.m n with
    | some (.lst xs) => match xs[xs.length - 1]? with
      | some y => some (.ok y, s.put n (.lst xs.dropLast))
      | none => none
    | _ => none
  | _, _ => none
def popAtD (s : S) : D → List D → R D
  | .ref n, [.int i] => match s.m n with
    | some (.lst xs) => if -(2 ^ 60) ≤ i ∧ i < 2 ^ 60 then match ixN xs.length i with
      | some k => match xs[k]? with
        | some y => some (.ok y, s.put n (.lst (xs.eraseIdx k)))
        | none => none
      | none => none
      else none
    | _ => none
  | _, _ => none
def insD (s : S) : D → List D → R D
  | .ref n, [.int i, x] => match s.m n with
    | some (.lst xs) => if xs.length < LIM ∧ 0 ≤ i ∧ i < 2 ^ 62 then some (.ok .non, s.put n (.lst (xs.take i.toNat ++ x :: xs.drop i.toNat))) else none
    | _ => none
  | _, _ => none
def joinD (s : S) : D → List D → R D
  | .str sep, [d] => match (cont s d).bind txts with
    | some ys => if sumLen ys + sep.length * ys.length ≤ LIM then some (.ok (.str (joinT sep ys)), s) else none
    | none => none
  | _, _ => none
def ixOfD (s : S) : D → List D → R D
  | d, [y] => match lcont s d with
    | some xs => if (flat y && xs.all flat) = true then match xs.findIdx? fun x => eqD x y with
      | some j => some (.ok (.int (j : Nat)), s)
      | none => none
      else match opnD s 20 d with
      | .lst zs => if shp 60 (opnD s 20 y) && shp 60 (.lst zs) then match zs.findIdx? fun z => eqD z (opnD s 20 y) with
        | some j => some (.ok (.int (j : Nat)), s)
        | none => none
        else none
      | _ => none
    | none => none
  | _, _ => none
def clrD (s : S) : D → List D → R D
  | .ref n, [] => match s.m n with
    | some (.lst _) => some (.ok .non, s.put n (.lst []))
    | _ => none
  | _, _ => none
def cntD (s : S) : D → List D → R D
  | d, [y] => match lcont s d with
    | some xs => if (flat y && xs.all flat) = true then some (.ok (.int ((xs.countP fun x => eqD x y : Nat) : Int)), s) else none
    | none => none
  | _, _ => none
def upN (c : Nat) : Nat := if 97 ≤ c ∧ c ≤ 122 then c - 32 else c
def uprD (s : S) : D → List D → R D
  | .str x, [] => if x.length ≤ 1000000 ∧ x.all (· < 128) = true then some (.ok (.str (x.map upN)), s) else none
  | _, _ => none
def extD (s : S) : D → List D → R D
  | .ref n, [d] => match s.m n with
    | some (.lst xs) => match ccont s d with
      | some ys => if xs.length + ys.length ≤ LIM then some (.ok .non, s.put n (.lst (xs ++ ys))) else none
      | none => none
    | _ => none
  | _, _ => none
/-- a text in parts -/
def splD (s : S) (bx : Bool) : D → List D → R D
  | .str a, [.str b] => if b ≠ [] ∧ a.length ≤ 1000000 then mkL bx ((PySem.Txt.split ⟨a.toArray⟩ ⟨b.toArray⟩).map fun z => .str z.cps.toList) s else none
  | _, _ => none
def metD (s : S) : Mt → D → List D → R D
  | .append, d, ds => appD s d ds
  | .pop, d, ds => popD s d ds
  | .popAt, d, ds => popAtD s d ds
  | .insert, d, ds => insD s d ds
  | .join, d, ds => joinD s d ds
  | .index, d, ds => ixOfD s d ds
  | .clear, d, ds => clrD s d ds
  | .count, d, ds => cntD s d ds
  | .upper, d, ds => uprD s d ds
  | .extend, d, ds => extD s d ds
  | .split bx, d, ds => splD s bx d ds
/-- the receiver is of the method's type -/
def mtOk (s : S) : Mt → D → Bool
  | .join, .str _ => true
  | .join, _ => false
  | .upper, .str _ => true
  | .upper, _ => false
  | .split _, .str _ => true
  | .split _, _ => false
  | _, d => (lcont s d).isSome
 set_option genInjectivity false
 set_option genSizeOfSpec false
inductive Tg where
  | nm (i : Nat)
  | tp (is : List Nat)
  | nt (i : Nat) (is : List Nat)
mutual
inductive E where
  | var (i : Nat)
  | non
  | bl (b : Bool)
  | int (i : Int)
  | str (x : List Nat)
  | gs (x : String) (v : List Nat)
  | gi (x : String) (v : Int)
  | bin (o : Bop) (a b : E)
  | neg (a : E)
  | not (a : E)
  | and (es : Es)
  | or (es : Es)
  | cmp (o : Cop) (a b : E)
  | chn (o p : Cop) (a b c : E)
  | ite (c a b : E)
  | tup (es : Es)
  | lst (bx : Bool) (es : Es)
  | cat (bx : Bool) (a b : E)
  | idx (a b : E)
  | sl (bx : Bool) (a : E) (lo hi : Oe)
  | call (f : String) (es : Es)
  | bi (b : Bi) (es : Es)
  | lrng (bx : Bool) (a : E)
  | isi (a : E) (t : Ty)
  | met (m : Mt) (o : E) (es : Es)
  | fld (o : E) (f : String)
  | own (o : E) (m : String) (es : Es)
  | mak (c : String) (es : Es)
  | lc (bx : Bool) (e : E) (tg : Tg) (it : It) (c : Oe)
  | frz (a : E)
  | dsp (ks : List (List Nat)) (vs : Es)
  | rpt (bx : Bool) (a b : E)
  | rev (bx : Bool) (a : E)
  | dnt
  | lenm (bx : Bool) (a : E)
  | denm (a : E)
  | fst (es : Es)
  | rpl (a o : E) (y z : List Nat)
  | dst (a b : E)
  | sset (bx : Bool) (a : E)
  | rps (a b : E)
  | dsi (a b : E)
  | dgv (o k d : E)
  | rpr (a : E)
  | lset (a : E)
  | dsv (a b : E)
  | isit (a : E) (ts : List Ty)
  | isx (a : E) (c : String)
  | isxt (a : E) (cs : List String)
  | dget (x : String) (tab : List (List Nat × Int)) (k d : E)
inductive Es where
  | nil
  | cons (e : E) (r : Es)
inductive Oe where
  | no
  | so (e : E)
inductive It where
  | seq (e : E)
  | any (e : E)
  | tup (e : E)
  | str (e : E)
  | rng (e : E)
  | rng2 (a b : E)
  | enm (e : E)
  | ens (e : E)
  | zip (a b : E)
end
/-- what a loop walks -/
inductive Iv where
  | seq (d : D)
  | rng (lo : Int) (n : Nat)
  | enm (d : D)
  | ens (x : List Nat)
  | zip (a b : D)
def ivLen (s : S) : Iv → Option Nat
  | .seq (.str x) => some x.length
  | .seq d => (cont s d).map (·.length)
  | .rng _ n => some n
  | .enm d => (lcont s d).map (·.length)
  | .ens x => some x.length
  | .zip a b => (lcont s a).bind fun xs => (lcont s b).map fun ys => min xs.length ys.length
def ivGet (s : S) (i : Nat) : Iv → Option D
  | .seq (.str x) => (x[i]?).map fun c => .str [c]
  | .seq d => (cont s d).bind (·[i]?)
  | .rng lo _ => some (.int (lo + i))
  | .enm d => (lcont s d).bind fun xs => (xs[i]?).map fun x => .tup [.int i, x]
  | .ens x => (x[i]?).map fun c => .tup [.int i, .str [c]]
  | .zip a b => (lcont s a).bind fun xs => (lcont s b).bind fun ys => (xs[i]?).bind fun x => (ys[i]?).map fun y => .tup [x, y]
abbrev Sl := List (Option D)
def setAll : List Nat → List D → Sl → Option Sl
  | [], [], r => some r
  | i :: is, d :: ds, r => setAll is ds (r.set i (some d))
  | _, _, _ => none
def ntD : D → Option (D × List D)
  | .tup [d, .tup ds] => some (d, ds)
  | _ => none
def tgSet (s : S) : Tg → D → Sl → Option Sl
  | .nm i, d, r => some (r.set i (some d))
  | .tp is, .tup ds, r => setAll is ds r
  | .tp is, .lst ds, r => setAll is ds r
  | .tp _, _, _ => none
  | .nt i is, d, r => (ntD d).bind fun p => setAll is p.2 (r.set i (some p.1))
abbrev CF := String → String → List D → S → R D
/-- a comprehension's turns -/
def lcN (tg : Tg) (iv : Iv) (tst : Sl → S → R Bool) (elt : Sl → S → R D) (r : Sl) : Nat → Nat → List D → S → R (List D)
  | 0, _, _, _ => none
  | m + 1, i, acc, s => match ivLen s iv with
    | none => none
    | some n => if i < n then match ivGet s i iv with
      | none => none
      | some x => match tgSet s tg x r with
        | none => none
        | some r' => bnd (tst r' s) fun b s => if b then bnd (elt r' s) fun d s => if acc.length < LIM then lcN tg iv tst elt r m (i + 1) (acc ++ [d]) s else none else lcN tg iv tst elt r m (i + 1) acc s
      else some (.ok acc, s)
def dgetD (tab : List (List Nat × Int)) (x y : D) (s : S) : R D := match x with
  | .str z => some (.ok (match tab.find? fun p => p.1 == z with | some p => .int p.2 | none => y), s)
  | _ => none
/-- len(set(xs)) of at most two whole numbers -/
def lsetD : List D → Option D
  | [] => some (.int 0)
  | [.int _] => some (.int 1)
  | [.int i, .int j] => some (.int (if i = j then 1 else 2))
  | _ => none
/-- an own error's class below another one -/
def subE (k c : String) : Bool := decide (c = "LineError") || decide (c = "ValueError") || decide (k = c)
/-- tests of a caught error -/
inductive Hx where
  | isx (t : String)
  | isxt (ts : List String)
  | var (i : Nat)
  | and (a b : Hx)
  | not (a : Hx)
def hxE (k : String) (r : Sl) : Hx → Option Bool
  | .isx t => some (subE k t)
  | .isxt ts => some (ts.any (subE k))
  | .var i => match r[i]? with
    | some (some (.bl b)) => some b
    | _ => none
  | .and a b => (hxE k r a).bind fun x => if x = true then hxE k r b else some false
  | .not a => (hxE k r a).map (!·)
def hxAll (k : String) : List (Nat × Hx) → Sl → Option Sl
  | [], r => some r
  | (j, h) :: t, r => (hxE k r h).bind fun b => hxAll k t (r.set j (some (.bl b)))
def isxD (s : S) (d : D) (cs : List String) : Option Bool := match d with
  | .ref n => match s.m n with
    | some (.exc k) => some (cs.any (subE k))
    | _ => none
  | _ => none
def frzD (s : S) : D → R D
  | .ref n => match s.m n with
    | some (.lst xs) => some (.ok (.lst xs), s.kill n)
    | _ => none
  | .lst xs => some (.ok (.lst xs), s)
  | _ => none
/-- d.get(k, z) -/
def dgvD (s : S) (x y z : D) : R D := match dcont s x with
  | some kvs => match keyOf y with
    | some k => some (.ok ((dlook kvs k).getD z), s)
    | none => none
  | none => match tcont s x with
    | some kvs => match keyT y with
      | some k => some (.ok ((dlook kvs k).getD z), s)
      | none => none
    | none => none
mutual
def ev (cf : CF) : E → Sl → S → R D
  | .var i, r, s => match r[i]? with
    | some (some d) => some (.ok d, s)
    | _ => none
  | .non, _, s => some (.ok .non, s)
  | .bl b, _, s => some (.ok (.bl b), s)
  | .int i, _, s => some (.ok (.int i), s)
  | .str x, _, s => some (.ok (.str x), s)
  | .gs _ v, _, s => some (.ok (.str v), s)
  | .gi _ v, _, s => some (.ok (.int v), s)
  | .bin o a b, r, s => bnd (ev cf a r s) fun x s => bnd (ev cf b r s) fun y s => lft (binD o x y) s
  | .neg a, r, s => bnd (ev cf a r s) fun x s => match x with
    | .int i => some (.ok (.int (-i)), s)
    | _ => none
  | .not a, r, s => bnd (ev cf a r s) fun x s => lft ((truth s x).map fun b => .bl (!b)) s
  | .and es, r, s => evAnd cf es r s
  | .or es, r, s => evOr cf es r s
  | .cmp o a b, r, s => bnd (ev cf a r s) fun x s => bnd (ev cf b r s) fun y s => lft ((cmpD s o x y).map .bl) s
  | .chn o p a b c, r, s => bnd (ev cf a r s) fun x s => bnd (ev cf b r s) fun y s => match cmpD s o x y with
    | some true => bnd (ev cf c r s) fun z s => lft ((cmpD s p y z).map .bl) s
    | some false => some (.ok (.bl false), s)
    | none => none
  | .ite c a b, r, s => bnd (ev cf c r s) fun x s => match truth s x with
    | some true => ev cf a r s
    | some false => ev cf b r s
    | none => none
  | .tup es, r, s => bnd (evs cf es r s) fun xs s => if xs.length ≤ LIM then some (.ok (.tup xs), s) else none
  | .lst bx es, r, s => bnd (evs cf es r s) fun xs s => mkLz bx xs s
  | .cat bx a b, r, s => bnd (ev cf a r s) fun x s => bnd (ev cf b r s) fun y s => match lcont s x, lcont s y with
    | some xs, some ys => mkLz bx (xs ++ ys) s
    | _, _ => none
  | .idx a b, r, s => bnd (ev cf a r s) fun x s => bnd (ev cf b r s) fun y s => lft (idxD s x y) s
  | .sl bx a lo hi, r, s => bnd (ev cf a r s) fun x s => bnd (evO cf lo r s) fun l s => bnd (evO cf hi r s) fun h s => match x with
    | .str z => if z.length ≤ LIM then some (.ok (.str (cut z l h)), s) else none
    | .tup zs => some (.ok (.tup (cut zs l h)), s)
    | x => match lcont s x with
      | some zs => mkL bx (cut zs l h) s
      | none => none
  | .call f es, r, s => bnd (evs cf es r s) fun xs s => cf "" f xs s
  | .bi b es, r, s => bnd (evs cf es r s) fun xs s => biD s b xs
  | .lrng bx a, r, s => bnd (ev cf a r s) fun x s => lrngD s bx [x]
  | .isi a t, r, s => bnd (ev cf a r s) fun x s => lft ((isiD s x t).map .bl) s
  | .met m o es, r, s => bnd (ev cf o r s) fun x s => if mtOk s m x then bnd (evs cf es r s) fun xs s => metD s m x xs else none
  | .fld o f, r, s => bnd (ev cf o r s) fun x s => match x with
    | .ref n => match s.m n with
      | some (.ins _ fs) => lft (fs.lookup f) s
      | _ => none
    | _ => none
  | .own o m es, r, s => bnd (ev cf o r s) fun x s => match x with
    | .ref n => match s.m n with
      | some (.ins c fs) => match fs.lookup m with
        | none => bnd (evs cf es r s) fun xs s => if c = "" then none else cf c m (x :: xs) s
        | some _ => none
      | _ => none
    | _ => none
  | .mak c es, r, s => bnd (evs cf es r s) fun xs s => bnd (cf c "__init__" (.ref s.nx :: xs) (s.new (.ins c []))) fun v s' => match v with
    | .non => some (.ok (.ref s.nx), s')
    | _ => none
  | .lc bx e tg it c, r, s => bnd (evI cf it r s) fun iv s => match ivLen s iv with
    | none => none
    | some n => bnd (lcN tg iv (evT cf c) (ev cf e) r (n + 1) 0 [] s) fun xs s => mkL bx xs s
  | .frz a, r, s => bnd (ev cf a r s) fun x s => frzD s x
  | .dsp ks vs, r, s => bnd (evs cf vs r s) fun xs s => if xs.length = ks.length ∧ ks.length ≤ 15 then some (.ok (.ref s.nx), s.new (.dic (dmk ks xs))) else none
  | .rpt bx a b, r, s => bnd (ev cf a r s) fun x s => bnd (ev cf b r s) fun y s => match ccont s x, y with
    | some xs, .int k => if -(2 ^ 63) ≤ k ∧ k < 2 ^ 63 ∧ xs.length * k.toNat ≤ LIM then mkL bx (List.replicate k.toNat xs).flatten s else none
    | _, _ => none
  | .rev bx a, r, s => bnd (ev cf a r s) fun x s => match x with
    | .str z => if z.length ≤ LIM then some (.ok (.str z.reverse), s) else none
    | .tup zs => some (.ok (.tup zs.reverse), s)
    | x => match lcont s x with
      | some xs => mkL bx xs.reverse s
      | none => none
  | .dnt, r, s => some (.ok (.ref s.nx), s.new (.dit []))
  | .lenm bx a, r, s => bnd (ev cf a r s) fun x s => match lcont s x with
    | some xs => mkL bx (enumL 0 xs) s
    | none => none
  | .dst a b, r, s => bnd (ev cf a r (s.new (.dit []))) fun x s1 => bnd (ev cf b r s1) fun y s2 => match keyT x, s2.m s.nx with
    | some k, some (.dit []) => some (.ok (.ref s.nx), s2.put s.nx (.dit [(k, y)]))
    | _, _ => none
  | .fst es, r, s => bnd (evs cf es r s) fun ds s => match fstJ ds with
    | some x => if x.length ≤ LIM then some (.ok (.str x), s) else none
    | none => none
  | .rpl a o y z, r, s => bnd (ev cf a r s) fun x s => bnd (ev cf o r s) fun w s => match x, w with
    | .str x, .str w => if w.length + (w.length + 1) * z.length ≤ LIM ∧ (x ++ (PySem.Txt.replace ⟨w.toArray⟩ ⟨y.toArray⟩ ⟨z.toArray⟩).cps.toList).length ≤ LIM then some (.ok (.str (x ++ (PySem.Txt.replace ⟨w.toArray⟩ ⟨y.toArray⟩ ⟨z.toArray⟩).cps.toList)), s) else none
    | _, _ => none
  | .denm a, r, s => bnd (ev cf a r s) fun x s => match lcont s x with
    | some xs => some (.ok (.ref s.nx), s.new (.dic ((denL 0 xs).foldl (fun acc kv => dput acc kv.1 kv.2) [])))
    | none => none
  | .sset bx a, r, s => bnd (ev cf a r s) fun x s => match x with
    | .str z => if z.length < 64 then mkL bx ((sortU z).map fun c => .str [c]) s else none
    | x => match lcont s x with
      | some xs => ssetL s bx xs
      | none => none
  | .rps a b, r, s => bnd (ev cf a r s) fun x s => bnd (ev cf b r s) fun y s => match x, y with
    | .str z, .int k => if -1000 ≤ k ∧ k ≤ 1000 ∧ z.length ≤ 1000 then some (.ok (.str (List.replicate k.toNat z).flatten), s) else none
    | _, _ => none
  | .dsi a b, r, s => bnd (ev cf a r s) fun x s => bnd (ev cf b r s) fun y s => match x with
    | .int i => some (.ok (.ref s.nx), s.new (.dic [(.i i, y)]))
    | _ => none
  | .dgv o k d, r, s => bnd (ev cf o r s) fun x s => if (dcont s x).isSome || (tcont s x).isSome then bnd (ev cf k r s) fun y s => bnd (ev cf d r s) fun z s => dgvD s x y z else none
  | .rpr a, r, s => bnd (ev cf a r s) fun x s => lft (reprD s x) s
  | .dsv a b, r, s => bnd (ev cf a r s) fun x s => bnd (ev cf b r s) fun y s => match x with
    | .str z => some (.ok (.ref s.nx), s.new (.dic (dmk [z] [y])))
    | _ => none
  | .lset a, r, s => bnd (ev cf a r s) fun x s => lft ((lcont s x).bind lsetD) s
  | .isit a ts, r, s => bnd (ev cf a r s) fun x s => lft ((isiTD s x ts).map .bl) s
  | .isx a c, r, s => bnd (ev cf a r s) fun x s => lft ((isxD s x [c]).map .bl) s
  | .isxt a cs, r, s => bnd (ev cf a r s) fun x s => lft ((isxD s x cs).map .bl) s
  | .dget _ tab k d, r, s => bnd (ev cf k r s) fun x s => bnd (ev cf d r s) fun y s => dgetD tab x y s
def evs (cf : CF) : Es → Sl → S → R (List D)
  | .nil, _, s => some (.ok [], s)
  | .cons e t, r, s => bnd (ev cf e r s) fun x s => bnd (evs cf t r s) fun xs s => some (.ok (x :: xs), s)
def evAnd (cf : CF) : Es → Sl → S → R D
  | .nil, _, _ => none
  | .cons e .nil, r, s => ev cf e r s
  | .cons e (.cons e' t), r, s => bnd (ev cf e r s) fun x s => match x with
    | .bl true => evAnd cf (.cons e' t) r s
    | .bl false => some (.ok (.bl false), s)
    | _ => none
def evOr (cf : CF) : Es → Sl → S → R D
  | .nil, _, _ => none
  | .cons e .nil, r, s => ev cf e r s
  | .cons e (.cons e' t), r, s => bnd (ev cf e r s) fun x s => match x with
    | .bl true => some (.ok (.bl true), s)
    | .bl false => evOr cf (.cons e' t) r s
    | _ => none
def evO (cf : CF) : Oe → Sl → S → R (Option Int)
  | .no, _, s => some (.ok none, s)
  | .so e, r, s => bnd (ev cf e r s) fun x s => match x with
    | .int i => some (.ok (some i), s)
    | _ => none
/-- a clause's test -/
def evT (cf : CF) : Oe → Sl → S → R Bool
  | .no, _, s => some (.ok true, s)
  | .so e, r, s => bnd (ev cf e r s) fun x s => lft (truth s x) s
def evI (cf : CF) : It → Sl → S → R Iv
  | .seq e, r, s => bnd (ev cf e r s) fun x s => match lcont s x with
    | some _ => some (.ok (.seq x), s)
    | none => none
  | .any e, r, s => bnd (ev cf e r s) fun x s => match x with
    | .tup xs => some (.ok (.seq (.tup xs)), s)
    | x => match lcont s x with
      | some _ => some (.ok (.seq x), s)
      | none => none
  | .tup e, r, s => bnd (ev cf e r s) fun x s => match x with
    | .tup xs => some (.ok (.seq (.tup xs)), s)
    | _ => none
  | .str e, r, s => bnd (ev cf e r s) fun x s => match x with
    | .str xs => some (.ok (.seq (.str xs)), s)
    | _ => none
  | .rng e, r, s => bnd (ev cf e r s) fun x s => match x with
    | .int j => if j < 2 ^ 62 ∧ -(2 ^ 62) ≤ j then some (.ok (.rng 0 j.toNat), s) else none
    | _ => none
  | .rng2 a b, r, s => bnd (ev cf a r s) fun x s => bnd (ev cf b r s) fun y s => match x, y with
    | .int i, .int j => if i < 2 ^ 62 ∧ -(2 ^ 62) ≤ i ∧ j < 2 ^ 62 ∧ -(2 ^ 62) ≤ j then some (.ok (.rng i (j - i).toNat), s) else none
    | _, _ => none
  | .enm e, r, s => bnd (ev cf e r s) fun x s => match lcont s x with
    | some _ => some (.ok (.enm x), s)
    | none => none
  | .ens e, r, s => bnd (ev cf e r s) fun x s => match x with
    | .str z => some (.ok (.ens z), s)
    | _ => none
  | .zip a b, r, s => bnd (ev cf a r s) fun x s => bnd (ev cf b r s) fun y s => match lcont s x, lcont s y with
    | some _, some _ => some (.ok (.zip x y), s)
    | _, _ => none
end
inductive Fw where
  | nx | bk | ct
  | rt (d : D)
  | rz (c : String)
/-- a call that may raise -/
inductive Xe where
  | call (f : String) (es : Es)
  | own (o : E) (m : String) (es : Es)
  | ite (c : E) (a b : Xe)
  | lst2 (a b : Xe)
  | lst3 (a b c : Xe)
  | pick (f g : String) (i : E) (es : Es)
mutual
inductive C where
  | asg (i : Nat) (e : E)
  | tpa (is : List Nat) (e : E)
  | tpl (is : List Nat) (e : E)
  | par (i j : Nat) (a b : E)
  | par3 (i j l : Nat) (a b c : E)
  | aug (i : Nat) (o : Bop) (e : E)
  | seti (o i e : E)
  | augi (o i : E) (p : Bop) (e : E)
  | setf (o : E) (f : String) (e : E)
  | augf (o : E) (f : String) (p : Bop) (e : E)
  | exp (e : E)
  | ret (e : E)
  | retn
  | ite (c : E) (a b : Cs)
  | for (tg : Tg) (it : It) (b : Cs)
  | whl (c : E) (b : Cs)
  | brk
  | cnt
  | pas
  | rse (c : String)
  | rz (c : String)
  | xexp (x : Xe)
  | xasg (i : Nat) (x : Xe)
  | xret (x : Xe)
  | xsetf (o : E) (f : String) (x : Xe)
  | tryc (b : Cs) (c : String) (i j : Nat)
  | tryk (b : Cs) (c : String) (j : Nat)
  | tryh (b : Cs) (c : String) (i : Nat) (hs : List (Nat × Hx))
inductive Cs where
  | nil
  | cons (c : C) (r : Cs)
end
abbrev XR := R (Fw × Sl)
/-- what is not raised -/
def bnn {α β : Type} (x : R α) (f : α → S → R β) : R β :=
  match x with
  | some (.ok a, s) => f a s
  | _ => none
theorem bnn_ok {α β : Type} (a : α) (s : S) (f : α → S → R β) : bnn (some (.ok a, s)) f = f a s := rfl
theorem bnn_inv {α β : Type} {x : R α} {f : α → S → R β} {b : Rs β × S} (h : bnn x f = some b) : ∃ a s, x = some (.ok a, s) ∧ f a s = some b := by
  unfold bnn at h
  split at h
  · exact ⟨_, _, rfl, h⟩
  · cases h
def ownX (s : S) (m : String) (x : D) (k : String → R D) : R D := match x with
  | .ref n => match s.m n with
    | some (.ins c fs) => match fs.lookup m with
      | none => if c = "" then none else k c
      | some _ => none
    | _ => none
  | _ => none
/-- one of two defs, by a number -/
def pickF (f g : String) : D → Option String
  | .int i => if i = 0 then some f else if i = 1 then some g else none
  | _ => none
def evx (cf : CF) : Xe → Sl → S → R D
  | .call f es, r, s => bnn (evs cf es r s) fun xs s => cf "" f xs s
  | .own o m es, r, s => bnn (ev cf o r s) fun x s => ownX s m x fun c => bnn (evs cf es r s) fun xs s => cf c m (x :: xs) s
  | .ite c a b, r, s => bnn (ev cf c r s) fun x s => match truth s x with
    | some true => evx cf a r s
    | some false => evx cf b r s
    | none => none
  | .lst2 a b, r, s => bnd (evx cf a r s) fun x s => bnd (evx cf b r s) fun y s => mkLz false [x, y] s
  | .lst3 a b c, r, s => bnd (evx cf a r s) fun x s => bnd (evx cf b r s) fun y s => bnd (evx cf c r s) fun z s => mkLz false [x, y, z] s
  | .pick f g i es, r, s => bnn (ev cf i r s) fun k s => match pickF f g k with
    | some h => bnn (evs cf es r s) fun xs s => cf "" h xs s
    | none => none
def bnr (q : R D) (r : Sl) (k : D → S → XR) : XR :=
  match q with
  | some (.ok d, s) => k d s
  | some (.er c, s) => some (.ok (.rz c, r), s)
  | none => none
theorem bnr_ok (d : D) (s : S) (r : Sl) (k : D → S → XR) : bnr (some (.ok d, s)) r k = k d s := rfl
theorem bnr_er (c : String) (s : S) (r : Sl) (k : D → S → XR) : bnr (some (.er c, s)) r k = some (.ok (.rz c, r), s) := rfl
def forN (tg : Tg) (iv : Iv) (body : Sl → S → XR) : Nat → Nat → Sl → S → XR
  | 0, _, _, _ => none
  | m + 1, i, r, s => match ivLen s iv with
    | none => none
    | some n => if i < n then match ivGet s i iv with
      | none => none
      | some x => match tgSet s tg x r with
        | none => none
        | some r' => bnd (body r' s) fun p s => match p with
          | (.nx, r) => forN tg iv body m (i + 1) r s
          | (.ct, r) => forN tg iv body m (i + 1) r s
          | (.bk, r) => some (.ok (.nx, r), s)
          | (.rt d, r) => some (.ok (.rt d, r), s)
          | (.rz c, r) => some (.ok (.rz c, r), s)
      else some (.ok (.nx, r), s)
def whlN (tst : Sl → S → R D) (body : Sl → S → XR) : Nat → Sl → S → XR
  | 0, _, _ => none
  | m + 1, r, s => bnd (tst r s) fun x s => match truth s x with
    | some true => bnd (body r s) fun p s => match p with
      | (.nx, r) => whlN tst body m r s
      | (.ct, r) => whlN tst body m r s
      | (.bk, r) => some (.ok (.nx, r), s)
      | (.rt d, r) => some (.ok (.rt d, r), s)
      | (.rz c, r) => some (.ok (.rz c, r), s)
    | some false => some (.ok (.nx, r), s)
    | none => none
def WF : Nat := 1000000
def setF (f : String) (v : D) : List (String × D) → List (String × D)
  | [] => [(f, v)]
  | (g, x) :: r => if g = f then (g, v) :: r else (g, x) :: setF f v r
mutual
def ex (cf : CF) : C → Sl → S → XR
  | .asg i e, r, s => bnd (ev cf e r s) fun x s => some (.ok (.nx, r.set i (some x)), s)
  | .tpa is e, r, s => bnd (ev cf e r s) fun x s => match x with
    | .tup xs => match setAll is xs r with
      | some r' => some (.ok (.nx, r'), s)
      | none => none
    | _ => none
  | .tpl is e, r, s => bnd (ev cf e r s) fun x s => match lcont s x with
    | some xs => match setAll is xs r with
      | some r' => some (.ok (.nx, r'), s)
      | none => none
    | none => none
  | .par i j a b, r, s => bnd (ev cf a r s) fun x s => bnd (ev cf b r s) fun y s => some (.ok (.nx, (r.set i (some x)).set j (some y)), s)
  | .par3 i j l a b c, r, s => bnd (ev cf a r s) fun x s => bnd (ev cf b r s) fun y s => bnd (ev cf c r s) fun z s => some (.ok (.nx, ((r.set i (some x)).set j (some y)).set l (some z)), s)
  | .aug i o e, r, s => match r[i]? with
    | some (some (.int a)) => bnd (ev cf e r s) fun y s => match y with
      | .int b => match o with
        | .add => some (.ok (.nx, r.set i (some (.int (a + b)))), s)
        | .sub => some (.ok (.nx, r.set i (some (.int (a - b)))), s)
        | _ => none
      | _ => none
    | _ => none
  | .seti o i e, r, s => bnd (ev cf e r s) fun v s => bnd (ev cf o r s) fun x s => bnd (ev cf i r s) fun k s => match x with
    | .ref n => match s.m n with
      | some (.lst xs) => match k with
        | .int k => match ixN xs.length k with
          | some j => some (.ok (.nx, r), s.put n (.lst (xs.set j v)))
          | none => none
        | _ => none
      | some (.dic kvs) => match keyOf k with
        | some k => if kvs.length < LIM then some (.ok (.nx, r), s.put n (.dic (dput kvs k v))) else none
        | none => none
      | some (.dit kvs) => match keyT k with
        | some k => if kvs.length < LIM then some (.ok (.nx, r), s.put n (.dit (dput kvs k v))) else none
        | none => none
      | _ => none
    | _ => none
  | .augi o i p e, r, s => bnd (ev cf o r s) fun x s => bnd (ev cf i r s) fun k s => match x, k with
    | .ref n, .int k => match s.m n with
      | some (.lst xs) => match atI xs k with
        | some (.int a) => bnd (ev cf e r s) fun y s => match y with
          | .int b => match s.m n with
            | some (.lst ys) => match ixN ys.length k with
              | some j => match p with
                | .add => some (.ok (.nx, r), s.put n (.lst (ys.set j (.int (a + b)))))
                | .sub => some (.ok (.nx, r), s.put n (.lst (ys.set j (.int (a - b)))))
                | _ => none
              | none => none
            | _ => none
          | _ => none
        | _ => none
      | _ => none
    | _, _ => none
  | .setf o f e, r, s => bnd (ev cf e r s) fun v s => bnd (ev cf o r s) fun x s => match x with
    | .ref n => match s.m n with
      | some (.ins c fs) => if fs.length < 900 then some (.ok (.nx, r), s.put n (.ins c (setF f v fs))) else none
      | _ => none
    | _ => none
  | .augf o f p e, r, s => bnd (ev cf o r s) fun x s => match x with
    | .ref n => match s.m n with
      | some (.ins c0 fs) => match fs.lookup f with
        | some (.int a) => bnd (ev cf e r s) fun y s => match y with
          | .int b => match s.m n with
            | some (.ins c fs) => if c = c0 ∧ fs.length < 900 then match p with
              | .add => some (.ok (.nx, r), s.put n (.ins c (setF f (.int (a + b)) fs)))
              | .sub => some (.ok (.nx, r), s.put n (.ins c (setF f (.int (a - b)) fs)))
              | _ => none
              else none
            | _ => none
          | _ => none
        | _ => none
      | _ => none
    | _ => none
  | .exp e, r, s => bnd (ev cf e r s) fun _ s => some (.ok (.nx, r), s)
  | .ret e, r, s => bnd (ev cf e r s) fun x s => some (.ok (.rt x, r), s)
  | .retn, r, s => some (.ok (.rt .non, r), s)
  | .ite c a b, r, s => bnd (ev cf c r s) fun x s => match truth s x with
    | some true => exs cf a r s
    | some false => exs cf b r s
    | none => none
  | .for tg it b, r, s => bnd (evI cf it r s) fun iv s => match ivLen s iv with
    | none => none
    | some n => forN tg iv (exs cf b) (n + 1) 0 r s
  | .whl c b, r, s => whlN (ev cf c) (exs cf b) WF r s
  | .brk, r, s => some (.ok (.bk, r), s)
  | .cnt, r, s => some (.ok (.ct, r), s)
  | .pas, r, s => some (.ok (.nx, r), s)
  | .rse c, _, s => some (.er c, s)
  | .rz c, r, s => some (.ok (.rz c, r), s)
  | .xexp x, r, s => bnr (evx cf x r s) r fun _ s => some (.ok (.nx, r), s)
  | .xasg i x, r, s => bnr (evx cf x r s) r fun d s => some (.ok (.nx, r.set i (some d)), s)
  | .xret x, r, s => bnr (evx cf x r s) r fun d s => some (.ok (.rt d, r), s)
  | .xsetf o f x, r, s => bnr (evx cf x r s) r fun v s => bnd (ev cf o r s) fun x s => match x with
    | .ref n => match s.m n with
      | some (.ins c fs) => if fs.length < 900 then some (.ok (.nx, r), s.put n (.ins c (setF f v fs))) else none
      | _ => none
    | _ => none
  | .tryc b c i j, r, s => bnd (exs cf b r s) fun p s => match p with
    | (.rz k, r') => if subE k c then some (.ok (.nx, ((r'.set i (some (.ref s.nx))).set j (some (.ref s.nx))).set i none), s.new (.exc k)) else some (.ok (.rz k, r'), s)
    | p => some (.ok p, s)
  | .tryk b c j, r, s => bnd (exs cf b r s) fun p s => match p with
    | (.rz k, r') => if subE k c then some (.ok (.nx, r'.set j (some (.bl true))), s) else some (.ok (.rz k, r'), s)
    | p => some (.ok p, s)
  | .tryh b c i hs, r, s => bnd (exs cf b r s) fun p s => match p with
    | (.rz k, r') => if subE k c then (match hxAll k hs (r'.set i none) with
      | some r2 => if i < r'.length then some (.ok (.nx, r2.set i none), s) else none
      | none => none) else some (.ok (.rz k, r'), s)
    | p => some (.ok p, s)
def exs (cf : CF) : Cs → Sl → S → XR
  | .nil, r, s => some (.ok (.nx, r), s)
  | .cons c t, r, s => bnd (ex cf c r s) fun p s => match p with
    | (.nx, r) => exs cf t r s
    | (.bk, r) => some (.ok (.bk, r), s)
    | (.ct, r) => some (.ok (.ct, r), s)
    | (.rt d, r) => some (.ok (.rt d, r), s)
    | (.rz c, r) => some (.ok (.rz c, r), s)
end
/-- a def: its class ("" of none), its name, how many parameters, how many names, its body -/
structure Fn where
  np : Nat
  ns : Nat
  body : Cs
 set_option genInjectivity true
 set_option genSizeOfSpec true
abbrev Prg := String → String → Option Fn
def fnRun (F : Fn) (cf : CF) (ds : List D) (s : S) : R D :=
  if ds.length = F.np then bnn (exs cf F.body (ds.map some ++ List.replicate (F.ns - F.np) none) s) fun p s => match p with
    | (.rt d, _) => some (.ok d, s)
    | (.nx, _) => some (.ok .non, s)
    | (.rz c, _) => some (.er c, s)
    | _ => none
  else none
def callF (P : Prg) : Nat → CF
  | 0, _, _, _, _ => none
  | k + 1, c, f, ds, s => match P c f with
    | some F => fnRun F (callF P k) ds s
    | none => none
end Fl
namespace Fl
open PySem L2 PySem.Spec PyProof.Rows
/-- room, and no guard stands -/
structure RmG (k : Nat) (A : Around) : Prop where
  rm : Room k A
  gd : A.guards = some []
  big : A.units + 16 * k + 4500 < cLine
theorem RmG.mono {j k : Nat} {A : Around} (r : RmG k A) (h : j ≤ k) : RmG j A := ⟨r.rm.mono h, r.gd, by have := r.big; omega⟩
theorem RmG.deeper {k : Nat} {A : Around} (r : RmG (k + 1) A) (env : Env) : RmG k (A.deeper env) := ⟨r.rm.deeper env, r.gd, by have := r.big; show A.units + 3 + _ + _ < _; omega⟩
theorem RmG.make {k : Nat} {A : Around} (r : RmG (k + 1) A) (C : Addr) (us : List Value) : RmG k (A.under (.builtin "type.__call__" ⟨.ref C :: us, []⟩)) := by
  refine ⟨r.rm.make C us [], ?_, by have := r.big; rw [make_units]; omega⟩
  have e : (A.under (.builtin "type.__call__" ⟨.ref C :: us, []⟩)).guards = A.guards := by simp [Around.under, Code.guards, Code.isGuard, guardIds, pushGuards]
  rw [e]
  exact r.gd
structure FnG (P : Program) (w : World) (K : PySem.W.Frag) (mg : Str → Option Value) (base : Heap) (CX : CXT) (k : Nat) (f : Addr) (fd : FuncData) (ps : List Str) (sp : Sp) : Prop where
  len : ∀ vs H Q E, sp vs H Q E → vs.length = ps.length
  go : ∀ (A : Around) (fr : List Env) (s : Shared) (H : Hp) (ar : Args) (us : List Value) (vs : List V) (Q : VK) (E : XK), RmG k A → Env0 P w K mg base A fr s H → BindsTo s fd ar (ps.zip us) → Vals vs us → sp vs H Q E →
    codeAny (model P w) A (.call (.ref f) ar) (CR CX fr P w H s Q E) s
theorem FnG.imp {P : Program} {w : World} {K : PySem.W.Frag} {mg : Str → Option Value} {base : Heap} {CX : CXT} {k : Nat} {f : Addr} {fd : FuncData} {ps : List Str} {sp sp' : Sp} (F : FnG P w K mg base CX k f fd ps sp) (h : ∀ vs H Q E, sp' vs H Q E → sp vs H Q E) : FnG P w K mg base CX k f fd ps sp' :=
  ⟨fun vs H Q E q => F.len vs H Q E (h vs H Q E q), fun A fr s H ar us vs Q E a b c d q => F.go A fr s H ar us vs Q E a b c d (h vs H Q E q)⟩
theorem RmG.un {k : Nat} {A : Around} (r : RmG k A) : A.units + 4499 < cLine := by have := r.big; omega
/-- what a call of the def at f comes to in the context X -/
def Runs (X : Cx) (f : Addr) (E : L2.St → XK) (sp : Sp) : Prop := ∀ (pins : List (Addr × Obj)) (σ : L2.St) (H : Hp) (s : Shared) (Q : VK) (us : List Value) (vs : List V), Inv X pins σ H s → Vals vs us → sp vs H Q (E σ) →
  wpAny (model X.prog X.w) X.A (call (.ref f) us) (EP X pins σ Q) X.xe s
section
variable {X : Cx} {CX : CXT} {k : Nat} {f C : Addr} {fd : FuncData} {ps : List Str} {sp : Sp} {E : L2.St → XK} {x m : Str} {p pos apos : Pos} {e o : Expr} {es : List Expr} {ta : TE} {t : TA}
theorem passAt0 {σ : L2.St} : PassesAt CX0 X σ E0 := fun pins H s e s' I h => pass0 pins σ H s e s' I h
theorem cr_after {pins : List (Addr × Obj)} {σ : L2.St} {H : Hp} {s s' : Shared} {Q : VK} {E1 : XK} {r : Result} (I : Inv X pins σ H s) (hx : PassesAt CX X σ E1) (h : CR CX X.stack X.prog X.w H s Q E1 r s') :
    (∃ u, r = .ok (.ret u) ∧ EP X pins σ Q u s') ∨ (∃ e, r = .error e ∧ X.xe e s') := by
  match r, h with
  | .ok (.ret u), h => exact .inl ⟨u, rfl, I.after h⟩
  | .error e, h => exact .inr ⟨e, rfl, hx pins H s e s' I h⟩
  | .ok .next, h => exact h.elim
  | .ok .brk, h => exact h.elim
  | .ok .cont, h => exact h.elim
theorem FnG.runs (F : FnG X.prog X.w X.K X.mg X.base CX k f fd ps sp) (hr : RmG k X.A) (hb : Binds X.K fd ps []) (hx : ∀ σ, PassesAt CX X σ (E σ)) : Runs X f E sp := by
  intro pins σ H s Q us vs I rv h
  have hn : us.length = ps.length := rv.length ▸ F.len _ _ _ _ h
  have bd := hb s us I.kIn (by rw [List.append_nil, hn])
  rw [List.append_nil] at bd
  refine wpAny_call (codeAny_mono (F.go X.A X.stack s H ⟨us, []⟩ us vs Q (E σ) hr I.env0 bd rv h) fun z s' q => ?_)
  rcases cr_after I (hx σ) q with ⟨u, rfl, q'⟩ | ⟨e, rfl, q'⟩
  · exact q'
  · exact q'
/-- f(..) by what its call comes to -/
def tGo (sp : Sp) (E : L2.St → XK) (t : TA) : TE := fun σ H Q => t σ H fun vs H1 => sp vs H1 Q (E σ)
theorem pg_call (R : Runs X f E sp) (hg : Gl X x) (hm : X.mg x = some (.ref f)) (hk : PySem.W.keepIn X.K (.ref f) = true) (ha : PA X (e :: es) t) (hdb : (x == ("__debug__" : Str)) = false)
    (he : starEach (e :: es) X.env = (false, eval e X.env) :: starEach es X.env) (hpl : (backTo pos (starEach es X.env)).any (·.1) = false) : PE X (.Call (.Name x p) (e :: es) [] pos) (tGo sp E t) :=
  ⟨fun pins s σ H Q I h => wpAny_Call_Name_kw (ld_glob I hg hm (PySem.W.callWith_K (h₀ := X.base) I.ok.mod.kin hk (thn (ha.run pos pins s σ H _ I h) fun us s1 ⟨vs, H1, I1, rv, q⟩ => ⟨I1.kIn, R pins σ H1 s1 Q us vs I1 rv q⟩) he hpl) hdb)⟩
theorem pg_call0 (R : Runs X f E sp) (hg : Gl X x) (hm : X.mg x = some (.ref f)) (hk : PySem.W.keepIn X.K (.ref f) = true) (hdb : (x == ("__debug__" : Str)) = false) : PE X (.Call (.Name x p) [] [] pos) (tGo sp E tNil) :=
  ⟨fun pins s σ H Q I h => wpAny_Call_Name_kw (ld_glob I hg hm (PySem.W.callWith_K0 I.kIn hk (R pins σ H s Q [] [] I .nil h)) hdb)⟩
/-- o.m(..) likewise -/
def tGoM (C : Addr) (m : Str) (sp : Sp) (E : L2.St → XK) (ta : TE) (t : TA) : TE := fun σ H Q => ta σ H fun x H1 => ∃ a dx fs, x = .ref a ∧ H1 a = some (.ins C dx fs) ∧ fs.lookup m = none ∧ t σ H1 fun vs H2 => sp (x :: vs) H2 Q (E σ)
theorem pg_meth {pl : Sem Bool} (ho : PE X o ta) (c : Cls X.K C) (hm : Meth X.K C m f) (R : Runs X f E sp) (ha : PA X (e :: es) t)
    (hst : starEach (e :: es) X.env = (false, eval e X.env) :: starEach es X.env) (hpl : (backTo pos (starEach es X.env)).any (·.1) = false)
    (ht : eval (.Call (.Attribute o m apos) (e :: es) [] pos) X.env = (do
      let ov ← eval o X.env
      standAt apos.atName
      let (f, first) ← holding [ov] (getMethod ov m pl)
      callWith pos f first (backTo pos (starEach (e :: es) X.env)) (backToKw pos (keywordEach [] X.env)))) : PE X (.Call (.Attribute o m apos) (e :: es) [] pos) (tGoM C m sp E ta t) := by
  refine ⟨fun pins s σ H Q I h => PySem.W.methodCall_KW (pl := pl) (thn (ho.run pins s σ H _ I h) fun u s1 hz => ?_) ht⟩
  obtain ⟨z, H1, I1, rz, a, dx, fs, rfl, ea, hl, q⟩ := hz
  cases (show u = Value.ref a from rz)
  exact getmeth_ok I1 ea c hm hl (PySem.W.callWith_K (first := [.ref a]) (h₀ := X.base) I.ok.mod.kin hm.kp (thn (ha.run pos pins s1 σ H1 _ I1 q) fun us s2 ⟨vs, H2, I2, rv, q2⟩ => ⟨I2.kIn, R pins σ H2 s2 Q (.ref a :: us) (.ref a :: vs) I2 (.cons rfl rv) q2⟩) hst hpl)
theorem pg_meth0 {pl : Sem Bool} (ho : PE X o ta) (c : Cls X.K C) (hm : Meth X.K C m f) (R : Runs X f E sp)
    (ht : eval (.Call (.Attribute o m apos) [] [] pos) X.env = (do
      let ov ← eval o X.env
      standAt apos.atName
      let (f, first) ← holding [ov] (getMethod ov m pl)
      callWith pos f first (backTo pos (starEach [] X.env)) (backToKw pos (keywordEach [] X.env)))) : PE X (.Call (.Attribute o m apos) [] [] pos) (tGoM C m sp E ta tNil) := by
  refine ⟨fun pins s σ H Q I h => PySem.W.methodCall_KW (pl := pl) (thn (ho.run pins s σ H _ I h) fun u s1 hz => ?_) ht⟩
  obtain ⟨z, H1, I1, rz, a, dx, fs, rfl, ea, hl, q⟩ := hz
  cases (show u = Value.ref a from rz)
  exact getmeth_ok I1 ea c hm hl (PySem.W.callWith_K0 (first := [.ref a]) I1.kIn hm.kp (R pins σ H1 s1 Q [.ref a] [.ref a] I1 (.cons rfl .nil) q))
/-- C(..): the new instance, then its __init__ -/
def mkSp (C : Addr) (sp : Sp) : Sp := fun vs H Q E => ∀ a dx, H a = none → H dx = none → dx ≠ a → sp (.ref a :: vs) (upd (upd H dx (.own a)) a (.ins C dx [])) (fun v H2 => v = .non ∧ Q (.ref a) H2) E
theorem FnG.makes (M : Mk X.K C f) (F : FnG X.prog X.w X.K X.mg X.base CX k f fd ps sp) (hr : RmG (k + 1) X.A) (hb : Binds X.K fd ps []) (hx : ∀ σ, PassesAt CX X σ (E σ)) : Runs X C E (mkSp C sp) := by
  intro pins σ H s Q us vs I rv h
  have J := Inv.made (C := C) I
  have hq := h (s.heap.objs.size + 1) s.heap.objs.size (I.hok.fresh (Nat.le_succ _)) (I.hok.fresh (Nat.le_refl _)) (Nat.ne_of_lt (Nat.lt_succ_self _))
  have rv2 : Vals (V.ref (s.heap.objs.size + 1) :: vs) (Value.ref (s.heap.objs.size + 1) :: us) := .cons rfl rv
  have hn : (Value.ref (s.heap.objs.size + 1) :: us).length = ps.length := rv2.length ▸ F.len _ _ _ _ hq
  have bd := fun z (KI : X.K.In z.heap) => hb z (Value.ref (s.heap.objs.size + 1) :: us) KI (by rw [List.append_nil, hn])
  simp only [List.append_nil] at bd
  refine wpAny_call (make_map (f := f) I.kIn M.makes M.init (beq_iff_eq.mp M.fn) (codeAny_mono (F.go _ X.stack _ _ ⟨Value.ref (s.heap.objs.size + 1) :: us, []⟩ _ _ _ (E σ) (hr.make C us) (J.env0.make C us []) (bd _ J.kIn) rv2 hq) fun z s' q => ?_))
  rcases cr_after J (hx σ) q with ⟨u, rfl, v, H', J3, r3, rfl, q3⟩ | ⟨e, rfl, qe⟩
  · exact ⟨r3, V.ref (s.heap.objs.size + 1), H', J3, rfl, q3⟩
  · exact qe
end
/-- a def's promise by its body -/
theorem fn_g {CX : CXT} {P : Program} {w : World} {K : PySem.W.Frag} {mg : Str → Option Value} {base : Heap} {x qual : Str} {st : Stmt} {f : Addr} {fd : FuncData} {N ps : List Str} {k : Nat} {sp : Sp} (F : Fun K x qual st f fd) (S : FnScope N ps (defScope st))
    (len : ∀ vs H Q E, sp vs H Q E → vs.length = ps.length)
    (hbody : ∀ (cd : Value) (A : Around) (fr : List Env) (s : Shared) (H : Hp) (vs : List V) (Q : VK) (E : XK), RmG k (A.deeper (envOfC qual (defScope st) s.heap.objs.size f cd)) → sp vs H Q E →
      ∃ t, PSs (cxOf CX P w K mg base N qual (defScope st) f cd A fr s H E) (defBody st) t ∧ t { nx := fun _ H' => Q .non H', rt := Q } (start N vs) H) : FnG P w K mg base CX (k + 1) f fd ps sp := by
  obtain ⟨oc, od, kV, doc, pm, an, cd, ct, osl, rfl, lk, hcd⟩ := F.ex
  refine ⟨len, fun A fr s H ar us vs Q E hr e0 hb rv hsp => ?_⟩
  have old : ∀ b o, base.get? b = some o → s.heap.get? b = some o := fun b o e => (e0.bs b o e).1
  have KX : K.In s.heap := e0.mod.kin.keeps old
  refine codeAny_call_function hr.rm.depth (KX _ _ lk) rfl S.co S.gen rfl (PySem.W.codeRec_of KX hcd) (hb _ _ _ _ (wpAny_newFunctionEnv_cells S.kind (fun ⟨n, v⟩ hy => ?_) fun env he s1 ic => ?_))
  · rcases S.par n (List.of_mem_zip hy).1 with q | q
    · exact .inl q
    · exact .inr ⟨q, PySem.W.cellsFrom_some _ _ _ (.inl q)⟩
  · subst he
    obtain ⟨t, ht, hq⟩ := hbody cd A fr s H vs Q E (hr.deeper _) hsp
    refine ⟨(e0.mod.nolimit.keeps old).keeps ic.toInCall.keep, codeAny_func (wpAny_mono (ht.run [] s1 (start N vs) H _ (inv_start S hr.rm.hd e0 (len _ _ _ _ hsp) rv ic) hq) (fun fl s' hs => ?_) fun e s' hs => hs)⟩
    match fl, hs with
    | .ret u, ⟨v, _, H', J, rv', q⟩ => exact ⟨v, H', J.os, J.bare, J.base, J.hok, rv', q⟩
    | .next, ⟨_, H', J, q⟩ => exact ⟨.non, H', J.os, J.bare, J.base, J.hok, rfl, q⟩
    | .brk, ⟨_, _, _, q⟩ => exact q.elim
    | .cont, ⟨_, _, _, q⟩ => exact q.elim
/-- the law's call, at the heap behind the top -/
theorem law_g {P : Program} {w : World} {K : PySem.W.Frag} {mg mb : Str → Option Value} {CX : CXT} {k : Nat} {fa a : Addr} {fd : FuncData} {x : Str} {sp : Sp} {s₁ : Shared} {vs : List Value} {ns : List Int}
    (KX : K.In s₁.heap) (hns : s₁.heap.Ns mainGlobals mg) (hb : s₁.heap.Ns builtinsNs mb) (hbb : ∀ x : Str, x ≠ "__name__" → mb x = bootBuiltins x) (hlim : s₁.heap.NoLimit) (hg : s₁.gens = #[])
    (ha : s₁.heap.get? a = some { cls := .type "list", data := .seq vs.toArray }) (hi : IntsAre vs ns) (hl : ns.length ≤ sizeLine) (hr : RmG k callerA)
    (F : ∀ base : Heap, FnG P w K mg base CX k fa fd [x] sp) (hbind : ∀ (s : Shared) (u : Value), BindsTo s fd ⟨[u], []⟩ [(x, u)])
    (hsp : ∀ H : Hp, SqL K H a (ns.map V.int) → sp [.ref a] H (fun v _ => v = .bl true) fun _ _ _ => False)
    (hCX : ∀ H e s', CX [] H s₁ (fun _ _ _ => False) e s' → False) :
    codeAny (model P w) callerA (.call (.ref fa) ⟨[.ref a], []⟩) (fun r s' => r = .ok (.ret (.bool true)) ∧ OldK s₁.heap s'.heap ∧ s'.os = s₁.os ∧ AllBare s'.gens) s₁ := by
  have rv := vals_ints hi
  have hlen := hi.length
  have main : ∀ H : Hp, (∀ b, H b = none ∨ (b = a ∧ K.lookup a = none ∧ ∃ ys, H b = some (.frz { cls := .type "list", data := .seq vs.toArray } (.lst ys)))) → SqL K H a (ns.map V.int) → HOk P w H s₁.heap →
      codeAny (model P w) callerA (.call (.ref fa) ⟨[.ref a], []⟩) (fun r s' => r = .ok (.ret (.bool true)) ∧ OldK s₁.heap s'.heap ∧ s'.os = s₁.os ∧ AllBare s'.gens) s₁ := by
    intro H hO hS hok
    have isD : ∀ {b : Addr} {o : Obj} {es : Array DictEntry} {ep : Nat}, s₁.heap.get? b = some o → o.data = .dict es ep → H b = none := fun {b o es ep} e d => by
      rcases hO b with z | ⟨rfl, _, _⟩
      · exact z
      · rw [ha] at e
        cases e
        cases d
    have nsK : ∀ {b : Addr} {m : Str → Option Value}, s₁.heap.Ns b m → (hidT s₁.heap H).Ns b m := fun {b m} ⟨o, es, ep, e, d, r⟩ => ⟨o, es, ep, hidT_get e (isD e d), d, r⟩
    have hK : K.In (hidT s₁.heap H) := fun b o e => hidT_get (KX b o e) (by
      rcases hO b with z | ⟨rfl, z, _⟩
      · exact z
      · rw [z] at e
        cases e)
    have md : Mod K mg (hidT s₁.heap H) := ⟨hK, nsK hns, ⟨mb, nsK hb, hbb⟩, let ⟨mc, h1, h2⟩ := hlim; ⟨mc, nsK h1, h2⟩⟩
    have e0 : Env0 P w K mg (hidT s₁.heap H) callerA [] s₁ H := ⟨rfl, md, fun b o e => of_hidT e, Nat.le_of_eq (hidT_size _ _), trivial, fun b z => absurd (show b ∈ ([] : List Addr) from z) List.not_mem_nil, hok, .of_eq hg⟩
    refine codeAny_mono ((F _).go callerA [] s₁ H ⟨[.ref a], []⟩ [.ref a] [.ref a] _ _ hr e0 (hbind s₁ (.ref a)) (.cons rfl .nil) (hsp H hS)) fun r s' h => ?_
    match r, h with
    | .error e, h => exact (hCX H e s' h).elim
    | .ok .next, h => exact h.elim
    | .ok .brk, h => exact h.elim
    | .ok .cont, h => exact h.elim
    | .ok (.ret u), ⟨v, H', os, bare, un, hok', ru, q⟩ =>
      cases (show v = .bl true from q)
      cases (show u = Value.bool true from ru)
      refine ⟨rfl, OldK.of_keep fun b o e => ?_, os, bare⟩
      rcases hO b with z | ⟨rfl, _, ys, z⟩
      · exact un.keep b o e z (fun y => absurd (show b ∈ ([] : List Addr) from y) List.not_mem_nil) List.not_mem_nil
      · have z1 := (hok b _ z).1
        have z2 := (hok' b _ (un.frzs b _ _ z)).1
        rw [e] at z1
        cases z1
        exact z2
  cases hk : K.lookup a with
  | some o =>
    have e := KX a o hk
    rw [ha] at e
    cases e
    exact main (fun _ => none) (fun _ => .inl rfl) (.inr ⟨_, vs.toArray, _, hk, rfl, rfl, rfl, by rw [List.size_toArray, hlen]; exact hl, by simpa using rv⟩) fun b u z => nomatch z
  | none =>
    let L : HO := .frz { cls := .type "list", data := .seq vs.toArray } (.lst (ns.map V.int))
    refine main (fun b => if b = a then some L else none) (fun b => ?_) (.inl (.inr ⟨{ cls := .type "list", data := .seq vs.toArray }, if_pos rfl⟩)) fun b u z => ?_
    · by_cases h : b = a
      · exact .inr ⟨h, hk, _, if_pos h⟩
      · exact .inl (if_neg h)
    · by_cases h : b = a
      · cases (if_pos h).symm.trans z
        subst h
        exact ⟨ha, by rw [List.length_map]; exact hl, vs, _, rv, ha⟩
      · cases (if_neg h).symm.trans z
theorem walk_g {l : PySem.W.OpenLaw} {n k : Nat} {q : Program} {loose : List Str} {XP : (Str → Option Value) → Heap → Prop} {YP : World → Heap → Prop} {d : DefRec} {K : Params → PySem.W.Frag} {CX : CXT} {sp : PySem.W.Frag → Sp} {x : Str}
    (hn : l.most = some n) (hz : n ≤ sizeLine) (hdf : d.params.defaults = []) (hr : RmG k callerA) (hY : ∀ (w : World) (h : Heap), YP w h → (K w.params).In h)
    (F : ∀ (w : World) (mg : Str → Option Value) (fa : Addr) (h : Heap), (K w.params).In h → h.Ns mainGlobals mg → mg d.name = some (.ref fa) →
      ∃ fd : FuncData, (∀ (s : Shared) (u : Value), BindsTo s fd ⟨[u], []⟩ [(x, u)]) ∧ ∀ base : Heap, FnG l.prog w (K w.params) mg base CX k fa fd [x] (sp (K w.params)))
    (hsp : ∀ (w : World) (H : Hp) (a : Addr) (ns : List Int), ns.length ≤ n → SqL (K w.params) H a (ns.map V.int) → sp (K w.params) [.ref a] H (fun v _ => v = .bl true) fun _ _ _ => False)
    (hCX : ∀ (H : Hp) (s : Shared) (e : Value) (s' : Shared), CX [] H s (fun _ _ _ => False) e s' → False) : PySem.W.WalkO q loose XP YP l.row.toRowW d [] (fun f vs => PySem.call f vs) := by
  refine Att.attach_call hn hdf fun w s₀ s₁ mg mb fa o pm cd doc a vs ns G Y ho hd hcd hmg hobj hints hlen hg => ?_
  obtain ⟨fd, hb, hF⟩ := F w mg fa _ (hY w _ Y) G.T.g hmg
  exact law_g (hY w _ Y) G.T.g G.T.b G.T.builtins G.T.nolimit hg hobj hints (Nat.le_trans hlen hz) hr hF hb (fun H hS => hsp w H a ns hlen hS) fun H e s' => hCX H s₁ e s'
end Fl
namespace Fl
open PySem L2
/-- where the boxes stand; addresses that are nobody's (a comprehension's list while it grows) -/
structure Mp where
  f : Nat → Option Addr
  pv : Addr → Prop
  K : PySem.W.Frag
instance : CoeFun Mp (fun _ => Nat → Option Addr) := ⟨Mp.f⟩
def Dead (φ : Mp) (s : S) (a : Addr) : Prop := ¬ φ.pv a ∧ ∀ n, φ n = some a → s.m n = none
/-- a list of the module -/
def KL (K : PySem.W.Frag) (a : Addr) (xs : List V) : Prop := ∃ (o : Obj) (its : Array Value) (n : Nat), K.lookup a = some o ∧ o.cls = .type "list" ∧ o.dict = none ∧ o.data = .seq its n ∧ its.size ≤ sizeLine ∧ Vals xs its.toList
/-- the script -/
def ScL (φ : Mp) (s : S) (H : Hp) (a : Addr) (vs : List V) : Prop := (Rd H a (.lst vs) ∧ Dead φ s a) ∨ KL φ.K a vs
theorem ScL.sq {φ : Mp} {s : S} {H : Hp} {a : Addr} {vs : List V} (h : ScL φ s H a vs) : SqL φ.K H a vs := h.elim (fun z => .inl z.1) .inr
mutual
def Rep (φ : Mp) (s : S) (H : Hp) : D → V → Prop
  | .non, v => v = .non
  | .bl b, v => v = .bl b
  | .int i, v => v = .int i
  | .str x, v => v = .str ⟨x.toArray⟩
  | .tup ds, v => ∃ a vs, v = .ref a ∧ H a = some (.tup vs) ∧ Dead φ s a ∧ RepL φ s H ds vs
  | .lst ds, v => ∃ a vs, v = .ref a ∧ H a = some (.lst vs) ∧ Dead φ s a ∧ RepL φ s H ds vs
  | .ref n, v => ∃ a, v = .ref a ∧ φ n = some a
  | .scr ds, v => ∃ a vs, v = .ref a ∧ ScL φ s H a vs ∧ RepL φ s H ds vs
def RepL (φ : Mp) (s : S) (H : Hp) : List D → List V → Prop
  | [], vs => vs = []
  | d :: ds, vs => ∃ v r, vs = v :: r ∧ Rep φ s H d v ∧ RepL φ s H ds r
end
structure Gr (φ : Mp) (s : S) (H : Hp) (φ' : Mp) (s' : S) (H' : Hp) : Prop where
  mp : ∀ n a, φ n = some a → φ' n = some a
  kp : ∀ a o, H a = some o → Dead φ s a → H' a = some o ∧ Dead φ' s' a
  pk : ∀ a o, H a = some o → φ.pv a → H' a = some o ∧ φ'.pv a
  ke : φ'.K = φ.K
theorem Gr.refl (φ : Mp) (s : S) (H : Hp) : Gr φ s H φ s H := ⟨fun _ _ h => h, fun _ _ h d => ⟨h, d⟩, fun _ _ h d => ⟨h, d⟩, rfl⟩
theorem Gr.trans {φ φ1 φ2 : Mp} {s s1 s2 : S} {H H1 H2 : Hp} (a : Gr φ s H φ1 s1 H1) (b : Gr φ1 s1 H1 φ2 s2 H2) : Gr φ s H φ2 s2 H2 :=
  ⟨fun n x h => b.mp n x (a.mp n x h), fun x o h d => let ⟨h1, d1⟩ := a.kp x o h d; b.kp x o h1 d1, fun x o h d => let ⟨h1, d1⟩ := a.pk x o h d; b.pk x o h1 d1, b.ke.trans a.ke⟩
mutual
theorem Rep.mono {φ φ' : Mp} {s s' : S} {H H' : Hp} (g : Gr φ s H φ' s' H') : ∀ (d : D) {v : V}, Rep φ s H d v → Rep φ' s' H' d v
  | .non, v, h => by simpa only [Rep] using h
  | .bl b, v, h => by simpa only [Rep] using h
  | .int i, v, h => by simpa only [Rep] using h
  | .str x, v, h => by simpa only [Rep] using h
  | .tup ds, v, h => by
    simp only [Rep] at h ⊢
    obtain ⟨a, vs, e, ha, hd, hl⟩ := h
    obtain ⟨h1, h2⟩ := g.kp a _ ha hd
    exact ⟨a, vs, e, h1, h2, RepL.mono g ds hl⟩
  | .lst ds, v, h => by
    simp only [Rep] at h ⊢
    obtain ⟨a, vs, e, ha, hd, hl⟩ := h
    obtain ⟨h1, h2⟩ := g.kp a _ ha hd
    exact ⟨a, vs, e, h1, h2, RepL.mono g ds hl⟩
  | .scr ds, v, h => by
    simp only [Rep] at h ⊢
    obtain ⟨a, vs, e, ha, hl⟩ := h
    refine ⟨a, vs, e, ?_, RepL.mono g ds hl⟩
    rcases ha with ⟨ha | ⟨o, ha⟩, hd⟩ | ha
    · obtain ⟨h1, h2⟩ := g.kp a _ ha hd
      exact .inl ⟨.inl h1, h2⟩
    · obtain ⟨h1, h2⟩ := g.kp a _ ha hd
      exact .inl ⟨.inr ⟨o, h1⟩, h2⟩
    · exact .inr (by rw [g.ke]; exact ha)
  | .ref n, v, h => by
    simp only [Rep] at h ⊢
    obtain ⟨a, e, h⟩ := h
    exact ⟨a, e, g.mp n a h⟩
theorem RepL.mono {φ φ' : Mp} {s s' : S} {H H' : Hp} (g : Gr φ s H φ' s' H') : ∀ (ds : List D) {vs : List V}, RepL φ s H ds vs → RepL φ' s' H' ds vs
  | [], vs, h => by simpa only [RepL] using h
  | d :: ds, vs, h => by
    simp only [RepL] at h ⊢
    obtain ⟨v, r, e, h1, h2⟩ := h
    exact ⟨v, r, e, Rep.mono g d h1, RepL.mono g ds h2⟩
end
section
variable {φ φ' : Mp} {s s' : S} {H H' : Hp}
theorem RepL.length : ∀ {ds : List D} {vs : List V}, RepL φ s H ds vs → vs.length = ds.length
  | [], vs, h => by
    simp only [RepL] at h
    subst h
    rfl
  | d :: ds, vs, h => by
    simp only [RepL] at h
    obtain ⟨v, r, e, h1, h2⟩ := h
    subst e
    simp [RepL.length h2]
theorem RepL.get : ∀ {ds : List D} {vs : List V} {i : Nat} {d : D}, RepL φ s H ds vs → ds[i]? = some d → ∃ v, vs[i]? = some v ∧ Rep φ s H d v
  | [], vs, i, d, h, e => by simp at e
  | x :: ds, vs, 0, d, h, e => by
    simp only [RepL] at h
    obtain ⟨v, r, e1, h1, h2⟩ := h
    subst e1
    simp at e
    subst e
    exact ⟨v, rfl, h1⟩
  | x :: ds, vs, i + 1, d, h, e => by
    simp only [RepL] at h
    obtain ⟨v, r, e1, h1, h2⟩ := h
    subst e1
    simp at e
    obtain ⟨w, hw, hr⟩ := RepL.get h2 e
    exact ⟨w, by simpa using hw, hr⟩
theorem RepL.get' : ∀ {ds : List D} {vs : List V} {i : Nat} {v : V}, RepL φ s H ds vs → vs[i]? = some v → ∃ d, ds[i]? = some d ∧ Rep φ s H d v
  | [], vs, i, d, h, e => by
    simp only [RepL] at h
    subst h
    simp at e
  | x :: ds, vs, 0, d, h, e => by
    simp only [RepL] at h
    obtain ⟨v, r, e1, h1, h2⟩ := h
    subst e1
    simp at e
    subst e
    exact ⟨x, rfl, h1⟩
  | x :: ds, vs, i + 1, d, h, e => by
    simp only [RepL] at h
    obtain ⟨v, r, e1, h1, h2⟩ := h
    subst e1
    simp at e
    obtain ⟨w, hw, hr⟩ := RepL.get' h2 e
    exact ⟨w, by simpa using hw, hr⟩
theorem RepL.app : ∀ {ds es : List D} {vs ws : List V}, RepL φ s H ds vs → RepL φ s H es ws → RepL φ s H (ds ++ es) (vs ++ ws)
  | [], es, vs, ws, h, h' => by
    simp only [RepL] at h
    subst h
    exact h'
  | x :: ds, es, vs, ws, h, h' => by
    simp only [RepL] at h
    obtain ⟨v, r, e1, h1, h2⟩ := h
    subst e1
    show RepL φ s H (x :: (ds ++ es)) _
    simp only [RepL]
    exact ⟨v, r ++ ws, rfl, h1, RepL.app h2 h'⟩
theorem RepL.one {d : D} {v : V} (h : Rep φ s H d v) : RepL φ s H [d] [v] := by
  simp only [RepL]
  exact ⟨v, [], rfl, h, rfl⟩
theorem RepL.nil : RepL φ s H [] [] := by simp only [RepL]
theorem RepL.drop : ∀ (n : Nat) {ds : List D} {vs : List V}, RepL φ s H ds vs → RepL φ s H (ds.drop n) (vs.drop n)
  | 0, ds, vs, h => h
  | n + 1, [], vs, h => by
    simp only [RepL] at h
    subst h
    exact RepL.nil
  | n + 1, d :: ds, vs, h => by
    simp only [RepL] at h
    obtain ⟨v, r, e1, h1, h2⟩ := h
    subst e1
    exact RepL.drop n h2
theorem RepL.take : ∀ (n : Nat) {ds : List D} {vs : List V}, RepL φ s H ds vs → RepL φ s H (ds.take n) (vs.take n)
  | 0, ds, vs, h => RepL.nil
  | n + 1, [], vs, h => by
    simp only [RepL] at h
    subst h
    exact RepL.nil
  | n + 1, d :: ds, vs, h => by
    simp only [RepL] at h
    obtain ⟨v, r, e1, h1, h2⟩ := h
    subst e1
    show RepL φ s H (d :: ds.take n) (v :: r.take n)
    simp only [RepL]
    exact ⟨v, _, rfl, h1, RepL.take n h2⟩
theorem RepL.set : ∀ (i : Nat) {ds : List D} {vs : List V} {d : D} {v : V}, RepL φ s H ds vs → Rep φ s H d v → RepL φ s H (ds.set i d) (vs.set i v)
  | _, [], vs, d, v, h, _ => by
    simp only [RepL] at h
    subst h
    exact RepL.nil
  | 0, x :: ds, vs, d, v, h, hv => by
    simp only [RepL] at h
    obtain ⟨w, r, e1, h1, h2⟩ := h
    subst e1
    show RepL φ s H (d :: ds) (v :: r)
    simp only [RepL]
    exact ⟨v, r, rfl, hv, h2⟩
  | i + 1, x :: ds, vs, d, v, h, hv => by
    simp only [RepL] at h
    obtain ⟨w, r, e1, h1, h2⟩ := h
    subst e1
    show RepL φ s H (x :: ds.set i d) (w :: r.set i v)
    simp only [RepL]
    exact ⟨w, _, rfl, h1, RepL.set i h2 hv⟩
theorem RepL.cut {ds : List D} {vs : List V} (h : RepL φ s H ds vs) (lo hi : Option Int) : RepL φ s H (cut ds lo hi) (cutV vs lo hi) := by
  unfold Fl.cut cutV
  rw [h.length]
  exact (h.drop _).take _
theorem RepL.erase : ∀ (i : Nat) {ds : List D} {vs : List V}, RepL φ s H ds vs → RepL φ s H (ds.eraseIdx i) (vs.eraseIdx i)
  | _, [], vs, h => by
    simp only [RepL] at h
    subst h
    exact RepL.nil
  | 0, x :: ds, vs, h => by
    simp only [RepL] at h
    obtain ⟨w, r, e1, h1, h2⟩ := h
    subst e1
    exact h2
  | i + 1, x :: ds, vs, h => by
    simp only [RepL] at h
    obtain ⟨w, r, e1, h1, h2⟩ := h
    subst e1
    show RepL φ s H (x :: ds.eraseIdx i) (w :: r.eraseIdx i)
    simp only [RepL]
    exact ⟨w, _, rfl, h1, RepL.erase i h2⟩
theorem RepL.dropLast : ∀ {ds : List D} {vs : List V}, RepL φ s H ds vs → RepL φ s H ds.dropLast vs.dropLast := by
  intro ds vs h
  rw [List.dropLast_eq_take, List.dropLast_eq_take, h.length]
  exact h.take _
end
structure Glob where
  K : PySem.W.Frag
  cls : String → Option Addr
  ec : List String
def FR (φ : Mp) (s : S) (H : Hp) : List (String × D) → List (Str × V) → Prop
  | [], gs => gs = []
  | (f, d) :: fs, gs => ∃ v r, gs = (Str.ofString f, v) :: r ∧ Rep φ s H d v ∧ FR φ s H fs r
def kyOf : DK → Key
  | .i i => Sum.inl i
  | .s x => Sum.inr ⟨x.toArray⟩
def KRg {κ κ' : Type} (g : κ → κ') (φ : Mp) (s : S) (H : Hp) : List (κ × D) → List (κ' × V) → Prop
  | [], gs => gs = []
  | (f, d) :: fs, gs => ∃ v r, gs = (g f, v) :: r ∧ Rep φ s H d v ∧ KRg g φ s H fs r
abbrev KR := KRg kyOf
abbrev KRT := KRg (List.map kyOf)
/-- where an own error's class stands -/
def eclK (K : PySem.W.Frag) (c : String) : Option Addr := match PySem.W.nsIn K mainGlobals (Str.ofString c) with
  | some (some (.ref C)) => some C
  | _ => none
/-- a caught error -/
def xO (C a : Addr) : HO := .ext fun h => ∃ oe vs, h.get? a = some oe ∧ Zc (.ref C) none oe ∧ oe.data = .fields vs
def ObR (G : Glob) (φ : Mp) (s : S) (H : Hp) (a : Addr) : Ob → Prop
  | .lst ds => ∃ vs, H a = some (.lst vs) ∧ RepL φ s H ds vs
  | .ins c fs => ∃ C dx gs, H a = some (.ins C dx gs) ∧ G.cls c = some C ∧ FR φ s H fs gs
  | .dic kvs => ∃ ks, H a = some (.dK ks) ∧ KR φ s H kvs ks
  | .exc c => c ∈ G.ec ∧ ∃ C, eclK G.K c = some C ∧ H a = some (xO C a)
  | .dit kvs => ∃ ks, H a = some (.dT ks) ∧ KRT φ s H kvs ks
structure HR (G : Glob) (φ : Mp) (s : S) (H : Hp) : Prop where
  ob : ∀ n o, s.m n = some o → ∃ a, φ n = some a ∧ ObR G φ s H a o
  inj : ∀ n m a, φ n = some a → φ m = some a → n = m
  dom : ∀ n a, φ n = some a → n < s.nx ∧ ∃ o, H a = some o
  pvd : ∀ a, φ.pv a → ∃ o, H a = some o
  np : ∀ n a, φ n = some a → ¬ φ.pv a
  k : φ.K = G.K
section
variable {G : Glob} {φ φ' : Mp} {s s' : S} {H H' : Hp}
theorem FR.mono (g : Gr φ s H φ' s' H') : ∀ {fs : List (String × D)} {gs : List (Str × V)}, FR φ s H fs gs → FR φ' s' H' fs gs
  | [], gs, h => h
  | (f, d) :: fs, gs, h => by
    obtain ⟨v, r, e, h1, h2⟩ := h
    exact ⟨v, r, e, Rep.mono g d h1, FR.mono g h2⟩
theorem KRg.mono {κ κ' : Type} {k : κ → κ'} (g : Gr φ s H φ' s' H') : ∀ {fs : List (κ × D)} {gs : List (κ' × V)}, KRg k φ s H fs gs → KRg k φ' s' H' fs gs
  | [], gs, h => h
  | (f, d) :: fs, gs, h => by
    obtain ⟨v, r, e, h1, h2⟩ := h
    exact ⟨v, r, e, Rep.mono g d h1, KRg.mono g h2⟩
theorem ObR.mono {a : Addr} {u : Ob} (g : Gr φ s H φ' s' H') (e : H' a = H a) (h : ObR G φ s H a u) : ObR G φ' s' H' a u := by
  cases u with
  | lst ds =>
    obtain ⟨vs, h1, h2⟩ := h
    exact ⟨vs, by rw [e]; exact h1, RepL.mono g ds h2⟩
  | ins c fs =>
    obtain ⟨C, dx, gs, h1, h2, h3⟩ := h
    exact ⟨C, dx, gs, by rw [e]; exact h1, h2, h3.mono g⟩
  | dic kvs =>
    obtain ⟨ks, h1, h2⟩ := h
    exact ⟨ks, by rw [e]; exact h1, h2.mono g⟩
  | exc c =>
    obtain ⟨h0, C, h1, h2⟩ := h
    exact ⟨h0, C, h1, by rw [e]; exact h2⟩
  | dit kvs =>
    obtain ⟨ks, h1, h2⟩ := h
    exact ⟨ks, by rw [e]; exact h1, h2.mono g⟩
theorem HR.fresh (h : HR G φ s H) {p : Addr} (hp : H p = none) : Dead φ s p := by
  refine ⟨fun hv => ?_, fun n e => ?_⟩
  · obtain ⟨o, ho⟩ := h.pvd p hv
    rw [hp] at ho
    cases ho
  · obtain ⟨_, o, ho⟩ := h.dom n p e
    rw [hp] at ho
    cases ho
theorem HR.nofresh (h : HR G φ s H) {p : Addr} (hp : H p = none) (n : Nat) : φ n ≠ some p := fun e => by
  obtain ⟨_, o, ho⟩ := h.dom n p e
  rw [hp] at ho
  cases ho
/-- a new thing that is no box -/
theorem Gr.free (h : HR G φ s H) {p : Addr} {o : HO} (hp : H p = none) : Gr φ s H φ s (upd H p o) :=
  ⟨fun _ _ e => e, fun a u e d => ⟨by rw [upd_ne (ne_of_none e hp)]; exact e, d⟩, fun a u e d => ⟨by rw [upd_ne (ne_of_none e hp)]; exact e, d⟩, rfl⟩
theorem HR.free (h : HR G φ s H) {p : Addr} {o : HO} (hp : H p = none) : HR G φ s (upd H p o) := by
  have g : Gr φ s H φ s (upd H p o) := Gr.free h hp
  refine ⟨fun n u e => ?_, h.inj, fun n a e => ?_, fun a e => ?_, h.np, h.k⟩
  · obtain ⟨a, ha, hb⟩ := h.ob n u e
    have na : a ≠ p := fun z => h.nofresh hp n (z ▸ ha)
    exact ⟨a, ha, hb.mono g (upd_ne na)⟩
  · obtain ⟨h1, o', ho⟩ := h.dom n a e
    exact ⟨h1, o', by rw [upd_ne (ne_of_none ho hp)]; exact ho⟩
  · obtain ⟨o', ho⟩ := h.pvd a e
    exact ⟨o', by rw [upd_ne (ne_of_none ho hp)]; exact ho⟩
/-- a new box -/
def bx (φ : Mp) (n : Nat) (p : Addr) : Mp := ⟨fun k => if k = n then some p else φ k, φ.pv, φ.K⟩
theorem Gr.box (h : HR G φ s H) {p : Addr} {o : HO} {u : Ob} (hp : H p = none) : Gr φ s H (bx φ s.nx p) (s.new u) (upd H p o) := by
  refine ⟨fun n a e => ?_, fun a w e d => ⟨by rw [upd_ne (ne_of_none e hp)]; exact e, d.1, fun k z => ?_⟩, fun a w e d => ⟨by rw [upd_ne (ne_of_none e hp)]; exact e, d⟩, rfl⟩
  · have := (h.dom n a e).1
    show (if n = s.nx then some p else φ n) = some a
    rw [if_neg (by omega)]
    exact e
  · replace z : (if k = s.nx then some p else φ k) = some a := z
    show (if k = s.nx then some u else s.m k) = none
    by_cases hk : k = s.nx
    · rw [if_pos hk] at z
      exact absurd (Option.some.inj z).symm (ne_of_none e hp)
    · rw [if_neg hk] at z ⊢
      exact d.2 k z
theorem HR.box (h : HR G φ s H) {p : Addr} {o : HO} {u : Ob} (hp : H p = none) (hu : ObR G (bx φ s.nx p) (s.new u) (upd H p o) p u) : HR G (bx φ s.nx p) (s.new u) (upd H p o) := by
  have g : Gr φ s H (bx φ s.nx p) (s.new u) (upd H p o) := Gr.box h hp
  refine ⟨fun n w e => ?_, fun n m a e1 e2 => ?_, fun n a e => ?_, fun a e => ?_, fun n a e => ?_, h.k⟩
  · by_cases hn : n = s.nx
    · subst hn
      have e' : (if s.nx = s.nx then some u else s.m s.nx) = some w := e
      rw [if_pos rfl] at e'
      cases e'
      exact ⟨p, by show (if s.nx = s.nx then some p else φ s.nx) = some p; rw [if_pos rfl], hu⟩
    · have e' : (if n = s.nx then some u else s.m n) = some w := e
      rw [if_neg hn] at e'
      obtain ⟨a, ha, hb⟩ := h.ob n w e'
      have na : a ≠ p := fun z => h.nofresh hp n (z ▸ ha)
      exact ⟨a, by show (if n = s.nx then some p else φ n) = some a; rw [if_neg hn]; exact ha, hb.mono g (upd_ne na)⟩
  · replace e1 : (if n = s.nx then some p else φ n) = some a := e1
    replace e2 : (if m = s.nx then some p else φ m) = some a := e2
    by_cases hn : n = s.nx
    · by_cases hm : m = s.nx
      · rw [hn, hm]
      · rw [if_pos hn] at e1
        rw [if_neg hm] at e2
        cases e1
        exact absurd e2 (h.nofresh hp m)
    · rw [if_neg hn] at e1
      by_cases hm : m = s.nx
      · rw [if_pos hm] at e2
        cases e2
        exact absurd e1 (h.nofresh hp n)
      · rw [if_neg hm] at e2
        exact h.inj n m a e1 e2
  · replace e : (if n = s.nx then some p else φ n) = some a := e
    by_cases hn : n = s.nx
    · rw [if_pos hn] at e
      cases e
      exact ⟨by show n < s.nx + 1; omega, o, upd_same⟩
    · rw [if_neg hn] at e
      obtain ⟨h1, o', ho⟩ := h.dom n a e
      exact ⟨by show n < s.nx + 1; omega, o', by rw [upd_ne (ne_of_none ho hp)]; exact ho⟩
  · obtain ⟨o', ho⟩ := h.pvd a e
    exact ⟨o', by rw [upd_ne (ne_of_none ho hp)]; exact ho⟩
  · replace e : (if n = s.nx then some p else φ n) = some a := e
    by_cases hn : n = s.nx
    · rw [if_pos hn] at e
      cases e
      exact (h.fresh hp).1
    · rw [if_neg hn] at e
      exact h.np n a e
/-- a box is written -/
theorem Gr.write (h : HR G φ s H) {n : Nat} {a : Addr} {o : HO} {u v : Ob} (hn : s.m n = some u) (ha : φ n = some a) : Gr φ s H φ (s.put n v) (upd H a o) := by
  refine ⟨fun _ _ e => e, fun b w e d => ?_, fun b w e d => ⟨by rw [upd_ne (show b ≠ a from fun z => h.np n a ha (by rw [← z]; exact d))]; exact e, d⟩, rfl⟩
  have nb : b ≠ a := fun z => by
    subst z
    have := d.2 n ha
    rw [hn] at this
    cases this
  refine ⟨by rw [upd_ne nb]; exact e, d.1, fun k z => ?_⟩
  show (if k = n then some v else s.m k) = none
  by_cases hk : k = n
  · subst hk
    rw [ha] at z
    exact absurd (Option.some.inj z).symm nb
  · rw [if_neg hk]
    exact d.2 k z
theorem HR.write (h : HR G φ s H) {n : Nat} {a : Addr} {o : HO} {u v : Ob} (hn : s.m n = some u) (ha : φ n = some a) (hv : ObR G φ (s.put n v) (upd H a o) a v) : HR G φ (s.put n v) (upd H a o) := by
  have g : Gr φ s H φ (s.put n v) (upd H a o) := Gr.write h hn ha
  refine ⟨fun k w e => ?_, h.inj, fun k b e => ?_, fun b e => ?_, h.np, h.k⟩
  · have e' : (if k = n then some v else s.m k) = some w := e
    by_cases hk : k = n
    · subst hk
      rw [if_pos rfl] at e'
      cases e'
      exact ⟨a, ha, hv⟩
    · rw [if_neg hk] at e'
      obtain ⟨b, hb, hw⟩ := h.ob k w e'
      have nb : b ≠ a := fun z => hk (h.inj k n a (z ▸ hb) ha)
      exact ⟨b, hb, hw.mono g (upd_ne nb)⟩
  · obtain ⟨h1, o', ho⟩ := h.dom k b e
    refine ⟨h1, ?_⟩
    by_cases hb : b = a
    · subst hb
      exact ⟨o, upd_same⟩
    · exact ⟨o', by rw [upd_ne hb]; exact ho⟩
  · obtain ⟨o', ho⟩ := h.pvd b e
    exact ⟨o', by rw [upd_ne (show b ≠ a from fun z => h.np n a ha (by rw [← z]; exact e))]; exact ho⟩
theorem Gr.kill (n : Nat) : Gr φ s H φ (s.kill n) H := ⟨fun _ _ e => e, fun b w e d => ⟨e, d.1, fun k z => by
  show (if k = n then none else s.m k) = none
  split
  · rfl
  · exact d.2 k z⟩, fun b w e d => ⟨e, d⟩, rfl⟩
theorem HR.kill (h : HR G φ s H) (n : Nat) : HR G φ (s.kill n) H := by
  refine ⟨fun k w e => ?_, h.inj, h.dom, h.pvd, h.np, h.k⟩
  have e' : (if k = n then none else s.m k) = some w := e
  by_cases hk : k = n
  · rw [if_pos hk] at e'
    cases e'
  · rw [if_neg hk] at e'
    obtain ⟨b, hb, hw⟩ := h.ob k w e'
    exact ⟨b, hb, hw.mono (Gr.kill n) rfl⟩
/-- a list that can be read -/
theorem Rep.lcont (h : HR G φ s H) {d : D} {v : V} {xs : List D} (r : Rep φ s H d v) (e : lcont s d = some xs) : ∃ a vs, v = .ref a ∧ SqL φ.K H a vs ∧ RepL φ s H xs vs := by
  cases d with
  | lst ys =>
    cases (show some ys = some xs from e)
    simp only [Rep] at r
    obtain ⟨a, vs, e, h1, _, h2⟩ := r
    exact ⟨a, vs, e, SqL.of h1, h2⟩
  | scr ys =>
    cases (show some ys = some xs from e)
    simp only [Rep] at r
    obtain ⟨a, vs, e, h1, h2⟩ := r
    exact ⟨a, vs, e, h1.sq, h2⟩
  | ref n =>
    simp only [Fl.lcont] at e
    split at e
    · rename_i ys q
      cases e
      simp only [Rep] at r
      obtain ⟨a, e, ha⟩ := r
      obtain ⟨b, hb, vs, h1, h2⟩ := h.ob n _ q
      rw [ha] at hb
      cases hb
      exact ⟨a, vs, e, SqL.of h1, h2⟩
    · cases e
  | _ => cases e
theorem Rep.ccont (h : HR G φ s H) {d : D} {v : V} {xs : List D} (r : Rep φ s H d v) (e : ccont s d = some xs) : ∃ a vs, v = .ref a ∧ H a = some (.lst vs) ∧ RepL φ s H xs vs := by
  cases d with
  | lst ys =>
    cases (show some ys = some xs from e)
    simp only [Rep] at r
    obtain ⟨a, vs, e, h1, _, h2⟩ := r
    exact ⟨a, vs, e, h1, h2⟩
  | ref n =>
    simp only [Fl.ccont] at e
    split at e
    · rename_i ys q
      cases e
      simp only [Rep] at r
      obtain ⟨a, e, ha⟩ := r
      obtain ⟨b, hb, vs, h1, h2⟩ := h.ob n _ q
      rw [ha] at hb
      cases hb
      exact ⟨a, vs, e, h1, h2⟩
    · cases e
  | _ => cases e
theorem Rep.cont (h : HR G φ s H) {d : D} {v : V} {xs : List D} (r : Rep φ s H d v) (e : cont s d = some xs) : ∃ a vs, v = .ref a ∧ (SqL φ.K H a vs ∨ SqT φ.K H a vs) ∧ RepL φ s H xs vs := by
  unfold Fl.cont at e
  split at e
  · cases e
    simp only [Rep] at r
    obtain ⟨a, vs, e, h1, _, h2⟩ := r
    exact ⟨a, vs, e, .inr (SqT.of h1), h2⟩
  · obtain ⟨a, vs, e, h1, h2⟩ := r.lcont h e
    exact ⟨a, vs, e, .inl h1, h2⟩
end
structure SR (φ : Mp) (s : S) (H : Hp) (r : Sl) (σ : L2.St) : Prop where
  len : σ.length = r.length
  get : ∀ (i : Nat) d, r[i]? = some (some d) → ∃ v, σ[i]? = some (some v) ∧ Rep φ s H d v
section
variable {φ φ' : Mp} {s s' : S} {H H' : Hp} {r : Sl} {σ : L2.St}
theorem SR.mono (g : Gr φ s H φ' s' H') (h : SR φ s H r σ) : SR φ' s' H' r σ := ⟨h.len, fun i d e => let ⟨v, h1, h2⟩ := h.get i d e; ⟨v, h1, Rep.mono g d h2⟩⟩
theorem SR.set (h : SR φ s H r σ) {d : D} {v : V} (i : Nat) (q : Rep φ s H d v) : SR φ s H (r.set i (some d)) (σ.set i (some v)) := by
  refine ⟨by rw [List.length_set, List.length_set]; exact h.len, fun j e z => ?_⟩
  by_cases hj : i = j
  · subst hj
    by_cases hi : i < r.length
    · rw [List.getElem?_set_self hi] at z
      cases z
      exact ⟨v, by rw [List.getElem?_set_self (by rw [h.len]; exact hi)], q⟩
    · rw [List.getElem?_eq_none (by simpa using hi)] at z
      cases z
  · rw [List.getElem?_set_ne hj] at z ⊢
    exact h.get j e z
end
structure At (G : Glob) (φ : Mp) (s : S) (H : Hp) (r : Sl) (σ : L2.St) : Prop where
  hr : HR G φ s H
  sr : SR φ s H r σ
/-- the reading of a computation over slots and store -/
def rd {α β : Type} (G : Glob) (f : Sl → S → R α) (rp : Mp → S → Hp → α → β → Prop) : L2.St → Hp → (β → Hp → Prop) → Prop := fun σ H Q =>
  ∃ φ s r, At G φ s H r σ ∧ ∃ a s', f r s = some (.ok a, s') ∧ ∀ φ' H' b, Gr φ s H φ' s' H' → HR G φ' s' H' → rp φ' s' H' a b → Q b H'
abbrev rE (G : Glob) (cf : CF) (c : E) : TE := rd G (ev cf c) Rep
abbrev rA (G : Glob) (cf : CF) (c : Es) : TA := rd G (evs cf c) RepL
/-- a test -/
def tst (cf : CF) (c : E) : Sl → S → R Bool := fun r s => bnd (ev cf c r s) fun x s => lft (truth s x) s
abbrev rT (G : Glob) (cf : CF) (c : E) : TT := rd G (tst cf c) (fun _ _ _ a b => a = b)
section
variable {α β : Type} {G : Glob} {φ φ' : Mp} {s s' s1 : S} {H H' : Hp} {r : Sl} {σ : L2.St} {f : Sl → S → R α} {rp : Mp → S → Hp → α → β → Prop} {K : β → Hp → Prop} {a : α}
theorem rd_step (A : At G φ s H r σ) (e : f r s = some (.ok a, s1)) (k : ∀ φ1 H1 v, Gr φ s H φ1 s1 H1 → At G φ1 s1 H1 r σ → rp φ1 s1 H1 a v → K v H1) : rd G f rp σ H K :=
  ⟨φ, s, r, A, a, s1, e, fun φ' H' v g h q => k φ' H' v g ⟨h, A.sr.mono g⟩ q⟩
end
theorem PE.imp {X : Cx} {e : Expr} {t t' : TE} (h : PE X e t) (k : ∀ σ H Q, t' σ H Q → t σ H Q) : PE X e t' := ⟨fun pins s σ H Q I q => h.run pins s σ H Q I (k σ H Q q)⟩
theorem PT.imp {X : Cx} {e : Expr} {t t' : TT} (h : PT X e t) (k : ∀ σ H Q, t' σ H Q → t σ H Q) : PT X e t' := ⟨fun pins s σ H Q I q => h.run pins s σ H Q I (k σ H Q q)⟩
theorem PW.imp {X : Cx} {e : Expr} {t t' : TT} (h : PW X e t) (k : ∀ σ H Q, t' σ H Q → t σ H Q) : PW X e t' := ⟨fun wh pins s σ H Q I q => h.run wh pins s σ H Q I (k σ H Q q)⟩
theorem PA.imp {X : Cx} {e : List Expr} {t t' : TA} (h : PA X e t) (k : ∀ σ H Q, t' σ H Q → t σ H Q) : PA X e t' := ⟨fun pos pins s σ H Q I q => h.run pos pins s σ H Q I (k σ H Q q)⟩
theorem PS.imp {X : Cx} {e : Stmt} {t t' : TS} (h : PS X e t) (k : ∀ D σ H, t' D σ H → t D σ H) : PS X e t' := ⟨fun pins s σ H D I q => h.run pins s σ H D I (k D σ H q)⟩
theorem PSs.imp {X : Cx} {e : List Stmt} {t t' : TS} (h : PSs X e t) (k : ∀ D σ H, t' D σ H → t D σ H) : PSs X e t' := ⟨fun pins s σ H D I q => h.run pins s σ H D I (k D σ H q)⟩
end Fl
namespace PySem.SeqAt
open AutoSeq1 (wpAny_loadPart')
open MeetsSeq MeetsSeq2 MeetsSeq3
open PySem.EqNone
theorem dict_eq_declines_none (l : Addr) (es : Array DictEntry) (n : Nat) (dd : Option Addr) (sl : Array (Option Value)) :
    Meets (Builtin.«dict.__eq__» ⟨[.ref l, .none], []⟩) (fun _ R s => s.heap.get? l = some { cls := .type "dict", dict := dd, data := .dict es n, slots := sl } ∧ R (.ok (.ret .notImplemented)) s) :=
  .of_wp fun prog w A R s h => by obtain ⟨hp, g, d, tk, os⟩ := s; obtain ⟨hl, h⟩ := h; have f1 := F.sub_NoneType_dict; wp_walk using wpAny_loadPart' hl; exact ⟨_, rfl, h⟩
theorem dict_eq_declines_int (l : Addr) (es : Array DictEntry) (n : Nat) (dd : Option Addr) (sl : Array (Option Value)) (b : Int) (u : Tok) :
    Meets (Builtin.«dict.__eq__» ⟨[.ref l, .int b u], []⟩) (fun _ R s => s.heap.get? l = some { cls := .type "dict", dict := dd, data := .dict es n, slots := sl } ∧ R (.ok (.ret .notImplemented)) s) :=
  .of_wp fun prog w A R s h => by obtain ⟨hp, g, d, tk, os⟩ := s; obtain ⟨hl, h⟩ := h; have f1 := F.sub_int_dict; wp_walk using wpAny_loadPart' hl; exact ⟨_, rfl, h⟩
theorem dict_ne_declines_none (l : Addr) (es : Array DictEntry) (n : Nat) (dd : Option Addr) (sl : Array (Option Value)) :
    Meets (Builtin.«dict.__ne__» ⟨[.ref l, .none], []⟩) (fun _ R s => s.heap.get? l = some { cls := .type "dict", dict := dd, data := .dict es n, slots := sl } ∧ R (.ok (.ret .notImplemented)) s) :=
  .of_wp fun prog w A R s h => by obtain ⟨hp, g, d, tk, os⟩ := s; obtain ⟨hl, h⟩ := h; have f1 := F.sub_NoneType_dict; wp_walk using wpAny_loadPart' hl; exact ⟨_, rfl, h⟩
theorem dict_ne_declines_int (l : Addr) (es : Array DictEntry) (n : Nat) (dd : Option Addr) (sl : Array (Option Value)) (b : Int) (u : Tok) :
    Meets (Builtin.«dict.__ne__» ⟨[.ref l, .int b u], []⟩) (fun _ R s => s.heap.get? l = some { cls := .type "dict", dict := dd, data := .dict es n, slots := sl } ∧ R (.ok (.ret .notImplemented)) s) :=
  .of_wp fun prog w A R s h => by obtain ⟨hp, g, d, tk, os⟩ := s; obtain ⟨hl, h⟩ := h; have f1 := F.sub_int_dict; wp_walk using wpAny_loadPart' hl; exact ⟨_, rfl, h⟩
theorem int_eq_declines_dict (b : Int) (u : Tok) (l : Addr) (c : Value) (es : Array DictEntry) (n : Nat) (dd : Option Addr) (sl : Array (Option Value)) :
    Meets (Builtin.«int.__eq__» ⟨[.int b u, .ref l], []⟩) (fun _ R s => s.heap.get? l = some { cls := c, dict := dd, data := .dict es n, slots := sl } ∧ R (.ok (.ret .notImplemented)) s) :=
  .of_wp fun prog w A R s h => by obtain ⟨hp, g, d, tk, os⟩ := s; obtain ⟨hl, h⟩ := h; wp_walk using wpAny_loadPart' hl, wpAny_load hl; exact ⟨_, rfl, h⟩
theorem int_ne_declines_dict (b : Int) (u : Tok) (l : Addr) (c : Value) (es : Array DictEntry) (n : Nat) (dd : Option Addr) (sl : Array (Option Value)) :
    Meets (Builtin.«int.__ne__» ⟨[.int b u, .ref l], []⟩) (fun _ R s => s.heap.get? l = some { cls := c, dict := dd, data := .dict es n, slots := sl } ∧ R (.ok (.ret .notImplemented)) s) :=
  .of_wp fun prog w A R s h => by obtain ⟨hp, g, d, tk, os⟩ := s; obtain ⟨hl, h⟩ := h; wp_walk using wpAny_loadPart' hl, wpAny_load hl; exact ⟨_, rfl, h⟩
section
variable {A : Around} {s : Shared}
theorem RcAt.dict_none {l : Addr} {dd : Option Addr} {es : Array DictEntry} {n : Nat} {sl : Array (Option Value)} (ho : s.heap.get? l = some { cls := .type "dict", dict := dd, data := .dict es n, slots := sl }) (hu : A.units < cLine) : RcAt A s (.ref l) .none false := fun prog w E Q h =>
  rc_eq_decline_or (k := false) ⟨_, ho, rfl⟩ rfl (by decide) F.sub_NoneType_dict F.slot_dict_eq F.slot_NoneType_eq_refl
    (fun _ hq => call_meets F.slot_dict_eq ⟨_, ho, rfl⟩ F.entry_dict_eq (F.args_dict_eq_2 _ _) (dict_eq_declines_none l es n dd sl) ⟨ho, hq⟩)
    (fun _ hq => call_gives F.slot_NoneType_eq_refl rfl F.entry_NoneType_eq (F.args_NoneType_eq_2 _ _) (NoneType___eq___none_ref_0 l) hq)
    (fun _ hq => wpAny_of_eq (rfl : isSame (.ref l) .none = pure false) hq) (.inr hu) h
theorem RcAt.dict_int {l : Addr} {dd : Option Addr} {es : Array DictEntry} {n : Nat} {sl : Array (Option Value)} (b : Int) (u : Tok) (ho : s.heap.get? l = some { cls := .type "dict", dict := dd, data := .dict es n, slots := sl }) (hu : A.units < cLine) : RcAt A s (.ref l) (.int b u) false := fun prog w E Q h =>
  rc_eq_decline_or (k := false) ⟨_, ho, rfl⟩ (typeIs_int s b u) (by decide) F.sub_int_dict F.slot_dict_eq F.slot_int_eq_refl
    (fun _ hq => call_meets F.slot_dict_eq ⟨_, ho, rfl⟩ F.entry_dict_eq (F.args_dict_eq_2 _ _) (dict_eq_declines_int l es n dd sl b u) ⟨ho, hq⟩)
    (fun _ hq => call_meets F.slot_int_eq_refl (typeIs_int s b u) F.entry_int_eq (F.args_int_eq_2 _ _) (int_eq_declines_dict b u l (.type "dict") es n dd sl) ⟨ho, hq⟩)
    (fun _ hq => wpAny_of_eq (rfl : isSame (.ref l) (.int b u) = pure false) hq) (.inr hu) h
theorem RcNeAt.dict_none {l : Addr} {dd : Option Addr} {es : Array DictEntry} {n : Nat} {sl : Array (Option Value)} (ho : s.heap.get? l = some { cls := .type "dict", dict := dd, data := .dict es n, slots := sl }) (hu : A.units < cLine) : RcNeAt A s (.ref l) .none true := fun prog w E Q h =>
  rc_ne_decline_or (k := false) ⟨_, ho, rfl⟩ rfl (by decide) F.sub_NoneType_dict F.slot_dict_ne F.slot_NoneType_ne_refl
    (fun _ hq => call_meets F.slot_dict_ne ⟨_, ho, rfl⟩ F.entry_dict_ne (F.args_dict_ne_2 _ _) (dict_ne_declines_none l es n dd sl) ⟨ho, hq⟩)
    (fun _ hq => call_gives F.slot_NoneType_ne_refl rfl F.entry_NoneType_ne (F.args_NoneType_ne_2 _ _) (NoneType___ne___none_ref_0 l) hq)
    (fun _ hq => wpAny_of_eq (rfl : isSame (.ref l) .none = pure false) hq) (.inr hu) h
theorem RcNeAt.dict_int {l : Addr} {dd : Option Addr} {es : Array DictEntry} {n : Nat} {sl : Array (Option Value)} (b : Int) (u : Tok) (ho : s.heap.get? l = some { cls := .type "dict", dict := dd, data := .dict es n, slots := sl }) (hu : A.units < cLine) : RcNeAt A s (.ref l) (.int b u) true := fun prog w E Q h =>
  rc_ne_decline_or (k := false) ⟨_, ho, rfl⟩ (typeIs_int s b u) (by decide) F.sub_int_dict F.slot_dict_ne F.slot_int_ne_refl
    (fun _ hq => call_meets F.slot_dict_ne ⟨_, ho, rfl⟩ F.entry_dict_ne (F.args_dict_ne_2 _ _) (dict_ne_declines_int l es n dd sl b u) ⟨ho, hq⟩)
    (fun _ hq => call_meets F.slot_int_ne_refl (typeIs_int s b u) F.entry_int_ne (F.args_int_ne_2 _ _) (int_ne_declines_dict b u l (.type "dict") es n dd sl) ⟨ho, hq⟩)
    (fun _ hq => wpAny_of_eq (rfl : isSame (.ref l) (.int b u) = pure false) hq) (.inr hu) h
end
end PySem.SeqAt
namespace Fl
open PySem L2
/-- a list, a tuple, a dict -/
def Hvy (K : PySem.W.Frag) (H : Hp) (x : V) : Prop := (∃ a xs, x = .ref a ∧ SqL K H a xs) ∨ (∃ a xs, x = .ref a ∧ SqT K H a xs) ∨ ∃ a kvs, x = .ref a ∧ H a = some (.dK kvs)
/-- they are unlike -/
def Unl (K : PySem.W.Frag) (H : Hp) (x y : V) : Prop := (Hvy K H x ∧ (y = .non ∨ ∃ i, y = .int i)) ∨ ∃ a b xs ys, x = .ref a ∧ y = .ref b ∧ SqL K H a xs ∧ SqL K H b ys ∧ xs.length ≠ ys.length
def rEqN (K : PySem.W.Frag) : R2 := fun x y H Q => Unl K H x y ∧ Q (.bl false) H
def rNeN (K : PySem.W.Frag) : R2 := fun x y H Q => Unl K H x y ∧ Q (.bl true) H
theorem unl_at {X : Cx} {pins : List (Addr × Obj)} {σ : L2.St} {H : Hp} {s : Shared} {x y : V} {v u : Value} (hu : X.A.units < cLine) (I : Inv X pins σ H s) (rx : RelV x v) (ry : RelV y u) (h : Unl X.K H x y) : SeqAt.RcAt X.A s v u false ∧ SeqAt.RcNeAt X.A s v u true := by
  rcases h with ⟨h, hy⟩ | ⟨a, b, xs, ys, rfl, rfl, h1, h2, h3⟩
  · rcases h with ⟨a, xs, rfl, h1⟩ | ⟨a, xs, rfl, h1⟩ | ⟨a, kvs, rfl, h1⟩
    · cases rx
      obtain ⟨its, -, hl, -⟩ := I.list h1
      rcases hy with rfl | ⟨i, rfl⟩
      · cases ry
        exact ⟨SeqAt.RcAt.list_none hl.isList hu, SeqAt.RcNeAt.list_none hl.isList hu⟩
      · obtain ⟨t, rfl⟩ := ry
        exact ⟨SeqAt.RcAt.list_int i t hl.isList hu, SeqAt.RcNeAt.list_int i t hl.isList hu⟩
    · cases rx
      obtain ⟨its, -, hl, -⟩ := I.tuple h1
      rcases hy with rfl | ⟨i, rfl⟩
      · cases ry
        exact ⟨SeqAt.RcAt.tuple_none hl hu, SeqAt.RcNeAt.tuple_none hl hu⟩
      · obtain ⟨t, rfl⟩ := ry
        exact ⟨SeqAt.RcAt.tuple_int i t hl hu, SeqAt.RcNeAt.tuple_int i t hl hu⟩
    · cases rx
      obtain ⟨-, -, vs, -, ⟨c, dd, dat, sl⟩, es, ep, ho, hx, hd, -⟩ := dk_of I.hok h1
      obtain ⟨e1, e2⟩ := hx
      simp only at e1 hd
      subst e1 hd
      rcases hy with rfl | ⟨i, rfl⟩
      · cases ry
        exact ⟨SeqAt.RcAt.dict_none ho hu, SeqAt.RcNeAt.dict_none ho hu⟩
      · obtain ⟨t, rfl⟩ := ry
        exact ⟨SeqAt.RcAt.dict_int i t ho hu, SeqAt.RcNeAt.dict_int i t ho hu⟩
  · cases rx
    cases ry
    obtain ⟨is, r1, l1, -⟩ := I.list h1
    obtain ⟨js, r2, l2, -⟩ := I.list h2
    have hz : (is.toArray.size != js.toArray.size) = true := by
      have e1 := r1.length
      have e2 := r2.length
      simp only [List.size_toArray, bne_iff_ne, ne_eq]
      omega
    exact ⟨SeqAt.RcAt.lists_lengths l1.isList l2.isList hz hu, SeqAt.RcNeAt.lists_lengths l1.isList l2.isList hz hu⟩
theorem op_eqN {X : Cx} (hu : X.A.units < cLine) : OpR X (compareOp .Eq) (rEqN X.K) := by
  intro pins s σ H x y v u Q I rx ry h
  exact (unl_at hu I rx ry h.1).1 _ _ _ _ ⟨.bl _, H, I, rfl, h.2⟩
theorem op_neN {X : Cx} (hu : X.A.units < cLine) : OpR X (compareOp .NotEq) (rNeN X.K) := by
  intro pins s σ H x y v u Q I rx ry h
  exact (unl_at hu I rx ry h.1).2 _ _ _ _ ⟨.bl _, H, I, rfl, h.2⟩
end Fl
namespace Fl
open PySem L2
theorem LIM_eq : LIM = sizeLine := by rw [sizeLine_eq]; rfl
theorem str_len (x : List Nat) : (⟨x.toArray⟩ : Str).length = x.length := by simp [Str.length]
theorem str_cps (x : List Nat) : (⟨x.toArray⟩ : Str).cps.toList = x := by simp
theorem str_app (x y : List Nat) : (⟨x.toArray⟩ : Str) ++ ⟨y.toArray⟩ = ⟨(x ++ y).toArray⟩ := by
  show (⟨x.toArray ++ y.toArray⟩ : Str) = _
  simp
theorem str_inj {x y : List Nat} : (⟨x.toArray⟩ : Str) = ⟨y.toArray⟩ ↔ x = y := by
  constructor
  · intro h
    have := congrArg (fun z : Str => z.cps.toList) h
    simpa using this
  · intro h
    rw [h]
theorem cutS_eq (x : List Nat) (lo hi : Option Int) : cutS ⟨x.toArray⟩ lo hi = ⟨(cut x lo hi).toArray⟩ := by
  unfold cutS
  rw [str_len]
  rfl
theorem OpR.or {X : Cx} {f : Value → Value → Sem Value} {r r' : R2} (h : OpR X f r) (h' : OpR X f r') : OpR X f (fun x y H Q => r x y H Q ∨ r' x y H Q) := by
  intro pins s σ H x y v u Q I rx ry q
  rcases q with q | q
  · exact h pins s σ H x y v u Q I rx ry q
  · exact h' pins s σ H x y v u Q I rx ry q
theorem CallR.or {X : Cx} {f : Value} {r r' : List V → Hp → VK → Prop} (h : CallR X f r) (h' : CallR X f r') : CallR X f (fun x H Q => r x H Q ∨ r' x H Q) := by
  intro pins s σ H x v Q I rx q
  rcases q with q | q
  · exact h pins s σ H x v Q I rx q
  · exact h' pins s σ H x v Q I rx q
/-- what is wanted behind a value -/
def Post (G : Glob) (φ : Mp) (s : S) (H : Hp) (s' : S) (d : D) (Q : VK) : Prop := ∀ φ' H' v, Gr φ s H φ' s' H' → HR G φ' s' H' → Rep φ' s' H' d v → Q v H'
section
variable {G : Glob} {φ : Mp} {s s' : S} {H : Hp} {d : D} {Q : VK}
theorem Post.here (h : HR G φ s H) (p : Post G φ s H s d Q) {v : V} (r : Rep φ s H d v) : Q v H := p φ H v (Gr.refl φ s H) h r
theorem Post.tup (h : HR G φ s H) {ds : List D} (p : Post G φ s H s (.tup ds) Q) {vs : List V} (r : RepL φ s H ds vs) : ∀ a, H a = none → Q (.ref a) (upd H a (.tup vs)) := fun a ha => by
  have g : Gr φ s H φ s (upd H a (.tup vs)) := Gr.free h ha
  refine p φ _ _ g (h.free ha) ?_
  simp only [Rep]
  exact ⟨a, vs, rfl, upd_same, h.fresh ha, RepL.mono g ds r⟩
/-- a new list, frozen or boxed -/
theorem Post.lst (h : HR G φ s H) {bx : Bool} {ds : List D} (e : mkL bx ds s = some (.ok d, s')) (p : Post G φ s H s' d Q) {vs : List V} (r : RepL φ s H ds vs) : ∀ a, H a = none → Q (.ref a) (upd H a (.lst vs)) := fun a ha => by
  unfold mkL at e
  cases bx with
  | true =>
    rw [if_pos rfl] at e
    cases e
    have g : Gr φ s H (Fl.bx φ s.nx a) (s.new (.lst ds)) (upd H a (.lst vs)) := Gr.box h ha
    refine p _ _ _ g (h.box ha ⟨vs, upd_same, RepL.mono g ds r⟩) ?_
    simp only [Rep]
    exact ⟨a, rfl, by show (if s.nx = s.nx then some a else φ s.nx) = some a; rw [if_pos rfl]⟩
  | false =>
    rw [if_neg Bool.false_ne_true] at e
    cases e
    have g : Gr φ s H φ s (upd H a (.lst vs)) := Gr.free h ha
    refine p φ _ _ g (h.free ha) ?_
    simp only [Rep]
    exact ⟨a, vs, rfl, upd_same, h.fresh ha, RepL.mono g ds r⟩
end
def bopOf : Bop → Operator
  | .add => .Add | .sub => .Sub | .mul => .Mult | .fdiv => .FloorDiv | .mod => .Mod | .pow => .Pow
def rInt (o : Bop) : R2 := fun x y H Q => ∃ i j k, x = .int i ∧ y = .int j ∧ binI o i j = some k ∧ Q (.int k) H
def rStrA : R2 := fun x y H Q => ∃ i j, x = .str i ∧ y = .str j ∧ i.length + j.length ≤ sizeLine ∧ Q (.str (i ++ j)) H
def rBin (K : PySem.W.Frag) : Bop → R2
  | .add => fun x y H Q => (rInt .add x y H Q ∨ rStrA x y H Q) ∨ rCatA K x y H Q
  | o => rInt o
theorem sm64_iff {i : Int} (h : sm64 i = true) : -(2 ^ 64) < i ∧ i < 2 ^ 64 := by
  unfold sm64 at h
  simp only [Bool.and_eq_true, decide_eq_true_eq] at h
  exact h
theorem op_mul2 {X : Cx} : OpR X (binaryOp .Mult) (rInt .mul) := by
  intro pins s σ H x y v u Q I rx ry h
  obtain ⟨i, j, k, rfl, rfl, e, q⟩ := h
  have e' : (if ((sm64 i || sm64 j) || wd i j) = true then some (i * j) else none) = some k := e
  by_cases hc : ((sm64 i || sm64 j) || wd i j) = true
  · rw [if_pos hc] at e'
    cases e'
    rcases Bool.or_eq_true_iff.mp hc with hc | hw
    · obtain ⟨t, rfl⟩ := rx
      obtain ⟨t', rfl⟩ := ry
      rcases Bool.or_eq_true_iff.mp hc with h | h
      · obtain ⟨h1, h2⟩ := sm64_iff h
        exact PyProof.Rows.mul_int ⟨.int _, H, I.tok _, ⟨_, rfl⟩, q⟩ (.of_left (intBits_le_64 h1 h2))
      · obtain ⟨h1, h2⟩ := sm64_iff h
        exact PyProof.Rows.mul_int ⟨.int _, H, I.tok _, ⟨_, rfl⟩, q⟩ (.of_right (intBits_le_64 h1 h2))
    · unfold wd at hw
      rw [Bool.and_eq_true, decide_eq_true_eq, decide_eq_true_eq] at hw
      exact op_mulW pins s σ H _ _ v u Q I rx ry ⟨i, j, rfl, rfl, wide_mul hw.1 hw.2 (by decide) (by decide) (by decide), q⟩
  · rw [if_neg hc] at e'
    cases e'
theorem op_fdivB {X : Cx} : OpR X (binaryOp .FloorDiv) (rI (fun _ j => j ≠ 0 ∧ j.natAbs < 10000000000000000000000000000000000000000) fun i j => .int (i.fdiv j)) := opI fun _ _ _ _ _ _ _ hc q => PyProof.Rows.floordiv_int hc.1 q (.inl (PyProof.noPylong_of_log2 (Nat.lt_of_lt_of_le (PySem.Flt.log2_lt_of (k := 140) (by decide) (Nat.lt_of_lt_of_le hc.2 (by decide))) (by decide))))
theorem op_bin {X : Cx} (o : Bop) : OpR X (binaryOp (bopOf o)) (rBin X.K o) := by
  cases o with
  | add =>
    refine OpR.or (OpR.or ?_ op_add_str) op_catA
    intro pins s σ H x y v u Q I rx ry h
    obtain ⟨i, j, k, rfl, rfl, e, q⟩ := h
    cases e
    exact op_add pins s σ H _ _ v u Q I rx ry ⟨i, j, rfl, rfl, q⟩
  | sub =>
    intro pins s σ H x y v u Q I rx ry h
    obtain ⟨i, j, k, rfl, rfl, e, q⟩ := h
    cases e
    exact op_sub pins s σ H _ _ v u Q I rx ry ⟨i, j, rfl, rfl, q⟩
  | mul => exact op_mul2
  | fdiv =>
    intro pins s σ H x y v u Q I rx ry h
    obtain ⟨i, j, k, rfl, rfl, e, q⟩ := h
    have e' : (if j ≠ 0 ∧ j.natAbs < 10000000000000000000000000000000000000000 then some (i.fdiv j) else none) = some k := e
    split at e'
    · rename_i hc
      cases e'
      exact op_fdivB pins s σ H _ _ v u Q I rx ry ⟨i, j, rfl, rfl, hc, q⟩
    · cases e'
  | mod =>
    intro pins s σ H x y v u Q I rx ry h
    obtain ⟨i, j, k, rfl, rfl, e, q⟩ := h
    have e' : (if j ≠ 0 then some (i.fmod j) else none) = some k := e
    split at e'
    · rename_i hc
      cases e'
      exact op_modN pins s σ H _ _ v u Q I rx ry ⟨i, j, rfl, rfl, hc, q⟩
    · cases e'
  | pow =>
    intro pins s σ H x y v u Q I rx ry h
    obtain ⟨i, j, k, rfl, rfl, e, q⟩ := h
    have e' : (if 0 ≤ j ∧ j ≤ 1000000 ∧ i.natAbs < 2 ^ 64 then some (i ^ j.toNat) else none) = some k := e
    split at e'
    · rename_i hc
      cases e'
      exact op_pow pins s σ H _ _ v u Q I rx ry ⟨i, j, rfl, rfl, hc, q⟩
    · cases e'
section
variable {G : Glob} {φ : Mp} {s s' : S} {H : Hp} {a b d : D} {x y : V} {Q : VK} {K : PySem.W.Frag}
theorem bin_ok {o : Bop} (h : HR G φ s H) (ra : Rep φ s H a x) (rb : Rep φ s H b y) (e : binD o a b = some d) (p : Post G φ s H s d Q) : rBin K o x y H Q := by
  unfold binD at e
  split at e
  · rename_i i j
    simp only [Rep] at ra rb
    subst ra rb
    cases hk : binI o i j with
    | none =>
      rw [hk] at e
      cases e
    | some k =>
      rw [hk] at e
      cases e
      have q : rInt o (.int i) (.int j) H Q := ⟨i, j, k, rfl, rfl, hk, p.here h (by simp only [Rep])⟩
      cases o with
      | add => exact .inl (.inl q)
      | _ => exact q
  · rename_i i j
    simp only [Rep] at ra rb
    subst ra rb
    split at e
    · rename_i hz
      cases e
      refine .inl (.inr ⟨_, _, rfl, rfl, ?_, p.here h ?_⟩)
      · rw [str_len, str_len, ← LIM_eq]
        exact hz
      · simp only [Rep]
        rw [str_app]
    · cases e
  · rename_i xs ys
    split at e
    · rename_i hz
      cases e
      simp only [Rep] at ra rb
      obtain ⟨a1, vs, rfl, h1, d1, l1⟩ := ra
      obtain ⟨a2, ws, rfl, h2, d2, l2⟩ := rb
      refine .inr ⟨a1, a2, vs, ws, rfl, rfl, SqT.of h1, SqT.of h2, ?_, ?_, ?_, ?_⟩
      · rw [l1.length, l2.length, ← LIM_eq]
        exact hz
      · intro hv
        have hx : xs = [] := List.length_eq_zero_iff.mp (by rw [← l1.length, hv]; rfl)
        subst hx
        refine p.here h ?_
        simp only [Rep]
        exact ⟨a2, ws, rfl, h2, d2, l2⟩
      · intro _ hw
        have hy : ys = [] := List.length_eq_zero_iff.mp (by rw [← l2.length, hw]; rfl)
        subst hy
        refine p.here h ?_
        rw [List.append_nil]
        simp only [Rep]
        exact ⟨a1, vs, rfl, h1, d1, l1⟩
      · intro _ _
        exact p.tup h (l1.app l2)
    · cases e
  · cases e
end
section
variable {φ : Mp} {s : S} {H : Hp} {K : PySem.W.Frag}
mutual
theorem rep_dp : ∀ (d : D) {k : Nat} {v : V}, shp k d = true → Rep φ s H d v → Dp K H v (toPD d)
  | .non, k, v, _, r => by
    simp only [Rep] at r
    subst r
    simp only [toPD]
    exact .non
  | .bl b, k, v, _, r => by
    simp only [Rep] at r
    subst r
    simp only [toPD]
    exact .bl b
  | .int i, k, v, _, r => by
    simp only [Rep] at r
    subst r
    simp only [toPD]
    exact .int i
  | .str x, k, v, _, r => by
    simp only [Rep] at r
    subst r
    simp only [toPD]
    exact .str _
  | .tup xs, 0, v, h, r => by simp only [shp] at h; cases h
  | .tup xs, k + 1, v, h, r => by
    simp only [shp] at h
    simp only [Rep] at r
    obtain ⟨a, vs, rfl, h1, _, l⟩ := r
    simp only [toPD]
    exact .tup (SqT.of h1) (rep_dps xs h l)
  | .lst xs, 0, v, h, r => by simp only [shp] at h; cases h
  | .lst xs, k + 1, v, h, r => by
    simp only [shp] at h
    simp only [Rep] at r
    obtain ⟨a, vs, rfl, h1, _, l⟩ := r
    simp only [toPD]
    exact .lst (SqL.of h1) (rep_dps xs h l)
  | .ref n, k, v, h, r => by simp only [shp] at h; cases h
  | .scr xs, k, v, h, r => by simp only [shp] at h; cases h
theorem rep_dps : ∀ (ds : List D) {k : Nat} {vs : List V}, shpL k ds = true → RepL φ s H ds vs → DpAll K H vs (toPDs ds)
  | [], k, vs, _, r => by
    simp only [RepL] at r
    subst r
    simp only [toPDs]
    exact .nil
  | d :: ds, k, vs, h, r => by
    simp only [shpL, Bool.and_eq_true] at h
    simp only [RepL] at r
    obtain ⟨v, w, rfl, r1, r2⟩ := r
    simp only [toPDs]
    exact .cons (rep_dp d h.1 r1) (rep_dps ds h.2 r2)
end
end
mutual
theorem shp_shaped : ∀ (d : D) {k : Nat}, shp k d = true → (toPD d).canLay0 = true ∧ (toPD d).depth ≤ k
  | .non, k, h => by simp [toPD, PyData.canLay0, PyData.depth]
  | .bl b, k, h => by simp [toPD, PyData.canLay0, PyData.depth]
  | .int i, k, h => by simp [toPD, PyData.canLay0, PyData.depth]
  | .str x, k, h => by
    simp only [shp] at h
    refine ⟨?_, by simp [toPD, PyData.depth]⟩
    simp only [toPD, PyData.canLay0, PyData.strOk]
    rw [← Array.all_toList]
    exact h
  | .tup xs, 0, h => by simp only [shp] at h; cases h
  | .tup xs, k + 1, h => by
    simp only [shp] at h
    obtain ⟨h1, h2⟩ := shpL_shaped xs h
    simp only [toPD, PyData.canLay0, PyData.depth]
    exact ⟨h1, by omega⟩
  | .lst xs, 0, h => by simp only [shp] at h; cases h
  | .lst xs, k + 1, h => by
    simp only [shp] at h
    obtain ⟨h1, h2⟩ := shpL_shaped xs h
    simp only [toPD, PyData.canLay0, PyData.depth]
    exact ⟨h1, by omega⟩
  | .ref n, k, h => by simp only [shp] at h; cases h
  | .scr xs, k, h => by simp only [shp] at h; cases h
theorem shpL_shaped : ∀ (ds : List D) {k : Nat}, shpL k ds = true → PyData.canLayAll0 (toPDs ds) = true ∧ PyData.depthAll (toPDs ds) ≤ k
  | [], k, _ => by simp [toPDs, PyData.canLayAll0, PyData.depthAll]
  | d :: ds, k, h => by
    simp only [shpL, Bool.and_eq_true] at h
    obtain ⟨h1, h2⟩ := shp_shaped d h.1
    obtain ⟨h3, h4⟩ := shpL_shaped ds h.2
    simp only [toPDs, PyData.canLayAll0, PyData.depthAll, h1, h3, Bool.and_self, true_and]
    exact Nat.max_le.mpr ⟨h2, h4⟩
end
theorem beq_str (x y : List Nat) : ((⟨x.toArray⟩ : Str) == ⟨y.toArray⟩) = (x == y) := by
  rw [Bool.eq_iff_iff]
  simp only [beq_iff_eq]
  exact str_inj
mutual
theorem eqv_eq : ∀ (a b : D) {k j : Nat}, shp k a = true → shp j b = true → PyData.eqv (toPD a) (toPD b) = eqD a b
  | .tup xs, .tup ys, k, j, h, h' => by
    cases k with
    | zero => simp only [shp] at h; cases h
    | succ k =>
      cases j with
      | zero => simp only [shp] at h'; cases h'
      | succ j =>
        simp only [shp] at h h'
        simp only [toPD, PyData.eqv, eqD]
        exact eqvL_eq xs ys h h'
  | .lst xs, .lst ys, k, j, h, h' => by
    cases k with
    | zero => simp only [shp] at h; cases h
    | succ k =>
      cases j with
      | zero => simp only [shp] at h'; cases h'
      | succ j =>
        simp only [shp] at h h'
        simp only [toPD, PyData.eqv, eqD]
        exact eqvL_eq xs ys h h'
  | .str x, .str y, k, j, h, h' => by
    simp only [toPD, PyData.eqv, eqD]
    exact beq_str x y
  | .ref n, b, k, j, h, h' => by simp only [shp] at h; cases h
  | .scr n, b, k, j, h, h' => by simp only [shp] at h; cases h
  | .non, b, k, j, h, h' => by cases b <;> first | (simp only [shp] at h'; cases h'; done) | simp only [toPD, PyData.eqv, eqD]
  | .bl x, b, k, j, h, h' => by cases b <;> first | (simp only [shp] at h'; cases h'; done) | simp only [toPD, PyData.eqv, eqD]
  | .int x, b, k, j, h, h' => by cases b <;> first | (simp only [shp] at h'; cases h'; done) | simp only [toPD, PyData.eqv, eqD]
  | .str x, .non, k, j, h, h' => by simp only [toPD, PyData.eqv, eqD]
  | .str x, .bl _, k, j, h, h' => by simp only [toPD, PyData.eqv, eqD]
  | .str x, .int _, k, j, h, h' => by simp only [toPD, PyData.eqv, eqD]
  | .str x, .tup _, k, j, h, h' => by simp only [toPD, PyData.eqv, eqD]
  | .str x, .lst _, k, j, h, h' => by simp only [toPD, PyData.eqv, eqD]
  | .str x, .ref _, k, j, h, h' => by simp only [shp] at h'; cases h'
  | .str x, .scr _, k, j, h, h' => by simp only [shp] at h'; cases h'
  | .tup x, .non, k, j, h, h' => by simp only [toPD, PyData.eqv, eqD]
  | .tup x, .bl _, k, j, h, h' => by simp only [toPD, PyData.eqv, eqD]
  | .tup x, .int _, k, j, h, h' => by simp only [toPD, PyData.eqv, eqD]
  | .tup x, .str _, k, j, h, h' => by simp only [toPD, PyData.eqv, eqD]
  | .tup x, .lst _, k, j, h, h' => by simp only [toPD, PyData.eqv, eqD]
  | .tup x, .ref _, k, j, h, h' => by simp only [shp] at h'; cases h'
  | .tup x, .scr _, k, j, h, h' => by simp only [shp] at h'; cases h'
  | .lst x, .non, k, j, h, h' => by simp only [toPD, PyData.eqv, eqD]
  | .lst x, .bl _, k, j, h, h' => by simp only [toPD, PyData.eqv, eqD]
  | .lst x, .int _, k, j, h, h' => by simp only [toPD, PyData.eqv, eqD]
  | .lst x, .str _, k, j, h, h' => by simp only [toPD, PyData.eqv, eqD]
  | .lst x, .tup _, k, j, h, h' => by simp only [toPD, PyData.eqv, eqD]
  | .lst x, .ref _, k, j, h, h' => by simp only [shp] at h'; cases h'
  | .lst x, .scr _, k, j, h, h' => by simp only [shp] at h'; cases h'
theorem eqvL_eq : ∀ (a b : List D) {k j : Nat}, shpL k a = true → shpL j b = true → PyData.eqvAll (toPDs a) (toPDs b) = eqL a b
  | [], [], k, j, h, h' => by simp only [toPDs, PyData.eqvAll, eqL]
  | [], _ :: _, k, j, h, h' => by simp only [toPDs, PyData.eqvAll, eqL]
  | _ :: _, [], k, j, h, h' => by simp only [toPDs, PyData.eqvAll, eqL]
  | x :: xs, y :: ys, k, j, h, h' => by
    simp only [shpL, Bool.and_eq_true] at h h'
    simp only [toPDs, PyData.eqvAll, eqL]
    rw [eqv_eq x y h.1 h'.1, eqvL_eq xs ys h.2 h'.2]
end
section
variable {G : Glob} {φ : Mp} {s : S} {H : Hp} {K : PySem.W.Frag}
/-- a list's box, opened -/
theorem opn_dp (hk : φ.K = K) (h : HR G φ s H) {d : D} {v : V} (hs : shp 60 (opn s d) = true) (r : Rep φ s H d v) : Dp K H v (toPD (opn s d)) := by
  cases d with
  | ref n =>
    simp only [opn] at hs ⊢
    split at hs
    · rename_i xs q
      simp only [Rep] at r
      obtain ⟨a, rfl, ha⟩ := r
      obtain ⟨b, hb, vs, h1, h2⟩ := h.ob n _ q
      rw [ha] at hb
      cases hb
      simp only [shp] at hs
      simp only [toPD]
      exact .lst (SqL.of h1) (rep_dps xs hs h2)
    · simp only [shp] at hs
      cases hs
  | scr xs =>
    simp only [opn] at hs ⊢
    simp only [Rep] at r
    obtain ⟨a, vs, rfl, h1, l⟩ := r
    simp only [shp] at hs
    simp only [toPD]
    exact .lst (by rw [← hk]; exact h1.sq) (rep_dps xs hs l)
  | _ =>
    simp only [opn] at hs ⊢
    exact rep_dp _ hs r
mutual
theorem opnD_dp (hk : φ.K = K) (h : HR G φ s H) : ∀ (k : Nat) (d : D) {j : Nat} {v : V}, shp j (opnD s k d) = true → Rep φ s H d v → Dp K H v (toPD (opnD s k d))
  | 0, d, j, v, hs, r => by
    simp only [opnD] at hs ⊢
    exact rep_dp d hs r
  | k + 1, .ref n, j, v, hs, r => by
    simp only [opnD] at hs ⊢
    split at hs
    · rename_i xs q
      simp only [Rep] at r
      obtain ⟨a, rfl, ha⟩ := r
      obtain ⟨b, hb, vs, h1, h2⟩ := h.ob n _ q
      rw [ha] at hb
      cases hb
      cases j with
      | zero => simp only [shp] at hs; cases hs
      | succ j =>
        simp only [shp] at hs
        simp only [toPD]
        exact .lst (SqL.of h1) (opnD_dps hk h k xs hs h2)
    · simp only [shp] at hs
      cases hs
  | k + 1, .scr xs, j, v, hs, r => by
    simp only [opnD] at hs ⊢
    simp only [Rep] at r
    obtain ⟨a, vs, rfl, h1, l⟩ := r
    cases j with
    | zero => simp only [shp] at hs; cases hs
    | succ j =>
      simp only [shp] at hs
      simp only [toPD]
      exact .lst (by rw [← hk]; exact h1.sq) (rep_dps xs hs l)
  | k + 1, .tup xs, j, v, hs, r => by
    simp only [opnD] at hs ⊢
    simp only [Rep] at r
    obtain ⟨a, vs, rfl, h1, _, l⟩ := r
    cases j with
    | zero => simp only [shp] at hs; cases hs
    | succ j =>
      simp only [shp] at hs
      simp only [toPD]
      exact .tup (SqT.of h1) (opnD_dps hk h k xs hs l)
  | k + 1, .lst xs, j, v, hs, r => by
    simp only [opnD] at hs ⊢
    simp only [Rep] at r
    obtain ⟨a, vs, rfl, h1, _, l⟩ := r
    cases j with
    | zero => simp only [shp] at hs; cases hs
    | succ j =>
      simp only [shp] at hs
      simp only [toPD]
      exact .lst (SqL.of h1) (opnD_dps hk h k xs hs l)
  | k + 1, .non, j, v, hs, r => by
    simp only [opnD] at hs ⊢
    exact rep_dp _ hs r
  | k + 1, .bl _, j, v, hs, r => by
    simp only [opnD] at hs ⊢
    exact rep_dp _ hs r
  | k + 1, .int _, j, v, hs, r => by
    simp only [opnD] at hs ⊢
    exact rep_dp _ hs r
  | k + 1, .str _, j, v, hs, r => by
    simp only [opnD] at hs ⊢
    exact rep_dp _ hs r
theorem opnD_dps (hk : φ.K = K) (h : HR G φ s H) : ∀ (k : Nat) (ds : List D) {j : Nat} {vs : List V}, shpL j (ds.map (opnD s k)) = true → RepL φ s H ds vs → DpAll K H vs (toPDs (ds.map (opnD s k)))
  | k, [], j, vs, _, r => by
    simp only [RepL] at r
    subst r
    simp only [List.map_nil, toPDs]
    exact .nil
  | k, d :: ds, j, vs, hs, r => by
    simp only [List.map_cons, shpL, Bool.and_eq_true] at hs
    simp only [RepL] at r
    obtain ⟨v, w, rfl, r1, r2⟩ := r
    simp only [List.map_cons, toPDs]
    exact .cons (opnD_dp hk h k d hs.1 r1) (opnD_dps hk h k ds hs.2 r2)
end
end
def rEqA (K : PySem.W.Frag) : R2 := fun x y H Q => rEq x y H Q ∨ rEqD K x y H Q
def rNeA (K : PySem.W.Frag) : R2 := fun x y H Q => rNe x y H Q ∨ rNeD K x y H Q
theorem shp_sh {d : D} (h : shp 60 d = true) : SeqAt.shaped (toPD d) = true := by
  obtain ⟨h1, h2⟩ := shp_shaped d h
  unfold SeqAt.shaped
  rw [h1, Bool.true_and]
  exact decide_eq_true (by omega)
section
variable {G : Glob} {φ : Mp} {s s' : S} {H : Hp} {a b : D} {x y : V} {K : PySem.W.Frag} {k : Bool}
theorem hv_of (hkk : φ.K = K) (h : HR G φ s H) {a : D} {x : V} (ra : Rep φ s H a x) (e : hvD s a = true) : Hvy K H x := by
  cases a with
  | tup xs =>
    simp only [Rep] at ra
    obtain ⟨p, vs, rfl, h1, _, _⟩ := ra
    exact .inr (.inl ⟨p, vs, rfl, SqT.of h1⟩)
  | lst xs =>
    simp only [Rep] at ra
    obtain ⟨p, vs, rfl, h1, _, _⟩ := ra
    exact .inl ⟨p, vs, rfl, SqL.of h1⟩
  | ref n =>
    simp only [Rep] at ra
    obtain ⟨p, rfl, hp⟩ := ra
    simp only [hvD] at e
    split at e
    · rename_i xs hn
      obtain ⟨b, hb, vs, h1, _⟩ := h.ob n _ hn
      rw [hp] at hb
      cases hb
      exact .inl ⟨p, vs, rfl, SqL.of h1⟩
    · rename_i kvs hn
      obtain ⟨b, hb, ks, h1, _⟩ := h.ob n _ hn
      rw [hp] at hb
      cases hb
      exact .inr (.inr ⟨p, ks, rfl, h1⟩)
    · cases e
  | _ => cases e
theorem ccont_of (hkk : φ.K = K) (h : HR G φ s H) {a : D} {x : V} {xs : List D} (ra : Rep φ s H a x) (e : ccont s a = some xs) : ∃ p vs, x = .ref p ∧ SqL K H p vs ∧ vs.length = xs.length := by
  cases a with
  | lst ys =>
    cases e
    simp only [Rep] at ra
    obtain ⟨p, vs, rfl, h1, _, h2⟩ := ra
    exact ⟨p, vs, rfl, SqL.of h1, h2.length⟩
  | ref n =>
    simp only [Rep] at ra
    obtain ⟨p, rfl, hp⟩ := ra
    simp only [ccont] at e
    split at e
    · rename_i ys hn
      cases e
      obtain ⟨b, hb, vs, h1, h2⟩ := h.ob n _ hn
      rw [hp] at hb
      cases hb
      exact ⟨p, vs, rfl, SqL.of h1, h2.length⟩
    · cases e
  | _ => cases e
theorem unS_ok (hkk : φ.K = K) (h : HR G φ s H) (ra : Rep φ s H a x) (rb : Rep φ s H b y) (e : unS s a b = some k) : Unl K H x y ∧ k = false := by
  unfold unS at e
  split at e
  · rename_i hc
    cases e
    refine ⟨?_, rfl⟩
    rw [Bool.or_eq_true, Bool.and_eq_true] at hc
    rcases hc with ⟨h1, h2⟩ | h1
    · refine .inl ⟨hv_of hkk h ra h1, ?_⟩
      cases b with
      | non =>
        simp only [Rep] at rb
        exact .inl rb
      | int i =>
        simp only [Rep] at rb
        exact .inr ⟨i, rb⟩
      | _ => cases h2
    · unfold lenU at h1
      split at h1
      · rename_i xs ys e1 e2
        obtain ⟨p, vs, rfl, q1, q2⟩ := ccont_of hkk h ra e1
        obtain ⟨q, ws, rfl, q3, q4⟩ := ccont_of hkk h rb e2
        have := of_decide_eq_true h1
        exact .inr ⟨p, q, vs, ws, rfl, rfl, q1, q3, by omega⟩
      · cases h1
  · cases e
/-- the answer as a value -/
theorem eqS_ok (hkk : φ.K = K) (h : HR G φ s H) (ra : Rep φ s H a x) (rb : Rep φ s H b y) (e : eqS s a b = some k) : (scal x y = true ∧ decide (x = y) = k) ∨ (∃ d e, Dp K H x d ∧ Dp K H y e ∧ SeqAt.shaped d = true ∧ SeqAt.shaped e = true ∧ PyData.eqv d e = k) ∨ (Unl K H x y ∧ k = false) := by
  unfold eqS at e
  split at e
  · simp only [Rep] at ra rb
    subst ra rb
    cases e
    refine .inl ⟨rfl, ?_⟩
    rw [dec_int, Bool.eq_iff_iff]
    simp
  · simp only [Rep] at ra rb
    subst ra rb
    cases e
    refine .inl ⟨rfl, ?_⟩
    rw [Bool.eq_iff_iff]
    simp
  · simp only [Rep] at ra rb
    subst ra rb
    cases e
    refine .inl ⟨rfl, ?_⟩
    rw [dec_bl, Bool.eq_iff_iff]
    simp
  · simp only [Rep] at ra rb
    subst ra rb
    cases e
    exact .inl ⟨rfl, by simp⟩
  · split at e
    · rename_i hc
      cases e
      rw [Bool.and_eq_true] at hc
      exact .inr (.inl ⟨_, _, opn_dp hkk h hc.1 ra, opn_dp hkk h hc.2 rb, shp_sh hc.1, shp_sh hc.2, eqv_eq _ _ hc.1 hc.2⟩)
    · split at e
      · rename_i hc
        cases e
        rw [Bool.and_eq_true] at hc
        exact .inr (.inl ⟨_, _, opnD_dp hkk h 20 _ hc.1 ra, opnD_dp hkk h 20 _ hc.2 rb, shp_sh hc.1, shp_sh hc.2, eqv_eq _ _ hc.1 hc.2⟩)
      · exact .inr (.inr (unS_ok hkk h ra rb e))
end
end Fl
namespace Fl
open PySem L2 PySem.Spec PyProof.Rows
section
variable {prog : Program} {w : World} {A : Around} {E : Value → Shared → Prop} {s : Shared}
theorem pick_rev (xs : Array Value) : ((List.range xs.size).filterMap fun (m : Nat) => xs[(((xs.size : Int) - 1) + (m : Int) * (-1)).toNat]?).toArray = xs.toList.reverse.toArray := by
  congr 1
  have cg : ∀ (l : List Nat) (f g : Nat → Option Value), (∀ m ∈ l, f m = g m) → l.filterMap f = l.filterMap g := by
    intro l f g
    induction l with
    | nil => exact fun _ => rfl
    | cons a l ih =>
      intro h
      rw [List.filterMap_cons, List.filterMap_cons, h a List.mem_cons_self, ih fun m hm => h m (List.mem_cons_of_mem _ hm)]
  have e : (List.range xs.size).filterMap (fun (m : Nat) => xs[(((xs.size : Int) - 1) + (m : Int) * (-1)).toNat]?) = ((List.range xs.size).map fun m => xs.size - 1 - m).filterMap (xs[·]?) := by
    rw [List.filterMap_map]
    refine cg _ _ _ fun m hm => ?_
    have hm' : m < xs.size := List.mem_range.mp hm
    have e1 : (((xs.size : Int) - 1) + (m : Int) * (-1)).toNat = xs.size - 1 - m := by omega
    rw [e1]
    rfl
  rw [e, PySem.W.krv_range, List.filterMap_reverse, PySem.W.krv_all]
theorem sliceApplied_rev {sl : Addr} {vs : Value} {n : Nat} {Q : Int × Int × Nat → Shared → Prop} (hs : s.heap.IsSliceOf sl .none .none vs) (ps : IsPart vs (some (-1)))
    (h : Q ((n : Int) - 1, -1, n) s) : wpAny (model prog w) A (Builtin.Slice.sliceApplied (.ref sl) (pure (n : Int))) Q E s := by
  obtain ⟨os, hos, hcs, hds⟩ := id hs
  unfold Builtin.Slice.sliceApplied Builtin.Slice.sliceFields
  refine wpAny_bind (wpAny_bind (wpAny_field hos hds (x := .none) rfl (wpAny_bind (wpAny_field hos hds (x := .none) rfl (wpAny_bind (wpAny_field hos hds (x := vs) rfl (wpAny_pure ?_)))))))
  refine wpAny_bind (HT.slicePart_ ps ?_)
  show wpAny _ _ (if ((-1 : Int) == 0) = true then _ else _) _ _ s
  rw [if_neg (by decide)]
  refine wpAny_bind (HT.slicePart_ .none (wpAny_bind (HT.slicePart_ .none (wpAny_bind (wpAny_pure ?_)))))
  have e : Builtin.Slice.sliceAdjust none none (-1) (n : Int) = ((n : Int) - 1, -1) := by
    unfold Builtin.Slice.sliceAdjust
    simp
  show wpAny _ _ (match Builtin.Slice.sliceAdjust none none (-1) (n : Int) with | (lo, hi) => pure (lo, (-1 : Int), Builtin.Slice.slicePlaces lo hi (-1))) _ _ s
  rw [e]
  have e2 : Builtin.Slice.slicePlaces ((n : Int) - 1) (-1) (-1) = n := by
    unfold Builtin.Slice.slicePlaces
    simp
    try omega
  show wpAny _ _ (pure ((n : Int) - 1, (-1 : Int), Builtin.Slice.slicePlaces ((n : Int) - 1) (-1) (-1))) _ _ s
  rw [e2]
  exact wpAny_pure h
theorem getItem_tuple_rev {t sl : Addr} {items : Array Value} {vs : Value} {Q : Value → Shared → Prop} (ht : IsTup s.heap t items) (hs : s.heap.IsSliceOf sl .none .none vs) (ps : IsPart vs (some (-1)))
    (h : Q (.ref s.heap.objs.size) { s with heap := s.heap.push { cls := .type "tuple", data := .seq items.toList.reverse.toArray } }) (hsz : items.size ≤ sizeLine) : wpAny (model prog w) A (getItem (.ref t) (.ref sl)) Q E s := by
  have hz : sizeOk (.seq items.toList.reverse.toArray) := by
    show items.toList.reverse.toArray.size ≤ sizeLine
    rw [List.size_toArray, List.length_reverse, Array.length_toList]
    exact hsz
  obtain ⟨os, hos, hcs, hds⟩ := id hs
  have hTs : s.TypeIs (.ref sl) "slice" := ⟨os, hos, hcs⟩
  unfold getItem
  try with_reducible refine wpAny_holding ?_
  first | refine wpAny_bind (wpAny_pure ?_) | skip
  refine wpAny_bind (wpAny_sequenceKey ht.typeIs (by decide) ?_)
  refine wpAny_bind (wpAny_callSpecial?_slot (name := Str.ofString "__getitem__") ht.typeIs slot_tuple_getitem (wpAny_call_entry slot_tuple_getitem ht.typeIs entry_tuple_getitem ?_ (args_tuple_getitem _ _)))
  show wpAny _ _ (Builtin.Tuple.tupleItemsOf (.ref t) >>= _) _ _ s
  refine wpAny_bind (tupleItemsOf_ ht (wpAny_bind (wpAny_typeOf hTs ?_)))
  rw [if_pos (by decide)]
  refine wpAny_bind (sliceApplied_rev hs ps ?_)
  have hno : ¬ ((((items.size : Int) - 1) == 0 && (-1 : Int) == 1 && items.size == items.size) = true) := by simp
  show wpAny _ _ (if (((items.size : Int) - 1) == 0 && (-1 : Int) == 1 && items.size == items.size) = true then _ else _) _ _ s
  rw [if_neg hno, pick_rev]
  first
    | exact wpAny_bind (m := Builtin.Tuple.tupleExact _) (wpAny_newObj_type (wpAny_pure ⟨_, rfl, wpAny_pure h⟩) hz)
    | exact wpAny_bind (m := Builtin.Tuple.tupleExact _) (wpAny_newObj_type (wpAny_bind (wpAny_pure (wpAny_pure ⟨_, rfl, wpAny_pure h⟩))) hz)
    | exact wpAny_bind (wpAny_bind (m := Builtin.Tuple.tupleExact _) (wpAny_newObj_type (wpAny_pure (wpAny_pure ⟨_, rfl, wpAny_pure h⟩)) hz))
    | exact wpAny_bind (wpAny_bind (m := Builtin.Tuple.tupleExact _) (wpAny_newObj_type (wpAny_pure ⟨_, rfl, wpAny_pure h⟩) hz))
end
section
variable {X : Cx} {e : Expr} {te : TE} {k : Nat} {p1 p2 p3 pos : Pos}
/-- the slice [::-1] is laid -/
theorem rev_slice {pins : List (Addr × Obj)} {σ : L2.St} {H : Hp} {s : Shared} {v : Value} {R : Value → Shared → Prop} (I : Inv X pins σ H s)
    (h : ∀ (s2 : Shared) (t : Tok), Inv X pins σ H { s2 with heap := s2.heap.push { cls := .type "slice", data := .fields #[.none, .none, .int (-1) t] } } → wpAny (model X.prog X.w) X.A (subscriptTail e (.Slice none none (some (.UnaryOp .USub (.Constant (.int 1) k p1) p2)) p3) v (.ref s2.heap.objs.size)) R X.xe { s2 with heap := s2.heap.push { cls := .type "slice", data := .fields #[.none, .none, .int (-1) t] } }) :
    wpAny (model X.prog X.w) X.A (eval (.Slice none none (some (.UnaryOp .USub (.Constant (.int 1) k p1) p2)) p3) X.env) (fun i s' => wpAny (model X.prog X.w) X.A (subscriptTail e (.Slice none none (some (.UnaryOp .USub (.Constant (.int 1) k p1) p2)) p3) v i) R X.xe s') X.xe s := by
  have hst : PO X (some (.UnaryOp .USub (.Constant (.int 1) k p1) p2)) (tPart (tUn (rU fun i => .int (-i)) (tC (.int 1)))) := po_some (pe_un un_neg pe_int)
  refine wpAny_Slice (thn (po_none.run pins s σ H (fun o H2 => o = none ∧ H2 = H) I ⟨rfl, rfl⟩) fun vl s2 ⟨l, H2, I2, pl, el, e2⟩ => ?_)
  subst el e2
  refine thn (po_none.run pins s2 σ H2 (fun o H3 => o = none ∧ H3 = H2) I2 ⟨rfl, rfl⟩) fun vu s3 ⟨u, H3, I3, pu, eu, e3⟩ => ?_
  subst eu e3
  refine thn (hst.run pins s3 σ H3 (fun o H4 => o = some (-1) ∧ H4 = H3) I3 ⟨1, rfl, -1, rfl, rfl, rfl⟩) fun vs s4 ⟨o, H4, I4, ps, eo, e4⟩ => ?_
  subst eo e4
  cases pl
  cases pu
  cases ps
  exact h s4 _ (I4.kept (t' := s4.toks) fun b ob q => Heap.get?_push_of_some _ q)
def tRevT (K : PySem.W.Frag) (te : TE) : TE := fun σ H Q => te σ H fun x H1 => ∃ a xs, x = .ref a ∧ SqT K H1 a xs ∧ ∀ p, H1 p = none → Q (.ref p) (upd H1 p (.tup xs.reverse))
theorem pe_revT (he : PE X e te) : PE X (.Subscript e (.Slice none none (some (.UnaryOp .USub (.Constant (.int 1) k p1) p2)) p3) pos) (tRevT X.K te) := by
  refine ⟨fun pins s σ H Q I h => ?_⟩
  refine Subscript_ (thn (he.run pins s σ H _ I h) fun v s1 ⟨x, H1, I1, r1, q1⟩ => ?_)
  obtain ⟨a, xs, rfl, hx, q⟩ := q1
  cases r1
  refine rev_slice I1 fun s4 t I5 => ?_
  obtain ⟨its, r, ht, hz⟩ := I5.tuple hx
  have hlen := r.length
  refine tail_any (ops := [.ref a, .ref s4.heap.objs.size]) ht.typeIs slot_tuple_getitem.lookup ?_ (by with_unfolding_all rfl)
  refine getItem_tuple_rev ht (Heap.IsSliceOf.new _ _ _ _) (.int _ _) ?_ (by rw [List.size_toArray]; omega)
  refine ⟨.ref _, _, I5.laid (t' := s4.toks) (o := .tup xs.reverse) (fun b ob q => Heap.get?_push_of_some _ q) (Nat.le_refl _) ?_, rfl, q _ (I5.hok.fresh (Nat.le_refl _))⟩
  exact ⟨by rw [List.length_reverse]; exact hz, its.reverse, r.reverse, IsTup.new _ _⟩
def tRevS (te : TE) : TE := fun σ H Q => te σ H fun x H1 => ∃ z : List Nat, x = .str ⟨z.toArray⟩ ∧ z.length ≤ sizeLine ∧ Q (.str ⟨z.reverse.toArray⟩) H1
theorem pick_revS (z : List Nat) (t : Tok) : ((slicePicked ⟨z.toArray⟩ none none (some (-1, t))).filterMap ((⟨z.toArray⟩ : Str).cps[·]?)) = z.reverse := by
  unfold slicePicked Builtin.Str.strSliceIndices
  show (sliceRange ((z.toArray.size : Int) - 1) (-1) (-1)).filterMap (z.toArray[·]?) = z.reverse
  rw [PySem.W.krv_sliceRange, PySem.W.krv_range, List.filterMap_reverse]
  have := PySem.W.krv_all z.toArray
  rw [this]
theorem pe_revS (he : PE X e te) : PE X (.Subscript e (.Slice none none (some (.UnaryOp .USub (.Constant (.int 1) k p1) p2)) p3) pos) (tRevS te) := by
  refine ⟨fun pins s σ H Q I h => ?_⟩
  refine Subscript_ (thn (he.run pins s σ H _ I h) fun v s1 ⟨x, H1, I1, r1, q1⟩ => ?_)
  obtain ⟨z, rfl, hz, q⟩ := q1
  obtain ⟨tk, rfl⟩ := r1
  refine rev_slice I1 fun s4 t I5 => ?_
  refine tail_any (ops := [.str ⟨z.toArray⟩ tk, .ref s4.heap.objs.size]) (typeIs_str _ _ _) PySem.F.slot_str_getitem.lookup ?_ (by with_unfolding_all rfl)
  refine wpAny_getItem_str_slice (l := none) (u := none) (st := some (-1, t)) (Heap.IsSliceOf.new _ _ _ _) rfl ?_
  unfold sliceMade
  rw [if_neg (by simp), pick_revS]
  refine ⟨?_, .str ⟨z.reverse.toArray⟩, H1, I5.tok _, ⟨_, rfl⟩, q⟩
  show z.reverse.toArray.size ≤ sizeLine
  rw [List.size_toArray, List.length_reverse]
  exact hz
end
end Fl
namespace Fl
open PySem L2 PySem.Spec PyProof.Rows
mutual
/-- what a thing shows: as Reads, with its dicts known to be no table of modules -/
inductive Sh (h : Heap) : Value → PyData → Prop
  | non : Sh h .none .none
  | bl (b : Bool) : Sh h (.bool b) (.bool b)
  | int (i : Int) (t : Tok) : Sh h (.int i t) (.int i)
  | str (x : Str) (t : Tok) : Sh h (.str x t) (.str x)
  | lst {a : Addr} {o : Obj} {vs : Array Value} {n : Nat} {xs : List PyData} : h.get? a = some o → o.cls = .type "list" → o.data = .seq vs n → ShL h vs.toList xs → Sh h (.ref a) (.list xs)
  | tup {a : Addr} {o : Obj} {vs : Array Value} {n : Nat} {xs : List PyData} : h.get? a = some o → o.cls = .type "tuple" → o.data = .seq vs n → ShL h vs.toList xs → Sh h (.ref a) (.tuple xs)
  | dct {a : Addr} {o : Obj} {es : Array DictEntry} {n : Nat} {kvs : List (PyData × PyData)} : h.get? a = some o → o.cls = .type "dict" → o.data = .dict es n → (a == sysModules) = false → ShL h (es.toList.map (·.key)) (kvs.map (·.1)) →
      ShL h (es.toList.map (·.val)) (kvs.map (·.2)) → Sh h (.ref a) (.dict kvs)
inductive ShL (h : Heap) : List Value → List PyData → Prop
  | nil : ShL h [] []
  | cons {v : Value} {vs : List Value} {d : PyData} {ds : List PyData} : Sh h v d → ShL h vs ds → ShL h (v :: vs) (d :: ds)
end
mutual
theorem Sh.reads {h : Heap} : ∀ {v : Value} {d : PyData}, Sh h v d → ∃ as, Reads h v d as
  | _, _, .non => ⟨_, .none⟩
  | _, _, .bl b => ⟨_, .bool b⟩
  | _, _, .int i t => ⟨_, .int i t⟩
  | _, _, .str x t => ⟨_, .str x t⟩
  | _, _, .lst h1 h2 h3 h4 => let ⟨_, r⟩ := ShL.reads h4; ⟨_, .list h1 h2 h3 r⟩
  | _, _, .tup h1 h2 h3 h4 => let ⟨_, r⟩ := ShL.reads h4; ⟨_, .tuple h1 h2 h3 r⟩
  | _, _, .dct h1 h2 h3 _ h4 h5 => let ⟨_, r⟩ := ShL.reads h4; let ⟨_, q⟩ := ShL.reads h5; ⟨_, .dict h1 h2 h3 r q⟩
theorem ShL.reads {h : Heap} : ∀ {v : List Value} {d : List PyData}, ShL h v d → ∃ as, ReadsAll h v d as
  | _, _, .nil => ⟨_, .nil⟩
  | _, _, .cons h1 h2 => let ⟨_, r⟩ := Sh.reads h1; let ⟨_, q⟩ := ShL.reads h2; ⟨_, .cons r q⟩
end
section
variable {P : Program} {w : World} {h : Heap}
mutual
theorem Sh.rk : ∀ {v : Value} {d : PyData}, Sh h v d → d.showable = true → d.shown.length ≤ sizeLine → ∃ bs, ReadAtMost h d.depth bs ∧ ReprK P w bs h d.depth v d.shown
  | _, _, .non, _, _ => ⟨[], fun _ z => (List.not_mem_nil z).elim, by simp only [PyData.shown]; exact .of_is ReprIs.none _ _ _⟩
  | _, _, .bl b, _, _ => ⟨[], fun _ z => (List.not_mem_nil z).elim, by simp only [PyData.shown]; exact .of_is (ReprIs.bool b) _ _ _⟩
  | _, _, .int i t, hs, _ => ⟨[], fun _ z => (List.not_mem_nil z).elim, by simp only [PyData.shown]; exact .of_is (ReprIs.int t (by simpa [PyData.showable] using hs)) _ _ _⟩
  | _, _, .str x t, _, hz => ⟨[], fun _ z => (List.not_mem_nil z).elim, by simp only [PyData.shown]; exact .of_is (ReprIs.str x t (by simpa only [PyData.shown] using hz)) _ _ _⟩
  | _, _, .lst (a := a) (vs := vs) (xs := xs) h1 h2 h3 h4, hs, hz => by
    have hz' : (listText (PyData.shownAll xs)).length ≤ sizeLine := by simpa only [PyData.shown] using hz
    obtain ⟨bs, hb, hk⟩ := ShL.rk h4 (by simpa [PyData.showable] using hs) fun t ht => Nat.le_trans (listText_mem_le ht) hz'
    obtain ⟨as, r⟩ := (Sh.lst h1 h2 h3 h4).reads
    have hna : a ∉ bs := not_mem_of_deeper r (by simp only [PyData.depth]; omega) hb
    refine ⟨a :: bs, ReadAtMost.cons r (by simp only [PyData.depth]; omega) hb, ?_⟩
    simp only [PyData.depth, PyData.shown]
    obtain ⟨l⟩ := vs
    cases l with
    | nil =>
      cases (show ShL h [] xs from h4)
      simp only [PyData.shownAll, listText_nil]
      exact ReprK.listEmpty h1 h2 h3
    | cons y l => exact ReprK.list h1 h2 h3 hna (by simpa using hk.length_eq) (fun i z e => hk.item i z (by simpa using e))
  | _, _, .tup (a := a) (xs := xs) h1 h2 h3 h4, hs, hz => by
    have hz' : (tupleText (PyData.shownAll xs)).length ≤ sizeLine := by simpa only [PyData.shown] using hz
    obtain ⟨bs, hb, hk⟩ := ShL.rk h4 (by simpa [PyData.showable] using hs) fun t ht => Nat.le_trans (tupleText_mem_le ht) hz'
    obtain ⟨as, r⟩ := (Sh.tup h1 h2 h3 h4).reads
    have hna : a ∉ bs := not_mem_of_deeper r (by simp only [PyData.depth]; omega) hb
    refine ⟨a :: bs, ReadAtMost.cons r (by simp only [PyData.depth]; omega) hb, ?_⟩
    simp only [PyData.depth, PyData.shown]
    exact ReprK.tuple h1 h2 h3 hna hk
  | _, _, .dct (a := a) (es := es) (kvs := kvs) h1 h2 h3 hy h4 h5, hs, hz => by
    have hz' : (dictText (PyData.shownKv kvs)).length ≤ sizeLine := by simpa only [PyData.shown] using hz
    obtain ⟨s1, s2⟩ := PyData.showableKv_split kvs (by simpa [PyData.showable] using hs)
    obtain ⟨b1, hb1, k1⟩ := ShL.rk h4 s1 fun t ht => let ⟨p, hp, hl⟩ := PyData.shownKv_key_le kvs t ht; Nat.le_trans hl (Nat.le_trans (dictText_mem_le hp) hz')
    obtain ⟨b2, hb2, k2⟩ := ShL.rk h5 s2 fun t ht => let ⟨p, hp, hl⟩ := PyData.shownKv_val_le kvs t ht; Nat.le_trans hl (Nat.le_trans (dictText_mem_le hp) hz')
    obtain ⟨as, r⟩ := (Sh.dct h1 h2 h3 hy h4 h5).reads
    have hb : ReadAtMost h (PyData.depthKv kvs) (b1 ++ b2) := (hb1.mono (PyData.depthAll_keys_le kvs)).append (hb2.mono (PyData.depthAll_vals_le kvs))
    have hna : a ∉ b1 ++ b2 := not_mem_of_deeper r (by simp only [PyData.depth]; omega) hb
    refine ⟨a :: (b1 ++ b2), ReadAtMost.cons r (by simp only [PyData.depth]; omega) hb, ?_⟩
    simp only [PyData.depth, PyData.shown, PyData.shownKv_eq]
    exact ReprK.dict h1 h2 h3 hy hna (ReprEntriesK.of_two es.toList _ _ (k1.more_le (fun b z => List.mem_append_left _ z) (PyData.depthAll_keys_le kvs)) (k2.more_le (fun b z => List.mem_append_right _ z) (PyData.depthAll_vals_le kvs)))
theorem ShL.rk : ∀ {vs : List Value} {ds : List PyData}, ShL h vs ds → PyData.showableAll ds = true → (∀ t ∈ PyData.shownAll ds, t.length ≤ sizeLine) →
    ∃ bs, ReadAtMost h (PyData.depthAll ds) bs ∧ ReprAllK P w bs h (PyData.depthAll ds) vs (PyData.shownAll ds)
  | _, _, .nil, _, _ => ⟨[], fun _ z => (List.not_mem_nil z).elim, by simp only [PyData.shownAll]; exact .nil⟩
  | _, _, .cons (d := d) (ds := ds) h1 h2, hs, hz => by
    obtain ⟨s1, s2⟩ : d.showable = true ∧ PyData.showableAll ds = true := by simpa [PyData.showableAll] using hs
    obtain ⟨b1, hb1, k1⟩ := Sh.rk h1 s1 (hz _ (by simp only [PyData.shownAll]; exact List.mem_cons_self ..))
    obtain ⟨b2, hb2, k2⟩ := ShL.rk h2 s2 fun t ht => hz t (by simp only [PyData.shownAll]; exact List.mem_cons_of_mem _ ht)
    have m1 : d.depth ≤ PyData.depthAll (d :: ds) := by simp only [PyData.depthAll]; omega
    have m2 : PyData.depthAll ds ≤ PyData.depthAll (d :: ds) := by simp only [PyData.depthAll]; omega
    refine ⟨b1 ++ b2, (hb1.mono m1).append (hb2.mono m2), ?_⟩
    simp only [PyData.shownAll]
    exact .cons ((k1.more fun b z => List.mem_append_left _ z).level_le m1) (k2.more_le (fun b z => List.mem_append_right _ z) m2)
end
/-- repr of a thing on the heap -/
theorem repr_ref {A : Around} {E : Value → Shared → Prop} {s : Shared} {a : Addr} {d : PyData} {Q : Value → Shared → Prop} (r : Sh s.heap (.ref a) d) (hs : d.showable = true) (hg : A.guards = some []) (hu : A.units + (d.depth + 1) < cLine)
    (hQ : ∀ h' u tk, (∀ b o, s.heap.get? b = some o → h'.get? b = some o) → Q (.str d.shown u) { s with heap := h', toks := tk }) (hz : d.shown.length ≤ sizeLine) : wpAny (model P w) A (call (.builtin "repr") [.ref a]) Q E s := by
  cases r with
  | lst h1 h2 h3 h4 =>
    rename_i o vs n xs
    simp only [PyData.depth] at hu
    simp only [PyData.shown] at hQ hz
    refine call_repr_slot (T := "list") (by omega) ⟨o, h1, h2⟩ F.slot_list_repr.toG ?_
    obtain ⟨as, rr⟩ := (Sh.lst h1 h2 h3 h4).reads
    obtain ⟨bs, hb, hk⟩ := ShL.rk (P := P) (w := w) h4 (by simpa [PyData.showable] using hs) fun t ht => Nat.le_trans (listText_mem_le ht) hz
    have hna : a ∉ bs := not_mem_of_deeper rr (by simp only [PyData.depth]; omega) hb
    obtain ⟨l⟩ := vs
    cases l with
    | nil =>
      cases (show ShL s.heap [] xs from h4)
      simp only [PyData.shownAll, listText_nil] at hQ
      exact call_list_repr_empty ⟨o, h1, h2⟩ h1 h3 ⟨_, _, rfl, hQ s.heap _ _ fun _ _ e => e⟩
    | cons y l => exact call_list_reprK h1 h2 h3 hna (by simpa using hk.length_eq) (fun i z e => hk.item i z (by simpa using e)) hg (fun b _ => Clear.nil b) (by show A.units + 1 + _ < cLine; omega) (fun _ _ e => e) (fun h' u tk k => ⟨_, _, rfl, hQ h' u tk k⟩) hz
  | tup h1 h2 h3 h4 =>
    rename_i o vs n xs
    simp only [PyData.depth] at hu
    simp only [PyData.shown] at hQ hz
    refine call_repr_slot (T := "tuple") (by omega) ⟨o, h1, h2⟩ F.slot_tuple_repr ?_
    obtain ⟨as, rr⟩ := (Sh.tup h1 h2 h3 h4).reads
    obtain ⟨bs, hb, hk⟩ := ShL.rk (P := P) (w := w) h4 (by simpa [PyData.showable] using hs) fun t ht => Nat.le_trans (tupleText_mem_le ht) hz
    have hna : a ∉ bs := not_mem_of_deeper rr (by simp only [PyData.depth]; omega) hb
    exact call_tuple_reprK h1 h2 h3 hna hk hg (fun b _ => Clear.nil b) (by show A.units + 1 + _ < cLine; omega) (fun _ _ e => e) (fun h' u tk k => ⟨_, _, rfl, hQ h' u tk k⟩) hz
  | dct h1 h2 h3 hy h4 h5 =>
    rename_i o es n kvs
    simp only [PyData.depth] at hu
    simp only [PyData.shown] at hQ hz
    refine call_repr_slot (T := "dict") (by omega) ⟨o, h1, h2⟩ F.slot_dict_repr ?_
    obtain ⟨s1, s2⟩ := PyData.showableKv_split kvs (by simpa [PyData.showable] using hs)
    obtain ⟨b1, hb1, k1⟩ := ShL.rk (P := P) (w := w) h4 s1 fun t ht => let ⟨p, hp, hl⟩ := PyData.shownKv_key_le kvs t ht; Nat.le_trans hl (Nat.le_trans (dictText_mem_le hp) hz)
    obtain ⟨b2, hb2, k2⟩ := ShL.rk (P := P) (w := w) h5 s2 fun t ht => let ⟨p, hp, hl⟩ := PyData.shownKv_val_le kvs t ht; Nat.le_trans hl (Nat.le_trans (dictText_mem_le hp) hz)
    obtain ⟨as, rr⟩ := (Sh.dct h1 h2 h3 hy h4 h5).reads
    have hb : ReadAtMost s.heap (PyData.depthKv kvs) (b1 ++ b2) := (hb1.mono (PyData.depthAll_keys_le kvs)).append (hb2.mono (PyData.depthAll_vals_le kvs))
    have hna : a ∉ b1 ++ b2 := not_mem_of_deeper rr (by simp only [PyData.depth]; omega) hb
    simp only [PyData.shownKv_eq] at hQ
    exact call_dict_reprK h1 h2 h3 hy hna (ReprEntriesK.of_two es.toList _ _ (k1.more_le (fun b z => List.mem_append_left _ z) (PyData.depthAll_keys_le kvs)) (k2.more_le (fun b z => List.mem_append_right _ z) (PyData.depthAll_vals_le kvs)))
      hg (fun b _ => Clear.nil b) (by show A.units + 1 + _ < cLine; omega) (fun _ _ e => e) (fun h' u tk k => ⟨_, _, rfl, hQ h' u tk k⟩) (by rw [← PyData.shownKv_eq]; exact hz)
end
mutual
inductive Dq (K : PySem.W.Frag) (H : Hp) : V → PyData → Prop
  | non : Dq K H .non .none
  | bl (b : Bool) : Dq K H (.bl b) (.bool b)
  | int (i : Int) : Dq K H (.int i) (.int i)
  | str (x : Str) : Dq K H (.str x) (.str x)
  | lst {a : Addr} {xs : List V} {ds : List PyData} : SqL K H a xs → DqL K H xs ds → Dq K H (.ref a) (.list ds)
  | tup {a : Addr} {xs : List V} {ds : List PyData} : SqT K H a xs → DqL K H xs ds → Dq K H (.ref a) (.tuple ds)
  | dct {a : Addr} {ks : List (Key × V)} {kvs : List (PyData × PyData)} : H a = some (.dK ks) → DqL K H (ks.map fun p => kV p.1) (kvs.map (·.1)) → DqL K H (ks.map (·.2)) (kvs.map (·.2)) → Dq K H (.ref a) (.dict kvs)
inductive DqL (K : PySem.W.Frag) (H : Hp) : List V → List PyData → Prop
  | nil : DqL K H [] []
  | cons {v : V} {vs : List V} {d : PyData} {ds : List PyData} : Dq K H v d → DqL K H vs ds → DqL K H (v :: vs) (d :: ds)
end
section
variable {X : Cx} {pins : List (Addr × Obj)} {σ : L2.St} {H : Hp} {s : Shared}
theorem prs_vals {P : Program} {w : World} : ∀ {es : List DictEntry} {vs : List (Key × Value)} {ks : List (Key × V)}, Pairs (mixKind P w) es vs → KV ks vs → Vals (ks.map fun p => kV p.1) (es.map (·.key)) ∧ Vals (ks.map (·.2)) (es.map (·.val)) := by
  intro es vs ks hp
  induction hp generalizing ks with
  | nil =>
    intro q
    cases q
    exact ⟨.nil, .nil⟩
  | cons h1 h2 h3 ih =>
    intro q
    cases q with
    | cons q r =>
      obtain ⟨i1, i2⟩ := ih r
      refine ⟨.cons (relV_key (by rw [q.1]; exact h1)) i1, .cons ?_ i2⟩
      have e := q.2
      rw [← h2] at e
      exact e
mutual
theorem Dq.sh (I : Inv X pins σ H s) : ∀ {v : V} {d : PyData} {u : Value}, Dq X.K H v d → RelV v u → Sh s.heap u d
  | _, _, _, .non, r => by cases r; exact .non
  | _, _, _, .bl b, r => by cases r; exact .bl b
  | _, _, _, .int i, r => by obtain ⟨t, rfl⟩ := r; exact .int i t
  | _, _, _, .str x, r => by obtain ⟨t, rfl⟩ := r; exact .str x t
  | _, _, _, .lst h1 h2, r => by
    cases r
    obtain ⟨its, rv, ⟨o, n, ho, hc, hd, hdt⟩, _⟩ := I.list h1
    exact .lst ho hc hdt (by simpa using DqL.sh I h2 rv)
  | _, _, _, .tup h1 h2, r => by
    cases r
    obtain ⟨its, rv, ⟨o, ho, hc, n, hdt⟩, _⟩ := I.tuple h1
    exact .tup ho hc hdt (by simpa using DqL.sh I h2 rv)
  | _, _, _, .dct h1 h2 h3, r => by
    cases r
    obtain ⟨_, hy, vs, kv, o, es, ep, ho, hx, hd, _, hp, _⟩ := I.hok _ _ h1
    obtain ⟨v1, v2⟩ := prs_vals hp kv
    exact .dct ho hx.1 hd hy (DqL.sh I h2 v1) (DqL.sh I h3 v2)
theorem DqL.sh (I : Inv X pins σ H s) : ∀ {v : List V} {d : List PyData} {u : List Value}, DqL X.K H v d → Vals v u → ShL s.heap u d
  | _, _, _, .nil, r => by cases r; exact .nil
  | _, _, _, .cons h1 h2, r => by cases r with | cons r1 r2 => exact .cons (Dq.sh I h1 r1) (DqL.sh I h2 r2)
end
end
def rRepr (K : PySem.W.Frag) : List V → Hp → VK → Prop := fun xs H Q => ∃ x d, xs = [x] ∧ Dq K H x d ∧ d.showable = true ∧ d.depth ≤ 4000 ∧ d.shown.length ≤ sizeLine ∧ Q (.str d.shown) H
theorem call_repr {X : Cx} (hu : X.A.units + 4499 < cLine) (hg : X.A.guards = some []) : CallR X (.builtin "repr") (rRepr X.K) := by
  intro pins s σ H xs us Q I r h
  obtain ⟨x, d, rfl, hd, hs, hk, hz, q⟩ := h
  obtain ⟨u, rfl, ru⟩ := vals1 r
  have sh := Dq.sh I hd ru
  cases hd with
  | non =>
    cases ru
    simp only [PyData.shown] at q
    exact PySem.P.repr_of_none ⟨.str _, H, I.tok _, ⟨_, rfl⟩, q⟩
  | bl b =>
    cases ru
    simp only [PyData.shown] at q
    exact PySem.P.repr_of_bool ⟨.str _, H, I.tok _, ⟨_, rfl⟩, q⟩
  | int i =>
    obtain ⟨t, rfl⟩ := ru
    simp only [PyData.shown] at q
    exact PySem.P.repr_of_int (by simpa [PyData.showable] using hs) ⟨.str _, H, I.tok _, ⟨_, rfl⟩, q⟩
  | str z =>
    obtain ⟨t, rfl⟩ := ru
    simp only [PyData.shown] at q hz
    exact PySem.P.repr_of_str ⟨.str _, H, I.tok _, ⟨_, rfl⟩, q⟩
  | lst h1 h2 =>
    cases ru
    exact repr_ref sh hs hg (by omega) (fun h' u tk k => ⟨.str _, H, I.kept (t' := tk) k, ⟨_, rfl⟩, q⟩) hz
  | tup h1 h2 =>
    cases ru
    exact repr_ref sh hs hg (by omega) (fun h' u tk k => ⟨.str _, H, I.kept (t' := tk) k, ⟨_, rfl⟩, q⟩) hz
  | dct h1 h2 h3 =>
    cases ru
    exact repr_ref sh hs hg (by omega) (fun h' u tk k => ⟨.str _, H, I.kept (t' := tk) k, ⟨_, rfl⟩, q⟩) hz
section
variable {G : Glob} {φ : Mp} {s : S} {H : Hp} {K : PySem.W.Frag}
mutual
theorem pdO_dq (hk : φ.K = K) (h : HR G φ s H) : ∀ (k : Nat) (x : D) {v : V} {d : PyData}, pdO s k x = some d → Rep φ s H x v → Dq K H v d
  | k, .non, v, d, e, r => by
    simp only [pdO] at e
    cases e
    simp only [Rep] at r
    subst r
    exact .non
  | k, .bl b, v, d, e, r => by
    simp only [pdO] at e
    cases e
    simp only [Rep] at r
    subst r
    exact .bl b
  | k, .int i, v, d, e, r => by
    simp only [pdO] at e
    cases e
    simp only [Rep] at r
    subst r
    exact .int i
  | k, .str x, v, d, e, r => by
    simp only [pdO] at e
    cases e
    simp only [Rep] at r
    subst r
    exact .str _
  | k + 1, .tup xs, v, d, e, r => by
    simp only [pdO, Option.map_eq_some_iff] at e
    obtain ⟨ds, e, rfl⟩ := e
    simp only [Rep] at r
    obtain ⟨a, vs, rfl, h1, _, h2⟩ := r
    exact .tup (SqT.of h1) (pdOs_dq hk h k xs e h2)
  | k + 1, .lst xs, v, d, e, r => by
    simp only [pdO, Option.map_eq_some_iff] at e
    obtain ⟨ds, e, rfl⟩ := e
    simp only [Rep] at r
    obtain ⟨a, vs, rfl, h1, _, h2⟩ := r
    exact .lst (SqL.of h1) (pdOs_dq hk h k xs e h2)
  | k + 1, .ref n, v, d, e, r => by
    simp only [pdO] at e
    simp only [Rep] at r
    obtain ⟨a, rfl, ha⟩ := r
    split at e
    · rename_i xs hn
      simp only [Option.map_eq_some_iff] at e
      obtain ⟨ds, e, rfl⟩ := e
      obtain ⟨b, hb, vs, h1, h2⟩ := h.ob n _ hn
      rw [ha] at hb
      cases hb
      exact .lst (SqL.of h1) (pdOs_dq hk h k xs e h2)
    · rename_i kvs hn
      simp only [Option.map_eq_some_iff] at e
      obtain ⟨ds, e, rfl⟩ := e
      obtain ⟨b, hb, ks, h1, h2⟩ := h.ob n _ hn
      rw [ha] at hb
      cases hb
      obtain ⟨i1, i2⟩ := pdOv_dq hk h k kvs e h2
      exact .dct h1 i1 i2
    · cases e
  | 0, .tup xs, v, d, e, r => by simp only [pdO] at e; cases e
  | 0, .lst xs, v, d, e, r => by simp only [pdO] at e; cases e
  | 0, .ref n, v, d, e, r => by simp only [pdO] at e; cases e
  | k, .scr xs, v, d, e, r => by simp only [pdO] at e; cases e
  termination_by k d => (k, sizeOf d)
theorem pdOs_dq (hk : φ.K = K) (h : HR G φ s H) : ∀ (k : Nat) (xs : List D) {vs : List V} {ds : List PyData}, pdOs s k xs = some ds → RepL φ s H xs vs → DqL K H vs ds
  | k, [], vs, ds, e, r => by
    simp only [pdOs] at e
    cases e
    simp only [RepL] at r
    subst r
    exact .nil
  | k, x :: xs, vs, ds, e, r => by
    simp only [pdOs, Option.bind_eq_some_iff, Option.map_eq_some_iff] at e
    obtain ⟨d, e1, ds, e2, rfl⟩ := e
    simp only [RepL] at r
    obtain ⟨v, w, rfl, r1, r2⟩ := r
    exact .cons (pdO_dq hk h k x e1 r1) (pdOs_dq hk h k xs e2 r2)
  termination_by k d => (k, sizeOf d)
theorem pdOv_dq (hk : φ.K = K) (h : HR G φ s H) : ∀ (k : Nat) (xs : List (DK × D)) {vs : List (Key × V)} {ds : List (PyData × PyData)}, pdOv s k xs = some ds → KR φ s H xs vs → DqL K H (vs.map fun p => kV p.1) (ds.map (·.1)) ∧ DqL K H (vs.map (·.2)) (ds.map (·.2))
  | k, [], vs, ds, e, r => by
    simp only [pdOv] at e
    cases e
    simp only [KRg] at r
    subst r
    exact ⟨.nil, .nil⟩
  | k, (q, x) :: xs, vs, ds, e, r => by
    simp only [pdOv, Option.bind_eq_some_iff, Option.map_eq_some_iff] at e
    obtain ⟨d, e1, ds, e2, rfl⟩ := e
    obtain ⟨v, w, rfl, r1, r2⟩ := r
    obtain ⟨i1, i2⟩ := pdOv_dq hk h k xs e2 r2
    refine ⟨.cons ?_ i1, .cons (pdO_dq hk h k x e1 r1) i2⟩
    cases q with
    | i i => exact .int i
    | s z => exact .str _
  termination_by k d => (k, sizeOf d)
end
end
end Fl
namespace Fl
open PySem L2 PySem.Spec PyProof.Rows
def rLtD (K : PySem.W.Frag) : R2 := fun x y H Q => ∃ d1 d2, Dq K H x d1 ∧ Dq K H y d2 ∧ PySem.W.alike d1 d2 = true ∧ d1 ≠ .none ∧ d1.depth ≤ 100 ∧ Q (.bl (PySem.W.dataLt d1 d2)) H
theorem op_ltD {X : Cx} (hu : X.A.units + 200 < cLine) : OpR X (compareOp .Lt) (rLtD X.K) := by
  intro pins s σ H x y v u Q I rx ry h
  obtain ⟨d1, d2, q1, q2, al, nn, hd, q⟩ := h
  obtain ⟨as, r1⟩ := (q1.sh I rx).reads
  obtain ⟨bs, r2⟩ := (q2.sh I ry).reads
  have hm : X.A.units + min d1.depth d2.depth < cLine := by
    have := Nat.min_le_left d1.depth d2.depth
    omega
  exact PySem.W.rcLt_alike d1 d2 X.A s v u as bs r1 r2 al nn hm X.prog X.w _ _ ⟨.bl _, H, I, rfl, q⟩
section
variable {G : Glob} {φ : Mp} {s : S} {H : Hp} {a b : D} {x y : V} {Q : VK} {K : PySem.W.Frag} {k : Bool}
theorem ltS_ok (hkk : φ.K = K) (h : HR G φ s H) (ra : Rep φ s H a x) (rb : Rep φ s H b y) (e : ltS s a b = some k) (q : Q (.bl k) H) : rLtD K x y H Q := by
  unfold ltS at e
  split at e
  · rename_i d1 d2 h1 h2
    split at e
    · rename_i hc
      cases e
      simp only [Bool.and_eq_true, decide_eq_true_eq] at hc
      obtain ⟨⟨h3, h4⟩, h5⟩ := hc
      exact ⟨d1, d2, pdO_dq hkk h _ a h1 ra, pdO_dq hkk h _ b h2 rb, h3, fun z => (by rw [z] at h4; cases h4), h5, q⟩
    · cases e
  · cases e
end
end Fl
namespace Fl
open PySem L2
def copOf : Cop → CmpOp
  | .eq => .Eq | .ne => .NotEq | .lt => .Lt | .le => .LtE | .gt => .Gt | .ge => .GtE | .is => .Is | .isn => .IsNot | .inn => .In | .nin => .NotIn
/-- y in d -/
def rDIn : R2 := fun y x H Q => ∃ a o, x = .ref a ∧ DGet H a y o ∧ Q (.bl o.isSome) H
def rDNin : R2 := fun y x H Q => ∃ a o, x = .ref a ∧ DGet H a y o ∧ Q (.bl (!o.isSome)) H
theorem op_din {X : Cx} (hu : X.A.units + 1 < cLine) : OpR X (compareOp .In) rDIn := by
  intro pins s σ H x y v u Q I rx ry h
  obtain ⟨a, o, rfl, g, q⟩ := h
  obtain rfl : u = Value.ref a := ry
  exact d_in hu I g rx fun s3 I3 => ⟨.bl o.isSome, H, I3, rfl, q⟩
theorem op_dnin {X : Cx} (hu : X.A.units + 1 < cLine) : OpR X (compareOp .NotIn) rDNin := by
  intro pins s σ H x y v u Q I rx ry h
  obtain ⟨a, o, rfl, g, q⟩ := h
  obtain rfl : u = Value.ref a := ry
  exact d_notIn hu I g rx fun s3 I3 => ⟨.bl (!o.isSome), H, I3, rfl, q⟩
/-- a comparison whose answer is k -/
def rCmp (K : PySem.W.Frag) : Cop → R2
  | .eq => fun x y H Q => rEq x y H Q ∨ rEqD K x y H Q ∨ rEqN K x y H Q
  | .ne => fun x y H Q => rNe x y H Q ∨ rNeD K x y H Q ∨ rNeN K x y H Q
  | .lt => fun x y H Q => (∃ i j, x = .int i ∧ y = .int j ∧ Q (.bl (decide (i < j))) H) ∨ (∃ i j, x = .str i ∧ y = .str j ∧ Q (.bl (decide (i.cps.toList < j.cps.toList))) H) ∨ rLtD K x y H Q
  | .le => fun x y H Q => (∃ i j, x = .int i ∧ y = .int j ∧ Q (.bl (decide (i ≤ j))) H) ∨ ∃ i j, x = .str i ∧ y = .str j ∧ Q (.bl (!decide (j.cps.toList < i.cps.toList))) H
  | .gt => fun x y H Q => ∃ i j, x = .int i ∧ y = .int j ∧ Q (.bl (decide (j < i))) H
  | .ge => fun x y H Q => ∃ i j, x = .int i ∧ y = .int j ∧ Q (.bl (decide (j ≤ i))) H
  | .is => fun x y H Q => (y = .non ∧ Q (.bl (decide (x = .non))) H) ∨ rIsB x y H Q
  | .isn => fun x y H Q => (y = .non ∧ Q (.bl (!decide (x = .non))) H) ∨ rNotB x y H Q
  | .inn => fun x y H Q => (∃ (c : Nat) (z : Str), x = .str ⟨#[c]⟩ ∧ y = .str z ∧ Q (.bl (decide (c ∈ z.cps.toList))) H) ∨ rIn K false x y H Q ∨ rDIn x y H Q ∨ rInD K x y H Q
  | .nin => fun x y H Q => (∃ (c : Nat) (z : Str), x = .str ⟨#[c]⟩ ∧ y = .str z ∧ Q (.bl (!decide (c ∈ z.cps.toList))) H) ∨ rIn K true x y H Q ∨ rDNin x y H Q ∨ rNotInD K x y H Q
theorem op_cmp {X : Cx} (hu : X.A.units + 4499 < cLine) (o : Cop) : OpR X (compareOp (copOf o)) (rCmp X.K o) := by
  cases o with
  | eq => exact OpR.or op_eq (OpR.or (op_eqD (by omega)) (op_eqN (by omega)))
  | ne => exact OpR.or op_ne (OpR.or (op_neD (by omega)) (op_neN (by omega)))
  | lt => exact OpR.or op_lt (OpR.or op_lt_str (op_ltD (by omega)))
  | le => exact OpR.or op_le op_le_str
  | gt => exact op_gt
  | ge => exact op_ge
  | is => exact OpR.or op_isN op_isBl
  | isn => exact OpR.or op_notN op_notBl
  | inn => exact OpR.or op_in_sign (OpR.or op_in_seq (OpR.or (op_din (by omega)) (op_inD (by omega))))
  | nin => exact OpR.or op_notIn_sign (OpR.or op_notIn_seq (OpR.or (op_dnin (by omega)) (op_notInD (by omega))))
section
variable {G : Glob} {φ : Mp} {s s' : S} {H : Hp} {a b d : D} {x y : V} {Q : VK} {K : PySem.W.Frag} {k : Bool}
theorem flat_V (f : flat a = true) (r : Rep φ s H a x) : flatV x = true := by
  cases a <;> first | (simp only [Rep] at r; subst r; rfl) | cases f
theorem eq_V (f : flat a = true) (f' : flat b = true) (r : Rep φ s H a x) (r' : Rep φ s H b y) : eqV x y = eqD a b := by
  cases a <;> cases b <;> first | (cases f; done) | (cases f'; done) | skip
  all_goals (simp only [Rep] at r r'; subst r; subst r')
  all_goals first | rfl | (simp only [eqV, eqD]; done) | (simp only [eqV, eqD]; exact beq_str _ _)
theorem flats_V : ∀ {ds : List D} {vs : List V}, ds.all flat = true → RepL φ s H ds vs → vs.all flatV = true
  | [], vs, _, r => by
    simp only [RepL] at r
    subst r
    rfl
  | d :: ds, vs, f, r => by
    simp only [RepL] at r
    obtain ⟨v, w, rfl, r1, r2⟩ := r
    rw [List.all_cons, Bool.and_eq_true] at f ⊢
    exact ⟨flat_V f.1 r1, flats_V f.2 r2⟩
theorem any_V : ∀ {ds : List D} {vs : List V}, flat a = true → Rep φ s H a x → ds.all flat = true → RepL φ s H ds vs → (vs.any fun z => eqV z x) = ds.any fun z => eqD z a
  | [], vs, _, _, _, r => by
    simp only [RepL] at r
    subst r
    rfl
  | d :: ds, vs, fa, ra, f, r => by
    simp only [RepL] at r
    obtain ⟨v, w, rfl, r1, r2⟩ := r
    rw [List.all_cons, Bool.and_eq_true] at f
    rw [List.any_cons, List.any_cons, eq_V f.1 fa r1 ra, any_V fa ra f.2 r2]
theorem isNon_V (r : Rep φ s H a x) : decide (x = .non) = isNon a := by
  cases a <;> simp only [Rep] at r
  · subst r; rfl
  · subst r; rfl
  · subst r; rfl
  · subst r; rfl
  · obtain ⟨_, _, rfl, _⟩ := r; rfl
  · obtain ⟨_, _, rfl, _⟩ := r; rfl
  · obtain ⟨_, rfl, _⟩ := r; rfl
  · obtain ⟨_, _, rfl, _⟩ := r; rfl
theorem seq_of (hk : φ.K = K) (h : HR G φ s H) {xs : List D} (r : Rep φ s H d y) (e : cont s d = some xs) : ∃ p vs, y = .ref p ∧ (SqL K H p vs ∨ SqT K H p vs) ∧ RepL φ s H xs vs := by
  obtain ⟨p, vs, rfl, h1, h2⟩ := r.cont h e
  rw [hk] at h1
  exact ⟨p, vs, rfl, h1, h2⟩
theorem key_ok {k : DK} {a : D} {x : V} (r : Rep φ s H a x) (e : keyOf a = some k) : x = kV (kyOf k) := by
  cases a with
  | int i =>
    cases e
    simp only [Rep] at r
    exact r
  | str z =>
    cases e
    simp only [Rep] at r
    exact r
  | _ => cases e
theorem ky_inj {a b : DK} : kyOf a = kyOf b ↔ a = b := by
  cases a with
  | i i =>
    cases b with
    | i j => simp [kyOf]
    | s y => simp [kyOf]
  | s x =>
    cases b with
    | i j => simp [kyOf]
    | s y => simp [kyOf]
theorem kyT_inj {a b : List DK} : a.map kyOf = b.map kyOf ↔ a = b :=
  ⟨fun h => List.map_inj_right (fun x y z => ky_inj.mp z) |>.mp h, fun h => by rw [h]⟩
section
variable {κ κ' : Type} [DecidableEq κ] [DecidableEq κ'] {g : κ → κ'} (hg : ∀ {a b}, g a = g b ↔ a = b)
include hg
theorem look_okG : ∀ {kvs : List (κ × D)} {ks : List (κ' × V)} (k : κ), KRg g φ s H kvs ks → (match dlook kvs k with | some d => ∃ v, valV ks (g k) = some v ∧ Rep φ s H d v | none => valV ks (g k) = none)
  | [], ks, k, h => by
    simp only [KRg] at h
    subst h
    rfl
  | (f, d) :: kvs, ks, k, h => by
    obtain ⟨v, r, rfl, h1, h2⟩ := h
    have ih := look_okG k h2
    by_cases q : f = k
    · subst q
      have e1 : dlook ((f, d) :: kvs) f = some d := by simp [dlook]
      rw [e1]
      exact ⟨v, valV_pos rfl, h1⟩
    · have e1 : dlook ((f, d) :: kvs) k = dlook kvs k := by simp [dlook, q]
      have e2 : valV ((g f, v) :: r) (g k) = valV r (g k) := valV_neg (fun z => q (hg.mp z))
      rw [e1, e2]
      exact ih
theorem look_someG {kvs : List (κ × D)} {ks : List (κ' × V)} {k : κ} {d : D} (h : KRg g φ s H kvs ks) (e : dlook kvs k = some d) : ∃ v, valV ks (g k) = some v ∧ Rep φ s H d v := by
  have := look_okG hg k h
  rw [e] at this
  exact this
theorem look_isG {kvs : List (κ × D)} {ks : List (κ' × V)} (k : κ) (h : KRg g φ s H kvs ks) : (valV ks (g k)).isSome = (dlook kvs k).isSome := by
  have := look_okG hg k h
  cases e : dlook kvs k with
  | none =>
    rw [e] at this
    rw [this]
    rfl
  | some d =>
    rw [e] at this
    obtain ⟨v, h1, _⟩ := this
    rw [h1]
    rfl
end
theorem look_some {kvs : List (DK × D)} {ks : List (Key × V)} {k : DK} {d : D} (h : KR φ s H kvs ks) (e : dlook kvs k = some d) : ∃ v, valV ks (kyOf k) = some v ∧ Rep φ s H d v := look_someG ky_inj h e
theorem look_is {kvs : List (DK × D)} {ks : List (Key × V)} (k : DK) (h : KR φ s H kvs ks) : (valV ks (kyOf k)).isSome = (dlook kvs k).isSome := look_isG ky_inj k h
theorem keyTs_ok : ∀ {ds : List D} {ks : List DK} {vs : List V}, RepL φ s H ds vs → keyTs ds = some ks → vs = (ks.map kyOf).map kV
  | [], ks, vs, r, e => by
    simp only [RepL] at r
    subst r
    cases e
    rfl
  | d :: ds, ks, vs, r, e => by
    simp only [RepL] at r
    obtain ⟨v, w, rfl, r1, r2⟩ := r
    simp only [keyTs, Option.bind_eq_some_iff, Option.map_eq_some_iff] at e
    obtain ⟨k, e1, q, e2, rfl⟩ := e
    rw [key_ok r1 e1, keyTs_ok r2 e2]
    rfl
theorem keyT_ok {k : List DK} {a : D} {x : V} (r : Rep φ s H a x) (e : keyT a = some k) : ∃ b, x = .ref b ∧ H b = some (.tup ((k.map kyOf).map kV)) := by
  cases a with
  | tup ds =>
    simp only [Rep] at r
    obtain ⟨b, vs, rfl, h1, _, h2⟩ := r
    rw [keyTs_ok h2 e] at h1
    exact ⟨b, rfl, h1⟩
  | _ => cases e
theorem dit_at (h : HR G φ s H) {kvs : List (List DK × D)} {d : D} {x : V} (r : Rep φ s H d x) (e : tcont s d = some kvs) : ∃ n p ks, d = .ref n ∧ x = .ref p ∧ s.m n = some (.dit kvs) ∧ φ n = some p ∧ H p = some (.dT ks) ∧ KRT φ s H kvs ks := by
  cases d with
  | ref n =>
    simp only [tcont] at e
    split at e
    · rename_i kvs' q
      cases e
      simp only [Rep] at r
      obtain ⟨p, rfl, hp⟩ := r
      obtain ⟨b, hb, ks, h1, h2⟩ := h.ob n _ q
      rw [hp] at hb
      cases hb
      exact ⟨n, p, ks, rfl, rfl, q, hp, h1, h2⟩
    · cases e
  | _ => cases e
theorem dic_at (h : HR G φ s H) {kvs : List (DK × D)} {d : D} {x : V} (r : Rep φ s H d x) (e : dcont s d = some kvs) : ∃ n p ks, d = .ref n ∧ x = .ref p ∧ s.m n = some (.dic kvs) ∧ φ n = some p ∧ H p = some (.dK ks) ∧ KR φ s H kvs ks := by
  cases d with
  | ref n =>
    simp only [dcont] at e
    split at e
    · rename_i kvs' q
      cases e
      simp only [Rep] at r
      obtain ⟨p, rfl, hp⟩ := r
      obtain ⟨b, hb, ks, h1, h2⟩ := h.ob n _ q
      rw [hp] at hb
      cases hb
      exact ⟨n, p, ks, rfl, rfl, q, hp, h1, h2⟩
    · cases e
  | _ => cases e
theorem anyD_eq {a : D} {j : Nat} (ha : shp j a = true) : ∀ (zs : List D) {k : Nat}, shpL k zs = true → ((toPDs zs).any fun z => PyData.eqv z (toPD a)) = zs.any fun z => eqD z a
  | [], _, _ => by simp only [toPDs, List.any_nil]
  | z :: zs, k, h => by
    simp only [shpL, Bool.and_eq_true] at h
    simp only [toPDs, List.any_cons, eqv_eq z a h.1 ha, anyD_eq ha zs h.2]
theorem deep_of {zs : List D} (hkk : φ.K = K) (h : HR G φ s H) (ra : Rep φ s H a x) (rb : Rep φ s H b y) (hz : opnD s 20 b = .lst zs) (h1 : shp 60 (opnD s 20 a) = true) (h2 : shp 60 (.lst zs) = true) :
    Dp K H x (toPD (opnD s 20 a)) ∧ Dp K H y (.list (toPDs zs)) ∧ SeqAt.shaped (toPD (opnD s 20 a)) = true ∧ SeqAt.shaped (.list (toPDs zs)) = true ∧ shpL 59 zs = true := by
  have e1 := opnD_dp hkk h 20 b (j := 60) (v := y) (by rw [hz]; exact h2) rb
  rw [hz] at e1
  have e2 := shp_sh h2
  simp only [toPD] at e1 e2
  exact ⟨opnD_dp hkk h 20 a h1 ra, e1, shp_sh h1, e2, by simpa only [shp] using h2⟩
theorem inD_ok (hkk : φ.K = K) (h : HR G φ s H) (ra : Rep φ s H a x) (rb : Rep φ s H b y) (e : inD s a b = some k) :
    (∃ p vs, y = .ref p ∧ (SqL K H p vs ∨ SqT K H p vs) ∧ flatV x = true ∧ vs.all flatV = true ∧ (vs.any fun z => eqV z x) = k) ∨
    ∃ d ds, Dp K H x d ∧ Dp K H y (.list ds) ∧ SeqAt.shaped d = true ∧ SeqAt.shaped (.list ds) = true ∧ (ds.any fun z => PyData.eqv z d) = k := by
  unfold inD at e
  cases hc : cont s b with
  | none =>
    rw [hc] at e
    cases e
  | some xs =>
    rw [hc] at e
    simp only [Option.bind_some] at e
    split at e
    · rename_i hf
      rw [Bool.and_eq_true] at hf
      cases e
      obtain ⟨p, vs, rfl, h1, h2⟩ := seq_of hkk h rb hc
      exact .inl ⟨p, vs, rfl, h1, flat_V hf.1 ra, flats_V hf.2 h2, any_V hf.1 ra hf.2 h2⟩
    · split at e
      · rename_i zs hz
        split at e
        · rename_i hs
          rw [Bool.and_eq_true] at hs
          cases e
          obtain ⟨d1, d2, d3, d4, d5⟩ := deep_of hkk h ra rb hz hs.1 hs.2
          exact .inr ⟨_, _, d1, d2, d3, d4, anyD_eq hs.1 zs d5⟩
        · cases e
      · cases e
theorem cmp_ok {o : Cop} (hkk : φ.K = K) (h : HR G φ s H) (ra : Rep φ s H a x) (rb : Rep φ s H b y) (e : cmpD s o a b = some k) (q : Q (.bl k) H) : rCmp K o x y H Q := by
  unfold cmpD at e
  split at e
  · -- eq
    rcases eqS_ok hkk h ra rb e with ⟨h1, h2⟩ | ⟨d1, d2, h1, h2, h3, h4, h5⟩ | ⟨h1, h2⟩
    · exact .inl ⟨h1, by rw [h2]; exact q⟩
    · exact .inr (.inl ⟨d1, d2, h1, h2, h3, h4, by rw [h5]; exact q⟩)
    · subst h2
      exact .inr (.inr ⟨h1, q⟩)
  · -- ne
    cases hk : eqS s a b with
    | none =>
      rw [hk] at e
      cases e
    | some j =>
      rw [hk] at e
      cases e
      rcases eqS_ok hkk h ra rb hk with ⟨h1, h2⟩ | ⟨d1, d2, h1, h2, h3, h4, h5⟩ | ⟨h1, h2⟩
      · exact .inl ⟨h1, by rw [h2]; exact q⟩
      · exact .inr (.inl ⟨d1, d2, h1, h2, h3, h4, by rw [h5]; exact q⟩)
      · subst h2
        exact .inr (.inr ⟨h1, q⟩)
  · simp only [Rep] at ra rb; subst ra rb; cases e; exact .inl ⟨_, _, rfl, rfl, q⟩
  · simp only [Rep] at ra rb; subst ra rb; cases e; exact .inl ⟨_, _, rfl, rfl, q⟩
  · simp only [Rep] at ra rb; subst ra rb; cases e; exact ⟨_, _, rfl, rfl, q⟩
  · simp only [Rep] at ra rb; subst ra rb; cases e; exact ⟨_, _, rfl, rfl, q⟩
  · simp only [Rep] at ra rb; subst ra rb; cases e; exact .inr (.inl ⟨_, _, rfl, rfl, by rw [str_cps, str_cps]; exact q⟩)
  · simp only [Rep] at ra rb; subst ra rb; cases e; exact .inr ⟨_, _, rfl, rfl, by rw [str_cps, str_cps]; exact q⟩
  · exact .inr (.inr (ltS_ok hkk h ra rb e q))
  · -- is None
    have rb' : y = .non := by simpa only [Rep] using rb
    cases e
    exact .inl ⟨rb', by rw [isNon_V ra]; exact q⟩
  · have rb' : y = .non := by simpa only [Rep] using rb
    cases e
    exact .inl ⟨rb', by rw [isNon_V ra]; exact q⟩
  · rename_i i j
    simp only [Rep] at ra rb; subst ra rb; cases e
    exact .inr ⟨i, j, rfl, rfl, by rw [show decide (i = j) = (i == j) by cases i <;> cases j <;> rfl]; exact q⟩
  · rename_i i j
    simp only [Rep] at ra rb; subst ra rb; cases e
    exact .inr ⟨i, j, rfl, rfl, by rw [show decide (i = j) = (i == j) by cases i <;> cases j <;> rfl]; exact q⟩
  · simp only [Rep] at ra rb; subst ra rb; cases e
    exact .inl ⟨_, _, rfl, rfl, by rw [str_cps]; exact q⟩
  · simp only [Rep] at ra rb; subst ra rb; cases e
    exact .inl ⟨_, _, rfl, rfl, by rw [str_cps]; exact q⟩
  · -- in
    split at e
    · rename_i kvs hd
      cases hk : keyOf a with
      | none =>
        rw [hk] at e
        cases e
      | some kk =>
        rw [hk] at e
        cases e
        obtain ⟨n, p, ks, rfl, rfl, h0, h1, h2, h3⟩ := dic_at h rb hd
        have := key_ok ra hk
        subst this
        refine .inr (.inr (.inl ⟨p, _, rfl, DGet.k h2, ?_⟩))
        rw [look_is kk h3]
        exact q
    · split at e
      · rename_i kvs hd
        cases hk : keyT a with
        | none =>
          rw [hk] at e
          cases e
        | some kk =>
          rw [hk] at e
          cases e
          obtain ⟨n, p, ks, rfl, rfl, h0, h1, h2, h3⟩ := dit_at h rb hd
          obtain ⟨c, rfl, h4⟩ := keyT_ok ra hk
          refine .inr (.inr (.inl ⟨p, _, rfl, DGet.t h2 h4, ?_⟩))
          rw [look_isG kyT_inj kk h3]
          exact q
      · rcases inD_ok hkk h ra rb e with ⟨p, vs, rfl, h1, h2, h3, h4⟩ | ⟨d1, ds, h1, h2, h3, h4, h5⟩
        · refine .inr (.inl ⟨p, vs, rfl, h1, h2, h3, ?_⟩)
          show Q (.bl (vs.any fun z => eqV z x)) H
          rw [h4]
          exact q
        · exact .inr (.inr (.inr ⟨d1, ds, h1, h2, h3, h4, by rw [h5]; exact q⟩))
  · split at e
    · rename_i kvs hd
      cases hk : keyOf a with
      | none =>
        rw [hk] at e
        cases e
      | some kk =>
        rw [hk] at e
        cases e
        obtain ⟨n, p, ks, rfl, rfl, h0, h1, h2, h3⟩ := dic_at h rb hd
        have := key_ok ra hk
        subst this
        refine .inr (.inr (.inl ⟨p, _, rfl, DGet.k h2, ?_⟩))
        rw [look_is kk h3]
        exact q
    · split at e
      · rename_i kvs hd
        cases hk : keyT a with
        | none =>
          rw [hk] at e
          cases e
        | some kk =>
          rw [hk] at e
          cases e
          obtain ⟨n, p, ks, rfl, rfl, h0, h1, h2, h3⟩ := dit_at h rb hd
          obtain ⟨c, rfl, h4⟩ := keyT_ok ra hk
          refine .inr (.inr (.inl ⟨p, _, rfl, DGet.t h2 h4, ?_⟩))
          rw [look_isG kyT_inj kk h3]
          exact q
      · cases hi : inD s a b with
        | none =>
          rw [hi] at e
          cases e
        | some j =>
          rw [hi] at e
          cases e
          rcases inD_ok hkk h ra rb hi with ⟨p, vs, rfl, h1, h2, h3, h4⟩ | ⟨d1, ds, h1, h2, h3, h4, h5⟩
          · refine .inr (.inl ⟨p, vs, rfl, h1, h2, h3, ?_⟩)
            show Q (.bl (!vs.any fun z => eqV z x)) H
            rw [h4]
            exact q
          · exact .inr (.inr (.inr ⟨d1, ds, h1, h2, h3, h4, by rw [h5]; exact q⟩))
  · cases e
theorem truth_ok (hkk : φ.K = K) (h : HR G φ s H) (r : Rep φ s H a x) (e : truth s a = some k) : TruV K x H k := by
  cases a with
  | bl b => simp only [Rep] at r; subst r; cases e; exact rfl
  | non => simp only [Rep] at r; subst r; cases e; exact rfl
  | int i => simp only [Rep] at r; subst r; cases e; exact rfl
  | str z =>
    simp only [Rep] at r
    subst r
    have e' : (if z.length ≤ LIM then some (z.length != 0) else none) = some k := e
    split at e'
    · rename_i hz
      cases e'
      refine ⟨by rw [str_len, ← LIM_eq]; exact hz, ?_⟩
      rw [str_len, Bool.eq_iff_iff]
      simp
    · cases e'
  | tup xs =>
    simp only [Rep] at r
    obtain ⟨p, vs, rfl, h1, _, l⟩ := r
    cases e
    refine .inr (.inl ⟨vs, SqT.of h1, ?_⟩)
    have := l.length
    cases xs <;> cases vs <;> first | rfl | (simp at this)
  | lst xs =>
    cases hc : lcont s (.lst xs) with
    | none => cases hc
    | some ys =>
      obtain ⟨p, vs, rfl, h1, l⟩ := r.lcont h hc
      have e' : (lcont s (.lst xs)).map (fun xs => !xs.isEmpty) = some k := e
      rw [hc] at e'
      cases e'
      refine .inl ⟨vs, by rw [← hkk]; exact h1, ?_⟩
      have := l.length
      cases ys <;> cases vs <;> first | rfl | (simp at this)
  | scr xs =>
    cases hc : lcont s (.scr xs) with
    | none => cases hc
    | some ys =>
      obtain ⟨p, vs, rfl, h1, l⟩ := r.lcont h hc
      have e' : (lcont s (.scr xs)).map (fun xs => !xs.isEmpty) = some k := e
      rw [hc] at e'
      cases e'
      refine .inl ⟨vs, by rw [← hkk]; exact h1, ?_⟩
      have := l.length
      cases ys <;> cases vs <;> first | rfl | (simp at this)
  | ref n =>
    have e' : (lcont s (.ref n)).map (fun xs => !xs.isEmpty) = some k := e
    cases hc : lcont s (.ref n) with
    | none =>
      rw [hc] at e'
      cases e'
    | some ys =>
      obtain ⟨p, vs, rfl, h1, l⟩ := r.lcont h hc
      rw [hc] at e'
      cases e'
      refine .inl ⟨vs, by rw [← hkk]; exact h1, ?_⟩
      have := l.length
      cases ys <;> cases vs <;> first | rfl | (simp at this)
theorem at_rep {ds : List D} {vs : List V} {i : Int} (l : RepL φ s H ds vs) (e : atI ds i = some d) : ∃ v, L2.atI vs i = some v ∧ Rep φ s H d v := by
  unfold atI at e
  cases hi : ixN ds.length i with
  | none =>
    rw [hi] at e
    cases e
  | some j =>
    rw [hi] at e
    obtain ⟨v, h1, h2⟩ := l.get (show ds[j]? = some d from e)
    refine ⟨v, ?_, h2⟩
    unfold L2.atI
    rw [l.length]
    rw [show L2.ixN ds.length i = some j from hi]
    exact h1
theorem idx_ok (hkk : φ.K = K) (h : HR G φ s H) (ra : Rep φ s H a x) (rb : Rep φ s H b y) (e : idxL s a b = some d) (p : Post G φ s H s d Q) : rIxL K x y H Q ∨ rIxT K x y H Q ∨ rIxS x y H Q := by
  unfold idxL at e
  split at e
  · rename_i i
    simp only [Rep] at rb
    subst rb
    split at e
    · rename_i z
      simp only [Rep] at ra
      subst ra
      split at e
      · rename_i hz
        cases hc : atI z i with
        | none =>
          rw [hc] at e
          cases e
        | some c =>
          rw [hc] at e
          cases e
          refine .inr (.inr ⟨_, i, c, rfl, rfl, by rw [str_len, ← LIM_eq]; exact hz, by rw [str_cps]; exact hc, p.here h ?_⟩)
          simp only [Rep]
          all_goals rfl
      · cases e
    · rename_i a'
      cases hc : cont s a with
      | none =>
        rw [hc] at e
        cases e
      | some xs =>
        rw [hc] at e
        obtain ⟨q, vs, rfl, h1, h2⟩ := seq_of hkk h ra hc
        obtain ⟨v, hv, rv⟩ := at_rep h2 (show atI xs i = some d from e)
        rcases h1 with h1 | h1
        · exact .inl ⟨q, vs, i, v, rfl, rfl, h1, hv, p.here h rv⟩
        · exact .inr (.inl ⟨q, vs, i, v, rfl, rfl, h1, hv, p.here h rv⟩)
  · cases e
end
end Fl
namespace Fl
open PySem L2
section
variable {G : Glob} {φ : Mp} {s s' : S} {H : Hp} {a b d : D} {x y : V} {Q : VK} {K : PySem.W.Frag} {k : Bool}
def rSlAll (K : PySem.W.Frag) : V → Option Int → Option Int → Hp → VK → Prop := fun x lo hi H Q => (rSlS x lo hi H Q ∨ rSlA K x lo hi H Q) ∨ rSlL K x lo hi H Q
theorem sl_all {X : Cx} : SlR X (rSlAll X.K) := SlR.or (SlR.or sl_str sl_tupA) sl_list
def slD (s : S) (bx : Bool) (x : D) (l h : Option Int) : R D := match x with
  | .str z => if z.length ≤ LIM then some (.ok (.str (cut z l h)), s) else none
  | .tup zs => some (.ok (.tup (cut zs l h)), s)
  | x => match lcont s x with
    | some zs => mkL bx (cut zs l h) s
    | none => none
theorem cut_whole {α : Type} {xs : List α} {lo hi : Option Int} (h : sIx xs.length 0 lo = 0 ∧ sIx xs.length xs.length hi = xs.length) : cut xs lo hi = xs := by
  unfold cut
  rw [h.1, h.2]
  simp
theorem sl_lst {bx : Bool} {l u : Option Int} {zs : List D} (hkk : φ.K = K) (h : HR G φ s H) (ra : Rep φ s H a x) (hc : lcont s a = some zs) (e : mkL bx (cut zs l u) s = some (.ok d, s')) (p : Post G φ s H s' d Q) : rSlAll K x l u H Q := by
  obtain ⟨q, vs, rfl, h1, h2⟩ := ra.lcont h hc
  exact .inr ⟨q, vs, rfl, by rw [← hkk]; exact h1, p.lst h e (h2.cut l u)⟩
theorem sl_ok {bx : Bool} {l u : Option Int} (hkk : φ.K = K) (h : HR G φ s H) (ra : Rep φ s H a x) (e : slD s bx a l u = some (.ok d, s')) (p : Post G φ s H s' d Q) : rSlAll K x l u H Q := by
  unfold slD at e
  split at e
  · split at e
    · rename_i z hz
      cases e
      simp only [Rep] at ra
      subst ra
      refine .inl (.inl ⟨_, rfl, by rw [str_len, ← LIM_eq]; exact hz, p.here h ?_⟩)
      rw [cutS_eq]
      simp only [Rep]
    · cases e
  · rename_i zs
    cases e
    simp only [Rep] at ra
    obtain ⟨q, vs, rfl, h1, dd, h2⟩ := ra
    refine .inl (.inr ⟨q, vs, rfl, SqT.of h1, fun hw => p.here h ?_, fun _ => p.tup h (h2.cut l u)⟩)
    have hw' : sIx zs.length 0 l = 0 ∧ sIx zs.length zs.length u = zs.length := by
      rw [h2.length] at hw
      exact hw
    rw [cut_whole hw']
    simp only [Rep]
    exact ⟨q, vs, rfl, h1, dd, h2⟩
  · split at e
    · rename_i zs hc
      exact sl_lst hkk h ra hc e p
    · cases e
def rLen (K : PySem.W.Frag) : List V → Hp → VK → Prop := fun xs H Q => ∃ x n, xs = [x] ∧ LenV K x H n ∧ Q (.int n) H
theorem KRg.length {κ κ' : Type} {g : κ → κ'} : ∀ {kvs : List (κ × D)} {ks : List (κ' × V)}, KRg g φ s H kvs ks → ks.length = kvs.length
  | [], ks, h => by
    simp only [KRg] at h
    subst h
    rfl
  | (f, d) :: kvs, ks, h => by
    obtain ⟨v, r, rfl, h1, h2⟩ := h
    simp [h2.length]
def rLenD : List V → Hp → VK → Prop := fun xs H Q => ∃ a kvs, xs = [V.ref a] ∧ H a = some (.dK kvs) ∧ Q (.int kvs.length) H
theorem len_ok {ds : List D} {vs : List V} (hkk : φ.K = K) (h : HR G φ s H) (r : RepL φ s H ds vs) (e : lenD s ds = some (.ok d, s')) (p : Post G φ s H s' d Q) : rLen K vs H Q ∨ rLenD vs H Q := by
  unfold lenD at e
  split at e <;> first | (cases e; done) | skip
  · rename_i z
    split at e
    · rename_i hz
      cases e
      simp only [RepL] at r
      obtain ⟨v, w, rfl, r1, rfl⟩ := r
      simp only [Rep] at r1
      subst r1
      refine .inl ⟨_, z.length, rfl, ⟨by rw [str_len, ← LIM_eq]; exact hz, by rw [str_len]⟩, p.here h ?_⟩
      simp only [Rep]
    · cases e
  · rename_i d' _
    simp only [RepL] at r
    obtain ⟨v, w, rfl, r1, rfl⟩ := r
    split at e
    · rename_i kvs hd
      cases e
      obtain ⟨n, q, ks, rfl, rfl, h0, h1, h2, h3⟩ := dic_at h r1 hd
      exact .inr ⟨q, ks, rfl, h2, p.here h (by simp only [Rep]; rw [h3.length])⟩
    · obtain ⟨e, rfl⟩ := lft_inv e
      cases hc : cont s' d' with
      | none =>
        rw [hc] at e
        cases e
      | some xs =>
        rw [hc] at e
        cases e
        obtain ⟨q, vs, rfl, h1, h2⟩ := seq_of hkk h r1 hc
        refine .inl ⟨_, vs.length, rfl, ?_, p.here h (by simp only [Rep]; rw [h2.length])⟩
        rcases h1 with h1 | h1
        · exact .inl ⟨vs, h1, rfl⟩
        · exact .inr ⟨vs, h1, rfl⟩
theorem RepL.one_inv {ds : List D} {v : V} {vs : List V} (r : RepL φ s H [d] vs) : ∃ v, vs = [v] ∧ Rep φ s H d v := by
  simp only [RepL] at r
  obtain ⟨v, w, rfl, r1, rfl⟩ := r
  exact ⟨v, rfl, r1⟩
theorem RepL.two_inv {vs : List V} (r : RepL φ s H [a, b] vs) : ∃ v w, vs = [v, w] ∧ Rep φ s H a v ∧ Rep φ s H b w := by
  simp only [RepL] at r
  obtain ⟨v, _, rfl, r1, w, _, rfl, r2, rfl⟩ := r
  exact ⟨v, w, rfl, r1, r2⟩
def rInt1 : List V → Hp → VK → Prop := fun xs H Q => (∃ i, xs = [.int i] ∧ Q (.int i) H) ∨ ∃ k, xs = [.bl k] ∧ Q (.int (if k then 1 else 0)) H
theorem int_ok {ds : List D} {vs : List V} (h : HR G φ s H) (r : RepL φ s H ds vs) (e : intD s ds = some (.ok d, s')) (p : Post G φ s H s' d Q) : rInt1 vs H Q := by
  unfold intD at e
  split at e <;> first | (cases e; done) | skip
  · cases e
    simp only [RepL] at r
    obtain ⟨v, w, rfl, r1, rfl⟩ := r
    simp only [Rep] at r1
    subst r1
    exact .inl ⟨_, rfl, p.here h (by simp only [Rep])⟩
  · cases e
    simp only [RepL] at r
    obtain ⟨v, w, rfl, r1, rfl⟩ := r
    simp only [Rep] at r1
    subst r1
    exact .inr ⟨_, rfl, p.here h (by simp only [Rep])⟩
def rListOf (K : PySem.W.Frag) : List V → Hp → VK → Prop := fun xs H Q => ∃ p ys, xs = [.ref p] ∧ (SqL K H p ys ∨ SqT K H p ys) ∧ ∀ l, H l = none → Q (.ref l) (upd H l (.lst ys))
/-- list(x), tuple(x) of a text -/
def sgV (x : Str) : List V := x.cps.toList.map fun c => V.str ⟨#[c]⟩
theorem sgn_vals {x : Str} {acc : Array Value} (h : ItemsOf (SignAt x) acc x.cps.size) : Vals (sgV x) acc.toList := by
  have hl : (sgV x).length = acc.toList.length := by
    unfold sgV
    rw [List.length_map, Array.length_toList, Array.length_toList, h.1]
  have go : ∀ (vs : List V) (us : List Value), vs.length = us.length → (∀ (j : Nat) (v : V) (u : Value), vs[j]? = some v → us[j]? = some u → RelV v u) → Vals vs us := by
    intro vs
    induction vs with
    | nil =>
      intro us h1 _
      cases us with
      | nil => exact .nil
      | cons _ _ => cases h1
    | cons v vs ih =>
      intro us h1 h2
      cases us with
      | nil => cases h1
      | cons u us => exact .cons (h2 0 v u rfl rfl) (ih us (by simpa using h1) fun j a b e1 e2 => h2 (j + 1) a b e1 e2)
  refine go _ _ hl fun j v u h1 h2 => ?_
  unfold sgV at h1
  rw [List.getElem?_map, Option.map_eq_some_iff] at h1
  obtain ⟨c, hc, rfl⟩ := h1
  obtain ⟨c', t, e1, rfl⟩ := h.2 j u (by rw [← Array.getElem?_toList]; exact h2)
  rw [Array.getElem?_toList, e1] at hc
  cases hc
  exact ⟨t, rfl⟩
def rListStr : List V → Hp → VK → Prop := fun xs H Q => ∃ x : Str, xs = [.str x] ∧ x.cps.size ≤ sizeLine ∧ ∀ l, H l = none → Q (.ref l) (upd H l (.lst (sgV x)))
theorem call_listStr {X : Cx} (hc : X.calm = true) : CallR X (.type "list") rListStr := by
  intro pins s σ H xs us Q I r h
  obtain ⟨x, rfl, hz, q⟩ := h
  obtain ⟨u, rfl, t, rfl⟩ := vals1 r
  refine call_list_str (I.ok.hd hc) x t (hn := hz) fun h2 tk acc c2 hk hD hacc => ?_
  have hv := sgn_vals hacc
  have hl : (sgV x).length ≤ sizeLine := by
    unfold sgV
    rw [List.length_map, Array.length_toList]
    exact hz
  exact ⟨.ref s.heap.objs.size, upd H s.heap.objs.size (.lst (sgV x)), I.laid (t' := tk) hk (Nat.le_refl _) (show ObjOk X.prog X.w _ _ _ (.lst (sgV x)) from ⟨hl, acc.toList, c2, hv, by rw [Array.toArray_toList]; exact hD⟩), rfl, q _ (I.hok.fresh (Nat.le_refl _))⟩
def rTupStr : List V → Hp → VK → Prop := fun xs H Q => ∃ x : Str, xs = [.str x] ∧ x.cps.size ≤ sizeLine ∧ ∀ l, H l = none → Q (.ref l) (upd H l (.tup (sgV x)))
theorem call_tupStr {X : Cx} (hc : X.calm = true) : CallR X (.type "tuple") rTupStr := by
  intro pins s σ H xs us Q I r h
  obtain ⟨x, rfl, hz, q⟩ := h
  obtain ⟨u, rfl, t, rfl⟩ := vals1 r
  refine call_tuple_str (I.ok.hd hc) x t (fun h2 tk acc hk hacc => ?_) hz
  have hv := sgn_vals hacc
  have hl : (sgV x).length ≤ sizeLine := by
    unfold sgV
    rw [List.length_map, Array.length_toList]
    exact hz
  have I1 : Inv X pins σ H { s with heap := h2 } := I.kept (t' := s.toks) hk
  have I2 : Inv X pins σ (upd H h2.objs.size (.tup (sgV x))) { s with heap := h2.push { cls := .type "tuple", data := .seq acc }, toks := tk } := I1.laid (t' := tk) (fun b o e => Heap.get?_push_of_some _ e) (Nat.le_refl _) (show ObjOk X.prog X.w _ _ _ (.tup (sgV x)) from ⟨hl, acc.toList, hv, by rw [Array.toArray_toList]; exact PyProof.Rows.IsTup.new _ _⟩)
  exact ⟨.ref h2.objs.size, _, I2, rfl, q _ (I1.hok.fresh (Nat.le_refl _))⟩
theorem sg_rep : ∀ (x : List Nat), RepL φ s H (x.map fun c => D.str [c]) (x.map fun c => V.str ⟨#[c]⟩)
  | [] => by simp only [List.map_nil, RepL]
  | c :: x => by
    simp only [List.map_cons, RepL]
    exact ⟨_, _, rfl, by simp only [Rep], sg_rep x⟩
theorem list_ok {bx : Bool} {ds : List D} {vs : List V} (hkk : φ.K = K) (h : HR G φ s H) (r : RepL φ s H ds vs) (e : listD s bx ds = some (.ok d, s')) (p : Post G φ s H s' d Q) : rListOf K vs H Q ∨ rListStr vs H Q := by
  unfold listD at e
  split at e <;> first | (cases e; done) | skip
  · rename_i x
    split at e
    · rename_i hz
      simp only [RepL, Rep] at r
      obtain ⟨v, w, rfl, rfl, rfl⟩ := r
      exact .inr ⟨_, rfl, by rw [List.size_toArray, ← LIM_eq]; exact hz, p.lst h e (sg_rep x)⟩
    · cases e
  · refine .inl ?_
    split at e
    · rename_i xs hc
      simp only [RepL] at r
      obtain ⟨v, w, rfl, r1, rfl⟩ := r
      obtain ⟨q, ws, rfl, h1, h2⟩ := seq_of hkk h r1 hc
      exact ⟨q, ws, rfl, h1, p.lst h e h2⟩
    · cases e
def rTupOf (K : PySem.W.Frag) : List V → Hp → VK → Prop := fun xs H Q => ∃ p ys, xs = [.ref p] ∧ ((SqL K H p ys ∧ ∀ l, H l = none → Q (.ref l) (upd H l (.tup ys))) ∨ (SqT K H p ys ∧ Q (.ref p) H))
theorem tuple_ok {ds : List D} {vs : List V} (hkk : φ.K = K) (h : HR G φ s H) (r : RepL φ s H ds vs) (e : tupleD s ds = some (.ok d, s')) (p : Post G φ s H s' d Q) : rTupOf K vs H Q ∨ rTupStr vs H Q := by
  unfold tupleD at e
  split at e <;> first | (cases e; done) | skip
  · cases e
    refine .inl ?_
    simp only [RepL] at r
    obtain ⟨v, w, rfl, r1, rfl⟩ := r
    have r2 := r1
    simp only [Rep] at r2
    obtain ⟨q, vs, rfl, h1, dd, h2⟩ := r2
    exact ⟨q, vs, rfl, .inr ⟨SqT.of h1, p.here h r1⟩⟩
  · rename_i x
    split at e
    · rename_i hz
      cases e
      simp only [RepL, Rep] at r
      obtain ⟨v, w, rfl, rfl, rfl⟩ := r
      exact .inr ⟨_, rfl, by rw [List.size_toArray, ← LIM_eq]; exact hz, p.tup h (sg_rep x)⟩
    · cases e
  · rename_i d' _ _
    refine .inl ?_
    simp only [RepL] at r
    obtain ⟨v, w, rfl, r1, rfl⟩ := r
    obtain ⟨e, rfl⟩ := lft_inv e
    cases hc : lcont s' d' with
    | none =>
      rw [hc] at e
      cases e
    | some xs =>
      rw [hc] at e
      cases e
      obtain ⟨q, vs, rfl, h1, h2⟩ := r1.lcont h hc
      exact ⟨q, vs, rfl, .inl ⟨by rw [← hkk]; exact h1, p.tup h h2⟩⟩
theorem min_ok {ds : List D} {vs : List V} (h : HR G φ s H) (r : RepL φ s H ds vs) (e : minD s ds = some (.ok d, s')) (p : Post G φ s H s' d Q) : ∃ i j, vs = [.int i, .int j] ∧ Q (.int (if j < i then j else i)) H := by
  unfold minD at e
  split at e <;> first | (cases e; done) | skip
  · cases e
    obtain ⟨v, w, rfl, r1, r2⟩ := r.two_inv
    simp only [Rep] at r1 r2
    subst r1 r2
    exact ⟨_, _, rfl, p.here h (by simp only [Rep])⟩
theorem max_ok {ds : List D} {vs : List V} (h : HR G φ s H) (r : RepL φ s H ds vs) (e : maxD s ds = some (.ok d, s')) (p : Post G φ s H s' d Q) : ∃ i j, vs = [.int i, .int j] ∧ Q (.int (if j > i then j else i)) H := by
  unfold maxD at e
  split at e <;> first | (cases e; done) | skip
  · cases e
    obtain ⟨v, w, rfl, r1, r2⟩ := r.two_inv
    simp only [Rep] at r1 r2
    subst r1 r2
    exact ⟨_, _, rfl, p.here h (by simp only [Rep])⟩
theorem abs_ok {ds : List D} {vs : List V} (h : HR G φ s H) (r : RepL φ s H ds vs) (e : absD s ds = some (.ok d, s')) (p : Post G φ s H s' d Q) : ∃ i, vs = [.int i] ∧ Q (.int (if i < 0 then -i else i)) H := by
  unfold absD at e
  split at e <;> first | (cases e; done) | skip
  · cases e
    simp only [RepL] at r
    obtain ⟨v, w, rfl, r1, rfl⟩ := r
    simp only [Rep] at r1
    subst r1
    exact ⟨_, rfl, p.here h (by simp only [Rep])⟩
def tyS : Ty → String
  | .int => "int" | .str => "str" | .bool => "bool" | .tuple => "tuple" | .list => "list" | .dict => "dict"
theorem ty_ok (hkk : φ.K = K) (h : HR G φ s H) (r : Rep φ s H a x) {u : Ty} (e : tyOf s a = some u) : TyX K H x (.type (tyS u)) := by
  cases a with
  | non => cases e
  | bl _ => simp only [Rep] at r; subst r; cases e; exact .base (.bl _)
  | int _ => simp only [Rep] at r; subst r; cases e; exact .base (.int _)
  | str _ => simp only [Rep] at r; subst r; cases e; exact .base (.str _)
  | tup _ =>
    simp only [Rep] at r
    obtain ⟨_, _, rfl, h1, _⟩ := r
    cases e
    exact .base (.tup h1)
  | lst _ =>
    simp only [Rep] at r
    obtain ⟨_, _, rfl, h1, _⟩ := r
    cases e
    exact .base (.lst h1)
  | scr _ =>
    simp only [Rep] at r
    obtain ⟨_, _, rfl, h1, _⟩ := r
    cases e
    rcases h1 with ⟨h1 | ⟨o, h1⟩, _⟩ | ⟨o, its, n, h1, h2, _⟩
    · exact .base (.lst h1)
    · exact .base (.frz h1)
    · exact .kList (by rw [← hkk]; exact h1) h2
  | ref n =>
    simp only [tyOf] at e
    split at e
    · rename_i xs q
      cases e
      simp only [Rep] at r
      obtain ⟨p, rfl, hp⟩ := r
      obtain ⟨b, hb, vs, h1, h2⟩ := h.ob n _ q
      rw [hp] at hb
      cases hb
      exact .base (.lst h1)
    · rename_i xs q
      cases e
      simp only [Rep] at r
      obtain ⟨p, rfl, hp⟩ := r
      obtain ⟨b, hb, vs, h1, h2⟩ := h.ob n _ q
      rw [hp] at hb
      cases hb
      exact .base (.dK h1)
    · rename_i xs q
      cases e
      simp only [Rep] at r
      obtain ⟨p, rfl, hp⟩ := r
      obtain ⟨b, hb, vs, h1, h2⟩ := h.ob n _ q
      rw [hp] at hb
      cases hb
      exact .base (.dT h1)
    · cases e
theorem kit_int_int : kitB "int" "int" = some true := by decide +kernel
theorem kit_int_str : kitB "int" "str" = some false := by decide +kernel
theorem kit_int_bool : kitB "int" "bool" = some false := by decide +kernel
theorem kit_int_tuple : kitB "int" "tuple" = some false := by decide +kernel
theorem kit_int_list : kitB "int" "list" = some false := by decide +kernel
theorem kit_int_dict : kitB "int" "dict" = some false := by decide +kernel
theorem kit_str_int : kitB "str" "int" = some false := by decide +kernel
theorem kit_str_str : kitB "str" "str" = some true := by decide +kernel
theorem kit_str_bool : kitB "str" "bool" = some false := by decide +kernel
theorem kit_str_tuple : kitB "str" "tuple" = some false := by decide +kernel
theorem kit_str_list : kitB "str" "list" = some false := by decide +kernel
theorem kit_str_dict : kitB "str" "dict" = some false := by decide +kernel
theorem kit_bool_int : kitB "bool" "int" = some true := by decide +kernel
theorem kit_bool_str : kitB "bool" "str" = some false := by decide +kernel
theorem kit_bool_bool : kitB "bool" "bool" = some true := by decide +kernel
theorem kit_bool_tuple : kitB "bool" "tuple" = some false := by decide +kernel
theorem kit_bool_list : kitB "bool" "list" = some false := by decide +kernel
theorem kit_bool_dict : kitB "bool" "dict" = some false := by decide +kernel
theorem kit_tuple_int : kitB "tuple" "int" = some false := by decide +kernel
theorem kit_tuple_str : kitB "tuple" "str" = some false := by decide +kernel
theorem kit_tuple_bool : kitB "tuple" "bool" = some false := by decide +kernel
theorem kit_tuple_tuple : kitB "tuple" "tuple" = some true := by decide +kernel
theorem kit_tuple_list : kitB "tuple" "list" = some false := by decide +kernel
theorem kit_tuple_dict : kitB "tuple" "dict" = some false := by decide +kernel
theorem kit_list_int : kitB "list" "int" = some false := by decide +kernel
theorem kit_list_str : kitB "list" "str" = some false := by decide +kernel
theorem kit_list_bool : kitB "list" "bool" = some false := by decide +kernel
theorem kit_list_tuple : kitB "list" "tuple" = some false := by decide +kernel
theorem kit_list_list : kitB "list" "list" = some true := by decide +kernel
theorem kit_list_dict : kitB "list" "dict" = some false := by decide +kernel
theorem kit_dict_int : kitB "dict" "int" = some false := by decide +kernel
theorem kit_dict_str : kitB "dict" "str" = some false := by decide +kernel
theorem kit_dict_bool : kitB "dict" "bool" = some false := by decide +kernel
theorem kit_dict_tuple : kitB "dict" "tuple" = some false := by decide +kernel
theorem kit_dict_list : kitB "dict" "list" = some false := by decide +kernel
theorem kit_dict_dict : kitB "dict" "dict" = some true := by decide +kernel
theorem kit_NoneType_int : kitB "NoneType" "int" = some false := by decide +kernel
theorem kit_NoneType_str : kitB "NoneType" "str" = some false := by decide +kernel
theorem kit_NoneType_bool : kitB "NoneType" "bool" = some false := by decide +kernel
theorem kit_NoneType_tuple : kitB "NoneType" "tuple" = some false := by decide +kernel
theorem kit_NoneType_list : kitB "NoneType" "list" = some false := by decide +kernel
theorem kit_NoneType_dict : kitB "NoneType" "dict" = some false := by decide +kernel
theorem kit_sub : ∀ (u t : Ty), kitB (tyS u) (tyS t) = some (subTy u t)
  | .int, .int => kit_int_int
  | .int, .str => kit_int_str
  | .int, .bool => kit_int_bool
  | .int, .tuple => kit_int_tuple
  | .int, .list => kit_int_list
  | .int, .dict => kit_int_dict
  | .str, .int => kit_str_int
  | .str, .str => kit_str_str
  | .str, .bool => kit_str_bool
  | .str, .tuple => kit_str_tuple
  | .str, .list => kit_str_list
  | .str, .dict => kit_str_dict
  | .bool, .int => kit_bool_int
  | .bool, .str => kit_bool_str
  | .bool, .bool => kit_bool_bool
  | .bool, .tuple => kit_bool_tuple
  | .bool, .list => kit_bool_list
  | .bool, .dict => kit_bool_dict
  | .tuple, .int => kit_tuple_int
  | .tuple, .str => kit_tuple_str
  | .tuple, .bool => kit_tuple_bool
  | .tuple, .tuple => kit_tuple_tuple
  | .tuple, .list => kit_tuple_list
  | .tuple, .dict => kit_tuple_dict
  | .list, .int => kit_list_int
  | .list, .str => kit_list_str
  | .list, .bool => kit_list_bool
  | .list, .tuple => kit_list_tuple
  | .list, .list => kit_list_list
  | .list, .dict => kit_list_dict
  | .dict, .int => kit_dict_int
  | .dict, .str => kit_dict_str
  | .dict, .bool => kit_dict_bool
  | .dict, .tuple => kit_dict_tuple
  | .dict, .list => kit_dict_list
  | .dict, .dict => kit_dict_dict
theorem kit_non : ∀ (t : Ty), kitB "NoneType" (tyS t) = some false
  | .int => kit_NoneType_int
  | .str => kit_NoneType_str
  | .bool => kit_NoneType_bool
  | .tuple => kit_NoneType_tuple
  | .list => kit_NoneType_list
  | .dict => kit_NoneType_dict
theorem isi_ok {t : Ty} (hkk : φ.K = K) (h : HR G φ s H) (r : Rep φ s H a x) (e : isiD s a t = some k) (q : Q (.bl k) H) : rIsi K [x, .ty (tyS t)] H Q := by
  by_cases hn : a = .non
  · subst hn
    simp only [Rep] at r
    subst r
    cases (show some false = some k from e)
    exact ⟨_, _, _, _, false, rfl, .ty _, .base .non, kit_ty (kit_non t), q⟩
  · have e' : (tyOf s a).map (fun u => subTy u t) = some k := by
      cases a <;> first | exact absurd rfl hn | exact e
    cases hu : tyOf s a with
    | none =>
      rw [hu] at e'
      cases e'
    | some u =>
      rw [hu] at e'
      cases e'
      exact ⟨_, _, _, _, _, rfl, .ty _, ty_ok hkk h r hu, kit_ty (kit_sub u t), q⟩
theorem kit_anyT {K : PySem.W.Frag} (u : Ty) : ∀ ts : List Ty, PySem.W.kitAny K (.type (tyS u)) (ts.map fun t => Value.type (tyS t)) = some (ts.any fun t => subTy u t)
  | [] => rfl
  | t :: ts => by
    have h1 : PySem.W.kitOne K (.type (tyS u)) (.type (tyS t)) = some (subTy u t) := kit_ty (kit_sub u t)
    rw [List.map_cons]
    simp only [PySem.W.kitAny, h1, List.any_cons]
    cases subTy u t
    · simpa using kit_anyT u ts
    · rfl
theorem kit_anyN {K : PySem.W.Frag} : ∀ ts : List Ty, PySem.W.kitAny K (.type "NoneType") (ts.map fun t => Value.type (tyS t)) = some false
  | [] => rfl
  | t :: ts => by
    have h1 : PySem.W.kitOne K (.type "NoneType") (.type (tyS t)) = some false := kit_ty (kit_non t)
    rw [List.map_cons]
    simp only [PySem.W.kitAny, h1]
    exact kit_anyN ts
theorem pair_ty : ∀ ts : List Ty, Paired ClsV (ts.map fun t => V.ty (tyS t)) (ts.map fun t => Value.type (tyS t))
  | [] => .nil
  | t :: ts => .cons (.ty _) (pair_ty ts)
theorem isiT_ok {ts : List Ty} {tp : Addr} (hkk : φ.K = K) (h : HR G φ s H) (r : Rep φ s H a x) (e : isiTD s a ts = some k) (ht : H tp = some (.tup (ts.map fun t => V.ty (tyS t)))) (q : Q (.bl k) H) : rIsiT K [x, .ref tp] H Q := by
  by_cases hn : a = .non
  · subst hn
    simp only [Rep] at r
    subst r
    cases (show some false = some k from e)
    exact ⟨_, tp, _, _, _, false, rfl, ht, pair_ty ts, .base .non, kit_anyN ts, q⟩
  · have e' : (tyOf s a).map (fun u => ts.any fun t => subTy u t) = some k := by
      cases a <;> first | exact absurd rfl hn | exact e
    cases hu : tyOf s a with
    | none =>
      rw [hu] at e'
      cases e'
    | some u =>
      rw [hu] at e'
      cases e'
      exact ⟨_, tp, _, _, _, _, rfl, ht, pair_ty ts, ty_ok hkk h r hu, kit_anyT u ts, q⟩
theorem box_at (h : HR G φ s H) {n : Nat} {xs : List D} (r : Rep φ s H (.ref n) x) (e : s.m n = some (.lst xs)) : ∃ p vs, x = .ref p ∧ φ n = some p ∧ H p = some (.lst vs) ∧ RepL φ s H xs vs := by
  simp only [Rep] at r
  obtain ⟨p, rfl, hp⟩ := r
  obtain ⟨b, hb, vs, h1, h2⟩ := h.ob n _ e
  rw [hp] at hb
  cases hb
  exact ⟨p, vs, rfl, hp, h1, h2⟩
/-- a list's box written -/
theorem Post.wr {n : Nat} {p : Addr} {xs ys : List D} {ws : List V} (h : HR G φ s H) (hn : s.m n = some (.lst xs)) (hp : φ n = some p) (P : Post G φ s H (s.put n (.lst ys)) d Q) {v : V} (rv : Rep φ s H d v) (l : RepL φ s H ys ws) : Q v (upd H p (.lst ws)) := by
  have g : Gr φ s H φ (s.put n (.lst ys)) (upd H p (.lst ws)) := Gr.write h hn hp
  exact P φ _ _ g (h.write hn hp ⟨ws, upd_same, RepL.mono g ys l⟩) (Rep.mono g d rv)
theorem append_ok {ds : List D} {vs : List V} (h : HR G φ s H) (ra : Rep φ s H a x) (r : RepL φ s H ds vs) (e : appD s a ds = some (.ok d, s')) (p : Post G φ s H s' d Q) : rAppend x vs H Q := by
  unfold appD at e
  split at e <;> first | (cases e; done) | skip
  · rename_i n z
    split at e
    · rename_i xs q
      split at e
      · rename_i hz
        cases e
        obtain ⟨v, rfl, r1⟩ := r.one_inv (ds := []) (v := .non)
        obtain ⟨b, ws, rfl, hb, h1, h2⟩ := box_at h ra q
        refine ⟨b, ws, v, rfl, rfl, h1, by rw [h2.length, ← LIM_eq]; exact hz, ?_⟩
        exact p.wr h q hb (by simp only [Rep]) (h2.app (RepL.one r1))
      · cases e
    · cases e
theorem extend_ok {ds : List D} {vs : List V} (h : HR G φ s H) (ra : Rep φ s H a x) (r : RepL φ s H ds vs) (e : extD s a ds = some (.ok d, s')) (p : Post G φ s H s' d Q) : rExtend x vs H Q := by
  unfold extD at e
  split at e <;> first | (cases e; done) | skip
  · rename_i n z
    split at e
    · rename_i xs q
      split at e
      · rename_i ys hy
        split at e
        · rename_i hz
          cases e
          obtain ⟨v, rfl, r1⟩ := r.one_inv (ds := []) (v := .non)
          obtain ⟨b, ws, rfl, hb, h1, h2⟩ := box_at h ra q
          obtain ⟨c, us, rfl, h3, h4⟩ := r1.ccont h hy
          refine ⟨b, c, ws, us, rfl, rfl, h1, h3, by rw [h2.length, h4.length, ← LIM_eq]; exact hz, ?_⟩
          exact p.wr h q hb (by simp only [Rep]) (h2.app h4)
        · cases e
      · cases e
    · cases e
theorem pop_ok {ds : List D} {vs : List V} (h : HR G φ s H) (ra : Rep φ s H a x) (r : RepL φ s H ds vs) (e : popD s a ds = some (.ok d, s')) (p : Post G φ s H s' d Q) : rPop x vs H Q := by
  unfold popD at e
  split at e <;> first | (cases e; done) | skip
  · rename_i n
    split at e
    · rename_i xs q
      split at e
      · rename_i y hy
        cases e
        simp only [RepL] at r
        subst r
        obtain ⟨b, ws, rfl, hb, h1, h2⟩ := box_at h ra q
        obtain ⟨v, hv, rv⟩ := h2.get hy
        refine ⟨b, ws, v, rfl, rfl, h1, by rw [h2.length]; exact hv, ?_⟩
        exact p.wr h q hb rv h2.dropLast
      · cases e
    · cases e
theorem clear_ok {ds : List D} {vs : List V} (h : HR G φ s H) (ra : Rep φ s H a x) (r : RepL φ s H ds vs) (e : clrD s a ds = some (.ok d, s')) (p : Post G φ s H s' d Q) : rClear x vs H Q := by
  unfold clrD at e
  split at e <;> first | (cases e; done) | skip
  · rename_i n
    split at e
    · rename_i xs q
      cases e
      simp only [RepL] at r
      subst r
      obtain ⟨b, ws, rfl, hb, h1, h2⟩ := box_at h ra q
      exact ⟨b, ws, rfl, rfl, h1, p.wr h q hb (by simp only [Rep]) RepL.nil⟩
    · cases e
theorem seqIx {n : Nat} {i : Int} {k : Nat} (h : ixN n i = some k) : seqIndex? i n = some k := by
  unfold ixN at h
  unfold seqIndex?
  dsimp only
  by_cases h0 : 0 ≤ i
  · rw [if_pos h0] at h
    rw [if_neg (show ¬ i < 0 by omega)]
    by_cases h1 : i < n
    · rw [if_pos h1] at h
      rw [if_pos (by simp only [Bool.and_eq_true, decide_eq_true_eq]; exact ⟨h0, h1⟩)]
      exact h
    · rw [if_neg h1] at h
      cases h
  · rw [if_neg h0] at h
    rw [if_pos (show i < 0 by omega)]
    by_cases h1 : -(n : Int) ≤ i
    · rw [if_pos h1] at h
      rw [if_pos (by simp only [Bool.and_eq_true, decide_eq_true_eq]; omega)]
      exact h
    · rw [if_neg h1] at h
      cases h
theorem popAt_ok {ds : List D} {vs : List V} (h : HR G φ s H) (ra : Rep φ s H a x) (r : RepL φ s H ds vs) (e : popAtD s a ds = some (.ok d, s')) (p : Post G φ s H s' d Q) : rPopAt x vs H Q := by
  unfold popAtD at e
  split at e <;> first | (cases e; done) | skip
  · rename_i n i
    split at e
    · rename_i xs q
      split at e
      · rename_i hz
        split at e
        · rename_i k hk
          split at e
          · rename_i y hy
            cases e
            obtain ⟨v, rfl, r1⟩ := r.one_inv (ds := []) (v := .non)
            simp only [Rep] at r1
            subst r1
            obtain ⟨b, ws, rfl, hb, h1, h2⟩ := box_at h ra q
            obtain ⟨w, hw, rw'⟩ := h2.get hy
            have s1 := seqIx hk
            refine ⟨b, ws, i, k, w, rfl, rfl, h1, by omega, by omega, by rw [h2.length]; exact s1, hw, ?_⟩
            exact p.wr h q hb rw' (h2.erase k)
          · cases e
        · cases e
      · cases e
    · cases e
theorem find_V : ∀ {ds : List D} {vs : List V} {y : D} {w : V} {j : Nat}, flat y = true → Rep φ s H y w → ds.all flat = true → RepL φ s H ds vs → (ds.findIdx? fun x => eqD x y) = some j →
    ∃ z, vs[j]? = some z ∧ eqV z w = true ∧ ∀ m z', m < j → vs[m]? = some z' → eqV z' w = false
  | [], vs, y, w, j, _, _, _, _, e => by cases e
  | d :: ds, vs, y, w, j, fy, ry, fs, r, e => by
    simp only [RepL] at r
    obtain ⟨v, u, rfl, r1, r2⟩ := r
    rw [List.all_cons, Bool.and_eq_true] at fs
    rw [List.findIdx?_cons] at e
    have q := eq_V fs.1 fy r1 ry
    by_cases h : eqD d y = true
    · rw [if_pos h] at e
      cases e
      exact ⟨v, rfl, by rw [q]; exact h, fun m z' hm _ => by omega⟩
    · rw [if_neg h] at e
      cases hj : ds.findIdx? fun x => eqD x y with
      | none =>
        rw [hj] at e
        cases e
      | some i =>
        rw [hj] at e
        cases e
        obtain ⟨z, h1, h2, h3⟩ := find_V fy ry fs.2 r2 hj
        refine ⟨z, h1, h2, fun m z' hm hz => ?_⟩
        cases m with
        | zero =>
          cases hz
          rw [q]
          exact eq_false_of_ne_true h
        | succ m => exact h3 m z' (Nat.lt_of_succ_lt_succ hm) hz
theorem pds_get : ∀ {zs : List D} {j : Nat} {z : PyData}, (toPDs zs)[j]? = some z → ∃ d, zs[j]? = some d ∧ z = toPD d
  | [], j, z, h => by simp [toPDs] at h
  | d :: zs, 0, z, h => by
    simp [toPDs] at h
    exact ⟨d, rfl, h.symm⟩
  | d :: zs, j + 1, z, h => by
    simp [toPDs] at h
    obtain ⟨e, h1, h2⟩ := pds_get h
    exact ⟨e, by simpa using h1, h2⟩
theorem pds_at : ∀ {zs : List D} {j : Nat} {d : D}, zs[j]? = some d → (toPDs zs)[j]? = some (toPD d)
  | [], j, z, h => by simp at h
  | d :: zs, 0, z, h => by
    simp at h
    simp [toPDs, h]
  | d :: zs, j + 1, z, h => by
    simp at h
    simpa [toPDs] using pds_at h
theorem shpL_at : ∀ {zs : List D} {k j : Nat} {d : D}, shpL k zs = true → zs[j]? = some d → shp k d = true
  | [], k, j, d, _, h => by simp at h
  | x :: zs, k, 0, d, hs, h => by
    simp only [shpL, Bool.and_eq_true] at hs
    simp at h
    rw [← h]
    exact hs.1
  | x :: zs, k, j + 1, d, hs, h => by
    simp only [shpL, Bool.and_eq_true] at hs
    simp at h
    exact shpL_at hs.2 h
def rIndexA (K : PySem.W.Frag) : V → List V → Hp → VK → Prop := fun x xs H Q => rIndex K x xs H Q ∨ rIndexD K x xs H Q
theorem mt_indexA {X : Cx} (hu : X.A.units + 4499 < cLine) : MtR X "list.index" (rIndexA X.K) := by
  intro pins s σ H x xs v us Q I rx rxs h
  rcases h with h | h
  · exact mt_index pins s σ H x xs v us Q I rx rxs h
  · exact mt_indexD (by omega) pins s σ H x xs v us Q I rx rxs h
theorem index_ok {ds : List D} {vs : List V} (hkk : φ.K = K) (h : HR G φ s H) (ra : Rep φ s H a x) (r : RepL φ s H ds vs) (e : ixOfD s a ds = some (.ok d, s')) (p : Post G φ s H s' d Q) : rIndexA K x vs H Q := by
  unfold ixOfD at e
  split at e <;> first | (cases e; done) | skip
  · rename_i y
    split at e
    · rename_i xs hc
      split at e
      · rename_i hf
        rw [Bool.and_eq_true] at hf
        split at e
        · rename_i j hj
          cases e
          obtain ⟨v, rfl, r1⟩ := r.one_inv (ds := []) (v := .non)
          obtain ⟨q, ws, rfl, h1, h2⟩ := ra.lcont h hc
          obtain ⟨z, g1, g2, g3⟩ := find_V hf.1 r1 hf.2 h2 hj
          refine .inl ⟨q, ws, v, j, z, rfl, rfl, by rw [← hkk]; exact h1, flat_V hf.1 r1, flats_V hf.2 h2, g1, g2, g3, p.here h ?_⟩
          simp only [Rep]
        · cases e
      · split at e
        · rename_i zs hz
          split at e
          · rename_i hs
            rw [Bool.and_eq_true] at hs
            split at e
            · rename_i j hj
              cases e
              obtain ⟨v, rfl, r1⟩ := r.one_inv (ds := []) (v := .non)
              obtain ⟨d1, d2, d3, d4, d5⟩ := deep_of hkk h r1 ra hz hs.1 hs.2
              obtain ⟨q, ws, rfl, h1, h2⟩ := ra.lcont h hc
              obtain ⟨hj1, hj2, hj3⟩ := List.findIdx?_eq_some_iff_getElem.mp hj
              have ez : zs[j]? = some zs[j] := List.getElem?_eq_getElem hj1
              refine .inr ⟨q, v, _, _, j, toPD zs[j], rfl, rfl, d2, d1, d4, d3, pds_at ez, ?_, fun m z' hm hz' => ?_, p.here h ?_⟩
              · rw [eqv_eq _ _ (shpL_at d5 ez) hs.1]
                exact hj2
              · obtain ⟨d, hd, rfl⟩ := pds_get hz'
                have hm' : m < zs.length := by omega
                have e1 : zs[m]? = some zs[m] := List.getElem?_eq_getElem hm'
                rw [e1] at hd
                cases hd
                rw [eqv_eq _ _ (shpL_at d5 e1) hs.1]
                have := hj3 m hm
                simpa using this
              · simp only [Rep]
            · cases e
          · cases e
        · cases e
    · cases e
def rCountF (K : PySem.W.Frag) : V → List V → Hp → VK → Prop := fun x xs H Q => ∃ (a : Addr) (ys : List V) (y : V), x = V.ref a ∧ xs = [y] ∧ SqL K H a ys ∧ flatV y = true ∧ ys.all flatV = true ∧ Q (.int ((ys.countP fun z => eqV z y : Nat) : Int)) H
theorem cntU {y : V} : ∀ {ys : List V} {us : List Value}, Vals ys us → ys.all flatV = true → us.countP (eqU y) = ys.countP fun z => eqV z y
  | _, _, .nil, _ => rfl
  | z :: zs, _ :: us, .cons r t, f => by
    rw [List.all_cons, Bool.and_eq_true] at f
    rw [List.countP_cons, List.countP_cons, cntU t f.2, eqU_of r f.1]
theorem mt_countF {X : Cx} : MtR X "list.count" (rCountF X.K) := by
  intro pins s σ H x xs v us Q I rx rxs h
  obtain ⟨a, ys, y, rfl, rfl, hs, fy, fys, q⟩ := h
  cases rx
  cases rxs with
  | cons ry rt =>
    rename_i u1 u2
    cases rt
    obtain ⟨ts, r9, ⟨⟨c9, d9, e9, l9⟩, n9, h9, h10, h11, h12⟩, h13⟩ := I.list hs
    simp only at h10 h12
    subst h10 h12
    refine call_meets PySem.F.slot_list_count ⟨_, h9, rfl⟩ PySem.F.entry_list_count (PySem.F.args_list_count_2 _ _) (SeqAt.list_countAt a ts.toArray n9 d9 l9 u1 (eqU y)) ⟨h9, fun w hw => mem_eqAt ry fy r9 fys w (by simpa using hw), ?_⟩
    have h14 : ts.toArray.toList.countP (eqU y) = ys.countP fun z => eqV z y := cntU r9 fys
    refine ⟨.int ((ys.countP fun z => eqV z y : Nat) : Int), H, I.tok _, ⟨s.toks, ?_⟩, q⟩
    show Value.int ((ts.toArray.toList.countP (eqU y) : Nat) : Int) s.toks = _
    rw [h14]
theorem cnt_V : ∀ {ds : List D} {vs : List V} {y : D} {w : V}, flat y = true → Rep φ s H y w → ds.all flat = true → RepL φ s H ds vs → (ds.countP fun x => eqD x y) = vs.countP fun z => eqV z w
  | [], vs, y, w, _, _, _, r => by
    simp only [RepL] at r
    subst r
    rfl
  | d :: ds, vs, y, w, fy, ry, fs, r => by
    simp only [RepL] at r
    obtain ⟨v, u, rfl, r1, r2⟩ := r
    rw [List.all_cons, Bool.and_eq_true] at fs
    rw [List.countP_cons, List.countP_cons, cnt_V fy ry fs.2 r2, eq_V fs.1 fy r1 ry]
theorem count_ok {ds : List D} {vs : List V} (hkk : φ.K = K) (h : HR G φ s H) (ra : Rep φ s H a x) (r : RepL φ s H ds vs) (e : cntD s a ds = some (.ok d, s')) (p : Post G φ s H s' d Q) : rCountF K x vs H Q := by
  unfold cntD at e
  split at e <;> first | (cases e; done) | skip
  · rename_i y
    split at e
    · rename_i xs hc
      split at e
      · rename_i hf
        rw [Bool.and_eq_true] at hf
        cases e
        obtain ⟨v, rfl, r1⟩ := r.one_inv (ds := []) (v := .non)
        obtain ⟨q, ws, rfl, h1, h2⟩ := ra.lcont h hc
        refine ⟨q, ws, v, rfl, rfl, by rw [← hkk]; exact h1, flat_V hf.1 r1, flats_V hf.2 h2, p.here h ?_⟩
        rw [← cnt_V hf.1 r1 hf.2 h2]
        simp only [Rep]
      · cases e
    · cases e
theorem upper_ok {ds : List D} {vs : List V} (r0 : Rep φ s H a x) (h : HR G φ s H) (r : RepL φ s H ds vs) (e : uprD s a ds = some (.ok d, s')) (p : Post G φ s H s' d Q) : ∃ b : Str, x = .str b ∧ vs = [] ∧ b.length ≤ 5592405 ∧ Q (.str (Txt.upper b)) H := by
  unfold uprD at e
  split at e <;> first | (cases e; done) | skip
  · rename_i z
    split at e
    · rename_i hz
      cases e
      simp only [RepL] at r
      simp only [Rep] at r0
      subst r r0
      refine ⟨_, rfl, rfl, ?_, ?_⟩
      · show z.toArray.size ≤ 5592405
        rw [List.size_toArray]
        omega
      · have := SX.upper_S hz.2
        have e2 : (⟨z.toArray⟩ : Str) = SX.S z := rfl
        rw [e2, this]
        exact p.here h (by simp only [Rep]; rfl)
    · cases e
def rInsert : V → List V → Hp → VK → Prop := fun x vs H Q => ∃ (l : Addr) (xs : List V) (i : Int) (y : V), x = .ref l ∧ vs = [.int i, y] ∧ H l = some (.lst xs) ∧ xs.length < sizeLine ∧ 0 ≤ i ∧ i < 2 ^ 63 ∧
    Q .non (upd H l (.lst (xs.take i.toNat ++ [y] ++ xs.drop i.toNat)))
theorem insert_ok {ds : List D} {vs : List V} (h : HR G φ s H) (ra : Rep φ s H a x) (r : RepL φ s H ds vs) (e : insD s a ds = some (.ok d, s')) (p : Post G φ s H s' d Q) : rInsert x vs H Q := by
  unfold insD at e
  split at e <;> first | (cases e; done) | skip
  · rename_i n i z
    split at e
    · rename_i xs q
      split at e
      · rename_i hz
        cases e
        obtain ⟨v, w, rfl, r1, r2⟩ := r.two_inv
        simp only [Rep] at r1
        subst r1
        obtain ⟨b, ws, rfl, hb, h1, h2⟩ := box_at h ra q
        refine ⟨b, ws, i, w, rfl, rfl, h1, by rw [h2.length, ← LIM_eq]; exact hz.1, hz.2.1, by omega, ?_⟩
        refine p.wr h q hb (by simp only [Rep]) ?_
        rw [List.append_assoc]
        exact (h2.take _).app ((RepL.one r2).app (h2.drop _))
      · cases e
    · cases e
theorem txts_rep : ∀ {ds : List D} {vs : List V} {ys : List (List Nat)}, RepL φ s H ds vs → txts ds = some ys → vs = (ys.map fun z => (⟨z.toArray⟩ : Str)).map V.str
  | [], vs, ys, r, e => by
    simp only [RepL] at r
    cases e
    exact r
  | d :: ds, vs, ys, r, e => by
    simp only [RepL] at r
    obtain ⟨v, w, rfl, r1, r2⟩ := r
    simp only [txts] at e
    cases h1 : txtOf d with
    | none =>
      rw [h1] at e
      cases e
    | some z =>
      rw [h1] at e
      cases h2 : txts ds with
      | none =>
        rw [h2] at e
        cases e
      | some zs =>
        rw [h2] at e
        cases e
        have := txts_rep r2 h2
        cases d with
        | str y =>
          cases h1
          simp only [Rep] at r1
          subst r1
          rw [this]
          rfl
        | _ => cases h1
theorem sumLen_eq : ∀ ys : List (List Nat), ((ys.map fun z => (⟨z.toArray⟩ : Str)).map (·.length)).sum = sumLen ys
  | [] => rfl
  | y :: ys => by
    rw [List.map_cons, List.map_cons, List.sum_cons, sumLen_eq ys, str_len]
    rfl
theorem joinT_eq (sep : List Nat) : ∀ ys : List (List Nat), TL.joinL sep ys = joinT sep ys
  | [] => rfl
  | [_] => rfl
  | x :: y :: r => by
    show x ++ (sep ++ TL.joinL sep (y :: r)) = x ++ (sep ++ joinT sep (y :: r))
    rw [joinT_eq sep (y :: r)]
theorem tl_mk (ys : List (List Nat)) : (ys.map fun z => (⟨z.toArray⟩ : Str)).map TL.tl = ys := by
  rw [List.map_map]
  conv => rhs; rw [← List.map_id ys]
  refine List.map_congr_left fun z _ => ?_
  show (⟨z.toArray⟩ : Str).cps.toList = z
  simp
theorem join_txt (sep : List Nat) (ys : List (List Nat)) : Txt.join ⟨sep.toArray⟩ (ys.map fun z => (⟨z.toArray⟩ : Str)) = ⟨(joinT sep ys).toArray⟩ := by
  have e := TL.tl_join ⟨sep.toArray⟩ (ys.map fun z => (⟨z.toArray⟩ : Str))
  rw [tl_mk] at e
  refine TL.ext_tl ((congrArg TL.tl (TL.join_eq _ _)).trans (e.trans ?_))
  rw [show TL.tl (⟨sep.toArray⟩ : Str) = sep from str_cps sep, joinT_eq]
def rJoin (K : PySem.W.Frag) : V → List V → Hp → VK → Prop := fun x xs H Q => ∃ a p, ∃ ys : List Str, x = .str a ∧ xs = [.ref p] ∧ (SqL K H p (ys.map V.str) ∨ SqT K H p (ys.map V.str)) ∧
    (ys.map (·.length)).sum + ys.length * a.length ≤ 16777216 ∧ Q (.str (Txt.join a ys)) H
theorem join_ok {ds : List D} {vs : List V} (hkk : φ.K = K) (h : HR G φ s H) (ra : Rep φ s H a x) (r : RepL φ s H ds vs) (e : joinD s a ds = some (.ok d, s')) (p : Post G φ s H s' d Q) : rJoin K x vs H Q := by
  unfold joinD at e
  split at e <;> first | (cases e; done) | skip
  · rename_i sep d'
    split at e
    · rename_i ys hy
      split at e
      · rename_i hz
        cases e
        simp only [Rep] at ra
        subst ra
        obtain ⟨v, rfl, r1⟩ := r.one_inv (ds := []) (v := .non)
        cases hc : cont s d' with
        | none =>
          rw [hc] at hy
          cases hy
        | some xs =>
          rw [hc] at hy
          obtain ⟨q, ws, rfl, h1, h2⟩ := seq_of hkk h r1 hc
          have e1 := txts_rep h2 (show txts xs = some ys from hy)
          subst e1
          refine ⟨_, q, ys.map fun z => (⟨z.toArray⟩ : Str), rfl, rfl, h1, ?_, ?_⟩
          · rw [sumLen_eq, List.length_map, str_len, Nat.mul_comm]
            exact hz
          · rw [join_txt]
            exact p.here h (by simp only [Rep])
      · cases e
    · cases e
end
end Fl
namespace Fl
open PySem L2
section
variable {G : Glob} {cf : CF} {X : Cx} {e a b c : Expr} {ca cb cc : E} {pos : Pos}
theorem At.step {φ φ1 : Mp} {s s1 : S} {H H1 : Hp} {r : Sl} {σ : L2.St} (A : At G φ s H r σ) (g : Gr φ s H φ1 s1 H1) (h : HR G φ1 s1 H1) : At G φ1 s1 H1 r σ := ⟨h, A.sr.mono g⟩
/-- behind growth -/
theorem Post.from {φ φ1 : Mp} {s s1 s' : S} {H H1 : Hp} {d : D} {Q : VK} (g : Gr φ s H φ1 s1 H1) (p : Post G φ s H s' d Q) : Post G φ1 s1 H1 s' d Q := fun φ' H' v g' h r => p φ' H' v (g.trans g') h r
theorem c_var {i : Nat} {x : Str} (hN : X.N[i]? = some x) (hv : Vis X.env.scope x) (hd : (x == ("__debug__" : Str)) = false) (hc : (x == ("__classdict__" : Str)) = false) : PE X (.Name x pos) (rE G cf (.var i)) := by
  refine PE.imp (pe_var hN hv hd hc) fun σ H Q h => ?_
  obtain ⟨φ, s, r, A, d, s', he, p⟩ := h
  simp only [ev] at he
  split at he
  · rename_i d' hr
    cases he
    obtain ⟨v, h1, h2⟩ := A.sr.get i d hr
    exact ⟨v, h1, p φ H v (Gr.refl _ _ _) A.hr h2⟩
  · cases he
theorem c_const {v : V} {d : D} {ce : E} (hp : PE X e (tC v)) (h : ∀ r s, ev cf ce r s = some (.ok d, s)) (hr : ∀ φ s H, Rep φ s H d v) : PE X e (rE G cf ce) := by
  refine PE.imp hp fun σ H Q h' => ?_
  obtain ⟨φ, s, r, A, d', s', he, p⟩ := h'
  rw [h] at he
  cases he
  exact p φ H v (Gr.refl _ _ _) A.hr (hr _ _ _)
theorem c_bin {o : Bop} (ha : PE X a (rE G cf ca)) (hb : PE X b (rE G cf cb)) : PE X (.BinOp a (bopOf o) b pos) (rE G cf (.bin o ca cb)) := by
  refine PE.imp (pe_op (op_bin o) ha hb) fun σ H Q h => ?_
  obtain ⟨φ, s, r, A, d, s', he, p⟩ := h
  simp only [ev] at he
  obtain ⟨x, s1, e1, he⟩ := bnd_inv he
  obtain ⟨y, s2, e2, he⟩ := bnd_inv he
  obtain ⟨e3, rfl⟩ := lft_inv he
  refine rd_step A e1 fun φ1 H1 v g1 A1 rv => ?_
  refine rd_step A1 e2 fun φ2 H2 w g2 A2 rw' => ?_
  exact bin_ok A2.hr (Rep.mono g2 x rv) rw' e3 (Post.from (g1.trans g2) p)
def rCatS (K : PySem.W.Frag) : R2 := fun x y H Q => ∃ l b xs zs, x = .ref l ∧ y = .ref b ∧ SqL K H l xs ∧ SqL K H b zs ∧ xs.length + zs.length ≤ sizeLine ∧ ∀ p, H p = none → Q (.ref p) (L2.upd H p (.lst (xs ++ zs)))
theorem op_catS : OpR X (binaryOp .Add) (rCatS X.K) := by
  intro pins s σ H x y v u Q I rx ry h
  obtain ⟨l, b, xs, zs, rfl, rfl, hH, hB, hz, q⟩ := h
  cases rx
  cases ry
  obtain ⟨its, r, ⟨⟨cls, dd, data, sl⟩, n, ho, hc, -, hd⟩, z⟩ := I.list hH
  obtain ⟨its2, r2, ⟨⟨cls2, dd2, data2, sl2⟩, n2, ho2, hc2, -, hd2⟩, z2⟩ := I.list hB
  simp only at hc hd hc2 hd2
  subst hc hd hc2 hd2
  have e1 := r.length
  have e2 := r2.length
  have ea : its.toArray ++ its2.toArray = (its ++ its2).toArray := by simp
  refine concat_meets ⟨_, ho, rfl⟩ ⟨_, ho2, rfl⟩ noFill_list_add seq_list_add PySem.F.slot_list_add PySem.F.entry_list_add (PySem.F.args_list_add_2 _ _) (PyProof.Rows.list_addW l b its.toArray its2.toArray n n2 dd dd2 sl sl2 (by rw [List.size_toArray, List.size_toArray]; omega)) ⟨ho, ho2, ?_⟩
  rw [ea]
  exact ⟨.ref _, _, I.lnew (t' := s.toks) (r.append r2) (by rw [List.length_append]; omega), rfl, q _ I.fresh⟩
theorem c_cat {bx : Bool} (hK : X.K = G.K) (ha : PE X a (rE G cf ca)) (hb : PE X b (rE G cf cb)) : PE X (.BinOp a .Add b pos) (rE G cf (.cat bx ca cb)) := by
  refine PE.imp (pe_op op_catS ha hb) fun σ H Q h => ?_
  obtain ⟨φ, s, r, A, d, s', he, p⟩ := h
  simp only [ev] at he
  obtain ⟨x, s1, e1, he⟩ := bnd_inv he
  obtain ⟨y, s2, e2, he⟩ := bnd_inv he
  refine rd_step A e1 fun φ1 H1 v g1 A1 rv => ?_
  refine rd_step A1 e2 fun φ2 H2 w g2 A2 rw' => ?_
  split at he
  · rename_i xs ys h1 h2
    unfold mkLz at he
    split at he
    · rename_i hz
      obtain ⟨p1, vs, rfl, k1, l1⟩ := (Rep.mono g2 x rv).lcont A2.hr h1
      obtain ⟨p2, ws, rfl, k2, l2⟩ := rw'.lcont A2.hr h2
      rw [A2.hr.k.trans hK.symm] at k1 k2
      refine ⟨p1, p2, vs, ws, rfl, rfl, k1, k2, ?_, Post.lst A2.hr he (Post.from (g1.trans g2) p) (l1.app l2)⟩
      rw [l1.length, l2.length, ← LIM_eq, ← List.length_append]
      exact hz
    · cases he
  · cases he
theorem RepL.rep {φ : Mp} {s : S} {H : Hp} {ds : List D} {vs : List V} (r : RepL φ s H ds vs) : ∀ n : Nat, RepL φ s H (List.replicate n ds).flatten (List.replicate n vs).flatten
  | 0 => RepL.nil
  | n + 1 => by
    rw [List.replicate_succ, List.replicate_succ, List.flatten_cons, List.flatten_cons]
    exact r.app (r.rep n)
theorem c_rpt {bx : Bool} (ha : PE X a (rE G cf ca)) (hb : PE X b (rE G cf cb)) : PE X (.BinOp a .Mult b pos) (rE G cf (.rpt bx ca cb)) := by
  refine PE.imp (pe_op op_rep ha hb) fun σ H Q h => ?_
  obtain ⟨φ, s, r, A, d, s', he, p⟩ := h
  simp only [ev] at he
  obtain ⟨x, s1, e1, he⟩ := bnd_inv he
  obtain ⟨y, s2, e2, he⟩ := bnd_inv he
  refine rd_step A e1 fun φ1 H1 v g1 A1 rv => ?_
  refine rd_step A1 e2 fun φ2 H2 w g2 A2 rw' => ?_
  split at he
  · rename_i xs k hc
    split at he
    · rename_i hz
      obtain ⟨q, vs, rfl, h1, h2⟩ := (Rep.mono g2 x rv).ccont A2.hr hc
      simp only [Rep] at rw'
      exact ⟨q, k, vs, rfl, rw', h1, hz.1, hz.2.1, by rw [h2.length, ← LIM_eq]; exact hz.2.2, Post.lst A2.hr he (Post.from (g1.trans g2) p) (h2.rep _)⟩
    · cases he
  · cases he
theorem RepL.rev {φ : Mp} {s : S} {H : Hp} : ∀ {ds : List D} {vs : List V}, RepL φ s H ds vs → RepL φ s H ds.reverse vs.reverse
  | [], vs, r => by
    simp only [RepL] at r
    subst r
    exact RepL.nil
  | d :: ds, vs, r => by
    simp only [RepL] at r
    obtain ⟨v, w, rfl, h1, h2⟩ := r
    rw [List.reverse_cons, List.reverse_cons]
    exact (RepL.rev h2).app ⟨v, [], rfl, h1, rfl⟩
theorem c_rev {bx : Bool} {k : Nat} {p1 p2 p3 : Pos} (hK : X.K = G.K) (ha : PE X a (rE G cf ca)) : PE X (.Subscript a (.Slice none none (some (.UnaryOp .USub (.Constant (.int 1) k p1) p2)) p3) pos) (rE G cf (.rev bx ca)) := by
  refine ⟨fun pins s0 σ H Q I h => ?_⟩
  obtain ⟨φ, s, r, A, d, s', he, p⟩ := h
  simp only [ev] at he
  obtain ⟨x, s1, e1, he⟩ := bnd_inv he
  split at he
  · rename_i z
    split at he
    · rename_i hz
      cases he
      refine (pe_revS ha).run pins s0 σ H Q I (rd_step A e1 fun φ1 H1 v g1 A1 rv => ?_)
      simp only [Rep] at rv
      refine ⟨z, rv, by rw [← LIM_eq]; exact hz, Post.here A1.hr (Post.from g1 p) ?_⟩
      simp only [Rep]
    · cases he
  · rename_i zs
    cases he
    refine (pe_revT ha).run pins s0 σ H Q I (rd_step A e1 fun φ1 H1 v g1 A1 rv => ?_)
    simp only [Rep] at rv
    obtain ⟨q, vs, rfl, h1, _, h2⟩ := rv
    exact ⟨q, vs, rfl, SqT.of h1, Post.tup A1.hr (Post.from g1 p) h2.rev⟩
  · split at he
    · rename_i xs hc
      refine (pe_revL ha).run pins s0 σ H Q I (rd_step A e1 fun φ1 H1 v g1 A1 rv => ?_)
      obtain ⟨q, vs, rfl, h1, h2⟩ := rv.lcont A1.hr hc
      rw [A1.hr.k.trans hK.symm] at h1
      exact ⟨q, vs, rfl, h1, Post.lst A1.hr he (Post.from g1 p) h2.rev⟩
    · cases he
/-- len(set(xs)) of a list of few whole numbers -/
def tSetLen (K : PySem.W.Frag) (ta : TE) : TE := fun σ H Q => ta σ H fun x H1 => ∃ (l : Addr) (ns : List Int), x = V.ref l ∧ SqL K H1 l (ns.map V.int) ∧ ns.length < 64 ∧ Q (.int ((PyProof.Rows.firstMet (fun i => ns.getD i 0) ns.length).length : Nat)) H1
theorem pe_setLen {X : Cx} {a : Expr} {ta : TE} {p p2 q pos : Pos} (hc : X.calm = true) (hg : Gl X "len") (hm : X.mg "len" = none) (hg2 : Gl X "set") (hm2 : X.mg "set" = none) (ha : PE X a ta)
    (na : starEach [a] X.env = (false, eval a X.env) :: starEach [] X.env) : PE X (.Call (.Name "len" p) [.Call (.Name "set" p2) [a] [] q] [] pos) (tSetLen X.K ta) := by
  refine ⟨fun pins s σ H Q I h => ?_⟩
  refine PyProof.Rows.Call_ (ld_blt I hg hm PySem.boot_len ?_)
  refine PyProof.Rows.callWith_builtin1 (PyProof.Rows.args_cons ?_ rfl) rfl rfl
  refine PyProof.Rows.Call_ (ld_blt I hg2 hm2 PyProof.Rows.boot_set ?_)
  refine PyProof.Rows.callWith_type1 (PyProof.Rows.args_cons (thn (ha.run pins s σ H _ I h) fun v t1 ⟨x, H1, J1, r1, q1⟩ => PyProof.Rows.args_nil ?_) na) na rfl
  obtain ⟨l, ns, rfl, hq, h1, q1⟩ := q1
  cases r1
  obtain ⟨ts, r9, p9, z9⟩ := J1.list hq
  have h9 : ts.toArray.size = ns.length := by rw [List.size_toArray, ← r9.length, List.length_map]
  refine call_set_list (J1.ok.hd hc) p9.isList (ns := ns) (by simpa using r9.ints) (by unfold scanBound; omega) fun h2 tk h3 h4 => ?_
  rw [h9] at h3
  have hle := PyProof.Rows.firstMet_length_le (fun i => ns.getD i 0) ns.length
  refine PyProof.Rows.args_nil ?_
  obtain ⟨o, es, ep, t, ho, hex, hd, _, _, _, hf, hn⟩ := h3
  have J2 : Inv X pins σ H1 { t1 with heap := h2, toks := tk } := J1.kept fun b o e => h4 b o (Heap.lt_size e) e
  refine call_len_set ho hex hd hf (by rw [hn]; omega) ⟨.int ((PyProof.Rows.firstMet (fun i => ns.getD i 0) ns.length).length : Nat), H1, J2.tok _, ⟨_, by rw [hn]⟩, q1⟩
theorem RepL.ints2 {φ : Mp} {s : S} {H : Hp} {ds : List D} {vs : List V} {d : D} (r : RepL φ s H ds vs) (e : lsetD ds = some d) : ∃ ns : List Int, vs = ns.map V.int ∧ ns.length ≤ 2 ∧ d = .int ((PyProof.Rows.firstMet (fun i => ns.getD i 0) ns.length).length : Nat) := by
  unfold lsetD at e
  split at e
  · cases e
    simp only [RepL] at r
    subst r
    exact ⟨[], rfl, by decide, rfl⟩
  · cases e
    simp only [RepL, Rep] at r
    obtain ⟨v, w, rfl, rfl, rfl⟩ := r
    exact ⟨[_], rfl, by simp, rfl⟩
  · rename_i i j
    cases e
    simp only [RepL, Rep] at r
    obtain ⟨v, w, rfl, rfl, v2, w2, rfl, rfl, rfl⟩ := r
    refine ⟨[i, j], rfl, by simp, ?_⟩
    have e1 : PyProof.Rows.firstMet (fun k => [i, j].getD k 0) [i, j].length = PyProof.Rows.step_dedup (PyProof.Rows.step_dedup [] i) j := rfl
    rw [e1]
    unfold PyProof.Rows.step_dedup
    by_cases h : i = j
    · subst h
      simp
    · simp [h]
  · cases e
theorem c_lset {p p2 q pos : Pos} (hK : X.K = G.K) (hc : X.calm = true) (hg : Gl X "len") (hm : X.mg "len" = none) (hg2 : Gl X "set") (hm2 : X.mg "set" = none) (ha : PE X a (rE G cf ca))
    (na : starEach [a] X.env = (false, eval a X.env) :: starEach [] X.env) : PE X (.Call (.Name "len" p) [.Call (.Name "set" p2) [a] [] q] [] pos) (rE G cf (.lset ca)) := by
  refine PE.imp (pe_setLen hc hg hm hg2 hm2 ha na) fun σ H Q h => ?_
  obtain ⟨φ, s, r, A, d, s', he, p⟩ := h
  simp only [ev] at he
  obtain ⟨x, s1, e1, he⟩ := bnd_inv he
  refine rd_step A e1 fun φ1 H1 v g1 A1 rv => ?_
  obtain ⟨h1, rfl⟩ := lft_inv he
  obtain ⟨xs, h2, h3⟩ := Option.bind_eq_some_iff.mp h1
  obtain ⟨q, vs, rfl, h4, h5⟩ := rv.lcont A1.hr h2
  rw [A1.hr.k.trans hK.symm] at h4
  obtain ⟨ns, rfl, h6, rfl⟩ := h5.ints2 h3
  exact ⟨q, ns, rfl, h4, by omega, Post.here A1.hr (Post.from g1 p) (by simp only [Rep])⟩
theorem c_neg (ha : PE X a (rE G cf ca)) : PE X (.UnaryOp .USub a pos) (rE G cf (.neg ca)) := by
  refine PE.imp (pe_un un_neg ha) fun σ H Q h => ?_
  obtain ⟨φ, s, r, A, d, s', he, p⟩ := h
  simp only [ev] at he
  obtain ⟨x, s1, e1, he⟩ := bnd_inv he
  refine rd_step A e1 fun φ1 H1 v g1 A1 rv => ?_
  split at he
  · cases he
    simp only [Rep] at rv
    subst rv
    exact ⟨_, rfl, Post.here A1.hr (Post.from g1 p) (by simp only [Rep])⟩
  · cases he
theorem c_not (hK : X.K = G.K) (ha : PE X a (rE G cf ca)) : PE X (.UnaryOp .Not a pos) (rE G cf (.not ca)) := by
  refine PE.imp (pe_notT ha) fun σ H Q h => ?_
  obtain ⟨φ, s, r, A, d, s', he, p⟩ := h
  simp only [ev] at he
  obtain ⟨x, s1, e1, he⟩ := bnd_inv he
  obtain ⟨e2, rfl⟩ := lft_inv he
  refine rd_step A e1 fun φ1 H1 v g1 A1 rv => ?_
  cases hk : truth s' x with
  | none =>
    rw [hk] at e2
    cases e2
  | some k =>
    rw [hk] at e2
    cases e2
    exact ⟨k, truth_ok (A1.hr.k.trans hK.symm) A1.hr rv hk, Post.here A1.hr (Post.from g1 p) (by simp only [Rep])⟩
theorem t_not (ha : PT X a (rT G cf ca)) : PT X (.UnaryOp .Not a pos) (rT G cf (.not ca)) := by
  refine PT.imp (pt_not ha) fun σ H Q h => ?_
  obtain ⟨φ, s, r, A, k, s', he, p⟩ := h
  unfold tst at he
  simp only [ev] at he
  obtain ⟨x, s1, e1, he⟩ := bnd_inv he
  obtain ⟨y, s0, e0, e1⟩ := bnd_inv e1
  obtain ⟨e2, rfl⟩ := lft_inv e1
  obtain ⟨e3, rfl⟩ := lft_inv he
  cases hk : truth s' y with
  | none =>
    rw [hk] at e2
    cases e2
  | some k' =>
    rw [hk] at e2
    cases e2
    cases (show some (!k') = some k from e3)
    refine ⟨φ, s, r, A, k', s', ?_, fun φ' H' b g h q => ?_⟩
    · unfold tst
      rw [e0]
      show lft (truth s' y) s' = _
      rw [hk]
      rfl
    · exact p φ' H' _ g h (by rw [q])
theorem c_cmp {o : Cop} (hK : X.K = G.K) (hu : X.A.units + 4499 < cLine) (ha : PE X a (rE G cf ca)) (hb : PE X b (rE G cf cb)) (hm : behindInMarks (copOf o) b = false) : PE X (.Compare a [copOf o] [b] pos) (rE G cf (.cmp o ca cb)) := by
  refine PE.imp (pe_cmpR (op_cmp hu o) ha hb hm) fun σ H Q h => ?_
  obtain ⟨φ, s, r, A, d, s', he, p⟩ := h
  simp only [ev] at he
  obtain ⟨x, s1, e1, he⟩ := bnd_inv he
  obtain ⟨y, s2, e2, he⟩ := bnd_inv he
  obtain ⟨e3, rfl⟩ := lft_inv he
  refine rd_step A e1 fun φ1 H1 v g1 A1 rv => ?_
  refine rd_step A1 e2 fun φ2 H2 w g2 A2 rw' => ?_
  cases hk : cmpD s' o x y with
  | none =>
    rw [hk] at e3
    cases e3
  | some k =>
    rw [hk] at e3
    cases e3
    exact cmp_ok (A2.hr.k.trans hK.symm) A2.hr (Rep.mono g2 x rv) rw' hk (Post.here A2.hr (Post.from (g1.trans g2) p) (by simp only [Rep]))
theorem t_cmp {o : Cop} (hK : X.K = G.K) (hu : X.A.units + 4499 < cLine) (ha : PE X a (rE G cf ca)) (hb : PE X b (rE G cf cb)) (hm : behindInMarks (copOf o) b = false) : PT X (.Compare a [copOf o] [b] pos) (rT G cf (.cmp o ca cb)) := by
  refine PT.imp (pt_cmpR (op_cmp hu o) ha hb hm) fun σ H Q h => ?_
  obtain ⟨φ, s, r, A, k, s', he, p⟩ := h
  unfold tst at he
  simp only [ev] at he
  obtain ⟨z, s3, e0, he⟩ := bnd_inv he
  obtain ⟨x, s1, e1, e0⟩ := bnd_inv e0
  obtain ⟨y, s2, e2, e0⟩ := bnd_inv e0
  obtain ⟨e3, rfl⟩ := lft_inv e0
  obtain ⟨e4, rfl⟩ := lft_inv he
  refine rd_step A e1 fun φ1 H1 v g1 A1 rv => ?_
  refine rd_step A1 e2 fun φ2 H2 w g2 A2 rw' => ?_
  cases hk : cmpD s' o x y with
  | none =>
    rw [hk] at e3
    cases e3
  | some k' =>
    rw [hk] at e3
    cases e3
    cases (show some k' = some k from e4)
    exact cmp_ok (A2.hr.k.trans hK.symm) A2.hr (Rep.mono g2 x rv) rw' hk ⟨k, rfl, p φ2 H2 k (g1.trans g2) A2.hr rfl⟩
theorem c_chn {o o' : Cop} (hK : X.K = G.K) (hu : X.A.units + 4499 < cLine) (ha : PE X a (rE G cf ca)) (hb : PE X b (rE G cf cb)) (hc : PE X c (rE G cf cc)) (hm : lastMarks [copOf o, copOf o'] [b, c] = false) :
    PE X (.Compare a [copOf o, copOf o'] [b, c] pos) (rE G cf (.chn o o' ca cb cc)) := by
  refine PE.imp (pe_chain (op_cmp hu o) (op_cmp hu o') ha hb hc hm) fun σ H Q h => ?_
  obtain ⟨φ, s, r, A, d, s', he, p⟩ := h
  simp only [ev] at he
  obtain ⟨x, s1, e1, he⟩ := bnd_inv he
  obtain ⟨y, s2, e2, he⟩ := bnd_inv he
  refine rd_step A e1 fun φ1 H1 v g1 A1 rv => ?_
  refine rd_step A1 e2 fun φ2 H2 w g2 A2 rw' => ?_
  split at he
  · rename_i hk
    obtain ⟨z, s3, e3, he⟩ := bnd_inv he
    obtain ⟨e4, rfl⟩ := lft_inv he
    refine cmp_ok (A2.hr.k.trans hK.symm) A2.hr (Rep.mono g2 x rv) rw' hk ⟨true, rfl, ?_⟩
    rw [if_pos rfl]
    refine rd_step A2 e3 fun φ3 H3 u g3 A3 ru => ?_
    cases hk' : cmpD s' o' y z with
    | none =>
      rw [hk'] at e4
      cases e4
    | some k =>
      rw [hk'] at e4
      cases e4
      exact cmp_ok (A3.hr.k.trans hK.symm) A3.hr (Rep.mono g3 y rw') ru hk' (Post.here A3.hr (Post.from ((g1.trans g2).trans g3) p) (by simp only [Rep]))
  · rename_i hk
    cases he
    refine cmp_ok (A2.hr.k.trans hK.symm) A2.hr (Rep.mono g2 x rv) rw' hk ⟨false, rfl, ?_⟩
    rw [if_neg Bool.false_ne_true]
    exact Post.here A2.hr (Post.from (g1.trans g2) p) (by simp only [Rep])
  · cases he
theorem t_chn {o o' : Cop} (hK : X.K = G.K) (hu : X.A.units + 4499 < cLine) (ha : PE X a (rE G cf ca)) (hb : PE X b (rE G cf cb)) (hc : PE X c (rE G cf cc)) (hm : lastMarks [copOf o, copOf o'] [b, c] = false) :
    PT X (.Compare a [copOf o, copOf o'] [b, c] pos) (rT G cf (.chn o o' ca cb cc)) := by
  refine PT.imp (pt_chain (op_cmp hu o) (op_cmp hu o') ha hb hc hm) fun σ H Q h => ?_
  obtain ⟨φ, s, r, A, k0, s', he, p⟩ := h
  unfold tst at he
  simp only [ev] at he
  obtain ⟨q, s0, e0, he⟩ := bnd_inv he
  obtain ⟨x, s1, e1, e0⟩ := bnd_inv e0
  obtain ⟨y, s2, e2, e0⟩ := bnd_inv e0
  obtain ⟨e5, rfl⟩ := lft_inv he
  refine rd_step A e1 fun φ1 H1 v g1 A1 rv => ?_
  refine rd_step A1 e2 fun φ2 H2 w g2 A2 rw' => ?_
  split at e0
  · rename_i hk
    obtain ⟨z, s3, e3, e0⟩ := bnd_inv e0
    obtain ⟨e4, rfl⟩ := lft_inv e0
    refine cmp_ok (A2.hr.k.trans hK.symm) A2.hr (Rep.mono g2 x rv) rw' hk ⟨true, rfl, ?_⟩
    rw [if_pos rfl]
    refine rd_step A2 e3 fun φ3 H3 u g3 A3 ru => ?_
    cases hk' : cmpD s' o' y z with
    | none =>
      rw [hk'] at e4
      cases e4
    | some k =>
      rw [hk'] at e4
      cases e4
      cases (show some k = some k0 from e5)
      exact cmp_ok (A3.hr.k.trans hK.symm) A3.hr (Rep.mono g3 y rw') ru hk' ⟨k0, rfl, p φ3 H3 k0 ((g1.trans g2).trans g3) A3.hr rfl⟩
  · rename_i hk
    cases e0
    cases (show some false = some k0 from e5)
    refine cmp_ok (A2.hr.k.trans hK.symm) A2.hr (Rep.mono g2 x rv) rw' hk ⟨false, rfl, ?_⟩
    rw [if_neg Bool.false_ne_true]
    exact ⟨false, rfl, p φ2 H2 false (g1.trans g2) A2.hr rfl⟩
  · cases e0
theorem c_ite (hc : PT X c (rT G cf cc)) (ha : PE X a (rE G cf ca)) (hb : PE X b (rE G cf cb)) : PE X (.IfExp c a b pos) (rE G cf (.ite cc ca cb)) := by
  refine PE.imp (pe_ifExp hc ha hb) fun σ H Q h => ?_
  obtain ⟨φ, s, r, A, d, s', he, p⟩ := h
  simp only [ev] at he
  obtain ⟨x, s1, e1, he⟩ := bnd_inv he
  have go : ∀ k, truth s1 x = some k → tst cf cc r s = some (.ok k, s1) := fun k hk => by
    unfold tst
    rw [e1]
    show lft (truth s1 x) s1 = _
    rw [hk]
    rfl
  split at he
  · rename_i hk
    refine rd_step A (go true hk) fun φ1 H1 v g1 A1 rv => ?_
    subst rv
    rw [if_pos rfl]
    exact ⟨φ1, s1, r, A1, d, s', he, fun φ' H' v g h q => p φ' H' v (g1.trans g) h q⟩
  · rename_i hk
    refine rd_step A (go false hk) fun φ1 H1 v g1 A1 rv => ?_
    subst rv
    rw [if_neg Bool.false_ne_true]
    exact ⟨φ1, s1, r, A1, d, s', he, fun φ' H' v g h q => p φ' H' v (g1.trans g) h q⟩
  · cases he
/-- any expression as a test -/
theorem t_gen (hK : X.K = G.K) (ha : PE X a (rE G cf ca)) (he : ∀ whole, isTrue a X.env whole = (do let v ← whole; standAt a.pos; holding [v] (truthy v))) : PT X a (rT G cf ca) := by
  refine PT.imp (pt_truth ha he) fun σ H Q h => ?_
  obtain ⟨φ, s, r, A, k, s', he, p⟩ := h
  unfold tst at he
  obtain ⟨x, s1, e1, he⟩ := bnd_inv he
  obtain ⟨e2, rfl⟩ := lft_inv he
  refine rd_step A e1 fun φ1 H1 v g1 A1 rv => ?_
  exact ⟨k, truth_ok (A1.hr.k.trans hK.symm) A1.hr rv e2, p φ1 H1 k g1 A1.hr rfl⟩
variable {es : List Expr} {ces : Es}
theorem c_nil : PA X [] (rA G cf .nil) := by
  refine PA.imp pa_nil fun σ H Q h => ?_
  obtain ⟨φ, s, r, A, d, s', he, p⟩ := h
  simp only [evs] at he
  cases he
  exact p φ H [] (Gr.refl _ _ _) A.hr RepL.nil
theorem c_cons (ha : PE X a (rE G cf ca)) (hb : PA X es (rA G cf ces)) (hs : starEach (a :: es) X.env = (false, eval a X.env) :: starEach es X.env) : PA X (a :: es) (rA G cf (.cons ca ces)) := by
  refine PA.imp (pa_cons ha hb hs) fun σ H Q h => ?_
  obtain ⟨φ, s, r, A, d, s', he, p⟩ := h
  simp only [evs] at he
  obtain ⟨x, s1, e1, he⟩ := bnd_inv he
  obtain ⟨xs, s2, e2, he⟩ := bnd_inv he
  cases he
  refine rd_step A e1 fun φ1 H1 v g1 A1 rv => ?_
  refine rd_step A1 e2 fun φ2 H2 vs g2 A2 rs => ?_
  refine p φ2 H2 (v :: vs) (g1.trans g2) A2.hr ?_
  simp only [RepL]
  exact ⟨v, vs, rfl, Rep.mono g2 x rv, rs⟩
theorem c_tup {k : Nat} (ha : PA X es (rA G cf ces)) : PE X (.Tuple es k pos) (rE G cf (.tup ces)) := by
  refine PE.imp (pe_tup ha) fun σ H Q h => ?_
  obtain ⟨φ, s, r, A, d, s', he, p⟩ := h
  simp only [ev] at he
  obtain ⟨xs, s1, e1, he⟩ := bnd_inv he
  split at he
  · rename_i hz
    cases he
    refine rd_step A e1 fun φ1 H1 vs g1 A1 rs => ?_
    exact ⟨by rw [rs.length, ← LIM_eq]; exact hz, Post.tup A1.hr (Post.from g1 p) rs⟩
  · cases he
theorem c_lst {bx : Bool} (ha : PA X es (rA G cf ces)) : PE X (.List es pos) (rE G cf (.lst bx ces)) := by
  refine PE.imp (pe_lst ha) fun σ H Q h => ?_
  obtain ⟨φ, s, r, A, d, s', he, p⟩ := h
  simp only [ev] at he
  obtain ⟨xs, s1, e1, he⟩ := bnd_inv he
  unfold mkLz at he
  split at he
  · rename_i hz
    refine rd_step A e1 fun φ1 H1 vs g1 A1 rs => ?_
    exact ⟨by rw [rs.length, ← LIM_eq]; exact hz, Post.lst A1.hr he (Post.from g1 p) rs⟩
  · cases he
theorem c_idx (hK : X.K = G.K) (hu : X.A.units + 4499 < cLine) (ha : PE X a (rE G cf ca)) (hb : PE X b (rE G cf cb)) (hs : PlainIx b) : PE X (.Subscript a b pos) (rE G cf (.idx ca cb)) := by
  refine ⟨fun pins s0 σ H Q I h => ?_⟩
  obtain ⟨φ, s, r, A, d, s', he, p⟩ := h
  simp only [ev] at he
  obtain ⟨x, s1, e1, he⟩ := bnd_inv he
  obtain ⟨y, s2, e2, he⟩ := bnd_inv he
  obtain ⟨e3, rfl⟩ := lft_inv he
  unfold idxD at e3
  split at e3
  · rename_i kvs hd
    refine (pe_dget (pos := pos) (by omega) ha hb hs).run pins s0 σ H Q I ?_
    refine rd_step A e1 fun φ1 H1 v g1 A1 rv => ?_
    refine rd_step A1 e2 fun φ2 H2 w g2 A2 rw' => ?_
    obtain ⟨n, q, ks, hn, rfl, h0, h1, h2, h3⟩ := dic_at A2.hr (Rep.mono g2 x rv) hd
    cases hk : keyOf y with
    | none =>
      rw [hk] at e3
      cases e3
    | some kk =>
      rw [hk] at e3
      have := key_ok rw' hk
      subst this
      obtain ⟨u, hv, ru⟩ := look_some h3 (show dlook kvs kk = some d from e3)
      exact ⟨q, u, rfl, by rw [← hv]; exact DGet.k h2, Post.here A2.hr (Post.from (g1.trans g2) p) ru⟩
  split at e3
  · rename_i kvs hd
    refine (pe_dget (pos := pos) (by omega) ha hb hs).run pins s0 σ H Q I ?_
    refine rd_step A e1 fun φ1 H1 v g1 A1 rv => ?_
    refine rd_step A1 e2 fun φ2 H2 w g2 A2 rw' => ?_
    obtain ⟨n, q, ks, hn, rfl, h0, h1, h2, h3⟩ := dit_at A2.hr (Rep.mono g2 x rv) hd
    cases hk : keyT y with
    | none =>
      rw [hk] at e3
      cases e3
    | some kk =>
      rw [hk] at e3
      obtain ⟨c, rfl, h4⟩ := keyT_ok rw' hk
      obtain ⟨u, hv, ru⟩ := look_someG kyT_inj h3 (show dlook kvs kk = some d from e3)
      exact ⟨q, u, rfl, by rw [← hv]; exact DGet.t h2 h4, Post.here A2.hr (Post.from (g1.trans g2) p) ru⟩
  · refine (pe_ix (pos := pos) ix_seq ha hb hs).run pins s0 σ H Q I ?_
    refine rd_step A e1 fun φ1 H1 v g1 A1 rv => ?_
    refine rd_step A1 e2 fun φ2 H2 w g2 A2 rw' => ?_
    exact idx_ok (A2.hr.k.trans hK.symm) A2.hr (Rep.mono g2 x rv) rw' e3 (Post.from (g1.trans g2) p)
/-- a new dict for tuples -/
theorem c_dnt {pos : Pos} : PE X (.Dict [] [] pos) (rE G cf .dnt) := by
  refine PE.imp pe_dnewT fun σ H Q h => ?_
  obtain ⟨φ, s, r, A, d, s', he, p⟩ := h
  simp only [ev] at he
  cases he
  intro q hq
  refine p (bx φ s.nx q) _ _ (Gr.box A.hr hq) (A.hr.box hq ⟨[], upd_same, rfl⟩) ?_
  simp only [Rep]
  exact ⟨q, rfl, by show (if s.nx = s.nx then some q else φ s.nx) = some q; rw [if_pos rfl]⟩
theorem dcont_isD {φ : Mp} {s : S} {H : Hp} {x : D} {v : V} (h : HR G φ s H) (r : Rep φ s H x v) (e : (dcont s x).isSome = true ∨ (tcont s x).isSome = true) : ∃ q, v = .ref q ∧ IsD H q := by
  rcases e with e | e
  · obtain ⟨kvs, hk⟩ := Option.isSome_iff_exists.mp e
    obtain ⟨n, q, ks, _, rfl, _, _, h2, _⟩ := dic_at h r hk
    exact ⟨q, rfl, .inl ⟨ks, .inl h2⟩⟩
  · obtain ⟨kvs, hk⟩ := Option.isSome_iff_exists.mp e
    obtain ⟨n, q, ks, _, rfl, _, _, h2, _⟩ := dit_at h r hk
    exact ⟨q, rfl, .inr ⟨ks, .inl h2⟩⟩
/-- d.get(k, z) -/
theorem c_dgv {o e f : Expr} {co ce cz : E} {ap cp : Pos} (hu : X.A.units + 4499 < cLine) (ho : PE X o (rE G cf co)) (he : PE X e (rE G cf ce)) (hf : PE X f (rE G cf cz)) (m : M2 X o "get" ap e f cp) : PE X (.Call (.Attribute o "get" ap) [e, f] [] cp) (rE G cf (.dgv co ce cz)) := by
  refine PE.imp (pe_dget2 (by omega) ho he hf m) fun σ H Q h => ?_
  obtain ⟨φ, s, r, A, d, s', he, p⟩ := h
  simp only [ev] at he
  obtain ⟨x, s1, e1, he⟩ := bnd_inv he
  split at he
  · rename_i hD
    rw [Bool.or_eq_true] at hD
    obtain ⟨y, s2, e2, he⟩ := bnd_inv he
    obtain ⟨z, s3, e3, he⟩ := bnd_inv he
    refine rd_step A e1 fun φ1 H1 v g1 A1 rv => ?_
    obtain ⟨q, rfl, hq⟩ := dcont_isD A1.hr rv hD
    refine ⟨q, rfl, hq, rd_step A1 e2 fun φ2 H2 vy g2 A2 ry => rd_step A2 e3 fun φ3 H3 vz g3 A3 rz => ?_⟩
    have rx := Rep.mono g3 _ (Rep.mono g2 _ rv)
    have ry' := Rep.mono g3 _ ry
    have P := Post.from ((g1.trans g2).trans g3) p
    unfold dgvD at he
    split at he
    · rename_i kvs hd
      split at he
      · rename_i kk hk
        cases he
        obtain ⟨n, q', ks, rfl, e4, h0, h1, h2, h3⟩ := dic_at A3.hr rx hd
        cases e4
        have := key_ok ry' hk
        subst this
        refine ⟨_, DGet.k h2, ?_⟩
        have L := look_okG ky_inj kk h3
        cases e5 : dlook kvs kk with
        | none =>
          rw [e5] at L P
          rw [L]
          exact Post.here A3.hr P rz
        | some dd =>
          rw [e5] at L P
          obtain ⟨u, L1, L2⟩ := L
          rw [L1]
          exact Post.here A3.hr P L2
      · cases he
    · split at he
      · rename_i kvs hd
        split at he
        · rename_i kk hk
          cases he
          obtain ⟨n, q', ks, rfl, e4, h0, h1, h2, h3⟩ := dit_at A3.hr rx hd
          cases e4
          obtain ⟨c, rfl, h4⟩ := keyT_ok ry' hk
          refine ⟨_, DGet.t h2 h4, ?_⟩
          have L := look_okG kyT_inj kk h3
          cases e5 : dlook kvs kk with
          | none =>
            rw [e5] at L P
            rw [L]
            exact Post.here A3.hr P rz
          | some dd =>
            rw [e5] at L P
            obtain ⟨u, L1, L2⟩ := L
            rw [L1]
            exact Post.here A3.hr P L2
        · cases he
      · cases he
  · cases he
/-- repr(e) -/
theorem c_rpr {p : Pos} (hK : X.K = G.K) (hu : X.A.units + 4499 < cLine) (hgd : X.A.guards = some []) (hg : Gl X "repr") (hm : X.mg "repr" = none) (ha : PE X a (rE G cf ca)) (ns : starEach [a] X.env = (false, eval a X.env) :: starEach [] X.env) :
    PE X (.Call (.Name "repr" p) [a] [] pos) (rE G cf (.rpr ca)) := by
  refine PE.imp (pe_callB (call_repr hu hgd) hg hm PyProof.Rows.boot_repr (pa_cons ha pa_nil ns) (by decide) (by decide) ns rfl) fun σ H Q h => ?_
  obtain ⟨φ, s, r, A, d, s', he, p⟩ := h
  simp only [ev] at he
  obtain ⟨x, s1, e1, he⟩ := bnd_inv he
  obtain ⟨e2, rfl⟩ := lft_inv he
  refine rd_step A e1 fun φ1 H1 v g1 A1 rv => ?_
  unfold reprD at e2
  obtain ⟨z, e3, e2⟩ := Option.bind_eq_some_iff.mp e2
  split at e2
  · rename_i hz
    cases e2
    unfold rpOk at hz
    simp only [Bool.and_eq_true, decide_eq_true_eq] at hz
    obtain ⟨⟨⟨h1, h2⟩, h3⟩, h4⟩ := hz
    refine ⟨v, z, rfl, pdO_dq (A1.hr.k.trans hK.symm) A1.hr _ x e3 rv, h1, h3, ?_, Post.here A1.hr (Post.from g1 p) ?_⟩
    · have := PyData.shown_le 120 (by decide) z h2
      rw [sizeLine_eq]
      omega
    · simp only [Rep]
  · cases e2
/-- a slice's part -/
abbrev rO (G : Glob) (cf : CF) (c : Oe) : TO := rd G (evO cf c) (fun _ _ _ a b => a = b)
theorem PO.imp {o : Option Expr} {t t' : TO} (h : PO X o t) (k : ∀ σ H Q, t' σ H Q → t σ H Q) : PO X o t' := ⟨fun pins s σ H Q I q => h.run pins s σ H Q I (k σ H Q q)⟩
theorem c_no : PO X none (rO G cf .no) := by
  refine PO.imp po_none fun σ H Q h => ?_
  obtain ⟨φ, s, r, A, d, s', he, p⟩ := h
  simp only [evO] at he
  cases he
  exact p φ H none (Gr.refl _ _ _) A.hr rfl
theorem c_so (ha : PE X a (rE G cf ca)) : PO X (some a) (rO G cf (.so ca)) := by
  refine PO.imp (po_some ha) fun σ H Q h => ?_
  obtain ⟨φ, s, r, A, d, s', he, p⟩ := h
  simp only [evO] at he
  obtain ⟨x, s1, e1, he⟩ := bnd_inv he
  split at he
  · cases he
    refine rd_step A e1 fun φ1 H1 v g1 A1 rv => ?_
    simp only [Rep] at rv
    exact ⟨_, rv, p φ1 H1 _ g1 A1.hr rfl⟩
  · cases he
theorem c_sl {bx : Bool} {lo hi : Option Expr} {clo chi : Oe} {p2 : Pos} (hK : X.K = G.K) (ha : PE X a (rE G cf ca)) (hl : PO X lo (rO G cf clo)) (hh : PO X hi (rO G cf chi)) : PE X (.Subscript a (.Slice lo hi none p2) pos) (rE G cf (.sl bx ca clo chi)) := by
  refine PE.imp (pe_slice sl_all ha hl hh) fun σ H Q h => ?_
  obtain ⟨φ, s, r, A, d, s', he, p⟩ := h
  simp only [ev] at he
  obtain ⟨x, s1, e1, he⟩ := bnd_inv he
  obtain ⟨l, s2, e2, he⟩ := bnd_inv he
  obtain ⟨u, s3, e3, he⟩ := bnd_inv he
  refine rd_step A e1 fun φ1 H1 v g1 A1 rv => ?_
  refine rd_step A1 e2 fun φ2 H2 l' g2 A2 rl => ?_
  refine rd_step A2 e3 fun φ3 H3 u' g3 A3 ru => ?_
  subst rl ru
  have he' : slD s3 bx x l u = some (.ok d, s') := by
    unfold slD
    exact he
  exact sl_ok (A3.hr.k.trans hK.symm) A3.hr (Rep.mono g3 x (Rep.mono g2 x rv)) he' (Post.from ((g1.trans g2).trans g3) p)
theorem c_frz (ha : PE X a (rE G cf ca)) : PE X a (rE G cf (.frz ca)) := by
  refine PE.imp ha fun σ H Q h => ?_
  obtain ⟨φ, s, r, A, d, s', he, p⟩ := h
  simp only [ev] at he
  obtain ⟨x, s1, e1, he⟩ := bnd_inv he
  refine rd_step A e1 fun φ1 H1 v g1 A1 rv => ?_
  unfold frzD at he
  split at he
  · rename_i n
    split at he
    · rename_i xs hn
      cases he
      obtain ⟨q, vs, rfl, hq, h1, h2⟩ := box_at A1.hr rv hn
      have g : Gr φ1 s1 H1 φ1 (s1.kill n) H1 := Gr.kill n
      refine p φ1 H1 _ (g1.trans g) (A1.hr.kill n) ?_
      simp only [Rep]
      refine ⟨q, vs, rfl, h1, ⟨A1.hr.np n q hq, fun m hm => ?_⟩, RepL.mono g xs h2⟩
      have := A1.hr.inj m n q hm hq
      subst this
      show (if m = m then none else s1.m m) = none
      rw [if_pos rfl]
    · cases he
  · cases he
    exact p φ1 H1 v g1 A1.hr rv
  · cases he
theorem c_one {op : BoolOp} (ha : PE X a (rE G cf ca)) : PE X (.BoolOp op [a] pos) (rE G cf ca) := pe_one ha
theorem c_andL (ha : PE X a (rE G cf ca)) {t : Es} (hb : PE X (.BoolOp .And (b :: es) pos) (rd G (evAnd cf (.cons cb t)) Rep)) : PE X (.BoolOp .And (a :: b :: es) pos) (rd G (evAnd cf (.cons ca (.cons cb t))) Rep) := by
  refine PE.imp (pe_and ha hb) fun σ H Q h => ?_
  obtain ⟨φ, s, r, A, d, s', he, p⟩ := h
  simp only [evAnd] at he
  obtain ⟨x, s1, e1, he⟩ := bnd_inv he
  refine rd_step A e1 fun φ1 H1 v g1 A1 rv => ?_
  split at he
  · simp only [Rep] at rv
    refine ⟨true, rv, ?_⟩
    rw [if_pos rfl]
    exact ⟨φ1, s1, r, A1, d, s', by simpa only [evAnd] using he, fun φ' H' w g h q => p φ' H' w (g1.trans g) h q⟩
  · cases he
    simp only [Rep] at rv
    refine ⟨false, rv, ?_⟩
    rw [if_neg Bool.false_ne_true]
    exact p φ1 H1 _ g1 A1.hr (by simp only [Rep])
  · cases he
theorem c_orL (ha : PE X a (rE G cf ca)) {t : Es} (hb : PE X (.BoolOp .Or (b :: es) pos) (rd G (evOr cf (.cons cb t)) Rep)) : PE X (.BoolOp .Or (a :: b :: es) pos) (rd G (evOr cf (.cons ca (.cons cb t))) Rep) := by
  refine PE.imp (pe_or ha hb) fun σ H Q h => ?_
  obtain ⟨φ, s, r, A, d, s', he, p⟩ := h
  simp only [evOr] at he
  obtain ⟨x, s1, e1, he⟩ := bnd_inv he
  refine rd_step A e1 fun φ1 H1 v g1 A1 rv => ?_
  split at he
  · cases he
    simp only [Rep] at rv
    refine ⟨true, rv, ?_⟩
    rw [if_pos rfl]
    exact p φ1 H1 _ g1 A1.hr (by simp only [Rep])
  · simp only [Rep] at rv
    refine ⟨false, rv, ?_⟩
    rw [if_neg Bool.false_ne_true]
    exact ⟨φ1, s1, r, A1, d, s', by simpa only [evOr] using he, fun φ' H' w g h q => p φ' H' w (g1.trans g) h q⟩
  · cases he
/-- a list of ands as a test -/
def tstL (f : Sl → S → R D) : Sl → S → R Bool := fun r s => bnd (f r s) fun x s => lft (truth s x) s
abbrev rTL (G : Glob) (f : Sl → S → R D) : TT := rd G (tstL f) (fun _ _ _ a b => a = b)
theorem tst_of {φ : Mp} {s s1 : S} {r : Sl} {k : Bool} {f : Sl → S → R D} {x : D} (e : f r s = some (.ok x, s1)) (hk : truth s1 x = some k) : tstL f r s = some (.ok k, s1) := by
  unfold tstL
  rw [e]
  show lft (truth s1 x) s1 = _
  rw [hk]
  rfl
theorem w_and1 (ha : PT X a (rT G cf ca)) : PW X (.BoolOp .And [a] pos) (rTL G (evAnd cf (.cons ca .nil))) := by
  refine PW.imp (pw_and1 ha) fun σ H Q h => ?_
  obtain ⟨φ, s, r, A, k, s', he, p⟩ := h
  exact ⟨φ, s, r, A, k, s', by unfold tstL at he; simp only [evAnd] at he; exact he, p⟩
theorem w_or1 (ha : PT X a (rT G cf ca)) : PW X (.BoolOp .Or [a] pos) (rTL G (evOr cf (.cons ca .nil))) := by
  refine PW.imp (pw_or1 ha) fun σ H Q h => ?_
  obtain ⟨φ, s, r, A, k, s', he, p⟩ := h
  exact ⟨φ, s, r, A, k, s', by unfold tstL at he; simp only [evOr] at he; exact he, p⟩
theorem w_and (ha : PT X a (rT G cf ca)) {t : Es} (hb : PW X (.BoolOp .And (b :: es) pos) (rTL G (evAnd cf (.cons cb t)))) : PW X (.BoolOp .And (a :: b :: es) pos) (rTL G (evAnd cf (.cons ca (.cons cb t)))) := by
  refine PW.imp (pw_and ha hb) fun σ H Q h => ?_
  obtain ⟨φ, s, r, A, k, s', he, p⟩ := h
  unfold tstL at he
  simp only [evAnd] at he
  obtain ⟨y, s2, e1, he⟩ := bnd_inv he
  obtain ⟨x, s1, e0, e1⟩ := bnd_inv e1
  obtain ⟨e2, rfl⟩ := lft_inv he
  split at e1
  · refine rd_step A (tst_of (φ := φ) e0 rfl) fun φ1 H1 v g1 A1 rv => ?_
    subst rv
    rw [if_pos rfl]
    exact ⟨φ1, s1, r, A1, k, s', tst_of (φ := φ) (by simpa only [evAnd] using e1) e2, fun φ' H' w g h q => p φ' H' w (g1.trans g) h q⟩
  · cases e1
    refine rd_step A (tst_of (φ := φ) e0 rfl) fun φ1 H1 v g1 A1 rv => ?_
    subst rv
    rw [if_neg Bool.false_ne_true]
    cases (show some false = some k from e2)
    exact p φ1 H1 _ g1 A1.hr rfl
  · cases e1
theorem w_or (ha : PT X a (rT G cf ca)) {t : Es} (hb : PW X (.BoolOp .Or (b :: es) pos) (rTL G (evOr cf (.cons cb t)))) : PW X (.BoolOp .Or (a :: b :: es) pos) (rTL G (evOr cf (.cons ca (.cons cb t)))) := by
  refine PW.imp (pw_or ha hb) fun σ H Q h => ?_
  obtain ⟨φ, s, r, A, k, s', he, p⟩ := h
  unfold tstL at he
  simp only [evOr] at he
  obtain ⟨y, s2, e1, he⟩ := bnd_inv he
  obtain ⟨x, s1, e0, e1⟩ := bnd_inv e1
  obtain ⟨e2, rfl⟩ := lft_inv he
  split at e1
  · cases e1
    refine rd_step A (tst_of (φ := φ) e0 rfl) fun φ1 H1 v g1 A1 rv => ?_
    subst rv
    rw [if_pos rfl]
    cases (show some true = some k from e2)
    exact p φ1 H1 _ g1 A1.hr rfl
  · refine rd_step A (tst_of (φ := φ) e0 rfl) fun φ1 H1 v g1 A1 rv => ?_
    subst rv
    rw [if_neg Bool.false_ne_true]
    exact ⟨φ1, s1, r, A1, k, s', tst_of (φ := φ) (by simpa only [evOr] using e1) e2, fun φ' H' w g h q => p φ' H' w (g1.trans g) h q⟩
  · cases e1
/-- a def's promise by a function of data and store -/
def spF (G : Glob) (f : List D → S → R D) (n : Nat) : Sp := fun vs H Q _ => vs.length = n ∧ ∃ φ s ds, HR G φ s H ∧ RepL φ s H ds vs ∧ ∃ d s', f ds s = some (.ok d, s') ∧ Post G φ s H s' d Q
theorem spF_of {φ : Mp} {s s' : S} {H : Hp} {ds : List D} {vs : List V} {d : D} {Q : VK} {E : XK} {f : List D → S → R D} {n : Nat} (h : HR G φ s H) (r : RepL φ s H ds vs) (hn : ds.length = n) (e : f ds s = some (.ok d, s')) (p : Post G φ s H s' d Q) : spF G f n vs H Q E :=
  ⟨by rw [r.length]; exact hn, φ, s, ds, h, r, d, s', e, p⟩
/-- the def f stands, and keeps its promise -/
structure FnAt (G : Glob) (X : Cx) (x : Str) (f : List D → S → R D) (n : Nat) : Prop where
  at_ : ∃ (a : Addr) (fd : FuncData) (ps : List Str) (j : Nat), X.mg x = some (.ref a) ∧ PySem.W.keepIn X.K (.ref a) = true ∧ Binds X.K fd ps [] ∧ RmG j X.A ∧ ps.length = n ∧ FnG X.prog X.w X.K X.mg X.base CX0 j a fd ps (spF G f n)
  len : ∀ ds s d s', f ds s = some (.ok d, s') → ds.length = n
theorem c_call {x : Str} {p : Pos} {f : String} {n : Nat} (F : FnAt G X x (cf "" f) n) (hg : Gl X x) (ha : PA X (e :: es) (rA G cf ces)) (hdb : (x == ("__debug__" : Str)) = false) (he : starEach (e :: es) X.env = (false, eval e X.env) :: starEach es X.env)
    (hpl : (backTo pos (starEach es X.env)).any (·.1) = false) : PE X (.Call (.Name x p) (e :: es) [] pos) (rE G cf (.call f ces)) := by
  obtain ⟨⟨a, fd, ps, j, hm, hk, hb, hr, hn, ok⟩, hl⟩ := F
  refine PE.imp (pg_call (ok.runs (E := fun _ => E0) hr hb (fun _ => passAt0)) hg hm hk ha hdb he hpl) fun σ H Q h => ?_
  obtain ⟨φ, s, r, A, d, s', he, p⟩ := h
  simp only [ev] at he
  obtain ⟨xs, s1, e1, he⟩ := bnd_inv he
  refine rd_step A e1 fun φ1 H1 vs g1 A1 rs => ?_
  exact spF_of A1.hr rs (hl _ _ _ _ he) he (Post.from g1 p)
theorem c_call0 {x : Str} {p : Pos} {f : String} {n : Nat} (F : FnAt G X x (cf "" f) n) (hg : Gl X x) (hdb : (x == ("__debug__" : Str)) = false) : PE X (.Call (.Name x p) [] [] pos) (rE G cf (.call f .nil)) := by
  obtain ⟨⟨a, fd, ps, j, hm, hk, hb, hr, hn, ok⟩, hl⟩ := F
  refine PE.imp (pg_call0 (ok.runs (E := fun _ => E0) hr hb (fun _ => passAt0)) hg hm hk hdb) fun σ H Q h => ?_
  obtain ⟨φ, s, r, A, d, s', he, p⟩ := h
  simp only [ev, evs] at he
  obtain ⟨xs, s1, e1, he⟩ := bnd_inv he
  cases e1
  show spF G _ n [] H Q E0
  exact spF_of A.hr RepL.nil (hl _ _ _ _ he) he p
/-- a built-in by its name -/
theorem c_bi {x : Str} {p : Pos} {id : String} {bi : Bi} {rr : List V → Hp → VK → Prop} (hc : CallR X (.builtin id) rr) (hg : Gl X x) (hm : X.mg x = none) (hv : bootBuiltins x = some (.builtin id)) (ha : PA X (e :: es) (rA G cf ces)) (hn : x ≠ "__name__") (hdb : (x == ("__debug__" : Str)) = false)
    (he : starEach (e :: es) X.env = (false, eval e X.env) :: starEach es X.env) (hpl : (backTo pos (starEach es X.env)).any (·.1) = false)
    (ok : ∀ {φ : Mp} {s s' : S} {H : Hp} {ds : List D} {vs : List V} {d : D} {Q : VK}, HR G φ s H → RepL φ s H ds vs → biD s bi ds = some (.ok d, s') → Post G φ s H s' d Q → rr vs H Q) : PE X (.Call (.Name x p) (e :: es) [] pos) (rE G cf (.bi bi ces)) := by
  refine PE.imp (pe_callB hc hg hm hv ha hn hdb he hpl) fun σ H Q h => ?_
  obtain ⟨φ, s, r, A, d, s', he, p⟩ := h
  simp only [ev] at he
  obtain ⟨xs, s1, e1, he⟩ := bnd_inv he
  refine rd_step A e1 fun φ1 H1 vs g1 A1 rs => ?_
  exact ok A1.hr rs he (Post.from g1 p)
theorem c_ty {x : Str} {p : Pos} {T : String} {bi : Bi} {rr : List V → Hp → VK → Prop} (hc : CallR X (.type T) rr) (hg : Gl X x) (hm : X.mg x = none) (hv : bootBuiltins x = some (.type T)) (ha : PA X (e :: es) (rA G cf ces)) (hn : x ≠ "__name__") (hdb : (x == ("__debug__" : Str)) = false)
    (he : starEach (e :: es) X.env = (false, eval e X.env) :: starEach es X.env) (hpl : (backTo pos (starEach es X.env)).any (·.1) = false)
    (ok : ∀ {φ : Mp} {s s' : S} {H : Hp} {ds : List D} {vs : List V} {d : D} {Q : VK}, HR G φ s H → RepL φ s H ds vs → biD s bi ds = some (.ok d, s') → Post G φ s H s' d Q → rr vs H Q) : PE X (.Call (.Name x p) (e :: es) [] pos) (rE G cf (.bi bi ces)) := by
  refine PE.imp (pe_callTy hc hg hm hv ha hn hdb he hpl) fun σ H Q h => ?_
  obtain ⟨φ, s, r, A, d, s', he, p⟩ := h
  simp only [ev] at he
  obtain ⟨xs, s1, e1, he⟩ := bnd_inv he
  refine rd_step A e1 fun φ1 H1 vs g1 A1 rs => ?_
  exact ok A1.hr rs he (Post.from g1 p)
/-- isinstance(a, T) -/
theorem c_isi {p p2 : Pos} {t : Ty} {y : Str} (hK : X.K = G.K) (hg : Gl X "isinstance") (hm : X.mg "isinstance" = none) (ha : PE X a (rE G cf ca)) (hb : PE X b (tC (.ty (tyS t)))) (ns : starEach [a, b] X.env = (false, eval a X.env) :: starEach [b] X.env) (ns2 : starEach [b] X.env = (false, eval b X.env) :: starEach [] X.env)
    (hpl : (backTo pos (starEach [b] X.env)).any (·.1) = false) : PE X (.Call (.Name "isinstance" p) [a, b] [] pos) (rE G cf (.isi ca t)) := by
  refine PE.imp (pe_callB call_isi hg hm PyProof.Rows.boot_isinstance (pa_cons ha (pa_cons hb pa_nil ns2) ns) (by decide) (by decide) ns hpl) fun σ H Q h => ?_
  obtain ⟨φ, s, r, A, d, s', he, p⟩ := h
  simp only [ev] at he
  obtain ⟨x, s1, e1, he⟩ := bnd_inv he
  obtain ⟨e2, rfl⟩ := lft_inv he
  refine rd_step A e1 fun φ1 H1 v g1 A1 rv => ?_
  cases hk : isiD s' x t with
  | none =>
    rw [hk] at e2
    cases e2
  | some k =>
    rw [hk] at e2
    cases e2
    exact isi_ok (A1.hr.k.trans hK.symm) A1.hr rv hk (Post.here A1.hr (Post.from g1 p) (by simp only [Rep]))
/-- isinstance(a, (T, ..)) -/
theorem c_isit {p : Pos} {ts : List Ty} {tup : Expr} (hK : X.K = G.K) (hg : Gl X "isinstance") (hm : X.mg "isinstance" = none) (ha : PE X a (rE G cf ca)) (hb : PE X tup fun _ H Q => ∀ q, H q = none → Q (.ref q) (upd H q (.tup (ts.map fun t => V.ty (tyS t))))) (ns : starEach [a, tup] X.env = (false, eval a X.env) :: starEach [tup] X.env) (ns2 : starEach [tup] X.env = (false, eval tup X.env) :: starEach [] X.env)
    (hpl : (backTo pos (starEach [tup] X.env)).any (·.1) = false) : PE X (.Call (.Name "isinstance" p) [a, tup] [] pos) (rE G cf (.isit ca ts)) := by
  refine PE.imp (pe_callB call_isiT hg hm PyProof.Rows.boot_isinstance (pa_cons ha (pa_cons hb pa_nil ns2) ns) (by decide) (by decide) ns hpl) fun σ H Q h => ?_
  obtain ⟨φ, s, r, A, d, s', he, p⟩ := h
  simp only [ev] at he
  obtain ⟨x, s1, e1, he⟩ := bnd_inv he
  obtain ⟨e2, rfl⟩ := lft_inv he
  refine rd_step A e1 fun φ1 H1 v g1 A1 rv => ?_
  intro q hq
  have gg : Gr φ1 s' H1 φ1 s' (upd H1 q (.tup (ts.map fun t => V.ty (tyS t)))) := Gr.free A1.hr hq
  have hr' := A1.hr.free (o := .tup (ts.map fun t => V.ty (tyS t))) hq
  cases hk : isiTD s' x ts with
  | none =>
    rw [hk] at e2
    cases e2
  | some k =>
    rw [hk] at e2
    cases e2
    exact isiT_ok (hr'.k.trans hK.symm) hr' (Rep.mono gg x rv) hk upd_same (Post.here hr' (Post.from (g1.trans gg) p) (by simp only [Rep]))
/-- list(range(n)) -/
theorem c_lrng {bx : Bool} {p p2 pos2 : Pos} (hc : X.calm = true) (hgl : Gl X "list") (hml : X.mg "list" = none) (hgr : Gl X "range") (hmr : X.mg "range" = none) (ha : PE X a (rE G cf ca)) (na : starEach [a] X.env = (false, eval a X.env) :: starEach [] X.env) :
    PE X (.Call (.Name "list" p) [.Call (.Name "range" p2) [a] [] pos2] [] pos) (rE G cf (.lrng bx ca)) := by
  refine PE.imp (pe_listRg hc hgl hml (prg_1 hgr hmr ha na)) fun σ H Q h => ?_
  obtain ⟨φ, s, r, A, d, s', he, p⟩ := h
  simp only [ev] at he
  obtain ⟨x, s1, e1, he⟩ := bnd_inv he
  have he' : lrngD s1 bx [x] = some (.ok d, s') := he
  unfold lrngD at he'
  refine rd_step A e1 fun φ1 H1 v g1 A1 rv => ?_
  split at he'
  · rename_i n hx
    cases hx
    split at he'
    · rename_i hz
      simp only [Rep] at rv
      refine ⟨n, rv, ⟨by omega, by omega, by omega, by omega, by omega⟩, Post.lst A1.hr he' (Post.from g1 p) ?_⟩
      unfold rngL rgV
      have h0 : (n - 0).toNat = n.toNat := by omega
      rw [h0]
      have go : ∀ l : List Nat, RepL φ1 s1 H1 (l.map fun i => D.int (i : Nat)) (l.map fun i => V.int (0 + (i : Nat))) := fun l => by
        induction l with
        | nil => exact RepL.nil
        | cons i l ih =>
          rw [List.map_cons, List.map_cons]
          simp only [RepL]
          refine ⟨_, _, rfl, ?_, ih⟩
          simp only [Rep]
          rw [Int.zero_add]
      exact go _
    · cases he'
  · cases he'
/-- a built-in type's method -/
theorem c_met {T id : String} {name : Str} {apos cpos : Pos} {m : Mt} {rr : V → List V → Hp → VK → Prop} (pa : PlainAttrs T) (slot : Slot T name id) (hty : typeOf (.builtin id) = pure (.type "method_descriptor")) (hm : MtR X id rr) (ho : PE X a (rE G cf ca)) (ha : PA X (e :: es) (rA G cf ces))
    (hbase : attributeBase a name X.env (eval a X.env) = eval a X.env)
    (hfew : ((backTo cpos (starEach (e :: es) X.env)).all (fun x => !x.1) && (backToKw cpos (keywordEach [] X.env)).all (fun x => x.1.isSome)
      && decide ((e :: es).length + ([] : List Keyword).length + (if ([] : List Keyword).isEmpty then 0 else 1) < 30)) = true)
    (hline : (apos.endLine == cpos.line) = true) (hs : starEach (e :: es) X.env = (false, eval e X.env) :: starEach es X.env) (hplain : (backTo cpos (starEach es X.env)).any (·.1) = false)
    (ty : ∀ {φ : Mp} {s : S} {H : Hp} {x : D} {v : V}, HR G φ s H → Rep φ s H x v → mtOk s m x = true → tyV X.K T v H)
    (ok : ∀ {φ : Mp} {s s' : S} {H : Hp} {x : D} {ds : List D} {v : V} {vs : List V} {d : D} {Q : VK}, HR G φ s H → Rep φ s H x v → RepL φ s H ds vs → metD s m x ds = some (.ok d, s') → Post G φ s H s' d Q → rr v vs H Q) :
    PE X (.Call (.Attribute a name apos) (e :: es) [] cpos) (rE G cf (.met m ca ces)) := by
  refine PE.imp (pe_bm pa slot hty hm ho ha hbase hfew hline hs hplain) fun σ H Q h => ?_
  obtain ⟨φ, s, r, A, d, s', he, p⟩ := h
  simp only [ev] at he
  obtain ⟨x, s1, e1, he⟩ := bnd_inv he
  refine rd_step A e1 fun φ1 H1 v g1 A1 rv => ?_
  split at he
  · rename_i hk
    obtain ⟨xs, s2, e2, he⟩ := bnd_inv he
    refine ⟨ty A1.hr rv hk, ?_⟩
    refine rd_step A1 e2 fun φ2 H2 vs g2 A2 rs => ?_
    exact ok A2.hr (Rep.mono g2 x rv) rs he (Post.from (g1.trans g2) p)
  · cases he
theorem c_met0 {T id : String} {name : Str} {apos cpos : Pos} {m : Mt} {rr : V → List V → Hp → VK → Prop} (pa : PlainAttrs T) (slot : Slot T name id) (hty : typeOf (.builtin id) = pure (.type "method_descriptor")) (hm : MtR X id rr) (ho : PE X a (rE G cf ca))
    (hbase : attributeBase a name X.env (eval a X.env) = eval a X.env) (hline : (apos.endLine == cpos.line) = true)
    (ty : ∀ {φ : Mp} {s : S} {H : Hp} {x : D} {v : V}, HR G φ s H → Rep φ s H x v → mtOk s m x = true → tyV X.K T v H)
    (ok : ∀ {φ : Mp} {s s' : S} {H : Hp} {x : D} {ds : List D} {v : V} {vs : List V} {d : D} {Q : VK}, HR G φ s H → Rep φ s H x v → RepL φ s H ds vs → metD s m x ds = some (.ok d, s') → Post G φ s H s' d Q → rr v vs H Q) :
    PE X (.Call (.Attribute a name apos) [] [] cpos) (rE G cf (.met m ca .nil)) := by
  refine PE.imp (pe_bm0 pa slot hty hm ho hbase hline) fun σ H Q h => ?_
  obtain ⟨φ, s, r, A, d, s', he, p⟩ := h
  simp only [ev] at he
  obtain ⟨x, s1, e1, he⟩ := bnd_inv he
  refine rd_step A e1 fun φ1 H1 v g1 A1 rv => ?_
  split at he
  · rename_i hk
    simp only [evs] at he
    obtain ⟨xs, s2, e2, he⟩ := bnd_inv he
    cases e2
    exact ⟨ty A1.hr rv hk, ok A1.hr rv RepL.nil he (Post.from g1 p)⟩
  · cases he
theorem ty_list {φ : Mp} {s : S} {H : Hp} {x : D} {v : V} {K : PySem.W.Frag} (hkk : φ.K = K) (h : HR G φ s H) (r : Rep φ s H x v) (e : (lcont s x).isSome = true) : tyV K "list" v H := by
  obtain ⟨xs, hx⟩ := Option.isSome_iff_exists.mp e
  obtain ⟨p, vs, rfl, h1, _⟩ := r.lcont h hx
  exact .inl ⟨rfl, vs, by rw [← hkk]; exact h1⟩
theorem ty_strU {φ : Mp} {s : S} {H : Hp} {x : D} {v : V} {K : PySem.W.Frag} (r : Rep φ s H x v) (e : mtOk s .upper x = true) : tyV K "str" v H := by
  cases x with
  | str y =>
    simp only [Rep] at r
    subst r
    exact rfl
  | _ => cases e
theorem ty_str {φ : Mp} {s : S} {H : Hp} {x : D} {v : V} {K : PySem.W.Frag} (r : Rep φ s H x v) (e : mtOk s .join x = true) : tyV K "str" v H := by
  cases x with
  | str y =>
    simp only [Rep] at r
    subst r
    exact rfl
  | _ => cases e
theorem ofS_inj {a b : String} (h : Str.ofString a = Str.ofString b) : a = b := by
  rw [Str.ofString_eq_toList, Str.ofString_eq_toList] at h
  have h1 : a.toList.map Char.toNat = b.toList.map Char.toNat := by
    have := congrArg (fun z : Str => z.cps.toList) h
    simpa using this
  have h2 : a.toList = b.toList := by
    have go : ∀ l m : List Char, l.map Char.toNat = m.map Char.toNat → l = m := fun l => by
      induction l with
      | nil =>
        intro m hm
        cases m with
        | nil => rfl
        | cons c m => cases hm
      | cons c l ih =>
        intro m hm
        cases m with
        | nil => cases hm
        | cons d m =>
          rw [List.map_cons, List.map_cons, List.cons.injEq] at hm
          rw [ih m hm.2, Char.toNat_inj.mp hm.1]
    exact go _ _ h1
  exact String.toList_inj.mp h2
theorem ofS_beq (a b : String) : (Str.ofString a == Str.ofString b) = (a == b) := by
  rw [Bool.eq_iff_iff, beq_iff_eq, beq_iff_eq]
  exact ⟨ofS_inj, fun h => by rw [h]⟩
theorem fr_none {φ : Mp} {s : S} {H : Hp} {f : String} : ∀ {fs : List (String × D)} {gs : List (Str × V)}, FR φ s H fs gs → fs.lookup f = none → gs.lookup (Str.ofString f) = none
  | [], gs, h, _ => by
    simp only [FR] at h
    subst h
    rfl
  | (g, d) :: fs, gs, h, e => by
    obtain ⟨v, r, rfl, h1, h2⟩ := h
    rw [List.lookup_cons] at e ⊢
    rw [ofS_beq]
    cases hb : (f == g) with
    | true =>
      rw [hb] at e
      cases e
    | false =>
      rw [hb] at e
      exact fr_none h2 e
theorem fr_some {φ : Mp} {s : S} {H : Hp} {f : String} {d : D} : ∀ {fs : List (String × D)} {gs : List (Str × V)}, FR φ s H fs gs → fs.lookup f = some d → ∃ v, gs.lookup (Str.ofString f) = some v ∧ Rep φ s H d v
  | [], gs, h, e => by cases e
  | (g, x) :: fs, gs, h, e => by
    obtain ⟨v, r, rfl, h1, h2⟩ := h
    rw [List.lookup_cons] at e ⊢
    rw [ofS_beq]
    cases hb : (f == g) with
    | true =>
      rw [hb] at e
      cases e
      exact ⟨v, rfl, h1⟩
    | false =>
      rw [hb] at e
      exact fr_some h2 e
theorem fr_len {φ : Mp} {s : S} {H : Hp} : ∀ {fs : List (String × D)} {gs : List (Str × V)}, FR φ s H fs gs → gs.length = fs.length
  | [], gs, h => by
    simp only [FR] at h
    subst h
    rfl
  | (g, x) :: fs, gs, h => by
    obtain ⟨v, r, rfl, h1, h2⟩ := h
    simp [fr_len h2]
theorem fr_put {φ : Mp} {s : S} {H : Hp} {f : String} {d : D} {v : V} (rv : Rep φ s H d v) : ∀ {fs : List (String × D)} {gs : List (Str × V)}, FR φ s H fs gs → FR φ s H (setF f d fs) (putF (Str.ofString f) v gs)
  | [], gs, h => by
    simp only [FR] at h
    subst h
    exact ⟨v, [], rfl, rv, rfl⟩
  | (g, x) :: fs, gs, h => by
    obtain ⟨u, r, rfl, h1, h2⟩ := h
    simp only [setF, putF]
    by_cases hg : g = f
    · subst hg
      rw [if_pos rfl, if_pos rfl]
      exact ⟨v, r, rfl, rv, h2⟩
    · rw [if_neg hg, if_neg (fun z => hg (ofS_inj z))]
      exact ⟨u, _, rfl, h1, fr_put rv h2⟩
theorem ins_at {φ : Mp} {s : S} {H : Hp} (h : HR G φ s H) {n : Nat} {c : String} {fs : List (String × D)} {x : V} (r : Rep φ s H (.ref n) x) (e : s.m n = some (.ins c fs)) : ∃ p C dx gs, x = .ref p ∧ φ n = some p ∧ H p = some (.ins C dx gs) ∧ G.cls c = some C ∧ FR φ s H fs gs := by
  simp only [Rep] at r
  obtain ⟨p, rfl, hp⟩ := r
  obtain ⟨b, hb, C, dx, gs, h1, h2, h3⟩ := h.ob n _ e
  rw [hp] at hb
  cases hb
  exact ⟨p, C, dx, gs, rfl, hp, h1, h2, h3⟩
/-- o.f -/
theorem c_fld {f : String} (hc : ∀ c C, G.cls c = some C → Cls X.K C ∧ NoAttr X.K C (Str.ofString f)) (ha : PE X a (rE G cf ca)) (hb : attributeBase a (Str.ofString f) X.env (eval a X.env) = eval a X.env) : PE X (.Attribute a (Str.ofString f) pos) (rE G cf (.fld ca f)) := by
  refine PE.imp (pe_fld ha hb) fun σ H Q h => ?_
  obtain ⟨φ, s, r, A, d, s', he, p⟩ := h
  simp only [ev] at he
  obtain ⟨x, s1, e1, he⟩ := bnd_inv he
  refine rd_step A e1 fun φ1 H1 v g1 A1 rv => ?_
  split at he
  · rename_i n
    split at he
    · rename_i c fs hn
      obtain ⟨e2, rfl⟩ := lft_inv he
      obtain ⟨q, C, dx, gs, rfl, h1, h2, h3, h4⟩ := ins_at A1.hr rv hn
      obtain ⟨u, hu, ru⟩ := fr_some h4 e2
      exact ⟨q, C, dx, gs, u, rfl, h2, (hc c C h3).1, (hc c C h3).2, hu, Post.here A1.hr (Post.from g1 p) ru⟩
    · cases he
  · cases he
theorem ht_of {o : Expr} {m : Str} {apos pos : Pos} {args : List Expr} {env : Env} (hbase : attributeBase o m env (eval o env) = eval o env) (hfew : ((backTo pos (starEach args env)).all (fun x => !x.1) && (backToKw pos (keywordEach [] env)).all (fun x => x.1.isSome)
      && decide (args.length + ([] : List Keyword).length + (if ([] : List Keyword).isEmpty then 0 else 1) < 30)) = true) (hline : (apos.endLine == pos.line) = true) :
  eval (.Call (.Attribute o m apos) args [] pos) env = (do
      let ov ← eval o env
      standAt apos.atName
      let (f, first) ← holding [ov] (getMethod ov m (do return (← importBound o env).getD true))
      callWith pos f first (backTo pos (starEach args env)) (backToKw pos (keywordEach [] env))) := by
  rw [arm_eval_Call, hbase]
  have hform : methodCallForm (args.length + ([] : List Keyword).length) (backTo pos (starEach args env)) (backToKw pos (keywordEach [] env)) = true := hfew
  have hpos : methodCallPos true o env apos pos = pure pos := by unfold methodCallPos; simp [hline]
  unfold methodCall
  rw [hform, hpos]
  rfl
/-- the method m of the class at C -/
structure MtAt (G : Glob) (X : Cx) (C : Addr) (m : Str) (f : List D → S → R D) (n : Nat) : Prop where
  at_ : ∃ (a : Addr) (fd : FuncData) (ps : List Str) (j : Nat), Meth X.K C m a ∧ Binds X.K fd ps [] ∧ RmG j X.A ∧ ps.length = n ∧ FnG X.prog X.w X.K X.mg X.base CX0 j a fd ps (spF G f n)
  len : ∀ ds s d s', f ds s = some (.ok d, s') → ds.length = n
/-- the class x is made -/
structure MkAt (G : Glob) (X : Cx) (x : Str) (C : Addr) (f : List D → S → R D) (n : Nat) : Prop where
  at_ : ∃ (a : Addr) (fd : FuncData) (ps : List Str) (j : Nat), Mk X.K C a ∧ X.mg x = some (.ref C) ∧ Binds X.K fd ps [] ∧ RmG (j + 1) X.A ∧ ps.length = n ∧ FnG X.prog X.w X.K X.mg X.base CX0 j a fd ps (spF G f n)
  len : ∀ ds s d s', f ds s = some (.ok d, s') → ds.length = n
theorem c_own {m : String} {apos : Pos} (hmt : ∀ c, c ≠ "" → ∀ ds s q, cf c m ds s = some q → ∃ C n, G.cls c = some C ∧ Cls X.K C ∧ MtAt G X C (Str.ofString m) (cf c m) n)
    (ho : PE X a (rE G cf ca)) (ha : PA X (e :: es) (rA G cf ces)) (hst : starEach (e :: es) X.env = (false, eval e X.env) :: starEach es X.env) (hpl : (backTo pos (starEach es X.env)).any (·.1) = false)
    (hbase : attributeBase a (Str.ofString m) X.env (eval a X.env) = eval a X.env) (hfew : ((backTo pos (starEach (e :: es) X.env)).all (fun x => !x.1) && (backToKw pos (keywordEach [] X.env)).all (fun x => x.1.isSome)
      && decide ((e :: es).length + ([] : List Keyword).length + (if ([] : List Keyword).isEmpty then 0 else 1) < 30)) = true) (hline : (apos.endLine == pos.line) = true) :
    PE X (.Call (.Attribute a (Str.ofString m) apos) (e :: es) [] pos) (rE G cf (.own ca m ces)) := by
  refine ⟨fun pins s0 σ H Q I h => ?_⟩
  obtain ⟨φ, s, r, A, d, s', he, p⟩ := h
  simp only [ev] at he
  obtain ⟨x, s1, e1, he⟩ := bnd_inv he
  split at he
  · rename_i n
    split at he
    · rename_i c fs hn
      split at he
      · rename_i hl
        obtain ⟨xs, s2, e2, he⟩ := bnd_inv he
        split at he
        · cases he
        rename_i hcn
        obtain ⟨C, k, hC, hCl, ⟨f, fd, ps, j, h1, h2, h3, h4, h5⟩, hlen⟩ := hmt c hcn _ _ _ he
        refine (pg_meth (C := C) (pl := do return (← importBound a X.env).getD true) ho hCl h1 (h5.runs (E := fun _ => E0) h3 h2 (fun _ => passAt0)) ha hst hpl (ht_of hbase hfew hline)).run pins s0 σ H Q I ?_
        refine rd_step A e1 fun φ1 H1 v g1 A1 rv => ?_
        obtain ⟨q, C', dx, gs, rfl, k1, k2, k3, k4⟩ := ins_at A1.hr rv hn
        rw [hC] at k3
        cases k3
        refine ⟨q, dx, gs, rfl, k2, fr_none k4 hl, ?_⟩
        refine rd_step A1 e2 fun φ2 H2 vs g2 A2 rs => ?_
        refine spF_of A2.hr ?_ (hlen _ _ _ _ he) he (Post.from (g1.trans g2) p)
        simp only [RepL]
        exact ⟨_, _, rfl, Rep.mono g2 _ rv, rs⟩
      · cases he
    · cases he
  · cases he
theorem c_own0 {m : String} {apos : Pos} (hmt : ∀ c, c ≠ "" → ∀ ds s q, cf c m ds s = some q → ∃ C n, G.cls c = some C ∧ Cls X.K C ∧ MtAt G X C (Str.ofString m) (cf c m) n)
    (ho : PE X a (rE G cf ca)) (hbase : attributeBase a (Str.ofString m) X.env (eval a X.env) = eval a X.env) (hline : (apos.endLine == pos.line) = true) :
    PE X (.Call (.Attribute a (Str.ofString m) apos) [] [] pos) (rE G cf (.own ca m .nil)) := by
  refine ⟨fun pins s0 σ H Q I h => ?_⟩
  obtain ⟨φ, s, r, A, d, s', he, p⟩ := h
  simp only [ev] at he
  obtain ⟨x, s1, e1, he⟩ := bnd_inv he
  split at he
  · rename_i n
    split at he
    · rename_i c fs hn
      split at he
      · rename_i hl
        simp only [evs] at he
        obtain ⟨xs, s2, e2, he⟩ := bnd_inv he
        cases e2
        split at he
        · cases he
        rename_i hcn
        obtain ⟨C, k, hC, hCl, ⟨f, fd, ps, j, h1, h2, h3, h4, h5⟩, hlen⟩ := hmt c hcn _ _ _ he
        refine (pg_meth0 (C := C) (pl := do return (← importBound a X.env).getD true) ho hCl h1 (h5.runs (E := fun _ => E0) h3 h2 (fun _ => passAt0)) (ht_of hbase rfl hline)).run pins s0 σ H Q I ?_
        refine rd_step A e1 fun φ1 H1 v g1 A1 rv => ?_
        obtain ⟨q, C', dx, gs, rfl, k1, k2, k3, k4⟩ := ins_at A1.hr rv hn
        rw [hC] at k3
        cases k3
        refine ⟨q, dx, gs, rfl, k2, fr_none k4 hl, ?_⟩
        show spF G _ k _ H1 Q E0
        exact spF_of A1.hr (RepL.one rv) (hlen _ _ _ _ he) he (Post.from g1 p)
      · cases he
    · cases he
  · cases he
/-- a new object -/
theorem HR.made {φ : Mp} {s : S} {H : Hp} (h : HR G φ s H) {c : String} {C x dx : Addr} (hC : G.cls c = some C) (hx : H x = none) (hd : H dx = none) (hne : dx ≠ x) :
    Gr φ s H (bx φ s.nx x) (s.new (.ins c [])) (upd (upd H dx (.own x)) x (.ins C dx [])) ∧ HR G (bx φ s.nx x) (s.new (.ins c [])) (upd (upd H dx (.own x)) x (.ins C dx [])) := by
  have h1 : HR G φ s (upd H dx (.own x)) := h.free hd
  have hx1 : (upd H dx (.own x)) x = none := by rw [upd_ne hne.symm]; exact hx
  exact ⟨(Gr.free h hd).trans (Gr.box h1 hx1), h1.box hx1 ⟨C, dx, [], upd_same, hC, rfl⟩⟩
theorem c_mak {x : Str} {c : String} {C : Addr} {n : Nat} {p : Pos} (hx : x = Str.ofString c) (hC : G.cls c = some C) (M : MkAt G X x C (cf c "__init__") n) (hg : Gl X x) (ha : PA X (e :: es) (rA G cf ces)) (hdb : (x == ("__debug__" : Str)) = false) (he : starEach (e :: es) X.env = (false, eval e X.env) :: starEach es X.env)
    (hpl : (backTo pos (starEach es X.env)).any (·.1) = false) : PE X (.Call (.Name x p) (e :: es) [] pos) (rE G cf (.mak c ces)) := by
  obtain ⟨⟨f, fd, ps, j, h1, h2, h3, h4, h5, h6⟩, hlen⟩ := M
  refine PE.imp (pg_call (FnG.makes (E := fun _ => E0) h1 h6 h4 h3 (fun _ => passAt0)) hg h2 h1.kp ha hdb he hpl) fun σ H Q h => ?_
  obtain ⟨φ, s, r, A, d, s', he, p⟩ := h
  simp only [ev] at he
  obtain ⟨xs, s1, e1, he⟩ := bnd_inv he
  obtain ⟨v, s2, e2, he⟩ := bnd_inv he
  refine rd_step A e1 fun φ1 H1 vs g1 A1 rs => ?_
  intro q dx hq hd hne
  obtain ⟨gg, hh⟩ := A1.hr.made hC hq hd hne
  split at he
  · cases he
    refine spF_of hh (ds := .ref s1.nx :: xs) ?_ (hlen _ _ _ _ e2) e2 ?_
    · simp only [RepL]
      refine ⟨_, _, rfl, ?_, RepL.mono gg xs rs⟩
      simp only [Rep]
      exact ⟨q, rfl, by show (if s1.nx = s1.nx then some q else φ1 s1.nx) = some q; rw [if_pos rfl]⟩
    · intro φ' H' u g' h' ru
      simp only [Rep] at ru
      refine ⟨ru, p φ' H' _ ((g1.trans gg).trans g') h' ?_⟩
      simp only [Rep]
      exact ⟨q, rfl, g'.mp _ _ (by show (if s1.nx = s1.nx then some q else φ1 s1.nx) = some q; rw [if_pos rfl])⟩
  · cases he
theorem c_mak0 {x : Str} {c : String} {C : Addr} {n : Nat} {p : Pos} (hx : x = Str.ofString c) (hC : G.cls c = some C) (M : MkAt G X x C (cf c "__init__") n) (hg : Gl X x) (hdb : (x == ("__debug__" : Str)) = false) : PE X (.Call (.Name x p) [] [] pos) (rE G cf (.mak c .nil)) := by
  obtain ⟨⟨f, fd, ps, j, h1, h2, h3, h4, h5, h6⟩, hlen⟩ := M
  refine PE.imp (pg_call0 (FnG.makes (E := fun _ => E0) h1 h6 h4 h3 (fun _ => passAt0)) hg h2 h1.kp hdb) fun σ H Q h => ?_
  obtain ⟨φ, s, r, A, d, s', he, p⟩ := h
  simp only [ev, evs] at he
  obtain ⟨xs, s1, e1, he⟩ := bnd_inv he
  cases e1
  obtain ⟨v, s2, e2, he⟩ := bnd_inv he
  show ∀ q dx, H q = none → H dx = none → dx ≠ q → _
  intro q dx hq hd hne
  obtain ⟨gg, hh⟩ := A.hr.made hC hq hd hne
  split at he
  · cases he
    refine spF_of hh (ds := [.ref s.nx]) (RepL.one ?_) (hlen _ _ _ _ e2) e2 ?_
    · simp only [Rep]
      exact ⟨q, rfl, by show (if s.nx = s.nx then some q else φ s.nx) = some q; rw [if_pos rfl]⟩
    · intro φ' H' u g' h' ru
      simp only [Rep] at ru
      refine ⟨ru, p φ' H' _ (gg.trans g') h' ?_⟩
      simp only [Rep]
      exact ⟨q, rfl, g'.mp _ _ (by show (if s.nx = s.nx then some q else φ s.nx) = some q; rw [if_pos rfl])⟩
  · cases he
end
end Fl
namespace Fl
open PySem L2
def gsOf : List Nat → TGs
  | [] => gNil
  | i :: is => gCons (gName i) (gsOf is)
/-- a target that takes this or that -/
def gEi (a b : TG) : TG := fun v σ H Q => a v σ H Q ∨ b v σ H Q
theorem pg_ei {X : Cx} {t : Expr} {a b : TG} (h : PG X t a) (g : PG X t b) : PG X t (gEi a b) :=
  ⟨fun pins s σ H v u Q I r q => q.elim (h.run pins s σ H v u Q I r) (g.run pins s σ H v u Q I r)⟩
def gOf (K : PySem.W.Frag) : Tg → TG
  | .nm i => gName i
  | .tp is => gEi (gTup K is.length (gsOf is)) (gLst K is.length (gsOf is))
  | .nt i is => gTup K 2 (gCons (gName i) (gCons (gTup K is.length (gsOf is)) gNil))
def slots : Tg → List Nat
  | .nm i => [i]
  | .tp is => is
  | .nt i is => i :: is
section
variable {G : Glob} {φ : Mp} {s : S} {H : Hp} {K : PySem.W.Frag}
theorem gs_ok : ∀ {is : List Nat} {ds : List D} {vs : List V} {r r' : Sl} {σ : L2.St} {Q : L2.St → Hp → Prop}, RepL φ s H ds vs → setAll is ds r = some r' → SR φ s H r σ →
    (∀ σ', SR φ s H r' σ' → σ'.length = σ.length → (∀ k, k ∉ is → σ'[k]? = σ[k]?) → Q σ' H) → gsOf is vs σ H Q
  | [], [], vs, r, r', σ, Q, l, e, sr, q => by
    simp only [RepL] at l
    cases e
    exact ⟨l, q σ sr rfl fun _ _ => rfl⟩
  | [], d :: ds, vs, r, r', σ, Q, l, e, sr, q => by cases e
  | i :: is, [], vs, r, r', σ, Q, l, e, sr, q => by cases e
  | i :: is, d :: ds, vs, r, r', σ, Q, l, e, sr, q => by
    simp only [RepL] at l
    obtain ⟨v, w, rfl, r1, r2⟩ := l
    refine ⟨v, w, rfl, ?_⟩
    refine gs_ok r2 (show setAll is ds (r.set i (some d)) = some r' from e) (sr.set i r1) fun σ' sr' hl hk => ?_
    refine q σ' sr' (by rw [hl, List.length_set]) fun k hn => ?_
    rw [List.mem_cons, not_or] at hn
    rw [hk k hn.2, List.getElem?_set_ne (fun z => hn.1 z.symm)]
theorem setAll_len : ∀ {is : List Nat} {ds : List D} {r r' : Sl}, setAll is ds r = some r' → ds.length = is.length
  | [], [], r, r', e => rfl
  | [], d :: ds, r, r', e => by cases e
  | i :: is, [], r, r', e => by cases e
  | i :: is, d :: ds, r, r', e => by
    have := setAll_len (show setAll is ds (r.set i (some d)) = some r' from e)
    simp [this]
theorem tg_ok {tg : Tg} {d : D} {v : V} {r r' : Sl} {σ : L2.St} {Q : L2.St → Hp → Prop} (rv : Rep φ s H d v) (e : tgSet s tg d r = some r') (sr : SR φ s H r σ)
    (q : ∀ σ', SR φ s H r' σ' → σ'.length = σ.length → (∀ k, k ∉ slots tg → σ'[k]? = σ[k]?) → Q σ' H) : gOf K tg v σ H Q := by
  cases tg with
  | nm i =>
    cases (show some (r.set i (some d)) = some r' from e)
    refine q _ (sr.set i rv) (by rw [List.length_set]) fun k hn => ?_
    rw [slots, List.mem_singleton] at hn
    rw [List.getElem?_set_ne (fun z => hn z.symm)]
  | tp is =>
    cases d with
    | tup ds =>
      simp only [Rep] at rv
      obtain ⟨a, vs, rfl, h1, _, l⟩ := rv
      have e' : setAll is ds r = some r' := e
      exact .inl ⟨a, vs, rfl, SqT.of h1, by rw [l.length]; exact setAll_len e', gs_ok l e' sr q⟩
    | lst ds =>
      simp only [Rep] at rv
      obtain ⟨a, vs, rfl, h1, _, l⟩ := rv
      have e' : setAll is ds r = some r' := e
      exact .inr ⟨a, vs, rfl, SqL.of h1, by rw [l.length]; exact setAll_len e', gs_ok l e' sr q⟩
    | _ => cases e
  | nt i is =>
    have go : ∃ d0 ds, d = .tup [d0, .tup ds] ∧ setAll is ds (r.set i (some d0)) = some r' := by
      obtain ⟨p, hp, e'⟩ := Option.bind_eq_some_iff.mp (show (ntD d).bind (fun p => setAll is p.2 (r.set i (some p.1))) = some r' from e)
      unfold ntD at hp
      split at hp
      · cases hp
        exact ⟨_, _, rfl, e'⟩
      · cases hp
    obtain ⟨d0, ds, rfl, e'⟩ := go
    simp only [Rep, RepL] at rv
    obtain ⟨a, vs, rfl, h1, _, v0, w0, rfl, r0, v1, w1, rfl, ⟨b, us, rfl, h2, _, l⟩, rfl⟩ := rv
    refine ⟨a, _, rfl, SqT.of h1, rfl, v0, _, rfl, .ref b, [], rfl, b, us, rfl, SqT.of h2, by rw [l.length]; exact setAll_len e', ?_⟩
    refine gs_ok l e' (sr.set i r0) fun σ' sr' hl hk => ⟨rfl, q σ' sr' (by rw [hl, List.length_set]) fun k hn => ?_⟩
    have hn' : k ≠ i ∧ k ∉ is := by
      rw [slots, List.mem_cons, not_or] at hn
      exact hn
    rw [hk k hn'.2, List.getElem?_set_ne (fun z => hn'.1 z.symm)]
end
theorem wipe_in {σ : L2.St} {i : Nat} : ∀ {vs : List Nat}, i ∈ vs → (wipe σ vs)[i]? = if i < σ.length then some none else none
  | [], h => by cases h
  | v :: vs, h => by
    unfold wipe
    by_cases hi : v = i
    · subst hi
      by_cases hl : v < σ.length
      · rw [List.getElem?_set_self (by rw [wipe_length]; exact hl), if_pos hl]
      · rw [if_neg hl]
        exact List.getElem?_eq_none (by rw [List.length_set, wipe_length]; omega)
    · rw [List.getElem?_set_ne hi]
      refine wipe_in ?_
      rcases List.mem_cons.mp h with z | z
      · exact absurd z.symm hi
      · exact z
theorem wipe_eq {σ σ' : L2.St} {vs : List Nat} (hl : σ'.length = σ.length) (h : ∀ k, k ∉ vs → σ'[k]? = σ[k]?) : wipe σ' vs = wipe σ vs := by
  refine List.ext_getElem? fun k => ?_
  by_cases hk : k ∈ vs
  · rw [wipe_in hk, wipe_in hk, hl]
  · rw [wipe_out hk, wipe_out hk]
    exact h k hk
theorem wipe_wipe {σ : L2.St} {vs : List Nat} : wipe (wipe σ vs) vs = wipe σ vs := wipe_eq (wipe_length _ _) fun k hk => wipe_out hk
def JOk (G : Glob) (φ1 : Mp) (s1 : S) (H1 : Hp) (iv : Iv) (J : L2.It) : Prop := ∀ φ s H, Gr φ1 s1 H1 φ s H → HR G φ s H → ∀ n i, ivLen s iv = some n →
  (i < n → ∀ x, ivGet s i iv = some x → J.go i H ∧ ∀ v H', J.yld i H v H' → Gr φ s H φ s H' ∧ HR G φ s H' ∧ Rep φ s H' x v) ∧ (n ≤ i → J.stop i H)
abbrev rI (G : Glob) (cf : CF) (it : It) : TI := rd G (evI cf it) (JOk G)
theorem PI.imp {X : Cx} {tg e : Expr} {t t' : TI} (h : PI X tg e t) (k : ∀ σ H Q, t' σ H Q → t σ H Q) : PI X tg e t' := ⟨fun pins s σ H Q I q => h.run pins s σ H Q I (k σ H Q q)⟩
section
variable {G : Glob} {cf : CF} {X : Cx} {tg e a b : Expr} {ca cb : E} {pos : Pos}
theorem seq_len {s : S} {d : D} {n : Nat} {xs : List D} (h : lcont s d = some xs) (e : ivLen s (.seq d) = some n) : n = xs.length := by
  cases d with
  | lst ys => cases h; cases e; rfl
  | scr ys => cases h; cases e; rfl
  | ref m =>
    have e' : (cont s (.ref m)).map (·.length) = some n := e
    rw [show cont s (.ref m) = lcont s (.ref m) from rfl, h] at e'
    cases e'
    rfl
  | _ => cases h
theorem seq_lc {s s1 : S} {d : D} {n : Nat} {xs : List D} (h : lcont s1 d = some xs) (e : ivLen s (.seq d) = some n) : ∃ ys, lcont s d = some ys ∧ n = ys.length := by
  cases d with
  | lst ys => cases e; exact ⟨_, rfl, rfl⟩
  | scr ys => cases e; exact ⟨_, rfl, rfl⟩
  | ref m =>
    have e' : (lcont s (.ref m)).map (·.length) = some n := e
    cases hc : lcont s (.ref m) with
    | none =>
      rw [hc] at e'
      cases e'
    | some ys =>
      rw [hc] at e'
      cases e'
      exact ⟨_, rfl, rfl⟩
  | _ => cases h
theorem seq_get {s : S} {d x : D} {i : Nat} {xs : List D} (h : lcont s d = some xs) (e : ivGet s i (.seq d) = some x) : xs[i]? = some x := by
  cases d with
  | lst ys => cases h; exact e
  | scr ys => cases h; exact e
  | ref m =>
    have e' : (cont s (.ref m)).bind (·[i]?) = some x := e
    rw [show cont s (.ref m) = lcont s (.ref m) from rfl, h] at e'
    exact e'
  | _ => cases h
theorem j_list (hK : X.K = G.K) {φ1 : Mp} {s1 : S} {H1 : Hp} {d : D} {p : Addr} {xs : List D} (hx : lcont s1 d = some xs) (r : Rep φ1 s1 H1 d (.ref p)) : JOk G φ1 s1 H1 (.seq d) (Itl X.K p) := by
  intro φ s H g h n i hn
  obtain ⟨ys, hy, rfl⟩ := seq_lc hx hn
  obtain ⟨q, vs, e, h1, l⟩ := (Rep.mono g d r).lcont h hy
  rw [h.k.trans hK.symm] at h1
  cases e
  refine ⟨fun hi x he => ?_, fun hi => ⟨vs, h1, by rw [l.length]; exact hi⟩⟩
  obtain ⟨v, hv, rv⟩ := l.get (seq_get hy he)
  refine ⟨⟨vs, v, h1, hv⟩, fun w H' y => ?_⟩
  obtain ⟨rfl, y⟩ := y
  have := y vs h1
  rw [hv] at this
  cases this
  exact ⟨Gr.refl _ _ _, h, rv⟩
theorem i_seq (hK : X.K = G.K) (ha : PE X a (rE G cf ca)) : PI X tg a (rI G cf (.seq ca)) := by
  refine PI.imp (pi_list ha) fun σ H R h => ?_
  obtain ⟨φ, s, r, A, iv, s', he, p⟩ := h
  simp only [evI] at he
  obtain ⟨x, s1, e1, he⟩ := bnd_inv he
  refine rd_step A e1 fun φ1 H1 v g1 A1 rv => ?_
  split at he
  · rename_i xs hx
    cases he
    obtain ⟨q, vs, rfl, h1, l⟩ := rv.lcont A1.hr hx
    exact ⟨q, rfl, ⟨vs, by rw [← A1.hr.k.trans hK.symm]; exact h1⟩, p φ1 H1 _ g1 A1.hr (j_list hK hx rv)⟩
  · cases he
theorem i_tup (ha : PE X a (rE G cf ca)) : PI X tg a (rI G cf (.tup ca)) := by
  refine PI.imp (pi_tup ha) fun σ H R h => ?_
  obtain ⟨φ, s, r, A, iv, s', he, p⟩ := h
  simp only [evI] at he
  obtain ⟨x, s1, e1, he⟩ := bnd_inv he
  refine rd_step A e1 fun φ1 H1 v g1 A1 rv => ?_
  split at he
  · rename_i xs
    cases he
    have rv' := rv
    simp only [Rep] at rv'
    obtain ⟨q, vs, rfl, h1, dd, l⟩ := rv'
    refine ⟨q, rfl, ⟨vs, SqT.of h1⟩, p φ1 H1 _ g1 A1.hr ?_⟩
    intro φ2 s2 H2 g h n i hn
    have rv2 := Rep.mono g _ rv
    simp only [Rep] at rv2
    obtain ⟨q', vs', e', h1', _, l'⟩ := rv2
    cases e'
    cases (show some xs.length = some n from hn)
    refine ⟨fun hi x he => ?_, fun hi => ⟨vs', SqT.of h1', by rw [l'.length]; exact hi⟩⟩
    obtain ⟨v, hv, rv⟩ := l'.get (show xs[i]? = some x from he)
    refine ⟨⟨vs', v, SqT.of h1', hv⟩, fun w H' y => ?_⟩
    obtain ⟨rfl, y⟩ := y
    have := y vs' (SqT.of h1')
    rw [hv] at this
    cases this
    exact ⟨Gr.refl _ _ _, h, rv⟩
  · cases he
theorem i_any (hK : X.K = G.K) (ha : PE X a (rE G cf ca)) : PI X tg a (rI G cf (.any ca)) := by
  refine ⟨fun pins s σ H Q I q => ?_⟩
  obtain ⟨φ, s0, r, A, iv, s', he, p⟩ := q
  have key : evI cf (.tup ca) r s0 = some (.ok iv, s') ∨ evI cf (.seq ca) r s0 = some (.ok iv, s') := by
    simp only [evI] at he ⊢
    obtain ⟨x, s1, e1, he⟩ := bnd_inv he
    rw [e1]
    cases x with
    | tup xs => exact .inl he
    | _ => exact .inr he
  rcases key with h | h
  · exact (i_tup ha).run pins s σ H Q I ⟨φ, s0, r, A, iv, s', h, p⟩
  · exact (i_seq hK ha).run pins s σ H Q I ⟨φ, s0, r, A, iv, s', h, p⟩
theorem i_str (ha : PE X a (rE G cf ca)) : PI X tg a (rI G cf (.str ca)) := by
  refine PI.imp (pi_str ha) fun σ H R h => ?_
  obtain ⟨φ, s, r, A, iv, s', he, p⟩ := h
  simp only [evI] at he
  obtain ⟨x, s1, e1, he⟩ := bnd_inv he
  refine rd_step A e1 fun φ1 H1 v g1 A1 rv => ?_
  split at he
  · rename_i xs
    cases he
    simp only [Rep] at rv
    refine ⟨_, rv, p φ1 H1 _ g1 A1.hr ?_⟩
    intro φ2 s2 H2 g h n i hn
    cases (show some xs.length = some n from hn)
    refine ⟨fun hi x he => ⟨by show i < xs.toArray.size; simpa using hi, fun w H' y => ?_⟩, fun hi => by show xs.toArray.size ≤ i; simpa using hi⟩
    obtain ⟨rfl, c, hc, rfl⟩ := y
    refine ⟨Gr.refl _ _ _, h, ?_⟩
    have he' : (xs[i]?).map (fun c => D.str [c]) = some x := he
    have hc' : xs[i]? = some c := by simpa using hc
    rw [hc'] at he'
    cases he'
    simp only [Rep]
    all_goals rfl
  · cases he
theorem j_rng {φ1 : Mp} {s1 : S} {H1 : Hp} {lo : Int} {n : Nat} : JOk G φ1 s1 H1 (.rng lo n) (Itr lo n) := by
  intro φ s H g h m i hn
  cases (show some n = some m from hn)
  refine ⟨fun hi x he => ⟨hi, fun w H' y => ?_⟩, fun hi => hi⟩
  obtain ⟨rfl, rfl⟩ := y
  cases (show some (D.int (lo + i)) = some x from he)
  exact ⟨Gr.refl _ _ _, h, by simp only [Rep]⟩
theorem i_rng {p : Pos} (hg : Gl X "range") (hm : X.mg "range" = none) (ha : PE X a (rE G cf ca)) (hs : starEach [a] X.env = [(false, eval a X.env)]) : PI X tg (.Call (.Name "range" p) [a] [] pos) (rI G cf (.rng ca)) := by
  refine PI.imp (pi_range1 hg hm (pa_cons ha pa_nil hs) hs) fun σ H R h => ?_
  obtain ⟨φ, s, r, A, iv, s', he, p⟩ := h
  simp only [evI] at he
  obtain ⟨x, s1, e1, he⟩ := bnd_inv he
  refine rd_step A e1 fun φ1 H1 v g1 A1 rv => ?_
  split at he
  · rename_i j
    split at he
    · rename_i hz
      cases he
      simp only [Rep] at rv
      exact ⟨j, by rw [rv], hz.2, hz.1, p φ1 H1 _ g1 A1.hr j_rng⟩
    · cases he
  · cases he
theorem i_rng2 {p : Pos} (hg : Gl X "range") (hm : X.mg "range" = none) (ha : PE X a (rE G cf ca)) (hb : PE X b (rE G cf cb)) (hs : starEach [a, b] X.env = [(false, eval a X.env), (false, eval b X.env)]) (hs2 : starEach [b] X.env = [(false, eval b X.env)]) :
    PI X tg (.Call (.Name "range" p) [a, b] [] pos) (rI G cf (.rng2 ca cb)) := by
  refine PI.imp (pi_range2 hg hm (pa_cons ha (pa_cons hb pa_nil hs2) (by rw [hs, hs2])) hs hs2) fun σ H R h => ?_
  obtain ⟨φ, s, r, A, iv, s', he, p⟩ := h
  simp only [evI] at he
  obtain ⟨x, s1, e1, he⟩ := bnd_inv he
  obtain ⟨y, s2, e2, he⟩ := bnd_inv he
  refine rd_step A e1 fun φ1 H1 v g1 A1 rv => ?_
  refine rd_step A1 e2 fun φ2 H2 w g2 A2 rw' => ?_
  split at he
  · rename_i i j _
    split at he
    · rename_i hz
      cases he
      simp only [Rep] at rv rw'
      exact ⟨i, j, by rw [rv, rw'], ⟨hz.2.1, hz.1, hz.2.2.2, hz.2.2.1⟩, p φ2 H2 _ (g1.trans g2) A2.hr j_rng⟩
    · cases he
  · cases he
theorem i_enm {p tpos : Pos} {elts : List Expr} {kk : Nat} (hK : X.K = G.K) (hg : Gl X "enumerate") (hm : X.mg "enumerate" = none) (ha : PE X a (rE G cf ca)) (hs : starEach [a] X.env = [(false, eval a X.env)]) :
    PI X (.Tuple elts kk tpos) (.Call (.Name "enumerate" p) [a] [] pos) (rI G cf (.enm ca)) := by
  refine PI.imp (pi_enum hg hm (pa_cons ha pa_nil hs) hs) fun σ H R h => ?_
  obtain ⟨φ, s, r, A, iv, s', he, p⟩ := h
  simp only [evI] at he
  obtain ⟨x, s1, e1, he⟩ := bnd_inv he
  refine rd_step A e1 fun φ1 H1 v g1 A1 rv => ?_
  split at he
  · rename_i xs hx
    cases he
    obtain ⟨q, vs, rfl, h1, l⟩ := rv.lcont A1.hr hx
    refine ⟨q, vs, rfl, by rw [← A1.hr.k.trans hK.symm]; exact h1, p φ1 H1 _ g1 A1.hr ?_⟩
    intro φ2 s2 H2 g h n i hn
    have hn' : ivLen s2 (.seq x) = some n := by
      cases x <;> first | exact hn | cases hx
    obtain ⟨ys, hy, rfl⟩ := seq_lc hx hn'
    obtain ⟨q', vs', e', h1', l'⟩ := (Rep.mono g x rv).lcont h hy
    rw [h.k.trans hK.symm] at h1'
    cases e'
    refine ⟨fun hi z he => ?_, fun hi => ⟨vs', h1', by rw [l'.length]; exact hi⟩⟩
    have he' : (lcont s2 x).bind (fun xs => (xs[i]?).map fun x => D.tup [.int i, x]) = some z := he
    rw [hy] at he'
    cases hi' : ys[i]? with
    | none =>
      simp only [Option.bind_some, hi'] at he'
      cases he'
    | some u =>
      simp only [Option.bind_some, hi'] at he'
      cases he'
      obtain ⟨v, hv, rv'⟩ := l'.get hi'
      refine ⟨⟨vs', v, h1', hv⟩, fun w H' y => ?_⟩
      obtain ⟨T, v2, rfl, hT, rfl, hv2⟩ := y
      have e2 := hv2 vs' h1'
      rw [hv] at e2
      cases e2
      have g' : Gr φ2 s2 H2 φ2 s2 (upd H2 T (.tup [.int (i : Nat), v])) := Gr.free h hT
      refine ⟨g', h.free hT, ?_⟩
      simp only [Rep, RepL]
      exact ⟨T, _, rfl, upd_same, h.fresh hT, _, _, rfl, rfl, _, _, rfl, Rep.mono g' u rv', rfl⟩
  · cases he
theorem i_zip {p tpos : Pos} {elts : List Expr} {kk : Nat} (hK : X.K = G.K) (hg : Gl X "zip") (hm : X.mg "zip" = none) (ha : PE X a (rE G cf ca)) (hb : PE X b (rE G cf cb)) (hs : starEach [a, b] X.env = (false, eval a X.env) :: starEach [b] X.env) (hs2 : starEach [b] X.env = [(false, eval b X.env)])
    (hpl : (backTo pos (starEach [b] X.env)).any (·.1) = false) : PI X (.Tuple elts kk tpos) (.Call (.Name "zip" p) [a, b] [] pos) (rI G cf (.zip ca cb)) := by
  refine PI.imp (pi_zip hg hm (pa_cons ha (pa_cons hb pa_nil hs2) hs) hs hpl) fun σ H R h => ?_
  obtain ⟨φ, s, r, A, iv, s', he, p⟩ := h
  simp only [evI] at he
  obtain ⟨x, s1, e1, he⟩ := bnd_inv he
  obtain ⟨y, s2, e2, he⟩ := bnd_inv he
  refine rd_step A e1 fun φ1 H1 v g1 A1 rv => ?_
  refine rd_step A1 e2 fun φ2 H2 w g2 A2 rw' => ?_
  split at he
  · rename_i xs ys hx hy
    cases he
    have rv1 := Rep.mono g2 x rv
    obtain ⟨q, vs, rfl, h1, l⟩ := rv1.lcont A2.hr hx
    obtain ⟨q2, ws, rfl, h2, l2⟩ := rw'.lcont A2.hr hy
    rw [A2.hr.k.trans hK.symm] at h1 h2
    refine ⟨q, q2, vs, ws, rfl, h1, h2, p φ2 H2 _ (g1.trans g2) A2.hr ?_⟩
    intro φ3 s3 H3 g h n i hn
    have hn0 : (lcont s3 x).bind (fun xs => (lcont s3 y).map fun ys => min xs.length ys.length) = some n := hn
    cases hx3 : lcont s3 x with
    | none =>
      rw [hx3] at hn0
      cases hn0
    | some xs3 =>
      cases hy3 : lcont s3 y with
      | none =>
        rw [hx3, hy3] at hn0
        cases hn0
      | some ys3 =>
        rw [hx3, hy3] at hn0
        cases hn0
        obtain ⟨_, vs', e', h1', l'⟩ := (Rep.mono g x rv1).lcont h hx3
        cases e'
        obtain ⟨_, ws', e', h2', l2'⟩ := (Rep.mono g y rw').lcont h hy3
        cases e'
        rw [h.k.trans hK.symm] at h1' h2'
        refine ⟨fun hi z he => ?_, fun hi => ⟨vs', ws', h1', h2', by have hi2 : min xs3.length ys3.length ≤ i := hi; rw [l'.length, l2'.length]; omega⟩⟩
        have he' : (lcont s3 x).bind (fun xs => (lcont s3 y).bind fun ys => (xs[i]?).bind fun x => (ys[i]?).map fun y => D.tup [x, y]) = some z := he
        rw [hx3, hy3] at he'
        cases hi' : xs3[i]? with
        | none =>
          simp only [Option.bind_some, hi'] at he'
          cases he'
        | some u =>
          cases hj' : ys3[i]? with
          | none =>
            simp only [Option.bind_some, hi', hj'] at he'
            cases he'
          | some t =>
            simp only [Option.bind_some, hi', hj'] at he'
            cases he'
            obtain ⟨v, hv, rv'⟩ := l'.get hi'
            obtain ⟨w, hw, rw2⟩ := l2'.get hj'
            refine ⟨⟨vs', ws', v, w, h1', h2', hv, hw⟩, fun w0 H' y => ?_⟩
            obtain ⟨T, v2, w2, rfl, hT, rfl, hv2, hw2⟩ := y
            have e2 := hv2 vs' h1'
            rw [hv] at e2
            cases e2
            have e3 := hw2 ws' h2'
            rw [hw] at e3
            cases e3
            have g' : Gr φ3 s3 H3 φ3 s3 (upd H3 T (.tup [v, w])) := Gr.free h hT
            refine ⟨g', h.free hT, ?_⟩
            simp only [Rep, RepL]
            exact ⟨T, _, rfl, upd_same, h.fresh hT, _, _, rfl, Rep.mono g' u rv', _, _, rfl, Rep.mono g' t rw2, rfl⟩
  · cases he
end
/-- an address made private, public again -/
def pvt (φ : Mp) (q : Addr) : Mp := ⟨φ.f, fun a => φ.pv a ∨ a = q, φ.K⟩
section
variable {G : Glob} {φ φ' : Mp} {s s' : S} {H H' : Hp}
theorem HR.pvt (h : HR G φ s H) {q : Addr} {o : HO} (hq : H q = none) : HR G (pvt φ q) s (upd H q o) := by
  have nb : ∀ n a, φ n = some a → a ≠ q := fun n a e z => h.nofresh hq n (z ▸ e)
  have g : Gr φ s H (Fl.pvt φ q) s (upd H q o) := ⟨fun _ _ e => e, fun a u e d => ⟨by rw [upd_ne (ne_of_none e hq)]; exact e, fun z => z.elim d.1 (ne_of_none e hq), d.2⟩, fun a u e d => ⟨by rw [upd_ne (ne_of_none e hq)]; exact e, .inl d⟩, rfl⟩
  refine ⟨fun n u e => ?_, h.inj, fun n a e => ?_, fun a e => ?_, fun n a e z => ?_, h.k⟩
  · obtain ⟨a, ha, hb⟩ := h.ob n u e
    exact ⟨a, ha, hb.mono g (upd_ne (nb n a ha))⟩
  · obtain ⟨h1, o', ho⟩ := h.dom n a e
    exact ⟨h1, o', by rw [upd_ne (nb n a e)]; exact ho⟩
  · rcases e with e | e
    · obtain ⟨o', ho⟩ := h.pvd a e
      exact ⟨o', by rw [upd_ne (ne_of_none ho hq)]; exact ho⟩
    · exact ⟨o, by rw [e]; exact upd_same⟩
  · rcases z with z | z
    · exact h.np n a e z
    · exact nb n a e z
theorem Gr.pvt (h : HR G φ s H) {q : Addr} {o : HO} (hq : H q = none) : Gr φ s H (pvt φ q) s (upd H q o) :=
  ⟨fun _ _ e => e, fun a u e d => ⟨by rw [upd_ne (ne_of_none e hq)]; exact e, fun z => z.elim d.1 (ne_of_none e hq), d.2⟩, fun a u e d => ⟨by rw [upd_ne (ne_of_none e hq)]; exact e, .inl d⟩, rfl⟩
/-- a private thing is written -/
theorem Gr.pw {q : Addr} {o : HO} (hp : φ.pv q) {φ0 : Mp} {s0 : S} {H0 : Hp} (h0 : H0 q = none) (g : Gr φ0 s0 H0 φ s H) : Gr φ0 s0 H0 φ s (upd H q o) :=
  ⟨g.mp, fun a u e d => ⟨by rw [upd_ne (ne_of_none e h0)]; exact (g.kp a u e d).1, (g.kp a u e d).2⟩, fun a u e d => ⟨by rw [upd_ne (ne_of_none e h0)]; exact (g.pk a u e d).1, (g.pk a u e d).2⟩, g.ke⟩
mutual
theorem Rep.pw {q : Addr} {o : HO} (hp : φ.pv q) : ∀ (d : D) {v : V}, Rep φ s H d v → Rep φ s (upd H q o) d v
  | .non, v, h => by simpa only [Rep] using h
  | .bl b, v, h => by simpa only [Rep] using h
  | .int i, v, h => by simpa only [Rep] using h
  | .str x, v, h => by simpa only [Rep] using h
  | .ref n, v, h => by simpa only [Rep] using h
  | .tup ds, v, h => by
    simp only [Rep] at h ⊢
    obtain ⟨a, vs, e, ha, hd, hl⟩ := h
    have na : a ≠ q := fun z => hd.1 (z ▸ hp)
    exact ⟨a, vs, e, by rw [upd_ne na]; exact ha, hd, RepL.pw hp ds hl⟩
  | .lst ds, v, h => by
    simp only [Rep] at h ⊢
    obtain ⟨a, vs, e, ha, hd, hl⟩ := h
    have na : a ≠ q := fun z => hd.1 (z ▸ hp)
    exact ⟨a, vs, e, by rw [upd_ne na]; exact ha, hd, RepL.pw hp ds hl⟩
  | .scr ds, v, h => by
    simp only [Rep] at h ⊢
    obtain ⟨a, vs, e, ha, hl⟩ := h
    refine ⟨a, vs, e, ?_, RepL.pw hp ds hl⟩
    rcases ha with ⟨ha | ⟨o, ha⟩, hd⟩ | ha
    · exact .inl ⟨.inl (by rw [upd_ne (show a ≠ q from fun z => hd.1 (z ▸ hp))]; exact ha), hd⟩
    · exact .inl ⟨.inr ⟨o, by rw [upd_ne (show a ≠ q from fun z => hd.1 (z ▸ hp))]; exact ha⟩, hd⟩
    · exact .inr ha
theorem RepL.pw {q : Addr} {o : HO} (hp : φ.pv q) : ∀ (ds : List D) {vs : List V}, RepL φ s H ds vs → RepL φ s (upd H q o) ds vs
  | [], vs, h => by simpa only [RepL] using h
  | d :: ds, vs, h => by
    simp only [RepL] at h ⊢
    obtain ⟨v, r, e, h1, h2⟩ := h
    exact ⟨v, r, e, Rep.pw hp d h1, RepL.pw hp ds h2⟩
end
theorem FR.pw {q : Addr} {o : HO} (hp : φ.pv q) : ∀ {fs : List (String × D)} {gs : List (Str × V)}, FR φ s H fs gs → FR φ s (upd H q o) fs gs
  | [], gs, h => h
  | (f, d) :: fs, gs, h => by
    obtain ⟨v, r, e, h1, h2⟩ := h
    exact ⟨v, r, e, Rep.pw hp d h1, FR.pw hp h2⟩
theorem KRg.pw {κ κ' : Type} {k : κ → κ'} {q : Addr} {o : HO} (hp : φ.pv q) : ∀ {fs : List (κ × D)} {gs : List (κ' × V)}, KRg k φ s H fs gs → KRg k φ s (upd H q o) fs gs
  | [], gs, h => h
  | (f, d) :: fs, gs, h => by
    obtain ⟨v, r, e, h1, h2⟩ := h
    exact ⟨v, r, e, Rep.pw hp d h1, KRg.pw hp h2⟩
theorem ObR.pw {q a : Addr} {o : HO} (hp : φ.pv q) (na : a ≠ q) {u : Ob} (h : ObR G φ s H a u) : ObR G φ s (upd H q o) a u := by
  cases u with
  | lst ds =>
    obtain ⟨vs, h1, h2⟩ := h
    exact ⟨vs, by rw [upd_ne na]; exact h1, RepL.pw hp ds h2⟩
  | ins c fs =>
    obtain ⟨C, dx, gs, h1, h2, h3⟩ := h
    exact ⟨C, dx, gs, by rw [upd_ne na]; exact h1, h2, h3.pw hp⟩
  | dic kvs =>
    obtain ⟨ks, h1, h2⟩ := h
    exact ⟨ks, by rw [upd_ne na]; exact h1, h2.pw hp⟩
  | exc c =>
    obtain ⟨h0, C, h1, h2⟩ := h
    exact ⟨h0, C, h1, by rw [upd_ne na]; exact h2⟩
  | dit kvs =>
    obtain ⟨ks, h1, h2⟩ := h
    exact ⟨ks, by rw [upd_ne na]; exact h1, h2.pw hp⟩
theorem HR.pw {q : Addr} {o : HO} (h : HR G φ s H) (hp : φ.pv q) : HR G φ s (upd H q o) := by
  have nb : ∀ n a, φ n = some a → a ≠ q := fun n a e z => h.np n a e (z ▸ hp)
  refine ⟨fun n u e => ?_, h.inj, fun n a e => ?_, fun a e => ?_, h.np, h.k⟩
  · obtain ⟨a, ha, hb⟩ := h.ob n u e
    exact ⟨a, ha, hb.pw hp (nb n a ha)⟩
  · obtain ⟨h1, o', ho⟩ := h.dom n a e
    exact ⟨h1, o', by rw [upd_ne (nb n a e)]; exact ho⟩
  · by_cases ha : a = q
    · subst ha
      exact ⟨o, upd_same⟩
    · obtain ⟨o', ho⟩ := h.pvd a e
      exact ⟨o', by rw [upd_ne ha]; exact ho⟩
theorem SR.pw {q : Addr} {o : HO} {r : Sl} {σ : L2.St} (h : SR φ s H r σ) (hp : φ.pv q) : SR φ s (upd H q o) r σ := ⟨h.len, fun i d e => let ⟨v, h1, h2⟩ := h.get i d e; ⟨v, h1, Rep.pw hp d h2⟩⟩
/-- growth, whatever becomes of what is private -/
structure Gw (φ : Mp) (s : S) (H : Hp) (φ' : Mp) (s' : S) (H' : Hp) : Prop where
  mp : ∀ n a, φ n = some a → φ' n = some a
  kp : ∀ a o, H a = some o → Dead φ s a → H' a = some o ∧ Dead φ' s' a
  ke : φ'.K = φ.K
mutual
theorem Rep.mw (g : Gw φ s H φ' s' H') : ∀ (d : D) {v : V}, Rep φ s H d v → Rep φ' s' H' d v
  | .non, v, h => by simpa only [Rep] using h
  | .bl b, v, h => by simpa only [Rep] using h
  | .int i, v, h => by simpa only [Rep] using h
  | .str x, v, h => by simpa only [Rep] using h
  | .tup ds, v, h => by
    simp only [Rep] at h ⊢
    obtain ⟨a, vs, e, ha, hd, hl⟩ := h
    obtain ⟨h1, h2⟩ := g.kp a _ ha hd
    exact ⟨a, vs, e, h1, h2, RepL.mw g ds hl⟩
  | .lst ds, v, h => by
    simp only [Rep] at h ⊢
    obtain ⟨a, vs, e, ha, hd, hl⟩ := h
    obtain ⟨h1, h2⟩ := g.kp a _ ha hd
    exact ⟨a, vs, e, h1, h2, RepL.mw g ds hl⟩
  | .scr ds, v, h => by
    simp only [Rep] at h ⊢
    obtain ⟨a, vs, e, ha, hl⟩ := h
    refine ⟨a, vs, e, ?_, RepL.mw g ds hl⟩
    rcases ha with ⟨ha | ⟨o, ha⟩, hd⟩ | ha
    · obtain ⟨h1, h2⟩ := g.kp a _ ha hd
      exact .inl ⟨.inl h1, h2⟩
    · obtain ⟨h1, h2⟩ := g.kp a _ ha hd
      exact .inl ⟨.inr ⟨o, h1⟩, h2⟩
    · exact .inr (by rw [g.ke]; exact ha)
  | .ref n, v, h => by
    simp only [Rep] at h ⊢
    obtain ⟨a, e, h⟩ := h
    exact ⟨a, e, g.mp n a h⟩
theorem RepL.mw (g : Gw φ s H φ' s' H') : ∀ (ds : List D) {vs : List V}, RepL φ s H ds vs → RepL φ' s' H' ds vs
  | [], vs, h => by simpa only [RepL] using h
  | d :: ds, vs, h => by
    simp only [RepL] at h ⊢
    obtain ⟨v, r, e, h1, h2⟩ := h
    exact ⟨v, r, e, Rep.mw g d h1, RepL.mw g ds h2⟩
end
theorem FR.mw (g : Gw φ s H φ' s' H') : ∀ {fs : List (String × D)} {gs : List (Str × V)}, FR φ s H fs gs → FR φ' s' H' fs gs
  | [], gs, h => h
  | (f, d) :: fs, gs, h => by
    obtain ⟨v, r, e, h1, h2⟩ := h
    exact ⟨v, r, e, Rep.mw g d h1, FR.mw g h2⟩
theorem KRg.mw {κ κ' : Type} {k : κ → κ'} (g : Gw φ s H φ' s' H') : ∀ {fs : List (κ × D)} {gs : List (κ' × V)}, KRg k φ s H fs gs → KRg k φ' s' H' fs gs
  | [], gs, h => h
  | (f, d) :: fs, gs, h => by
    obtain ⟨v, r, e, h1, h2⟩ := h
    exact ⟨v, r, e, Rep.mw g d h1, KRg.mw g h2⟩
theorem ObR.mw {a : Addr} {u : Ob} (g : Gw φ s H φ' s' H') (e : H' a = H a) (h : ObR G φ s H a u) : ObR G φ' s' H' a u := by
  cases u with
  | lst ds =>
    obtain ⟨vs, h1, h2⟩ := h
    exact ⟨vs, by rw [e]; exact h1, RepL.mw g ds h2⟩
  | ins c fs =>
    obtain ⟨C, dx, gs, h1, h2, h3⟩ := h
    exact ⟨C, dx, gs, by rw [e]; exact h1, h2, h3.mw g⟩
  | dic kvs =>
    obtain ⟨ks, h1, h2⟩ := h
    exact ⟨ks, by rw [e]; exact h1, h2.mw g⟩
  | exc c =>
    obtain ⟨h0, C, h1, h2⟩ := h
    exact ⟨h0, C, h1, by rw [e]; exact h2⟩
  | dit kvs =>
    obtain ⟨ks, h1, h2⟩ := h
    exact ⟨ks, by rw [e]; exact h1, h2.mw g⟩
/-- the private list q becomes public: frozen or boxed -/
theorem unpv {q : Addr} {φ0 : Mp} {s0 : S} {H0 : Hp} {vs : List V} {xs : List D} {bx : Bool} {d : D} {Q : VK} (h : HR G φ s H) (hq : φ.pv q) (h0 : H0 q = none) (g : Gr φ0 s0 H0 φ s H) (hl : H q = some (.lst vs)) (r : RepL φ s H xs vs)
    (e : mkL bx xs s = some (.ok d, s')) (p : Post G φ0 s0 H0 s' d Q) : Q (.ref q) H := by
  have nq : ∀ n, φ n ≠ some q := fun n z => h.np n q z hq
  have dq : ∀ a, Dead φ s a → a ≠ q := fun a d z => d.1 (z ▸ hq)
  unfold mkL at e
  cases bx with
  | false =>
    rw [if_neg Bool.false_ne_true] at e
    cases e
    have gw : Gw φ s H ⟨φ.f, fun a => φ.pv a ∧ a ≠ q, φ.K⟩ s H := ⟨fun _ _ e => e, fun a o e d => ⟨e, fun z => d.1 z.1, d.2⟩, rfl⟩
    refine p ⟨φ.f, fun a => φ.pv a ∧ a ≠ q, φ.K⟩ H _ ⟨g.mp, fun a o e d => ?_, fun a o e d => ?_, g.ke⟩ ⟨fun n u e => ?_, h.inj, h.dom, fun a e => h.pvd a e.1, fun n a e z => h.np n a e z.1, h.k⟩ ?_
    · obtain ⟨h1, h2⟩ := g.kp a o e d
      exact ⟨h1, fun z => h2.1 z.1, h2.2⟩
    · obtain ⟨h1, h2⟩ := g.pk a o e d
      exact ⟨h1, h2, ne_of_none e h0⟩
    · obtain ⟨a, ha, hb⟩ := h.ob n u e
      exact ⟨a, ha, hb.mw gw rfl⟩
    · simp only [Rep]
      exact ⟨q, vs, rfl, hl, ⟨fun z => z.2 rfl, fun n z => absurd z (nq n)⟩, RepL.mw gw xs r⟩
  | true =>
    rw [if_pos rfl] at e
    cases e
    have dd : ∀ a, Dead φ s a → Dead (⟨fun k => if k = s.nx then some q else φ k, fun a => φ.pv a ∧ a ≠ q, φ.K⟩ : Mp) (s.new (.lst xs)) a := fun a d => by
      refine ⟨fun z => d.1 z.1, fun n z => ?_⟩
      replace z : (if n = s.nx then some q else φ n) = some a := z
      show (if n = s.nx then some (Ob.lst xs) else s.m n) = none
      by_cases hn : n = s.nx
      · rw [if_pos hn] at z
        exact absurd (Option.some.inj z).symm (dq a d)
      · rw [if_neg hn] at z ⊢
        exact d.2 n z
    have mp : ∀ n a, φ n = some a → (⟨fun k => if k = s.nx then some q else φ k, fun a => φ.pv a ∧ a ≠ q, φ.K⟩ : Mp) n = some a := fun n a e => by
      have := (h.dom n a e).1
      show (if n = s.nx then some q else φ n) = some a
      rw [if_neg (by omega)]
      exact e
    have gw : Gw φ s H ⟨fun k => if k = s.nx then some q else φ k, fun a => φ.pv a ∧ a ≠ q, φ.K⟩ (s.new (.lst xs)) H := ⟨mp, fun a o e d => ⟨e, dd a d⟩, rfl⟩
    refine p ⟨fun k => if k = s.nx then some q else φ k, fun a => φ.pv a ∧ a ≠ q, φ.K⟩ H _ ⟨fun n a e => mp n a (g.mp n a e), fun a o e d => ?_, fun a o e d => ?_, g.ke⟩ ⟨fun n u e => ?_, fun n m a e1 e2 => ?_, fun n a e => ?_, fun a e => h.pvd a e.1, fun n a e z => ?_, h.k⟩ ?_
    · obtain ⟨h1, h2⟩ := g.kp a o e d
      exact ⟨h1, dd a h2⟩
    · obtain ⟨h1, h2⟩ := g.pk a o e d
      exact ⟨h1, h2, ne_of_none e h0⟩
    · replace e : (if n = s.nx then some (Ob.lst xs) else s.m n) = some u := e
      by_cases hn : n = s.nx
      · rw [if_pos hn] at e
        cases e
        exact ⟨q, by show (if n = s.nx then some q else φ n) = some q; rw [if_pos hn], vs, hl, RepL.mw gw xs r⟩
      · rw [if_neg hn] at e
        obtain ⟨a, ha, hb⟩ := h.ob n u e
        exact ⟨a, mp n a ha, hb.mw gw rfl⟩
    · replace e1 : (if n = s.nx then some q else φ n) = some a := e1
      replace e2 : (if m = s.nx then some q else φ m) = some a := e2
      by_cases hn : n = s.nx
      · by_cases hm : m = s.nx
        · rw [hn, hm]
        · rw [if_pos hn] at e1
          rw [if_neg hm] at e2
          cases e1
          exact absurd e2 (nq m)
      · rw [if_neg hn] at e1
        by_cases hm : m = s.nx
        · rw [if_pos hm] at e2
          cases e2
          exact absurd e1 (nq n)
        · rw [if_neg hm] at e2
          exact h.inj n m a e1 e2
    · replace e : (if n = s.nx then some q else φ n) = some a := e
      by_cases hn : n = s.nx
      · rw [if_pos hn] at e
        cases e
        exact ⟨by show n < s.nx + 1; omega, _, hl⟩
      · rw [if_neg hn] at e
        obtain ⟨h1, h2⟩ := h.dom n a e
        exact ⟨by show n < s.nx + 1; omega, h2⟩
    · replace e : (if n = s.nx then some q else φ n) = some a := e
      by_cases hn : n = s.nx
      · rw [if_pos hn] at e
        cases e
        exact z.2 rfl
      · rw [if_neg hn] at e
        exact h.np n a e z.1
    · have hb : (⟨fun k => if k = s.nx then some q else φ k, fun a => φ.pv a ∧ a ≠ q, φ.K⟩ : Mp) s.nx = some q := by
        show (if s.nx = s.nx then some q else φ s.nx) = some q
        rw [if_pos rfl]
      unfold Rep
      exact ⟨q, rfl, hb⟩
/-- the private dict q becomes public -/
theorem unpvD {q : Addr} {φ0 : Mp} {s0 : S} {H0 : Hp} {ks : List (Key × V)} {kvs : List (DK × D)} {Q : VK} (h : HR G φ s H) (hq : φ.pv q) (h0 : H0 q = none) (g : Gr φ0 s0 H0 φ s H) (hl : H q = some (.dK ks)) (r : KR φ s H kvs ks)
    (p : Post G φ0 s0 H0 (s.new (.dic kvs)) (.ref s.nx) Q) : Q (.ref q) H := by
  have nq : ∀ n, φ n ≠ some q := fun n z => h.np n q z hq
  have dq : ∀ a, Dead φ s a → a ≠ q := fun a d z => d.1 (z ▸ hq)
  have dd : ∀ a, Dead φ s a → Dead (⟨fun k => if k = s.nx then some q else φ k, fun a => φ.pv a ∧ a ≠ q, φ.K⟩ : Mp) (s.new (.dic kvs)) a := fun a d => by
    refine ⟨fun z => d.1 z.1, fun n z => ?_⟩
    replace z : (if n = s.nx then some q else φ n) = some a := z
    show (if n = s.nx then some (Ob.dic kvs) else s.m n) = none
    by_cases hn : n = s.nx
    · rw [if_pos hn] at z
      exact absurd (Option.some.inj z).symm (dq a d)
    · rw [if_neg hn] at z ⊢
      exact d.2 n z
  have mp : ∀ n a, φ n = some a → (⟨fun k => if k = s.nx then some q else φ k, fun a => φ.pv a ∧ a ≠ q, φ.K⟩ : Mp) n = some a := fun n a e => by
    have := (h.dom n a e).1
    show (if n = s.nx then some q else φ n) = some a
    rw [if_neg (by omega)]
    exact e
  have gw : Gw φ s H ⟨fun k => if k = s.nx then some q else φ k, fun a => φ.pv a ∧ a ≠ q, φ.K⟩ (s.new (.dic kvs)) H := ⟨mp, fun a o e d => ⟨e, dd a d⟩, rfl⟩
  refine p ⟨fun k => if k = s.nx then some q else φ k, fun a => φ.pv a ∧ a ≠ q, φ.K⟩ H _ ⟨fun n a e => mp n a (g.mp n a e), fun a o e d => ?_, fun a o e d => ?_, g.ke⟩ ⟨fun n u e => ?_, fun n m a e1 e2 => ?_, fun n a e => ?_, fun a e => h.pvd a e.1, fun n a e z => ?_, h.k⟩ ?_
  · obtain ⟨h1, h2⟩ := g.kp a o e d
    exact ⟨h1, dd a h2⟩
  · obtain ⟨h1, h2⟩ := g.pk a o e d
    exact ⟨h1, h2, ne_of_none e h0⟩
  · replace e : (if n = s.nx then some (Ob.dic kvs) else s.m n) = some u := e
    by_cases hn : n = s.nx
    · rw [if_pos hn] at e
      cases e
      exact ⟨q, by show (if n = s.nx then some q else φ n) = some q; rw [if_pos hn], ks, hl, r.mw gw⟩
    · rw [if_neg hn] at e
      obtain ⟨a, ha, hb⟩ := h.ob n u e
      exact ⟨a, mp n a ha, hb.mw gw rfl⟩
  · replace e1 : (if n = s.nx then some q else φ n) = some a := e1
    replace e2 : (if m = s.nx then some q else φ m) = some a := e2
    by_cases hn : n = s.nx
    · by_cases hm : m = s.nx
      · rw [hn, hm]
      · rw [if_pos hn] at e1
        rw [if_neg hm] at e2
        cases e1
        exact absurd e2 (nq m)
    · rw [if_neg hn] at e1
      by_cases hm : m = s.nx
      · rw [if_pos hm] at e2
        cases e2
        exact absurd e1 (nq n)
      · rw [if_neg hm] at e2
        exact h.inj n m a e1 e2
  · replace e : (if n = s.nx then some q else φ n) = some a := e
    by_cases hn : n = s.nx
    · rw [if_pos hn] at e
      cases e
      exact ⟨by show n < s.nx + 1; omega, _, hl⟩
    · rw [if_neg hn] at e
      obtain ⟨h1, h2⟩ := h.dom n a e
      exact ⟨by show n < s.nx + 1; omega, h2⟩
  · replace e : (if n = s.nx then some q else φ n) = some a := e
    by_cases hn : n = s.nx
    · rw [if_pos hn] at e
      cases e
      exact z.2 rfl
    · rw [if_neg hn] at e
      exact h.np n a e z.1
  · have hb : (⟨fun k => if k = s.nx then some q else φ k, fun a => φ.pv a ∧ a ≠ q, φ.K⟩ : Mp) s.nx = some q := by
      show (if s.nx = s.nx then some q else φ s.nx) = some q
      rw [if_pos rfl]
    unfold Rep
    exact ⟨q, rfl, hb⟩
end
theorem setAll_agree : ∀ {is : List Nat} {ds : List D} {r1 r2 : Sl}, r1.length = r2.length → (∀ k, k ∉ is → r1[k]? = r2[k]?) → setAll is ds r1 = setAll is ds r2
  | [], [], r1, r2, hl, h => by
    show some r1 = some r2
    rw [List.ext_getElem? fun k => h k (by simp)]
  | [], d :: ds, r1, r2, hl, h => rfl
  | i :: is, [], r1, r2, hl, h => rfl
  | i :: is, d :: ds, r1, r2, hl, h => by
    show setAll is ds (r1.set i (some d)) = setAll is ds (r2.set i (some d))
    refine setAll_agree (by rw [List.length_set, List.length_set]; exact hl) fun k hk => ?_
    by_cases hi : i = k
    · subst hi
      rw [List.getElem?_set, List.getElem?_set, if_pos rfl, if_pos rfl, hl]
    · rw [List.getElem?_set_ne hi, List.getElem?_set_ne hi]
      exact h k (by rw [List.mem_cons, not_or]; exact ⟨fun z => hi z.symm, hk⟩)
def wipeR (r : Sl) : List Nat → Sl
  | [] => r
  | v :: vs => (wipeR r vs).set v none
theorem wipeR_length (r : Sl) : ∀ vs : List Nat, (wipeR r vs).length = r.length
  | [] => rfl
  | v :: vs => by unfold wipeR; rw [List.length_set, wipeR_length r vs]
theorem wipeR_out {r : Sl} {i : Nat} : ∀ {vs : List Nat}, i ∉ vs → (wipeR r vs)[i]? = r[i]?
  | [], h => rfl
  | v :: vs, h => by
    unfold wipeR
    rw [List.mem_cons, not_or] at h
    rw [List.getElem?_set_ne (fun z => h.1 z.symm)]
    exact wipeR_out h.2
theorem wipeR_some {r : Sl} {i : Nat} {x : D} : ∀ {vs : List Nat}, (wipeR r vs)[i]? = some (some x) → r[i]? = some (some x) ∧ i ∉ vs
  | [], h => ⟨h, by simp⟩
  | v :: vs, h => by
    unfold wipeR at h
    by_cases hi : v = i
    · subst hi
      by_cases hv : v < (wipeR r vs).length
      · rw [List.getElem?_set_self hv] at h; cases h
      · rw [List.getElem?_eq_none (by simpa using hv)] at h; cases h
    · rw [List.getElem?_set_ne hi] at h
      obtain ⟨h1, h2⟩ := wipeR_some h
      exact ⟨h1, by simp only [List.mem_cons, not_or]; exact ⟨fun e => hi e.symm, h2⟩⟩
theorem tgSet_wipe {s : S} {tg : Tg} {d : D} {r : Sl} : tgSet s tg d (wipeR r (slots tg)) = tgSet s tg d r := by
  cases tg with
  | nm i =>
    show some ((r.set i none).set i (some d)) = some (r.set i (some d))
    rw [List.set_set]
  | tp is =>
    cases d with
    | tup ds => exact setAll_agree (wipeR_length r is) fun k hk => wipeR_out hk
    | lst ds => exact setAll_agree (wipeR_length r is) fun k hk => wipeR_out hk
    | _ => rfl
  | nt i is =>
    have key : ∀ d0 ds, setAll is ds ((wipeR r (i :: is)).set i (some d0)) = setAll is ds (r.set i (some d0)) := fun d0 ds => by
      have e1 : (wipeR r (i :: is)).set i (some d0) = (wipeR r is).set i (some d0) := by
        show ((wipeR r is).set i none).set i (some d0) = _
        rw [List.set_set]
      rw [e1]
      refine setAll_agree (by rw [List.length_set, List.length_set, wipeR_length]) fun k hk => ?_
      by_cases hki : i = k
      · subst hki
        rw [List.getElem?_set, List.getElem?_set, wipeR_length, if_pos rfl, if_pos rfl]
      · rw [List.getElem?_set_ne hki, List.getElem?_set_ne hki, wipeR_out hk]
    show (ntD d).bind (fun p => setAll is p.2 ((wipeR r (i :: is)).set i (some p.1))) = (ntD d).bind fun p => setAll is p.2 (r.set i (some p.1))
    congr 1
    funext p
    exact key p.1 p.2
theorem SR.wipe {φ : Mp} {s : S} {H : Hp} {r : Sl} {σ : L2.St} (h : SR φ s H r σ) (vs : List Nat) : SR φ s H (wipeR r vs) (L2.wipe σ vs) := by
  refine ⟨by rw [wipe_length, wipeR_length]; exact h.len, fun i d e => ?_⟩
  obtain ⟨h1, h2⟩ := wipeR_some e
  obtain ⟨v, h3, h4⟩ := h.get i d h1
  exact ⟨v, by rw [wipe_out h2]; exact h3, h4⟩
abbrev rC (G : Glob) (cf : CF) (c : Oe) : TT := rd G (evT cf c) (fun _ _ _ a b => a = b)
section
variable {G : Glob} {cf : CF} {X : Cx}
theorem c_lcR {ce : E} {tg : Tg} {it : It} {cnd : Oe} {bx : Bool} (σ : L2.St) (H : Hp) (Q : VK) (h : rE G cf (.lc bx ce tg it cnd) σ H Q) : tLc (rI G cf it) (gOf X.K tg) (rC G cf cnd) (rE G cf ce) (slots tg) σ H Q := by
  obtain ⟨φ, s, r, A, d, s', hev, p⟩ := h
  simp only [ev] at hev
  obtain ⟨iv, s1, e1, hev⟩ := bnd_inv hev
  refine rd_step A e1 fun φ1 H1 J g1 A1 jok => ?_
  intro q hq
  split at hev
  · cases hev
  · rename_i n hn
    obtain ⟨xs, s2, e2, hev⟩ := bnd_inv hev
    refine ⟨fun i m H' => ∃ φ' s' acc vs, φ'.pv q ∧ Gr φ1 s1 H1 φ' s' H' ∧ HR G φ' s' H' ∧ H' q = some (.lst vs) ∧ RepL φ' s' H' acc vs ∧ lcN tg iv (evT cf cnd) (ev cf ce) r m i acc s' = some (.ok xs, s2),
      ⟨n + 1, pvt φ1 q, s1, [], [], .inr rfl, Gr.pvt A1.hr hq, A1.hr.pvt hq, upd_same, RepL.nil, e2⟩, ?_⟩
    rintro i m H' ⟨φ', s3, acc, vs, hp, g, hr, hl, ra, ee⟩
    cases m with
    | zero =>
      unfold lcN at ee
      cases ee
    | succ m =>
      unfold lcN at ee
      split at ee
      · cases ee
      · rename_i n' hn'
        obtain ⟨j1, j2⟩ := jok φ' s3 H' g hr n' i hn'
        split at ee
        · rename_i hi
          split at ee
          · cases ee
          · rename_i x hx
            split at ee
            · cases ee
            · rename_i r' hr'
              obtain ⟨go, yl⟩ := j1 hi x hx
              refine .inr ⟨go, _, fun _ z => z, fun xv H2 y => ?_⟩
              obtain ⟨g2, hr2, rx⟩ := yl xv H2 y
              rw [← tgSet_wipe] at hr'
              refine tg_ok rx hr' (((A1.sr.mono g).mono g2).wipe (slots tg)) fun σ2 sr2 hl2 hk2 => ?_
              refine ⟨?_, ?_⟩
              · rw [wipe_eq hl2 hk2, wipe_wipe]
              obtain ⟨b, s4, e4, ee⟩ := bnd_inv ee
              refine rd_step ⟨hr2, sr2⟩ e4 fun φ4 H4 b' g4 A4 rb => ?_
              subst rb
              obtain ⟨hl2', hp2⟩ := g2.pk q _ hl hp
              obtain ⟨hl4, hp4⟩ := g4.pk q _ hl2' hp
              cases b with
              | false =>
                rw [if_neg Bool.false_ne_true] at ee ⊢
                exact ⟨m, Nat.lt_succ_self m, φ4, s4, acc, vs, hp4, (g.trans g2).trans g4, A4.hr, hl4, RepL.mono g4 acc (RepL.mono g2 acc ra), ee⟩
              | true =>
                rw [if_pos rfl] at ee ⊢
                obtain ⟨y', s5, e5, ee⟩ := bnd_inv ee
                refine rd_step A4 e5 fun φ5 H5 yv g5 A5 ry => ?_
                obtain ⟨hl5, hp5⟩ := g5.pk q _ hl4 hp4
                split at ee
                · rename_i hz
                  refine ⟨vs, hl5, by rw [ra.length, ← LIM_eq]; exact hz, m, Nat.lt_succ_self m, φ5, s5, acc ++ [y'], vs ++ [yv], hp5, ?_, A5.hr.pw hp5, upd_same, ?_, ee⟩
                  · exact Gr.pw hp5 hq (((g.trans g2).trans g4).trans g5)
                  · exact RepL.pw hp5 _ ((RepL.mono g5 acc (RepL.mono g4 acc (RepL.mono g2 acc ra))).app (RepL.one ry))
                · cases ee
        · rename_i hi
          cases ee
          exact .inl ⟨j2 (by omega), unpv hr hp hq g hl ra hev (Post.from g1 p)⟩
end
section
variable {G : Glob} {φ : Mp} {s : S} {H : Hp}
section
variable {κ κ' : Type} [DecidableEq κ] [DecidableEq κ'] {g : κ → κ'} (hg : ∀ {a b}, g a = g b ↔ a = b)
include hg
theorem KRg.any : ∀ {kvs : List (κ × D)} {ks : List (κ' × V)} (k : κ), KRg g φ s H kvs ks → (ks.any fun kv => decide (kv.1 = g k)) = (kvs.any fun kv => decide (kv.1 = k))
  | [], ks, k, h => by
    simp only [KRg] at h
    subst h
    rfl
  | (f, d) :: kvs, ks, k, h => by
    obtain ⟨v, r, rfl, h1, h2⟩ := h
    rw [List.any_cons, List.any_cons, KRg.any k h2]
    congr 1
    exact decide_eq_decide.mpr hg
theorem KRg.map {k : κ} {d : D} {v : V} (rv : Rep φ s H d v) : ∀ {kvs : List (κ × D)} {ks : List (κ' × V)}, KRg g φ s H kvs ks → KRg g φ s H (kvs.map fun kv => if kv.1 = k then (kv.1, d) else kv) (ks.map fun kv => if kv.1 = g k then (kv.1, v) else kv)
  | [], ks, h => by
    simp only [KRg] at h
    subst h
    rfl
  | (f, x) :: kvs, ks, h => by
    obtain ⟨u, r, rfl, h1, h2⟩ := h
    rw [List.map_cons, List.map_cons]
    by_cases hf : f = k
    · subst hf
      rw [if_pos rfl, if_pos rfl]
      exact ⟨v, _, rfl, rv, KRg.map rv h2⟩
    · rw [if_neg hf, if_neg (fun z => hf (hg.mp z))]
      exact ⟨u, _, rfl, h1, KRg.map rv h2⟩
omit hg in
theorem KRg.snoc {k : κ} {d : D} {v : V} (rv : Rep φ s H d v) : ∀ {kvs : List (κ × D)} {ks : List (κ' × V)}, KRg g φ s H kvs ks → KRg g φ s H (kvs ++ [(k, d)]) (ks ++ [(g k, v)])
  | [], ks, h => by
    simp only [KRg] at h
    subst h
    exact ⟨v, [], rfl, rv, rfl⟩
  | (f, x) :: kvs, ks, h => by
    obtain ⟨u, r, rfl, h1, h2⟩ := h
    exact ⟨u, _, rfl, h1, KRg.snoc rv h2⟩
theorem KRg.put {k : κ} {d : D} {v : V} (rv : Rep φ s H d v) {kvs : List (κ × D)} {ks : List (κ' × V)} (h : KRg g φ s H kvs ks) : KRg g φ s H (dput kvs k d) (putK ks (g k) v) := by
  unfold dput putK
  rw [KRg.any hg k h]
  split
  · exact KRg.map hg rv h
  · exact KRg.snoc rv h
end
theorem KRg.dmk : ∀ {ks : List (List Nat)} {xs : List D} {vs : List V} {kvs : List (DK × D)} {kv : List (Key × V)}, RepL φ s H xs vs → KR φ s H kvs kv →
    KR φ s H ((ks.zip xs).foldl (fun acc kv => dput acc (.s kv.1) kv.2) kvs) (mergeK kv ((ks.map fun z => kyOf (.s z)).zip vs))
  | [], xs, vs, kvs, kv, r, h => h
  | k :: ks, [], vs, kvs, kv, r, h => by
    simp only [RepL] at r
    subst r
    exact h
  | k :: ks, x :: xs, vs, kvs, kv, r, h => by
    simp only [RepL] at r
    obtain ⟨v, w, rfl, r1, r2⟩ := r
    exact KRg.dmk (ks := ks) r2 (KRg.put ky_inj r1 h)
variable {cf : CF} {X : Cx}
def trsOf (G : Glob) (cf : CF) : List (List Nat) → Es → List (TE × TE)
  | k :: ks, .cons e r => (tC (.str ⟨k.toArray⟩), rE G cf e) :: trsOf G cf ks r
  | _, _ => []
def esLen : Es → Nat
  | .nil => 0
  | .cons _ r => esLen r + 1
theorem pairs_ok {σ : L2.St} : ∀ {ks : List (List Nat)} {es : Es} {H : Hp} {Q : List (V × V) → Hp → Prop}, esLen es = ks.length → rd G (evs cf es) RepL σ H (fun vs H2 => Q ((ks.map fun z => V.str ⟨z.toArray⟩).zip vs) H2) → tPairs (trsOf G cf ks es) σ H Q
  | [], .nil, H, Q, hl, h => by
    obtain ⟨φ, s, r, A, d, s', he, p⟩ := h
    simp only [evs] at he
    cases he
    exact p φ H [] (Gr.refl _ _ _) A.hr RepL.nil
  | k :: ks, .nil, H, Q, hl, h => by cases hl
  | [], .cons e t, H, Q, hl, h => by cases hl
  | k :: ks, .cons e t, H, Q, hl, h => by
    obtain ⟨φ, s, r, A, d, s', he, p⟩ := h
    simp only [evs] at he
    obtain ⟨x, s1, e1, he⟩ := bnd_inv he
    obtain ⟨xs, s2, e2, he⟩ := bnd_inv he
    cases he
    show tC (.str ⟨k.toArray⟩) σ H fun x H1 => rE G cf e σ H1 fun y H2 => tPairs (trsOf G cf ks t) σ H2 fun ps H3 => Q ((x, y) :: ps) H3
    show rE G cf e σ H fun y H2 => tPairs (trsOf G cf ks t) σ H2 fun ps H3 => Q ((V.str ⟨k.toArray⟩, y) :: ps) H3
    refine rd_step A e1 fun φ1 H1 v g1 A1 rv => ?_
    refine pairs_ok (by simpa [esLen] using hl) ⟨φ1, s1, r, A1, xs, s', e2, fun φ2 H2 vs g2 h2 rs => ?_⟩
    exact p φ2 H2 (v :: vs) (g1.trans g2) h2 (by simp only [RepL]; exact ⟨v, vs, rfl, Rep.mono g2 x rv, rs⟩)
theorem zip_kv : ∀ (ks : List (List Nat)) (vs : List V), (ks.map fun z => V.str ⟨z.toArray⟩).zip vs = (((ks.map fun z => kyOf (.s z)).zip vs).map fun kv => (kV kv.1, kv.2))
  | [], vs => rfl
  | k :: ks, [] => rfl
  | k :: ks, v :: vs => by
    rw [List.map_cons, List.map_cons, List.zip_cons_cons, List.zip_cons_cons, List.map_cons, zip_kv ks vs]
    rfl
theorem c_dsp {pos : Pos} {keys : List (Option Expr)} {values : List Expr} {ks : List (List Nat)} {es : Es} (h : PPs X pos keys values (trsOf G cf ks es)) (hall : keys.all (·.isSome) = true) (hl : keys.length = values.length) (h0 : keys ≠ []) (h15 : keys.length ≤ 15) (hk : keys.length = ks.length) (he : esLen es = ks.length) :
    PE X (.Dict keys values pos) (rE G cf (.dsp ks es)) := by
  refine PE.imp (pe_disp h hall hl h0 h15) fun σ H Q q => ?_
  obtain ⟨φ, s, r, A, d, s', hev, p⟩ := q
  simp only [ev] at hev
  obtain ⟨xs, s1, e1, hev⟩ := bnd_inv hev
  split at hev
  · rename_i hz
    cases hev
    intro a ha
    refine pairs_ok he ⟨pvt φ a, s, r, ⟨A.hr.pvt ha, A.sr.mono (Gr.pvt A.hr ha)⟩, xs, s1, e1, fun φ1 H1 vs g1 h1 rs => ?_⟩
    obtain ⟨k1, k2⟩ := g1.pk a _ upd_same (.inr rfl)
    refine ⟨k1, (ks.map fun z => kyOf (.s z)).zip vs, zip_kv ks vs, ?_, ?_⟩
    · rw [List.length_zip, List.length_map]
      omega
    · have g0 : Gr φ s H φ1 s1 H1 := (Gr.pvt A.hr ha).trans g1
      exact unpvD (h1.pw k2) k2 ha (Gr.pw k2 ha g0) upd_same (KRg.dmk (RepL.pw k2 xs rs) (show KR φ1 s1 _ [] [] from rfl)) p
  · cases hev
theorem c_dsv {pos : Pos} {a b : Expr} {ca cb : E} (ha : PE X a (rE G cf ca)) (hb : PE X b (rE G cf cb)) : PE X (.Dict [some a] [b] pos) (rE G cf (.dsv ca cb)) := by
  refine PE.imp (pe_disp (pps_cons ha hb pps_nil) rfl rfl (by simp) (by simp)) fun σ H Q q => ?_
  obtain ⟨φ, s, r, A, d, s', hev, p⟩ := q
  simp only [ev] at hev
  obtain ⟨x, s1, e1, hev⟩ := bnd_inv hev
  obtain ⟨y, s2, e2, hev⟩ := bnd_inv hev
  cases x with
  | str z =>
    cases hev
    intro a ha
    refine rd_step (φ := pvt φ a) (s := s) ⟨A.hr.pvt ha, A.sr.mono (Gr.pvt A.hr ha)⟩ e1 fun φ1 H1 v g1 A1 rv => ?_
    refine rd_step A1 e2 fun φ2 H2 u g2 A2 ru => ?_
    simp only [Rep] at rv
    subst rv
    obtain ⟨k1, k2⟩ := (g1.trans g2).pk a _ upd_same (.inr rfl)
    refine ⟨k1, [(kyOf (.s z), u)], rfl, by simp, ?_⟩
    have g0 : Gr φ s H φ2 s2 H2 := (Gr.pvt A.hr ha).trans (g1.trans g2)
    exact unpvD (A2.hr.pw k2) k2 ha (Gr.pw k2 ha g0) upd_same (KRg.dmk (ks := [z]) (RepL.pw k2 [y] (RepL.one ru)) (show KR φ2 s2 _ [] [] from rfl)) p
  | _ => cases hev
theorem c_dsp0 {pos : Pos} : PE X (.Dict [] [] pos) (rE G cf (.dsp [] .nil)) := by
  refine PE.imp pe_dnewK fun σ H Q q => ?_
  obtain ⟨φ, s, r, A, d, s', hev, p⟩ := q
  simp only [ev, evs] at hev
  obtain ⟨xs, s1, e1, hev⟩ := bnd_inv hev
  cases e1
  split at hev
  · cases hev
    intro a ha
    have g : Gr φ s H (Fl.bx φ s.nx a) (s.new (.dic [])) (upd H a (.dK [])) := Gr.box A.hr ha
    refine p _ _ _ g (A.hr.box ha ⟨[], upd_same, rfl⟩) ?_
    simp only [Rep]
    exact ⟨a, rfl, by show (if s.nx = s.nx then some a else φ s.nx) = some a; rw [if_pos rfl]⟩
  · cases hev
end
end Fl
namespace Fl
open PySem L2
section
variable {X : Cx} {pins : List (Addr × Obj)} {σ : L2.St} {H : Hp} {s : Shared}
theorem inv_track {a C : Addr} {oe : Obj} {vs : Array Value} (I : Inv X pins σ H s) (ha : s.heap.get? a = some oe) (hz : Zc (.ref C) none oe) (hd : oe.data = .fields vs) (na : H a = none)
    (n0 : X.s_0.heap.get? a = none) (nL : a ≠ X.env.locals) (nC : ∀ x c, X.env.cells.lookup x = some c → c ≠ a) (nP : ∀ p ∈ X.pn ++ pins, p.1 ≠ a) : Inv X pins σ (upd H a (xO C a)) s := by
  have ne : ∀ {b : Addr} {o : HO}, H b = some o → b ≠ a := fun q => ne_of_none q na
  refine ⟨I.ok, I.os, I.bare, ⟨I.base.keep, I.base.slot, fun b o e n hx => ?_, I.base.there, fun b xs e => ?_, fun b o xs e => ?_, fun b ps e => ?_⟩, I.loc, I.cell, ?_, fun x c e => ?_, fun p hp => ?_, fun b o e => ?_, I.len⟩
  · have nb : b ≠ a := fun z => by
      rw [z, n0] at e
      cases e
    rw [upd_ne nb]
    exact I.base.free b o e n hx
  · have q := I.base.tups b xs e
    rw [upd_ne (ne q)]
    exact q
  · have q := I.base.frzs b o xs e
    rw [upd_ne (ne q)]
    exact q
  · obtain ⟨more, q⟩ := I.base.tbls b ps e
    exact ⟨more, by rw [upd_ne (ne q)]; exact q⟩
  · rw [upd_ne nL.symm]
    exact I.free
  · rw [upd_ne (nC x c e)]
    exact I.freeC x c e
  · obtain ⟨h1, h2, h3⟩ := I.pin p hp
    exact ⟨h1, by rw [upd_ne (nP p hp)]; exact h2, h3⟩
  · by_cases hb : b = a
    · subst hb
      rw [upd_same] at e
      cases e
      exact ⟨⟨oe, vs, ha, hz, hd⟩, ⟨oe, ha⟩, fun h1 h2 ⟨oe, vs, q1, q2, q3⟩ k => ⟨oe, vs, k _ q1, q2, q3⟩⟩
    · rw [upd_ne hb] at e
      exact (I.hok b o e).stay (fun c u _ q => q) (fun c q => by rw [upd_ne (ne q)]; exact q) fun c xs q => by rw [upd_ne (ne q)]; exact q
end
/-- except x as n: m = n -/
def wKeep (K : PySem.W.Frag) (c : Value) (i j : Nat) (Wout : WX) (Dn : Ends) : WX := fun cls d σ H =>
  ∃ b, PySem.W.exmOne K cls c = some b ∧ (b = true → ∃ C, cls = .ref C ∧ d = none ∧ ∀ a, H a = none → Dn.nx (((σ.set i (some (.ref a))).set j (some (.ref a))).set i none) (upd H a (xO C a))) ∧ (b = false → Wout cls d σ H)
theorem ps_try_keep {X : Cx} {x n m : Str} {c : Value} {i j : Nat} {body : List Stmt} {np pn pm pa pos pos' : Pos} {tb : WX → TS} {Wout : WX} (hs : X.stack = X.env :: X.outer) (hf : X.env.frame = some X.env.locals) (hex : X.ex = []) (hN : X.N.Nodup) (hi : X.N[i]? = some n) (hln : X.env.kindOf n = some .local)
    (hj : X.N[j]? = some m) (hlm : X.env.kindOf m = some .local) (hij : i ≠ j) (hc : Names X x c) (hdn : (n == ("__debug__" : Str)) = false) (hcn : (n == ("__classdict__" : Str)) = false) (tk : Takes X Wout)
    (hb : ∀ (W : WX) (pn : List (Addr × Obj)) (xe : Value → Shared → Prop), Takes (X.tr pn xe) W → PassesOwn (model X.prog X.w) X.A X.env xe → PSs (X.tr pn xe) body (tb W)) :
    PS X (.Try body [.ExceptHandler (some (.Name x np)) (some n) [.Assign [.Name m pm] (.Name n pn) pa] pos'] [] [] pos) (fun Dn σ H => tb (wKeep X.K c i j Wout Dn) Dn σ H) := by
  refine ⟨fun pins s σ H Dn I h => ?_⟩
  have ok := I.ok
  have hfr : X.A.frames = some (X.env :: X.outer) := by rw [ok.frames, hs]
  refine wpAny_Try_except ?_
  refine wpAny_mono ((hb (wKeep X.K c i j Wout Dn) (X.pn ++ pins) (fun e s₁ => wpAny (model X.prog X.w) X.A (noteFrame e X.env) (fun _ s₂ => wpAny (model X.prog X.w) X.A (setFlight e none) (fun _ s₃ =>
    wpAny (model X.prog X.w) X.A (handleBy e X.env [.ExceptHandler (some (.Name x np)) (some n) [.Assign [.Name m pm] (.Name n pn) pa] pos']) (SP X pins Dn) X.xe s₃) X.xe s₂) X.xe s₁) (fun u s' xx => ?_) PassesOwn.looking).run [] s σ H Dn (I.toTry _) h) (fun f s1 hsp => ?_) (fun e s1 he => he)
  · obtain ⟨a, B, sI, pins', σ', H', cls, d, rfl, J', nb, up, sky, na, os, ag, b, hb1, hyes, hno⟩ := xx
    have J : Inv X pins σ' H' sI := J'.ofTry ok
    have sky' : Sky B (X.env :: X.outer) a (Zc cls d) X.env.locals s'.heap := by rw [← hs]; exact sky
    show wpAny (model X.prog X.w) X.A (noteFrame (.ref a) X.env) _ _ _
    refine Sky.land Zc.steady hfr hf sky' fun h3 fl3 up3 => ?_
    have J3 : Inv X pins σ' H' { s' with heap := h3 } := J.landed nb fl3.1 (up.trans up3) os ag
    obtain ⟨oe3, vs3, he3, hz3, hd3⟩ := fl3.there
    have nfr : a ∉ frs (X.env :: X.outer) := fun hm => by
      obtain ⟨_, o', e', hnf⟩ := fl3.2.2.1.mem hm
      rw [he3] at e'
      cases e'
      exact hnf _ hd3
    have nL : a ≠ X.env.locals := fun z => nfr (List.mem_filterMap.mpr ⟨X.env, List.mem_cons_self, by rw [hf, z]⟩)
    have nF : a ∉ X.fs := fun hm => by
      obtain ⟨e, he, q⟩ := List.mem_filterMap.mp hm
      exact nfr (List.mem_filterMap.mpr ⟨e, List.mem_cons_of_mem _ he, q⟩)
    have fresh : ∀ b o, sI.heap.get? b = some o → b ≠ a := fun b o e z => by
      subst z
      have q := nb b o e (by rw [hs]; exact nfr)
      rw [fl3.2.1] at q
      cases q
    have S3 := J3.suite he3 hd3 na nL nF
    refine wpAny_handleBy_cons (codeAny_handlers_test ?_) (by intro q; cases q)
    have LT : PySem.W.Looks (model X.prog X.w) h3 (typeOf (.ref a)) cls := fun A Q E s k q => wpAny_typeOf_ref (k _ _ he3) (by rw [hz3.1]; exact q)
    have LM := PySem.W.exm_one (M := model X.prog X.w) (J3.kIn) LT hb1
    have test : ∀ {Q : Value → Shared → Prop} {E : Value → Shared → Prop}, Q c { s' with heap := h3 } → wpAny (model X.prog X.w) (X.A.mark (some (.ref a))) (eval (.Name x np) X.env) Q E { s' with heap := h3 } := fun {Q E} q => by
      obtain ⟨hg, hdbg, hm | ⟨hm, hv, hnn⟩⟩ := hc
      · exact ld_glob (X := X.suite a ((a, oe3) :: (X.pn ++ pins))) S3 hg hm q hdbg
      · exact ld_blt (X := X.suite a ((a, oe3) :: (X.pn ++ pins))) S3 hg hm hv q hnn hdbg
    refine test (LM.here ?_)
    cases b with
    | true =>
      obtain ⟨C, hC, hdd, hyes2⟩ := hyes rfl
      subst hC hdd
      refine codeAny_handlers_suite_as ?_
      refine HandSPX.lands_againZ fl3 fun h4 fl4 up4 => ?_
      have J4 : Inv X pins σ' H' { s' with heap := h4 } := J.landed nb fl4.1 ((up.trans up3).trans up4) os ag
      obtain ⟨oe4, vs4, he4, hz4, hd4⟩ := fl4.there
      have S4 := J4.suite he4 hd4 na nL nF
      refine store_ok (X := X.suite a ((a, oe4) :: (X.pn ++ pins))) (v := .ref a) S4 hN hi (.inl hln) rfl (fun s5 S5 => ?_) (.inr hln)
      have su : PSs (X.suite a ((a, oe4) :: (X.pn ++ pins))) [.Assign [.Name m pm] (.Name n pn) pa] (tSeq (tAsg (tVar i) (gName j)) tNext) :=
        pss_cons (ps_set (X := X.suite a ((a, oe4) :: (X.pn ++ pins))) hN hj (.inl hlm) (pe_var hi (.inl hln) hdn hcn) rfl (.inr hlm)) pss_nil
      have il : i < σ'.length := by
        rw [J.len]
        exact (List.getElem?_eq_some_iff.mp hi).1
      refine wpAny_mono (su.run [] s5 _ H' { nx := fun σ6 H6 => σ6 = (σ'.set i (some (.ref a))).set j (some (.ref a)) ∧ H6 = H', rt := fun _ _ => False } S5 ⟨.ref a, by rw [List.getElem?_set_self il], rfl, rfl⟩) (fun f s6 hsp => ?_) (fun _ _ z => False.elim z)
      cases f with
      | next =>
        obtain ⟨σ6, H6, S6, e6, e7⟩ := hsp
        subst e6 e7
        have P6 : Inv (X.tr ((a, oe4) :: (X.pn ++ pins)) X.xe) [] ((σ'.set i (some (.ref a))).set j (some (.ref a))) H6 s6 :=
          ⟨ok.toTry _ _, S6.os, S6.bare, S6.base, S6.loc, S6.cell, S6.free, S6.freeC, S6.pin, S6.hok, S6.len⟩
        refine gone_ok (X := X.tr ((a, oe4) :: (X.pn ++ pins)) X.xe) (pos := pos') P6 hN hi hln fun s7 P7 => ?_
        obtain ⟨hg7, hn7, _⟩ := P7.pin (a, oe4) (List.mem_append_left _ List.mem_cons_self)
        have J7 : Inv X pins (((σ'.set i (some (.ref a))).set j (some (.ref a))).set i none) H6 s7 :=
          ⟨ok, P7.os, P7.bare, P7.base, P7.loc, P7.cell, P7.free, P7.freeC, fun p hp => P7.pin p (List.mem_append_left _ (List.mem_cons_of_mem _ hp)), P7.hok, P7.len⟩
        refine ⟨_, _, inv_track J7 hg7 hz4 hd4 hn7 ?_ nL (fun y cc e => ?_) (fun p hp => ?_), hyes2 a hn7⟩
        · cases q : X.s_0.heap.get? a with
          | none => rfl
          | some o =>
            obtain ⟨v, hv⟩ := J.base.there a o q (by rw [hex]; simp)
            exact absurd rfl (fresh a v hv)
        · obtain ⟨v, o, q, _⟩ := J.cell y cc e
          exact fresh cc _ q
        · obtain ⟨q, _⟩ := J.pin p hp
          exact fresh p.1 _ q
      | brk =>
        obtain ⟨σ6, H6, S6, q6⟩ := hsp
        exact False.elim q6
      | cont =>
        obtain ⟨σ6, H6, S6, q6⟩ := hsp
        exact False.elim q6
      | ret u =>
        obtain ⟨v6, σ6, H6, S6, r6, q6⟩ := hsp
        exact False.elim q6
    | false =>
      show wpAny _ X.A (handleBy (.ref a) X.env []) _ _ _
      refine wpAny_handleBy_nil ?_
      obtain ⟨k1, k2, k3, oe, vs, T, oT, ts', he, hz, hd, h1, hr⟩ := id fl3
      unfold PySem.passOn
      refine wpAny_bind (wpAny_field he hd h1 ?_)
      rw [if_neg (show ¬ ((Value.ref T == Value.none) = true) from by simp)]
      have fin : wpAny (model X.prog X.w) X.A (setFlight (.ref a) X.env.frame) (fun _ s4 => wpAny (model X.prog X.w) X.A (throw (.ref a) : Sem Flow) (SP X pins Dn) X.xe s4) X.xe { s' with heap := h3 } := by
        rw [hf]
        refine HandSPX.setFlight_upZ fl3 fun h4 hh4 up4 => wpAny_throw (tk _ _ ?_)
        exact ⟨a, B, sI, pins, σ', H', cls, d, rfl, J, nb, (up.trans up3).trans up4, .inr (.inr (by rw [hs]; exact hh4)), na, os, ag, hno rfl⟩
      first
        | exact wpAny_bind (wpAny_pure (wpAny_bind fin))
        | exact wpAny_bind fin
  · cases f with
    | next =>
      obtain ⟨σ', H', J', q⟩ := hsp
      exact wpAny_execs_nil ⟨σ', H', J'.ofTry ok, q⟩
    | brk =>
      obtain ⟨σ', H', J', q⟩ := hsp
      exact ⟨σ', H', J'.ofTry ok, q⟩
    | cont =>
      obtain ⟨σ', H', J', q⟩ := hsp
      exact ⟨σ', H', J'.ofTry ok, q⟩
    | ret u =>
      obtain ⟨v, σ', H', J', r, q⟩ := hsp
      exact ⟨v, σ', H', J'.ofTry ok, r, q⟩
def rIsX (K : PySem.W.Frag) : List V → Hp → VK → Prop := fun xs H Q => ∃ (a C : Addr) (c : V) (u : Value) (b : Bool), xs = [.ref a, c] ∧ ClsV c u ∧ H a = some (xO C a) ∧ ExcC K C ∧ PySem.W.kitOne K (.ref C) u = some b ∧ Q (.bl b) H
def rIsXT (K : PySem.W.Frag) : List V → Hp → VK → Prop := fun xs H Q => ∃ (a C tp : Addr) (cs : List V) (us : List Value) (b : Bool), xs = [.ref a, .ref tp] ∧ H tp = some (.tup cs) ∧ Paired ClsV cs us ∧ H a = some (xO C a) ∧ ExcC K C ∧ PySem.W.kitAny K (.ref C) us = some b ∧ Q (.bl b) H
theorem inst_x {X : Cx} {pins : List (Addr × Obj)} {σ : L2.St} {H : Hp} {s : Shared} {a C : Addr} (I : Inv X pins σ H s) (h : H a = some (xO C a)) : ∃ oe, PySem.W.InstAt s.heap a oe C none := by
  obtain ⟨⟨oe, vs, hg, hz, hd⟩, _⟩ := I.hok a _ h
  refine ⟨oe, ?_⟩
  obtain ⟨oc, od, oda, osl⟩ := oe
  obtain ⟨h1, h2⟩ := hz
  dsimp only at h1 h2 hd
  subst h1 h2 hd
  exact ⟨hg, rfl, rfl, trivial⟩
theorem call_isX {X : Cx} : CallR X (.builtin "isinstance") (rIsX X.K) := by
  intro pins s σ H xs us Q I r h
  obtain ⟨a, C, c, u, b, rfl, k, ha, xc, e, q⟩ := h
  obtain ⟨u1, u2, rfl, r1, r2⟩ := vals2 r
  cases (show u1 = Value.ref a from r1)
  have e2 := k.eq r2
  subst e2
  obtain ⟨oe, J⟩ := inst_x I ha
  exact PySem.W.kia_one (PySem.W.handS_kitx_exc xc.hg xc.hk xc.hs xc.hd xc.ha xc.hn xc.ht xc.hm) I.kIn J e (fun z => nomatch z) fun tk => ⟨.bl b, H, I.tok tk, rfl, q⟩
theorem call_isXT {X : Cx} : CallR X (.builtin "isinstance") (rIsXT X.K) := by
  intro pins s σ H xs us Q I r h
  obtain ⟨a, C, tp, cs, ws, b, rfl, hT, k, ha, xc, e, q⟩ := h
  obtain ⟨u1, u2, rfl, r1, r2⟩ := vals2 r
  cases (show u1 = Value.ref a from r1)
  cases (show u2 = Value.ref tp from r2)
  obtain ⟨oe, J⟩ := inst_x I ha
  obtain ⟨_, its, rv, o, h1, h2, n, h3⟩ := (show ObjOk X.prog X.w H s.heap tp (.tup cs) from I.hok tp _ hT)
  have e3 := ClsV.all k rv
  subst e3
  obtain ⟨oc, od, dt, sl⟩ := o
  simp only at h2 h3
  subst h2 h3
  exact PySem.W.kia_tup (PySem.W.handS_kitx_exc xc.hg xc.hk xc.hs xc.hd xc.ha xc.hn xc.ht xc.hm) I.kIn J h1 e (fun z => nomatch z) fun tk => ⟨.bl b, H, I.tok tk, rfl, q⟩
/-- the class that a test names -/
def vE (K : PySem.W.Frag) (t : String) : V := if t = "ValueError" then .ty "ValueError" else match eclK K t with
  | some C => .ref C
  | none => .ty ""
def uE (K : PySem.W.Frag) (t : String) : Value := if t = "ValueError" then .type "ValueError" else match eclK K t with
  | some C => .ref C
  | none => .type ""
theorem clsE (K : PySem.W.Frag) (t : String) : ClsV (vE K t) (uE K t) := by
  unfold vE uE
  split
  · exact .ty _
  · split
    · exact .own _
    · exact .ty _
theorem clsEs (K : PySem.W.Frag) : ∀ ts : List String, Paired ClsV (ts.map (vE K)) (ts.map (uE K))
  | [] => .nil
  | t :: ts => .cons (clsE K t) (clsEs K ts)
theorem kitAny_e {K : PySem.W.Frag} {C : Addr} {k : String} : ∀ {ts : List String}, (∀ t ∈ ts, PySem.W.kitOne K (.ref C) (uE K t) = some (subE k t)) → PySem.W.kitAny K (.ref C) (ts.map (uE K)) = some (ts.any (subE k))
  | [], _ => rfl
  | t :: ts, h => by
    have h1 := h t List.mem_cons_self
    have h2 := kitAny_e (C := C) (k := k) (ts := ts) fun t ht => h t (List.mem_cons_of_mem _ ht)
    rw [List.map_cons, List.any_cons]
    unfold PySem.W.kitAny
    rw [h1]
    cases subE k t with
    | true => rfl
    | false => exact h2
/-- what the text says of its errors -/
structure XFacts (lc et : List String) (K : PySem.W.Frag) (mg : Str → Option Value) : Prop where
  tg : ∀ t ∈ et, t = "ValueError" ∨ ∃ T, eclK K t = some T ∧ mg (Str.ofString t) = some (.ref T)
  vm : "ValueError" ∈ et → mg "ValueError" = none
  ec : ∀ c ∈ lc, ∃ C, eclK K c = some C ∧ mg (Str.ofString c) = some (.ref C) ∧ PySem.W.excIn K C HandSPX.veTail "ValueError.__new__" = true ∧ PySem.W.keepIn K (.ref C) = true ∧ PySem.W.subIn K (.ref C) (.type "BaseException") = some true ∧ PySem.W.typeIn K (.ref C) = some (.type "type") ∧ ExcC K C
  kt : ∀ c ∈ lc, ∀ t ∈ et, ∀ C, eclK K c = some C → PySem.W.kitOne K (.ref C) (uE K t) = some (subE c t) ∧ PySem.W.exmOne K (.ref C) (uE K t) = some (subE c t)
section
variable {G : Glob} {cf : CF} {X : Cx} {a b e o : Expr} {es : List Expr} {ca : E} {ces : Es} {pos apos : Pos} {et : List String}
theorem exc_at {φ : Mp} {s : S} {H : Hp} {d : D} {v : V} {cs : List String} {k : Bool} (h : HR G φ s H) (r : Rep φ s H d v) (e : isxD s d cs = some k) : ∃ a c C, v = .ref a ∧ c ∈ G.ec ∧ eclK G.K c = some C ∧ H a = some (xO C a) ∧ k = cs.any (subE c) := by
  unfold isxD at e
  split at e
  · rename_i n
    split at e
    · rename_i c hn
      cases e
      simp only [Rep] at r
      obtain ⟨p, rfl, hp⟩ := r
      obtain ⟨p', hp', hc, C, hC, hH⟩ := h.ob n _ hn
      rw [hp] at hp'
      cases hp'
      exact ⟨p, c, C, rfl, hc, hC, hH, rfl⟩
    · cases e
  · cases e
theorem c_isx {p : Pos} {t : String} (hK : X.K = G.K) (xf : XFacts G.ec et X.K X.mg) (ht : t ∈ et) (hg : Gl X "isinstance") (hm : X.mg "isinstance" = none) (ha : PE X a (rE G cf ca)) (hb : PE X b (tC (vE X.K t))) (ns : starEach [a, b] X.env = (false, eval a X.env) :: starEach [b] X.env) (ns2 : starEach [b] X.env = (false, eval b X.env) :: starEach [] X.env)
    (hpl : (backTo pos (starEach [b] X.env)).any (·.1) = false) : PE X (.Call (.Name "isinstance" p) [a, b] [] pos) (rE G cf (.isx ca t)) := by
  refine PE.imp (pe_callB call_isX hg hm PyProof.Rows.boot_isinstance (pa_cons ha (pa_cons hb pa_nil ns2) ns) (by decide) (by decide) ns hpl) fun σ H Q h => ?_
  obtain ⟨φ, s, r, A, d, s', he, p⟩ := h
  simp only [ev] at he
  obtain ⟨x, s1, e1, he⟩ := bnd_inv he
  obtain ⟨e2, rfl⟩ := lft_inv he
  refine rd_step A e1 fun φ1 H1 v g1 A1 rv => ?_
  cases hk : isxD s' x [t] with
  | none =>
    rw [hk] at e2
    cases e2
  | some k =>
    rw [hk] at e2
    cases e2
    obtain ⟨q, c, C, rfl, hc, hC, hH, hkk⟩ := exc_at A1.hr rv hk
    rw [← hK] at hC
    obtain ⟨C', k1, _, _, _, _, _, xc⟩ := xf.ec c hc
    rw [hC] at k1
    cases k1
    refine ⟨q, C, vE X.K t, uE X.K t, k, rfl, clsE X.K t, hH, xc, ?_, Post.here A1.hr (Post.from g1 p) (by simp only [Rep])⟩
    rw [(xf.kt c hc t ht C hC).1, hkk]
    simp
theorem c_isxt {p : Pos} {ts : List String} {tup : Expr} (hK : X.K = G.K) (xf : XFacts G.ec et X.K X.mg) (ht : ∀ t ∈ ts, t ∈ et) (hg : Gl X "isinstance") (hm : X.mg "isinstance" = none) (ha : PE X a (rE G cf ca)) (hb : PE X tup fun _ H Q => ∀ q, H q = none → Q (.ref q) (upd H q (.tup (ts.map (vE X.K))))) (ns : starEach [a, tup] X.env = (false, eval a X.env) :: starEach [tup] X.env) (ns2 : starEach [tup] X.env = (false, eval tup X.env) :: starEach [] X.env)
    (hpl : (backTo pos (starEach [tup] X.env)).any (·.1) = false) : PE X (.Call (.Name "isinstance" p) [a, tup] [] pos) (rE G cf (.isxt ca ts)) := by
  refine PE.imp (pe_callB call_isXT hg hm PyProof.Rows.boot_isinstance (pa_cons ha (pa_cons hb pa_nil ns2) ns) (by decide) (by decide) ns hpl) fun σ H Q h => ?_
  obtain ⟨φ, s, r, A, d, s', he, p⟩ := h
  simp only [ev] at he
  obtain ⟨x, s1, e1, he⟩ := bnd_inv he
  obtain ⟨e2, rfl⟩ := lft_inv he
  refine rd_step A e1 fun φ1 H1 v g1 A1 rv => ?_
  intro q hq
  have gg : Gr φ1 s' H1 φ1 s' (upd H1 q (.tup (ts.map (vE X.K)))) := Gr.free A1.hr hq
  have hr' := A1.hr.free (o := .tup (ts.map (vE X.K))) hq
  cases hk : isxD s' x ts with
  | none =>
    rw [hk] at e2
    cases e2
  | some k =>
    rw [hk] at e2
    cases e2
    obtain ⟨q', c, C, rfl, hc, hC, hH, hkk⟩ := exc_at hr' (Rep.mono gg x rv) hk
    rw [← hK] at hC
    obtain ⟨C', k1, _, _, _, _, _, xc⟩ := xf.ec c hc
    rw [hC] at k1
    cases k1
    refine ⟨q', C, q, ts.map (vE X.K), ts.map (uE X.K), k, rfl, upd_same, clsEs X.K ts, hH, xc, ?_, Post.here hr' (Post.from (g1.trans gg) p) (by simp only [Rep])⟩
    rw [hkk]
    exact kitAny_e fun t h => (xf.kt c hc t (ht t h) C hC).1
abbrev WZ := String → L2.St → Hp → Prop
/-- what a body's exceptions come to -/
def wz (G : Glob) (W : WZ) : WX := fun cls d σ H => ∃ c C, c ∈ G.ec ∧ eclK G.K c = some C ∧ cls = .ref C ∧ d = none ∧ W c σ H
def spX (G : Glob) (f : List D → S → R D) (n : Nat) : Sp := fun vs H Q E => vs.length = n ∧ ∃ φ s ds, HR G φ s H ∧ RepL φ s H ds vs ∧ ((∃ d s', f ds s = some (.ok d, s') ∧ Post G φ s H s' d Q) ∨
  (∃ c s', f ds s = some (.er c, s') ∧ ∀ φ' H' C, Gr φ s H φ' s' H' → HR G φ' s' H' → c ∈ G.ec → eclK G.K c = some C → E (.ref C) none H'))
theorem spX_of {vs : List V} {H : Hp} {Q : VK} {E E' : XK} {f : List D → S → R D} {n : Nat} (h : spF G f n vs H Q E) : spX G f n vs H Q E' := by
  obtain ⟨h1, φ, s, ds, h2, h3, d, s', h4, h5⟩ := h
  exact ⟨h1, φ, s, ds, h2, h3, .inl ⟨d, s', h4, h5⟩⟩
theorem toCX0 {P : Program} {w : World} {K : PySem.W.Frag} {mg : Str → Option Value} {base : Heap} {k n : Nat} {f : Addr} {fd : FuncData} {ps : List Str} {g : List D → S → R D} (F : FnG P w K mg base (L2.CX P w) k f fd ps (spX G g n)) : FnG P w K mg base CX0 k f fd ps (spF G g n) := by
  refine ⟨fun vs H Q E h => F.len vs H Q (fun _ _ _ => False) (spX_of h), fun A outer s H args us vs Q E hr he hb hv hs => ?_⟩
  refine codeAny_mono (F.go A outer s H args us vs Q (fun _ _ _ => False) hr he hb hv (spX_of hs)) fun r s' hq => ?_
  cases r with
  | ok fl => cases fl <;> exact hq
  | error e =>
    obtain ⟨_, _, _, _, _, _, _, _, _, _, _, _, z⟩ := hq
    exact z.elim
/-- the reading of a call that may raise -/
def rdX (G : Glob) (W : WZ) (f : Sl → S → R D) : TE := fun σ H Q => ∃ φ s r, At G φ s H r σ ∧ ((∃ d s', f r s = some (.ok d, s') ∧ Post G φ s H s' d Q) ∨ (∃ c s', f r s = some (.er c, s') ∧ ∀ φ' H', Gr φ s H φ' s' H' → HR G φ' s' H' → W c σ H'))
structure FnAtX (G : Glob) (X : Cx) (x : Str) (f : List D → S → R D) (n : Nat) : Prop where
  at_ : ∃ (a : Addr) (fd : FuncData) (ps : List Str) (j : Nat), X.mg x = some (.ref a) ∧ PySem.W.keepIn X.K (.ref a) = true ∧ Binds X.K fd ps [] ∧ RmG j X.A ∧ ps.length = n ∧ FnG X.prog X.w X.K X.mg X.base (L2.CX X.prog X.w) j a fd ps (spX G f n)
  len : ∀ ds s q, f ds s = some q → ds.length = n
structure MtAtX (G : Glob) (X : Cx) (C : Addr) (m : Str) (f : List D → S → R D) (n : Nat) : Prop where
  at_ : ∃ (a : Addr) (fd : FuncData) (ps : List Str) (j : Nat), Meth X.K C m a ∧ Binds X.K fd ps [] ∧ RmG j X.A ∧ ps.length = n ∧ FnG X.prog X.w X.K X.mg X.base (L2.CX X.prog X.w) j a fd ps (spX G f n)
  len : ∀ ds s q, f ds s = some q → ds.length = n
theorem FnAtX.plain {x : Str} {f : List D → S → R D} {n : Nat} (F : FnAtX G X x f n) : FnAt G X x f n := by
  obtain ⟨⟨a, fd, ps, j, h1, h2, h3, h4, h5, h6⟩, h7⟩ := F
  exact ⟨⟨a, fd, ps, j, h1, h2, h3, h4, h5, toCX0 h6⟩, fun ds s d s' e => h7 ds s _ e⟩
theorem MtAtX.plain {C : Addr} {x : Str} {f : List D → S → R D} {n : Nat} (F : MtAtX G X C x f n) : MtAt G X C x f n := by
  obtain ⟨⟨a, fd, ps, j, h1, h2, h3, h4, h5⟩, h7⟩ := F
  exact ⟨⟨a, fd, ps, j, h1, h2, h3, h4, toCX0 h5⟩, fun ds s d s' e => h7 ds s _ e⟩
theorem c_xcall {x : Str} {p : Pos} {f : String} {n : Nat} {W : WZ} (F : FnAtX G X x (cf "" f) n) (tk : Takes X (wz G W)) (hg : Gl X x) (ha : PA X (e :: es) (rA G cf ces)) (hdb : (x == ("__debug__" : Str)) = false) (he : starEach (e :: es) X.env = (false, eval e X.env) :: starEach es X.env)
    (hpl : (backTo pos (starEach es X.env)).any (·.1) = false) : PE X (.Call (.Name x p) (e :: es) [] pos) (rdX G W (evx cf (.call f ces))) := by
  obtain ⟨⟨a, fd, ps, j, hm, hk, hb, hr, hn, ok⟩, hl⟩ := F
  refine PE.imp (pg_call (ok.runs (E := WE (wz G W)) hr hb (passAt tk)) hg hm hk ha hdb he hpl) fun σ H Q h => ?_
  obtain ⟨φ, s, r, A, h⟩ := h
  rcases h with ⟨d, s', he, p⟩ | ⟨c, s', he, p⟩
  · simp only [evx] at he
    obtain ⟨xs, s1, e1, he⟩ := bnn_inv he
    refine rd_step A e1 fun φ1 H1 vs g1 A1 rs => ?_
    exact ⟨by rw [rs.length]; exact hl _ _ _ he, φ1, s1, xs, A1.hr, rs, .inl ⟨d, s', he, Post.from g1 p⟩⟩
  · simp only [evx] at he
    obtain ⟨xs, s1, e1, he⟩ := bnn_inv he
    refine rd_step A e1 fun φ1 H1 vs g1 A1 rs => ?_
    exact ⟨by rw [rs.length]; exact hl _ _ _ he, φ1, s1, xs, A1.hr, rs, .inr ⟨c, s', he, fun φ' H' C g h hc hC => ⟨c, C, hc, hC, rfl, rfl, p φ' H' (g1.trans g) h⟩⟩⟩
theorem ownX_inv {s : S} {m : String} {x : D} {k : String → R D} {b : Rs D × S} (h : ownX s m x k = some b) : ∃ n c fs, x = .ref n ∧ s.m n = some (.ins c fs) ∧ fs.lookup m = none ∧ c ≠ "" ∧ k c = some b := by
  unfold ownX at h
  split at h
  · rename_i n
    split at h
    · rename_i c fs hn
      split at h
      · rename_i hl
        split at h
        · cases h
        · rename_i hc
          exact ⟨n, c, fs, rfl, hn, hl, hc, h⟩
      · cases h
    · cases h
  · cases h
theorem c_xown {m : String} {W : WZ} (hmt : ∀ c, c ≠ "" → ∀ ds s q, cf c m ds s = some q → ∃ C n, G.cls c = some C ∧ Cls X.K C ∧ MtAtX G X C (Str.ofString m) (cf c m) n) (tk : Takes X (wz G W))
    (ho : PE X a (rE G cf ca)) (ha : PA X (e :: es) (rA G cf ces)) (hst : starEach (e :: es) X.env = (false, eval e X.env) :: starEach es X.env) (hpl : (backTo pos (starEach es X.env)).any (·.1) = false)
    (hbase : attributeBase a (Str.ofString m) X.env (eval a X.env) = eval a X.env) (hfew : ((backTo pos (starEach (e :: es) X.env)).all (fun x => !x.1) && (backToKw pos (keywordEach [] X.env)).all (fun x => x.1.isSome)
      && decide ((e :: es).length + ([] : List Keyword).length + (if ([] : List Keyword).isEmpty then 0 else 1) < 30)) = true) (hline : (apos.endLine == pos.line) = true) :
    PE X (.Call (.Attribute a (Str.ofString m) apos) (e :: es) [] pos) (rdX G W (evx cf (.own ca m ces))) := by
  refine ⟨fun pins s0 σ H Q I h => ?_⟩
  obtain ⟨φ, s, r, A, h⟩ := h
  have main : ∀ (b : Rs D) (s' : S), evx cf (.own ca m ces) r s = some (b, s') → ((∃ d, b = .ok d ∧ Post G φ s H s' d Q) ∨ (∃ c, b = .er c ∧ ∀ φ' H', Gr φ s H φ' s' H' → HR G φ' s' H' → W c σ H')) → wpAny (model X.prog X.w) X.A (eval (.Call (.Attribute a (Str.ofString m) apos) (e :: es) [] pos) X.env) (EP X pins σ Q) X.xe s0 := by
    intro b s' he p
    simp only [evx] at he
    obtain ⟨x, s1, e1, he⟩ := bnn_inv he
    obtain ⟨n, c, fs, rfl, hn, hl, hcn, he⟩ := ownX_inv he
    obtain ⟨xs, s2, e2, he⟩ := bnn_inv he
    obtain ⟨C, k, hC, hCl, ⟨f, fd, ps, j, h1, h2, h3, h4, h5⟩, hlen⟩ := hmt c hcn _ _ _ he
    refine (pg_meth (C := C) (pl := do return (← importBound a X.env).getD true) ho hCl h1 (h5.runs (E := WE (wz G W)) h3 h2 (passAt tk)) ha hst hpl (ht_of hbase hfew hline)).run pins s0 σ H Q I ?_
    refine rd_step A e1 fun φ1 H1 v g1 A1 rv => ?_
    obtain ⟨q, C', dx, gs, rfl, k1, k2, k3, k4⟩ := ins_at A1.hr rv hn
    rw [hC] at k3
    cases k3
    refine ⟨q, dx, gs, rfl, k2, fr_none k4 hl, ?_⟩
    refine rd_step A1 e2 fun φ2 H2 vs g2 A2 rs => ?_
    have rl : RepL φ2 s2 H2 (.ref n :: xs) (.ref q :: vs) := by
      simp only [RepL]
      exact ⟨_, _, rfl, Rep.mono g2 _ rv, rs⟩
    refine ⟨by rw [rl.length]; exact hlen _ _ _ he, φ2, s2, _, A2.hr, rl, ?_⟩
    rcases p with ⟨d, rfl, p⟩ | ⟨c', rfl, p⟩
    · exact .inl ⟨d, s', he, Post.from (g1.trans g2) p⟩
    · exact .inr ⟨c', s', he, fun φ' H' C g h hc hC => ⟨c', C, hc, hC, rfl, rfl, p φ' H' ((g1.trans g2).trans g) h⟩⟩
  rcases h with ⟨d, s', he, p⟩ | ⟨c, s', he, p⟩
  · exact main _ _ he (.inl ⟨d, rfl, p⟩)
  · exact main _ _ he (.inr ⟨c, rfl, p⟩)
end
end Fl
namespace Fl
open PySem L2
def EndOk (W : WZ) (φ : Mp) (s : S) (H : Hp) (Dn : Ends) (σ : L2.St) : Fw → Prop
  | .nx => Dn.nx σ H
  | .bk => Dn.bk σ H
  | .ct => Dn.ct σ H
  | .rt d => ∀ v, Rep φ s H d v → Dn.rt v H
  | .rz c => W c σ H
def rX (G : Glob) (W : WZ) (f : Sl → S → XR) : TS := fun Dn σ H => ∃ φ s r, At G φ s H r σ ∧ ∃ fl r' s', f r s = some (.ok (fl, r'), s') ∧ ∀ φ' H' σ', Gr φ s H φ' s' H' → HR G φ' s' H' → SR φ' s' H' r' σ' → EndOk W φ' s' H' Dn σ' fl
abbrev rS (G : Glob) (W : WZ) (cf : CF) (c : C) : TS := rX G W (ex cf c)
abbrev rSs (G : Glob) (W : WZ) (cf : CF) (c : Cs) : TS := rX G W (exs cf c)
section
variable {G : Glob} {W : WZ} {cf : CF} {X : Cx} {a b e : Expr} {ca cb ce : E} {pos : Pos}
theorem x_nil : PSs X [] (rSs G W cf .nil) := by
  refine PSs.imp pss_nil fun Dn σ H h => ?_
  obtain ⟨φ, s, r, A, fl, r', s', he, p⟩ := h
  simp only [exs] at he
  cases he
  exact p φ H σ (Gr.refl _ _ _) A.hr A.sr
theorem x_cons {st : Stmt} {rest : List Stmt} {c : C} {cs : Cs} (h1 : PS X st (rS G W cf c)) (h2 : PSs X rest (rSs G W cf cs)) : PSs X (st :: rest) (rSs G W cf (.cons c cs)) := by
  refine PSs.imp (pss_cons h1 h2) fun Dn σ H h => ?_
  obtain ⟨φ, s, r, A, fl, r', s', he, p⟩ := h
  simp only [exs] at he
  obtain ⟨⟨f1, r1⟩, s1, e1, he⟩ := bnd_inv he
  refine ⟨φ, s, r, A, f1, r1, s1, e1, fun φ1 H1 σ1 g1 hr1 sr1 => ?_⟩
  cases f1 with
  | nx => exact ⟨φ1, s1, r1, ⟨hr1, sr1⟩, fl, r', s', he, fun φ' H' σ' g hr sr => p φ' H' σ' (g1.trans g) hr sr⟩
  | bk => cases he; exact p φ1 H1 σ1 g1 hr1 sr1
  | ct => cases he; exact p φ1 H1 σ1 g1 hr1 sr1
  | rt d => cases he; exact p φ1 H1 σ1 g1 hr1 sr1
  | rz c => cases he; exact p φ1 H1 σ1 g1 hr1 sr1
theorem x_pas : PS X (.Pass pos) (rS G W cf .pas) := by
  refine PS.imp ps_pass fun Dn σ H h => ?_
  obtain ⟨φ, s, r, A, fl, r', s', he, p⟩ := h
  simp only [ex] at he
  cases he
  exact p φ H σ (Gr.refl _ _ _) A.hr A.sr
theorem x_brk : PS X (.Break pos) (rS G W cf .brk) := by
  refine PS.imp ps_break fun Dn σ H h => ?_
  obtain ⟨φ, s, r, A, fl, r', s', he, p⟩ := h
  simp only [ex] at he
  cases he
  exact p φ H σ (Gr.refl _ _ _) A.hr A.sr
theorem x_cnt : PS X (.Continue pos) (rS G W cf .cnt) := by
  refine PS.imp ps_continue fun Dn σ H h => ?_
  obtain ⟨φ, s, r, A, fl, r', s', he, p⟩ := h
  simp only [ex] at he
  cases he
  exact p φ H σ (Gr.refl _ _ _) A.hr A.sr
theorem x_rse {st : Stmt} {c : String} : PS X st (rS G W cf (.rse c)) := by
  refine PS.imp ps_never fun Dn σ H h => ?_
  obtain ⟨φ, s, r, A, fl, r', s', he, p⟩ := h
  simp only [ex] at he
  cases he
theorem x_retn : PS X (.Return none pos) (rS G W cf .retn) := by
  refine PS.imp ps_retN fun Dn σ H h => ?_
  obtain ⟨φ, s, r, A, fl, r', s', he, p⟩ := h
  simp only [ex] at he
  cases he
  exact p φ H σ (Gr.refl _ _ _) A.hr A.sr _ (by simp only [Rep])
theorem x_ret (ha : PE X a (rE G cf ca)) : PS X (.Return (some a) pos) (rS G W cf (.ret ca)) := by
  refine PS.imp (ps_ret ha) fun Dn σ H h => ?_
  obtain ⟨φ, s, r, A, fl, r', s', he, p⟩ := h
  simp only [ex] at he
  obtain ⟨x, s1, e1, he⟩ := bnd_inv he
  cases he
  refine rd_step A e1 fun φ1 H1 v g1 A1 rv => ?_
  exact p φ1 H1 σ g1 A1.hr A1.sr v rv
theorem x_exp (ha : PE X a (rE G cf ca)) (hs : swapsWith a none pos.line X.env = pure false) : PS X (.Expr a pos) (rS G W cf (.exp ca)) := by
  refine PS.imp (ps_expr ha hs) fun Dn σ H h => ?_
  obtain ⟨φ, s, r, A, fl, r', s', he, p⟩ := h
  simp only [ex] at he
  obtain ⟨x, s1, e1, he⟩ := bnd_inv he
  cases he
  refine rd_step A e1 fun φ1 H1 v g1 A1 rv => ?_
  exact p φ1 H1 σ g1 A1.hr A1.sr
theorem asgR {i : Nat} (Dn : Ends) (σ : L2.St) (H : Hp) (h : rS G W cf (.asg i ca) Dn σ H) : tAsg (rE G cf ca) (gName i) Dn σ H := by
  obtain ⟨φ, s, r, A, fl, r', s', he, p⟩ := h
  simp only [ex] at he
  obtain ⟨x, s1, e1, he⟩ := bnd_inv he
  cases he
  refine rd_step A e1 fun φ1 H1 v g1 A1 rv => ?_
  exact p φ1 H1 _ g1 A1.hr (A1.sr.set i rv)
theorem x_asg {i : Nat} {x : Str} {pos' : Pos} (hN : X.N.Nodup) (hi : X.N[i]? = some x) (hx : Loc X.env.scope x) (he : PE X e (rE G cf ce)) (hs : swapsWith e (some (.Name x pos')) pos.line X.env = pure false) (hf : X.fn x = true ∨ X.env.scope.names.lookup x = some .local) :
    PS X (.Assign [.Name x pos'] e pos) (rS G W cf (.asg i ce)) := PS.imp (ps_set hN hi hx he hs hf) asgR
theorem x_ite {c : Expr} {sa sb : List Stmt} {cc : E} {cA cB : Cs} (hc : PT X c (rT G cf cc)) (ha : PSs X sa (rSs G W cf cA)) (hb : PSs X sb (rSs G W cf cB)) : PS X (.If c sa sb pos) (rS G W cf (.ite cc cA cB)) := by
  refine PS.imp (ps_if hc ha hb) fun Dn σ H h => ?_
  obtain ⟨φ, s, r, A, fl, r', s', he, p⟩ := h
  simp only [ex] at he
  obtain ⟨x, s1, e1, he⟩ := bnd_inv he
  have go : ∀ k, truth s1 x = some k → tst cf cc r s = some (.ok k, s1) := fun k hk => tst_of (φ := φ) e1 hk
  split at he
  · rename_i hk
    refine rd_step A (go true hk) fun φ1 H1 v g1 A1 rv => ?_
    subst rv
    rw [if_pos rfl]
    exact ⟨φ1, s1, r, A1, fl, r', s', he, fun φ' H' σ' g hr sr => p φ' H' σ' (g1.trans g) hr sr⟩
  · rename_i hk
    refine rd_step A (go false hk) fun φ1 H1 v g1 A1 rv => ?_
    subst rv
    rw [if_neg Bool.false_ne_true]
    exact ⟨φ1, s1, r, A1, fl, r', s', he, fun φ' H' σ' g hr sr => p φ' H' σ' (g1.trans g) hr sr⟩
  · cases he
/-- a, b = e -/
theorem x_tpa {is : List Nat} {tgt : Expr} (he : PE X e (rE G cf ce)) (hg : PG X tgt (gOf X.K (.tp is))) (hs : swapsWithSole [tgt] e pos.line X.env = pure false) (hw : swappedStores [tgt] e X.env = pure none) (h1 : (assignEach [tgt] X.env).map (·.2) = [assign tgt X.env]) :
    PS X (.Assign [tgt] e pos) (rS G W cf (.tpa is ce)) := by
  refine PS.imp (ps_asg he hg hs hw h1) fun Dn σ H h => ?_
  obtain ⟨φ, s, r, A, fl, r', s', he, p⟩ := h
  simp only [ex] at he
  obtain ⟨x, s1, e1, he⟩ := bnd_inv he
  refine rd_step A e1 fun φ1 H1 v g1 A1 rv => ?_
  split at he
  · rename_i xs
    split at he
    · rename_i r1 hr1
      cases he
      exact tg_ok (tg := .tp is) rv hr1 A1.sr fun σ' sr' _ _ => p φ1 H1 σ' g1 A1.hr sr'
    · cases he
  · cases he
theorem x_tpl {is : List Nat} {tgt : Expr} (hK : X.K = G.K) (he : PE X e (rE G cf ce)) (hg : PG X tgt (gLst X.K is.length (gsOf is))) (hs : swapsWithSole [tgt] e pos.line X.env = pure false) (hw : swappedStores [tgt] e X.env = pure none) (h1 : (assignEach [tgt] X.env).map (·.2) = [assign tgt X.env]) :
    PS X (.Assign [tgt] e pos) (rS G W cf (.tpl is ce)) := by
  refine PS.imp (ps_asg he hg hs hw h1) fun Dn σ H h => ?_
  obtain ⟨φ, s, r, A, fl, r', s', he, p⟩ := h
  simp only [ex] at he
  obtain ⟨x, s1, e1, he⟩ := bnd_inv he
  refine rd_step A e1 fun φ1 H1 v g1 A1 rv => ?_
  split at he
  · rename_i xs hc
    split at he
    · rename_i r1 hr1
      cases he
      obtain ⟨q, vs, rfl, h1, h2⟩ := rv.lcont A1.hr hc
      rw [A1.hr.k.trans hK.symm] at h1
      exact ⟨q, vs, rfl, h1, by rw [h2.length]; exact setAll_len hr1, gs_ok h2 hr1 A1.sr fun σ' sr' _ _ => p φ1 H1 σ' g1 A1.hr sr'⟩
    · cases he
  · cases he
/-- a, b = x, y -/
theorem x_par {i j : Nat} {x y : Str} {px py pt : Pos} {kt k2 pt2} (hc : X.calm = true) (hN : X.N.Nodup) (hi : X.N[i]? = some x) (hj : X.N[j]? = some y) (hij : i ≠ j)
    (hx : X.env.scope.names.lookup x = some .local) (hy : X.env.scope.names.lookup y = some .local) (ha : PE X a (rE G cf ca)) (hb : PE X b (rE G cf cb)) (na : starEach [a, b] X.env = (false, eval a X.env) :: starEach [b] X.env) (nb : starEach [b] X.env = (false, eval b X.env) :: starEach [] X.env)
    (hw : swappedStores [.Tuple [.Name x px, .Name y py] kt pt] (.Tuple [a, b] k2 pt2) X.env = pure (some [x, y])) (hs : swapsWithSole [.Tuple [.Name x px, .Name y py] kt pt] (.Tuple [a, b] k2 pt2) pos.line X.env = pure false) :
    PS X (.Assign [.Tuple [.Name x px, .Name y py] kt pt] (.Tuple [a, b] k2 pt2) pos) (rS G W cf (.par i j ca cb)) := by
  refine PS.imp (ps_par hc hN hi hj hij hx hy (pa_cons ha (pa_cons hb pa_nil nb) na) hw hs) fun Dn σ H h => ?_
  obtain ⟨φ, s, r, A, fl, r', s', he, p⟩ := h
  simp only [ex] at he
  obtain ⟨x, s1, e1, he⟩ := bnd_inv he
  obtain ⟨y, s2, e2, he⟩ := bnd_inv he
  cases he
  refine rd_step A e1 fun φ1 H1 v g1 A1 rv => ?_
  refine rd_step A1 e2 fun φ2 H2 w g2 A2 rw' => ?_
  exact ⟨v, w, rfl, p φ2 H2 _ (g1.trans g2) A2.hr ((A2.sr.set i (Rep.mono g2 x rv)).set j rw')⟩
/-- a, b, c = x, y, z -/
theorem x_par3 {i j l : Nat} {x y z : Str} {c : Expr} {cc : E} {px py pz pt : Pos} {kt k2 pt2} (hc : X.calm = true) (hN : X.N.Nodup) (hi : X.N[i]? = some x) (hj : X.N[j]? = some y) (hl : X.N[l]? = some z) (hij : i ≠ j) (hil : i ≠ l) (hjl : j ≠ l)
    (hx : X.env.scope.names.lookup x = some .local) (hy : X.env.scope.names.lookup y = some .local) (hz : X.env.scope.names.lookup z = some .local) (ha : PE X a (rE G cf ca)) (hb : PE X b (rE G cf cb)) (hcc : PE X c (rE G cf cc))
    (na : starEach [a, b, c] X.env = (false, eval a X.env) :: starEach [b, c] X.env) (nb : starEach [b, c] X.env = (false, eval b X.env) :: starEach [c] X.env) (nc : starEach [c] X.env = (false, eval c X.env) :: starEach [] X.env)
    (hw : swappedStores [.Tuple [.Name x px, .Name y py, .Name z pz] kt pt] (.Tuple [a, b, c] k2 pt2) X.env = pure (some [x, y, z])) (hs : swapsWithSole [.Tuple [.Name x px, .Name y py, .Name z pz] kt pt] (.Tuple [a, b, c] k2 pt2) pos.line X.env = pure false) :
    PS X (.Assign [.Tuple [.Name x px, .Name y py, .Name z pz] kt pt] (.Tuple [a, b, c] k2 pt2) pos) (rS G W cf (.par3 i j l ca cb cc)) := by
  refine PS.imp (ps_par3 hc hN hi hj hl hij hil hjl hx hy hz (pa_cons ha (pa_cons hb (pa_cons hcc pa_nil nc) nb) na) hw hs) fun Dn σ H h => ?_
  obtain ⟨φ, s, r, A, fl, r', s', he, p⟩ := h
  simp only [ex] at he
  obtain ⟨x, s1, e1, he⟩ := bnd_inv he
  obtain ⟨y, s2, e2, he⟩ := bnd_inv he
  obtain ⟨z, s3, e3, he⟩ := bnd_inv he
  cases he
  refine rd_step A e1 fun φ1 H1 v g1 A1 rv => ?_
  refine rd_step A1 e2 fun φ2 H2 w g2 A2 rw' => ?_
  refine rd_step A2 e3 fun φ3 H3 u g3 A3 ru => ?_
  exact ⟨v, w, u, rfl, p φ3 H3 _ ((g1.trans g2).trans g3) A3.hr (((A3.sr.set i (Rep.mono g3 x (Rep.mono g2 x rv))).set j (Rep.mono g3 y rw')).set l ru)⟩
def augOk : Bop → Bool
  | .add => true
  | .sub => true
  | _ => false
theorem x_aug {i : Nat} {x : Str} {o : Bop} {pos' : Pos} (ho : augOk o = true) (hN : X.N.Nodup) (hi : X.N[i]? = some x) (hx : Loc X.env.scope x) (he : PE X e (rE G cf ce)) (hf : X.fn x = true ∨ X.env.scope.names.lookup x = some .local) :
    PS X (.AugAssign (.Name x pos') (bopOf o) e pos) (rS G W cf (.aug i o ce)) := by
  have go : ∀ (f : Int → Int → Int), (∀ r s v, ex cf (.aug i o ce) r s = some (.ok v, s) → True) → (∀ (r : Sl) (s : S) (a b : Int) (s1 : S), r[i]? = some (some (.int a)) → ev cf ce r s = some (.ok (.int b), s1) → ex cf (.aug i o ce) r s = some (.ok (.nx, r.set i (some (.int (f a b)))), s1)) →
      ∀ Dn σ H, rS G W cf (.aug i o ce) Dn σ H → tAug i (rE G cf ce) (ipI f) Dn σ H := by
    intro f _ hf Dn σ H h
    obtain ⟨φ, s, r, A, fl, r', s', he, p⟩ := h
    have he0 := he
    simp only [ex] at he
    split at he
    · rename_i a hr
      obtain ⟨v, hv, rv⟩ := A.sr.get i _ hr
      simp only [Rep] at rv
      subst rv
      obtain ⟨y, s1, e1, he⟩ := bnd_inv he
      split at he
      · rename_i b
        have e2 := hf r s a b s1 hr e1
        rw [he0] at e2
        cases e2
        refine ⟨_, hv, ?_⟩
        refine rd_step A e1 fun φ1 H1 w g1 A1 rw' => ?_
        simp only [Rep] at rw'
        refine ⟨a, b, rfl, rw', p φ1 H1 _ g1 A1.hr (A1.sr.set i (by simp only [Rep]))⟩
      · cases he
    · cases he
  cases o with
  | add => exact PS.imp (ps_aug hN hi hx he ip_add hf) (go (fun i j => i + j) (fun _ _ _ _ => trivial) fun r s a b s1 hr e1 => by simp only [ex, hr, e1, bnd])
  | sub => exact PS.imp (ps_aug hN hi hx he ip_sub hf) (go (fun i j => i - j) (fun _ _ _ _ => trivial) fun r s a b s1 hr e1 => by simp only [ex, hr, e1, bnd])
  | _ => cases ho
/-- o[i] = e -/
theorem x_seti {o i : Expr} {co ci : E} {tpos : Pos} (hu : X.A.units + 4499 < cLine) (ho : PE X o (rE G cf co)) (hi : PE X i (rE G cf ci)) (he : PE X e (rE G cf ce)) (hs : swapsWithSole [.Subscript o i tpos] e pos.line X.env = pure false) (hw : swappedStores [.Subscript o i tpos] e X.env = pure none)
    (h1 : (assignEach [.Subscript o i tpos] X.env).map (·.2) = [assign (.Subscript o i tpos) X.env])
    (ha : ∀ v, assign (.Subscript o i tpos) X.env v = (do
      let ov ← holding [v] (eval o X.env)
      let iv ← holding [v, ov] (eval i X.env)
      standAt tpos
      holding [v, ov, iv] (setItem ov iv v)
      release [v, ov, iv] [])) : PS X (.Assign [.Subscript o i tpos] e pos) (rS G W cf (.seti co ci ce)) := by
  refine ⟨fun pins s0 σ H Dn I h => ?_⟩
  obtain ⟨φ, s, r, A, fl, r', s', hev, p⟩ := h
  simp only [ex] at hev
  obtain ⟨v, s1, e1, hev1⟩ := bnd_inv hev
  obtain ⟨x, s2, e2, hev2⟩ := bnd_inv hev1
  obtain ⟨k, s3, e3, hev3⟩ := bnd_inv hev2
  split at hev3
  · rename_i n
    split at hev3
    · rename_i xs hn
      split at hev3
      · rename_i k
        split at hev3
        · rename_i j hj
          cases hev3
          refine (ps_asg (pos := pos) he (pg_sub ho hi set_list ha) hs hw h1).run pins s0 σ H Dn I ?_
          refine rd_step A e1 fun φ1 H1 vv g1 A1 rv => ?_
          refine rd_step A1 e2 fun φ2 H2 xv g2 A2 rx => ?_
          refine rd_step A2 e3 fun φ3 H3 kv g3 A3 rk => ?_
          obtain ⟨q, vs, rfl, hq, h1, h2⟩ := box_at A3.hr (Rep.mono g3 _ rx) hn
          simp only [Rep] at rk
          have l2 := h2.set j (Rep.mono g3 v (Rep.mono g2 v rv))
          have g : Gr φ3 s3 H3 φ3 (s3.put n (.lst (xs.set j v))) (upd H3 q (.lst (vs.set j vv))) := Gr.write A3.hr hn hq
          refine ⟨q, vs, k, j, rfl, rk, h1, by rw [h2.length]; exact hj, ?_⟩
          exact p φ3 _ σ (((g1.trans g2).trans g3).trans g) (A3.hr.write hn hq ⟨_, upd_same, RepL.mono g _ l2⟩) (A3.sr.mono g)
        · cases hev3
      · cases hev3
    · rename_i kvs hn
      split at hev3
      · rename_i kk hkk
        split at hev3
        · rename_i hz
          cases hev3
          refine (ps_dput (pos := pos) (by omega) ho hi he hs).run pins s0 σ H Dn I ?_
          refine rd_step A e1 fun φ1 H1 vv g1 A1 rv => ?_
          refine rd_step A1 e2 fun φ2 H2 xv g2 A2 rx => ?_
          refine rd_step A2 e3 fun φ3 H3 kv g3 A3 rk => ?_
          obtain ⟨n', q, ks, hn', rfl, h0, hq, h1, h2⟩ := dic_at (kvs := kvs) A3.hr (Rep.mono g3 _ rx) (by simp only [dcont, hn])
          cases hn'
          have hk := key_ok rk hkk
          subst hk
          have l2 := KRg.put ky_inj (k := kk) (Rep.mono g3 v (Rep.mono g2 v rv)) h2
          have g : Gr φ3 s3 H3 φ3 (s3.put n (.dic (dput kvs kk v))) (upd H3 q (.dK (putK ks (kyOf kk) vv))) := Gr.write A3.hr hn hq
          refine ⟨q, _, rfl, DPut.k h1 (by rw [h2.length, ← LIM_eq]; exact hz), ?_⟩
          exact p φ3 _ σ (((g1.trans g2).trans g3).trans g) (A3.hr.write hn hq ⟨_, upd_same, l2.mono g⟩) (A3.sr.mono g)
        · cases hev3
      · cases hev3
    · rename_i kvs hn
      split at hev3
      · rename_i kk hkk
        split at hev3
        · rename_i hz
          cases hev3
          refine (ps_dput (pos := pos) (by omega) ho hi he hs).run pins s0 σ H Dn I ?_
          refine rd_step A e1 fun φ1 H1 vv g1 A1 rv => ?_
          refine rd_step A1 e2 fun φ2 H2 xv g2 A2 rx => ?_
          refine rd_step A2 e3 fun φ3 H3 kv g3 A3 rk => ?_
          obtain ⟨n', q, ks, hn', rfl, h0, hq, h1, h2⟩ := dit_at (kvs := kvs) A3.hr (Rep.mono g3 _ rx) (by simp only [tcont, hn])
          cases hn'
          obtain ⟨c, rfl, h4⟩ := keyT_ok rk hkk
          have l2 := KRg.put kyT_inj (k := kk) (Rep.mono g3 v (Rep.mono g2 v rv)) h2
          have g : Gr φ3 s3 H3 φ3 (s3.put n (.dit (dput kvs kk v))) (upd H3 q (.dT (putK ks (kk.map kyOf) vv))) := Gr.write A3.hr hn hq
          refine ⟨q, _, rfl, DPut.t h1 h4 (by rw [h2.length, ← LIM_eq]; exact hz), ?_⟩
          exact p φ3 _ σ (((g1.trans g2).trans g3).trans g) (A3.hr.write hn hq ⟨_, upd_same, l2.mono g⟩) (A3.sr.mono g)
        · cases hev3
      · cases hev3
    · cases hev3
  · cases hev3
/-- o.f = e -/
theorem x_setf {o : Expr} {co : E} {f : String} {tpos : Pos} (hc : ∀ c C, G.cls c = some C → Cls X.K C ∧ NoAttr X.K C (Str.ofString f)) (ho : PE X o (rE G cf co)) (he : PE X e (rE G cf ce)) (hs : swapsWith e (some (.Attribute o (Str.ofString f) tpos)) pos.line X.env = pure false) :
    PS X (.Assign [.Attribute o (Str.ofString f) tpos] e pos) (rS G W cf (.setf co f ce)) := by
  refine PS.imp (ps_fld ho he hs) fun Dn σ H h => ?_
  obtain ⟨φ, s, r, A, fl, r', s', hev, p⟩ := h
  simp only [ex] at hev
  obtain ⟨v, s1, e1, hev1⟩ := bnd_inv hev
  obtain ⟨x, s2, e2, hev2⟩ := bnd_inv hev1
  refine rd_step A e1 fun φ1 H1 vv g1 A1 rv => ?_
  refine rd_step A1 e2 fun φ2 H2 xv g2 A2 rx => ?_
  split at hev2
  · rename_i n
    split at hev2
    · rename_i c fs hn
      split at hev2
      · rename_i hz
        cases hev2
        obtain ⟨q, C, dx, gs, rfl, hq, k2, k3, k4⟩ := ins_at A2.hr rx hn
        have l2 := fr_put (f := f) (Rep.mono g2 v rv) k4
        have g : Gr φ2 s2 H2 φ2 (s2.put n (.ins c (setF f v fs))) (upd H2 q (.ins C dx (putF (Str.ofString f) vv gs))) := Gr.write A2.hr hn hq
        refine ⟨q, C, dx, gs, rfl, k2, (hc c C k3).1, (hc c C k3).2, by rw [fr_len k4]; omega, ?_⟩
        exact p φ2 _ σ ((g1.trans g2).trans g) (A2.hr.write hn hq ⟨C, dx, _, upd_same, k3, l2.mono g⟩) (A2.sr.mono g)
      · cases hev2
    · cases hev2
  · cases hev2
/-- o.f += e -/
def augD (cf : CF) (fn : Int → Int → Int) (o : E) (f : String) (e : E) (r : Sl) (s : S) : XR := bnd (ev cf o r s) fun x s => match x with
    | .ref n => match s.m n with
      | some (.ins c0 fs) => match fs.lookup f with
        | some (.int a) => bnd (ev cf e r s) fun y s => match y with
          | .int b => match s.m n with
            | some (.ins c fs) => if c = c0 ∧ fs.length < 900 then some (.ok (.nx, r), s.put n (.ins c (setF f (.int (fn a b)) fs))) else none
            | _ => none
          | _ => none
        | _ => none
      | _ => none
    | _ => none
theorem x_augG {o : Expr} {co : E} {f : String} {tpos : Pos} {op : Operator} {rdd : V → V → Hp → VK → Prop} {fn : Int → Int → Int} (hop : InOp X op rdd) (hrd : ∀ i j H (Q : VK), Q (.int (fn i j)) H → rdd (.int i) (.int j) H Q) (hc : ∀ c C, G.cls c = some C → Cls X.K C ∧ NoAttr X.K C (Str.ofString f)) (ho : PE X o (rE G cf co)) (he : PE X e (rE G cf ce)) :
    PS X (.AugAssign (.Attribute o (Str.ofString f) tpos) op e pos) (rX G W (augD cf fn co f ce)) := by
  refine PS.imp (ps_fldaug ho he hop) fun Dn σ H h => ?_
  obtain ⟨φ, s, r, A, fl, r', s', hev, p⟩ := h
  unfold augD at hev
  obtain ⟨x, s1, e1, hev1⟩ := bnd_inv hev
  refine rd_step A e1 fun φ1 H1 xv g1 A1 rx => ?_
  split at hev1
  · rename_i n
    split at hev1
    · rename_i c0 fs hn
      split at hev1
      · rename_i a hl
        obtain ⟨y, s2, e2, hev2⟩ := bnd_inv hev1
        obtain ⟨q, C, dx, gs, rfl, hq, k2, k3, k4⟩ := ins_at A1.hr rx hn
        obtain ⟨u, hu, ru⟩ := fr_some k4 hl
        simp only [Rep] at ru
        subst ru
        refine ⟨q, C, dx, gs, _, rfl, k2, (hc c0 C k3).1, (hc c0 C k3).2, hu, ?_⟩
        refine rd_step A1 e2 fun φ2 H2 yv g2 A2 ry => ?_
        split at hev2
        · rename_i b
          simp only [Rep] at ry
          subst ry
          split at hev2
          · rename_i c fs' hn'
            split at hev2
            · rename_i hz
              obtain ⟨rfl, hz⟩ := hz
              cases hev2
              obtain ⟨q', C', dx', gs', hqe, hq', k2', k3', k4'⟩ := ins_at A2.hr (Rep.mono g2 _ rx) hn'
              cases hqe
              rw [k3] at k3'
              cases k3'
              have l2 := fr_put (f := f) (d := .int (fn a b)) (v := .int (fn a b)) (show Rep φ2 s2 H2 (.int (fn a b)) (.int (fn a b)) by simp only [Rep]) k4'
              have g : Gr φ2 s2 H2 φ2 (s2.put n (.ins c (setF f (.int (fn a b)) fs'))) (upd H2 q (.ins C dx' (putF (Str.ofString f) (.int (fn a b)) gs'))) := Gr.write A2.hr hn' hq'
              refine hrd a b H2 _ ⟨dx', gs', k2', by rw [fr_len k4']; omega, ?_⟩
              exact p φ2 _ σ ((g1.trans g2).trans g) (A2.hr.write hn' hq' ⟨C, dx', _, upd_same, k3, l2.mono g⟩) (A2.sr.mono g)
            · cases hev2
          · cases hev2
        · cases hev2
      · cases hev1
    · cases hev1
  · cases hev1
theorem x_augf {o : Expr} {co : E} {f : String} {tpos : Pos} {b : Bop} (hb : augOk b = true) (hc : ∀ c C, G.cls c = some C → Cls X.K C ∧ NoAttr X.K C (Str.ofString f)) (ho : PE X o (rE G cf co)) (he : PE X e (rE G cf ce)) :
    PS X (.AugAssign (.Attribute o (Str.ofString f) tpos) (bopOf b) e pos) (rS G W cf (.augf co f b ce)) := by
  cases b with
  | add =>
    have e1 : ex cf (.augf co f .add ce) = augD cf (fun i j => i + j) co f ce := by
      funext r s
      simp only [ex]
      rfl
    rw [rS, e1]
    exact x_augG in_add (fun i j H Q q => ⟨i, j, rfl, rfl, q⟩) hc ho he
  | sub =>
    have e1 : ex cf (.augf co f .sub ce) = augD cf (fun i j => i - j) co f ce := by
      funext r s
      simp only [ex]
      rfl
    rw [rS, e1]
    exact x_augG in_sub (fun i j H Q q => ⟨i, j, rfl, rfl, q⟩) hc ho he
  | _ => cases hb
theorem x_for {tgt iter : Expr} {body : List Stmt} {tg : Tg} {it : It} {cs : Cs} (hp : PassesOwn (model X.prog X.w) X.A X.env X.xe) (hc : X.calm = true) (hi : PI X tgt iter (rI G cf it)) (hg : PG X tgt (gOf X.K tg)) (hb : PSs X body (rSs G W cf cs))
    (hs : ∀ x, foldedSetIterable iter X.env x = pure x) : PS X (.For tgt iter body [] pos) (rS G W cf (.for tg it cs)) := by
  refine PS.imp (ps_for hp hc hi hg hb hs) fun Dn σ H h => ?_
  obtain ⟨φ, s, r, A, fl, r', s', he, p⟩ := h
  simp only [ex] at he
  obtain ⟨iv, s1, e1, he⟩ := bnd_inv he
  refine rd_step A e1 fun φ1 H1 J g1 A1 jok => ?_
  split at he
  · cases he
  · rename_i n hn
    refine ⟨fun i m σ H => ∃ φ s r, At G φ s H r σ ∧ Gr φ1 s1 H1 φ s H ∧ forN tg iv (exs cf cs) m i r s = some (.ok (fl, r'), s'), ⟨n + 1, φ1, s1, r, A1, Gr.refl _ _ _, he⟩, ?_⟩
    rintro i m σ2 H2 ⟨φ2, s2, r2, A2, g2, ee⟩
    cases m with
    | zero =>
      unfold forN at ee
      cases ee
    | succ m =>
      unfold forN at ee
      split at ee
      · cases ee
      · rename_i n' hn'
        obtain ⟨j1, j2⟩ := jok φ2 s2 H2 g2 A2.hr n' i hn'
        split at ee
        · rename_i hi
          split at ee
          · cases ee
          · rename_i x hx
            split at ee
            · cases ee
            · rename_i r3 hr3
              obtain ⟨go, yl⟩ := j1 hi x hx
              refine .inr ⟨go, _, fun _ _ z => z, fun xv H3 y => ?_⟩
              obtain ⟨g3, hr4, rx⟩ := yl xv H3 y
              refine tg_ok rx hr3 (A2.sr.mono g3) fun σ3 sr3 _ _ => ?_
              obtain ⟨⟨f4, r4⟩, s4, e4, ee⟩ := bnd_inv ee
              refine ⟨φ2, s2, r3, ⟨hr4, sr3⟩, f4, r4, s4, e4, fun φ5 H5 σ5 g5 hr5 sr5 => ?_⟩
              have g6 : Gr φ1 s1 H1 φ5 s4 H5 := (g2.trans g3).trans g5
              cases f4 with
              | nx => exact ⟨m, Nat.lt_succ_self m, φ5, s4, r4, ⟨hr5, sr5⟩, g6, ee⟩
              | ct => exact ⟨m, Nat.lt_succ_self m, φ5, s4, r4, ⟨hr5, sr5⟩, g6, ee⟩
              | bk => cases ee; exact p φ5 H5 σ5 (g1.trans g6) hr5 sr5
              | rt d => cases ee; exact p φ5 H5 σ5 (g1.trans g6) hr5 sr5
              | rz c => cases ee; exact p φ5 H5 σ5 (g1.trans g6) hr5 sr5
        · rename_i hi
          cases ee
          exact .inl ⟨j2 (by omega), p φ2 H2 σ2 (g1.trans g2) A2.hr A2.sr⟩
theorem x_whl {c : Expr} {body : List Stmt} {cc : E} {cs : Cs} (hp : PassesOwn (model X.prog X.w) X.A X.env X.xe) (hc : PT X c (rT G cf cc)) (hb : PSs X body (rSs G W cf cs)) : PS X (.While c body [] pos) (rS G W cf (.whl cc cs)) := by
  refine PS.imp (ps_while hp hc hb) fun Dn σ H h => ?_
  obtain ⟨φ, s, r, A, fl, r', s', he, p⟩ := h
  simp only [ex] at he
  refine ⟨fun m σ2 H2 => ∃ φ2 s2 r2, At G φ2 s2 H2 r2 σ2 ∧ Gr φ s H φ2 s2 H2 ∧ whlN (ev cf cc) (exs cf cs) m r2 s2 = some (.ok (fl, r'), s'), ⟨WF, φ, s, r, A, Gr.refl _ _ _, he⟩, ?_⟩
  rintro m σ2 H2 ⟨φ2, s2, r2, A2, g2, ee⟩
  cases m with
  | zero =>
    unfold whlN at ee
    cases ee
  | succ m =>
    unfold whlN at ee
    obtain ⟨x, s3, e3, ee⟩ := bnd_inv ee
    have go : ∀ k, truth s3 x = some k → tst cf cc r2 s2 = some (.ok k, s3) := fun k hk => tst_of (φ := φ) e3 hk
    split at ee
    · rename_i hk
      refine rd_step A2 (go true hk) fun φ3 H3 v g3 A3 rv => ?_
      subst rv
      rw [if_pos rfl]
      refine ⟨_, fun _ _ z => z, ?_⟩
      obtain ⟨⟨f4, r4⟩, s4, e4, ee⟩ := bnd_inv ee
      refine ⟨φ3, s3, r2, A3, f4, r4, s4, e4, fun φ5 H5 σ5 g5 hr5 sr5 => ?_⟩
      have g6 : Gr φ s H φ5 s4 H5 := (g2.trans g3).trans g5
      cases f4 with
      | nx => exact ⟨m, Nat.lt_succ_self m, φ5, s4, r4, ⟨hr5, sr5⟩, g6, ee⟩
      | ct => exact ⟨m, Nat.lt_succ_self m, φ5, s4, r4, ⟨hr5, sr5⟩, g6, ee⟩
      | bk => cases ee; exact p φ5 H5 σ5 g6 hr5 sr5
      | rt d => cases ee; exact p φ5 H5 σ5 g6 hr5 sr5
      | rz c => cases ee; exact p φ5 H5 σ5 g6 hr5 sr5
    · rename_i hk
      refine rd_step A2 (go false hk) fun φ3 H3 v g3 A3 rv => ?_
      subst rv
      rw [if_neg Bool.false_ne_true]
      cases ee
      exact p φ3 H3 σ2 (g2.trans g3) A3.hr A3.sr
    · cases ee
theorem xr_of {f : Sl → S → R D} {k : Sl → D → S → XR} {g : Sl → S → XR} (hg : ∀ r s, g r s = bnr (f r s) r (k r)) {Dn : Ends} {σ : L2.St} {H : Hp} {Q : VK} (h : rX G W g Dn σ H)
    (hk : ∀ φ s r d s1 φ1 H1 v fl r' s', At G φ s H r σ → f r s = some (.ok d, s1) → k r d s1 = some (.ok (fl, r'), s') → Gr φ s H φ1 s1 H1 → At G φ1 s1 H1 r σ → Rep φ1 s1 H1 d v → (∀ φ' H' σ', Gr φ s H φ' s' H' → HR G φ' s' H' → SR φ' s' H' r' σ' → EndOk W φ' s' H' Dn σ' fl) → Q v H1) : rdX G W f σ H Q := by
  obtain ⟨φ, s, r, A, fl, r', s', he, p⟩ := h
  rw [hg] at he
  refine ⟨φ, s, r, A, ?_⟩
  unfold bnr at he
  split at he
  · rename_i d s1 e1
    exact .inl ⟨d, s1, e1, fun φ1 H1 v g1 h1 rv => hk φ s r d s1 φ1 H1 v fl r' s' A e1 he g1 ⟨h1, A.sr.mono g1⟩ rv p⟩
  · rename_i c s1 e1
    cases he
    exact .inr ⟨c, s', e1, fun φ1 H1 g1 h1 => p φ1 H1 σ g1 h1 (A.sr.mono g1)⟩
  · cases he
theorem x_xexp {x : Xe} (ha : PE X a (rdX G W (evx cf x))) (hs : swapsWith a none pos.line X.env = pure false) : PS X (.Expr a pos) (rS G W cf (.xexp x)) := by
  refine PS.imp (ps_expr ha hs) fun Dn σ H h => ?_
  refine xr_of (k := fun r _ s => some (.ok (.nx, r), s)) (fun r s => by simp only [ex]) h fun φ s r d s1 φ1 H1 v fl r' s' A e1 he g1 A1 rv p => ?_
  cases he
  exact p φ1 H1 σ g1 A1.hr A1.sr
theorem x_xret {x : Xe} (ha : PE X a (rdX G W (evx cf x))) : PS X (.Return (some a) pos) (rS G W cf (.xret x)) := by
  refine PS.imp (ps_ret ha) fun Dn σ H h => ?_
  refine xr_of (k := fun r d s => some (.ok (.rt d, r), s)) (fun r s => by simp only [ex]) h fun φ s r d s1 φ1 H1 v fl r' s' A e1 he g1 A1 rv p => ?_
  cases he
  exact p φ1 H1 σ g1 A1.hr A1.sr v rv
theorem x_xasg {i : Nat} {y : Str} {pos' : Pos} {x : Xe} (hN : X.N.Nodup) (hi : X.N[i]? = some y) (hy : Loc X.env.scope y) (he : PE X e (rdX G W (evx cf x))) (hs : swapsWith e (some (.Name y pos')) pos.line X.env = pure false) (hf : X.fn y = true ∨ X.env.scope.names.lookup y = some .local) :
    PS X (.Assign [.Name y pos'] e pos) (rS G W cf (.xasg i x)) := by
  refine PS.imp (ps_set hN hi hy he hs hf) fun Dn σ H h => ?_
  refine xr_of (k := fun r d s => some (.ok (.nx, r.set i (some d)), s)) (fun r s => by simp only [ex]) h fun φ s r d s1 φ1 H1 v fl r' s' A e1 he g1 A1 rv p => ?_
  cases he
  exact p φ1 H1 _ g1 A1.hr (A1.sr.set i rv)
theorem x_xsetf {o : Expr} {co : E} {f : String} {tpos : Pos} {x : Xe} (hc : ∀ c C, G.cls c = some C → Cls X.K C ∧ NoAttr X.K C (Str.ofString f)) (ho : PE X o (rE G cf co)) (he : PE X e (rdX G W (evx cf x))) (hs : swapsWith e (some (.Attribute o (Str.ofString f) tpos)) pos.line X.env = pure false) :
    PS X (.Assign [.Attribute o (Str.ofString f) tpos] e pos) (rS G W cf (.xsetf co f x)) := by
  refine PS.imp (ps_fld ho he hs) fun Dn σ H h => ?_
  refine xr_of (k := fun r v s => bnd (ev cf co r s) fun x s => match x with
    | .ref n => match s.m n with
      | some (.ins c fs) => if fs.length < 900 then some (.ok (.nx, r), s.put n (.ins c (setF f v fs))) else none
      | _ => none
    | _ => none) (fun r s => by simp only [ex] <;> rfl) h fun φ s r v s1 φ1 H1 vv fl r' s' A e1 hev1 g1 A1 rv p => ?_
  obtain ⟨x, s2, e2, hev2⟩ := bnd_inv hev1
  refine rd_step A1 e2 fun φ2 H2 xv g2 A2 rx => ?_
  split at hev2
  · rename_i n
    split at hev2
    · rename_i c fs hn
      split at hev2
      · rename_i hz
        cases hev2
        obtain ⟨q, C, dx, gs, rfl, hq, k2, k3, k4⟩ := ins_at A2.hr rx hn
        have l2 := fr_put (f := f) (Rep.mono g2 v rv) k4
        have g : Gr φ2 s2 H2 φ2 (s2.put n (.ins c (setF f v fs))) (upd H2 q (.ins C dx (putF (Str.ofString f) vv gs))) := Gr.write A2.hr hn hq
        refine ⟨q, C, dx, gs, rfl, k2, (hc c C k3).1, (hc c C k3).2, by rw [fr_len k4]; omega, ?_⟩
        exact p φ2 _ σ ((g1.trans g2).trans g) (A2.hr.write hn hq ⟨C, dx, _, upd_same, k3, l2.mono g⟩) (A2.sr.mono g)
      · cases hev2
    · cases hev2
  · cases hev2
/-- raise X('..') -/
theorem x_rz {c : String} {m : Str} {et : List String} {jj : Nat} {p p2 pos' : Pos} (hK : X.K = G.K) (xf : XFacts G.ec et X.K X.mg) (hc : c ∈ G.ec) (hcm : X.calm = true) (tk : Takes X (wz G W)) (hg : Gl X (Str.ofString c)) (hdb : ((Str.ofString c) == ("__debug__" : Str)) = false) :
    PS X (.Raise (some (.Call (.Name (Str.ofString c) p) [.Constant (.str m) jj p2] [] pos')) none pos) (rS G W cf (.rz c)) := by
  obtain ⟨C, k1, k2, k3, k4, k5, k6, k7⟩ := xf.ec c hc
  refine PS.imp (ps_raise hcm tk (pmk_own PySem.F.excBase_ValueError k3 k2 k4 (raises_own k5 k6) hg hdb)) fun Dn σ H h => ?_
  obtain ⟨φ, s, r, A, fl, r', s', he, pp⟩ := h
  simp only [ex] at he
  cases he
  rw [hK] at k1
  exact ⟨c, C, hc, k1, rfl, rfl, pp φ H σ (Gr.refl _ _ _) A.hr A.sr⟩
/-- try: .. except X as n: m = n -/
theorem x_try {x n m : Str} {t : String} {i j : Nat} {body : List Stmt} {cs : Cs} {np pn pm pa pos' : Pos} {et : List String} (hK : X.K = G.K) (xf : XFacts G.ec et X.K X.mg) (ht : t ∈ et) (hs : X.stack = X.env :: X.outer) (hf : X.env.frame = some X.env.locals) (hex : X.ex = []) (hN : X.N.Nodup) (hi : X.N[i]? = some n) (hln : X.env.kindOf n = some .local)
    (hj : X.N[j]? = some m) (hlm : X.env.kindOf m = some .local) (hij : i ≠ j) (hc : Names X x (uE X.K t)) (hdn : (n == ("__debug__" : Str)) = false) (hcn : (n == ("__classdict__" : Str)) = false) (tk : Takes X (wz G W))
    (hb : ∀ (W' : WZ) (pn : List (Addr × Obj)) (xe : Value → Shared → Prop), Takes (X.tr pn xe) (wz G W') → PassesOwn (model X.prog X.w) X.A X.env xe → PSs (X.tr pn xe) body (rSs G W' cf cs)) :
    PS X (.Try body [.ExceptHandler (some (.Name x np)) (some n) [.Assign [.Name m pm] (.Name n pn) pa] pos'] [] [] pos) (rS G W cf (.tryc cs t i j)) := by
  refine PS.imp (ps_try_keep (tb := fun W0 Dn σ H => ∃ W' : WZ, (∀ cls d σ H, wz G W' cls d σ H → W0 cls d σ H) ∧ rSs G W' cf cs Dn σ H) hs hf hex hN hi hln hj hlm hij hc hdn hcn tk fun W0 pn xe tk0 hp => ?_) fun Dn σ H h => ?_
  · refine ⟨fun pins s σ H Dn I h => ?_⟩
    obtain ⟨W', hW, h⟩ := h
    exact (hb W' pn xe (tk0.imp hW) hp).run pins s σ H Dn I h
  · obtain ⟨φ, s, r, A, fl, r', s', he, p⟩ := h
    simp only [ex] at he
    obtain ⟨⟨f1, r1⟩, s1, e1, he⟩ := bnd_inv he
    refine ⟨fun c σ1 H1 => ∀ C, c ∈ G.ec → eclK G.K c = some C → wKeep X.K (uE X.K t) i j (wz G W) Dn (.ref C) none σ1 H1, fun cls d σ1 H1 hw => ?_, φ, s, r, A, f1, r1, s1, e1, fun φ1 H1 σ1 g1 hr1 sr1 => ?_⟩
    · obtain ⟨c, C, h1, h2, rfl, rfl, h3⟩ := hw
      exact h3 C h1 h2
    · cases f1 with
      | nx => cases he; exact p φ1 H1 σ1 g1 hr1 sr1
      | bk => cases he; exact p φ1 H1 σ1 g1 hr1 sr1
      | ct => cases he; exact p φ1 H1 σ1 g1 hr1 sr1
      | rt d => cases he; exact p φ1 H1 σ1 g1 hr1 sr1
      | rz c =>
        intro C hcc hC
        have k2 := (xf.kt c hcc t ht C (by rw [hK]; exact hC)).2
        refine ⟨subE c t, k2, fun hb => ⟨C, rfl, rfl, fun q hq => ?_⟩, fun hb => ⟨c, C, hcc, hC, rfl, rfl, ?_⟩⟩
        · dsimp only at he
          rw [if_pos hb] at he
          cases he
          have gg : Gr φ1 s1 H1 (bx φ1 s1.nx q) (s1.new (.exc c)) (upd H1 q (xO C q)) := Gr.box hr1 hq
          have hr2 : HR G (bx φ1 s1.nx q) (s1.new (.exc c)) (upd H1 q (xO C q)) := hr1.box hq ⟨hcc, C, hC, upd_same⟩
          refine p (bx φ1 s1.nx q) _ _ (g1.trans gg) hr2 ?_
          have rq : Rep (bx φ1 s1.nx q) (s1.new (.exc c)) (upd H1 q (xO C q)) (.ref s1.nx) (.ref q) := by
            simp only [Rep]
            exact ⟨q, rfl, by show (if s1.nx = s1.nx then some q else φ1 s1.nx) = some q; rw [if_pos rfl]⟩
          have sr2 := ((sr1.mono gg).set i rq).set j rq
          refine ⟨by rw [List.length_set, List.length_set, List.length_set, List.length_set, List.length_set, List.length_set]; exact sr1.len, fun l d e => ?_⟩
          by_cases hl : i = l
          · subst hl
            by_cases hlt : i < ((r1.set i (some (.ref s1.nx))).set j (some (.ref s1.nx))).length
            · rw [List.getElem?_set_self hlt] at e
              cases e
            · rw [List.getElem?_eq_none (by simpa using hlt)] at e
              cases e
          · rw [List.getElem?_set_ne hl] at e ⊢
            exact sr2.get l d e
        · dsimp only at he
          rw [if_neg (by rw [hb]; exact Bool.false_ne_true)] at he
          cases he
          exact p φ1 H1 σ1 g1 hr1 sr1
/-- try: .. except X: m = True -/
theorem x_trk {x m : Str} {t : String} {j : Nat} {body : List Stmt} {cs : Cs} {np pm pa p2 pos' : Pos} {k2 : Nat} {et : List String} (hK : X.K = G.K) (xf : XFacts G.ec et X.K X.mg) (ht : t ∈ et) (hs : X.stack = X.env :: X.outer) (hf : X.env.frame = some X.env.locals) (hN : X.N.Nodup)
    (hj : X.N[j]? = some m) (hx : Loc X.env.scope m) (hfn : X.fn m = true ∨ X.env.scope.names.lookup m = some .local) (hc : Names X x (uE X.K t)) (tk : Takes X (wz G W))
    (hb : ∀ (W' : WZ) (pn : List (Addr × Obj)) (xe : Value → Shared → Prop), Takes (X.tr pn xe) (wz G W') → PassesOwn (model X.prog X.w) X.A X.env xe → PSs (X.tr pn xe) body (rSs G W' cf cs)) :
    PS X (.Try body [.ExceptHandler (some (.Name x np)) none [.Assign [.Name m pm] (.Constant (.bool true) k2 p2) pa] pos'] [] [] pos) (rS G W cf (.tryk cs t j)) := by
  refine PS.imp (ps_try_only (tb := fun W0 Dn σ H => ∃ W' : WZ, (∀ cls d σ H, wz G W' cls d σ H → W0 cls d σ H) ∧ rSs G W' cf cs Dn σ H) (ts := fun _ _ _ => tAsg (tC (.bl true)) (gName j)) hs hf hc tk (fun W0 pn xe tk0 hp => ?_) (fun a oe cls d pn hz hd => pss_one (ps_set hN hj hx pe_bl rfl hfn))) fun Dn σ H h => ?_
  · refine ⟨fun pins s σ H Dn I h => ?_⟩
    obtain ⟨W', hW, h⟩ := h
    exact (hb W' pn xe (tk0.imp hW) hp).run pins s σ H Dn I h
  · obtain ⟨φ, s, r, A, fl, r', s', he, p⟩ := h
    simp only [ex] at he
    obtain ⟨⟨f1, r1⟩, s1, e1, he⟩ := bnd_inv he
    refine ⟨fun c σ1 H1 => ∀ C, c ∈ G.ec → eclK G.K c = some C → wOnly X.K (uE X.K t) (fun _ _ _ => tAsg (tC (.bl true)) (gName j)) (wz G W) Dn (.ref C) none σ1 H1, fun cls d σ1 H1 hw => ?_, φ, s, r, A, f1, r1, s1, e1, fun φ1 H1 σ1 g1 hr1 sr1 => ?_⟩
    · obtain ⟨c, C, h1, h2, rfl, rfl, h3⟩ := hw
      exact h3 C h1 h2
    · cases f1 with
      | nx => cases he; exact p φ1 H1 σ1 g1 hr1 sr1
      | bk => cases he; exact p φ1 H1 σ1 g1 hr1 sr1
      | ct => cases he; exact p φ1 H1 σ1 g1 hr1 sr1
      | rt d => cases he; exact p φ1 H1 σ1 g1 hr1 sr1
      | rz c =>
        intro C hcc hC
        have k2 := (xf.kt c hcc t ht C (by rw [hK]; exact hC)).2
        refine ⟨subE c t, k2, fun hb q hq => ?_, fun hb => ⟨c, C, hcc, hC, rfl, rfl, ?_⟩⟩
        · dsimp only at he
          rw [if_pos hb] at he
          cases he
          exact p φ1 _ _ g1 hr1 (sr1.set j (by simp only [Rep]))
        · dsimp only at he
          rw [if_neg (by rw [hb]; exact Bool.false_ne_true)] at he
          cases he
          exact p φ1 H1 σ1 g1 hr1 sr1
end
end Fl
namespace Fl
open PySem PySem.Calls PyProof.Rows PyProof.V PySem.Spec PySem.W
structure EnG (its : Array Value) (lo : Addr) (h : Heap) (as : List Addr) : Prop where
  rise : as.Pairwise (· < ·)
  above : ∀ a ∈ as, lo < a
  pairs : ∀ (j : Nat) (a : Addr), as[j]? = some a → ∃ (hj : j < its.size) (t : Tok), h.get? a = some { cls := .type "tuple", data := .seq #[.int (j : Nat) t, its[j]] }
theorem EnG.there {its : Array Value} {lo : Addr} {h : Heap} {as : List Addr} (g : EnG its lo h as) {a : Addr} (ha : a ∈ as) : a < h.objs.size := by
  obtain ⟨j, hj⟩ := List.mem_iff_getElem?.mp ha
  obtain ⟨_, _, e⟩ := g.pairs j a hj
  exact Heap.lt_size e
def EnSt (h : Heap) (e it l S : Addr) (i : Nat) (its : Array Value) : Prop := h.IsListIter it l i ∧ h.IsList l its ∧
  ((∃ old, IsEnum h e it (i : Nat) old) ∨ ∃ old T f oT, IsEnumHeld h e it (i : Nat) old T f ∧ h.get? T = some oT ∧ T ≠ e ∧ T ≠ it ∧ T ≠ S)
section
variable {prog : Program} {w : World} {A : Around} {E : Value → Shared → Prop} {s : Shared} {e it l S : Addr} {its : Array Value}
theorem en_item {i : Nat} {Q : Option Value → Shared → Prop} (hei : e ≠ it) (hle : l ≠ e) (hli : l ≠ it) (hst : EnSt s.heap e it l S i its) (hS : S < s.heap.objs.size) (hlt : i < its.size)
    (hQ : ∀ h' tk, EnSt h' e it l S (i + 1) its → (∃ t, h'.get? s.heap.objs.size = some { cls := .type "tuple", data := .seq #[.int (i : Nat) t, its[i]] }) → h'.objs.size = s.heap.objs.size + 1 →
      (∀ b o, b ≠ e → b ≠ it → s.heap.get? b = some o → h'.get? b = some o) → Q (some (.ref s.heap.objs.size)) { s with heap := h', toks := tk }) :
    wpAny (model prog w) A (pyNext (.ref e)) Q E s := by
  obtain ⟨h1, h2, h3⟩ := hst
  have ex := Array.getElem?_eq_getElem hlt
  have hil : it < s.heap.objs.size := by obtain ⟨_, q, _⟩ := h1; exact Heap.lt_size q
  rcases h3 with ⟨old, he⟩ | ⟨old, T, f, oT, he, hT, r1, r2, r3⟩
  · refine wpAny_pyNext_enum_item he h1 h2 ex hei fun h' a1 a2 a3 a4 hk => ?_
    exact hQ h' _ ⟨a2, h2.at fun o y => hk _ o hle hli y, .inr ⟨_, s.heap.objs.size, false, _, a1, a3, Nat.ne_of_gt (Heap.lt_size he), Nat.ne_of_gt hil, Nat.ne_of_gt hS⟩⟩ ⟨_, a3⟩ a4 hk
  · refine wpAny_pyNext_enum_item_held he hT r1 r2 h1 h2 ex hei fun h' a1 a2 a3 a4 hk => ?_
    exact hQ h' _ ⟨a2, h2.at fun o y => hk _ o hle hli y, .inr ⟨_, T, true, oT, a1, hk _ _ r1 r2 hT, r1, r2, r3⟩⟩ ⟨_, a3⟩ a4 hk
theorem en_done {i : Nat} {Q : Option Value → Shared → Prop} (hh : A.handled = none) (hst : EnSt s.heap e it l S i its) (hge : its.size ≤ i)
    (hQ : ∀ h', Heap.ExtBut it s.heap h' → Q none { s with heap := h' }) : wpAny (model prog w) A (pyNext (.ref e)) Q E s := by
  obtain ⟨h1, h2, h3⟩ := hst
  rcases h3 with ⟨old, he⟩ | ⟨old, T, f, oT, he, hT, r1, r2, r3⟩
  · exact wpAny_pyNext_enum_end hh he h1 h2 (Array.getElem?_eq_none hge) hQ
  · exact wpAny_pyNext_enum_end_held hh he h1 h2 (Array.getElem?_eq_none hge) hQ
end
theorem EnSt.keep {h h' : Heap} {e it l S : Addr} {i : Nat} {its : Array Value} (st : EnSt h e it l S i its) (k : ∀ b o, b ≠ S → h.get? b = some o → h'.get? b = some o) (h1 : e ≠ S) (h2 : it ≠ S) (h3 : l ≠ S) : EnSt h' e it l S i its := by
  obtain ⟨a, b, c⟩ := st
  refine ⟨a.at fun o y => k _ o h2 y, b.at fun o y => k _ o h3 y, ?_⟩
  rcases c with ⟨old, he⟩ | ⟨old, T, f, oT, he, hT, r1, r2, r3⟩
  · exact .inl ⟨old, k _ _ h1 he⟩
  · exact .inr ⟨old, T, f, oT, k _ _ h1 he, k _ _ r3 hT, r1, r2, r3⟩
section
variable {prog : Program} {w : World} {A : Around} {s : Shared} {R : Result → Shared → Prop} {its : Array Value}
theorem en_loop {S e it l : Addr} (hh : A.handled = none) (hei : e ≠ it) (hle : l ≠ e) (hli : l ≠ it) (heS : e < S) (hiS : it < S) (hlS : l < S) (hn : its.size ≤ sizeLine) (res : Value) {h₁ : Heap}
    (hR : ∀ h' tk acc c as, (∀ b o, b ≠ S → b ≠ e → b ≠ it → h₁.get? b = some o → h'.get? b = some o) → h'.get? S = some { cls := .type "list", dict := none, data := .seq acc c, slots := #[] } → as.length = its.size → EnG its S h' as →
      acc.toList = as.map Value.ref → R (.ok (.ret res)) { s with heap := h', toks := tk }) :
    ∀ (k i : Nat) (h : Heap) (tk c : Nat) (acc : Array Value) (as : List Addr), its.size - i = k → i ≤ its.size → EnSt h e it l S i its → (∀ b o, b ≠ S → b ≠ e → b ≠ it → h₁.get? b = some o → h.get? b = some o) →
      h.get? S = some { cls := .type "list", dict := none, data := .seq acc c, slots := #[] } → acc.toList = as.map Value.ref → as.length = i → EnG its S h as →
      codeAny (model prog w) A (.builtin "list.extend.loop" ⟨[.ref S, .ref e, res], []⟩) R { s with heap := h, toks := tk } := by
  have hne : S ≠ e := Nat.ne_of_gt heS
  have hni : S ≠ it := Nat.ne_of_gt hiS
  have hnl : S ≠ l := Nat.ne_of_gt hlS
  intro k
  induction k with
  | zero =>
    intro i h tk c acc as hk hi hst hkeep hS hacc hal hG
    have hin : i = its.size := by omega
    refine codeAny_builtin PySem.F.entry_extend_loop ?_
    rw [Around.under_plainId PySem.F.plain_extend_loop _]
    show wpAny _ A.in1 (pyNext (.ref e) >>= _) _ _ _
    refine wpAny_bind (en_done (s := { s with heap := h, toks := tk }) (A := A.in1) hh hst (by omega) fun h' he => ?_)
    refine wpAny_pure (hR h' tk acc c as (fun b o h1 h2 h3 e => he b o h3 (hkeep b o h1 h2 h3 e)) (he S _ hni hS) (by omega) ⟨hG.rise, hG.above, fun j a hj => ?_⟩ hacc)
    obtain ⟨hj', t, e3⟩ := hG.pairs j a hj
    exact ⟨hj', t, he a _ (Nat.ne_of_gt (Nat.lt_trans hiS (hG.above a (List.mem_of_getElem? hj)))) e3⟩
  | succ k ih =>
    intro i h tk c acc as hk hi hst hkeep hS hacc hal hG
    have hlt : i < its.size := by omega
    have hsz : acc.size = i := by rw [← Array.length_toList, hacc, List.length_map, hal]
    refine codeAny_builtin PySem.F.entry_extend_loop ?_
    rw [Around.under_plainId PySem.F.plain_extend_loop _]
    show wpAny _ A.in1 (pyNext (.ref e) >>= _) _ _ _
    refine wpAny_bind (en_item (s := { s with heap := h, toks := tk }) (S := S) hei hle hli hst (Heap.lt_size hS) hlt fun h' tk' hst' ht hz hkp => ?_)
    dsimp only at ht hz hkp ⊢
    have hS' := hkp S _ hne hni hS
    have up : ∀ b o, b ≠ S → h'.get? b = some o → (h'.update S (Obj.mapSeq (·.push (Value.ref h.objs.size)))).get? b = some o := fun b o hb e => (Heap.get?_update_other _ _ (Ne.symm hb)).trans e
    have hSl : S < h.objs.size := Heap.lt_size hS
    show wpAny _ A.in1 (updateSeq S (·.push (Value.ref h.objs.size)) >>= _) _ _ _
    refine wpAny_bind ?_
    refine wpAny_updateSeq hS' rfl (wpAny_pure ⟨plainId_quiet PySem.F.plain_extend_loop _, ih (i + 1) _ tk' _ (acc.push (Value.ref h.objs.size)) (as ++ [h.objs.size]) (by omega) hlt (hst'.keep up (Ne.symm hne) (Ne.symm hni) (Ne.symm hnl))
      (fun b o h1 h2 h3 e => up b o h1 (hkp b o h2 h3 (hkeep b o h1 h2 h3 e))) (Heap.get?_update_self _ hS' rfl) (by rw [Array.toList_push, hacc, List.map_append]; rfl) (by rw [List.length_append, hal]; rfl) ⟨?_, ?_, ?_⟩⟩) (by rw [hsz]; omega) (by show (acc.push (Value.ref h.objs.size)).size ≤ sizeLine + 1; rw [Array.size_push, hsz]; omega)
    · refine List.pairwise_append.mpr ⟨hG.rise, List.pairwise_singleton _ _, fun a ha b hb => ?_⟩
      rw [List.mem_singleton.mp hb]
      exact hG.there ha
    · intro a ha
      rcases List.mem_append.mp ha with ha | ha
      · exact hG.above a ha
      · rw [List.mem_singleton.mp ha]; exact hSl
    · intro j b hj
      rcases Nat.lt_trichotomy j as.length with h1 | h1 | h1
      · rw [List.getElem?_append_left h1] at hj
        obtain ⟨hj', t, e3⟩ := hG.pairs j b hj
        have hb := hG.above b (List.mem_of_getElem? hj)
        exact ⟨hj', t, up b _ (Nat.ne_of_gt hb) (hkp b _ (Nat.ne_of_gt (Nat.lt_trans heS hb)) (Nat.ne_of_gt (Nat.lt_trans hiS hb)) e3)⟩
      · subst h1
        have hb : h.objs.size = b := by simpa using hj
        subst hb
        obtain ⟨t, ht⟩ := ht
        exact ⟨by omega, t, by subst hal; exact up _ _ (Nat.ne_of_gt hSl) ht⟩
      · have hnone : (as ++ [h.objs.size])[j]? = none := List.getElem?_eq_none (by rw [List.length_append, List.length_singleton]; omega)
        rw [hnone] at hj; cases hj
end
theorem en_nolen : typeLookup (.type "enumerate") "__len__" = pure none := by rw [typeLookup_type, builtinLookup_eq_fast]; kernel_rfl
theorem en_nohint : typeLookup (.type "enumerate") "__length_hint__" = pure none := by rw [typeLookup_type, builtinLookup_eq_fast]; kernel_rfl
section
variable {prog : Program} {w : World} {A : Around} {E : Value → Shared → Prop} {s : Shared} {e it l : Addr} {its : Array Value}
theorem en_hint (hT : s.TypeIs (.ref e) "enumerate") {Q : Bool → Shared → Prop} (h : Q true s) : wpAny (model prog w) A (Builtin.List.listLengthHint (.ref e)) Q E s := by
  unfold Builtin.List.listLengthHint
  refine wpAny_bind (wpAny_specialOf hT en_nolen ?_)
  show wpAny _ A (specialOf (Value.ref e) (Str.ofString "__length_hint__") >>= _) _ _ _
  refine wpAny_bind (wpAny_specialOf hT en_nohint ?_)
  exact wpAny_pure h
theorem en_extend {R : Result → Shared → Prop} {S : Addr} (hh : A.handled = none) (hei : e ≠ it) (hle : l ≠ e) (hli : l ≠ it) (heS : e < S) (hiS : it < S) (hlS : l < S) (he : IsEnum s.heap e it 0 .none) (hit : s.heap.IsListIter it l 0) (hl : s.heap.IsList l its)
    (res : Value) (c₀ : Nat) (hS : s.heap.get? S = some { cls := .type "list", data := .seq #[] c₀ })
    (hR : ∀ h' tk acc c as, (∀ b o, b ≠ S → b ≠ e → b ≠ it → s.heap.get? b = some o → h'.get? b = some o) → h'.get? S = some { cls := .type "list", dict := none, data := .seq acc c, slots := #[] } → as.length = its.size → EnG its S h' as →
      acc.toList = as.map Value.ref → R (.ok (.ret res)) { s with heap := h', toks := tk }) (hn : its.size ≤ sizeLine) :
    wpAny (model prog w) A.in1 (Builtin.List.listExtendWith (.ref S) (.ref e) res)
      (fun fin s' => match fin with | .done f => R (.ok f) s' | .again c' => c'.quiet = true ∧ codeAny (model prog w) A c' R s') (fun e s' => R (.error e) s') s := by
  have hTy : s.TypeIs (.ref e) "enumerate" := ⟨_, he, rfl⟩
  unfold Builtin.List.listExtendWith
  refine wpAny_bind (wpAny_typeOf (T := "enumerate") hTy ?_)
  have h1 : Builtin.List.listSameRef (.ref S) (.ref e) = false := by simp [Builtin.List.listSameRef, Nat.ne_of_gt heS]
  have h2 : (Value.type "enumerate" == Value.type "list") = false := by decide
  have h3 : (Value.type "enumerate" == Value.type "tuple") = false := by decide
  simp only [h1, h2, h3, Bool.or_false, Bool.false_eq_true, if_false]
  refine wpAny_bind (wpAny_pyIter_enum he ?_)
  refine wpAny_bind (wpAny_holding (en_hint hTy ?_))
  show wpAny _ A.in1 (rule "list.extend.makes-room" >>= fun _ => Builtin.List.listTouch (.ref S) >>= fun _ => again (.builtin "list.extend.loop" ⟨[.ref S, .ref e, res], []⟩)) _ _ _
  refine wpAny_bind (wpAny_rule ?_)
  refine wpAny_bind ?_
  show wpAny _ _ (updateSeq S (·.push .none) >>= fun _ => updateSeq S (·.pop)) _ _ _
  refine wpAny_bind (wpAny_updateSeq hS rfl ?_)
  have hS₂ := Heap.get?_update_self (Obj.mapSeq (·.push Value.none)) hS rfl
  refine wpAny_updateSeq (hz := by seq_fits) hS₂ rfl ?_
  have hS₃ := Heap.get?_update_self (Obj.mapSeq (·.pop)) hS₂ rfl
  have oth : ∀ b o, b ≠ S → s.heap.get? b = some o → ((s.heap.update S (Obj.mapSeq (·.push Value.none))).update S (Obj.mapSeq (·.pop))).get? b = some o :=
    fun b o hb e => (Heap.get?_update_other _ _ (Ne.symm hb)).trans ((Heap.get?_update_other _ _ (Ne.symm hb)).trans e)
  refine wpAny_pure ⟨plainId_quiet PySem.F.plain_extend_loop _, ?_⟩
  exact en_loop (s := s) (h₁ := s.heap) hh hei hle hli heS hiS hlS hn res hR its.size 0 _ s.toks _ #[] [] (Nat.sub_zero _) (Nat.zero_le _)
    (EnSt.keep (h := s.heap) ⟨hit, hl, .inl ⟨_, he⟩⟩ oth (Nat.ne_of_lt heS) (Nat.ne_of_lt hiS) (Nat.ne_of_lt hlS)) (fun b o h1 _ _ x => oth b o h1 x) hS₃ rfl rfl ⟨List.Pairwise.nil, (fun _ ha => nomatch ha), (fun j a hj => by simp at hj)⟩
theorem en_call {Q : Value → Shared → Prop} (hh : A.handled = none) (hei : e ≠ it) (hle : l ≠ e) (hli : l ≠ it) (he : IsEnum s.heap e it 0 .none) (hit : s.heap.IsListIter it l 0) (hl : s.heap.IsList l its) (hn : its.size ≤ sizeLine)
    (hQ : ∀ h' tk acc c as, (∀ b o, b ≠ e → b ≠ it → s.heap.get? b = some o → h'.get? b = some o) → h'.get? s.heap.objs.size = some { cls := .type "list", dict := none, data := .seq acc c, slots := #[] } → as.length = its.size → EnG its s.heap.objs.size h' as →
      acc.toList = as.map Value.ref → Q (.ref s.heap.objs.size) { s with heap := h', toks := tk }) :
    wpAny (model prog w) A (call (.type "list") [.ref e]) Q E s := by
  refine callType_codes (Q₁ := fun obj s₁ => obj = .ref s.heap.objs.size ∧ s₁ = { s with heap := s.heap.push { cls := .type "list", data := .seq #[] } }) PySem.F.called_list (PySem.F.typeCall_list_1 _) PySem.F.entry_list_init
    (code_list_new _ ⟨rfl, rfl⟩) fun obj s₁ h₁ => ?_
  obtain ⟨rfl, rfl⟩ := h₁
  have hS : (s.heap.push { cls := .type "list", data := .seq #[] }).get? s.heap.objs.size = some { cls := .type "list", data := .seq #[] } := Heap.get?_push_size _ rfl
  have he' : e < s.heap.objs.size := Heap.lt_size he
  have hi' : it < s.heap.objs.size := let ⟨_, ho, _⟩ := hit; Heap.lt_size ho
  have hl' : l < s.heap.objs.size := let ⟨_, ho, _⟩ := hl; Heap.lt_size ho
  refine ⟨⟨_, hS, rfl⟩, PySem.F.args_list_init_2 _ _, ?_⟩
  show wpAny _ _ (do let old ← Builtin.List.listItems (.ref s.heap.objs.size); Builtin.List.listUpdate (.ref s.heap.objs.size) (fun _ => #[]); letGo old.toList.reverse; Builtin.List.listExtendWith (.ref s.heap.objs.size) (.ref e) .none) _ _ _
  refine wpAny_bind ?_
  unfold Builtin.List.listItems
  refine wpAny_bind (wpAny_seqItems hS rfl (wpAny_pure ?_))
  show wpAny _ _ (updateSeq s.heap.objs.size (fun _ => #[]) >>= fun _ => letGo (#[] : Array Value).toList.reverse >>= fun _ => Builtin.List.listExtendWith (.ref s.heap.objs.size) (.ref e) .none) _ _ _
  refine wpAny_bind (wpAny_updateSeq hS rfl ?_)
  have hS₂ := Heap.get?_update_self (Obj.mapSeq (fun _ => (#[] : Array Value))) hS rfl
  have oth : ∀ b o, b ≠ s.heap.objs.size → s.heap.get? b = some o → ((s.heap.push { cls := .type "list", data := .seq #[] }).update s.heap.objs.size (Obj.mapSeq (fun _ => (#[] : Array Value)))).get? b = some o :=
    fun b o hb e => (Heap.get?_update_other _ _ (Ne.symm hb)).trans (Heap.get?_push_of_some _ e)
  refine wpAny_bind (wpAny_letGo ?_)
  refine en_extend (A := A.in1) hh hei hle hli he' hi' hl' (oth _ _ (Nat.ne_of_lt he') he) (hit.at fun o x => oth _ o (Nat.ne_of_lt hi') x) (hl.at fun o x => oth _ o (Nat.ne_of_lt hl') x) .none _ hS₂ (fun h' tk acc c as hk hS' hl hG hacc => ?_) hn
  exact ⟨rfl, hQ h' tk acc c as (fun b o h1 h2 x => hk b o (Nat.ne_of_lt (Heap.lt_size x)) h1 h2 (oth b o (Nat.ne_of_lt (Heap.lt_size x)) x)) hS' hl hG hacc⟩
end
section
open L2
/-- the tuples' parts -/
def kvE : Nat → List V → List (Key × V)
  | _, [] => []
  | i, x :: xs => (.inl (i : Nat), x) :: kvE (i + 1) xs
theorem kvE_len : ∀ (i : Nat) (xs : List V), (kvE i xs).length = xs.length
  | _, [] => rfl
  | i, x :: xs => by show (kvE (i + 1) xs).length + 1 = xs.length + 1; rw [kvE_len]
theorem kvE_get : ∀ (xs : List V) (i j : Nat), (kvE i xs)[j]? = (xs[j]?).map fun x => (.inl ((i + j : Nat) : Int), x)
  | [], i, j => by simp [kvE]
  | x :: xs, i, 0 => by simp [kvE]
  | x :: xs, i, j + 1 => by
    show (kvE (i + 1) xs)[j]? = _
    rw [kvE_get xs (i + 1) j]
    simp only [List.getElem?_cons_succ]
    congr 1
    funext y
    have : i + 1 + j = i + (j + 1) := by omega
    rw [this]
variable {X : Cx}
theorem en_laid {pins : List (Addr × Obj)} {σ : L2.St} {H : Hp} {s : Shared} {h' : Heap} {tk : Nat} {xs : List V} {its : List Value} {acc : Array Value} {c : Nat} {as : List Addr} {S : Addr} (I : Inv X pins σ H s) (hz : xs.length ≤ sizeLine) (rv : Vals xs its)
    (hk : ∀ b o, s.heap.get? b = some o → h'.get? b = some o) (hSz : s.heap.objs.size ≤ S) (hS : h'.get? S = some { cls := .type "list", dict := none, data := .seq acc c, slots := #[] }) (hl : as.length = its.toArray.size) (hG : EnG its.toArray S h' as) (hacc : acc.toList = as.map Value.ref) :
    (∀ t ∈ as, H t = none) ∧ as.Nodup ∧ (LiI.putT H as (kvE 0 xs)) S = none ∧ Inv X pins σ (upd (LiI.putT H as (kvE 0 xs)) S (.lst (as.map V.ref))) { s with heap := h', toks := tk } := by
  have lk : xs.length = its.length := rv.length
  have la : as.length = xs.length := by rw [hl, lk, List.size_toArray]
  have hSn : S ∉ as := fun z => Nat.lt_irrefl _ (hG.above _ z)
  have nd : as.Nodup := List.Pairwise.imp (fun {a b} (h : a < b) => Nat.ne_of_lt h) hG.rise
  have new : ∀ t ∈ as, H t = none := fun t ht => I.hok.fresh (Nat.le_trans hSz (Nat.le_of_lt (hG.above t ht)))
  have newS : H S = none := I.hok.fresh hSz
  have atP := LiI.putT_at as (kvE 0 xs) H (by rw [kvE_len]; exact la) nd
  have offp : ∀ b, b ∉ as → LiI.putT H as (kvE 0 xs) b = H b := fun b h1 => LiI.putT_off as (kvE 0 xs) _ h1
  have off : ∀ b, b ∉ as → b ≠ S → upd (LiI.putT H as (kvE 0 xs)) S (.lst (as.map V.ref)) b = H b := fun b h1 h2 => by rw [upd_ne h2, offp b h1]
  have low : ∀ b o, s.heap.get? b = some o → b ∉ as ∧ b ≠ S := fun b o e => ⟨fun z => absurd (Heap.lt_size e) (Nat.not_lt.mpr (Nat.le_trans hSz (Nat.le_of_lt (hG.above b z)))), Nat.ne_of_lt (Nat.lt_of_lt_of_le (Heap.lt_size e) hSz)⟩
  have kp : ∀ b u, H b = some u → (upd (LiI.putT H as (kvE 0 xs)) S (.lst (as.map V.ref))) b = some u := fun b u e => by
    rw [off b (fun z => by rw [new b z] at e; cases e) (fun z => by rw [z, newS] at e; cases e)]
    exact e
  refine ⟨new, nd, by rw [offp S hSn, newS], ?_⟩
  refine I.call' (ch := []) rfl ⟨fun b o q _ _ _ => hk b o q, fun b o q _ _ _ => ⟨o.slots, hk b o q⟩, fun b o q n _ => ?_, fun b o q _ => ⟨o, hk b o q⟩, fun b xs q => kp b _ q, fun b o u q => kp b _ q, fun b ps q => ⟨#[], by rw [kp b _ q]; simp⟩⟩ (fun b u q => ?_) I.bare fun b z => by simp at z
  · obtain ⟨z1, z2⟩ := low b o q
    rw [off b z1 z2]
    exact n
  · by_cases hb2 : b = S
    · rw [hb2] at q ⊢
      rw [upd_same] at q
      cases q
      refine ⟨by rw [List.length_map, la]; exact hz, acc.toList, c, by rw [hacc]; exact LiI.vals_refs as, ?_⟩
      rw [Array.toArray_toList]
      exact hS
    · by_cases hb : b ∈ as
      · obtain ⟨j, pk, e1, e2, e3⟩ := LiI.paired_ix atP hb
        rw [upd_ne hb2, e3] at q
        cases q
        obtain ⟨hj, t, f3⟩ := hG.pairs j b e1
        rw [kvE_get] at e2
        obtain ⟨x, g1, g2⟩ := Option.map_eq_some_iff.mp e2
        subst g2
        obtain ⟨u, g3, g4⟩ := rv.get g1
        have f4 : its.toArray[j] = u := by
          have : its[j]? = some its.toArray[j] := by simp
          rw [g3] at this
          exact (Option.some.inj this).symm
        rw [f4] at f3
        refine ⟨by show 2 ≤ sizeLine; decide, [.int (j : Nat) t, u], .cons ⟨t, by simp⟩ (.cons g4 .nil), ⟨_, f3, rfl, _, rfl⟩⟩
      · rw [off b hb hb2] at q
        exact (I.hok b u q).stay (fun d v _ y => hk d v y) (fun d y => kp d _ y) fun d xs y => kp d _ y
/-- list(enumerate(e)) -/
def tLenm (K : PySem.W.Frag) (te : TE) : TE := fun σ H Q => te σ H fun x H1 => ∃ (a : Addr) (xs : List V), x = .ref a ∧ SqL K H1 a xs ∧
  ∀ (ts : List Addr), (∀ t ∈ ts, H1 t = none) → ts.Nodup → ts.length = xs.length → ∀ p, (LiI.putT H1 ts (kvE 0 xs)) p = none → Q (.ref p) (upd (LiI.putT H1 ts (kvE 0 xs)) p (.lst (ts.map V.ref)))
theorem pe_lenm {e : Expr} {te : TE} {p p2 pos pos2 : Pos} (hc : X.calm = true) (he : PE X e te) (hgl : Gl X "list") (hml : X.mg "list" = none) (hge : Gl X "enumerate") (hme : X.mg "enumerate" = none) (na : starEach [e] X.env = (false, eval e X.env) :: starEach [] X.env) :
    PE X (.Call (.Name "list" p) [.Call (.Name "enumerate" p2) [e] [] pos2] [] pos) (tLenm X.K te) := by
  refine ⟨fun pins s σ H Q I hq => ?_⟩
  have na2 : starEach [.Call (.Name "enumerate" p2) [e] [] pos2] X.env = (false, eval (.Call (.Name "enumerate" p2) [e] [] pos2) X.env) :: starEach [] X.env := rfl
  refine PyProof.Rows.Call_ (ld_blt I hgl hml PyProof.Rows.boot_list (PyProof.Rows.callWith_type1 (PyProof.Rows.args_cons ?_ na2) na2 rfl))
  refine PyProof.Rows.Call_ (ld_blt I hge hme PyProof.Rows.boot_enumerate ?_)
  refine PyProof.Rows.callWith_type1 (PyProof.Rows.args_cons (thn (he.run pins s σ H _ I hq) fun v s1 ⟨x, H1, I1, r1, q1⟩ => PyProof.Rows.args_nil ?_) na) na rfl
  obtain ⟨a, xs, rfl, hsq, q⟩ := q1
  cases r1
  obtain ⟨its, rv, p', hz⟩ := I1.list hsq
  refine call_enumerate_list p'.isList fun h2 he2 hit hsz hk => PyProof.Rows.args_nil ?_
  have ha : a < s1.heap.objs.size := let ⟨_, ho, _⟩ := p'.isList; Heap.lt_size ho
  refine en_call (s := { s1 with heap := h2 }) (A := X.A) (I1.ok.hd hc) (Nat.succ_ne_self _) (Nat.ne_of_lt (Nat.lt_succ_of_lt ha)) (Nat.ne_of_lt ha) he2 hit (p'.isList.at fun o y => hk _ o y) (by rw [List.size_toArray, ← rv.length]; exact hz) fun h' tk acc c as hk' hS hl hG hacc => ?_
  have hkk : ∀ b o, s1.heap.get? b = some o → h'.get? b = some o := fun b o y => hk' b o (Nat.ne_of_lt (Nat.lt_succ_of_lt (Heap.lt_size y))) (Nat.ne_of_lt (Heap.lt_size y)) (hk b o y)
  obtain ⟨k1, k2, k3, J⟩ := en_laid (tk := tk) (S := h2.objs.size) I1 hz rv hkk (by rw [hsz]; omega) hS hl hG hacc
  exact ⟨.ref _, _, J, rfl, q as k1 k2 (by rw [hl, List.size_toArray, rv.length]) _ k3⟩
def Ites (x : Str) : L2.It :=
  ⟨fun i H => i < x.cps.size, fun i H v H' => ∃ T c, v = .ref T ∧ H T = none ∧ H' = upd H T (.tup [.int (i : Nat), .str ⟨#[c]⟩]) ∧ x.cps[i]? = some c, fun i H => x.cps.size ≤ i⟩
theorem ens_end {prog : Program} {w : World} {A : Around} {E : Value → Shared → Prop} {s : Shared} {e it : Addr} {x : Str} {t : Tok} {i : Nat} {j : Int} {old : Value} {Q : Option Value → Shared → Prop} (hh : A.handled = none)
    (he : IsEnum s.heap e it j old) (hst : s.heap.IsStrIter it (strIterType x) x t i) (hi : x.cps.size ≤ i)
    (hQ : ∀ h', Heap.ExtBut it s.heap h' → Q none { s with heap := h' }) : wpAny (model prog w) A (pyNext (.ref e)) Q E s := by
  have hT : s.TypeIs (.ref e) "enumerate" := ⟨_, he, rfl⟩
  have hx : x.cps[i]? = none := Array.getElem?_eq_none hi
  unfold pyNext
  refine wpAny_bind (wpAny_attempt (wpAny_callSpecial?_slot (name := Str.ofString "__next__") hT F.slot_enumerate_next
    (wpAny_call_entry F.slot_enumerate_next hT F.entry_enumerate_next ?_ (F.args_enumerate_next_1 _))))
  show wpAny _ _ (field (.ref e) 2 >>= _) _ _ _
  refine wpAny_bind (wpAny_field he rfl (x := .ref it) rfl ?_)
  cases ha : x.cps.all (· < 128)
  · simp only [strIterType, ha, Bool.false_eq_true, if_false] at hst
    refine wpAny_bind (wpAny_nextOf_wide_end hh hst hx fun h' x he' hx' => ?_)
    obtain ⟨o, ho, hc⟩ := hx'
    refine wpAny_bind (wpAny_isInstance (T := "StopIteration") (b := true) ⟨o, ho, hc⟩ isSubtype_stop ?_)
    exact wpAny_pure (hQ _ he')
  · simp only [strIterType, ha, if_true] at hst
    refine wpAny_bind (wpAny_nextOf_ascii_end hh hst hx fun h' x he' hx' => ?_)
    obtain ⟨o, ho, hc⟩ := hx'
    refine wpAny_bind (wpAny_isInstance (T := "StopIteration") (b := true) ⟨o, ho, hc⟩ isSubtype_stop ?_)
    exact wpAny_pure (hQ _ he')
theorem turn_ens {P : Program} {w : World} {K : PySem.W.Frag} {elts : List Expr} {kk : Nat} {tpos : Pos} (e it : Addr) (x : Str) (t : Tok) :
    Turn P w K (.Tuple elts kk tpos) (Ites x) [e, it] e (fun i h => (∃ old, IsEnum h e it ((i : Nat) : Int) old) ∧ h.IsStrIter it (strIterType x) x t i ∧ e ≠ it) where
  mem := by simp
  obj := fun i h st b hb => by
    obtain ⟨⟨old, he⟩, ⟨o, ho, hc, hd⟩, _⟩ := st
    have e' : b = e ∨ b = it := by simpa using hb
    rcases e' with z | z
    · rw [z]; exact ⟨_, he, fun v q => nomatch q⟩
    · rw [z]; exact ⟨o, ho, fun v q => by rw [hd] at q; cases q⟩
  keep := fun i h h' st k => let ⟨⟨old, he⟩, ⟨o, ho, r⟩, hne⟩ := st; ⟨⟨old, k e (by simp) _ he⟩, ⟨o, k it (by simp) o ho, r⟩, hne⟩
  item := by
    intro X hP hw hK hc i pins s σ H E I hf st hg
    subst hP hw hK
    obtain ⟨⟨old, he⟩, hit, hne⟩ := st
    have hel : e < s.heap.objs.size := Heap.lt_size he
    have hil : it < s.heap.objs.size := by obtain ⟨_, q, _⟩ := hit; exact Heap.lt_size q
    refine wpAny_pyNext_enum_itemD (Draws.text (A := X.A.in1) (I.ok.hd hc) it x t) he hit hg hne (by simp [hne]) fun u h' tk hu ho hit' hT hsz hk => ?_
    obtain ⟨c, u', hcx, rfl⟩ := hu
    refine ⟨_, rfl, wpAny_letOwnedTupleGo_enum (s := { s with heap := h', toks := tk + 1 }) ho fun h'' he' sb => ?_⟩
    have hT2 : h''.get? s.heap.objs.size = some { cls := .type "tuple", data := .seq #[.int i tk, .str ⟨#[c]⟩ u'] } := (sb.2 _ (Nat.ne_of_gt hel)).trans hT
    have new : ObjOk X.prog X.w (upd H s.heap.objs.size (.tup [.int (i : Nat), .str ⟨#[c]⟩])) h'' s.heap.objs.size (.tup [.int (i : Nat), .str ⟨#[c]⟩]) :=
      ⟨by show 2 ≤ sizeLine; decide, [.int i tk, .str ⟨#[c]⟩ u'], .cons ⟨_, rfl⟩ (.cons ⟨_, rfl⟩ .nil), ⟨_, hT2, rfl, _, rfl⟩⟩
    have I1 : Inv X pins σ (upd H s.heap.objs.size (.tup [.int (i : Nat), .str ⟨#[c]⟩])) { s with heap := h'', toks := tk + 1 } :=
      I.turnedNew (ch := [e, it]) (fun b ob hb q => (sb.2 b (fun z => hb (by simp [z]))).trans (hk b ob (fun z => hb (by simp [z])) (fun z => hb (by simp [z])) q)) hf (Nat.le_refl _) new
    refine ⟨.ref s.heap.objs.size, _, I1, rfl, ⟨_, c, rfl, I.hok.fresh (Nat.le_refl _), rfl, hcx⟩, ⟨⟨.str ⟨#[c]⟩ u', ?_⟩, ?_, hne⟩, fun b hb => ?_⟩
    · have e1 : ((i + 1 : Nat) : Int) = (i : Int) + 1 := by omega
      rw [e1]; exact he'
    · obtain ⟨o, ho2, r⟩ := hit'
      exact ⟨o, (sb.2 it (Ne.symm hne)).trans ho2, r⟩
    · have hb' : b < s.heap.objs.size := by
        have e' : b = e ∨ b = it := by simpa using hb
        rcases e' with z | z
        · rw [z]; exact hel
        · rw [z]; exact hil
      rw [upd_ne (Nat.ne_of_lt hb')]
      exact (hf b hb).1
  done := by
    intro X hP hw hK hc i pins s σ H E I hf st hg
    subst hP hw hK
    obtain ⟨⟨old, he⟩, hit, hne⟩ := st
    obtain ⟨f0, f1, f2, f3, f4, f5⟩ := hf it (by simp)
    exact ens_end (I.ok.hd hc) he hit hg fun h' eb => ⟨rfl, I.turned (t' := s.toks) (fun b o hb q => eb b o hb q) f0 f1 f3 f4 f5⟩
  self := fun A i s Q E st h => let ⟨⟨_, he⟩, _⟩ := st; wpAny_pyIter_enum he h
def iEns (te : TE) : TI := fun σ H R => te σ H fun v H1 => ∃ x, v = .str x ∧ R (Ites x) H1
theorem pi_ens {e : Expr} {te : TE} {p pos tpos : Pos} {elts : List Expr} {kk : Nat} (hg : Gl X "enumerate") (hm : X.mg "enumerate" = none) (he : PE X e te) (na : starEach [e] X.env = (false, eval e X.env) :: starEach [] X.env) :
    PI X (.Tuple elts kk tpos) (.Call (.Name "enumerate" p) [e] [] pos) (iEns te) := by
  refine ⟨fun pins s σ H R I h => ?_⟩
  refine PyProof.Rows.Call_ (ld_blt I hg hm boot_enumerate (PyProof.Rows.callWith_type1 (PyProof.Rows.args_cons (thn (he.run pins s σ H _ I h) fun v s1 ⟨y, H1, I1, r1, x, ex, q⟩ => PyProof.Rows.args_nil ?_) na) na rfl))
  subst ex
  obtain ⟨t, rfl⟩ := r1
  refine call_enumerate_str fun h' he hit hsz hk => wpAny_pyIter_enum he ?_
  have I2 : Inv X pins σ H1 { s1 with heap := h' } := I1.kept (t' := s1.toks) hk
  refine ⟨s1.heap.objs.size + 1, [s1.heap.objs.size + 1, s1.heap.objs.size], _, _, H1, rfl, I2, turn_ens (s1.heap.objs.size + 1) s1.heap.objs.size x t, ⟨⟨.none, he⟩, hit, Nat.succ_ne_self _⟩, fun b hb => ?_, q⟩
  have e' : b = s1.heap.objs.size + 1 ∨ b = s1.heap.objs.size := by simpa using hb
  have hle : s1.heap.objs.size ≤ b := by
    rcases e' with z | z
    · rw [z]; exact Nat.le_add_right _ _
    · rw [z]; exact Nat.le_refl _
  exact I1.fpOk hle (I1.hok.fresh hle)
def rRepS : R2 := fun x y H Q => ∃ z k, x = .str z ∧ y = .int k ∧ -1000 ≤ k ∧ k ≤ 1000 ∧ z.length ≤ 1000 ∧ Q (.str ⟨(List.replicate k.toNat z.cps.toList).flatten.toArray⟩) H
theorem foldl_app {α : Type} (z : Array α) : ∀ (n : Nat) (a : Array α), (List.replicate n z).foldl (· ++ ·) a = a ++ (List.replicate n z.toList).flatten.toArray
  | 0, a => by simp
  | n + 1, a => by
    rw [List.replicate_succ, List.foldl_cons, foldl_app z n, List.replicate_succ, List.flatten_cons]
    rw [Array.append_assoc]
    congr 1
    rw [← Array.toList_inj]
    simp
theorem op_repS : OpR X (binaryOp .Mult) rRepS := by
  intro pins s σ H x y v u Q I rx ry h
  obtain ⟨z, k, rfl, rfl, h1, h2, h4, q⟩ := h
  obtain ⟨t1, rfl⟩ := rx
  obtain ⟨t2, rfl⟩ := ry
  refine PySem.SB.mul ⟨?_, fun hk0 _ => ?_, fun hk0 _ => ?_⟩ fun t' j => ?_
  · have a1 : ¬ k < -(2 ^ 63 : Int) := by omega
    have a2 : ¬ k ≥ 2 ^ 63 := by omega
    rw [decide_eq_false a1, decide_eq_false a2]
    rfl
  · have : (1000 : Int) ≤ (2 ^ 63 - 1) / k := by
      rw [Int.le_ediv_iff_mul_le (by omega)]
      have : 1000 * k ≤ 1000 * 1000 := Int.mul_le_mul_of_nonneg_left h2 (by decide)
      omega
    omega
  · have hk : k.toNat ≤ 1000 := by omega
    have : z.length * k.toNat ≤ 1000 * 1000 := Nat.mul_le_mul h4 hk
    unfold Builtin.Str.tooLong
    have hs : sizeLine = 16777216 := sizeLine_eq
    rw [decide_eq_false_iff_not, hs]
    omega
  · have e : Txt.mul z k = ⟨(List.replicate k.toNat z.cps.toList).flatten.toArray⟩ := by
      unfold Txt.mul
      by_cases hk : k < 1
      · rw [if_pos hk]
        have : k.toNat = 0 := by omega
        rw [this]
        rfl
      · rw [if_neg hk]
        by_cases ho : (k == 1 || z.length == 0) = true
        · rw [if_pos ho]
          rw [Bool.or_eq_true, beq_iff_eq, beq_iff_eq] at ho
          rcases ho with ho | ho
          · have : k.toNat = 1 := by omega
            rw [this]
            simp
          · have hz : z.cps.toList = [] := by
              have : z.cps.size = 0 := ho
              rw [← Array.length_toList] at this
              exact List.length_eq_zero_iff.mp this
            rw [hz]
            have h0 : ∀ n : Nat, (List.replicate n ([] : List Nat)).flatten = [] := by
              intro n
              induction n with
              | zero => rfl
              | succ n ih => rw [List.replicate_succ, List.flatten_cons, ih]; rfl
            rw [h0]
            cases z with
            | mk c =>
              have : c.toList = [] := hz
              congr 1
              rw [← Array.toList_inj, this]
        · rw [if_neg ho, foldl_app]
          simp
    rw [e]
    exact ⟨.str _, H, I.tok _, ⟨_, rfl⟩, q⟩
end
end Fl
namespace Fl
open PySem L2
section
variable {G : Glob} {φ : Mp} {s s' : S} {H : Hp} {d : D} {Q : VK} {K : PySem.W.Frag}
theorem RepL.intsR : ∀ {ds : List D} {vs : List V} {ns : List Int}, RepL φ s H ds vs → intsD ds = some ns → vs = ns.map V.int
  | [], vs, ns, r, e => by
    simp only [RepL] at r
    subst r
    cases e
    rfl
  | .int i :: ds, vs, ns, r, e => by
    simp only [RepL, Rep] at r
    obtain ⟨v, w, rfl, rfl, r2⟩ := r
    have e' : (intsD ds).map (fun q => i :: q) = some ns := e
    obtain ⟨q, h1, rfl⟩ := Option.map_eq_some_iff.mp e'
    rw [r2.intsR h1]
    rfl
  | .non :: ds, vs, ns, r, e => by cases e
  | .bl _ :: ds, vs, ns, r, e => by cases e
  | .str _ :: ds, vs, ns, r, e => by cases e
  | .tup _ :: ds, vs, ns, r, e => by cases e
  | .lst _ :: ds, vs, ns, r, e => by cases e
  | .ref _ :: ds, vs, ns, r, e => by cases e
  | .scr _ :: ds, vs, ns, r, e => by cases e
theorem sum_ok {ds : List D} {vs : List V} (hkk : φ.K = K) (h : HR G φ s H) (r : RepL φ s H ds vs) (e : sumD s ds = some (.ok d, s')) (p : Post G φ s H s' d Q) : rSum K vs H Q := by
  unfold sumD at e
  split at e
  · obtain ⟨e1, rfl⟩ := lft_inv e
    obtain ⟨ns, e2, rfl⟩ := Option.map_eq_some_iff.mp e1
    obtain ⟨xs, e3, e4⟩ := Option.bind_eq_some_iff.mp e2
    simp only [RepL] at r
    obtain ⟨v, w, rfl, r1, rfl⟩ := r
    obtain ⟨a, vs, rfl, h1, h2⟩ := r1.lcont h e3
    rw [h2.intsR e4] at h1
    exact ⟨a, ns, rfl, by rw [← hkk]; exact h1, p.here h (by simp only [Rep])⟩
  · cases e
theorem minI_of : ∀ {ns : List Int} {m : Int}, minI ns = some m → m ∈ ns ∧ ∀ y ∈ ns, m ≤ y
  | [], m, e => by cases e
  | [i], m, e => by
    cases e
    simp
  | i :: j :: r, m, e => by
    have e' : (minI (j :: r)).map (min i) = some m := e
    obtain ⟨q, h1, h2⟩ := Option.map_eq_some_iff.mp e'
    obtain ⟨h3, h4⟩ := minI_of h1
    subst h2
    refine ⟨?_, fun y hy => ?_⟩
    · by_cases h : i ≤ q
      · rw [Int.min_eq_left h]
        exact List.mem_cons_self
      · rw [Int.min_eq_right (by omega)]
        exact List.mem_cons_of_mem _ h3
    · rcases List.mem_cons.mp hy with z | z
      · subst z
        exact Int.min_le_left _ _
      · exact Int.le_trans (Int.min_le_right _ _) (h4 y z)
theorem minL_ok {ds : List D} {vs : List V} (hkk : φ.K = K) (h : HR G φ s H) (r : RepL φ s H ds vs) (e : minLD s ds = some (.ok d, s')) (p : Post G φ s H s' d Q) : rMin K vs H Q := by
  unfold minLD at e
  split at e
  · obtain ⟨e1, rfl⟩ := lft_inv e
    obtain ⟨m, e2, rfl⟩ := Option.map_eq_some_iff.mp e1
    obtain ⟨ns, e3, e5⟩ := Option.bind_eq_some_iff.mp e2
    obtain ⟨xs, e3, e4⟩ := Option.bind_eq_some_iff.mp e3
    simp only [RepL] at r
    obtain ⟨v, w, rfl, r1, rfl⟩ := r
    obtain ⟨a, vs, rfl, h1, h2⟩ := r1.lcont h e3
    rw [h2.intsR e4] at h1
    obtain ⟨k1, k2⟩ := minI_of e5
    refine ⟨a, ns, rfl, by rw [← hkk]; exact h1, List.length_pos_of_mem k1, fun m' h3 h4 => ?_⟩
    have : m' = m := Int.le_antisymm (h4 m k1) (k2 m' h3)
    subst this
    exact p.here h (by simp only [Rep])
  · cases e
theorem min3_ok {ds : List D} {vs : List V} (h : HR G φ s H) (r : RepL φ s H ds vs) (e : min3D s ds = some (.ok d, s')) (p : Post G φ s H s' d Q) : rNuC3 nuMin3 vs H Q := by
  unfold min3D at e
  split at e
  · rename_i i j k
    cases e
    simp only [RepL, Rep] at r
    obtain ⟨v, w, rfl, rfl, v2, w2, rfl, rfl, v3, w3, rfl, rfl, rfl⟩ := r
    refine ⟨_, _, _, .int (min (min i j) k), rfl, ?_, p.here h (by simp only [Rep])⟩
    have hm : ∀ a b : Int, nuMin2 (.int a) (.int b) = some (.int (min a b)) := fun a b => by
      have e1 : nuMin2 (.int a) (.int b) = some (if decide (b < a) = true then V.int b else V.int a) := rfl
      rw [e1]
      by_cases hb : b < a
      · rw [if_pos (decide_eq_true hb), Int.min_eq_right (by omega)]
      · rw [if_neg (by simpa using hb), Int.min_eq_left (by omega)]
    show (nuMin2 (.int i) (.int j)).bind (fun m => nuMin2 m (.int k)) = _
    rw [hm]
    exact hm _ _
  · cases e
/-- str of a whole number alone -/
def strD0 (s : S) : List D → R D
  | [.int i] => if i.natAbs < 2 ^ 1900 then some (.ok (.str (PySem.PyData.int i).shown.cps.toList), s) else none
  | _ => none
theorem str_ok {ds : List D} {vs : List V} (h : HR G φ s H) (r : RepL φ s H ds vs) (e : strD0 s ds = some (.ok d, s')) (p : Post G φ s H s' d Q) : ∃ i, vs = [.int i] ∧ i.natAbs.log2 < 1920 ∧ Q (.str (toString i)) H := by
  unfold strD0 at e
  split at e
  · rename_i i
    split at e
    · rename_i hz
      cases e
      simp only [RepL, Rep] at r
      obtain ⟨v, w, rfl, rfl, rfl⟩ := r
      refine ⟨i, rfl, ?_, p.here h ?_⟩
      · by_cases h0 : i.natAbs = 0
        · rw [h0]
          decide
        · exact Nat.lt_of_lt_of_le ((Nat.log2_lt h0).mpr hz) (by decide)
      · simp only [Rep, PyData.shown]
        try rw [Array.toArray_toList]
    · cases e
  · cases e
end
section
variable {G : Glob} {cf : CF} {X : Cx} {tg e a b : Expr} {ca cb : E} {pos : Pos}
theorem c_rps (ha : PE X a (rE G cf ca)) (hb : PE X b (rE G cf cb)) : PE X (.BinOp a .Mult b pos) (rE G cf (.rps ca cb)) := by
  refine PE.imp (pe_op op_repS ha hb) fun σ H Q h => ?_
  obtain ⟨φ, s, r, A, d, s', he, p⟩ := h
  simp only [ev] at he
  obtain ⟨x, s1, e1, he⟩ := bnd_inv he
  obtain ⟨y, s2, e2, he⟩ := bnd_inv he
  refine rd_step A e1 fun φ1 H1 v g1 A1 rv => ?_
  refine rd_step A1 e2 fun φ2 H2 w g2 A2 rw' => ?_
  split at he
  · rename_i z k _
    split at he
    · rename_i hz
      cases he
      simp only [Rep] at rv rw'
      subst rv rw'
      refine ⟨_, k, rfl, rfl, hz.1, hz.2.1, ?_, Post.here A2.hr (Post.from (g1.trans g2) p) ?_⟩
      · show z.toArray.size ≤ 1000
        simpa using hz.2.2
      · simp only [Rep]
    · cases he
  · cases he
theorem c_dsi {pos : Pos} {a b : Expr} {ca cb : E} (ha : PE X a (rE G cf ca)) (hb : PE X b (rE G cf cb)) : PE X (.Dict [some a] [b] pos) (rE G cf (.dsi ca cb)) := by
  refine PE.imp (pe_disp (pps_cons ha hb pps_nil) rfl rfl (by simp) (by simp)) fun σ H Q q => ?_
  obtain ⟨φ, s, r, A, d, s', hev, p⟩ := q
  simp only [ev] at hev
  obtain ⟨x, s1, e1, hev⟩ := bnd_inv hev
  obtain ⟨y, s2, e2, hev⟩ := bnd_inv hev
  cases x with
  | int z =>
    cases hev
    intro a ha
    refine rd_step (φ := pvt φ a) (s := s) ⟨A.hr.pvt ha, A.sr.mono (Gr.pvt A.hr ha)⟩ e1 fun φ1 H1 v g1 A1 rv => ?_
    refine rd_step A1 e2 fun φ2 H2 u g2 A2 ru => ?_
    simp only [Rep] at rv
    subst rv
    obtain ⟨k1, k2⟩ := (g1.trans g2).pk a _ upd_same (.inr rfl)
    refine ⟨k1, [(kyOf (.i z), u)], rfl, by simp, ?_⟩
    have g0 : Gr φ s H φ2 s2 H2 := (Gr.pvt A.hr ha).trans (g1.trans g2)
    refine unpvD (A2.hr.pw k2) k2 ha (Gr.pw k2 ha g0) upd_same (kvs := [(.i z, y)]) ?_ p
    refine ⟨_, _, rfl, ?_, rfl⟩
    have hh : ∀ {o : HO}, Rep φ2 s2 (upd H2 a o) y u := fun {o} => by
      have rr := RepL.pw (o := o) k2 [y] (RepL.one ru)
      simp only [RepL] at rr
      obtain ⟨v', w', e', r1, rfl⟩ := rr
      cases e'
      exact r1
    exact hh
  | _ => cases hev
theorem putT_none {t : Addr} : ∀ (as : List Addr) (kvs : List (Key × V)) (H : Hp), t ∉ as → H t = none → LiI.putT H as kvs t = none := fun as kvs H h1 h2 => by rw [LiI.putT_off as kvs H h1, h2]
theorem lay_put {φ : Mp} {s : S} : ∀ (ts : List Addr) (xs : List D) (vs : List V) (i : Nat) (H : Hp), HR G φ s H → RepL φ s H xs vs → (∀ t ∈ ts, H t = none) → ts.Nodup → ts.length = vs.length →
    Gr φ s H φ s (LiI.putT H ts (kvE i vs)) ∧ HR G φ s (LiI.putT H ts (kvE i vs)) ∧ RepL φ s (LiI.putT H ts (kvE i vs)) (enumL i xs) (ts.map V.ref)
  | [], xs, vs, i, H, h, r, _, _, hl => by
    have hv : vs = [] := List.length_eq_zero_iff.mp hl.symm
    subst hv
    have hx : xs = [] := List.length_eq_zero_iff.mp (by have := r.length; simpa using this.symm)
    subst hx
    exact ⟨Gr.refl _ _ _, h, RepL.nil⟩
  | t :: ts, xs, vs, i, H, h, r, hf, hn, hl => by
    cases vs with
    | nil => cases hl
    | cons v vs =>
      cases xs with
      | nil =>
        simp only [RepL] at r
        cases r
      | cons x xs =>
        have hn' := List.nodup_cons.mp hn
        simp only [RepL] at r
        obtain ⟨v', w', e', r1, r2⟩ := r
        cases e'
        have ht : H t = none := hf t List.mem_cons_self
        have g : Gr φ s H φ s (upd H t (.tup [.int (i : Nat), v])) := Gr.free h ht
        have h' := h.free (o := .tup [.int (i : Nat), v]) ht
        obtain ⟨k1, k2, k3⟩ := lay_put ts xs vs (i + 1) _ h' (RepL.mono g xs r2) (fun u hu => by
          have hne : u ≠ t := fun z => hn'.1 (by rw [← z]; exact hu)
          rw [upd_ne hne]; exact hf u (List.mem_cons_of_mem _ hu)) hn'.2 (Nat.succ.inj hl)
        refine ⟨g.trans k1, k2, ?_⟩
        have rx : Rep φ s (upd H t (.tup [.int (i : Nat), v])) (.tup [.int (i : Nat), x]) (.ref t) := by
          simp only [Rep, RepL]
          exact ⟨t, _, rfl, upd_same, h.fresh ht, _, _, rfl, rfl, _, _, rfl, Rep.mono g x r1, rfl⟩
        show RepL φ s _ (.tup [.int (i : Nat), x] :: enumL (i + 1) xs) (.ref t :: ts.map V.ref)
        simp only [RepL]
        exact ⟨_, _, rfl, Rep.mono k1 _ rx, k3⟩
theorem c_lenm {bx : Bool} {p p2 pos2 : Pos} (hK : X.K = G.K) (hc : X.calm = true) (hgl : Gl X "list") (hml : X.mg "list" = none) (hge : Gl X "enumerate") (hme : X.mg "enumerate" = none) (ha : PE X a (rE G cf ca)) (na : starEach [a] X.env = (false, eval a X.env) :: starEach [] X.env) :
    PE X (.Call (.Name "list" p) [.Call (.Name "enumerate" p2) [a] [] pos2] [] pos) (rE G cf (.lenm bx ca)) := by
  refine PE.imp (pe_lenm hc ha hgl hml hge hme na) fun σ H Q h => ?_
  obtain ⟨φ, s, r, A, d, s', he, p⟩ := h
  simp only [ev] at he
  obtain ⟨x, s1, e1, he⟩ := bnd_inv he
  refine rd_step A e1 fun φ1 H1 v g1 A1 rv => ?_
  split at he
  · rename_i xs hx
    obtain ⟨q, vs, rfl, h1, l⟩ := rv.lcont A1.hr hx
    rw [A1.hr.k.trans hK.symm] at h1
    refine ⟨q, vs, rfl, h1, fun ts hf hn hl => ?_⟩
    obtain ⟨k1, k2, k3⟩ := lay_put ts xs vs 0 H1 A1.hr l hf hn hl
    exact Post.lst k2 he (Post.from (g1.trans k1) p) k3
  · cases he
theorem i_ens {p tpos : Pos} {elts : List Expr} {kk : Nat} (hg : Gl X "enumerate") (hm : X.mg "enumerate" = none) (ha : PE X a (rE G cf ca)) (na : starEach [a] X.env = (false, eval a X.env) :: starEach [] X.env) :
    PI X (.Tuple elts kk tpos) (.Call (.Name "enumerate" p) [a] [] pos) (rI G cf (.ens ca)) := by
  refine PI.imp (pi_ens hg hm ha na) fun σ H R h => ?_
  obtain ⟨φ, s, r, A, iv, s', he, p⟩ := h
  simp only [evI] at he
  obtain ⟨x, s1, e1, he⟩ := bnd_inv he
  refine rd_step A e1 fun φ1 H1 v g1 A1 rv => ?_
  split at he
  · rename_i z
    cases he
    simp only [Rep] at rv
    refine ⟨_, rv, p φ1 H1 _ g1 A1.hr ?_⟩
    intro φ2 s2 H2 g h n i hn
    cases (show some z.length = some n from hn)
    have hsz : z.toArray.size = z.length := by simp
    refine ⟨fun hi y he => ⟨by show i < z.toArray.size; omega, fun w H' q => ?_⟩, fun hi => ?_⟩
    · obtain ⟨T, c, rfl, hT, rfl, hc⟩ := q
      have he' : (z[i]?).map (fun c => D.tup [.int i, .str [c]]) = some y := he
      have hc' : z[i]? = some c := by simpa using hc
      rw [hc'] at he'
      cases he'
      have g' : Gr φ2 s2 H2 φ2 s2 (upd H2 T (.tup [.int (i : Nat), .str ⟨#[c]⟩])) := Gr.free h hT
      refine ⟨g', h.free hT, ?_⟩
      simp only [Rep, RepL]
      exact ⟨T, _, rfl, upd_same, h.fresh hT, _, _, rfl, rfl, _, _, rfl, rfl, rfl⟩
    · show z.toArray.size ≤ i
      omega
  · cases he
theorem RepL.pairsR (hkk : φ.K = K) : ∀ {ds : List D} {vs : List V} {kvs : List (DK × D)}, RepL φ s H ds vs → pairsD ds = some kvs →
    ∃ (ps : List Addr) (ks : List (Key × V)), vs = ps.map V.ref ∧ Paired (fun p kv => SqT K H p [kV kv.1, kv.2]) ps ks ∧ KR φ s H kvs ks
  | [], vs, kvs, r, e => by
    simp only [RepL] at r
    subst r
    cases e
    exact ⟨[], [], rfl, .nil, rfl⟩
  | .tup [a, v] :: ds, vs, kvs, r, e => by
    have e' : ((keyOf a).bind fun k => (pairsD ds).map fun q => (k, v) :: q) = some kvs := e
    obtain ⟨k, hk, e2⟩ := Option.bind_eq_some_iff.mp e'
    obtain ⟨q, hq, rfl⟩ := Option.map_eq_some_iff.mp e2
    simp only [RepL] at r
    obtain ⟨w, ws, rfl, rw1, r2⟩ := r
    simp only [Rep, RepL] at rw1
    obtain ⟨t, us, rfl, ht, -, x, u1, rfl, rx, y, u2, rfl, ry, rfl⟩ := rw1
    obtain ⟨ps, ks, rfl, hp, hr⟩ := r2.pairsR hkk hq
    have hx := key_ok rx hk
    subst hx
    exact ⟨t :: ps, (kyOf k, y) :: ks, rfl, .cons (.inl (.inl ht)) hp, ⟨y, ks, rfl, ry, hr⟩⟩
  | .non :: ds, vs, ns, r, e => by cases e
  | .bl _ :: ds, vs, ns, r, e => by cases e
  | .int _ :: ds, vs, ns, r, e => by cases e
  | .str _ :: ds, vs, ns, r, e => by cases e
  | .lst _ :: ds, vs, ns, r, e => by cases e
  | .ref _ :: ds, vs, ns, r, e => by cases e
  | .scr _ :: ds, vs, ns, r, e => by cases e
  | .tup [] :: ds, vs, ns, r, e => by cases e
  | .tup [_] :: ds, vs, ns, r, e => by simp [pairsD] at e
  | .tup (_ :: _ :: _ :: _) :: ds, vs, ns, r, e => by simp [pairsD] at e
theorem KRg.fold : ∀ {kvs : List (DK × D)} {ks : List (Key × V)} {acc : List (DK × D)} {ac : List (Key × V)}, KR φ s H kvs ks → KR φ s H acc ac → KR φ s H (kvs.foldl (fun acc kv => dput acc kv.1 kv.2) acc) (mergeK ac ks)
  | [], ks, acc, ac, h, h0 => by
    have h' : ks = [] := h
    subst h'
    exact h0
  | (k, d) :: kvs, ks, acc, ac, h, h0 => by
    obtain ⟨v, r, rfl, h1, h2⟩ := h
    exact KRg.fold (kvs := kvs) (ks := r) h2 (KRg.put ky_inj h1 h0)
def rDict (K : PySem.W.Frag) : List V → Hp → VK → Prop := fun xs H Q => ∃ (a : Addr) (ps : List Addr) (kvs : List (Key × V)), xs = [.ref a] ∧ SqL K H a (ps.map V.ref) ∧ Paired (fun p kv => SqT K H p [kV kv.1, kv.2]) ps kvs ∧
    ∀ p, H p = none → Q (.ref p) (upd H p (.dK (mergeK [] kvs)))
theorem dict_ok {ds : List D} {vs : List V} (hkk : φ.K = K) (h : HR G φ s H) (r : RepL φ s H ds vs) (e : dictD s ds = some (.ok d, s')) (p : Post G φ s H s' d Q) : rDict K vs H Q := by
  unfold dictD at e
  split at e
  · split at e
    · rename_i kvs hk
      cases e
      obtain ⟨xs, h1, h2⟩ := Option.bind_eq_some_iff.mp hk
      simp only [RepL] at r
      obtain ⟨v, w, rfl, r1, rfl⟩ := r
      obtain ⟨a, ws, rfl, hs, hr⟩ := r1.lcont h h1
      rw [hkk] at hs
      obtain ⟨ps, ks, rfl, hp, hkr⟩ := hr.pairsR hkk h2
      refine ⟨a, ps, ks, rfl, hs, hp, fun q hq => ?_⟩
      have hf : KR φ s H (kvs.foldl (fun acc kv => dput acc kv.1 kv.2) []) (mergeK [] ks) := KRg.fold hkr (show KR φ s H [] [] from rfl)
      have g : Gr φ s H (Fl.bx φ s.nx q) (s.new (.dic (kvs.foldl (fun acc kv => dput acc kv.1 kv.2) []))) (upd H q (.dK (mergeK [] ks))) := Gr.box h hq
      refine p _ _ _ g (h.box hq ⟨_, upd_same, KRg.mono g hf⟩) ?_
      simp only [Rep]
      exact ⟨q, rfl, by show (if s.nx = s.nx then some q else φ s.nx) = some q; rw [if_pos rfl]⟩
    · cases e
  · cases e
end
end Fl
namespace Fl
open PySem PySem.Calls PyProof.Rows PyProof.V PySem.Spec PySem.W L2
def tkey (e : Int × Value) : Str := match e.2 with | .str k _ => k | _ => Str.empty
def TGd (w : World) (e : Int × Value) : Prop := ∃ k tk, e.2 = Value.str k tk ∧ e.1 = hashStr w k
/-- a set of texts with its table -/
structure TSt (w : World) (h : Heap) (a : Addr) (S : Str → Prop) (n : Nat) : Prop where
  ex : ∃ (o : Obj) (es : Array (Int × Value)) (ep : Nat) (t : SetTable), (h.get? a = some o ∧ o.ExactSet ∧ o.data = .set es ep t) ∧ (∀ e ∈ es.toList, TGd w e) ∧ (es.toList.map tkey).Nodup ∧ (∀ k, S k ↔ k ∈ es.toList.map tkey) ∧
    (es.size < scanBound ∧ t.fits es.size = true ∧ es.size = n) ∧ Ris t.place.toList ∧ (w.params.followText "set-order" = true ∨ t.led = true)
section
variable {P : Program} {w : World} {h h' : Heap} {a : Addr} {S S' : Str → Prop} {n : Nat}
theorem TSt.keep (R : TSt w h a S n) (k : ∀ o, h.get? a = some o → h'.get? a = some o) : TSt w h' a S n := by
  obtain ⟨o, es, ep, t, ⟨ho, q⟩, r⟩ := R.ex
  exact ⟨o, es, ep, t, ⟨k o ho, q⟩, r⟩
theorem TSt.iff (R : TSt w h a S n) (e : ∀ k, S' k ↔ S k) : TSt w h a S' n := by
  obtain ⟨o, es, ep, t, r1, r2, r3, r4, r5⟩ := R.ex
  exact ⟨o, es, ep, t, r1, r2, r3, fun k => (e k).trans (r4 k), r5⟩
theorem tgd_els {l : List (Int × Value)} (g : ∀ e ∈ l, TGd w e) : ElemsOf (PySem.strKind P w) l := fun e he => by
  obtain ⟨k, tk, h1, h2⟩ := g e he
  exact ⟨⟨k, by rw [h1]; exact strKind_is P w k tk, h2⟩, by rw [h1]; rfl⟩
theorem tgd_is {e : Int × Value} (g : TGd w e) (k : Str) : (PySem.strKind P w).is k e.2 = true ↔ tkey e = k := by
  obtain ⟨k0, tk, h1, _⟩ := g
  unfold tkey
  rw [h1]
  constructor
  · intro z
    have z2 : Value.isStrOf k (.str k0 tk) = true := z
    obtain ⟨t, q⟩ := Value.isStrOf_shape z2
    cases q
    rfl
  · intro z
    dsimp only at z
    rw [z]
    exact strKind_is P w k tk
theorem tgd_mem {l : List (Int × Value)} (g : ∀ e ∈ l, TGd w e) (k : Str) : k ∈ l.map tkey ↔ ∃ e ∈ l, (PySem.strKind P w).is k e.2 = true := by
  rw [List.mem_map]
  exact ⟨fun ⟨e, he, q⟩ => ⟨e, he, (tgd_is (g e he) k).2 q⟩, fun ⟨e, he, q⟩ => ⟨e, he, (tgd_is (g e he) k).1 q⟩⟩
end
section
variable {P : Program} {w : World} {A : Around} {E : Value → Shared → Prop} {s : Shared} {a : Addr} {S : Str → Prop} {n : Nat}
theorem tst_tail {g : Bool → Sem Unit} (hg : ∀ (b : Bool) (u : Shared) (Z : Unit → Shared → Prop), Z () u → wpAny (model P w) A (g b) Z E u)
    {o : Obj} {es : Array (Int × Value)} {ep : Nat} {t : SetTable} (ho : s.heap.get? a = some o) (hx : o.ExactSet) (hd : o.data = .set es ep t)
    {es1 : Array (Int × Value)} {t2 : SetTable} {S' : Str → Prop} (c1 : ∀ e ∈ es1.toList, TGd w e) (c2 : (es1.toList.map tkey).Nodup) (c3 : ∀ k, S' k ↔ k ∈ es1.toList.map tkey)
    (c4 : es1.size < scanBound) (c5 : t2.fits es1.size = true) (c6 : Ris t2.place.toList) (c7 : w.params.followText "set-order" = true ∨ t2.led = true) {du : Bool} {R : Option Bool → Shared → Prop}
    (hR : ∀ hp, Heap.SameBut a s.heap hp → TSt w hp a S' es1.size → R (some true) { s with heap := hp }) :
    wpAny (model P w) A (do
        storeSet a es1 t2
        if (!du && t2.tooFull) = true then do
            g (relayAll t2 es1 (SetTable.grown es1.size)).2.2
            storeSet a (relayAll t2 es1 (SetTable.grown es1.size)).1 (relayAll t2 es1 (SetTable.grown es1.size)).2.1
            pure (some true)
          else pure (some true)) R E s := by
  refine wpAny_bind (wpAny_storeSet_of ho hd ?_ (fits_of_scanBound c4))
  have ho1 := store_at (es' := es1) (t' := t2) ho hd
  have sb := Heap.SameBut.update s.heap a (Obj.putSet es1 t2)
  split
  · have z1 := relayAll_perm t2 es1 (SetTable.grown es1.size)
    have z2 := relayAll_fits t2 es1 (SetTable.grown es1.size)
    have z3 := relayAll_ris t2 es1 (SetTable.grown es1.size)
    have z4 := relayAll_led t2 es1 (SetTable.grown es1.size)
    generalize relayAll t2 es1 (SetTable.grown es1.size) = Z at z1 z2 z3 z4 ⊢
    obtain ⟨es2, t3, gv⟩ := Z
    dsimp only at z1 z2 z3 z4 ⊢
    have hz : es2.size = es1.size := by rw [← Array.length_toList, z1.length_eq, Array.length_toList]
    have hz2 : es2.size < scanBound := by rw [hz]; exact c4
    refine wpAny_bind (hg _ _ _ ?_)
    refine wpAny_bind (wpAny_storeSet_of ho1 rfl ?_ (fits_of_scanBound hz2))
    have ho2 := store_at (es' := es2) (t' := t3) ho1 rfl
    exact wpAny_pure (hR _ (sb.trans (Heap.SameBut.update _ a _)) ⟨_, es2, _, t3, ⟨ho2, hx, rfl⟩, fun e he => c1 e (z1.mem_iff.mp he), (z1.map tkey).nodup_iff.mpr c2, fun k => (c3 k).trans (z1.map tkey).mem_iff.symm, ⟨hz2, z2, hz⟩, z3,
      c7.imp id fun q => z4.trans q⟩)
  · exact wpAny_pure (hR _ sb ⟨_, es1, _, t2, ⟨ho1, hx, rfl⟩, c1, c2, c3, ⟨c4, c5, rfl⟩, c6, c7⟩)
theorem tst_add {k : Str} {tk : Tok} {Q : Bool → Shared → Prop} (R : TSt w s.heap a S n) (room : n + 1 < scanBound)
    (hQ : ∀ hp m, Heap.SameBut a s.heap hp → m ≤ n + 1 → TSt w hp a (fun j => S j ∨ j = k) m → ∀ b, Q b { s with heap := hp }) :
    wpAny (model P w) A (setAddHashed a (.str k tk) ((PySem.strKind P w).hash k)) Q E s := by
  obtain ⟨o, es, ep, t, ⟨ho, hx, hd⟩, g, nd, hm, ⟨hb, hf, hn⟩, hr, hl⟩ := R.ex
  have hkey : (PySem.strKind P w).is k (.str k tk) = true := strKind_is P w k tk
  have hsc : (Value.str k tk).scannable = true := rfl
  have hel : ElemsOf (PySem.strKind P w) es.toList := tgd_els g
  unfold setAddHashed setAddHashedIn
  refine wpAny_holding (wpAny_bind (wpAny_setState_of ho hd hf ?_))
  dsimp only
  rw [byScan_of hsc hb hel]
  simp only [↓reduceIte]
  unfold setAddByScan
  refine wpAny_bind (wpAny_bind (wpAny_rule (wpAny_bind (wpAny_setScan_of hkey ho hd hf hel ?_))))
  cases hfi : List.findIdx? (fun e => (PySem.strKind P w).is k e.2) es.toList with
  | some j =>
    dsimp only
    obtain ⟨hj, pj, _⟩ := List.findIdx?_eq_some_iff_getElem.mp hfi
    have hSk : S k := (hm k).2 ((tgd_mem (P := P) (w := w) g k).2 ⟨es.toList[j], List.getElem_mem hj, pj⟩)
    refine wpAny_pure (wpAny_pure ?_)
    exact hQ s.heap n (Heap.SameBut.refl a s.heap) (Nat.le_succ _) ⟨o, es, ep, t, ⟨ho, hx, hd⟩, g, nd, fun i => ⟨fun z => (hm i).1 (z.elim id fun e => e ▸ hSk), fun z => .inl ((hm i).2 z)⟩, ⟨hb, hf, hn⟩, hr, hl⟩ _
  | none =>
    dsimp only
    have hnk : k ∉ es.toList.map tkey := fun z => by
      obtain ⟨e, he, q⟩ := (tgd_mem (P := P) (w := w) g k).1 z
      have c := List.findIdx?_eq_none_iff.mp hfi e he
      rw [q] at c
      cases c
    have hgw : ∀ (b : Bool) {u : Shared} {Z : Unit → Shared → Prop}, Z () u → wpAny (model P w) A (match b with | true => rule "set.scan.the-table-gave-way" | false => pure ()) Z E u :=
      fun b u Z q => by cases b <;> first | exact wpAny_pure q | exact wpAny_rule q
    have z1 := layNew_perm t es ((PySem.strKind P w).hash k) (.str k tk)
    have z2 := layNew_fits t es ((PySem.strKind P w).hash k) (.str k tk)
    have z3 := layNew_ris t es ((PySem.strKind P w).hash k) (.str k tk) hr
    have z4 := layNew_led t es ((PySem.strKind P w).hash k) (.str k tk)
    generalize layNew t es ((PySem.strKind P w).hash k) (.str k tk) = Z at z1 z2 z3 z4 ⊢
    obtain ⟨es1, t1, du, gv⟩ := Z
    dsimp only at z1 z2 z3 z4 ⊢
    rw [Array.toList_push] at z1
    have pc : es1.toList.Perm (((PySem.strKind P w).hash k, Value.str k tk) :: es.toList) := z1.trans (List.perm_append_singleton _ _)
    have pk : (es1.toList.map tkey).Perm (k :: es.toList.map tkey) := pc.map tkey
    have c1 : ∀ e ∈ es1.toList, TGd w e := fun e he => by
      rcases List.mem_cons.mp (pc.mem_iff.mp he) with z | z
      · rw [z]; exact ⟨k, tk, rfl, rfl⟩
      · exact g e z
    have c2 : (es1.toList.map tkey).Nodup := pk.nodup_iff.mpr (List.nodup_cons.mpr ⟨hnk, nd⟩)
    have c3 : ∀ i, (S i ∨ i = k) ↔ i ∈ es1.toList.map tkey := fun i => by
      rw [hm i, pk.mem_iff, List.mem_cons]
      exact Or.comm
    have hz : es1.size = n + 1 := by rw [← Array.length_toList, pc.length_eq, List.length_cons, Array.length_toList, hn]
    have c4 : es1.size < scanBound := by rw [hz]; exact room
    have c7 : w.params.followText "set-order" = true ∨ t1.led = true := hl.imp id fun q => z4.trans q
    have fin : ∀ hp, Heap.SameBut a s.heap hp → TSt w hp a (fun j => S j ∨ j = k) es1.size → Q true { s with heap := hp } := fun hp sb r => hQ hp es1.size sb (by omega) r true
    refine wpAny_bind (hgw _ ?_)
    split
    · refine wpAny_bind ?_
      rw [hashByValue_scannable 8 hsc]
      refine wpAny_pure ?_
      refine tst_tail ?_ ho hx hd c1 c2 c3 c4 ?_ ?_ ?_ ?_
      · intro b u Z q; cases b <;> first | exact wpAny_pure q | exact wpAny_rule q
      · first | (split <;> first | exact z2 | exact SetTable.fits_plain_off z2) | exact z2
      · first | (split <;> exact z3) | exact z3
      · first | (split <;> exact c7) | exact c7
      · intro hp sb r; dsimp only; exact wpAny_pure (fin hp sb r)
    · refine wpAny_bind (wpAny_pure ?_)
      simp only [↓reduceIte]
      refine tst_tail ?_ ho hx hd c1 c2 c3 c4 z2 z3 c7 ?_
      · intro b u Z q; cases b <;> first | exact wpAny_pure q | exact wpAny_rule q
      · intro hp sb r; dsimp only; exact wpAny_pure (fin hp sb r)
theorem tst_new {h : Heap} (ho : h.get? a = some { cls := .type "set", dict := none, data := .set #[] 0 (.fresh 0 0 (!w.params.followText "set-order")) }) : TSt w h a (fun _ => False) 0 :=
  ⟨_, #[], 0, _, ⟨ho, ⟨rfl, rfl, rfl⟩, rfl⟩, (fun e he => by simp at he), (by simp), (fun k => by simp), ⟨by decide, by rfl, rfl⟩, List.Pairwise.nil, by
    show _ ∨ (!w.params.followText "set-order") = true
    cases w.params.followText "set-order"
    · exact .inr rfl
    · exact .inl rfl⟩
theorem tst_loop {x : Str} {I : Addr} {fp wr : List Addr} {G : Array GenState → Array GenState → Prop} {St : Nat → Shared → Prop} {R : Result → Shared → Prop}
    {Pv : Nat → Value → Prop} (W : WalksS P w A.in1 I fp wr G x.cps.size Pv St) (hP : ∀ i v, Pv i v → SignAt x i v) (T : Addr) (hT : T ∉ fp) (hb : x.cps.size + 1 < scanBound) :
    ∀ (k i : Nat) (s : Shared), x.cps.size - i = k → i ≤ x.cps.size → St i s → (∃ c, c ≤ i ∧ TSt w s.heap T (fun j => ∃ m, m < i ∧ ∃ c, x.cps[m]? = some c ∧ j = ⟨#[c]⟩) c) →
      (∀ u c, Moved (T :: wr) G s u → c ≤ x.cps.size → TSt w u.heap T (fun j => ∃ m, m < x.cps.size ∧ ∃ c, x.cps[m]? = some c ∧ j = ⟨#[c]⟩) c → R (.ok (.ret .none)) u) →
      codeAny (model P w) A (.builtin "set.update.loop" ⟨[.ref T, .ref I], []⟩) R s := by
  have hTw : T ∉ wr := fun h => hT (W.sub _ h)
  have hsub : ∀ b ∈ wr, b ∈ T :: wr := fun b hb => List.mem_cons_of_mem _ hb
  intro k
  induction k with
  | zero =>
    intro i s hk hi hst ⟨c, hc, hS⟩ hR
    have hin : i = x.cps.size := by omega
    subst hin
    refine codeAny_builtin PyProof.Rows.F.entry_set_update_loop ?_
    rw [Around.under_plainId PyProof.Rows.F.plain_set_update_loop _]
    show wpAny _ A.in1 (pyNext (.ref I) >>= _) _ _ s
    refine wpAny_bind (W.done s _ _ hst fun u hm => ?_)
    show wpAny _ A.in1 (ret Value.none) _ _ u
    exact wpAny_pure (hR u c (hm.mono hsub) hc (hS.keep fun o e => hm.heap T o hTw e))
  | succ k ih =>
    intro i s hk hi hst ⟨c, hc, hS⟩ hR
    have hlt : i < x.cps.size := by omega
    refine codeAny_builtin PyProof.Rows.F.entry_set_update_loop ?_
    rw [Around.under_plainId PyProof.Rows.F.plain_set_update_loop _]
    show wpAny _ A.in1 (pyNext (.ref I) >>= _) _ _ s
    refine wpAny_bind (W.item i s _ _ hlt hst fun v u hv hst' hm => ?_)
    obtain ⟨z, tz, hz, rfl⟩ := hP i v hv
    have hS' := hS.keep (h' := u.heap) fun o e => hm.heap T o hTw e
    show wpAny _ A.in1 (holding [Value.str ⟨#[z]⟩ tz] (setAdd T (.str ⟨#[z]⟩ tz)) >>= _) _ _ u
    refine wpAny_bind (wpAny_holding ?_)
    unfold setAdd
    refine wpAny_holding ?_
    refine wpAny_bind ((PySem.strKind P w).pyHash (k := ⟨#[z]⟩) (strKind_is _ _ _ _) ?_)
    refine tst_add (s := { u with toks := u.toks + 1 }) hS' (by omega) fun hp m hsb hm2 hS2 b => ?_
    have hS3 : TSt w hp T (fun j => ∃ m, m < i + 1 ∧ ∃ c, x.cps[m]? = some c ∧ j = ⟨#[c]⟩) m := hS2.iff fun j => by
      constructor
      · rintro ⟨m, h1, c, h2, h3⟩
        by_cases e : m = i
        · subst e
          rw [hz] at h2
          cases h2
          exact .inr h3
        · exact .inl ⟨m, by omega, c, h2, h3⟩
      · rintro (⟨m, h1, c, h2, h3⟩ | h3)
        · exact ⟨m, by omega, c, h2, h3⟩
        · exact ⟨i, by omega, z, hz, h3⟩
    refine wpAny_pure ⟨plainId_quiet PyProof.Rows.F.plain_set_update_loop _, ih (i + 1) _ (by omega) hlt (W.frame _ u _ _ hst' (Nat.le_succ _) fun b hb o e => ?_) ⟨_, by omega, hS3⟩ fun v c2 hmv hcv hSv => ?_⟩
    · rw [hsb.2 b (fun h : b = T => hT (by rw [← h]; exact hb))]; exact e
    · refine hR v c2 (Moved.trans W.gtrans ((hm.mono hsub).then_heap (Nat.le_succ _) fun b o hb e => ?_) hmv) hcv hSv
      rw [hsb.2 b (fun h : b = T => hb (by rw [h]; exact List.mem_cons_self))]; exact e
end
section
variable {P : Program} {w : World} {A : Around} {E : Value → Shared → Prop} {s : Shared}
theorem tst_call {x : Str} {tx : Tok} {Q : Value → Shared → Prop} (hh : A.handled = none) (hb : x.cps.size + 1 < scanBound)
    (h : ∀ (hp : Heap) (tk c : Nat), TSt w hp s.heap.objs.size (fun j => ∃ m, m < x.cps.size ∧ ∃ c, x.cps[m]? = some c ∧ j = ⟨#[c]⟩) c → c ≤ x.cps.size → (∀ b o, s.heap.get? b = some o → hp.get? b = some o) → Q (.ref s.heap.objs.size) { s with heap := hp, toks := tk }) :
    wpAny (model P w) A (call (.type "set") [.str x tx]) Q E s := by
  obtain ⟨c, tl, hmro⟩ := PySem.F.called_set.mro
  have hmade := PySem.F.called_set.made
  have hsub := PySem.F.called_set.sub
  refine wpAny_call (codeAny_of_tree ?_)
  show wpAny _ _ (callAny (.type "set") _) _ _ _
  refine wpAny_pure ⟨Code.quiet_builtin _ (by decide +kernel), codeAny_builtin PySem.F.entry_type_call ?_⟩
  rw [Around.under_plain (weight_type_call_type "set" [.str x tx] []) rfl]
  have h1 := PySem.F.called_set.notType
  have h2 := PySem.F.called_set.canCreate
  have hct := PySem.F.typeCall_set_1 (.str x tx)
  repeat (any_goals (first | assumption | wp_step))
  refine codeAny_mono (code_set_led1 (.str x tx) (E := E) (Q₁ := fun obj u => obj = .ref s.heap.objs.size ∧ u = { s with heap := s.heap.push ({ cls := .type "set", dict := none, data := .set #[] 0 (.fresh 0 0 (!w.params.followText "set-order")) } : Obj) }) ⟨rfl, rfl⟩) fun r u hr => ?_
  cases r with
  | error e => exact hr
  | ok fl =>
    cases fl with
    | ret obj =>
      obtain ⟨rfl, rfl⟩ := hr
      have hS : (s.heap.push ({ cls := .type "set", dict := none, data := .set #[] 0 (.fresh 0 0 (!w.params.followText "set-order")) } : Obj)).get? s.heap.objs.size = some ({ cls := .type "set", dict := none, data := .set #[] 0 (.fresh 0 0 (!w.params.followText "set-order")) } : Obj) := Heap.get?_push_size _ rfl
      have hT : Shared.TypeIs { s with heap := s.heap.push ({ cls := .type "set", dict := none, data := .set #[] 0 (.fresh 0 0 (!w.params.followText "set-order")) } : Obj) } (.ref s.heap.objs.size) "set" := ⟨_, hS, rfl⟩
      have hli := PySem.F.called_set.init.lookup
      have hbi := PySem.F.called_set.init.bind (.ref s.heap.objs.size)
      repeat (any_goals (first | assumption | wp_step))
      refine codeAny_mono (codeAny_call_builtin (R := wants (fun r v => r = .none ∧ ∃ hp tk c, v = { s with heap := hp, toks := tk } ∧ TSt w hp s.heap.objs.size (fun j => ∃ m, m < x.cps.size ∧ ∃ c, x.cps[m]? = some c ∧ j = ⟨#[c]⟩) c ∧ c ≤ x.cps.size ∧
          (∀ b o, s.heap.get? b = some o → hp.get? b = some o)) E) PySem.F.called_set.init.plain PySem.F.entry_set_init (check_set_init_1 hT ?_)) fun r₂ v hr₂ => ?_
      · have hsls := PySem.F.sub_str_set
        have hslf := PySem.F.sub_str_frozenset
        have hne : (Value.type "str" == Value.type "dict") = false := by decide
        unfold Builtin.«set.__init__» noKeywords Builtin.Frozenset.updateFrom
        generalize hPI : pyIter = PI
        wp_walk
        subst hPI
        refine wpAny_pyIter_str fun o St W hst => ?_
        refine wpAny_bind (wpAny_runValue ?_)
        have hh3 : A.in1.in1.in1.handled = none := by simp [hh]
        have hz1 : (s.heap.push ({ cls := .type "set", dict := none, data := .set #[] 0 (.fresh 0 0 (!w.params.followText "set-order")) } : Obj)).objs.size = s.heap.objs.size + 1 := Heap.size_push ..
        have hSf : s.heap.objs.size ∉ [(s.heap.push ({ cls := .type "set", dict := none, data := .set #[] 0 (.fresh 0 0 (!w.params.followText "set-order")) } : Obj)).objs.size] := by
          rw [Heap.size_push]; simp
        have hget : ((s.heap.push ({ cls := .type "set", dict := none, data := .set #[] 0 (.fresh 0 0 (!w.params.followText "set-order")) } : Obj)).push o).get? s.heap.objs.size = some ({ cls := .type "set", dict := none, data := .set #[] 0 (.fresh 0 0 (!w.params.followText "set-order")) } : Obj) := Heap.get?_push_of_some _ hS
        refine tst_loop (W _ hh3).toS (fun _ _ h => h) s.heap.objs.size hSf hb (x.cps.size - 0) 0 _ (by omega) (Nat.zero_le _) ?hSt ⟨0, Nat.le_refl 0, ?hS0⟩ ?hR
        case hSt => exact hst
        case hS0 =>
          exact (tst_new hget).iff fun j => ⟨fun ⟨m, h1, _⟩ => absurd h1 (Nat.not_lt_zero m), False.elim⟩
        case hR =>
          intro u c hm hc hSu
          obtain ⟨hp, g2, d2, tk2, os2⟩ := u
          have eg : g2 = s.gens := hm.gens
          have ed : d2 = s.drawn := hm.drawn
          have eo : os2 = s.os := hm.os
          subst eg; subst ed; subst eo
          show wpAny _ _ _ _ _ _
          refine wpAny_pure ?_
          show wpAny _ _ (ret Value.none) _ _ _
          refine wpAny_pure ⟨rfl, hp, tk2, c, rfl, hSu, hc, fun b o e => ?_⟩
          have hb0 : b < s.heap.objs.size := Heap.lt_size e
          have hb1 : b ≠ s.heap.objs.size := Nat.ne_of_lt hb0
          have hb2 : b ≠ s.heap.objs.size + 1 := Nat.ne_of_lt (Nat.lt_succ_of_lt hb0)
          exact hm.heap b o (by simp only [List.mem_cons, List.mem_singleton, List.not_mem_nil, or_false, not_or]; rw [hz1]; exact ⟨hb1, hb2⟩) (Heap.get?_push_of_some _ (Heap.get?_push_of_some _ e))
      · cases r₂ with
        | error e => exact hr₂
        | ok fl₂ =>
          cases fl₂ with
          | ret r =>
            obtain ⟨rfl, hp, tk, c, rfl, hSp, hc, hk⟩ := hr₂
            repeat (any_goals (first | assumption | wp_step))
            exact h _ _ _ hSp hc hk
          | _ => exact hr₂.elim
    | _ => exact hr.elim
/-- texts by their points -/
def strPt (v : Value) : Str := match v with | .str k _ => k | _ => Str.empty
theorem strs_of : ∀ (l : List Value), (∀ v ∈ l, ∃ k tk, v = Value.str k tk) → StrsAre l (l.map strPt)
  | [], _ => .nil
  | v :: l, h => by
    obtain ⟨k, tk, rfl⟩ := h v List.mem_cons_self
    exact .cons k tk (strs_of l fun u hu => h u (List.mem_cons_of_mem _ hu))
/-- an address that is new -/
def NwA (h : Heap) (p : Addr) : Prop := h.get? p = none ∧ ∃ h1 : Heap, (∀ b o, h.get? b = some o → h1.get? b = some o) ∧ h1.objs.size ≤ p
/-- sorted, of what collects to texts -/
theorem sorted_col {v : Value} {ss : List Str} {Q : Value → Shared → Prop} (h64 : ss.length < 64)
    (hcol : ∀ (Z : List Value → Shared → Prop), (∀ u vs, (∀ b o, s.heap.get? b = some o → u.heap.get? b = some o) → u.gens = s.gens → u.os = s.os → (∃ ss', StrsAre vs ss' ∧ ss'.Perm ss) → Z vs u) → wpAny (model P w) A.in1 (collect v) Z E s)
    (hQ : ∀ u p (out : Array Value) (c : Nat) (ns : List Str), (∀ b o, s.heap.get? b = some o → u.heap.get? b = some o) → u.gens = s.gens → u.os = s.os → NwA s.heap p → u.heap.get? p = some (seqObj "list" out c) → StrsAre out.toList ns → ns.Perm ss → sortedS ns = true → Q (.ref p) u) :
    wpAny (model P w) A (call (.builtin "sorted") [v]) Q E s := by
  refine Calls.call_function_entry kind_sorted plain_sorted entry_sorted (args_sorted1 _) ?_
  unfold Builtin.«sorted»
  refine wpAny_bind (m := checkCount "sorted" 1 1 _) (wpAny_pure ?_)
  refine wpAny_bind (hcol _ fun u vs k1 g1 o1 ⟨ss', hI, hp⟩ => ?_)
  have hz : NwA s.heap u.heap.objs.size := by
    refine ⟨?_, u.heap, k1, Nat.le_refl _⟩
    cases e : s.heap.get? u.heap.objs.size with
    | none => rfl
    | some o => exact absurd (Heap.lt_size (k1 _ _ e)) (Nat.lt_irrefl _)
  have hvl : vs.length < 64 := by
    rw [hI.len_eq, hp.length_eq]
    exact h64
  refine wpAny_bind (wpAny_newList ?_ (by rw [sizeLine_eq]; omega))
  have hoL : (u.heap.push (seqObj "list" vs.toArray 0)).get? u.heap.objs.size = some (seqObj "list" vs.toArray 0) := Heap.get?_push_size _ rfl
  refine wpAny_bind (wpAny_holding (wpAny_call_entry slot_list_sort ⟨_, hoL, rfl⟩ entry_list_sort (list_sort_treeK PyProof.Rows.strKind_oneLt hoL hI.keysOf (fun v₁ v₂ rest e => keyKind_strs (by rw [← e]; exact hI)) hvl fun st' a1 a2 => ⟨_, rfl, ?_⟩) (args_list_sort _)))
  obtain ⟨ns, b1, b2, b3⟩ := sorted_out_str hI a1 a2
  obtain ⟨c, hc⟩ := sortedHeap_at (vs := vs) (out := (arrOf st').map (·.2)) hoL
  refine wpAny_pure ⟨_, rfl, hQ _ u.heap.objs.size _ c ns (fun b o e => ?_) g1 o1 hz hc b1 (b2.trans hp) b3⟩
  have q := k1 b o e
  have hlt := Heap.lt_size q
  show (sortedHeap (u.heap.push (seqObj "list" vs.toArray 0)) u.heap.objs.size vs _).get? b = some o
  rw [sortedHeap_old (Nat.ne_of_lt hlt) (by rw [size_push']; exact Nat.lt_succ_of_lt hlt)]
  exact Heap.get?_push_of_some _ q
theorem items_strs {x : Str} {acc : Array Value} (h : ItemsOf (SignAt x) acc x.cps.size) : StrsAre acc.toList (x.cps.toList.map fun c => ⟨#[c]⟩) := by
  obtain ⟨h1, h2⟩ := h
  have go : ∀ (vs : List Value) (cs : List Nat), vs.length = cs.length → (∀ (j : Nat) (v : Value), vs[j]? = some v → ∃ c u, cs[j]? = some c ∧ v = .str ⟨#[c]⟩ u) → StrsAre vs (cs.map fun c => ⟨#[c]⟩) := by
    intro vs
    induction vs with
    | nil =>
      intro cs hl _
      have : cs = [] := List.length_eq_zero_iff.mp hl.symm
      subst this
      exact .nil
    | cons v vs ih =>
      intro cs hl hj
      cases cs with
      | nil => cases hl
      | cons c cs =>
        obtain ⟨c', u, e1, e2⟩ := hj 0 v rfl
        cases e1
        subst e2
        exact .cons _ u (ih cs (Nat.succ.inj hl) fun j w hw => hj (j + 1) w hw)
  refine go _ _ (by rw [Array.length_toList, Array.length_toList]; exact h1) fun j v hv => ?_
  obtain ⟨c, u, e1, e2⟩ := h2 j v (by rw [← Array.getElem?_toList]; exact hv)
  exact ⟨c, u, by rw [Array.getElem?_toList]; exact e1, e2⟩
/-- sorted(x), x a text -/
theorem sorted_txt {x : Str} {tx : Tok} {Q : Value → Shared → Prop} (hh : A.handled = none) (h64 : x.cps.size < 64)
    (hQ : ∀ u p (out : Array Value) (c : Nat) (ns : List Str), (∀ b o, s.heap.get? b = some o → u.heap.get? b = some o) → u.gens = s.gens → u.os = s.os → NwA s.heap p → u.heap.get? p = some (seqObj "list" out c) → StrsAre out.toList ns → ns.Perm (x.cps.toList.map fun c => ⟨#[c]⟩) → sortedS ns = true → Q (.ref p) u) :
    wpAny (model P w) A (call (.builtin "sorted") [.str x tx]) Q E s := by
  refine sorted_col (ss := x.cps.toList.map fun c => ⟨#[c]⟩) (by rw [List.length_map, Array.length_toList]; exact h64) (fun Z hZ => ?_) hQ
  refine wpAny_collect_str (A := A.in1) hh x tx (fun u acc k1 g1 d1 o1 hI => hZ u acc.toList k1 g1 o1 ⟨_, items_strs hI, List.Perm.refl _⟩) (by rw [sizeLine_eq]; omega)
/-- sorted(set), a set of texts -/
theorem sorted_tst {a : Addr} {S : Str → Prop} {n : Nat} {Q : Value → Shared → Prop} (R : TSt w s.heap a S n) (hh : A.handled = none) (h64 : n < 64)
    (hQ : ∀ u p (out : Array Value) (c : Nat) (ns : List Str), (∀ b o, s.heap.get? b = some o → u.heap.get? b = some o) → u.gens = s.gens → u.os = s.os → NwA s.heap p → u.heap.get? p = some (seqObj "list" out c) → StrsAre out.toList ns → ns.Nodup → (∀ k, k ∈ ns ↔ S k) → sortedS ns = true → Q (.ref p) u) :
    wpAny (model P w) A (call (.builtin "sorted") [.ref a]) Q E s := by
  obtain ⟨o, es, ep, t, ⟨ho, hx, hd⟩, g, nd, hm, ⟨hb, hf, hn⟩, hr, hl⟩ := R.ex
  have hlen : (es.toList.map tkey).length = n := by rw [List.length_map, Array.length_toList]; exact hn
  refine sorted_col (ss := es.toList.map tkey) (by rw [hlen]; exact h64) (fun Z hZ => ?_) fun u p out c ns k1 g1 o1 hp hc b1 b2 b3 => hQ u p out c ns k1 g1 o1 hp hc b1 (b2.nodup_iff.mpr nd) (fun k => (b2.mem_iff).trans (hm k).symm) b3
  refine collect_set (A := A.in1) hh ⟨o, ho, hx.1, hd⟩ hf hb hr hl fun u vs k1 hz g1 o1 pm => ?_
  have hI : StrsAre vs (vs.map strPt) := strs_of vs fun v hv => by
    obtain ⟨e, he, q⟩ := List.mem_map.mp (pm.mem_iff.mp hv)
    obtain ⟨k, tk, h1, _⟩ := g e he
    exact ⟨k, tk, by rw [← q]; exact h1⟩
  refine hZ u vs k1 g1 o1 ⟨_, hI, ?_⟩
  have q := pm.map strPt
  rw [List.map_map] at q
  exact q
end
end Fl
namespace Fl
theorem insU_mem (c x : Nat) : ∀ l : List Nat, x ∈ insU c l ↔ x = c ∨ x ∈ l
  | [] => by simp [insU]
  | d :: r => by
    unfold insU
    split
    · simp
    · split
      · rename_i h; subst h; simp
      · simp only [List.mem_cons, insU_mem c x r]
        constructor
        · rintro (h | h | h) <;> simp [h]
        · rintro (h | h | h) <;> simp [h]
theorem insU_up (c : Nat) : ∀ l : List Nat, l.Pairwise (· < ·) → (insU c l).Pairwise (· < ·)
  | [], _ => List.pairwise_singleton _ _
  | d :: r, h => by
    obtain ⟨h1, h2⟩ := List.pairwise_cons.mp h
    unfold insU
    split
    · rename_i hc
      refine List.pairwise_cons.mpr ⟨fun x hx => ?_, h⟩
      rcases List.mem_cons.mp hx with rfl | hx
      · exact hc
      · exact Nat.lt_trans hc (h1 x hx)
    · split
      · exact h
      · rename_i a b
        refine List.pairwise_cons.mpr ⟨fun x hx => ?_, insU_up c r h2⟩
        rcases (insU_mem c x r).mp hx with rfl | hx
        · omega
        · exact h1 x hx
theorem sortU_mem (x : Nat) : ∀ l : List Nat, x ∈ sortU l ↔ x ∈ l
  | [] => by simp [sortU]
  | c :: l => by
    show x ∈ insU c (sortU l) ↔ _
    rw [insU_mem, sortU_mem x l, List.mem_cons]
theorem sortU_up : ∀ l : List Nat, (sortU l).Pairwise (· < ·)
  | [] => List.Pairwise.nil
  | c :: l => insU_up c _ (sortU_up l)
theorem insU_len (c : Nat) : ∀ l : List Nat, (insU c l).length ≤ l.length + 1
  | [] => Nat.le_refl _
  | d :: r => by
    have := insU_len c r
    unfold insU
    split
    · simp
    · split
      · simp
      · simp only [List.length_cons]; omega
theorem sortU_len : ∀ l : List Nat, (sortU l).length ≤ l.length
  | [] => Nat.le_refl _
  | c :: l => by
    have := sortU_len l
    have := insU_len c (sortU l)
    show (insU c (sortU l)).length ≤ _
    rw [List.length_cons]
    omega
theorem up_uniq : ∀ {a b : List Nat}, a.Pairwise (· < ·) → b.Pairwise (· < ·) → (∀ x, x ∈ a ↔ x ∈ b) → a = b
  | [], [], _, _, _ => rfl
  | [], y :: b, _, _, h => absurd ((h y).mpr List.mem_cons_self) (by simp)
  | x :: a, [], _, _, h => absurd ((h x).mp List.mem_cons_self) (by simp)
  | x :: a, y :: b, ha, hb, h => by
    obtain ⟨a1, a2⟩ := List.pairwise_cons.mp ha
    obtain ⟨b1, b2⟩ := List.pairwise_cons.mp hb
    have e : x = y := by
      rcases List.mem_cons.mp ((h x).mp List.mem_cons_self) with z | z
      · exact z
      · rcases List.mem_cons.mp ((h y).mpr List.mem_cons_self) with w | w
        · exact w.symm
        · have := a1 y w; have := b1 x z; omega
    subst e
    congr 1
    refine up_uniq a2 b2 fun z => ⟨fun hz => ?_, fun hz => ?_⟩
    · rcases List.mem_cons.mp ((h z).mp (List.mem_cons_of_mem _ hz)) with w | w
      · have := a1 z hz; omega
      · exact w
    · rcases List.mem_cons.mp ((h z).mpr (List.mem_cons_of_mem _ hz)) with w | w
      · have := b1 z hz; omega
      · exact w
theorem insM_perm (c : Nat) : ∀ l : List Nat, (insM c l).Perm (c :: l)
  | [] => List.Perm.refl _
  | d :: r => by
    unfold insM
    split
    · exact List.Perm.refl _
    · exact ((insM_perm c r).cons d).trans (List.Perm.swap c d r)
theorem sortM_perm : ∀ l : List Nat, (sortM l).Perm l
  | [] => List.Perm.refl _
  | c :: l => (insM_perm c _).trans ((sortM_perm l).cons c)
theorem insM_up (c : Nat) : ∀ l : List Nat, l.Pairwise (· ≤ ·) → (insM c l).Pairwise (· ≤ ·)
  | [], _ => List.pairwise_singleton _ _
  | d :: r, h => by
    obtain ⟨h1, h2⟩ := List.pairwise_cons.mp h
    unfold insM
    split
    · rename_i hc
      refine List.pairwise_cons.mpr ⟨fun x hx => ?_, h⟩
      rcases List.mem_cons.mp hx with rfl | hx
      · exact hc
      · exact Nat.le_trans hc (h1 x hx)
    · refine List.pairwise_cons.mpr ⟨fun x hx => ?_, insM_up c r h2⟩
      rcases List.mem_cons.mp ((insM_perm c r).mem_iff.mp hx) with rfl | hx
      · omega
      · exact h1 x hx
theorem sortM_up : ∀ l : List Nat, (sortM l).Pairwise (· ≤ ·)
  | [] => List.Pairwise.nil
  | c :: l => insM_up c _ (sortM_up l)
theorem le_uniq : ∀ {a b : List Nat}, a.Pairwise (· ≤ ·) → b.Pairwise (· ≤ ·) → a.Perm b → a = b
  | [], b, _, _, h => (List.Perm.eq_nil (h.symm)).symm
  | x :: a, [], _, _, h => absurd (List.Perm.eq_nil h) (by simp)
  | x :: a, y :: b, ha, hb, h => by
    obtain ⟨a1, a2⟩ := List.pairwise_cons.mp ha
    obtain ⟨b1, b2⟩ := List.pairwise_cons.mp hb
    have e : x = y := by
      rcases List.mem_cons.mp (h.mem_iff.mp List.mem_cons_self) with z | z
      · exact z
      · rcases List.mem_cons.mp (h.mem_iff.mpr List.mem_cons_self) with w | w
        · exact w.symm
        · have := a1 y w; have := b1 x z; omega
    subst e
    rw [le_uniq a2 b2 ((List.perm_cons x).mp h)]
open PySem PySem.Calls PyProof.Rows PyProof.V PySem.Spec PySem.W L2
abbrev sing (c : Nat) : Str := ⟨#[c]⟩
theorem rising_up : ∀ (p : Nat) (l : List Nat), risingS (sing p) (l.map sing) = true → (p :: l).Pairwise (· ≤ ·)
  | p, [], _ => List.pairwise_singleton _ _
  | p, x :: r, h => by
    have h' : (!ltCps (sing x).cps.toList (sing p).cps.toList && risingS (sing x) (r.map sing)) = true := h
    rw [Bool.and_eq_true] at h'
    have ih := rising_up x r h'.2
    have hle : p ≤ x := by
      have e := h'.1
      rw [ltCps_eq] at e
      have e2 : ¬ ([x] < [p]) := by simpa using e
      by_cases z : x < p
      · exact absurd (List.Lex.rel z) e2
      · omega
    refine List.pairwise_cons.mpr ⟨fun y hy => ?_, ih⟩
    rcases List.mem_cons.mp hy with rfl | hy
    · exact hle
    · exact Nat.le_trans hle ((List.pairwise_cons.mp ih).1 y hy)
theorem sorted_up (l : List Nat) (h : sortedS (l.map sing) = true) : l.Pairwise (· ≤ ·) := by
  cases l with
  | nil => exact List.Pairwise.nil
  | cons x r => exact rising_up x r h
theorem sing_inj {a b : Nat} (h : sing a = sing b) : a = b := by
  have := congrArg (fun x : Str => x.cps.toList) h
  simpa using this
theorem sings_of : ∀ (ns : List Str), (∀ k ∈ ns, ∃ c, k = sing c) → ∃ l : List Nat, ns = l.map sing
  | [], _ => ⟨[], rfl⟩
  | k :: ns, h => by
    obtain ⟨c, rfl⟩ := h k List.mem_cons_self
    obtain ⟨l, rfl⟩ := sings_of ns fun x hx => h x (List.mem_cons_of_mem _ hx)
    exact ⟨c :: l, rfl⟩
/-- a set of texts at a -/
def TStO (w : World) (a : Addr) (S : Str → Prop) (n : Nat) : HO := .ext fun h => TSt w h a S n
section
variable {X : Cx}
theorem tstO_new {w : World} {P : Program} {H : Hp} {h : Heap} {a : Addr} {S : Str → Prop} {n : Nat} (R : TSt w h a S n) : ObjOk P w H h a (TStO w a S n) := by
  have ⟨o, _, _, _, ⟨ho, _⟩, _⟩ := R.ex
  exact ⟨R, ⟨o, ho⟩, fun h1 h2 p k => TSt.keep p k⟩
theorem tstO_get {pins : List (Addr × Obj)} {σ : L2.St} {H : Hp} {s : Shared} {a : Addr} {S : Str → Prop} {n : Nat} (I : Inv X pins σ H s) (ha : H a = some (TStO X.w a S n)) : TSt X.w s.heap a S n := (I.hok a _ ha).1
/-- set(x) of a text -/
def rSetTx (w : World) : List V → Hp → VK → Prop := fun vs H Q => ∃ z : Str, vs = [.str z] ∧ z.cps.size < 64 ∧ ∀ p n, H p = none → n ≤ z.cps.size → Q (.ref p) (upd H p (TStO w p (fun j => ∃ m, m < z.cps.size ∧ ∃ c, z.cps[m]? = some c ∧ j = ⟨#[c]⟩) n))
theorem call_setTx (hc : X.calm = true) : CallR X (.type "set") (rSetTx X.w) := by
  intro pins s σ H vs us Q I r h
  obtain ⟨z, rfl, h64, q⟩ := h
  cases r with
  | cons ry rt =>
    cases rt
    obtain ⟨tk, rfl⟩ := ry
    refine tst_call (I.ok.hd hc) (by unfold scanBound; omega) fun hp tk2 c hS hcle k => ?_
    exact ⟨.ref _, upd H s.heap.objs.size (TStO X.w s.heap.objs.size _ c), I.laid (t' := tk2) k (Nat.le_refl _) (tstO_new hS), rfl, q _ _ (I.hok.fresh (Nat.le_refl _)) hcle⟩
theorem sort_end {pins : List (Addr × Obj)} {σ : L2.St} {H : Hp} {s u : Shared} {p : Addr} {out : Array Value} {c : Nat} {ns : List Str} {Q : VK} (I : Inv X pins σ H s) (k : ∀ b o, s.heap.get? b = some o → u.heap.get? b = some o) (g : u.gens = s.gens) (o : u.os = s.os) (hp : NwA s.heap p) (hg : u.heap.get? p = some (seqObj "list" out c))
    (hi : StrsAre out.toList ns) (hl : ns.length < 64) (q : H p = none → Q (.ref p) (upd H p (.lst (ns.map V.str)))) : EP X pins σ Q (.ref p) u := by
  have hlen : (ns.map V.str).length ≤ sizeLine := by rw [List.length_map, sizeLine_eq]; omega
  obtain ⟨hp, h1, k1, hz⟩ := hp
  have hn : H p = none := (I.hok.kept k1).fresh hz
  have J : Inv X pins σ (upd H p (.lst (ns.map V.str))) { s with heap := u.heap, gens := u.gens, drawn := u.drawn, toks := u.toks } :=
    I.call (ch := []) (Un.laidN k hp hn) (I.hok.laidN k hn ⟨hlen, out.toList, c, vals_of_strs hi, hg⟩) (by rw [g]; exact I.bare) (fun _ z => nomatch z)
  have e : u = { s with heap := u.heap, gens := u.gens, drawn := u.drawn, toks := u.toks } := by
    cases u
    cases s
    cases o
    rfl
  rw [e]
  exact ⟨.ref p, _, J, rfl, q hn⟩
/-- sorted(x) of a text -/
def rSortTx : List V → Hp → VK → Prop := fun vs H Q => ∃ z : Str, vs = [.str z] ∧ z.cps.size < 64 ∧ ∀ p, H p = none → Q (.ref p) (upd H p (.lst ((sortM z.cps.toList).map fun c => V.str (sing c))))
theorem call_sortTx (hc : X.calm = true) : CallR X (.builtin "sorted") rSortTx := by
  intro pins s σ H vs us Q I r h
  obtain ⟨z, rfl, h64, q⟩ := h
  cases r with
  | cons ry rt =>
    cases rt
    obtain ⟨tk, rfl⟩ := ry
    refine sorted_txt (I.ok.hd hc) h64 fun u p out c ns k g o hp hg hi hpm hs => ?_
    obtain ⟨l, rfl⟩ := sings_of ns fun k hk => by
      obtain ⟨c, _, e⟩ := List.mem_map.mp (hpm.mem_iff.mp hk)
      exact ⟨c, e.symm⟩
    have hl : l.Perm z.cps.toList := by
      have := hpm.map (fun k : Str => k.cps.toList.headD 0)
      rw [List.map_map, List.map_map] at this
      simpa [Function.comp_def] using this
    have e : l = sortM z.cps.toList := le_uniq (sorted_up l hs) (sortM_up _) (hl.trans (sortM_perm _).symm)
    refine sort_end I k g o hp hg hi (by rw [List.length_map, hl.length_eq, Array.length_toList]; exact h64) fun hn => ?_
    have := q p hn
    rw [← e] at this
    rw [List.map_map]
    exact this
/-- sorted of a set of texts -/
def rSortSt (w : World) : List V → Hp → VK → Prop := fun vs H Q => ∃ (a : Addr) (z : Str) (n : Nat), vs = [.ref a] ∧ H a = some (TStO w a (fun j => ∃ m, m < z.cps.size ∧ ∃ c, z.cps[m]? = some c ∧ j = ⟨#[c]⟩) n) ∧ n < 64 ∧ z.cps.size < 64 ∧
  ∀ p, H p = none → Q (.ref p) (upd H p (.lst ((sortU z.cps.toList).map fun c => V.str (sing c))))
theorem call_sortSt (hc : X.calm = true) : CallR X (.builtin "sorted") (rSortSt X.w) := by
  intro pins s σ H vs us Q I r h
  obtain ⟨a, z, n, rfl, ha, h64, hz, q⟩ := h
  rw [Vals.ref1 r]
  refine sorted_tst (tstO_get I ha) (I.ok.hd hc) h64 fun u p out c ns k g o hp hg hi hnd hm hs => ?_
  obtain ⟨l, rfl⟩ := sings_of ns fun k hk => by
    obtain ⟨m, _, c, _, e⟩ := (hm k).mp hk
    exact ⟨c, e⟩
  have hlm : ∀ x, x ∈ l ↔ x ∈ z.cps.toList := fun x => by
    constructor
    · intro hx
      obtain ⟨m, h1, c, h2, h3⟩ := (hm (sing x)).mp (List.mem_map_of_mem hx)
      rw [sing_inj h3]
      rw [← Array.getElem?_toList] at h2
      exact List.mem_of_getElem? h2
    · intro hx
      obtain ⟨m, h1⟩ := List.mem_iff_getElem?.mp hx
      have hm1 : m < z.cps.size := by rw [← Array.length_toList]; exact (List.getElem?_eq_some_iff.mp h1).1
      have := (hm (sing x)).mpr ⟨m, hm1, x, by rw [← Array.getElem?_toList]; exact h1, rfl⟩
      obtain ⟨y, hy, e⟩ := List.mem_map.mp this
      rw [← sing_inj e]
      exact hy
  have hlt : l.Pairwise (· < ·) := by
    have h1 := sorted_up l hs
    have h2 : l.Pairwise (· ≠ ·) := by
      have := List.nodup_iff_pairwise_ne.mp hnd
      rw [List.pairwise_map] at this
      exact this.imp fun h e => h (by rw [e])
    exact (h1.and h2).imp fun ⟨a, b⟩ => by omega
  have e : l = sortU z.cps.toList := up_uniq hlt (sortU_up _) fun x => (hlm x).trans (sortU_mem x _).symm
  refine sort_end I k g o hp hg hi ?_ fun hn => ?_
  · rw [List.length_map, e]
    have h1 := sortU_len z.cps.toList
    have h2 : z.cps.toList.length = z.cps.size := Array.length_toList
    rw [h2] at h1
    exact Nat.lt_of_le_of_lt h1 hz
  · have := q p hn
    rw [← e] at this
    rw [List.map_map]
    exact this
end
section
variable {G : Glob} {φ : Mp} {s s' : S} {H : Hp} {d : D} {Q : VK} {K : PySem.W.Frag} {cf : CF} {X : Cx} {a : Expr} {ca : E} {pos : Pos}
theorem rep_sings {φ : Mp} {s : S} {H : Hp} : ∀ l : List Nat, RepL φ s H (l.map fun c => D.str [c]) (l.map fun c => V.str (sing c))
  | [] => RepL.nil
  | c :: l => by
    rw [List.map_cons, List.map_cons]
    simp only [RepL, Rep]
    exact ⟨_, _, rfl, rfl, rep_sings l⟩
end
end Fl
namespace SrtO
open PySem PySem.W PySem.Calls PyProof.Rows Srt
section
variable {prog : Program} {w : World} {A : Around} {E : Value → Shared → Prop} {s : Shared}
/-- v is a tuple of the word and a number -/
def IsTp (h : Heap) (v : Value) (z : PySem.Str) (x : Int) : Prop := ∃ a o t u n, v = .ref a ∧ h.get? a = some o ∧ o.cls = .type "tuple" ∧ o.data = .seq #[.str z t, .int x u] n
theorem IsTp.keeps {h h' : Heap} {v : Value} {z : PySem.Str} {x : Int} (p : IsTp h v z x) (k : ∀ b o, h.get? b = some o → o.cls = .type "tuple" → h'.get? b = some o) : IsTp h' v z x := by
  obtain ⟨a, o, t, u, n, e, ho, hc, hd⟩ := p
  exact ⟨a, o, t, u, n, e, k _ _ ho hc, hc, hd⟩
theorem swo_int (k : Value → Int) : Swo fun v u => decide (k v < k u) := by
  refine ⟨fun x y h => ?_, fun x y z h1 h2 => ?_⟩
  · have a := of_decide_eq_true h
    exact decide_eq_false (by omega)
  · have a := of_decide_eq_false h1
    have b := of_decide_eq_false h2
    exact decide_eq_false (by omega)
theorem tp_cmp {vs : List Value} {z : PySem.Str} {k : Value → Int} (hp : ∀ v ∈ vs, IsTp s.heap v z (k v)) : Cmp prog w A s (tuples' true) (fun p => p.1 ∈ vs) (lt2 fun v u => decide (k v < k u)) := by
  intro p q hm hm'
  have h1 := hp _ hm
  have h2 := hp _ hm'
  show wpAny (model prog w) A (keyLt' (tuples' true) p.1 q.1) (fun r s' => s' = s ∧ r = decide (k p.1 < k q.1)) (fun _ _ => False) s
  generalize k p.1 = x at h1 ⊢
  generalize k q.1 = x' at h2 ⊢
  obtain ⟨a, o, t, u, n, e, ho, hc, hd⟩ := h1
  obtain ⟨a', o', t', u', n', e', ho', hc', hd'⟩ := h2
  rw [e, e']
  refine PySem.W.kat_lt ho hd ho' hd' ?_
  show PySem.W.KatLex prog w A true (decide (2 < 2)) _ [(.str z t, .str z t'), (.int x u, .int x' u')] 0 s
  refine PySem.W.kat_cons (SeqAt.EqAt.str_str z t z t' prog w _ _ ?_)
  refine PySem.W.kat_go (fun _ => ?_) (fun e1 => ?_)
  · refine PySem.W.kat_yes (PySem.W.kat_cons (SeqAt.EqAt.int_int x u x' u' prog w _ _ ?_))
    refine PySem.W.kat_go (fun e2 => ?_) (fun e2 => ?_)
    · have ex : x = x' := by simpa using e2
      have e3 : decide (x < x') = false := by
        rw [ex]
        exact decide_eq_false (Int.lt_irrefl _)
      exact PySem.W.kat_yes (PySem.W.kat_nil ⟨rfl, e3.symm⟩)
    · exact PySem.W.kat_no (PySem.W.kat_one _ _ (PyProof.Rows.lt_int (show s = s ∧ decide (x < x') = decide (x < x') from ⟨rfl, rfl⟩)))
  · exact absurd e1 (by simp)
theorem firsts_tp {h : Heap} {z : PySem.Str} : ∀ {vs : List Value}, (∀ v ∈ vs, ∃ x, IsTp h v z x) → ∃ fs : List Value, PySem.W.KatTups h vs fs ∧ fs.length = vs.length ∧ ∀ f ∈ fs, ∃ t, f = Value.str z t
  | [], _ => ⟨[], PySem.W.KatTups.nil, rfl, fun _ hm => by simp at hm⟩
  | v :: vs, hp => by
    obtain ⟨fs, h1, h2, h3⟩ := firsts_tp (vs := vs) fun v' hm => hp v' (List.mem_cons_of_mem _ hm)
    obtain ⟨x, a, o, t, u, n, e, ho, hc, hd⟩ := hp v (List.mem_cons_self ..)
    subst e
    refine ⟨.str z t :: fs, PySem.W.KatTups.cons ho hc hd rfl h1, by rw [List.length_cons, List.length_cons, h2], fun f hm => ?_⟩
    rcases List.mem_cons.mp hm with rfl | hm
    · exact ⟨t, rfl⟩
    · exact h3 f hm
theorem tps_sortableO {a : Addr} {vs : List Value} {z : PySem.Str} {k : Value → Int} (h0 : 0 < vs.length) (hp : ∀ v ∈ vs, IsTp s.heap v z (k v)) (ha : ∀ o, s.heap.get? a = some o → o.cls ≠ .type "tuple") : SortableO prog w A s a vs fun v u => decide (k v < k u) := by
  intro h' keep
  have hp' : ∀ v ∈ vs, IsTp h' v z (k v) := fun v hm => (hp v hm).keeps fun b o e c => keep b o (fun z => by subst z; exact ha o e c) e
  obtain ⟨fs, h1, h2, h3⟩ := firsts_tp fun v hm => ⟨_, hp' v hm⟩
  refine ⟨tuples' true, fun Q E hq => ?_, tp_cmp hp'⟩
  refine PySem.W.kat_kind (T := .type "str") h1 (by omega) (fun f hm => ?_) (by rfl) ?_
  · obtain ⟨t, rfl⟩ := h3 f hm
    exact PySem.W.Looks.now
  · have e : (Value.type "str" != Value.type "tuple") = true := by first | decide +kernel | rfl | decide
    rw [e]
    exact hq
/-- sorted(l) of tuples of one word and a number: by the number, stable -/
theorem sorted_tpsO {l : Addr} {vs : List Value} {z : PySem.Str} {k : Value → Int} {Q : Value → Shared → Prop} (hl : s.heap.IsList l vs.toArray) (hz : vs.length ≤ sizeLine) (hp : ∀ v ∈ vs, IsTp s.heap v z (k v))
    (h : ∀ (h' : Heap) (d : Addr) (out : List Value), Srtd (fun v u => decide (k v < k u)) out → Stb (fun v u => decide (k v < k u)) out vs → (∀ b o, s.heap.get? b = some o → h'.get? b = some o) → s.heap.objs.size ≤ d → (∃ n, h'.get? d = some (seqObj "list" out.toArray n)) → Q (.ref d) { s with heap := h' }) :
    wpAny (model prog w) A (call (.builtin "sorted") [.ref l]) Q E s := by
  refine sorted_ord (swo_int k) hl hz (fun h2 h₁ a ha kk => ?_) fun out hs hb => ?_
  · refine tps_sortableO (s := { s with heap := h₁ }) (by omega) (fun v hm => (hp v hm).keeps fun b o e _ => (kk b o e).2) fun o e => ?_
    have e' : some o = some (seqObj "list" vs.toArray 0) := e.symm.trans ha
    cases e'
    intro c
    exact absurd (Value.type.inj c) (by decide)
  · exact h _ _ out hs hb (fun b o e => sortedAll_old e) (Nat.le_succ _) (sortedAll_at s.heap vs out.toArray)
end
end SrtO
namespace L2
open PySem PySem.Spec PyProof.Rows
abbrev ltK (k : V → Int) (x y : V) : Bool := decide (k x < k y)
theorem ltK_swo (k : V → Int) : SrtO.Swo (ltK k) := by
  refine ⟨fun x y h => ?_, fun x y z h1 h2 => ?_⟩
  · have a := of_decide_eq_true h
    exact decide_eq_false (by omega)
  · have a := of_decide_eq_false h1
    have b := of_decide_eq_false h2
    exact decide_eq_false (by omega)
/-- sorted(xs), xs a list of tuples of one word and a number (k says which) -/
def rSortTp (K : PySem.W.Frag) : List V → Hp → VK → Prop := fun vs H Q => ∃ (a : Addr) (xs : List V) (z : PySem.Str) (k : V → Int), vs = [V.ref a] ∧ SqL K H a xs ∧ (∀ x ∈ xs, ∃ t, x = V.ref t ∧ H t = some (.tup [.str z, .int (k x)])) ∧
  ∀ ys p, SrtO.Srtd (ltK k) ys → SrtO.Stb (ltK k) ys xs → H p = none → Q (.ref p) (upd H p (.lst ys))
section
variable {X : Cx}
theorem call_sortTp : CallR X (.builtin "sorted") (rSortTp X.K) := by
  intro pins s σ H vs us Q I r h
  obtain ⟨a, xs, z, k, rfl, hs, hx, q⟩ := h
  obtain ⟨its, rv, hl, hz⟩ := I.list hs
  obtain ⟨u, rfl, ru⟩ := vals1 r
  obtain rfl : u = Value.ref a := ru
  obtain ⟨e1, e2⟩ := refs_back rv fun x m => by
    obtain ⟨t, e, _⟩ := hx x m
    exact ⟨t, e⟩
  refine SrtO.sorted_tpsO (z := z) (k := fun u => k (backV u)) hl.isList (by rw [← rv.length]; exact hz) (fun v hv => ?_) fun h' d out h1 h2 kp hd hn => ?_
  · obtain ⟨t, rfl⟩ := e2 v hv
    have hm : V.ref t ∈ xs := by rw [e1]; exact List.mem_map.mpr ⟨_, hv, rfl⟩
    obtain ⟨t', e, ht⟩ := hx _ hm
    cases e
    obtain ⟨_, its2, r2, o, ho, hc, n, hd⟩ := I.hok _ _ ht
    obtain ⟨u1, u2, rfl, ri, rj⟩ := vals2 r2
    obtain ⟨t1, rfl⟩ := ri
    obtain ⟨t2, rfl⟩ := rj
    exact ⟨t, o, t1, t2, n, rfl, ho, hc, hd⟩
  · have h3 : ∀ u ∈ out, ∃ a, u = Value.ref a := fun u hu => e2 u (h2.perm.mem_iff.mp hu)
    obtain ⟨n, hn⟩ := hn
    have hb : SrtO.Stb (ltK k) (out.map backV) xs := by
      rw [e1]
      exact SrtO.Stb.map (ltK_swo k) backV h2
    refine ⟨.ref d, upd H d (.lst (out.map backV)), I.laid (t' := s.toks) kp hd ⟨?_, out, n, vals_back h3, hn⟩, rfl, q _ d (SrtO.srtd_map h1) hb (I.hok.fresh hd)⟩
    rw [hb.len]
    exact hz
end
end L2
namespace Fl
open PySem L2
section
variable {G : Glob} {φ : Mp} {s s' : S} {H : Hp} {d : D} {Q : VK} {K : PySem.W.Frag}
theorem RepL.onesR : ∀ {ds : List D} {vs : List V} {l : List Nat}, RepL φ s H ds vs → onesD ds = some l → vs = (l.map sing).map V.str
  | [], vs, l, r, e => by
    simp only [RepL] at r
    subst r
    cases e
    rfl
  | .str [c] :: ds, vs, l, r, e => by
    simp only [RepL, Rep] at r
    obtain ⟨v, w, rfl, rfl, r2⟩ := r
    have e' : (onesD ds).map (fun q => c :: q) = some l := e
    obtain ⟨q, h1, rfl⟩ := Option.map_eq_some_iff.mp e'
    rw [r2.onesR h1]
    rfl
  | .str [] :: ds, vs, l, r, e => by cases e
  | .str (_ :: _ :: _) :: ds, vs, l, r, e => by cases e
  | .non :: ds, vs, ns, r, e => by cases e
  | .bl _ :: ds, vs, ns, r, e => by cases e
  | .int _ :: ds, vs, ns, r, e => by cases e
  | .tup _ :: ds, vs, ns, r, e => by cases e
  | .lst _ :: ds, vs, ns, r, e => by cases e
  | .ref _ :: ds, vs, ns, r, e => by cases e
  | .scr _ :: ds, vs, ns, r, e => by cases e
/-- the number of a tuple of two -/
def kTp (H : Hp) : V → Int
  | .ref a => match H a with
    | some (.tup [_, .int i]) => i
    | _ => 0
  | _ => 0
theorem RepL.wnR {z : List Nat} : ∀ {ds : List D} {vs : List V} {ks : List Int}, RepL φ s H ds vs → wnD z ds = some ks →
    (∀ x ∈ vs, ∃ t, x = V.ref t ∧ H t = some (.tup [.str ⟨z.toArray⟩, .int (kTp H x)])) ∧ vs.map (kTp H) = ks
  | [], vs, l, r, e => by
    simp only [RepL] at r
    subst r
    cases e
    exact ⟨fun _ h => (nomatch h), rfl⟩
  | .tup [.str x, .int i] :: ds, vs, l, r, e => by
    have e' : (if x = z then (wnD z ds).map (fun q => i :: q) else none) = some l := e
    split at e'
    · rename_i hx
      subst hx
      obtain ⟨q, h1, rfl⟩ := Option.map_eq_some_iff.mp e'
      simp only [RepL] at r
      obtain ⟨v, w, rfl, rv, r2⟩ := r
      simp only [Rep, RepL] at rv
      obtain ⟨a, us, rfl, ha, -, u1, w1, rfl, rfl, u2, w2, rfl, rfl, rfl⟩ := rv
      obtain ⟨g1, g2⟩ := r2.wnR h1
      have hk : kTp H (.ref a) = i := by simp only [kTp, ha]
      refine ⟨fun y hy => ?_, ?_⟩
      · rcases List.mem_cons.mp hy with rfl | hy
        · exact ⟨a, rfl, by rw [hk]; exact ha⟩
        · exact g1 y hy
      · rw [List.map_cons, hk, g2]
    · cases e'
  | .non :: ds, vs, ns, r, e => by cases e
  | .bl _ :: ds, vs, ns, r, e => by cases e
  | .int _ :: ds, vs, ns, r, e => by cases e
  | .str _ :: ds, vs, ns, r, e => by cases e
  | .lst _ :: ds, vs, ns, r, e => by cases e
  | .ref _ :: ds, vs, ns, r, e => by cases e
  | .scr _ :: ds, vs, ns, r, e => by cases e
  | .tup [] :: ds, vs, ns, r, e => by cases e
  | .tup [_] :: ds, vs, ns, r, e => by simp [wnD] at e
  | .tup (_ :: _ :: _ :: _) :: ds, vs, ns, r, e => by simp [wnD] at e
  | .tup [.non, _] :: ds, vs, ns, r, e => by simp [wnD] at e
  | .tup [.bl _, _] :: ds, vs, ns, r, e => by simp [wnD] at e
  | .tup [.int _, _] :: ds, vs, ns, r, e => by simp [wnD] at e
  | .tup [.tup _, _] :: ds, vs, ns, r, e => by simp [wnD] at e
  | .tup [.lst _, _] :: ds, vs, ns, r, e => by simp [wnD] at e
  | .tup [.ref _, _] :: ds, vs, ns, r, e => by simp [wnD] at e
  | .tup [.scr _, _] :: ds, vs, ns, r, e => by simp [wnD] at e
  | .tup [.str _, .non] :: ds, vs, ns, r, e => by simp [wnD] at e
  | .tup [.str _, .bl _] :: ds, vs, ns, r, e => by simp [wnD] at e
  | .tup [.str _, .str _] :: ds, vs, ns, r, e => by simp [wnD] at e
  | .tup [.str _, .tup _] :: ds, vs, ns, r, e => by simp [wnD] at e
  | .tup [.str _, .lst _] :: ds, vs, ns, r, e => by simp [wnD] at e
  | .tup [.str _, .ref _] :: ds, vs, ns, r, e => by simp [wnD] at e
  | .tup [.str _, .scr _] :: ds, vs, ns, r, e => by simp [wnD] at e
theorem ordI_up : ∀ {l : List Int}, ordI l = true → l.Pairwise (· ≤ ·)
  | [], _ => List.Pairwise.nil
  | i :: r, h => by
    have h' : (r.all (fun j => decide (i ≤ j)) && ordI r) = true := h
    rw [Bool.and_eq_true] at h'
    exact List.pairwise_cons.mpr ⟨fun y hy => by simpa using List.all_eq_true.mp h'.1 y hy, ordI_up h'.2⟩
abbrev rSortAll (K : PySem.W.Frag) : List V → Hp → VK → Prop := fun vs H Q => (rSortTx vs H Q ∨ rSortedS K vs H Q) ∨ rSortTp K vs H Q
theorem call_sortAll {X : Cx} (hc : X.calm = true) : CallR X (.builtin "sorted") (rSortAll X.K) := CallR.or (CallR.or (call_sortTx hc) cr_sortedS) call_sortTp
theorem sort_ok {ds : List D} {vs : List V} {bx : Bool} (hkk : φ.K = K) (h : HR G φ s H) (r : RepL φ s H ds vs) (e : sortD s bx ds = some (.ok d, s')) (p : Post G φ s H s' d Q) : rSortAll K vs H Q := by
  unfold sortD at e
  split at e
  · rename_i x
    split at e
    · rename_i hz
      simp only [RepL, Rep] at r
      obtain ⟨v, w, rfl, rfl, rfl⟩ := r
      refine .inl (.inl ⟨_, rfl, by simpa using hz, fun q hq => ?_⟩)
      exact Post.lst h e p (by simpa using rep_sings (sortM x)) q hq
    · cases e
  · split at e
    · rename_i xs hxs
      simp only [RepL] at r
      obtain ⟨v, w, rfl, r1, rfl⟩ := r
      obtain ⟨a, ws, rfl, h1, h2⟩ := r1.lcont h hxs
      rw [hkk] at h1
      unfold sortL at e
      split at e
      · rename_i l hl
        split at e
        · rename_i hz
          rw [h2.onesR hl] at h1
          refine .inl (.inr ⟨a, l.map sing, rfl, h1, by rw [List.length_map]; exact hz, fun ys q hpm hs hq => ?_⟩)
          obtain ⟨m, rfl⟩ := sings_of ys fun k hk => by
            obtain ⟨c, _, e⟩ := List.mem_map.mp (hpm.mem_iff.mp hk)
            exact ⟨c, e.symm⟩
          have hm : m.Perm l := by
            have := hpm.map (fun k : Str => k.cps.toList.headD 0)
            rw [List.map_map, List.map_map] at this
            simpa [Function.comp_def] using this
          have em : m = sortM l := le_uniq (sorted_up m hs) (sortM_up _) (hm.trans (sortM_perm _).symm)
          rw [em, List.map_map]
          exact Post.lst h e p (rep_sings (sortM l)) q hq
        · cases e
      · split at e
        · rename_i ks hks
          split at e
          · rename_i ho
            obtain ⟨g1, g2⟩ := h2.wnR hks
            refine .inr ⟨a, ws, _, kTp H, rfl, h1, g1, fun ys q hs hb hq => ?_⟩
            have hsr : SrtO.Srtd (ltK (kTp H)) ws := by
              have := ordI_up ho
              rw [← g2, List.pairwise_map] at this
              exact this.imp fun hh => decide_eq_false (by omega)
            have ey : ys = ws := SrtO.stb_uniq (ltK_swo _) hs hsr hb
            rw [ey]
            exact Post.lst h e p h2 q hq
          · cases e
        · cases e
    · cases e
  · cases e
end
end Fl
namespace Fl
open PySem PySem.Calls PyProof.Rows PyProof.V PySem.Spec PySem.W L2
section
variable {P : Program} {w : World} {A : Around} {E : Value → Shared → Prop} {s : Shared}
abbrev newSetO (w : World) : Obj := { cls := .type "set", dict := none, data := .set #[] 0 (.fresh 0 0 (!w.params.followText "set-order")) }
abbrev newIterO (l : Addr) : Obj := { cls := .type "list_iterator", data := .fields #[.ref l, .int 0 0] }
/-- set(xs) of a list, by what its loop leaves -/
theorem set_lst {l : Addr} {items : Array Value} {Fin : Heap → Nat → Prop} {Q : Value → Shared → Prop} (hh : A.handled = none) (hl : s.heap.IsList l items)
    (loop : ∀ (B : Around) (R : Result → Shared → Prop), B.in1.handled = none → ((s.heap.push (newSetO w)).push (newIterO l)).IsList l items → l < s.heap.objs.size →
      ((s.heap.push (newSetO w)).push (newIterO l)).get? s.heap.objs.size = some (newSetO w) →
      ((s.heap.push (newSetO w)).push (newIterO l)).IsListIter (s.heap.push (newSetO w)).objs.size l 0 →
      (∀ (hp : Heap) (tk c : Nat), Fin hp c → (∀ b o, s.heap.get? b = some o → hp.get? b = some o) → R (.ok (.ret .none)) { s with heap := hp, toks := tk }) →
      codeAny (model P w) B (.builtin "set.update.loop" ⟨[.ref s.heap.objs.size, .ref (s.heap.push (newSetO w)).objs.size], []⟩) R { s with heap := (s.heap.push (newSetO w)).push (newIterO l) })
    (h : ∀ (hp : Heap) (tk c : Nat), Fin hp c → (∀ b o, s.heap.get? b = some o → hp.get? b = some o) → Q (.ref s.heap.objs.size) { s with heap := hp, toks := tk }) :
    wpAny (model P w) A (call (.type "set") [.ref l]) Q E s := by
  obtain ⟨c0, tl0, hmro⟩ := PySem.F.called_set.mro
  have hmade := PySem.F.called_set.made
  have hsub := PySem.F.called_set.sub
  refine wpAny_call (codeAny_of_tree ?_)
  show wpAny _ _ (callAny (.type "set") _) _ _ _
  refine wpAny_pure ⟨Code.quiet_builtin _ (by decide +kernel), codeAny_builtin PySem.F.entry_type_call ?_⟩
  rw [Around.under_plain (weight_type_call_type "set" [.ref l] []) rfl]
  have h1 := PySem.F.called_set.notType
  have h2 := PySem.F.called_set.canCreate
  have hct := PySem.F.typeCall_set_1 (.ref l)
  repeat (any_goals (first | assumption | wp_step))
  refine codeAny_mono (code_set_led1 (.ref l) (E := E) (Q₁ := fun obj u => obj = .ref s.heap.objs.size ∧ u = { s with heap := s.heap.push (newSetO w) }) ⟨rfl, rfl⟩) fun r u hr => ?_
  cases r with
  | error e => exact hr
  | ok fl =>
    cases fl with
    | ret obj =>
      obtain ⟨rfl, rfl⟩ := hr
      have hS : (s.heap.push (newSetO w)).get? s.heap.objs.size = some (newSetO w) := Heap.get?_push_size _ rfl
      have hT : Shared.TypeIs { s with heap := s.heap.push (newSetO w) } (.ref s.heap.objs.size) "set" := ⟨_, hS, rfl⟩
      have hli := PySem.F.called_set.init.lookup
      have hbi := PySem.F.called_set.init.bind (.ref s.heap.objs.size)
      repeat (any_goals (first | assumption | wp_step))
      refine codeAny_mono (codeAny_call_builtin (R := wants (fun r v => r = .none ∧ ∃ hp tk c, v = { s with heap := hp, toks := tk } ∧ Fin hp c ∧
          (∀ b o, s.heap.get? b = some o → hp.get? b = some o)) E) PySem.F.called_set.init.plain PySem.F.entry_set_init (check_set_init_1 hT ?_)) fun r₂ v hr₂ => ?_
      · obtain ⟨ol, hol, hcl, nl, hdl⟩ := hl
        obtain ⟨ocls, odict, odata, oslots⟩ := ol
        simp only at hcl hdl
        subst hcl; subst hdl
        have hol' : (s.heap.push (newSetO w)).get? l = some { cls := .type "list", dict := odict, data := .seq items nl, slots := oslots } := Heap.get?_push_of_some _ hol
        have hsls := PySem.F.sub_list_set
        have hslf := PySem.F.sub_list_frozenset
        have hne : (Value.type "list" == Value.type "dict") = false := by decide
        have hl1 : (s.heap.push (newSetO w)).IsList l items := ⟨_, hol', rfl, nl, rfl⟩
        unfold Builtin.«set.__init__» noKeywords Builtin.Frozenset.updateFrom
        generalize hPI : pyIter = PI
        wp_walk
        subst hPI
        refine wpAny_pyIter_list hl1 ?_
        refine wpAny_bind (wpAny_runValue ?_)
        have hh3 : A.in1.in1.in1.handled = none := by simp [hh]
        refine loop _ _ hh3 (hl1.push _) (Heap.lt_size hol) (Heap.get?_push_of_some _ hS) ⟨_, Heap.get?_push_size _ rfl, rfl, rfl⟩ fun hp tk c hF hk => ?_
        show wpAny _ _ _ _ _ _
        refine wpAny_pure ?_
        show wpAny _ _ (ret Value.none) _ _ _
        exact wpAny_pure ⟨rfl, hp, tk, c, rfl, hF, hk⟩
      · cases r₂ with
        | error e => exact hr₂
        | ok fl₂ =>
          cases fl₂ with
          | ret r =>
            obtain ⟨rfl, hp, tk, c, rfl, hF, hk⟩ := hr₂
            repeat (any_goals (first | assumption | wp_step))
            exact h _ _ _ hF hk
          | _ => exact hr₂.elim
    | _ => exact hr.elim
theorem push_ne {h : Heap} {l : Addr} {o : Obj} (hl : l < h.objs.size) : l ≠ (h.push o).objs.size := by
  rw [Heap.size_push]
  exact Nat.ne_of_lt (Nat.lt_succ_of_lt hl)
theorem push_nin {h : Heap} {l : Addr} {o : Obj} (hl : l < h.objs.size) : h.objs.size ∉ [(h.push o).objs.size, l] := by
  rw [Heap.size_push]
  simp only [List.mem_cons, List.mem_singleton, List.not_mem_nil, or_false, not_or]
  exact ⟨Nat.ne_of_lt (Nat.lt_succ_self _), Nat.ne_of_gt hl⟩
/-- what was there stays -/
theorem moved_keeps {l : Addr} {G : Array GenState → Array GenState → Prop} {u : Shared} (hm : Moved (s.heap.objs.size :: [(s.heap.push (newSetO w)).objs.size]) G { s with heap := (s.heap.push (newSetO w)).push (newIterO l) } u) :
    ∀ b o, s.heap.get? b = some o → u.heap.get? b = some o := fun b o e => by
  have hb0 : b < s.heap.objs.size := Heap.lt_size e
  have hb1 : b ≠ s.heap.objs.size := Nat.ne_of_lt hb0
  have hb2 : b ≠ (s.heap.push (newSetO w)).objs.size := push_ne hb0
  exact hm.heap b o (by simp only [List.mem_cons, List.mem_singleton, List.not_mem_nil, or_false, not_or]; exact ⟨hb1, hb2⟩) (Heap.get?_push_of_some _ (Heap.get?_push_of_some _ e))
theorem tst_callL {l : Addr} {items : Array Value} {x : Str} {Q : Value → Shared → Prop} (hh : A.handled = none) (hl : s.heap.IsList l items) (hz : items.size = x.cps.size) (hi : ∀ (i : Nat) v, items[i]? = some v → SignAt x i v) (hb : x.cps.size + 1 < scanBound)
    (h : ∀ (hp : Heap) (tk c : Nat), TSt w hp s.heap.objs.size (fun j => ∃ m, m < x.cps.size ∧ ∃ c, x.cps[m]? = some c ∧ j = ⟨#[c]⟩) c → c ≤ x.cps.size → (∀ b o, s.heap.get? b = some o → hp.get? b = some o) → Q (.ref s.heap.objs.size) { s with heap := hp, toks := tk }) :
    wpAny (model P w) A (call (.type "set") [.ref l]) Q E s := by
  refine set_lst (Fin := fun hp c => TSt w hp s.heap.objs.size (fun j => ∃ m, m < x.cps.size ∧ ∃ c, x.cps[m]? = some c ∧ j = ⟨#[c]⟩) c ∧ c ≤ x.cps.size) hh hl (fun B R hB hl2 hlt hS hI hR => ?_) fun hp tk c hF hk => h hp tk c hF.1 hF.2 hk
  have W := (Walks.list (prog := P) (w := w) hB (s.heap.push (newSetO w)).objs.size l (push_ne hlt) items).toS
  rw [hz] at W
  refine tst_loop W hi s.heap.objs.size (push_nin hlt) hb (x.cps.size - 0) 0 _ (by omega) (Nat.zero_le _) ⟨hI, hl2⟩ ⟨0, Nat.le_refl 0, (tst_new hS).iff fun j => ⟨fun ⟨m, h1, _⟩ => absurd h1 (Nat.not_lt_zero m), False.elim⟩⟩ fun u c hm hc hSu => ?_
  have kk := moved_keeps hm
  obtain ⟨hp, g2, d2, tk2, os2⟩ := u
  have eg : g2 = s.gens := hm.gens
  have ed : d2 = s.drawn := hm.drawn
  have eo : os2 = s.os := hm.os
  subst eg; subst ed; subst eo
  exact hR hp tk2 c ⟨hSu, hc⟩ kk
theorem setI_callL {l : Addr} {items : Array Value} {ns : List Int} {Q : Value → Shared → Prop} (hh : A.handled = none) (hl : s.heap.IsList l items) (hi : IntsAre items.toList ns) (hb : ns.length + 1 < scanBound)
    (h : ∀ (hp : Heap) (tk c : Nat), SetR w hp s.heap.objs.size (fun j => decide (j ∈ ns)) c → c ≤ ns.length → (∀ b o, s.heap.get? b = some o → hp.get? b = some o) → Q (.ref s.heap.objs.size) { s with heap := hp, toks := tk }) :
    wpAny (model P w) A (call (.type "set") [.ref l]) Q E s := by
  have hz : items.size = ns.length := by
    have q := IntsAre.length hi
    rw [Array.length_toList] at q
    exact q
  refine set_lst (Fin := fun hp c => SetR w hp s.heap.objs.size (fun j => decide (j ∈ ns)) c ∧ c ≤ ns.length) hh hl (fun B R hB hl2 hlt hS hI hR => ?_) fun hp tk c hF hk => h hp tk c hF.1 hF.2 hk
  have W := (Walks.list (prog := P) (w := w) hB (s.heap.push (newSetO w)).objs.size l (push_ne hlt) items).toS
  refine set_update_ints W s.heap.objs.size (push_nin hlt) ns hz hb (fun i v hv => ?_) (items.size - 0) 0 _ (by omega) (Nat.zero_le _) ⟨hI, hl2⟩ ⟨0, Nat.le_refl 0, setR_new_at hS⟩ fun u c hm hc hSu => ?_
  · have hi' : i < ns.length := by rw [← hz]; exact (Array.getElem?_eq_some_iff.mp hv).1
    obtain ⟨t, e⟩ := PyProof.Rows.IntsAre.int_at hi i v (by rw [Array.getElem?_toList]; exact hv)
    refine ⟨ns[i], t, List.getElem?_eq_getElem hi', ?_⟩
    rw [e, List.getD_eq_getElem?_getD, List.getElem?_eq_getElem hi'] <;> rfl
  have kk := moved_keeps hm
  obtain ⟨hp, g2, d2, tk2, os2⟩ := u
  have eg : g2 = s.gens := hm.gens
  have ed : d2 = s.drawn := hm.drawn
  have eo : os2 = s.os := hm.os
  subst eg; subst ed; subst eo
  rw [hz] at hc
  exact hR hp tk2 c ⟨hSu, hc⟩ kk
end
section
variable {X : Cx}
theorem sign_vals : ∀ {ks : List Nat} {us : List Value}, Vals (ks.map fun c => V.str (sing c)) us → ∀ (i : Nat) v, us[i]? = some v → ∃ z tz, ks[i]? = some z ∧ v = Value.str ⟨#[z]⟩ tz
  | [], _, .nil, i, v, h => by simp at h
  | k :: ks, _, .cons r t, i, v, h => by
    cases i with
    | zero =>
      obtain ⟨tk, rfl⟩ := r
      simp only [List.getElem?_cons_zero, Option.some.injEq] at h
      exact ⟨k, tk, rfl, h.symm⟩
    | succ i =>
      rw [List.getElem?_cons_succ] at h ⊢
      exact sign_vals t i v h
/-- set(xs) of a list of texts of one sign -/
def rSetLs (K : PySem.W.Frag) (w : World) : List V → Hp → VK → Prop := fun vs H Q => ∃ (l : Addr) (x : Str), vs = [.ref l] ∧ SqL K H l (x.cps.toList.map fun c => V.str (sing c)) ∧ x.cps.size < 64 ∧ ∀ p n, H p = none → n ≤ x.cps.size → Q (.ref p) (upd H p (TStO w p (fun j => ∃ m, m < x.cps.size ∧ ∃ c, x.cps[m]? = some c ∧ j = ⟨#[c]⟩) n))
theorem call_setLs (hc : X.calm = true) : CallR X (.type "set") (rSetLs X.K X.w) := by
  intro pins s σ H vs us Q I r h
  obtain ⟨l, x, rfl, hq, h64, q⟩ := h
  rw [Vals.ref1 r]
  obtain ⟨ts, rv, pl, hz⟩ := I.list hq
  refine tst_callL (x := x) (I.ok.hd hc) pl.isList (by rw [List.size_toArray, ← rv.length, List.length_map, Array.length_toList]) (fun i v hv => ?_) (by unfold scanBound; omega) fun hp tk2 c hS hcle k => ?_
  · rw [List.getElem?_toArray] at hv
    obtain ⟨z, tz, h1, h2⟩ := sign_vals rv i v hv
    exact ⟨z, tz, by rw [← Array.getElem?_toList]; exact h1, h2⟩
  · exact ⟨.ref _, upd H s.heap.objs.size (TStO X.w s.heap.objs.size _ c), I.laid (t' := tk2) k (Nat.le_refl _) (tstO_new hS), rfl, q _ _ (I.hok.fresh (Nat.le_refl _)) hcle⟩
/-- set(xs) of a list of whole numbers -/
def rSetLi (K : PySem.W.Frag) (w : World) : List V → Hp → VK → Prop := fun vs H Q => ∃ (l : Addr) (ns : List Int), vs = [.ref l] ∧ SqL K H l (ns.map V.int) ∧ ns.length < 64 ∧ ∀ p n, H p = none → n ≤ ns.length → Q (.ref p) (upd H p (SetO w p (fun j => decide (j ∈ ns)) n))
theorem call_setLi (hc : X.calm = true) : CallR X (.type "set") (rSetLi X.K X.w) := by
  intro pins s σ H vs us Q I r h
  obtain ⟨l, ns, rfl, hq, h64, q⟩ := h
  rw [Vals.ref1 r]
  obtain ⟨ts, rv, pl, hz⟩ := I.list hq
  refine setI_callL (ns := ns) (I.ok.hd hc) pl.isList (by simpa using rv.ints) (by unfold scanBound; omega) fun hp tk2 c hS hcle k => ?_
  exact ⟨.ref _, upd H s.heap.objs.size (SetO X.w s.heap.objs.size _ c), I.laid (t' := tk2) k (Nat.le_refl _) (setO_new hS), rfl, q _ _ (I.hok.fresh (Nat.le_refl _)) hcle⟩
end
section
variable {G : Glob} {φ : Mp} {s s' : S} {H : Hp} {d : D} {Q : VK} {K : PySem.W.Frag} {cf : CF} {X : Cx} {a : Expr} {ca : E} {pos : Pos}
theorem risI_up : ∀ {l : List Int}, risI l = true → l.Pairwise (· < ·)
  | [], _ => List.Pairwise.nil
  | i :: r, h => by
    have h' : (r.all (fun j => decide (i < j)) && risI r) = true := h
    rw [Bool.and_eq_true] at h'
    exact List.pairwise_cons.mpr ⟨fun y hy => by simpa using List.all_eq_true.mp h'.1 y hy, risI_up h'.2⟩
theorem upI_uniq : ∀ {a b : List Int}, a.Pairwise (· < ·) → b.Pairwise (· < ·) → (∀ x, x ∈ a ↔ x ∈ b) → a = b
  | [], [], _, _, _ => rfl
  | [], y :: b, _, _, h => by have := (h y).mpr List.mem_cons_self; cases this
  | x :: a, [], _, _, h => by have := (h x).mp List.mem_cons_self; cases this
  | x :: a, y :: b, ha, hb, h => by
    obtain ⟨a1, a2⟩ := List.pairwise_cons.mp ha
    obtain ⟨b1, b2⟩ := List.pairwise_cons.mp hb
    have e : x = y := by
      rcases List.mem_cons.mp ((h x).mp List.mem_cons_self) with z | z
      · exact z
      · rcases List.mem_cons.mp ((h y).mpr List.mem_cons_self) with z' | z'
        · exact z'.symm
        · have := b1 x z; have := a1 y z'; omega
    subst e
    refine congrArg (x :: ·) (upI_uniq a2 b2 fun z => ⟨fun hz => ?_, fun hz => ?_⟩)
    · rcases List.mem_cons.mp ((h z).mp (List.mem_cons_of_mem _ hz)) with e | e
      · have := a1 z hz; omega
      · exact e
    · rcases List.mem_cons.mp ((h z).mpr (List.mem_cons_of_mem _ hz)) with e | e
      · have := b1 z hz; omega
      · exact e
theorem c_sset {bx : Bool} {p p2 pos2 : Pos} (hK : X.K = G.K) (hc : X.calm = true) (hgl : Gl X "sorted") (hml : X.mg "sorted" = none) (hge : Gl X "set") (hme : X.mg "set" = none) (ha : PE X a (rE G cf ca)) (na : starEach [a] X.env = (false, eval a X.env) :: starEach [] X.env)
    (na2 : starEach [.Call (.Name "set" p2) [a] [] pos2] X.env = (false, eval (.Call (.Name "set" p2) [a] [] pos2) X.env) :: starEach [] X.env) :
    PE X (.Call (.Name "sorted" p) [.Call (.Name "set" p2) [a] [] pos2] [] pos) (rE G cf (.sset bx ca)) := by
  refine PE.imp (pe_callB (CallR.or (call_sortSt hc) (cr_sortedSet hc)) hgl hml boot_sorted (pa_cons (pe_callTy (CallR.or (call_setTx hc) (CallR.or (call_setLs hc) (call_setLi hc))) hge hme boot_set (pa_cons ha pa_nil na) (by decide) (by decide) na rfl) pa_nil na2) (by decide) (by decide) na2 rfl) fun σ H Q h => ?_
  obtain ⟨φ, s, r, A, d, s', he, p⟩ := h
  simp only [ev] at he
  obtain ⟨x, s1, e1, he⟩ := bnd_inv he
  refine rd_step A e1 fun φ1 H1 v g1 A1 rv => ?_
  split at he
  · rename_i z
    split at he
    · rename_i hz
      simp only [Rep] at rv
      subst rv
      refine .inl ⟨_, rfl, by simpa using hz, fun t n ht hn => ?_⟩
      have hn' : n < 64 := by simp at hn; omega
      refine .inl ⟨t, _, n, rfl, upd_same, hn', by simpa using hz, fun q hq => ?_⟩
      have g2 : Gr φ1 s1 H1 φ1 s1 (upd H1 t (TStO X.w t (fun j => ∃ m, m < (⟨z.toArray⟩ : Str).cps.size ∧ ∃ c, (⟨z.toArray⟩ : Str).cps[m]? = some c ∧ j = ⟨#[c]⟩) n)) := Gr.free A1.hr ht
      have h2 := A1.hr.free (o := TStO X.w t (fun j => ∃ m, m < (⟨z.toArray⟩ : Str).cps.size ∧ ∃ c, (⟨z.toArray⟩ : Str).cps[m]? = some c ∧ j = ⟨#[c]⟩) n) ht
      exact Post.lst h2 he (Post.from (g1.trans g2) p) (by simpa using rep_sings (sortU z)) q hq
    · cases he
  · split at he
    · rename_i xs hxs
      obtain ⟨a, ws, rfl, h1, h2⟩ := rv.lcont A1.hr hxs
      rw [A1.hr.k.trans hK.symm] at h1
      unfold ssetL at he
      split at he
      · rename_i l hl
        split at he
        · rename_i hz
          rw [h2.onesR hl] at h1
          refine .inr (.inl ⟨a, ⟨l.toArray⟩, rfl, by rw [List.map_map] at h1; simpa [Function.comp_def] using h1, by simpa using hz, fun t n ht hn => ?_⟩)
          have hn' : n < 64 := by simp at hn; omega
          refine .inl ⟨t, _, n, rfl, upd_same, hn', by simpa using hz, fun q hq => ?_⟩
          have g2 : Gr φ1 s1 H1 φ1 s1 (upd H1 t (TStO X.w t (fun j => ∃ m, m < (⟨l.toArray⟩ : Str).cps.size ∧ ∃ c, (⟨l.toArray⟩ : Str).cps[m]? = some c ∧ j = ⟨#[c]⟩) n)) := Gr.free A1.hr ht
          have h3 := A1.hr.free (o := TStO X.w t (fun j => ∃ m, m < (⟨l.toArray⟩ : Str).cps.size ∧ ∃ c, (⟨l.toArray⟩ : Str).cps[m]? = some c ∧ j = ⟨#[c]⟩) n) ht
          exact Post.lst h3 he (Post.from (g1.trans g2) p) (by simpa using rep_sings (sortU l)) q hq
        · cases he
      · split at he
        · rename_i ks hks
          split at he
          · rename_i hz
            rw [Bool.and_eq_true, decide_eq_true_eq] at hz
            have ev := h2.intsR hks
            rw [ev] at h1
            refine .inr (.inr ⟨a, ks, rfl, h1, hz.1, fun t n ht hn => ?_⟩)
            have hn' : n < 64 := by omega
            refine .inr ⟨t, _, n, rfl, upd_same, hn', fun ns q hp hm _ hq => ?_⟩
            have g2 : Gr φ1 s1 H1 φ1 s1 (upd H1 t (SetO X.w t (fun j => decide (j ∈ ks)) n)) := Gr.free A1.hr ht
            have h3 := A1.hr.free (o := SetO X.w t (fun j => decide (j ∈ ks)) n) ht
            have en : ns = ks := upI_uniq hp (risI_up hz.2) fun x => (hm x).trans (by simp)
            rw [en]
            exact Post.lst h3 he (Post.from (g1.trans g2) p) (ev ▸ h2.mono g2) q hq
          · cases he
        · cases he
    · cases he
end
end Fl
namespace MinT
open PySem PySem.Spec PyProof.Rows L2 Ob
section
open PySem.SeqAt
open PySem.AutoSeq1 (wpAny_loadPart')
open PySem.MeetsSeq PySem.MeetsSeq2 PySem.MeetsSeq3
theorem tup_lt_at (l b : Addr) (items items2 : Array Value) (n n2 : Nat) (dd dd2 : Option Addr) (sl sl2 : Array (Option Value)) (m : Nat) (c : Bool) :
    Meets (Builtin.«tuple.__lt__» ⟨[.ref l, .ref b], []⟩)
      (fun A R s => s.heap.get? l = some { cls := .type "tuple", dict := dd, data := .seq items n, slots := sl } ∧ s.heap.get? b = some { cls := .type "tuple", dict := dd2, data := .seq items2 n2, slots := sl2 } ∧
        (m < items.size ∧ m < items2.size) ∧ (∀ j (h1 : j < items.size) (h2 : j < items2.size), j < m → EqAt A.in1 s items[j] items2[j] true) ∧
        (∀ (h1 : m < items.size) (h2 : m < items2.size), EqAt A.in1 s items[m] items2[m] false ∧ Ob.RcOp .Lt A.in1 s items[m] items2[m] c) ∧
        R (.ok (.ret (.bool c))) s) :=
  .of_wp fun prog w A R s h => by
    obtain ⟨hp, g, d, tk, os⟩ := s; obtain ⟨hl, hb, hm, he, hr, h⟩ := h
    have f2 := AutoSeq1.sub_tuple_tuple
    have hZ : (items.toList.zip items2.toList).length = min items.size items2.size := by simp
    wp_walk using wpAny_loadPart' hl, wpAny_loadPart' hb, wpAny_forIn_list _ (fun rest b s' => b.1 = none ∧ s' = ⟨hp, g, d, tk, os⟩ ∧ ∃ i, i ≤ m ∧ rest = (items.toList.zip items2.toList).drop i) _
    case turn =>
      rintro ⟨y, x⟩ rest b s' ⟨hb', rfl, i, him, hz⟩
      have h1 : i < items.size := by omega
      have h2 : i < items2.size := by omega
      have hlt : i < (items.toList.zip items2.toList).length := by rw [hZ]; omega
      rw [List.drop_eq_getElem_cons hlt] at hz
      injection hz with hyx hrest
      have hy : y = items[i] := by have := congrArg Prod.fst hyx; simpa using this
      have hx : x = items2[i] := by have := congrArg Prod.snd hyx; simpa using this
      subst hy hx
      by_cases hi : i < m
      · refine wpAny_bind (he i h1 h2 hi prog w _ _ ?_)
        wp_walk
        exact ⟨rfl, rfl, i + 1, hi, hrest⟩
      · have him' : i = m := by omega
        subst him'
        obtain ⟨q1, q2⟩ := hr h1 h2
        refine wpAny_bind (q1 prog w _ _ ?_)
        have hri := q2 prog w
        wp_walk using hri
        exact ⟨_, rfl, by simpa using h⟩
    case fin =>
      rintro ⟨b1, b2⟩ s' ⟨hb', rfl, i, him, hz⟩
      exfalso
      have hlt : i < (items.toList.zip items2.toList).length := by rw [hZ]; omega
      rw [List.drop_eq_getElem_cons hlt] at hz
      cases hz
    case h =>
      exact ⟨rfl, rfl, 0, Nat.zero_le _, rfl⟩
end
theorem rc_at {A : Around} {s : Shared} {l b : Addr} {items items2 : Array Value} {m : Nat} {c : Bool} (hl : s.heap.IsTuple l items) (hb : s.heap.IsTuple b items2) (hu : A.units < cLine) (hm : m < items.size ∧ m < items2.size)
    (he : ∀ j (h1 : j < items.size) (h2 : j < items2.size), j < m → SeqAt.EqAt A.in1 s items[j] items2[j] true)
    (hr : ∀ (h1 : m < items.size) (h2 : m < items2.size), SeqAt.EqAt A.in1 s items[m] items2[m] false ∧ Ob.RcOp .Lt A.in1 s items[m] items2[m] c) :
    Ob.RcOp .Lt A s (.ref l) (.ref b) c := fun prog w E Q h => by
  obtain ⟨⟨cls, dd, data, sl⟩, ho, hc, n, hd⟩ := id hl
  obtain ⟨⟨cls2, dd2, data2, sl2⟩, ho2, hc2, n2, hd2⟩ := id hb
  simp only at hc hd hc2 hd2
  subst hc hd hc2 hd2
  exact richCompare_meets_room (op := .Lt) ⟨_, ho, rfl⟩ ⟨_, ho2, rfl⟩ F.slot_tuple_lt F.entry_tuple_lt (F.args_tuple_lt_2 _ _) (tup_lt_at l b items items2 n n2 dd dd2 sl sl2 m c)
    ⟨ho, ho2, hm, he, hr, ⟨(fun x => nomatch x), h⟩⟩ hu
theorem rc_str {A : Around} {s : Shared} (x y : Str) (t u : Tok) : Ob.RcOp .Lt A s (.str x t) (.str y u) (decide (x.cps.toList < y.cps.toList)) := fun prog w E Q h => lt_str h
/-- the order of two such tuples -/
def lt2 (a : Str) (i : Int) (b : Str) (j : Int) : Bool := if a = b then decide (i < j) else decide (a.cps.toList < b.cps.toList)
theorem rc_ev {A : Around} {s : Shared} {l b : Addr} {x y : Str} {i j : Int} {t u t' u' : Tok} {r1 r2 : List Value} (hl : s.heap.IsTuple l (.str x t :: .int i u :: r1).toArray) (hb : s.heap.IsTuple b (.str y t' :: .int j u' :: r2).toArray) (hu : A.units < cLine) (hne : x = y → i ≠ j) :
    Ob.RcOp .Lt A s (.ref l) (.ref b) (lt2 x i y j) := by
  by_cases c : x = y
  · subst c
    have hij := hne rfl
    have e : lt2 x i x j = decide (i < j) := if_pos rfl
    rw [e]
    refine rc_at (m := 1) hl hb hu ⟨by simp, by simp⟩ (fun k h1 h2 hk => ?_) fun h1 h2 => ?_
    · have : k = 0 := by omega
      subst this
      have := SeqAt.EqAt.str_str (A := A.in1) (s := s) x t x t'
      simpa using this
    · constructor
      · have := SeqAt.EqAt.int_int (A := A.in1) (s := s) i u j u'
        have z : (i == j) = false := beq_eq_false_iff_ne.mpr hij
        rw [z] at this
        simpa using this
      · have := Ob.RcOp.lt_int (A := A.in1) (s := s) i j u u'
        simpa using this
  · have e : lt2 x i y j = decide (x.cps.toList < y.cps.toList) := if_neg c
    rw [e]
    refine rc_at (m := 0) hl hb hu ⟨by simp, by simp⟩ (fun k h1 h2 hk => absurd hk (Nat.not_lt_zero _)) fun h1 h2 => ?_
    constructor
    · have := SeqAt.EqAt.str_str (A := A.in1) (s := s) x t y t'
      have z : (x == y) = false := beq_eq_false_iff_ne.mpr c
      rw [z] at this
      simpa using this
    · have := rc_str (A := A.in1) (s := s) x y t t'
      simpa using this
theorem rc_same {A : Around} {s : Shared} {l : Addr} {its : Array Value} (hl : s.heap.IsTuple l its) (hu : A.units < cLine) : Ob.RcOp .Lt A s (.ref l) (.ref l) false := by
  have := Ob.RcOp.tuples_lt (A := A) (s := s) (e := fun _ => true) (r := fun _ => false) hl hl hu (fun j h1 h2 => SeqAt.EqAt.same _) (fun j h1 h2 h => by cases h)
  have e : ∀ (k i : Nat), lexAt (fun _ => true) (fun _ => false) (decide (its.size < its.size)) i k = false := by
    intro k
    induction k with
    | zero => intro i; rw [lexAt_zero]; exact decide_eq_false (Nat.lt_irrefl _)
    | succ k ih => intro i; rw [lexAt_succ, if_pos rfl]; exact ih _
  rw [e] at this
  exact this
section
variable {X : Cx}
/-- min(xs) of one or two such tuples -/
def rMinT (K : PySem.W.Frag) : List V → Hp → VK → Prop := fun vs H Q => ∃ (a : Addr), vs = [V.ref a] ∧ ((∃ (p : Addr) (ps : List V), SqL K H a [V.ref p] ∧ SqT K H p ps ∧ Q (.ref p) H) ∨
  (∃ (p q : Addr) (x y : Str) (i j : Int) (r1 r2 : List V), SqL K H a [V.ref p, V.ref q] ∧ SqT K H p (.str x :: .int i :: r1) ∧ SqT K H q (.str y :: .int j :: r2) ∧ (y = x → j ≠ i) ∧ Q (if lt2 y j x i = true then .ref q else .ref p) H))
theorem tup_keeps {h h' : Heap} {a : Addr} {its : Array Value} (p : h.IsTuple a its) (k : ∀ b o, h.get? b = some o → h'.get? b = some o) : h'.IsTuple a its := by
  obtain ⟨o, ho, r⟩ := p
  exact ⟨o, k _ _ ho, r⟩
theorem vals_ev {x : Str} {i : Int} {r : List V} {us : List Value} (h : Vals (.str x :: .int i :: r) us) : ∃ t u r', us = .str x t :: .int i u :: r' := by
  cases h with
  | cons h1 h2 =>
    cases h2 with
    | cons h3 h4 =>
      obtain ⟨t, rfl⟩ := h1
      obtain ⟨u, rfl⟩ := h3
      exact ⟨t, u, _, rfl⟩
theorem cr_minT (hc : X.calm = true) (hu : X.A.in1.units < cLine) : CallR X (.builtin "min") (rMinT X.K) := by
  intro pins s σ H vs us Q I r h
  obtain ⟨a, rfl, h⟩ := h
  rw [Vals.ref1 r]
  rcases h with ⟨p, ps, hs, ht, q⟩ | ⟨p, q, x, y, i, j, r1, r2, hs, hp, hq, hne, qq⟩
  · obtain ⟨its, rv, hl, _⟩ := I.list hs
    obtain ⟨pits, -, pt, -⟩ := I.tuple ht
    obtain ⟨u, rfl, ru⟩ := vals1 rv
    cases ru
    refine call_min_walkH (PySem.W.iter_listW (A := X.A.in1) (I.ok.hd hc) hl.isList fun s₂ e W st hfp hw hk => ?_)
    refine ⟨_, _, _, _, _, _, _, s.heap, fun _ _ => false, rfl, W, st, hfp, by simp, hw, hk, ?_, fun v s' hP m => ?_⟩
    · intro k1 k2 v1 v2 s' Q' E' keep e1 e2 hq
      have z1 : v1 = .ref p := by
        match k1, e1 with
        | 0, e1 => simpa using e1.symm
        | k + 1, e1 => simp at e1
      have z2 : v2 = .ref p := by
        match k2, e2 with
        | 0, e2 => simpa using e2.symm
        | k + 1, e2 => simp at e2
      subst z1 z2
      exact rc_same (tup_keeps pt keep) hu _ _ _ _ hq
    · obtain ⟨h', tk, rfl, hk'⟩ := PySem.W.moved_old e rfl m
      have hv : v = .ref p := by simpa [argBest] using hP.symm
      subst hv
      exact ⟨V.ref p, H, I.kept hk', rfl, q⟩
  · obtain ⟨its, rv, hl, _⟩ := I.list hs
    obtain ⟨u, w, rfl, ru, rw'⟩ := vals2 rv
    cases ru
    cases rw'
    obtain ⟨its1, v1, t1, -⟩ := I.tuple hp
    obtain ⟨its2, v2, t2, -⟩ := I.tuple hq
    obtain ⟨a1, a2, a3, rfl⟩ := vals_ev v1
    obtain ⟨b1, b2, b3, rfl⟩ := vals_ev v2
    refine call_min_walkH (PySem.W.iter_listW (A := X.A.in1) (I.ok.hd hc) hl.isList fun s₂ e W st hfp hw hk => ?_)
    refine ⟨_, _, _, _, _, _, _, s.heap, (fun k1 k2 => if k1 = k2 then false else if k1 = 0 then lt2 x i y j else lt2 y j x i), rfl, W, st, hfp, by simp, hw, hk, ?_, fun v s' hP m => ?_⟩
    · intro k1 k2 v1' v2' s' Q' E' keep e1 e2 hq
      have at_ : ∀ (k : Nat) (v : Value), #[Value.ref p, Value.ref q][k]? = some v → (k = 0 ∧ v = .ref p) ∨ (k = 1 ∧ v = .ref q) := fun k v e => by
        match k, e with
        | 0, e => exact .inl ⟨rfl, by simpa using e.symm⟩
        | 1, e => exact .inr ⟨rfl, by simpa using e.symm⟩
        | k + 2, e => simp at e
      have T1 := tup_keeps t1 keep
      have T2 := tup_keeps t2 keep
      rcases at_ k1 v1' (by simpa using e1) with ⟨rfl, rfl⟩ | ⟨rfl, rfl⟩ <;> rcases at_ k2 v2' (by simpa using e2) with ⟨rfl, rfl⟩ | ⟨rfl, rfl⟩
      · exact rc_same T1 hu _ _ _ _ hq
      · exact rc_ev T1 T2 hu (fun e => Ne.symm (hne e.symm)) _ _ _ _ hq
      · exact rc_ev T2 T1 hu hne _ _ _ _ hq
      · exact rc_same T2 hu _ _ _ _ hq
    · obtain ⟨h', tk, rfl, hk'⟩ := PySem.W.moved_old e rfl m
      have hv : v = if lt2 y j x i = true then .ref q else .ref p := by
        by_cases c : lt2 y j x i = true
        · rw [if_pos c]
          have e0 : argBest (fun k1 k2 => if k1 = k2 then false else if k1 = 0 then lt2 x i y j else lt2 y j x i) 1 = 1 := by
            simp [argBest, c]
          have hP' : #[Value.ref p, Value.ref q][1]? = some v := by rw [← e0]; exact hP
          simpa using hP'.symm
        · rw [if_neg c]
          have e0 : argBest (fun k1 k2 => if k1 = k2 then false else if k1 = 0 then lt2 x i y j else lt2 y j x i) 1 = 0 := by
            simp [argBest, c]
          have hP' : #[Value.ref p, Value.ref q][0]? = some v := by rw [← e0]; exact hP
          simpa using hP'.symm
      subst hv
      refine ⟨_, H, I.kept hk', ?_, qq⟩
      by_cases c : lt2 y j x i = true
      · rw [if_pos c, if_pos c]
        rfl
      · rw [if_neg c, if_neg c]
        rfl
end
end MinT
namespace Fl
open PySem L2
section
variable {G : Glob} {φ : Mp} {s s' : S} {H : Hp} {d : D} {Q : VK} {K : PySem.W.Frag}
theorem rep_tup {x : List D} {v : V} (r : Rep φ s H (.tup x) v) : ∃ p vs, v = .ref p ∧ SqT K H p vs ∧ RepL φ s H x vs := by
  simp only [Rep] at r
  obtain ⟨a, vs, rfl, h1, -, h3⟩ := r
  exact ⟨a, vs, rfl, .inl (Rd.of h1), h3⟩
theorem rep_ev {a : List Nat} {i : Int} {r : List D} {vs : List V} (h : RepL φ s H (.str a :: .int i :: r) vs) : ∃ r', vs = .str ⟨a.toArray⟩ :: .int i :: r' := by
  simp only [RepL, Rep] at h
  obtain ⟨v, vs', rfl, rfl, w, vs'', rfl, rfl, -⟩ := h
  exact ⟨vs'', rfl⟩
theorem minT_ok {ds : List D} {vs : List V} (hkk : φ.K = K) (h : HR G φ s H) (r : RepL φ s H ds vs) (e : minTD s ds = some (.ok d, s')) (p : Post G φ s H s' d Q) : MinT.rMinT K vs H Q := by
  unfold minTD at e
  split at e
  · obtain ⟨e1, rfl⟩ := lft_inv e
    obtain ⟨xs, e3, e4⟩ := Option.bind_eq_some_iff.mp e1
    simp only [RepL] at r
    obtain ⟨v, w, rfl, r1, rfl⟩ := r
    obtain ⟨a, vs, rfl, h1, h2⟩ := r1.lcont h e3
    rw [hkk] at h1
    unfold minTL at e4
    split at e4
    · rename_i x
      cases e4
      simp only [RepL] at h2
      obtain ⟨v, w, rfl, r2, rfl⟩ := h2
      obtain ⟨q, ws, rfl, k1, k2⟩ := rep_tup (K := K) r2
      exact ⟨a, rfl, .inl ⟨q, ws, h1, k1, p.here h r2⟩⟩
    · rename_i x y
      obtain ⟨b, e5, e6⟩ := Option.map_eq_some_iff.mp e4
      unfold ltEv at e5
      split at e5
      · rename_i a1 i1 t1 a2 i2 t2
        simp only [RepL] at h2
        obtain ⟨v, w, rfl, r2, v2, w2, rfl, r3, rfl⟩ := h2
        obtain ⟨q, ws, rfl, k1, k2⟩ := rep_tup (K := K) r2
        obtain ⟨q', ws', rfl, k1', k2'⟩ := rep_tup (K := K) r3
        obtain ⟨z, rfl⟩ := rep_ev k2
        obtain ⟨z', rfl⟩ := rep_ev k2'
        have inj : (⟨a1.toArray⟩ : Str) = ⟨a2.toArray⟩ ↔ a1 = a2 := by
          constructor
          · intro q
            have := congrArg (fun x : Str => x.cps.toList) q
            simpa using this
          · rintro rfl
            rfl
        refine ⟨a, rfl, .inr ⟨q, q', _, _, i2, i1, z, z', h1, k1, k1', ?_, ?_⟩⟩
        · intro q0 q1
          have := inj.mp q0
          subst this
          subst q1
          rw [if_pos rfl, if_pos rfl] at e5
          cases e5
        · have eb : MinT.lt2 ⟨a1.toArray⟩ i1 ⟨a2.toArray⟩ i2 = b := by
            unfold MinT.lt2
            by_cases c : a1 = a2
            · rw [if_pos (inj.mpr c)]
              rw [if_pos c] at e5
              split at e5
              · cases e5
              · cases e5
                rfl
            · rw [if_neg (fun q => c (inj.mp q))]
              rw [if_neg c] at e5
              cases e5
              simp
          rw [eb]
          subst e6
          cases b
          · exact p.here h r2
          · exact p.here h r3
      · cases e5
    · cases e4
  · cases e
end
end Fl
namespace Fl
open PySem L2 PySem.Spec PyProof.Rows
theorem bestD_eq (f : Nat → Nat → Bool) : ∀ n, bestD f n = argBest f n
  | 0 => rfl
  | n + 1 => by
    show (if f (n + 1) (bestD f n) = true then n + 1 else bestD f n) = _
    rw [bestD_eq f n]
    rfl
def rMinE (K : PySem.W.Frag) : List V → Hp → VK → Prop := fun xs H Q => ∃ (a : Addr) (vs : List V) (ds : List PyData) (v : V), xs = [.ref a] ∧ SqL K H a vs ∧ DqL K H vs ds ∧ PySem.W.AlikeAll ds ∧ PyData.depthAll ds ≤ 100 ∧
  vs[argBest (fun i j => PySem.W.dataLt (ds.getD i .none) (ds.getD j .none)) (ds.length - 1)]? = some v ∧ Q v H
theorem cr_minE {X : Cx} (hc : X.calm = true) (hu : X.A.units + 200 < cLine) : CallR X (.builtin "min") (rMinE X.K) := by
  intro pins s σ H xs us Q I r h
  obtain ⟨a, vs, ds, v, rfl, hs, hd, ha, hz, hv, q⟩ := h
  rw [Vals.ref1 r]
  obtain ⟨its, rv, hl, _⟩ := I.list hs
  obtain ⟨as, rd⟩ := (DqL.sh I hd rv).reads
  have hn : its.length = ds.length := PySem.W.readsAll_len (by simpa using rd)
  have hlen := rv.length
  refine PySem.call_min_walkH (PySem.W.iter_listW (A := X.A.in1) (I.ok.hd hc) hl.isList fun s₂ e W st hfp hw hk => ?_)
  refine ⟨_, _, _, _, _, _, _, s.heap, _, rfl, W, st, hfp, ?_, hw, hk, PySem.W.cmpIn_lt (A := X.A.in1) (xs := ds) (by simpa using rd) ha (by show X.A.units + 1 + _ < _; omega), fun u s' hP m => ?_⟩
  · cases hvv : vs with
    | nil => rw [hvv] at hv; simp at hv
    | cons y ys => rw [hvv] at hlen; simp at hlen ⊢; omega
  · obtain ⟨h', tk, rfl, hk'⟩ := PySem.W.moved_old e rfl m
    obtain ⟨u', e1, r1⟩ := rv.get hv
    have e2 : its.toArray.size - 1 = ds.length - 1 := by simp [hn]
    rw [e2] at hP
    have hP' : its[argBest (fun i j => PySem.W.dataLt (ds.getD i .none) (ds.getD j .none)) (ds.length - 1)]? = some u := by simpa using hP
    rw [e1] at hP'
    cases hP'
    exact ⟨v, H, I.kept hk', r1, q⟩
/-- what shows it -/
theorem showsBy_sh {prog : Program} {w : World} {h₀ : Heap} {a : Addr} {d : PyData} (r : Sh h₀ (.ref a) d) (hs : d.showable = true) (hz : d.shown.length ≤ sizeLine) : ∃ T idr, ShowsBy prog w h₀ a d T idr := by
  cases r with
  | lst h1 h2 h3 h4 =>
    rename_i o vs n xs
    have hz' : (listText (PyData.shownAll xs)).length ≤ sizeLine := by simpa only [PyData.shown] using hz
    obtain ⟨as, rr⟩ := (Sh.lst h1 h2 h3 h4).reads
    obtain ⟨bs, hb, hk⟩ := ShL.rk (P := prog) (w := w) h4 (by simpa [PyData.showable] using hs) fun t ht => Nat.le_trans (listText_mem_le ht) hz'
    have hna : a ∉ bs := not_mem_of_deeper rr (by simp only [PyData.depth]; omega) hb
    refine ⟨"list", "list.__repr__", F.slot_list_repr.toG, F.slot_list_str, F.slot_list_format, fun s hk0 => ⟨o, hk0 _ _ h1, h2⟩, fun A E s Q hg hu hk0 hQ => ?_⟩
    simp only [PyData.depth] at hu
    simp only [PyData.shown] at hQ
    obtain ⟨l⟩ := vs
    cases l with
    | nil =>
      cases (show ShL h₀ [] xs from h4)
      simp only [PyData.shownAll, listText_nil] at hQ
      exact call_list_repr_empty ⟨o, hk0 _ _ h1, h2⟩ (hk0 _ _ h1) h3 (hQ s.heap _ _ fun _ _ e => e)
    | cons x l => exact call_list_reprK h1 h2 h3 hna (by simpa using hk.length_eq) (fun i y e => hk.item i y (by simpa using e)) hg (fun b _ => Clear.nil b) hu hk0 hQ hz'
  | tup h1 h2 h3 h4 =>
    rename_i o vs n xs
    have hz' : (tupleText (PyData.shownAll xs)).length ≤ sizeLine := by simpa only [PyData.shown] using hz
    obtain ⟨as, rr⟩ := (Sh.tup h1 h2 h3 h4).reads
    obtain ⟨bs, hb, hk⟩ := ShL.rk (P := prog) (w := w) h4 (by simpa [PyData.showable] using hs) fun t ht => Nat.le_trans (tupleText_mem_le ht) hz'
    have hna : a ∉ bs := not_mem_of_deeper rr (by simp only [PyData.depth]; omega) hb
    refine ⟨"tuple", "tuple.__repr__", F.slot_tuple_repr, F.slot_tuple_str, F.slot_tuple_format, fun s hk0 => ⟨o, hk0 _ _ h1, h2⟩, fun A E s Q hg hu hk0 hQ => ?_⟩
    simp only [PyData.depth] at hu
    simp only [PyData.shown] at hQ
    exact call_tuple_reprK h1 h2 h3 hna hk hg (fun b _ => Clear.nil b) hu hk0 hQ hz'
  | dct h1 h2 h3 hy h4 h5 =>
    rename_i o es n kvs
    have hz' : (dictText (PyData.shownKv kvs)).length ≤ sizeLine := by simpa only [PyData.shown] using hz
    obtain ⟨s1, s2⟩ := PyData.showableKv_split kvs (by simpa [PyData.showable] using hs)
    obtain ⟨b1, hb1, k1⟩ := ShL.rk (P := prog) (w := w) h4 s1 fun t ht => let ⟨p, hp, hl⟩ := PyData.shownKv_key_le kvs t ht; Nat.le_trans hl (Nat.le_trans (dictText_mem_le hp) hz')
    obtain ⟨b2, hb2, k2⟩ := ShL.rk (P := prog) (w := w) h5 s2 fun t ht => let ⟨p, hp, hl⟩ := PyData.shownKv_val_le kvs t ht; Nat.le_trans hl (Nat.le_trans (dictText_mem_le hp) hz')
    obtain ⟨as, rr⟩ := (Sh.dct h1 h2 h3 hy h4 h5).reads
    have hb : ReadAtMost h₀ (PyData.depthKv kvs) (b1 ++ b2) := (hb1.mono (PyData.depthAll_keys_le kvs)).append (hb2.mono (PyData.depthAll_vals_le kvs))
    have hna : a ∉ b1 ++ b2 := not_mem_of_deeper rr (by simp only [PyData.depth]; omega) hb
    refine ⟨"dict", "dict.__repr__", F.slot_dict_repr, F.slot_dict_str, F.slot_dict_format, fun s hk0 => ⟨o, hk0 _ _ h1, h2⟩, fun A E s Q hg hu hk0 hQ => ?_⟩
    simp only [PyData.depth] at hu
    simp only [PyData.shown, PyData.shownKv_eq] at hQ
    exact call_dict_reprK h1 h2 h3 hy hna (ReprEntriesK.of_two es.toList _ _ (k1.more_le (fun b z => List.mem_append_left _ z) (PyData.depthAll_keys_le kvs)) (k2.more_le (fun b z => List.mem_append_right _ z) (PyData.depthAll_vals_le kvs)))
      hg (fun b _ => Clear.nil b) hu hk0 hQ (by rw [← PyData.shownKv_eq]; exact hz')
/-- str of a thing on the heap -/
theorem str_ref {P : Program} {w : World} {A : Around} {E : Value → Shared → Prop} {s : Shared} {a : Addr} {d : PyData} {Q : Value → Shared → Prop} (r : Sh s.heap (.ref a) d) (hs : d.showable = true) (hg : A.guards = some []) (hu : A.units + (d.depth + 3) < cLine)
    (hQ : ∀ h' u tk, (∀ b o, s.heap.get? b = some o → h'.get? b = some o) → Q (.str d.shown u) { s with heap := h', toks := tk }) (hz : d.shown.length ≤ sizeLine) : wpAny (model P w) A (call (.type "str") [.ref a]) Q E s := by
  refine callType_new F.called_str (by decide) (F.typeCall_str_1 _) (F.newCall_str_1 _) (fun obj => F.args_object_init_2 obj _) F.entry_str_new
    (meets_str_new (S := fun A' R s' => A'.guards = some [] ∧ A'.units + (d.depth + 2) < cLine ∧ (∀ b o, s.heap.get? b = some o → s'.heap.get? b = some o) ∧
        ∀ h' u tk, (∀ b o, s'.heap.get? b = some o → h'.get? b = some o) → R (.ok (.ret (.str d.shown u))) { s' with heap := h', toks := tk })
      fun prog' w' A' R s' h => ?_)
    ⟨hg, by show A.units + 1 + (d.depth + 2) < cLine; omega, fun _ _ e => e, fun h' u tk hk => ⟨typeIs_str _ _ _, hQ h' u tk hk⟩⟩
  obtain ⟨T, idr, S⟩ := showsBy_sh (prog := prog') (w := w') r hs hz
  have h2 := h.2.1
  exact wpAny_strOf_slot rfl (by show A'.units + 1 + 1 < cLine; omega) (S.typeIs s' h.2.2.1) S.slotStr S.slotRepr (S.call A'.in1.in1 _ s' _ h.1 (by show A'.units + 1 + 1 + d.depth < cLine; omega) h.2.2.1 fun h' u tk hk => ⟨_, _, rfl, h.2.2.2 h' u tk hk⟩)
def rStr (K : PySem.W.Frag) : List V → Hp → VK → Prop := fun xs H Q => (∃ z, xs = [.str z] ∧ Q (.str z) H) ∨ ((∀ z, xs ≠ [.str z]) ∧ rRepr K xs H Q)
theorem call_str {X : Cx} (hu : X.A.units + 4499 < cLine) (hg : X.A.guards = some []) : CallR X (.type "str") (rStr X.K) := by
  intro pins s σ H xs us Q I r h
  rcases h with ⟨z, rfl, q⟩ | ⟨hne, x, d, rfl, hd, hs, hk, hz, q⟩
  · obtain ⟨u, rfl, t, rfl⟩ := vals1 r
    exact PySem.P.str_of_str ⟨.str z, H, I, ⟨t, rfl⟩, q⟩
  obtain ⟨u, rfl, ru⟩ := vals1 r
  have sh := Dq.sh I hd ru
  cases hd with
  | non =>
    cases ru
    simp only [PyData.shown] at q
    exact PySem.P.str_of_none ⟨.str _, H, I.tok _, ⟨_, rfl⟩, q⟩
  | bl b =>
    cases ru
    simp only [PyData.shown] at q
    exact PySem.P.str_of_bool ⟨.str _, H, I.tok _, ⟨_, rfl⟩, q⟩
  | int i =>
    obtain ⟨t, rfl⟩ := ru
    simp only [PyData.shown] at q
    exact PySem.P.str_of_int (by simpa [PyData.showable] using hs) ⟨.str _, H, I.tok _, ⟨_, rfl⟩, q⟩
  | str z => exact absurd rfl (hne z)
  | lst h1 h2 =>
    cases ru
    exact str_ref sh hs hg (by omega) (fun h' u tk k => ⟨.str _, H, I.kept (t' := tk) k, ⟨_, rfl⟩, q⟩) hz
  | tup h1 h2 =>
    cases ru
    exact str_ref sh hs hg (by omega) (fun h' u tk k => ⟨.str _, H, I.kept (t' := tk) k, ⟨_, rfl⟩, q⟩) hz
  | dct h1 h2 h3 =>
    cases ru
    exact str_ref sh hs hg (by omega) (fun h' u tk k => ⟨.str _, H, I.kept (t' := tk) k, ⟨_, rfl⟩, q⟩) hz
section
variable {G : Glob} {φ : Mp} {s s' : S} {H : Hp} {d : D} {Q : VK} {K : PySem.W.Frag}
theorem strA_ok {ds : List D} {vs : List V} (hkk : φ.K = K) (h : HR G φ s H) (r : RepL φ s H ds vs) (e : strD s ds = some (.ok d, s')) (p : Post G φ s H s' d Q) : (∃ i, vs = [.int i] ∧ i.natAbs.log2 < 1920 ∧ Q (.str (toString i)) H) ∨ rStr K vs H Q := by
  unfold strD at e
  split at e
  · rename_i i
    split at e
    · rename_i hz
      exact .inl (str_ok (ds := [.int i]) h r (by show (if i.natAbs < 2 ^ 1900 then _ else _) = _; rw [if_pos hz]; exact e) p)
    · cases e
  · rename_i x
    cases e
    simp only [RepL, Rep] at r
    obtain ⟨v, w, rfl, rfl, rfl⟩ := r
    exact .inr (.inl ⟨_, rfl, p.here h (by simp only [Rep])⟩)
  · rename_i x h1 h2
    obtain ⟨e2, rfl⟩ := lft_inv e
    unfold reprD at e2
    obtain ⟨z, e3, e2⟩ := Option.bind_eq_some_iff.mp e2
    split at e2
    · rename_i hz
      cases e2
      unfold rpOk at hz
      simp only [Bool.and_eq_true, decide_eq_true_eq] at hz
      obtain ⟨⟨⟨k1, k2⟩, k3⟩, k4⟩ := hz
      simp only [RepL] at r
      obtain ⟨v, w, rfl, r1, rfl⟩ := r
      refine .inr (.inr ⟨fun z q => ?_, v, z, rfl, pdO_dq hkk h _ x e3 r1, k1, k3, ?_, p.here h ?_⟩)
      · cases q
        cases x with
        | str y => exact h2 y rfl
        | _ => simp [Rep] at r1
      · have := PyData.shown_le 120 (by decide) z k2
        rw [sizeLine_eq]
        omega
      · simp only [Rep]
    · cases e2
  · cases e
theorem depthAll_le_of : True := trivial
theorem minE_ok {ds : List D} {vs : List V} (hkk : φ.K = K) (h : HR G φ s H) (r : RepL φ s H ds vs) (e : minED s ds = some (.ok d, s')) (p : Post G φ s H s' d Q) : rMinE K vs H Q := by
  unfold minED at e
  split at e
  · split at e
    · rename_i xs hx
      split at e
      · rename_i zs hz
        split at e
        · rename_i hc
          obtain ⟨e2, rfl⟩ := lft_inv e
          simp only [RepL] at r
          obtain ⟨v, w, rfl, r1, rfl⟩ := r
          obtain ⟨a, ws, rfl, hs, hr⟩ := r1.lcont h hx
          rw [hkk] at hs
          obtain ⟨u, e3, ru⟩ := hr.get e2
          simp only [Bool.and_eq_true, decide_eq_true_eq, List.all_eq_true] at hc
          obtain ⟨h1, h2⟩ := hc
          refine ⟨a, ws, zs, u, rfl, hs, pdOs_dq hkk h _ xs hz hr, ⟨fun x hx y hy => (h1 x hx).2 y hy, fun x hx q => ?_⟩, h2, by rw [← bestD_eq]; exact e3, p.here h ru⟩
          have := (h1 x hx).1
          rw [q] at this
          cases this
        · cases e
      · cases e
    · cases e
  · cases e
end
def tDenm (K : PySem.W.Frag) (te : TE) : TE := fun σ H Q => te σ H fun x H1 => ∃ (a : Addr) (xs : List V), x = .ref a ∧ SqL K H1 a xs ∧ ∀ p, H1 p = none → Q (.ref p) (upd H1 p (.dK (mergeK [] (kvE 0 xs))))
section
variable {X : Cx}
theorem kv_enum : ∀ {xs : List V} {its : List Value} (i : Nat), Vals xs its → KV (kvE i xs) (its.zipIdx i |>.map fun q => ((.inl (q.2 : Int) : Key), q.1))
  | [], _, i, .nil => .nil
  | x :: xs, _, i, .cons h t => .cons ⟨rfl, h⟩ (kv_enum (i + 1) t)
theorem pe_denm {e : Expr} {te : TE} {p p2 pos pos2 : Pos} (hc : X.calm = true) (he : PE X e te) (hgl : Gl X "dict") (hml : X.mg "dict" = none) (hge : Gl X "enumerate") (hme : X.mg "enumerate" = none) (na : starEach [e] X.env = (false, eval e X.env) :: starEach [] X.env) :
    PE X (.Call (.Name "dict" p) [.Call (.Name "enumerate" p2) [e] [] pos2] [] pos) (tDenm X.K te) := by
  refine ⟨fun pins s σ H Q I hq => ?_⟩
  have na2 : starEach [.Call (.Name "enumerate" p2) [e] [] pos2] X.env = (false, eval (.Call (.Name "enumerate" p2) [e] [] pos2) X.env) :: starEach [] X.env := rfl
  refine PyProof.Rows.Call_ (ld_blt I hgl hml PyProof.Rows.boot_dict (PyProof.Rows.callWith_type1 (PyProof.Rows.args_cons ?_ na2) na2 rfl))
  refine PyProof.Rows.Call_ (ld_blt I hge hme PyProof.Rows.boot_enumerate ?_)
  refine PyProof.Rows.callWith_type1 (PyProof.Rows.args_cons (thn (he.run pins s σ H _ I hq) fun v s1 ⟨x, H1, I1, r1, q1⟩ => PyProof.Rows.args_nil ?_) na) na rfl
  obtain ⟨a, xs, rfl, hsq, q⟩ := q1
  cases r1
  obtain ⟨its, rv, p', hz⟩ := I1.list hsq
  refine call_enumerate_list p'.isList fun h2 he2 hit hsz hk => PyProof.Rows.args_nil ?_
  have ha : a < s1.heap.objs.size := let ⟨_, ho, _⟩ := p'.isList; Heap.lt_size ho
  refine PySem.call_dict_pairs (s := { s1 with heap := h2 }) (knd := mixKind X.prog X.w) (PairArg.enumerate _ _ a (Nat.succ_ne_self _) (Nat.ne_of_lt (Nat.lt_succ_of_lt ha)) (Nat.ne_of_lt ha) its.toArray) (I1.ok.hd hc) ⟨⟨_, he2⟩, hit, p'.isList.at fun o y => hk _ o y⟩
    (kvs := (its.zipIdx 0).map fun q => ((.inl (q.2 : Int) : Key), q.1)) ⟨by simp, fun i key v hr => ?_⟩ (by rw [List.size_toArray, ← rv.length]; exact hz) fun h' tk hd' k => ?_
  · obtain ⟨⟨t, rfl⟩, hv⟩ := hr
    refine ⟨.inl (i : Int), ?_, ?_⟩
    · have hv' : its[i]? = some v := by simpa using hv
      simp [hv']
    · exact kV_is (P := X.prog) (w := X.w) (k := .inl (i : Int)) ⟨t, rfl⟩
  · have hkk : ∀ b o, s1.heap.get? b = some o → h'.get? b = some o := fun b o y => k b o (by
      have := Heap.lt_size y
      simp only [List.mem_cons, List.not_mem_nil, or_false, not_or]
      exact ⟨Nat.ne_of_lt (Nat.lt_succ_of_lt this), Nat.ne_of_lt this⟩) (hk b o y)
    have hle : s1.heap.objs.size ≤ h2.objs.size := by omega
    have hm : (h2.objs.size == sysModules) = false := beq_eq_false_iff_ne.mpr (Nat.ne_of_gt (Nat.lt_of_lt_of_le I1.big hle))
    have hlen : (mergeK [] (kvE 0 xs)).length ≤ sizeLine := by
      refine Nat.le_trans (length_mergeK (kvE 0 xs) []) ?_
      rw [List.length_nil, Nat.zero_add, kvE_len]
      exact hz
    exact ⟨.ref h2.objs.size, upd H1 h2.objs.size (.dK (mergeK [] (kvE 0 xs))), I1.laid (t' := tk) hkk hle (show ObjOk X.prog X.w _ _ _ (.dK (mergeK [] (kvE 0 xs))) from ⟨hlen, hm, merged [] _, KV.merge (kv_enum 0 rv) .nil, hd'⟩), rfl, q _ (I1.hok.fresh hle)⟩
end
section
variable {G : Glob} {cf : CF} {X : Cx} {a : Expr} {ca : E} {pos : Pos}
theorem kr_enum {φ : Mp} {s : S} {H : Hp} : ∀ {xs : List D} {vs : List V} (i : Nat), RepL φ s H xs vs → KR φ s H (denL i xs) (kvE i vs)
  | [], vs, i, h => by
    simp only [RepL] at h
    subst h
    rfl
  | x :: xs, vs, i, h => by
    simp only [RepL] at h
    obtain ⟨v, w, rfl, h1, h2⟩ := h
    exact ⟨v, kvE (i + 1) w, rfl, h1, kr_enum (i + 1) h2⟩
theorem c_denm {p p2 pos2 : Pos} (hK : X.K = G.K) (hc : X.calm = true) (hgl : Gl X "dict") (hml : X.mg "dict" = none) (hge : Gl X "enumerate") (hme : X.mg "enumerate" = none) (ha : PE X a (rE G cf ca)) (na : starEach [a] X.env = (false, eval a X.env) :: starEach [] X.env) :
    PE X (.Call (.Name "dict" p) [.Call (.Name "enumerate" p2) [a] [] pos2] [] pos) (rE G cf (.denm ca)) := by
  refine PE.imp (pe_denm hc ha hgl hml hge hme na) fun σ H Q h => ?_
  obtain ⟨φ, s, r, A, d, s', he, p⟩ := h
  simp only [ev] at he
  obtain ⟨x, s1, e1, he⟩ := bnd_inv he
  refine rd_step A e1 fun φ1 H1 v g1 A1 rv => ?_
  split at he
  · rename_i xs hx
    cases he
    obtain ⟨q, vs, rfl, h1, l⟩ := rv.lcont A1.hr hx
    rw [A1.hr.k.trans hK.symm] at h1
    refine ⟨q, vs, rfl, h1, fun z hz => ?_⟩
    have hf : KR φ1 s1 H1 ((denL 0 xs).foldl (fun acc kv => dput acc kv.1 kv.2) []) (mergeK [] (kvE 0 vs)) := KRg.fold (kr_enum 0 l) (show KR φ1 s1 H1 [] [] from rfl)
    have g : Gr φ1 s1 H1 (Fl.bx φ1 s1.nx z) (s1.new (.dic ((denL 0 xs).foldl (fun acc kv => dput acc kv.1 kv.2) []))) (upd H1 z (.dK (mergeK [] (kvE 0 vs)))) := Gr.box A1.hr hz
    refine p _ _ _ (g1.trans g) (A1.hr.box hz ⟨_, upd_same, KRg.mono g hf⟩) ?_
    simp only [Rep]
    exact ⟨z, rfl, by show (if s1.nx = s1.nx then some z else φ1 s1.nx) = some z; rw [if_pos rfl]⟩
  · cases he
end
def tDispT (tk tv : TE) : TE := fun σ H Q => ∀ p, H p = none → tk σ (upd H p (.dT [])) fun x H1 => tv σ H1 fun y H2 => H2 p = some (.dT []) ∧ ∃ (b : Addr) (ks : List Key), x = .ref b ∧ H2 b = some (.tup (ks.map kV)) ∧ Q (.ref p) (upd H2 p (.dT [(ks, y)]))
theorem pe_dispT {X : Cx} {pos : Pos} {k v : Expr} {tk tv : TE} (hu : X.A.units + 1 < cLine) (hk : PE X k tk) (hv : PE X v tv) : PE X (.Dict [some k] [v] pos) (tDispT tk tv) := by
  refine ⟨fun pins s σ H Q I q => ?_⟩
  have hn := I.hok.fresh (Nat.le_refl s.heap.objs.size)
  have I1 := I.laid (a := s.heap.objs.size) (o := .dT []) (h' := s.heap.push { cls := .type "dict", data := .dict #[] }) (t' := s.toks) (fun _ _ q => Heap.get?_push_of_some _ q) (Nat.le_refl _) (dt_empty s.heap I.big)
  have hlen := pairTrees_length [some k] [v] X.env pos rfl rfl
  have hl1 : (pairTrees [some k] [v] X.env pos).length = 1 := hlen
  rw [arm_eval_Dict, zip_pairTrees [some k] [v] X.env pos rfl rfl, dictDisplay_pairs _ (fun z => by rw [z] at hl1; cases hl1) (by omega)]
  have run := (pps_cons (pos := pos) hk hv pps_nil).run pins { s with heap := s.heap.push { cls := .type "dict", data := .dict #[] } } σ (upd H s.heap.objs.size (.dT [])) (fun ps H2 => match ps with
    | [(x, y)] => H2 s.heap.objs.size = some (.dT []) ∧ ∃ (b : Addr) (ks : List Key), x = .ref b ∧ H2 b = some (.tup (ks.map kV)) ∧ Q (.ref s.heap.objs.size) (upd H2 s.heap.objs.size (.dT [(ks, y)]))
    | _ => False) I1 (q _ hn)
  refine wpAny_bind (wpAny_standAt (wpAny_bind (wpAny_subDictH (knd := tupleKind (mixKind X.prog X.w)) (show X.A.units < cLine by omega) (by omega) (thn run fun ws s2 ⟨ps, H2, I2, rel, qq⟩ => ?_))))
  split at qq
  · rename_i x y
    obtain ⟨e, b, ks, rfl, eb, q2⟩ := qq
    cases rel with
    | @cons _ w _ _ h1 h2 =>
      cases h2
      obtain ⟨r1, r2⟩ := h1
      obtain ⟨u, yv⟩ := w
      cases (show u = Value.ref b from r1)
      obtain ⟨z, hd, xs, rel, dd⟩ := dt_of I2.hok e
      have hxs : xs = [] := by
        cases rel
        rfl
      subst hxs
      refine ⟨[(ks, b, yv)], ⟨rfl, rfl, key_of I2.hok eb, trivial⟩, dd, fun h' tk dd' hs => ?_⟩
      obtain ⟨ob, es, ep, hq, h2, h3, h4, _, h5⟩ := dd'
      refine wpAny_pure ⟨.ref s.heap.objs.size, upd H2 s.heap.objs.size (.dT [(ks, y)]), ?_, rfl, q2⟩
      refine d_write (t' := tk) I2 (by rw [e]; exact True.intro) hs ⟨ob, hq⟩ ⟨by show 1 ≤ sizeLine; decide, hd, [(ks, b, yv)], .cons ⟨rfl, ?_, r2⟩ .nil, ob, es, ep, hq, h2, h3, h4, h5⟩
      rw [upd_ne (ne_of eb e (fun z => nomatch z))]
      exact eb
  · exact qq.elim
section
variable {G : Glob} {cf : CF} {X : Cx} {a b : Expr} {ca cb : E} {pos : Pos}
theorem c_dst (hu : X.A.units + 4499 < cLine) (ha : PE X a (rE G cf ca)) (hb : PE X b (rE G cf cb)) : PE X (.Dict [some a] [b] pos) (rE G cf (.dst ca cb)) := by
  refine PE.imp (pe_dispT (by omega) ha hb) fun σ H Q h => ?_
  obtain ⟨φ, s, r, A, d, s', he, p⟩ := h
  simp only [ev] at he
  obtain ⟨x, s1, e1, he⟩ := bnd_inv he
  obtain ⟨y, s2, e2, he⟩ := bnd_inv he
  split at he
  · rename_i kk hkk hm
    cases he
    intro q hq
    have g0 : Gr φ s H (Fl.bx φ s.nx q) (s.new (.dit [])) (upd H q (.dT [])) := Gr.box A.hr hq
    have hr0 : HR G (Fl.bx φ s.nx q) (s.new (.dit [])) (upd H q (.dT [])) := A.hr.box hq ⟨[], upd_same, rfl⟩
    refine rd_step (φ := Fl.bx φ s.nx q) (s := s.new (.dit [])) ⟨hr0, A.sr.mono g0⟩ e1 fun φ1 H1 xv g1 A1 rx => ?_
    refine rd_step A1 e2 fun φ2 H2 yv g2 A2 ry => ?_
    have rq : Rep φ2 s2 H2 (.ref s.nx) (.ref q) := by
      simp only [Rep]
      exact ⟨q, rfl, (g1.trans g2).mp _ _ (by show (if s.nx = s.nx then some q else φ s.nx) = some q; rw [if_pos rfl])⟩
    obtain ⟨n', q', ks, hn', e4, h0, hq2, h1, h2⟩ := dit_at (kvs := []) A2.hr rq (by simp only [tcont, hm])
    cases hn'
    cases e4
    have hks : ks = [] := h2
    subst hks
    obtain ⟨c, rfl, h4⟩ := keyT_ok (Rep.mono g2 _ rx) hkk
    have g : Gr φ2 s2 H2 φ2 (s2.put s.nx (.dit [(kk, y)])) (upd H2 q (.dT [(kk.map kyOf, yv)])) := Gr.write A2.hr hm hq2
    refine ⟨h1, c, kk.map kyOf, rfl, h4, ?_⟩
    refine p φ2 _ _ (g0.trans ((g1.trans g2).trans g)) (A2.hr.write hm hq2 ⟨_, upd_same, ?_⟩) ?_
    · exact ⟨yv, [], rfl, Rep.mono g _ ry, rfl⟩
    · exact Rep.mono g _ rq
  · cases he
end
end Fl
namespace Fl
open PySem L2 PySem.Spec PyProof.Rows
section
variable {G : Glob} {φ : Mp} {s s' : S} {H : Hp} {d x : D} {v : V} {Q : VK} {K : PySem.W.Frag}
theorem intT_ok {ds : List D} {vs : List V} (h : HR G φ s H) (r : RepL φ s H ds vs) (e : intTD s ds = some (.ok d, s')) (p : Post G φ s H s' d Q) : ∃ a n, vs = [.str a] ∧ PySem.intText? a = some n ∧ a.length ≤ 640 ∧ Q (.int n) H := by
  unfold intTD at e
  split at e
  · rename_i x
    split at e
    · rename_i hz
      obtain ⟨e2, rfl⟩ := lft_inv e
      obtain ⟨n, hn, rfl⟩ := Option.map_eq_some_iff.mp e2
      simp only [RepL, Rep] at r
      obtain ⟨v, w, rfl, rfl, rfl⟩ := r
      exact ⟨_, n, rfl, hn, hz, p.here h (by simp only [Rep])⟩
    · cases e
  · cases e
theorem repL_strs : ∀ ys : List Str, RepL φ s H (ys.map fun z => .str z.cps.toList) (ys.map V.str)
  | [] => by simp only [List.map_nil, RepL]
  | y :: ys => by
    simp only [List.map_cons, RepL, Rep]
    exact ⟨.str y, ys.map V.str, rfl, rfl, repL_strs ys⟩
theorem split_ok {bx : Bool} {ds : List D} {vs : List V} (h : HR G φ s H) (r0 : Rep φ s H x v) (r : RepL φ s H ds vs) (e : splD s bx x ds = some (.ok d, s')) (p : Post G φ s H s' d Q) : ∃ a b, v = .str a ∧ vs = [.str b] ∧ (b.length == 0) = false ∧ a.length + 2 ≤ sizeLine ∧ rNewStrs (Txt.split a b) H Q := by
  unfold splD at e
  split at e
  · rename_i a b
    split at e
    · rename_i hz
      simp only [RepL, Rep] at r r0
      obtain ⟨v, w, rfl, rfl, rfl⟩ := r
      subst r0
      refine ⟨⟨a.toArray⟩, ⟨b.toArray⟩, rfl, rfl, ?_, ?_, fun q hq => Post.lst h e p (repL_strs _) q hq⟩
      · have : b.length ≠ 0 := fun z => hz.1 (List.length_eq_zero_iff.mp z)
        show (b.toArray.size == 0) = false
        rw [List.size_toArray]
        simpa using this
      · have h2 := hz.2
        rw [sizeLine_eq]
        show a.toArray.size + 2 ≤ 16777216
        rw [List.size_toArray]
        omega
    · cases e
  · cases e
theorem ty_strS {bx : Bool} (r : Rep φ s H x v) (e : mtOk s (.split bx) x = true) : tyV K "str" v H := by
  cases x with
  | str y =>
    simp only [Rep] at r
    subst r
    exact rfl
  | _ => cases e
end
section
variable {G : Glob} {cf : CF} {X : Cx}
def esT (G : Glob) (cf : CF) : Es → List TE
  | .nil => []
  | .cons e es => (match e with | .str x => rE G cf (.str x) | e => tFmt (rE G cf e)) :: esT G cf es
theorem fst_run : ∀ (es : Es) (acc : Str) {φ : Mp} {s s' : S} {H : Hp} {r : Sl} {σ : L2.St} {ds : List D} {x : List Nat} {Q : Str → Hp → Prop} (A : At G φ s H r σ) (he : evs cf es r s = some (.ok ds, s')) (hj : fstJ ds = some x) (hb : acc.length + x.length ≤ 16777216)
    (k : ∀ φ' H', Gr φ s H φ' s' H' → HR G φ' s' H' → Q (acc ++ ⟨x.toArray⟩) H'), tJs (esT G cf es) acc σ H Q
  | .nil, acc, φ, s, s', H, r, σ, ds, x, Q, A, he, hj, hb, k => by
    simp only [evs] at he
    cases he
    cases hj
    have : acc ++ (⟨#[]⟩ : Str) = acc := _root_.TL.ext_tl (by rw [_root_.TL.tl_append]; simp [_root_.TL.tl])
    exact this ▸ k φ H (Gr.refl _ _ _) A.hr
  | .cons e es, acc, φ, s, s', H, r, σ, ds, x, Q, A, he, hj, hb, k => by
    simp only [evs] at he
    obtain ⟨d, s1, e1, he⟩ := bnd_inv he
    obtain ⟨ds', s2, e2, he⟩ := bnd_inv he
    cases he
    simp only [fstJ] at hj
    obtain ⟨y, h1, h2⟩ := Option.bind_eq_some_iff.mp hj
    obtain ⟨z, h3, rfl⟩ := Option.map_eq_some_iff.mp h2
    rw [List.length_append] at hb
    have next : ∀ φ1 H1, Gr φ s H φ1 s1 H1 → At G φ1 s1 H1 r σ → (acc ++ (⟨y.toArray⟩ : Str)).length ≤ sizeLine ∧ tJs (esT G cf es) (acc ++ ⟨y.toArray⟩) σ H1 Q := fun φ1 H1 g1 A1 => by
      have hl : (acc ++ (⟨y.toArray⟩ : Str)).length = acc.length + y.length := by
        rw [_root_.TL.len_tl, _root_.TL.tl_append, List.length_append, ← _root_.TL.len_tl]
      refine ⟨by rw [hl, sizeLine_eq]; omega, fst_run es _ A1 e2 h3 (by rw [hl]; omega) fun φ' H' g h => ?_⟩
      have : acc ++ (⟨y.toArray⟩ : Str) ++ ⟨z.toArray⟩ = acc ++ ⟨(y ++ z).toArray⟩ := _root_.TL.ext_tl (by rw [_root_.TL.tl_append, _root_.TL.tl_append, _root_.TL.tl_append]; simp [_root_.TL.tl])
      rw [this]
      exact k φ' H' (g1.trans g) h
    have gen : (∀ w, e ≠ .str w) → tJs (tFmt (rE G cf e) :: esT G cf es) acc σ H Q := fun _ => by
      show rE G cf e σ H _
      refine rd_step A e1 fun φ1 H1 v g1 A1 rv => ?_
      obtain ⟨n1, n2⟩ := next φ1 H1 g1 A1
      cases d with
      | str w =>
        cases h1
        simp only [Rep] at rv
        subst rv
        refine .inl ⟨_, rfl, ?_, _, rfl, n1, n2⟩
        have hl := hb
        rw [sizeLine_eq]
        show y.toArray.size ≤ 16777216
        rw [List.size_toArray]
        omega
      | int i =>
        simp only [fstP] at h1
        split at h1
        · rename_i hz
          cases h1
          simp only [Rep] at rv
          subst rv
          refine .inr ⟨i, rfl, ?_, toString i, rfl, ?_⟩
          · by_cases h0 : i.natAbs = 0
            · rw [h0]
              decide
            · exact Nat.lt_of_lt_of_le ((Nat.log2_lt h0).mpr hz) (by decide)
          · have e : (⟨(PySem.PyData.int i).shown.cps.toList.toArray⟩ : Str) = (toString i : Str) := by
              simp only [PyData.shown]
              try rw [Array.toArray_toList]
            rw [e] at n1 n2
            exact ⟨n1, n2⟩
        · cases h1
      | _ => cases h1
    cases e with
    | str w =>
      show rE G cf (.str w) σ H _
      refine rd_step A e1 fun φ1 H1 v g1 A1 rv => ?_
      simp only [ev] at e1
      cases e1
      cases h1
      simp only [Rep] at rv
      subst rv
      exact ⟨_, rfl, next φ1 H1 g1 A1⟩
    | _ => exact gen (fun w h => by cases h)
theorem c_fst {es : Es} {v1 v2 : Expr} {rest : List Expr} {pos : Pos} (h : PJ X (v1 :: v2 :: rest) (esT G cf es)) : PE X (.JoinedStr (v1 :: v2 :: rest) pos) (rE G cf (.fst es)) := by
  refine PE.imp (pe_joined h) fun σ H Q hq => ?_
  obtain ⟨φ, s, r, A, d, s', he, p⟩ := hq
  simp only [ev] at he
  obtain ⟨ds, s1, e1, he⟩ := bnd_inv he
  split at he
  · rename_i x hx
    split at he
    · rename_i hz
      cases he
      refine fst_run es Str.empty A e1 hx (by show 0 + x.length ≤ 16777216; unfold LIM at hz; omega) fun φ' H' g h' => ?_
      have e : Str.empty ++ (⟨x.toArray⟩ : Str) = ⟨x.toArray⟩ := _root_.TL.ext_tl (by rw [_root_.TL.tl_append]; simp [_root_.TL.tl, Str.empty])
      rw [e]
      exact p φ' H' _ g h' (by simp only [Rep])
    · cases he
  · cases he
end
def spine : Expr → Bool
  | .Constant (.str _) _ _ => true
  | .BinOp l _ _ _ => spine l
  | _ => false
theorem wp_spine {M : Model} {Γ : PySem.Ctx} {env : Env} : ∀ (e : Expr), spine e = true → ∀ (Q : Value → Pos → Shared → Prop) (E : Value → Pos → Shared → Prop) (p : Pos) (s : Shared), Sem.wp M Γ (eval e env) Q E p s → Sem.wp M Γ (eval e env) (fun v p' s' => s.toks + 1 ≤ s'.toks ∧ Q v p' s') E p s
  | .Constant (.str x) k pos, _, Q, E, p, s, h => by
    have h' : Q (.str x s.toks) p { s with toks := s.toks + 1 } := h
    exact (⟨Nat.le_refl _, h'⟩ : s.toks + 1 ≤ s.toks + 1 ∧ Q (.str x s.toks) p { s with toks := s.toks + 1 })
  | .BinOp l op r pos, hs, Q, E, p, s, h => by
    simp only [eval_BinOp, Sem.wp_bind', Sem.wp_holding, Sem.wp_cmd_standAt, Sem.wp_operate] at h ⊢
    have ih := wp_spine l hs _ _ p s h
    refine Sem.wp_mono M Γ _ (fun a p₁ s₁ h₁ => ?_) (fun _ _ _ h' => h') _ _ ih
    obtain ⟨h1, h2⟩ := h₁
    refine Sem.wp_mono M Γ _ (fun b p₂ s₂ h₂ => ?_) (fun _ _ _ h' => h'.2) _ _ (Sem.wp_toks M Γ _ _ _ _ _ _ h1 h2)
    obtain ⟨h3, h4⟩ := h₂
    exact Sem.wp_mono M Γ _ (fun _ _ _ h' => h') (fun _ _ _ h' => h'.2) _ _ (Sem.wp_toks M Γ _ _ _ _ _ _ h3 h4)
theorem wpAny_spine {M : Model} {A : Around} {env : Env} {e : Expr} (hs : spine e = true) {Q : Value → Shared → Prop} {E : Value → Shared → Prop} {s : Shared} (h : wpAny M A (eval e env) Q E s) : wpAny M A (eval e env) (fun v s1 => s.toks + 1 ≤ s1.toks ∧ Q v s1) E s :=
  fun Γ p hΓ => wp_spine e hs _ _ p s (h Γ p hΓ)
section
variable {G : Glob} {cf : CF} {X : Cx} {a o : Expr} {ta to : TE} {y z : Str} {j k : Nat} {c0 c1 apos cpos pos : Pos}
theorem pe_rpl (hs : spine a = true) (ha : PE X a ta) (ho : PE X o to) (hyz : (y == z) = false) (hbase : attributeBase o "replace" X.env (eval o X.env) = eval o X.env) (hline : (apos.endLine == cpos.line) = true) :
    PE X (.BinOp a .Add (.Call (.Attribute o "replace" apos) [.Constant (.str y) j c0, .Constant (.str z) k c1] [] cpos) pos) (fun σ H Q => ta σ H fun x H1 => CwR.tReplC to y z σ H1 fun w H2 => ∃ u t : Str, x = .str u ∧ w = .str t ∧ u.length + t.length ≤ sizeLine ∧ Q (.str (u ++ t)) H2) := by
  refine ⟨fun pins s σ H Q I h => ?_⟩
  refine wpAny_BinOp (wpAny_mono (wpAny_spine hs (ha.run pins s σ H _ I h)) (fun v s1 q => ?_) fun _ _ z => z)
  obtain ⟨hk, x, H1, I1, r1, q1⟩ := q
  have hr := CwR.pet_replC (X := X) (j := j) (k := k) (c0 := c0) (c1 := c1) (apos := apos) (pos := cpos) ho hyz rfl hbase hline pins s1 σ H1 _ (by omega) I1 q1
  refine wpAny_mono hr (fun w s2 q => ?_) fun _ _ z => z
  obtain ⟨w', H2, I2, r2, u, t, rfl, rfl, hz, q2⟩ := q
  exact op_add_str pins s2 σ H2 _ _ v w Q I2 r1 r2 ⟨u, t, rfl, rfl, hz, q2⟩
theorem c_rpl {ca co : E} {y z : List Nat} (hs : spine a = true) (ha : PE X a (rE G cf ca)) (ho : PE X o (rE G cf co)) (hyz : ((⟨y.toArray⟩ : Str) == ⟨z.toArray⟩) = false) (hbase : attributeBase o "replace" X.env (eval o X.env) = eval o X.env) (hline : (apos.endLine == cpos.line) = true) :
    PE X (.BinOp a .Add (.Call (.Attribute o "replace" apos) [.Constant (.str ⟨y.toArray⟩) j c0, .Constant (.str ⟨z.toArray⟩) k c1] [] cpos) pos) (rE G cf (.rpl ca co y z)) := by
  refine PE.imp (pe_rpl hs ha ho hyz hbase hline) fun σ H Q h => ?_
  obtain ⟨φ, s, r, A, d, s', he, p⟩ := h
  simp only [ev] at he
  obtain ⟨x, s1, e1, he⟩ := bnd_inv he
  obtain ⟨w, s2, e2, he⟩ := bnd_inv he
  refine rd_step A e1 fun φ1 H1 v g1 A1 rv => ?_
  show rE G cf co σ H1 _
  refine rd_step A1 e2 fun φ2 H2 v2 g2 A2 rw' => ?_
  split at he
  · rename_i u t _
    split at he
    · rename_i hz
      cases he
      have rv2 := Rep.mono g2 _ rv
      simp only [Rep] at rv2 rw'
      subst rv2 rw'
      obtain ⟨hz1, hz2⟩ := hz
      unfold LIM at hz1 hz2
      rw [List.length_append] at hz2
      refine ⟨_, rfl, ?_, _, _, rfl, rfl, ?_, ?_⟩
      · show t.toArray.size + (t.toArray.size + 1) * z.toArray.size ≤ 16777216
        rw [List.size_toArray, List.size_toArray]
        exact hz1
      · rw [sizeLine_eq]
        show u.toArray.size + (Txt.replace _ _ _).cps.size ≤ 16777216
        rw [List.size_toArray, ← Array.length_toList]
        exact hz2
      · have e : (⟨u.toArray⟩ : Str) ++ Txt.replace ⟨t.toArray⟩ ⟨y.toArray⟩ ⟨z.toArray⟩ = ⟨(u ++ (Txt.replace ⟨t.toArray⟩ ⟨y.toArray⟩ ⟨z.toArray⟩).cps.toList).toArray⟩ := _root_.TL.ext_tl (by rw [_root_.TL.tl_append])
        rw [e]
        exact p φ2 H2 _ (g1.trans g2) A2.hr (by simp only [Rep])
    · cases he
  · cases he
end
end Fl
namespace Fl
open PySem L2
structure Sig where
  gs : List (String × List Nat)
  fn : List (String × String × Nat)
  ds : List (String × List (List Nat × Int))
  fl : List String
  cl : List String
  ec : List String
  et : List String
  gi : List (String × Int) := []
def visB (sc : Scope) (x : Str) : Bool := match sc.names.lookup x with
  | some .local => true
  | some .cell => true
  | some .free => true
  | _ => false
def locB (sc : Scope) (x : Str) : Bool := match sc.names.lookup x with
  | some .local => true
  | some .cell => true
  | _ => false
def isLc (sc : Scope) (x : Str) : Bool := match sc.names.lookup x with
  | some .local => true
  | _ => false
def isCl (sc : Scope) (x : Str) : Bool := match sc.names.lookup x with
  | some .cell => true
  | _ => false
def glbB (sc : Scope) (x : Str) : Bool := match sc.names.lookup x with
  | some .globalImplicit => true
  | _ => false
def nodb (x : Str) : Bool := !(x == ("__debug__" : Str)) && !(x == ("__classdict__" : Str)) && !decide (x = ("__name__" : Str))
def notStar : Expr → Bool
  | .Starred .. => false
  | _ => true
def recvOk : Expr → Bool
  | .Name .. => true
  | .Attribute .. => true
  | .Subscript .. => true
  | .Constant .. => true
  | .Dict .. => true
  | .Call (.Attribute ..) .. => true
  | .Call (.Name ..) (_ :: _) .. => true
  | _ => false
def notSlice : Expr → Bool
  | .Slice .. => false
  | _ => true
def notComp : Expr → Bool
  | .ListComp .. => false
  | .SetComp .. => false
  | .DictComp .. => false
  | _ => true
def notTup : Expr → Bool
  | .Tuple .. => false
  | _ => true
def notSet : Expr → Bool
  | .Set .. => false
  | _ => true
/-- may stand as a test -/
def tOk : E → Bool
  | .frz _ => false
  | .ite _ _ _ => false
  | _ => true
def biN : Bi → String
  | .len => "len" | .int => "int" | .list _ => "list" | .tuple => "tuple" | .min2 => "min" | .max2 => "max" | .abs => "abs" | .sum => "sum" | .min3 => "min" | .minL => "min" | .minT => "min" | .str => "str" | .sorted _ => "sorted" | .dict => "dict" | .minE => "min" | .intT => "int"
def mtN : Mt → String
  | .append => "append" | .pop => "pop" | .popAt => "pop" | .insert => "insert" | .join => "join" | .index => "index" | .clear => "clear" | .count => "count" | .upper => "upper" | .extend => "extend" | .split _ => "split"
def mtArgs : Mt → Nat
  | .append => 1 | .pop => 0 | .popAt => 1 | .insert => 2 | .join => 1 | .index => 1 | .clear => 0 | .count => 1 | .upper => 0 | .extend => 1 | .split _ => 1
def opB (o : Bop) (p : Operator) : Bool := decide (bopOf o = p)
def opC (o : Cop) (p : CmpOp) : Bool := decide (copOf o = p)
/-- texts as keys -/
def mK : List (List Nat) → List (Option Expr) → Bool
  | [], [] => true
  | k :: ks, some (.Constant (.str y) _ _) :: r => decide ((⟨k.toArray⟩ : Str) = y) && mK ks r
  | _, _ => false
/-- built-in types -/
def mTys (sc : Scope) : List Ty → List Expr → Bool
  | [], [] => true
  | t :: ts, .Name z _ :: r => decide (z = Str.ofString (tyS t)) && glbB sc z && mTys sc ts r
  | _, _ => false
def mXs (et : List String) (sc : Scope) : List String → List Expr → Bool
  | [], [] => true
  | t :: ts, .Name z _ :: r => decide (z = Str.ofString t) && glbB sc z && nodb z && decide (t ∈ et) && mXs et sc ts r
  | _, _ => false
/-- a comprehension's target: the block's own names -/
def mTgB (N : List Str) (sc scope : Scope) : Tg → Expr → Option (List (Str × Nat))
  | .nm i, .Name x _ => if (decide (N[i]? = some x) && (isLc (relS scope sc) x || (isCl (relS scope sc) x && isCl scope x))) = true then some [(x, i)] else none
  | .tp is, .Tuple es _ _ => go is es
  | _, _ => none
where go : List Nat → List Expr → Option (List (Str × Nat))
  | [], [] => some []
  | i :: is, .Name x _ :: es => if (decide (N[i]? = some x) && (isLc (relS scope sc) x || (isCl (relS scope sc) x && isCl scope x))) = true then (go is es).map fun l => (x, i) :: l else none
  | _, _ => none
/-- a written text -/
def strOf : E → Option (List Nat)
  | .str x => some x
  | _ => none
mutual
def mE (sg : Sig) (N : List Str) : Scope → E → Expr → Bool
  | sc, .var i, e => match e with
    | .Name x _ => decide (N[i]? = some x) && visB sc x && nodb x
    | _ => false
  | _, .non, e => match e with
    | .Constant .none _ _ => true
    | _ => false
  | _, .bl b, e => match e with
    | .Constant (.bool c) _ _ => decide (b = c)
    | _ => false
  | _, .int i, e => match e with
    | .Constant (.int j) _ _ => decide (i = j)
    | _ => false
  | _, .str x, e => match e with
    | .Constant (.str y) _ _ => decide ((⟨x.toArray⟩ : Str) = y)
    | _ => false
  | sc, .gs f v, e => match e with
    | .Name x _ => decide (x = Str.ofString f) && glbB sc x && nodb x && decide ((f, v) ∈ sg.gs)
    | _ => false
  | sc, .gi f v, e => match e with
    | .Name x _ => decide (x = Str.ofString f) && glbB sc x && nodb x && decide ((f, v) ∈ sg.gi)
    | _ => false
  | sc, .bin o a b, e => match e with
    | .BinOp l p r _ => opB o p && mE sg N sc a l && mE sg N sc b r
    | _ => false
  | sc, .neg a, e => match e with
    | .UnaryOp .USub x _ => mE sg N sc a x
    | _ => false
  | sc, .not a, e => match e with
    | .UnaryOp .Not x _ => mE sg N sc a x && tOk a
    | _ => false
  | sc, .and es, e => match e with
    | .BoolOp .And (x :: xs) _ => mEs sg N sc es (x :: xs) && tOkL es
    | _ => false
  | sc, .or es, e => match e with
    | .BoolOp .Or (x :: xs) _ => mEs sg N sc es (x :: xs) && tOkL es
    | _ => false
  | sc, .cmp o a b, e => match e with
    | .Compare l [p] [r] _ => opC o p && notSet r && mE sg N sc a l && mE sg N sc b r
    | _ => false
  | sc, .chn o o' a b c, e => match e with
    | .Compare l [p, p'] [m, r] _ => opC o p && opC o' p' && notSet m && notSet r && mE sg N sc a l && mE sg N sc b m && mE sg N sc c r
    | _ => false
  | sc, .ite c a b, e => match e with
    | .IfExp t l r _ => mE sg N sc c t && tOk c && mE sg N sc a l && mE sg N sc b r
    | _ => false
  | sc, .tup es, e => match e with
    | .Tuple xs _ _ => mEs sg N sc es xs
    | _ => false
  | sc, .lst _ es, e => match e with
    | .List xs _ => mEs sg N sc es xs
    | _ => false
  | sc, .cat _ a b, e => match e with
    | .BinOp l .Add r _ => mE sg N sc a l && mE sg N sc b r
    | _ => false
  | sc, .idx a b, e => match e with
    | .Subscript l r _ => notSlice r && mE sg N sc a l && mE sg N sc b r
    | _ => false
  | sc, .sl _ a lo hi, e => match e with
    | .Subscript l (.Slice x y none _) _ => mE sg N sc a l && mO sg N sc lo x && mO sg N sc hi y
    | _ => false
  | sc, .call f es, e => match e with
    | .Call (.Name x _) xs [] _ => decide (x = Str.ofString f) && glbB sc x && nodb x && (sg.fn.any fun p => decide (p.1 = "") && decide (p.2.1 = f)) && mEs sg N sc es xs
    | _ => false
  | sc, .lrng _ c, e => match e with
    | .Call (.Name x _) [.Call (.Name y _) [z] [] _] [] _ => decide (x = Str.ofString "list") && glbB sc x && decide (y = Str.ofString "range") && glbB sc y && mE sg N sc c z && notStar z
    | _ => false
  | sc, .bi b es, e => match e with
    | .Call (.Name x _) (y :: ys) [] _ => decide (x = Str.ofString (biN b)) && glbB sc x && mEs sg N sc es (y :: ys)
    | _ => false
  | sc, .isi a t, e => match e with
    | .Call (.Name x _) [y, .Name z _] [] _ => decide (x = Str.ofString "isinstance") && glbB sc x && decide (z = Str.ofString (tyS t)) && glbB sc z && mE sg N sc a y && notStar y
    | _ => false
  | sc, .met m o es, e => match e with
    | .Call (.Attribute r x ap) xs [] cp => decide (x = Str.ofString (mtN m)) && recvOk r && decide (ap.endLine = cp.line) && decide (xs.length = mtArgs m) && mE sg N sc o r && mEs sg N sc es xs
    | _ => false
  | sc, .dget f tab k d, e => match e with
    | .Call (.Attribute (.Name x q) m ap) [a, b] [] cp => decide (x = Str.ofString f) && glbB sc x && nodb x && decide ((f, tab) ∈ sg.ds) && decide (m = Str.ofString "get") && decide (ap.endLine = cp.line) && notStar a && notStar b && recvOk (.Name x q) && mE sg N sc k a && mE sg N sc d b
    | _ => false
  | sc, .fld o f, e => match e with
    | .Attribute r x _ => decide (x = Str.ofString f) && recvOk r && decide (f ∈ sg.fl) && mE sg N sc o r
    | _ => false
  | sc, .own o m es, e => match e with
    | .Call (.Attribute r x ap) xs [] cp => decide (x = Str.ofString m) && recvOk r && decide (ap.endLine = cp.line) && decide (xs.length < 20) && mE sg N sc o r && mEs sg N sc es xs
    | _ => false
  | sc, .mak c es, e => match e with
    | .Call (.Name x _) xs [] _ => decide (x = Str.ofString c) && glbB sc x && nodb x && decide (c ∈ sg.cl) && mEs sg N sc es xs
    | _ => false
  | sc, .dsp ks vs, e => match e with
    | .Dict keys values _ => mK ks keys && decide (keys.length = values.length) && decide (keys.length ≤ 15) && decide (esLen vs = ks.length) && mEs sg N sc vs values
    | _ => false
  | sc, .rpt _ a b, e => match e with
    | .BinOp l .Mult r _ => mE sg N sc a l && mE sg N sc b r
    | _ => false
  | sc, .rev _ a, e => match e with
    | .Subscript l (.Slice none none (some (.UnaryOp .USub (.Constant (.int 1) _ _) _)) _) _ => mE sg N sc a l
    | _ => false
  | _, .dnt, e => match e with
    | .Dict [] [] _ => true
    | _ => false
  | sc, .lenm _ c, e => match e with
    | .Call (.Name x _) [.Call (.Name y _) [z] [] _] [] _ => decide (x = Str.ofString "list") && glbB sc x && decide (y = Str.ofString "enumerate") && glbB sc y && mE sg N sc c z && notStar z
    | _ => false
  | sc, .dst a b, e => match e with
    | .Dict [some x] [y] _ => mE sg N sc a x && mE sg N sc b y
    | _ => false
  | sc, .denm c, e => match e with
    | .Call (.Name x _) [.Call (.Name y _) [z] [] _] [] _ => decide (x = Str.ofString "dict") && glbB sc x && decide (y = Str.ofString "enumerate") && glbB sc y && mE sg N sc c z && notStar z
    | _ => false
  | sc, .fst es, e => match e with
    | .JoinedStr (v1 :: v2 :: rest) _ => mFs sg N sc es (v1 :: v2 :: rest)
    | _ => false
  | sc, .rpl a o y z, e => match e with
    | .BinOp l .Add (.Call (.Attribute r m ap) [.Constant (.str y') _ _, .Constant (.str z') _ _] [] cp) _ => spine l && decide (m = Str.ofString "replace") && recvOk r && decide (ap.endLine = cp.line) && decide ((⟨y.toArray⟩ : Str) = y') && decide ((⟨z.toArray⟩ : Str) = z') && !(y' == z') && mE sg N sc a l && mE sg N sc o r
    | _ => false
  | sc, .sset _ c, e => match e with
    | .Call (.Name x _) [.Call (.Name y p2) [z] [] pos2] [] _ => decide (x = Str.ofString "sorted") && glbB sc x && decide (y = Str.ofString "set") && glbB sc y && mE sg N sc c z && notStar z && notStar (.Call (.Name y p2) [z] [] pos2)
    | _ => false
  | sc, .rps a b, e => match e with
    | .BinOp l .Mult r _ => mE sg N sc a l && mE sg N sc b r
    | _ => false
  | sc, .dsi a b, e => match e with
    | .Dict [some x] [y] _ => mE sg N sc a x && mE sg N sc b y
    | _ => false
  | sc, .dgv o k d, e => match e with
    | .Call (.Attribute r m ap) [a, b] [] cp => decide (m = Str.ofString "get") && recvOk r && decide (ap.endLine = cp.line) && notStar a && notStar b && mE sg N sc o r && mE sg N sc k a && mE sg N sc d b
    | _ => false
  | sc, .rpr a, e => match e with
    | .Call (.Name x _) [y] [] _ => decide (x = Str.ofString "repr") && glbB sc x && notStar y && mE sg N sc a y
    | _ => false
  | sc, .dsv a b, e => match e with
    | .Dict [some x] [y] _ => mE sg N sc a x && mE sg N sc b y
    | _ => false
  | sc, .lset a, e => match e with
    | .Call (.Name x _) [.Call (.Name z _) [y] [] _] [] _ => decide (x = Str.ofString "len") && glbB sc x && decide (z = Str.ofString "set") && glbB sc z && mE sg N sc a y && notStar y
    | _ => false
  | sc, .isit a ts, e => match e with
    | .Call (.Name x _) [y, .Tuple es _ _] [] _ => decide (x = Str.ofString "isinstance") && glbB sc x && mTys sc ts es && decide (es.length < 100) && mE sg N sc a y && notStar y
    | _ => false
  | sc, .isx a t, e => match e with
    | .Call (.Name x _) [y, .Name z _] [] _ => decide (x = Str.ofString "isinstance") && glbB sc x && decide (z = Str.ofString t) && glbB sc z && nodb z && decide (t ∈ sg.et) && mE sg N sc a y && notStar y
    | _ => false
  | sc, .isxt a ts, e => match e with
    | .Call (.Name x _) [y, .Tuple es _ _] [] _ => decide (x = Str.ofString "isinstance") && glbB sc x && mXs sg.et sc ts es && decide (es.length < 100) && mE sg N sc a y && notStar y
    | _ => false
  | sc, .lc _ c tg it cnd, e => match e with
    | .ListComp elt [⟨t, iter, ifs, 0⟩] scope _ => (match mTgB N sc scope tg t with
      | some own => blkC N sc scope own && decide (own.map (·.2) = slots tg)
      | none => false) && notSet iter && mI sg N sc it t iter && mC sg N (relS scope sc) cnd ifs && mE sg N (relS scope sc) c elt
    | _ => false
  | sc, .frz a, e => mE sg N sc a e
def tOkL : Es → Bool
  | .nil => true
  | .cons e r => tOk e && tOkL r
def mEs (sg : Sig) (N : List Str) : Scope → Es → List Expr → Bool
  | _, .nil, [] => true
  | sc, .cons c r, x :: xs => notStar x && mE sg N sc c x && mEs sg N sc r xs
  | _, _, _ => false
def mFs (sg : Sig) (N : List Str) : Scope → Es → List Expr → Bool
  | _, .nil, [] => true
  | sc, .cons c r, v :: vs => (match strOf c with
    | some x => (match v with
      | .Constant (.str y) _ _ => decide ((⟨x.toArray⟩ : Str) = y)
      | _ => false)
    | none => (match v with
      | .FormattedValue w k none _ => decide (k = -1) && mE sg N sc c w
      | _ => false)) && mFs sg N sc r vs
  | _, _, _ => false
def mO (sg : Sig) (N : List Str) : Scope → Oe → Option Expr → Bool
  | _, .no, none => true
  | sc, .so c, some x => mE sg N sc c x
  | _, _, _ => false
def mC (sg : Sig) (N : List Str) : Scope → Oe → List Expr → Bool
  | _, .no, [] => true
  | sc, .so c, [x] => mE sg N sc c x && tOk c
  | _, _, _ => false
def mI (sg : Sig) (N : List Str) : Scope → It → Expr → Expr → Bool
  | sc, .seq c, _, x => mE sg N sc c x
  | sc, .any c, _, x => mE sg N sc c x
  | sc, .tup c, _, x => mE sg N sc c x
  | sc, .str c, _, x => mE sg N sc c x
  | sc, .rng c, _, e => match e with
    | .Call (.Name x _) [y] [] _ => decide (x = Str.ofString "range") && glbB sc x && mE sg N sc c y && notStar y
    | _ => false
  | sc, .rng2 a b, _, e => match e with
    | .Call (.Name x _) [y, z] [] _ => decide (x = Str.ofString "range") && glbB sc x && mE sg N sc a y && notStar y && mE sg N sc b z && notStar z
    | _ => false
  | sc, .enm c, t, e => match t, e with
    | .Tuple .., .Call (.Name x _) [y] [] _ => decide (x = Str.ofString "enumerate") && glbB sc x && mE sg N sc c y && notStar y
    | _, _ => false
  | sc, .ens c, t, e => match t, e with
    | .Tuple .., .Call (.Name x _) [y] [] _ => decide (x = Str.ofString "enumerate") && glbB sc x && mE sg N sc c y && notStar y
    | _, _ => false
  | sc, .zip a b, t, e => match t, e with
    | .Tuple .., .Call (.Name x _) [y, z] [] _ => decide (x = Str.ofString "zip") && glbB sc x && mE sg N sc a y && notStar y && mE sg N sc b z && notStar z
    | _, _ => false
end
def bnames : List String := ["len", "int", "list", "tuple", "min", "max", "abs", "isinstance", "range", "enumerate", "zip", "str", "bool", "dict", "set", "repr", "sum", "sorted"]
/-- a dict's entries: texts and numbers -/
def entR : List DictEntry → List (List Nat × Int) → Prop
  | [], [] => True
  | e :: r, (z, i) :: q => ((∃ t, e.key = .str ⟨z.toArray⟩ t) ∧ ∃ t, e.val = .int i t) ∧ entR r q
  | _, _ => False
def DsAt (K : PySem.W.Frag) (w : World) (mg : Str → Option Value) (f : String) (t : List (List Nat × Int)) : Prop :=
  ∃ (a : Addr) (es : Array DictEntry) (n : Nat), mg (Str.ofString f) = some (.ref a) ∧ KDict K w a es n ∧ entR es.toList t
structure Ok (sg : Sig) (G : Glob) (cf : CF) (N : List Str) (sc : Scope) (X : Cx) : Prop where
  n : X.N = N
  nd : N.Nodup
  sc : X.env.scope = sc
  k : X.K = G.K
  calm : X.calm = true
  units : X.A.units + 4499 < cLine
  gd : X.A.guards = some []
  gs : ∀ f v, (f, v) ∈ sg.gs → ∃ t, X.mg (Str.ofString f) = some (.str ⟨v.toArray⟩ t)
  gi : ∀ f v, (f, v) ∈ sg.gi → ∃ t, X.mg (Str.ofString f) = some (.int v t)
  bl : ∀ x ∈ bnames, X.mg (Str.ofString x) = none
  ds : ∀ f t, (f, t) ∈ sg.ds → DsAt X.K X.w X.mg f t
  fn : ∀ f n, ("", f, n) ∈ sg.fn → FnAt G X (Str.ofString f) (cf "" f) n
  ms : ∀ c m, c ≠ "" → ∀ ds s q, cf c m ds s = some q → ∃ C n, G.cls c = some C ∧ Cls X.K C ∧ MtAt G X C (Str.ofString m) (cf c m) n
  cl : ∀ c C, G.cls c = some C → Cls X.K C ∧ ∀ f ∈ sg.fl, NoAttr X.K C (Str.ofString f)
  mkk : ∀ c ∈ sg.cl, ∃ C n, G.cls c = some C ∧ MkAt G X (Str.ofString c) C (cf c "__init__") n
  gec : G.ec = sg.ec
  xf : XFacts sg.ec sg.et X.K X.mg
section
variable {sg : Sig} {G : Glob} {cf : CF} {N : List Str} {sc : Scope} {X : Cx} {e : Expr} {es : List Expr} {pos : Pos}
theorem Ok.blk (ok : Ok sg G cf N sc X) (s : Shared) (H : Hp) (scope : Scope) (C : Addr) (cl : List (Str × Addr)) (fp : List Addr) : Ok sg G cf N (relS scope sc) (X.blk s H scope (compEnvC scope cl C X.env) fp) := by
  refine ⟨ok.n, ok.nd, ?_, ok.k, ok.calm, ok.units, ok.gd, ok.gs, ok.gi, ok.bl, ok.ds, fun f n h => ?_, fun c m hc ds s q e => ?_, ok.cl, fun c hc => ?_, ok.gec, ok.xf⟩
  · rw [← ok.sc]
    rfl
  · obtain ⟨⟨a, fd, ps, j, h1, h2, h3, h4, h5, h6⟩, h7⟩ := ok.fn f n h
    exact ⟨⟨a, fd, ps, j, h1, h2, h3, h4, h5, h6⟩, h7⟩
  · obtain ⟨C, n, h1, h2, ⟨a, fd, ps, j, k1, k2, k3, k4, k5⟩, h7⟩ := ok.ms c m hc ds s q e
    exact ⟨C, n, h1, h2, ⟨a, fd, ps, j, k1, k2, k3, k4, k5⟩, h7⟩
  · obtain ⟨C, n, h1, ⟨a, fd, ps, j, k1, k2, k3, k4, k5, k6⟩, h7⟩ := ok.mkk c hc
    exact ⟨C, n, h1, ⟨a, fd, ps, j, k1, k2, k3, k4, k5, k6⟩, h7⟩
theorem vis_of {x : Str} (h : visB sc x = true) : Vis sc x := by
  unfold visB at h
  split at h
  · exact .inl (by assumption)
  · exact .inr (.inl (by assumption))
  · exact .inr (.inr (by assumption))
  · cases h
theorem loc_of {x : Str} (h : locB sc x = true) : Loc sc x := by
  unfold locB at h
  split at h
  · exact .inl (by assumption)
  · exact .inr (by assumption)
  · cases h
theorem isLc_of {x : Str} (h : isLc sc x = true) : sc.names.lookup x = some .local := by
  unfold isLc at h
  split at h
  · assumption
  · cases h
theorem isCl_of {x : Str} (h : isCl sc x = true) : sc.names.lookup x = some .cell := by
  unfold isCl at h
  split at h
  · assumption
  · cases h
theorem glb_of (ok : Ok sg G cf N sc X) {x : Str} (h : glbB sc x = true) : Gl X x := by
  show X.env.scope.names.lookup x = some .globalImplicit
  rw [ok.sc]
  unfold glbB at h
  split at h
  · assumption
  · cases h
theorem nodb_of {x : Str} (h : nodb x = true) : (x == ("__debug__" : Str)) = false ∧ (x == ("__classdict__" : Str)) = false ∧ x ≠ ("__name__" : Str) := by
  unfold nodb at h
  simp only [Bool.and_eq_true, Bool.not_eq_true', decide_eq_false_iff_not] at h
  exact ⟨h.1.1, h.1.2, h.2⟩
theorem star1 {env : Env} (h : notStar e = true) : starEach (e :: es) env = (false, eval e env) :: starEach es env := by
  cases e <;> first | rfl | cases h
theorem starN {env : Env} : ∀ {es : List Expr}, es.all notStar = true → (backTo pos (starEach es env)).any (·.1) = false
  | [], _ => rfl
  | e :: es, h => by
    rw [List.all_cons, Bool.and_eq_true] at h
    rw [star1 h.1]
    show (false || (backTo pos (starEach es env)).any (·.1)) = false
    rw [starN h.2]
    rfl
theorem starA {env : Env} : ∀ {es : List Expr}, es.all notStar = true → (backTo pos (starEach es env)).all (fun x => !x.1) = true
  | [], _ => rfl
  | e :: es, h => by
    rw [List.all_cons, Bool.and_eq_true] at h
    rw [star1 h.1]
    show (true && (backTo pos (starEach es env)).all (fun x => !x.1)) = true
    rw [starA h.2]
    rfl
theorem mEs_star : ∀ {c : Es} {es : List Expr}, mEs sg N sc c es = true → es.all notStar = true
  | .nil, [], _ => rfl
  | .nil, _ :: _, h => by simp only [mEs] at h; cases h
  | .cons _ _, [], h => by simp only [mEs] at h; cases h
  | .cons c r, x :: xs, h => by
    simp only [mEs, Bool.and_eq_true] at h
    rw [List.all_cons, h.1.1, mEs_star h.2]
    rfl
theorem plain_ix (h : notSlice e = true) : PlainIx e := by
  intro o i
  cases e <;> first | rfl | cases h
theorem base_ok {name : Str} {env : Env} (h : recvOk e = true) : attributeBase e name env (eval e env) = eval e env := by
  cases e with
  | Call f as ks p =>
    cases f with
    | Attribute _ _ _ => rfl
    | Name _ _ =>
      cases as with
      | nil => cases h
      | cons a t => rfl
    | _ => cases h
  | _ => first | rfl | cases h
theorem sw_no {t : Option Expr} {l : Nat} {env : Env} (h : notComp e = true) : swapsWith e t l env = pure false := by
  cases e <;> first | rfl | cases h
theorem set_no {env : Env} (h : notSet e = true) : ∀ x, foldedSetIterable e env x = pure x := by
  intro x
  cases e <;> first | rfl | cases h
theorem bh_no {op : CmpOp} (h : notSet e = true) : behindInMarks op e = false := by
  cases e <;> first | rfl | cases h
theorem last_no {op op' : CmpOp} {e' : Expr} (h' : notSet e' = true) : lastMarks [op, op'] [e, e'] = false := by
  show behindInMarks op' e' = false
  exact bh_no h'
theorem boot_tyS : ∀ t : Ty, bootBuiltins (Str.ofString (tyS t)) = some (.type (tyS t))
  | .int => by decide +kernel
  | .str => by decide +kernel
  | .bool => by decide +kernel
  | .tuple => by decide +kernel
  | .list => by decide +kernel
  | .dict => by decide +kernel
theorem tyS_bn : ∀ t : Ty, tyS t ∈ bnames
  | .int => by decide
  | .str => by decide
  | .bool => by decide
  | .tuple => by decide
  | .list => by decide
  | .dict => by decide
theorem tyS_nm : ∀ t : Ty, Str.ofString (tyS t) ≠ ("__name__" : Str) ∧ (Str.ofString (tyS t) == ("__debug__" : Str)) = false
  | .int => by decide +kernel
  | .str => by decide +kernel
  | .bool => by decide +kernel
  | .tuple => by decide +kernel
  | .list => by decide +kernel
  | .dict => by decide +kernel
def NmOk (X : Cx) (i : Nat) (x : Str) : Prop := X.N[i]? = some x ∧ Loc X.env.scope x ∧ (X.fn x = true ∨ X.env.scope.names.lookup x = some .local)
theorem g_names (hN : X.N.Nodup) : ∀ {is : List Nat} {es : List Expr} {l : List (Str × Nat)}, (∀ p ∈ l, NmOk X p.2 p.1) → l.map (·.2) = is → (∃ ps : List Pos, es = (l.zip ps).map fun q => Expr.Name q.1.1 q.2) → es.length = l.length → PGs X es (gsOf is)
  | is, es, [], h, e1, e2, e3 => by
    subst e1
    have : es = [] := List.length_eq_zero_iff.mp e3
    subst this
    exact pgs_nil
  | is, es, (x, i) :: l, h, e1, ⟨ps, e2⟩, e3 => by
    subst e1
    cases ps with
    | nil =>
      rw [List.zip_nil_right] at e2
      subst e2
      cases e3
    | cons p ps =>
      rw [List.zip_cons_cons, List.map_cons] at e2
      subst e2
      obtain ⟨h1, h2, h3⟩ := h (x, i) List.mem_cons_self
      refine pgs_cons (pg_name hN h1 h2 h3) (g_names hN (l := l) (fun q hq => h q (List.mem_cons_of_mem _ hq)) rfl ⟨ps, rfl⟩ ?_) rfl
      simpa using e3
theorem assign_names {env : Env} : ∀ {es : List Expr}, (∀ e ∈ es, ∃ x p, e = Expr.Name x p) → (assignEach es env).length = es.length ∧ (assignEach es env).findIdx? (·.1) = none
  | [], _ => ⟨rfl, rfl⟩
  | e :: es, h => by
    obtain ⟨x, p, rfl⟩ := h e List.mem_cons_self
    obtain ⟨h1, h2⟩ := assign_names (env := env) fun e he => h e (List.mem_cons_of_mem _ he)
    refine ⟨?_, ?_⟩
    · show (assignEach es env).length + 1 = _
      rw [h1]
      rfl
    · show List.findIdx? (·.1) ((false, assign (.Name x p) env) :: assignEach es env) = none
      rw [List.findIdx?_cons, h2]
      rfl
theorem tgB_go : ∀ {is : List Nat} {es : List Expr} {own : List (Str × Nat)} {scope : Scope}, mTgB.go N sc scope is es = some own →
    own.map (·.2) = is ∧ es.length = own.length ∧ (∃ ps : List Pos, es = (own.zip ps).map fun q => Expr.Name q.1.1 q.2) ∧ ∀ p ∈ own, N[p.2]? = some p.1 ∧ (isLc (relS scope sc) p.1 = true ∨ (isCl (relS scope sc) p.1 = true ∧ isCl scope p.1 = true))
  | [], [], own, scope, h => by
    cases h
    exact ⟨rfl, rfl, ⟨[], rfl⟩, fun p hp => by cases hp⟩
  | [], _ :: _, own, scope, h => by cases h
  | i :: is, [], own, scope, h => by cases h
  | i :: is, e :: es, own, scope, h => by
    unfold mTgB.go at h
    split at h
    · cases ‹_ :: _ = []›
    · rename_i i' is' x p es' h1 h2
      cases h1
      cases h2
      split at h
      · rename_i hc
        rw [Bool.and_eq_true, decide_eq_true_eq, Bool.or_eq_true, Bool.and_eq_true] at hc
        cases hg : mTgB.go N sc scope is es with
        | none =>
          rw [hg] at h
          cases h
        | some l =>
          rw [hg] at h
          cases h
          obtain ⟨e1, e2, ⟨ps, e3⟩, e4⟩ := tgB_go hg
          refine ⟨by rw [List.map_cons, e1], by simp [e2], ⟨p :: ps, by rw [List.zip_cons_cons, List.map_cons, ← e3]⟩, fun q hq => ?_⟩
          rcases List.mem_cons.mp hq with z | z
          · subst z
            exact hc
          · exact e4 q z
      · cases h
    · cases h
theorem nm_blk (ok : Ok sg G cf N sc X) (s : Shared) (H : Hp) (scope : Scope) (C : Addr) (cl : List (Str × Addr)) (fp : List Addr) {i : Nat} {x : Str} (h1 : N[i]? = some x) (h2 : isLc (relS scope sc) x = true ∨ (isCl (relS scope sc) x = true ∧ isCl scope x = true)) :
    NmOk (X.blk s H scope (compEnvC scope cl C X.env) fp) i x := by
  have hs : (X.blk s H scope (compEnvC scope cl C X.env) fp).env.scope = relS scope sc := (ok.blk s H scope C cl fp).sc
  refine ⟨by show X.N[i]? = some x; rw [ok.n]; exact h1, ?_, ?_⟩
  · rw [hs]
    rcases h2 with h2 | ⟨h2, _⟩
    · exact .inl (isLc_of h2)
    · exact .inr (isCl_of h2)
  · rcases h2 with h2 | ⟨_, h2⟩
    · exact .inr (by rw [hs]; exact isLc_of h2)
    · refine .inl ?_
      show (scope.names.lookup x == some .cell) = true
      rw [isCl_of h2]
      rfl
theorem pg_blk (ok : Ok sg G cf N sc X) {scope : Scope} {tg : Tg} {t : Expr} {own : List (Str × Nat)} (h : mTgB N sc scope tg t = some own) (s : Shared) (H : Hp) (C : Addr) (cl : List (Str × Addr)) (fp : List Addr) :
    PG (X.blk s H scope (compEnvC scope cl C X.env) fp) t (gOf X.K tg) := by
  have hN : (X.blk s H scope (compEnvC scope cl C X.env) fp).N.Nodup := by
    show X.N.Nodup
    rw [ok.n]
    exact ok.nd
  cases tg with
  | nm i =>
    cases t with
    | Name x p =>
      have h' : (if (decide (N[i]? = some x) && (isLc (relS scope sc) x || (isCl (relS scope sc) x && isCl scope x))) = true then some [(x, i)] else none) = some own := h
      split at h'
      · rename_i hc
        rw [Bool.and_eq_true, decide_eq_true_eq, Bool.or_eq_true, Bool.and_eq_true] at hc
        obtain ⟨k1, k2, k3⟩ := nm_blk ok s H scope C cl fp hc.1 hc.2
        exact pg_name hN k1 k2 k3
      · cases h'
    | _ => cases h
  | tp is =>
    cases t with
    | Tuple es k p =>
      obtain ⟨e1, e2, e3, e4⟩ := tgB_go (show mTgB.go N sc scope is es = some own from h)
      have hnm : ∀ e ∈ es, ∃ x p, e = Expr.Name x p := fun e he => by
        obtain ⟨ps, e3⟩ := e3
        rw [e3] at he
        obtain ⟨q, _, rfl⟩ := List.mem_map.mp he
        exact ⟨_, _, rfl⟩
      obtain ⟨a1, a2⟩ := assign_names (env := (X.blk s H scope (compEnvC scope cl C X.env) fp).env) hnm
      have gn := g_names (X := X.blk s H scope (compEnvC scope cl C X.env) fp) hN (l := own) (fun q hq => nm_blk ok s H scope C cl fp (e4 q hq).1 (e4 q hq).2) e1 e3 e2
      have ln : (assignEach es (X.blk s H scope (compEnvC scope cl C X.env) fp).env).length = is.length := by rw [a1, e2, ← e1, List.length_map]
      exact pg_ei (pg_tup (X := X.blk s H scope (compEnvC scope cl C X.env) fp) ok.calm gn ln a2) (pg_lst (X := X.blk s H scope (compEnvC scope cl C X.env) fp) ok.calm gn ln a2)
    | _ => cases h
  | nt i is => cases t <;> cases h
end
end Fl
namespace Fl
open PySem L2
section
variable {sg : Sig} {G : Glob} {cf : CF} {N : List Str}
theorem opB_of {o : Bop} {p : Operator} (h : opB o p = true) : p = bopOf o := (of_decide_eq_true h).symm
theorem opC_of {o : Cop} {p : CmpOp} (h : opC o p = true) : p = copOf o := (of_decide_eq_true h).symm
/-- a value, and a test where it may be one -/
def SE (G : Glob) (cf : CF) (X : Cx) (c : E) (e : Expr) : Prop := PE X e (rE G cf c) ∧ (tOk c = true → PT X e (rT G cf c))
theorem SE.gen {X : Cx} (hK : X.K = G.K) {c : E} {e : Expr} (h : PE X e (rE G cf c)) (he : ∀ whole, isTrue e X.env whole = (do let v ← whole; standAt e.pos; holding [v] (truthy v))) : SE G cf X c e := ⟨h, fun _ => t_gen hK h he⟩
/-- what a list of expressions is good for -/
structure SL (G : Glob) (cf : CF) (X : Cx) (c : Es) (es : List Expr) : Prop where
  pa : PA X es (rA G cf c)
  an : ∀ pos, es ≠ [] → PE X (.BoolOp .And es pos) (rd G (evAnd cf c) Rep)
  orr : ∀ pos, es ≠ [] → PE X (.BoolOp .Or es pos) (rd G (evOr cf c) Rep)
  wa : ∀ pos, es ≠ [] → tOkL c = true → PW X (.BoolOp .And es pos) (rTL G (evAnd cf c))
  wo : ∀ pos, es ≠ [] → tOkL c = true → PW X (.BoolOp .Or es pos) (rTL G (evOr cf c))
  pp : ∀ pos ks keys, mK ks keys = true → keys.length = es.length → PPs X pos keys es (trsOf G cf ks c)
theorem rd_congr {α β : Type} {f g : Sl → S → R α} {rp : Mp → S → Hp → α → β → Prop} (h : f = g) : rd G f rp = rd G g rp := by rw [h]
theorem pp_cons {X : Cx} {c : E} {r : Es} {x : Expr} {xs : List Expr} (h1 : SE G cf X c x) (h2 : ∀ pos ks keys, mK ks keys = true → keys.length = xs.length → PPs X pos keys xs (trsOf G cf ks r)) (pos : Pos) (ks : List (List Nat)) (keys : List (Option Expr)) (hm : mK ks keys = true) (hl : keys.length = (x :: xs).length) :
    PPs X pos keys (x :: xs) (trsOf G cf ks (.cons c r)) := by
  cases keys with
  | nil => cases hl
  | cons k keys =>
    cases ks with
    | nil => cases k <;> cases hm
    | cons z ks =>
      cases k with
      | none => cases hm
      | some k =>
        cases k with
        | Constant y p q =>
          cases y with
          | str y =>
            have hm' : (decide ((⟨z.toArray⟩ : Str) = y) && mK ks keys) = true := hm
            rw [Bool.and_eq_true, decide_eq_true_eq] at hm'
            obtain ⟨rfl, hm2⟩ := hm'
            exact pps_cons pe_str h1.1 (h2 pos ks keys hm2 (by simpa using hl))
          | _ => cases hm
        | _ => cases hm
theorem SL.cons {X : Cx} {c : E} {r : Es} {x : Expr} {xs : List Expr} (h1 : SE G cf X c x) (h2 : SL G cf X r xs) (hs : notStar x = true) (hl : r = .nil ↔ xs = []) : SL G cf X (.cons c r) (x :: xs) := by
  cases r with
  | nil =>
    have hx : xs = [] := hl.mp rfl
    subst hx
    have ea : evAnd cf (.cons c .nil) = ev cf c := by funext r s; simp only [evAnd]
    have eo : evOr cf (.cons c .nil) = ev cf c := by funext r s; simp only [evOr]
    refine ⟨c_cons h1.1 h2.pa (star1 hs), fun pos _ => ?_, fun pos _ => ?_, fun pos _ ht => ?_, fun pos _ ht => ?_, pp_cons h1 h2.pp⟩
    · rw [rd_congr ea]
      exact c_one h1.1
    · rw [rd_congr eo]
      exact c_one h1.1
    · simp only [tOkL, Bool.and_eq_true] at ht
      exact w_and1 (h1.2 ht.1)
    · simp only [tOkL, Bool.and_eq_true] at ht
      exact w_or1 (h1.2 ht.1)
  | cons c' r' =>
    cases xs with
    | nil => exact absurd (hl.mpr rfl) (fun z => nomatch z)
    | cons x' xs' =>
      refine ⟨c_cons h1.1 h2.pa (star1 hs), fun pos _ => c_andL h1.1 (h2.an pos (by simp)), fun pos _ => c_orL h1.1 (h2.orr pos (by simp)), fun pos _ ht => ?_, fun pos _ ht => ?_, pp_cons h1 h2.pp⟩
      · simp only [tOkL, Bool.and_eq_true] at ht
        exact w_and (h1.2 ht.1) (h2.wa pos (by simp) (by simp only [tOkL, Bool.and_eq_true]; exact ht.2))
      · simp only [tOkL, Bool.and_eq_true] at ht
        exact w_or (h1.2 ht.1) (h2.wo pos (by simp) (by simp only [tOkL, Bool.and_eq_true]; exact ht.2))
theorem mEs_nil {sc : Scope} {r : Es} {xs : List Expr} (h : mEs sg N sc r xs = true) : r = .nil ↔ xs = [] := by
  cases r <;> cases xs <;> simp only [mEs] at h <;> first | (cases h; done) | simp
/-- a test's clause -/
theorem pts_no {X : Cx} : PTs X [] (rC G cf .no) := ⟨fun pins s σ H Q I h => pts_nil.run pins s σ H Q I (by
  obtain ⟨φ, s, r, A, d, s', he, p⟩ := h
  simp only [evT] at he
  cases he
  exact p φ H true (Gr.refl _ _ _) A.hr rfl)⟩
theorem pts_so {X : Cx} {e : Expr} {c : E} (h : PT X e (rT G cf c)) : PTs X [e] (rC G cf (.so c)) := ⟨fun pins s σ H Q I q => (pts_one h).run pins s σ H Q I (by
  obtain ⟨φ, s, r, A, d, s', he, p⟩ := q
  simp only [evT] at he
  exact ⟨φ, s, r, A, d, s', he, p⟩)⟩
/-- the built-in functions -/
theorem bi_case {sc : Scope} {X : Cx} (ok : Ok sg G cf N sc X) {b : Bi} {es : Es} {x : Str} {p pos : Pos} {y : Expr} {ys : List Expr} (hx : x = Str.ofString (biN b)) (hg : glbB sc x = true) (hm : mEs sg N sc es (y :: ys) = true) (ha : PA X (y :: ys) (rA G cf es)) :
    PE X (.Call (.Name x p) (y :: ys) [] pos) (rE G cf (.bi b es)) := by
  subst hx
  have hs := mEs_star hm
  rw [List.all_cons, Bool.and_eq_true] at hs
  have he : starEach (y :: ys) X.env = (false, eval y X.env) :: starEach ys X.env := star1 hs.1
  have hpl : (backTo pos (starEach ys X.env)).any (·.1) = false := starN hs.2
  have gl := glb_of ok hg
  cases b with
  | len => exact c_bi (rr := fun xs H Q => rLen X.K xs H Q ∨ rLenD xs H Q) (CallR.or call_len call_lenD) gl (ok.bl _ (by decide)) PySem.boot_len ha (by decide) (by decide) he hpl fun h r e p => len_ok (h.k.trans ok.k.symm) h r e p
  | int => exact c_ty (rr := rInt1) call_int1 gl (ok.bl _ (by decide)) PyProof.Rows.boot_int ha (by decide) (by decide) he hpl fun h r e p => int_ok h r e p
  | list bx => exact c_ty (x := Str.ofString "list") (rr := fun xs H Q => rListOf X.K xs H Q ∨ rListStr xs H Q) (CallR.or call_list_of (call_listStr ok.calm)) gl (ok.bl "list" (by decide)) PyProof.Rows.boot_list ha (by decide) (by decide) he hpl fun h r e p => list_ok (h.k.trans ok.k.symm) h r e p
  | tuple => exact c_ty (rr := fun xs H Q => rTupOf X.K xs H Q ∨ rTupStr xs H Q) (CallR.or call_tuple_of (call_tupStr ok.calm)) gl (ok.bl _ (by decide)) PyProof.Rows.boot_tuple ha (by decide) (by decide) he hpl fun h r e p => tuple_ok (h.k.trans ok.k.symm) h r e p
  | min2 => exact c_bi (call_min2 ok.calm) gl (ok.bl _ (by decide)) PyProof.Rows.boot_min ha (by decide) (by decide) he hpl fun h r e p => min_ok h r e p
  | max2 => exact c_bi (call_max2 ok.calm) gl (ok.bl _ (by decide)) PyProof.Rows.boot_max ha (by decide) (by decide) he hpl fun h r e p => max_ok h r e p
  | sum => exact c_bi (cr_sum ok.calm) gl (ok.bl _ (by decide)) PyProof.Rows.boot_sum ha (by decide) (by decide) he hpl fun h r e p => sum_ok (h.k.trans ok.k.symm) h r e p
  | min3 => exact c_bi (call_min3Nu ok.calm) gl (ok.bl _ (by decide)) PyProof.Rows.boot_min ha (by decide) (by decide) he hpl fun h r e p => min3_ok h r e p
  | minL => exact c_bi (cr_min ok.calm) gl (ok.bl _ (by decide)) PyProof.Rows.boot_min ha (by decide) (by decide) he hpl fun h r e p => minL_ok (h.k.trans ok.k.symm) h r e p
  | minT => exact c_bi (MinT.cr_minT ok.calm (by have := ok.units; show X.A.units + 1 < cLine; omega)) gl (ok.bl _ (by decide)) PyProof.Rows.boot_min ha (by decide) (by decide) he hpl fun h r e p => minT_ok (h.k.trans ok.k.symm) h r e p
  | sorted bx => exact c_bi (x := Str.ofString "sorted") (call_sortAll ok.calm) gl (ok.bl "sorted" (by decide)) PyProof.Rows.boot_sorted ha (by decide) (by decide) he hpl fun h r e p => sort_ok (h.k.trans ok.k.symm) h r e p
  | dict => exact c_ty (x := Str.ofString "dict") (rr := rDict X.K) (call_dictP ok.calm) gl (ok.bl "dict" (by decide)) PyProof.Rows.boot_dict ha (by decide) (by decide) he hpl fun h r e p => dict_ok (h.k.trans ok.k.symm) h r e p
  | str => exact c_ty (rr := fun xs H Q => (∃ i, xs = [.int i] ∧ i.natAbs.log2 < 1920 ∧ Q (.str (toString i)) H) ∨ rStr X.K xs H Q) (CallR.or call_str_int (call_str ok.units ok.gd)) gl (ok.bl _ (by decide)) PyProof.Rows.boot_str ha (by decide) (by decide) he hpl fun h r e p => strA_ok (h.k.trans ok.k.symm) h r e p
  | intT => exact c_ty call_int_str gl (ok.bl _ (by decide)) PyProof.Rows.boot_int ha (by decide) (by decide) he hpl fun h r e p => intT_ok h r e p
  | minE => exact c_bi (cr_minE ok.calm (by have := ok.units; omega)) gl (ok.bl _ (by decide)) PyProof.Rows.boot_min ha (by decide) (by decide) he hpl fun h r e p => minE_ok (h.k.trans ok.k.symm) h r e p
  | abs => exact c_bi call_abs gl (ok.bl _ (by decide)) PyProof.Rows.boot_abs ha (by decide) (by decide) he hpl fun h r e p => abs_ok h r e p
/-- the methods -/
theorem met_case {sc : Scope} {X : Cx} (hK : X.K = G.K) (hu : X.A.units + 4499 < cLine) {m : Mt} {c : E} {es : Es} {r : Expr} {x : Str} {ap cp : Pos} {xs : List Expr} (hx : x = Str.ofString (mtN m)) (hr : recvOk r = true) (hl : ap.endLine = cp.line) (hn : xs.length = mtArgs m) (ho : PE X r (rE G cf c)) (hm : mEs sg N sc es xs = true) (ha : PA X xs (rA G cf es)) :
    PE X (.Call (.Attribute r x ap) xs [] cp) (rE G cf (.met m c es)) := by
  subst hx
  have hs := mEs_star hm
  have hln : (ap.endLine == cp.line) = true := by rw [hl]; exact beq_self_eq_true _
  cases xs with
  | nil =>
    cases es with
    | cons _ _ => simp only [mEs] at hm; cases hm
    | nil =>
      cases m with
      | clear => exact c_met0 PySem.F.plainAttrs_list PySem.F.slot_list_clear PySem.F.type_list_clear mt_clear ho (base_ok hr) hln (fun h r e => ty_list (h.k.trans hK.symm) h r e) fun h r l e p => clear_ok h r l e p
      | upper => exact c_met0 PySem.F.plainAttrs_str PySem.F.slot_str_upper PySem.F.type_str_upper mt_upper ho (base_ok hr) hln (fun h r e => ty_strU r e) fun h r l e p => upper_ok r h l e p
      | pop => exact c_met0 PySem.F.plainAttrs_list PySem.F.slot_list_pop PySem.F.type_list_pop mt_pop ho (base_ok hr) hln (fun h r e => ty_list (h.k.trans hK.symm) h r e) fun h r l e p => pop_ok h r l e p
      | _ => cases hn
  | cons y ys =>
    rw [List.all_cons, Bool.and_eq_true] at hs
    have he : starEach (y :: ys) X.env = (false, eval y X.env) :: starEach ys X.env := star1 hs.1
    have hpl : (backTo cp (starEach ys X.env)).any (·.1) = false := starN hs.2
    have hfew : ∀ k, (y :: ys).length = k → k < 30 → ((backTo cp (starEach (y :: ys) X.env)).all (fun x => !x.1) && (backToKw cp (keywordEach [] X.env)).all (fun x => x.1.isSome)
      && decide ((y :: ys).length + ([] : List Keyword).length + (if ([] : List Keyword).isEmpty then 0 else 1) < 30)) = true := fun k h1 h2 => by
      rw [starA (by rw [List.all_cons, hs.1, hs.2]; rfl)]
      rw [h1]
      show (true && true && decide (k + 0 + 0 < 30)) = true
      simp
      exact h2
    cases m with
    | append => exact c_met PySem.F.plainAttrs_list PySem.F.slot_list_append PySem.F.type_list_append mt_append ho ha (base_ok hr) (hfew _ hn (by decide)) hln he hpl (fun h r e => ty_list (h.k.trans hK.symm) h r e) fun h r l e p => append_ok h r l e p
    | extend => exact c_met PySem.F.plainAttrs_list PySem.F.slot_list_extend PySem.F.type_list_extend mt_extend ho ha (base_ok hr) (hfew _ hn (by decide)) hln he hpl (fun h r e => ty_list (h.k.trans hK.symm) h r e) fun h r l e p => extend_ok h r l e p
    | pop => cases hn
    | clear => cases hn
    | split bx => exact c_met PySem.F.plainAttrs_str PySem.F.slot_str_split PySem.F.type_str_split mt_split ho ha (base_ok hr) (hfew _ hn (by show (1 : Nat) < 30; decide)) hln he hpl (fun h r e => ty_strS r e) fun h r l e p => split_ok h r l e p
    | upper => cases hn
    | count => exact c_met (rr := rCountF X.K) PySem.F.plainAttrs_list PySem.F.slot_list_count PySem.F.type_list_count mt_countF ho ha (base_ok hr) (hfew _ hn (by decide)) hln he hpl (fun h r e => ty_list (h.k.trans hK.symm) h r e) fun h r l e p => count_ok (h.k.trans hK.symm) h r l e p
    | popAt => exact c_met PySem.F.plainAttrs_list PySem.F.slot_list_pop PySem.F.type_list_pop mt_popAt ho ha (base_ok hr) (hfew _ hn (by decide)) hln he hpl (fun h r e => ty_list (h.k.trans hK.symm) h r e) fun h r l e p => popAt_ok h r l e p
    | insert => exact c_met (rr := rInsert) PySem.F.plainAttrs_list PySem.F.slot_list_insert PySem.F.type_list_insert mt_insert ho ha (base_ok hr) (hfew _ hn (by decide)) hln he hpl (fun h r e => ty_list (h.k.trans hK.symm) h r e) fun h r l e p => insert_ok h r l e p
    | index => exact c_met (rr := rIndexA X.K) PySem.F.plainAttrs_list PySem.F.slot_list_index PySem.F.type_list_index (mt_indexA hu) ho ha (base_ok hr) (hfew _ hn (by decide)) hln he hpl (fun h r e => ty_list (h.k.trans hK.symm) h r e) fun h r l e p => index_ok (h.k.trans hK.symm) h r l e p
    | join => exact c_met (rr := rJoin X.K) PySem.F.plainAttrs_str PySem.F.slot_str_join PySem.F.type_str_join mt_join ho ha (base_ok hr) (hfew _ hn (by decide)) hln he hpl (fun h r e => ty_str r e) fun h r l e p => join_ok (h.k.trans hK.symm) h r l e p
/-- the find in a dict of the text -/
theorem find_ent : ∀ {es : List DictEntry} {tab : List (List Nat × Int)} (z : List Nat), entR es tab → (match tab.find? fun p => p.1 == z with | some p => ∃ t, ((es.find? fun e => Value.isStrOf ⟨z.toArray⟩ e.key).map (·.val)) = some (.int p.2 t) | none => ((es.find? fun e => Value.isStrOf ⟨z.toArray⟩ e.key).map (·.val)) = none)
  | [], [], z, _ => rfl
  | [], _ :: _, z, h => False.elim h
  | _ :: _, [], z, h => False.elim h
  | e :: es, (x, i) :: tab, z, h => by
    obtain ⟨⟨⟨t, h1⟩, u, h2⟩, h3⟩ := h
    have ih := find_ent z h3
    rw [List.find?_cons, List.find?_cons, h1]
    by_cases q : x = z
    · subst q
      have e1 : Value.isStrOf ⟨x.toArray⟩ (.str ⟨x.toArray⟩ t) = true := by simp [Value.isStrOf]
      simp only [beq_self_eq_true, e1]
      exact ⟨u, by rw [Option.map_some, h2]⟩
    · have e1 : Value.isStrOf ⟨z.toArray⟩ (.str ⟨x.toArray⟩ t) = false := by
        simp only [Value.isStrOf, beq_eq_false_iff_ne, ne_eq, Str.mk.injEq]
        intro w
        exact q (by simpa using congrArg Array.toList w)
      have e2 : (x == z) = false := by simpa using q
      simp only [e1, e2]
      exact ih
def tKGet2 (tab : List (List Nat × Int)) (ta tb : TE) : TE := fun σ H Q => ta σ H fun y H2 => tb σ H2 fun z H3 => ∃ zs : List Nat, y = .str ⟨zs.toArray⟩ ∧ Q (match tab.find? fun p => p.1 == zs with | some p => .int p.2 | none => z) H3
theorem pe_kdget2 {X : Cx} {d : Addr} {es : Array DictEntry} {n : Nat} {tab : List (List Nat × Int)} {o a b : Expr} {ta tb : TE} {ap cp : Pos} (D : KDict X.K X.w d es n) (he : entR es.toList tab) (ho : PE X o (tC (.ref d))) (ha : PE X a ta) (hb : PE X b tb)
    (m : M2 X o "get" ap a b cp) : PE X (.Call (.Attribute o "get" ap) [a, b] [] cp) (tKGet2 tab ta tb) := by
  refine ⟨fun pins s σ H Q I h => ?_⟩
  refine wpAny_Call_method m.base m.few m.line PySem.F.plainAttrs_dict PySem.F.slot_dict_get PySem.F.type_dict_get (thn (ho.run pins s σ H (fun x H1 => x = .ref d ∧ H1 = H) I ⟨rfl, rfl⟩) fun u s1 ⟨x, H1, I1, rx, ex, eH⟩ => ?_)
  subst ex eH
  obtain rfl : u = Value.ref d := rx
  have hmap := PySem.W.mapOf_K (prog := X.prog) (w := X.w) I1.kIn D.at_ D.lit
  refine ⟨hmap.typeIs, fun b' q => ?_, ?_⟩
  · cases q
    exact ⟨_, I1.kIn _ _ D.at_, rfl⟩
  rw [m.trees]
  refine Calls.callWith_builtin rfl (Calls.evalArgs_plain (Calls.spliced_cons (thn (ha.run pins s1 σ _ _ I1 h) fun iv s2 ⟨y, H2, I2, ry, q2⟩ =>
    Calls.spliced_cons (thn (hb.run pins s2 σ H2 _ I2 q2) fun fv s3 ⟨z, H3, I3, rz, zs, ez, q3⟩ => Calls.spliced_nil ?_))))
  subst ez
  obtain ⟨t, rfl⟩ := ry
  have hmap3 := PySem.W.mapOf_K (prog := X.prog) (w := X.w) I3.kIn D.at_ D.lit
  refine call_meetsIn PySem.F.slot_dict_get hmap3.typeIs PySem.F.entry_dict_get (PySem.F.args_dict_get_3 _ _ _) (meets_dict_get_default (strKind X.prog X.w) d (PySem.strKind_is X.prog X.w ⟨zs.toArray⟩ t) D.low fv) ⟨_, hmap3, ?_⟩
  have hf := find_ent zs he
  obtain ⟨l⟩ := es
  have e0 : findBy Value.isStrOf ⟨l⟩ ⟨zs.toArray⟩ = ((l.find? fun e => Value.isStrOf ⟨zs.toArray⟩ e.key).map (·.val)) := by
    simp only [findBy, List.find?_toArray]
  cases ht : tab.find? fun p => p.1 == zs with
  | some p =>
    rw [ht] at hf q3
    obtain ⟨t', hf⟩ := hf
    refine ⟨_, H3, I3.tok _, ?_, q3⟩
    rw [e0, hf]
    exact ⟨t', rfl⟩
  | none =>
    rw [ht] at hf q3
    refine ⟨_, H3, I3.tok _, ?_, q3⟩
    rw [e0, hf]
    exact rz
theorem c_dget {X : Cx} {d : Addr} {es : Array DictEntry} {n : Nat} {tab : List (List Nat × Int)} {f : String} {o a b : Expr} {ca cb : E} {ap cp : Pos} (D : KDict X.K X.w d es n) (he : entR es.toList tab) (ho : PE X o (tC (.ref d))) (ha : PE X a (rE G cf ca)) (hb : PE X b (rE G cf cb))
    (m : M2 X o "get" ap a b cp) : PE X (.Call (.Attribute o "get" ap) [a, b] [] cp) (rE G cf (.dget f tab ca cb)) := by
  refine PE.imp (pe_kdget2 D he ho ha hb m) fun σ H Q h => ?_
  obtain ⟨φ, s, r, A, d', s', he', p⟩ := h
  simp only [ev] at he'
  obtain ⟨x, s1, e1, he'⟩ := bnd_inv he'
  obtain ⟨y, s2, e2, he'⟩ := bnd_inv he'
  refine rd_step A e1 fun φ1 H1 v g1 A1 rv => ?_
  refine rd_step A1 e2 fun φ2 H2 w g2 A2 rw' => ?_
  cases x with
  | str z =>
    simp only [dgetD, Option.some.injEq, Prod.mk.injEq, Rs.ok.injEq] at he'
    obtain ⟨hd, hs⟩ := he'
    subst hs
    simp only [Rep] at rv
    refine ⟨z, rv, ?_⟩
    refine p φ2 H2 _ (g1.trans g2) A2.hr ?_
    rw [← hd]
    cases tab.find? fun p => p.1 == z with
    | some q => simp only [Rep]
    | none => exact rw'
  | _ => cases he'
theorem fn_mem {f : String} (h : (sg.fn.any fun p => decide (p.1 = "") && decide (p.2.1 = f)) = true) : ∃ n, ("", f, n) ∈ sg.fn := by
  obtain ⟨⟨c, g, n⟩, h1, h2⟩ := List.any_eq_true.mp h
  simp only [Bool.and_eq_true, decide_eq_true_eq] at h2
  obtain ⟨rfl, rfl⟩ := h2
  exact ⟨n, h1⟩
/-- a tuple of built-in types -/
theorem tys_pa {sc : Scope} {X : Cx} (ok : Ok sg G cf N sc X) : ∀ {ts : List Ty} {es : List Expr}, mTys sc ts es = true → PA X es fun _ H Q => Q (ts.map fun t => V.ty (tyS t)) H
  | [], [], _ => ⟨fun pos pins s σ H Q I q => pa_nil.run pos pins s σ H Q I q⟩
  | [], _ :: _, h => by cases h
  | t :: ts, [], h => by cases h
  | t :: ts, e :: es, h => by
    cases e with
    | Name z p =>
      have h' : (decide (z = Str.ofString (tyS t)) && glbB sc z && mTys sc ts es) = true := h
      simp only [Bool.and_eq_true, decide_eq_true_eq] at h'
      obtain ⟨⟨rfl, h2⟩, h3⟩ := h'
      have ih := tys_pa ok h3
      have hp : PE X (.Name (Str.ofString (tyS t)) p) (tC (.ty (tyS t))) := pe_bltn (glb_of ok h2) (ok.bl _ (tyS_bn t)) (boot_tyS t) rfl (tyS_nm t).1 (tyS_nm t).2
      exact ⟨fun pos pins s σ H Q I q => (pa_cons hp ih rfl).run pos pins s σ H Q I q⟩
    | _ => cases h
/-- a class that a test names -/
theorem xcls_pe {sc : Scope} {X : Cx} (ok : Ok sg G cf N sc X) {t : String} {p : Pos} (h1 : glbB sc (Str.ofString t) = true) (h2 : nodb (Str.ofString t) = true) (h3 : t ∈ sg.et) : PE X (.Name (Str.ofString t) p) (tC (vE X.K t)) := by
  obtain ⟨n1, n2, n3⟩ := nodb_of h2
  by_cases ht : t = "ValueError"
  · subst ht
    have e : vE X.K "ValueError" = .ty "ValueError" := by
      unfold vE
      rw [if_pos rfl]
    rw [e]
    exact pe_bltn (glb_of ok h1) (ok.xf.vm h3) (PyProof.Rows.ExcClass.boot PyProof.Rows.excClass_ValueError) rfl n3 n1
  · rcases ok.xf.tg t h3 with z | ⟨T, k1, k2⟩
    · exact absurd z ht
    · have e : vE X.K t = .ref T := by
        unfold vE
        rw [if_neg ht, k1]
      rw [e]
      exact pe_glob (glb_of ok h1) k2 rfl n1
theorem xs_pa {sc : Scope} {X : Cx} (ok : Ok sg G cf N sc X) : ∀ {ts : List String} {es : List Expr}, mXs sg.et sc ts es = true → (PA X es fun _ H Q => Q (ts.map (vE X.K)) H) ∧ (∀ t ∈ ts, t ∈ sg.et) ∧ ts.length = es.length
  | [], [], _ => ⟨⟨fun pos pins s σ H Q I q => pa_nil.run pos pins s σ H Q I q⟩, fun t h => (by cases h), rfl⟩
  | [], _ :: _, h => by cases h
  | t :: ts, [], h => by cases h
  | t :: ts, e :: es, h => by
    cases e with
    | Name z p =>
      have h' : (decide (z = Str.ofString t) && glbB sc z && nodb z && decide (t ∈ sg.et) && mXs sg.et sc ts es) = true := h
      simp only [Bool.and_eq_true, decide_eq_true_eq] at h'
      obtain ⟨⟨⟨⟨rfl, h2⟩, h3⟩, h4⟩, h5⟩ := h'
      obtain ⟨i1, i2, i3⟩ := xs_pa ok h5
      refine ⟨⟨fun pos pins s σ H Q I q => (pa_cons (xcls_pe ok h2 h3 h4) i1 rfl).run pos pins s σ H Q I q⟩, fun t' h => ?_, by simp [i3]⟩
      rcases List.mem_cons.mp h with rfl | h
      · exact h4
      · exact i2 _ h
    | _ => cases h
theorem mK_len : ∀ {ks : List (List Nat)} {keys : List (Option Expr)}, mK ks keys = true → keys.length = ks.length ∧ keys.all (·.isSome) = true
  | [], [], _ => ⟨rfl, rfl⟩
  | [], none :: _, h => by cases h
  | [], some _ :: _, h => by cases h
  | k :: ks, [], h => by cases h
  | k :: ks, none :: keys, h => by cases h
  | k :: ks, some e :: keys, h => by
    cases e with
    | Constant y p q =>
      cases y with
      | str y =>
        have hm' : (decide ((⟨k.toArray⟩ : Str) = y) && mK ks keys) = true := h
        rw [Bool.and_eq_true] at hm'
        obtain ⟨h1, h2⟩ := mK_len hm'.2
        exact ⟨by simp [h1], by rw [List.all_cons, h2]; rfl⟩
      | _ => cases h
    | _ => cases h
theorem mTys_len {sc : Scope} : ∀ {ts : List Ty} {es : List Expr}, mTys sc ts es = true → ts.length = es.length
  | [], [], _ => rfl
  | [], _ :: _, h => by cases h
  | t :: ts, [], h => by cases h
  | t :: ts, e :: es, h => by
    cases e with
    | Name z p =>
      have h' : (decide (z = Str.ofString (tyS t)) && glbB sc z && mTys sc ts es) = true := h
      rw [Bool.and_eq_true] at h'
      simp [mTys_len h'.2]
    | _ => cases h
mutual
theorem sE : ∀ (c : E) (sc : Scope) (X : Cx) (e : Expr), Ok sg G cf N sc X → mE sg N sc c e = true → SE G cf X c e
  | .var i, sc, X, e, ok, h => by
    simp only [mE] at h
    split at h
    · rename_i x p
      simp only [Bool.and_eq_true, decide_eq_true_eq] at h
      obtain ⟨n1, n2, n3⟩ := nodb_of h.2
      exact SE.gen ok.k (c_var (by rw [ok.n]; exact h.1.1) (by rw [ok.sc]; exact vis_of h.1.2) n1 n2) fun _ => rfl
    · cases h
  | .non, sc, X, e, ok, h => by
    simp only [mE] at h
    split at h
    · exact SE.gen ok.k (c_const (v := .non) (d := .non) pe_non (fun _ _ => by simp only [ev]) fun _ _ _ => by simp only [Rep]) fun _ => rfl
    · cases h
  | .bl b, sc, X, e, ok, h => by
    simp only [mE] at h
    split at h
    · rw [decide_eq_true_eq] at h
      subst h
      exact SE.gen ok.k (c_const (v := .bl b) (d := .bl b) pe_bl (fun _ _ => by simp only [ev]) fun _ _ _ => by simp only [Rep]) fun _ => rfl
    · cases h
  | .int i, sc, X, e, ok, h => by
    simp only [mE] at h
    split at h
    · rw [decide_eq_true_eq] at h
      subst h
      exact SE.gen ok.k (c_const (v := .int i) (d := .int i) pe_int (fun _ _ => by simp only [ev]) fun _ _ _ => by simp only [Rep]) fun _ => rfl
    · cases h
  | .str x, sc, X, e, ok, h => by
    simp only [mE] at h
    split at h
    · rw [decide_eq_true_eq] at h
      subst h
      exact SE.gen ok.k (c_const (v := .str _) (d := .str x) pe_str (fun _ _ => by simp only [ev]) fun _ _ _ => by simp only [Rep]) fun _ => rfl
    · cases h
  | .gs f v, sc, X, e, ok, h => by
    simp only [mE] at h
    split at h
    · simp only [Bool.and_eq_true, decide_eq_true_eq] at h
      obtain ⟨⟨⟨h1, h2⟩, h3⟩, h4⟩ := h
      obtain ⟨n1, n2, n3⟩ := nodb_of h3
      obtain ⟨t, ht⟩ := ok.gs f v h4
      subst h1
      exact SE.gen ok.k (c_const (v := .str ⟨v.toArray⟩) (d := .str v) (pe_glob (glb_of ok h2) ht ⟨t, rfl⟩ n1) (fun _ _ => by simp only [ev]) fun _ _ _ => by simp only [Rep]) fun _ => rfl
    · cases h
  | .gi f v, sc, X, e, ok, h => by
    simp only [mE] at h
    split at h
    · simp only [Bool.and_eq_true, decide_eq_true_eq] at h
      obtain ⟨⟨⟨h1, h2⟩, h3⟩, h4⟩ := h
      obtain ⟨n1, n2, n3⟩ := nodb_of h3
      obtain ⟨t, ht⟩ := ok.gi f v h4
      subst h1
      exact SE.gen ok.k (c_const (v := .int v) (d := .int v) (pe_glob (glb_of ok h2) ht ⟨t, rfl⟩ n1) (fun _ _ => by simp only [ev]) fun _ _ _ => by simp only [Rep]) fun _ => rfl
    · cases h
  | .bin o a b, sc, X, e, ok, h => by
    simp only [mE] at h
    split at h
    · simp only [Bool.and_eq_true] at h
      obtain ⟨⟨h1, h2⟩, h3⟩ := h
      have := opB_of h1
      subst this
      exact SE.gen ok.k (c_bin (sE a sc X _ ok h2).1 (sE b sc X _ ok h3).1) fun _ => rfl
    · cases h
  | .neg a, sc, X, e, ok, h => by
    simp only [mE] at h
    split at h
    · exact SE.gen ok.k (c_neg (sE a sc X _ ok h).1) fun _ => rfl
    · cases h
  | .not a, sc, X, e, ok, h => by
    simp only [mE] at h
    split at h
    · simp only [Bool.and_eq_true] at h
      have ih := sE a sc X _ ok h.1
      exact ⟨c_not ok.k ih.1, fun _ => t_not (ih.2 h.2)⟩
    · cases h
  | .and es, sc, X, e, ok, h => by
    simp only [mE] at h
    split at h
    · simp only [Bool.and_eq_true] at h
      have ih := sL es sc X _ ok h.1
      have e1 : ev cf (.and es) = evAnd cf es := by funext r s; simp only [ev]
      refine ⟨?_, fun _ => ?_⟩
      · rw [rE, rd_congr e1]
        exact ih.an _ (by simp)
      · have e2 : tst cf (.and es) = tstL (evAnd cf es) := by funext r s; unfold tst tstL; simp only [ev]
        rw [rT, rd_congr e2]
        exact (ih.wa _ (by simp) h.2).pt
    · cases h
  | .or es, sc, X, e, ok, h => by
    simp only [mE] at h
    split at h
    · simp only [Bool.and_eq_true] at h
      have ih := sL es sc X _ ok h.1
      have e1 : ev cf (.or es) = evOr cf es := by funext r s; simp only [ev]
      refine ⟨?_, fun _ => ?_⟩
      · rw [rE, rd_congr e1]
        exact ih.orr _ (by simp)
      · have e2 : tst cf (.or es) = tstL (evOr cf es) := by funext r s; unfold tst tstL; simp only [ev]
        rw [rT, rd_congr e2]
        exact (ih.wo _ (by simp) h.2).pt
    · cases h
  | .cmp o a b, sc, X, e, ok, h => by
    simp only [mE] at h
    split at h
    · simp only [Bool.and_eq_true] at h
      obtain ⟨⟨⟨h1, h2⟩, h3⟩, h4⟩ := h
      have := opC_of h1
      subst this
      have ia := (sE a sc X _ ok h3).1
      have ib := (sE b sc X _ ok h4).1
      exact ⟨c_cmp ok.k ok.units ia ib (bh_no h2), fun _ => t_cmp ok.k ok.units ia ib (bh_no h2)⟩
    · cases h
  | .chn o o' a b c, sc, X, e, ok, h => by
    simp only [mE] at h
    split at h
    · simp only [Bool.and_eq_true] at h
      obtain ⟨⟨⟨⟨⟨⟨h1, h2⟩, h3⟩, h4⟩, h5⟩, h6⟩, h7⟩ := h
      have := opC_of h1
      subst this
      have := opC_of h2
      subst this
      have ia := (sE a sc X _ ok h5).1
      have ib := (sE b sc X _ ok h6).1
      have ic := (sE c sc X _ ok h7).1
      exact ⟨c_chn ok.k ok.units ia ib ic (last_no h4), fun _ => t_chn ok.k ok.units ia ib ic (last_no h4)⟩
    · cases h
  | .ite c a b, sc, X, e, ok, h => by
    simp only [mE] at h
    split at h
    · simp only [Bool.and_eq_true] at h
      obtain ⟨⟨⟨h1, h2⟩, h3⟩, h4⟩ := h
      exact ⟨c_ite ((sE c sc X _ ok h1).2 h2) (sE a sc X _ ok h3).1 (sE b sc X _ ok h4).1, fun z => by cases z⟩
    · cases h
  | .tup es, sc, X, e, ok, h => by
    simp only [mE] at h
    split at h
    · exact SE.gen ok.k (c_tup (sL es sc X _ ok h).pa) fun _ => rfl
    · cases h
  | .lst bx es, sc, X, e, ok, h => by
    simp only [mE] at h
    split at h
    · exact SE.gen ok.k (c_lst (sL es sc X _ ok h).pa) fun _ => rfl
    · cases h
  | .cat bx a b, sc, X, e, ok, h => by
    simp only [mE] at h
    split at h
    · simp only [Bool.and_eq_true] at h
      exact SE.gen ok.k (c_cat ok.k (sE a sc X _ ok h.1).1 (sE b sc X _ ok h.2).1) fun _ => rfl
    · cases h
  | .idx a b, sc, X, e, ok, h => by
    simp only [mE] at h
    split at h
    · simp only [Bool.and_eq_true] at h
      exact SE.gen ok.k (c_idx ok.k ok.units (sE a sc X _ ok h.1.2).1 (sE b sc X _ ok h.2).1 (plain_ix h.1.1)) fun _ => rfl
    · cases h
  | .sl bx a lo hi, sc, X, e, ok, h => by
    simp only [mE] at h
    split at h
    · simp only [Bool.and_eq_true] at h
      exact SE.gen ok.k (c_sl ok.k (sE a sc X _ ok h.1.1).1 (sO lo sc X _ ok h.1.2) (sO hi sc X _ ok h.2)) fun _ => rfl
    · cases h
  | .call f es, sc, X, e, ok, h => by
    simp only [mE] at h
    split at h
    · rename_i x p xs pos
      simp only [Bool.and_eq_true, decide_eq_true_eq] at h
      obtain ⟨⟨⟨⟨h1, h2⟩, h3⟩, h4⟩, h5⟩ := h
      obtain ⟨n1, n2, n3⟩ := nodb_of h3
      obtain ⟨n, hn⟩ := fn_mem h4
      have F := ok.fn f n hn
      subst h1
      have hs := mEs_star h5
      have il := sL es sc X _ ok h5
      cases xs with
      | nil =>
        have := (mEs_nil h5).mpr rfl
        subst this
        exact SE.gen ok.k (c_call0 F (glb_of ok h2) n1) fun _ => rfl
      | cons y ys =>
        rw [List.all_cons, Bool.and_eq_true] at hs
        exact SE.gen ok.k (c_call F (glb_of ok h2) il.pa n1 (star1 hs.1) (starN hs.2)) fun _ => rfl
    · cases h
  | .lrng bx c, sc, X, e, ok, h => by
    simp only [mE] at h
    split at h
    · simp only [Bool.and_eq_true, decide_eq_true_eq] at h
      obtain ⟨⟨⟨⟨⟨h1, h2⟩, h3⟩, h4⟩, h5⟩, h6⟩ := h
      subst h1
      subst h3
      exact SE.gen ok.k (c_lrng ok.calm (glb_of ok h2) (ok.bl _ (by decide)) (glb_of ok h4) (ok.bl _ (by decide)) (sE c sc X _ ok h5).1 (star1 h6)) fun _ => rfl
    · cases h
  | .bi b es, sc, X, e, ok, h => by
    simp only [mE] at h
    split at h
    · simp only [Bool.and_eq_true, decide_eq_true_eq] at h
      obtain ⟨⟨h1, h2⟩, h3⟩ := h
      exact SE.gen ok.k (bi_case ok h1 h2 h3 (sL es sc X _ ok h3).pa) fun _ => rfl
    · cases h
  | .isi a t, sc, X, e, ok, h => by
    simp only [mE] at h
    split at h
    · simp only [Bool.and_eq_true, decide_eq_true_eq] at h
      obtain ⟨⟨⟨⟨⟨h1, h2⟩, h3⟩, h4⟩, h5⟩, h6⟩ := h
      subst h1
      subst h3
      exact SE.gen ok.k (c_isi (hK := ok.k) (p2 := ⟨0, 0, 0, 0⟩) (y := "") (glb_of ok h2) (ok.bl _ (by decide)) (sE a sc X _ ok h5).1 (pe_bltn (glb_of ok h4) (ok.bl _ (tyS_bn t)) (boot_tyS t) rfl (tyS_nm t).1 (tyS_nm t).2) (star1 h6) rfl rfl) fun _ => rfl
    · cases h
  | .met m o es, sc, X, e, ok, h => by
    simp only [mE] at h
    split at h
    · simp only [Bool.and_eq_true, decide_eq_true_eq] at h
      obtain ⟨⟨⟨⟨⟨h1, h2⟩, h3⟩, h4⟩, h5⟩, h6⟩ := h
      exact SE.gen ok.k (met_case (sc := sc) ok.k ok.units h1 h2 h3 h4 (sE o sc X _ ok h5).1 h6 (sL es sc X _ ok h6).pa) fun _ => rfl
    · cases h
  | .dget f tab k d, sc, X, e, ok, h => by
    simp only [mE] at h
    split at h
    · rename_i x q m ap a b cp
      simp only [Bool.and_eq_true, decide_eq_true_eq] at h
      obtain ⟨⟨⟨⟨⟨⟨⟨⟨⟨⟨h1, h2⟩, h3⟩, h4⟩, h5⟩, h6⟩, h7⟩, h8⟩, h9⟩, h10⟩, h11⟩ := h
      obtain ⟨n1, n2, n3⟩ := nodb_of h3
      obtain ⟨da, es, n, hm, D, hE⟩ := ok.ds f tab h4
      subst h1 h5
      have hs : [a, b].all notStar = true := by rw [List.all_cons, List.all_cons, h7, h8]; rfl
      refine SE.gen ok.k (c_dget D hE (pe_glob (glb_of ok h2) hm rfl n1) (sE k sc X _ ok h10).1 (sE d sc X _ ok h11).1 ⟨base_ok h9, ?_, by rw [h6]; exact beq_self_eq_true _, ?_⟩) fun _ => rfl
      · rw [starA hs]
        rfl
      · rw [star1 h7, star1 h8]
        rfl
    · cases h
  | .fld o f, sc, X, e, ok, h => by
    simp only [mE] at h
    split at h
    · simp only [Bool.and_eq_true, decide_eq_true_eq] at h
      obtain ⟨⟨⟨h1, h2⟩, h3⟩, h4⟩ := h
      subst h1
      exact SE.gen ok.k (c_fld (fun c C hC => ⟨(ok.cl c C hC).1, (ok.cl c C hC).2 f h3⟩) (sE o sc X _ ok h4).1 (base_ok h2)) fun _ => rfl
    · cases h
  | .own o m es, sc, X, e, ok, h => by
    simp only [mE] at h
    split at h
    · rename_i r x ap xs cp
      simp only [Bool.and_eq_true, decide_eq_true_eq] at h
      obtain ⟨⟨⟨⟨⟨h1, h2⟩, h3⟩, h4⟩, h5⟩, h6⟩ := h
      subst h1
      have hs := mEs_star h6
      have il := sL es sc X _ ok h6
      have hln : (ap.endLine == cp.line) = true := by rw [h3]; exact beq_self_eq_true _
      cases xs with
      | nil =>
        have := (mEs_nil h6).mpr rfl
        subst this
        exact SE.gen ok.k (c_own0 (fun c hc => ok.ms c m hc) (sE o sc X _ ok h5).1 (base_ok h2) hln) fun _ => rfl
      | cons y ys =>
        rw [List.all_cons, Bool.and_eq_true] at hs
        refine SE.gen ok.k (c_own (fun c hc => ok.ms c m hc) (sE o sc X _ ok h5).1 il.pa (star1 hs.1) (starN hs.2) (base_ok h2) ?_ hln) fun _ => rfl
        rw [starA (by rw [List.all_cons, hs.1, hs.2]; rfl)]
        show (true && true && decide ((y :: ys).length + 0 + 0 < 30)) = true
        simp only [Bool.true_and, decide_eq_true_eq]
        omega
    · cases h
  | .mak c es, sc, X, e, ok, h => by
    simp only [mE] at h
    split at h
    · rename_i x p xs pos
      simp only [Bool.and_eq_true, decide_eq_true_eq] at h
      obtain ⟨⟨⟨⟨h1, h2⟩, h3⟩, h4⟩, h5⟩ := h
      obtain ⟨n1, n2, n3⟩ := nodb_of h3
      obtain ⟨C, n, hC, M⟩ := ok.mkk c h4
      have hs := mEs_star h5
      have il := sL es sc X _ ok h5
      subst h1
      cases xs with
      | nil =>
        have := (mEs_nil h5).mpr rfl
        subst this
        exact SE.gen ok.k (c_mak0 rfl hC M (glb_of ok h2) n1) fun _ => rfl
      | cons y ys =>
        rw [List.all_cons, Bool.and_eq_true] at hs
        exact SE.gen ok.k (c_mak rfl hC M (glb_of ok h2) il.pa n1 (star1 hs.1) (starN hs.2)) fun _ => rfl
    · cases h
  | .dsp ks vs, sc, X, e, ok, h => by
    simp only [mE] at h
    split at h
    · rename_i keys values pos
      simp only [Bool.and_eq_true, decide_eq_true_eq] at h
      obtain ⟨⟨⟨⟨h1, h2⟩, h3⟩, h4⟩, h5⟩ := h
      have il := sL vs sc X _ ok h5
      obtain ⟨ha, hb⟩ := mK_len h1
      cases keys with
      | nil =>
        have hv : values = [] := List.length_eq_zero_iff.mp h2.symm
        subst hv
        have hk : ks = [] := List.length_eq_zero_iff.mp ha.symm
        subst hk
        have := (mEs_nil h5).mpr rfl
        subst this
        exact SE.gen ok.k c_dsp0 fun _ => rfl
      | cons k keys => exact SE.gen ok.k (c_dsp (il.pp pos ks _ h1 h2) hb h2 (by simp) h3 ha h4) fun _ => rfl
    · cases h
  | .rpt bx a b, sc, X, e, ok, h => by
    simp only [mE] at h
    split at h
    · simp only [Bool.and_eq_true] at h
      exact SE.gen ok.k (c_rpt (sE a sc X _ ok h.1).1 (sE b sc X _ ok h.2).1) fun _ => rfl
    · cases h
  | .rev bx a, sc, X, e, ok, h => by
    simp only [mE] at h
    split at h
    · exact SE.gen ok.k (c_rev ok.k (sE a sc X _ ok h).1) fun _ => rfl
    · cases h
  | .dnt, sc, X, e, ok, h => by
    simp only [mE] at h
    split at h
    · exact SE.gen ok.k c_dnt fun _ => rfl
    · cases h
  | .lenm bx c, sc, X, e, ok, h => by
    simp only [mE] at h
    split at h
    · simp only [Bool.and_eq_true, decide_eq_true_eq] at h
      obtain ⟨⟨⟨⟨⟨h1, h2⟩, h3⟩, h4⟩, h5⟩, h6⟩ := h
      subst h1
      subst h3
      exact SE.gen ok.k (c_lenm ok.k ok.calm (glb_of ok h2) (ok.bl _ (by decide)) (glb_of ok h4) (ok.bl _ (by decide)) (sE c sc X _ ok h5).1 (star1 h6)) fun _ => rfl
    · cases h
  | .dst a b, sc, X, e, ok, h => by
    simp only [mE] at h
    split at h
    · simp only [Bool.and_eq_true] at h
      exact SE.gen ok.k (c_dst ok.units (sE a sc X _ ok h.1).1 (sE b sc X _ ok h.2).1) fun _ => rfl
    · cases h
  | .denm c, sc, X, e, ok, h => by
    simp only [mE] at h
    split at h
    · simp only [Bool.and_eq_true, decide_eq_true_eq] at h
      obtain ⟨⟨⟨⟨⟨h1, h2⟩, h3⟩, h4⟩, h5⟩, h6⟩ := h
      subst h1
      subst h3
      exact SE.gen ok.k (c_denm ok.k ok.calm (glb_of ok h2) (ok.bl _ (by decide)) (glb_of ok h4) (ok.bl _ (by decide)) (sE c sc X _ ok h5).1 (star1 h6)) fun _ => rfl
    · cases h
  | .fst es, sc, X, e, ok, h => by
    simp only [mE] at h
    split at h
    · exact SE.gen ok.k (c_fst (sF es sc X _ ok h)) fun _ => rfl
    · cases h
  | .rpl a o y z, sc, X, e, ok, h => by
    simp only [mE] at h
    split at h
    · rename_i l r m ap y' j c0 z' k c1 cp pos
      simp only [Bool.and_eq_true, decide_eq_true_eq, Bool.not_eq_true'] at h
      obtain ⟨⟨⟨⟨⟨⟨⟨⟨h1, h2⟩, h3⟩, h4⟩, h5⟩, h6⟩, h7⟩, h8⟩, h9⟩ := h
      subst h2
      subst h5
      subst h6
      exact SE.gen ok.k (c_rpl h1 (sE a sc X _ ok h8).1 (sE o sc X _ ok h9).1 h7 (base_ok h3) (by rw [h4]; exact beq_self_eq_true _)) fun _ => rfl
    · cases h
  | .sset bx c, sc, X, e, ok, h => by
    simp only [mE] at h
    split at h
    · simp only [Bool.and_eq_true, decide_eq_true_eq] at h
      obtain ⟨⟨⟨⟨⟨⟨h1, h2⟩, h3⟩, h4⟩, h5⟩, h6⟩, h7⟩ := h
      subst h1
      subst h3
      exact SE.gen ok.k (c_sset ok.k ok.calm (glb_of ok h2) (ok.bl _ (by decide)) (glb_of ok h4) (ok.bl _ (by decide)) (sE c sc X _ ok h5).1 (star1 h6) (star1 h7)) fun _ => rfl
    · cases h
  | .rps a b, sc, X, e, ok, h => by
    simp only [mE] at h
    split at h
    · simp only [Bool.and_eq_true] at h
      exact SE.gen ok.k (c_rps (sE a sc X _ ok h.1).1 (sE b sc X _ ok h.2).1) fun _ => rfl
    · cases h
  | .dsi a b, sc, X, e, ok, h => by
    simp only [mE] at h
    split at h
    · simp only [Bool.and_eq_true] at h
      exact SE.gen ok.k (c_dsi (sE a sc X _ ok h.1).1 (sE b sc X _ ok h.2).1) fun _ => rfl
    · cases h
  | .dgv o k d, sc, X, e, ok, h => by
    simp only [mE] at h
    split at h
    · simp only [Bool.and_eq_true, decide_eq_true_eq] at h
      obtain ⟨⟨⟨⟨⟨⟨⟨h1, h2⟩, h3⟩, h4⟩, h5⟩, h6⟩, h7⟩, h8⟩ := h
      subst h1
      refine SE.gen ok.k (c_dgv ok.units (sE o sc X _ ok h6).1 (sE k sc X _ ok h7).1 (sE d sc X _ ok h8).1 ⟨base_ok h2, ?_, by rw [h3]; exact beq_self_eq_true _, ?_⟩) fun _ => rfl
      · rw [starA (by rw [List.all_cons, List.all_cons, h4, h5]; rfl)]
        rfl
      · rw [star1 h4, star1 h5]
        rfl
    · cases h
  | .rpr a, sc, X, e, ok, h => by
    simp only [mE] at h
    split at h
    · simp only [Bool.and_eq_true, decide_eq_true_eq] at h
      obtain ⟨⟨⟨h1, h2⟩, h3⟩, h4⟩ := h
      subst h1
      exact SE.gen ok.k (c_rpr ok.k ok.units ok.gd (glb_of ok h2) (ok.bl _ (by decide)) (sE a sc X _ ok h4).1 (star1 h3)) fun _ => rfl
    · cases h
  | .dsv a b, sc, X, e, ok, h => by
    simp only [mE] at h
    split at h
    · simp only [Bool.and_eq_true] at h
      exact SE.gen ok.k (c_dsv (sE a sc X _ ok h.1).1 (sE b sc X _ ok h.2).1) fun _ => rfl
    · cases h
  | .lset a, sc, X, e, ok, h => by
    simp only [mE] at h
    split at h
    · simp only [Bool.and_eq_true, decide_eq_true_eq] at h
      obtain ⟨⟨⟨⟨⟨h1, h2⟩, h3⟩, h4⟩, h5⟩, h6⟩ := h
      subst h1 h3
      exact SE.gen ok.k (c_lset ok.k ok.calm (glb_of ok h2) (ok.bl _ (by decide)) (glb_of ok h4) (ok.bl _ (by decide)) (sE a sc X _ ok h5).1 (star1 h6)) fun _ => rfl
    · cases h
  | .isit a ts, sc, X, e, ok, h => by
    simp only [mE] at h
    split at h
    · rename_i x p y es k tp pos
      simp only [Bool.and_eq_true, decide_eq_true_eq] at h
      obtain ⟨⟨⟨⟨⟨h1, h2⟩, h3⟩, h6⟩, h4⟩, h5⟩ := h
      subst h1
      refine SE.gen ok.k (c_isit (hK := ok.k) (glb_of ok h2) (ok.bl _ (by decide)) (sE a sc X _ ok h4).1 (PE.imp (pe_tup (tys_pa ok h3)) fun σ H Q q => ⟨?_, q⟩) (star1 h5) rfl rfl) fun _ => rfl
      rw [List.length_map, sizeLine_eq]
      have := mTys_len h3
      omega
    · cases h
  | .isx a t, sc, X, e, ok, h => by
    simp only [mE] at h
    split at h
    · simp only [Bool.and_eq_true, decide_eq_true_eq] at h
      obtain ⟨⟨⟨⟨⟨⟨⟨h1, h2⟩, h3⟩, h4⟩, h5⟩, h6⟩, h7⟩, h8⟩ := h
      subst h1 h3
      exact SE.gen ok.k (c_isx ok.k (by rw [ok.gec]; exact ok.xf) h6 (glb_of ok h2) (ok.bl _ (by decide)) (sE a sc X _ ok h7).1 (xcls_pe ok h4 h5 h6) (star1 h8) rfl rfl) fun _ => rfl
    · cases h
  | .isxt a ts, sc, X, e, ok, h => by
    simp only [mE] at h
    split at h
    · rename_i x p y es k tp pos
      simp only [Bool.and_eq_true, decide_eq_true_eq] at h
      obtain ⟨⟨⟨⟨⟨h1, h2⟩, h3⟩, h6⟩, h4⟩, h5⟩ := h
      subst h1
      obtain ⟨i1, i2, i3⟩ := xs_pa ok h3
      refine SE.gen ok.k (c_isxt ok.k (by rw [ok.gec]; exact ok.xf) i2 (glb_of ok h2) (ok.bl _ (by decide)) (sE a sc X _ ok h4).1 (PE.imp (pe_tup i1) fun σ H Q q => ⟨?_, q⟩) (star1 h5) rfl rfl) fun _ => rfl
      rw [List.length_map, sizeLine_eq]
      omega
    · cases h
  | .lc bx c tg it cnd, sc, X, e, ok, h => by
    simp only [mE] at h
    split at h
    · rename_i elt t iter ifs scope pos
      simp only [Bool.and_eq_true] at h
      obtain ⟨⟨⟨⟨h1, h2⟩, h3⟩, h4⟩, h5⟩ := h
      split at h1
      · rename_i own hown
        simp only [Bool.and_eq_true, decide_eq_true_eq] at h1
        have hb : BlkOk X.N X.env.scope scope own := by
          rw [ok.n, ok.sc]
          exact blkOk_by h1.1
        have hp := pe_lc (X := X) (pos := pos) ok.calm (by rw [ok.n]; exact ok.nd) (sI it sc X t iter ok h3) hb (fun s H C cl fp => pg_blk ok hown s H C cl fp) (fun s H C cl fp => sC cnd (relS scope sc) _ ifs (ok.blk s H scope C cl fp) h4)
          (fun s H C cl fp => (sE c (relS scope sc) _ elt (ok.blk s H scope C cl fp) h5).1) (set_no h2)
        rw [h1.2] at hp
        exact SE.gen ok.k (PE.imp hp c_lcR) fun _ => rfl
      · cases h1
    · cases h
  | .frz a, sc, X, e, ok, h => by
    simp only [mE] at h
    exact ⟨c_frz (sE a sc X _ ok h).1, fun z => by cases z⟩
theorem sL : ∀ (c : Es) (sc : Scope) (X : Cx) (es : List Expr), Ok sg G cf N sc X → mEs sg N sc c es = true → SL G cf X c es
  | .nil, sc, X, [], ok, h => ⟨c_nil, fun _ z => absurd rfl z, fun _ z => absurd rfl z, fun _ z => absurd rfl z, fun _ z => absurd rfl z, fun pos ks keys hm hl => by
      have : keys = [] := List.length_eq_zero_iff.mp hl
      subst this
      cases ks with
      | nil => exact pps_nil
      | cons k ks => cases hm⟩
  | .nil, sc, X, _ :: _, ok, h => by simp only [mEs] at h; cases h
  | .cons c r, sc, X, [], ok, h => by simp only [mEs] at h; cases h
  | .cons c r, sc, X, x :: xs, ok, h => by
    simp only [mEs, Bool.and_eq_true] at h
    exact SL.cons (sE c sc X x ok h.1.2) (sL r sc X xs ok h.2) h.1.1 (mEs_nil h.2)
theorem sF : ∀ (c : Es) (sc : Scope) (X : Cx) (es : List Expr), Ok sg G cf N sc X → mFs sg N sc c es = true → PJ X es (esT G cf c)
  | .nil, sc, X, [], ok, h => .nil
  | .nil, sc, X, _ :: _, ok, h => by simp only [mFs] at h; cases h
  | .cons c r, sc, X, [], ok, h => by simp only [mFs] at h; cases h
  | .cons c r, sc, X, v :: vs, ok, h => by
    simp only [mFs, Bool.and_eq_true] at h
    obtain ⟨h1, h2⟩ := h
    have ih := sF r sc X vs ok h2
    have hc := fun w => sE c sc X w ok
    cases c with
    | str x =>
      simp only [strOf] at h1
      split at h1
      · rename_i y j p
        rw [decide_eq_true_eq] at h1
        subst h1
        exact .cons (c_const (v := .str _) (d := .str x) pe_str (fun _ _ => by simp only [ev]) fun _ _ _ => by simp only [Rep]) ih
      · cases h1
    | _ =>
      simp only [strOf] at h1
      split at h1
      · rename_i w k p
        simp only [Bool.and_eq_true, decide_eq_true_eq] at h1
        obtain ⟨h3, h4⟩ := h1
        subst h3
        exact .cons (pe_fmt (hc w h4).1) ih
      · cases h1
theorem sO : ∀ (c : Oe) (sc : Scope) (X : Cx) (o : Option Expr), Ok sg G cf N sc X → mO sg N sc c o = true → PO X o (rO G cf c)
  | .no, sc, X, none, ok, h => c_no
  | .no, sc, X, some _, ok, h => by simp only [mO] at h; cases h
  | .so c, sc, X, none, ok, h => by simp only [mO] at h; cases h
  | .so c, sc, X, some e, ok, h => by
    simp only [mO] at h
    exact c_so (sE c sc X e ok h).1
theorem sC : ∀ (c : Oe) (sc : Scope) (X : Cx) (ifs : List Expr), Ok sg G cf N sc X → mC sg N sc c ifs = true → PTs X ifs (rC G cf c)
  | .no, sc, X, [], ok, h => pts_no
  | .no, sc, X, _ :: _, ok, h => by simp only [mC] at h; cases h
  | .so c, sc, X, [], ok, h => by simp only [mC] at h; cases h
  | .so c, sc, X, _ :: _ :: _, ok, h => by simp only [mC] at h; cases h
  | .so c, sc, X, [e], ok, h => by
    simp only [mC, Bool.and_eq_true] at h
    exact pts_so ((sE c sc X e ok h.1).2 h.2)
theorem sI : ∀ (c : It) (sc : Scope) (X : Cx) (t e : Expr), Ok sg G cf N sc X → mI sg N sc c t e = true → PI X t e (rI G cf c)
  | .seq c, sc, X, t, e, ok, h => by
    simp only [mI] at h
    exact i_seq ok.k (sE c sc X e ok h).1
  | .any c, sc, X, t, e, ok, h => by
    simp only [mI] at h
    exact i_any ok.k (sE c sc X e ok h).1
  | .tup c, sc, X, t, e, ok, h => by
    simp only [mI] at h
    exact i_tup (sE c sc X e ok h).1
  | .str c, sc, X, t, e, ok, h => by
    simp only [mI] at h
    exact i_str (sE c sc X e ok h).1
  | .rng c, sc, X, t, e, ok, h => by
    simp only [mI] at h
    split at h
    · simp only [Bool.and_eq_true, decide_eq_true_eq] at h
      obtain ⟨⟨⟨h1, h2⟩, h3⟩, h4⟩ := h
      subst h1
      exact i_rng (glb_of ok h2) (ok.bl _ (by decide)) (sE c sc X _ ok h3).1 (star1 h4)
    · cases h
  | .rng2 a b, sc, X, t, e, ok, h => by
    simp only [mI] at h
    split at h
    · simp only [Bool.and_eq_true, decide_eq_true_eq] at h
      obtain ⟨⟨⟨⟨⟨h1, h2⟩, h3⟩, h4⟩, h5⟩, h6⟩ := h
      subst h1
      exact i_rng2 (glb_of ok h2) (ok.bl _ (by decide)) (sE a sc X _ ok h3).1 (sE b sc X _ ok h5).1 (by rw [star1 h4, star1 h6]; rfl) (star1 h6)
    · cases h
  | .enm c, sc, X, t, e, ok, h => by
    simp only [mI] at h
    split at h
    · simp only [Bool.and_eq_true, decide_eq_true_eq] at h
      obtain ⟨⟨⟨h1, h2⟩, h3⟩, h4⟩ := h
      subst h1
      exact i_enm ok.k (glb_of ok h2) (ok.bl _ (by decide)) (sE c sc X _ ok h3).1 (star1 h4)
    · cases h
  | .ens c, sc, X, t, e, ok, h => by
    simp only [mI] at h
    split at h
    · simp only [Bool.and_eq_true, decide_eq_true_eq] at h
      obtain ⟨⟨⟨h1, h2⟩, h3⟩, h4⟩ := h
      subst h1
      exact i_ens (glb_of ok h2) (ok.bl _ (by decide)) (sE c sc X _ ok h3).1 (star1 h4)
    · cases h
  | .zip a b, sc, X, t, e, ok, h => by
    simp only [mI] at h
    split at h
    · simp only [Bool.and_eq_true, decide_eq_true_eq] at h
      obtain ⟨⟨⟨⟨⟨h1, h2⟩, h3⟩, h4⟩, h5⟩, h6⟩ := h
      subst h1
      exact i_zip ok.k (glb_of ok h2) (ok.bl _ (by decide)) (sE a sc X _ ok h3).1 (sE b sc X _ ok h5).1 (star1 h4) (star1 h6) (by rw [star1 h6]; rfl)
    · cases h
end
end
end Fl
namespace Fl
open PySem L2
/-- the matcher of a handler's test: n the error's name -/
def mH (sg : Sig) (N : List Str) (sc : Scope) (n : Str) : Hx → Expr → Bool
  | .isx t, e => match e with
    | .Call (.Name f _) [.Name n' _, .Name z _] [] _ => decide (f = Str.ofString "isinstance") && glbB sc f && decide (n' = n) && decide (z = Str.ofString t) && glbB sc z && nodb z && decide (t ∈ sg.et)
    | _ => false
  | .isxt ts, e => match e with
    | .Call (.Name f _) [.Name n' _, .Tuple es _ _] [] _ => decide (f = Str.ofString "isinstance") && glbB sc f && decide (n' = n) && mXs sg.et sc ts es && decide (ts.length < 100)
    | _ => false
  | .var j, e => match e with
    | .Name m _ => decide (N[j]? = some m) && isLc sc m && nodb m
    | _ => false
  | .and a b, e => match e with
    | .BoolOp .And [x, y] _ => mH sg N sc n a x && mH sg N sc n b y
    | _ => false
  | .not a, e => match e with
    | .UnaryOp .Not x _ => mH sg N sc n a x
    | _ => false
def mHs (sg : Sig) (N : List Str) (sc : Scope) (n : Str) (i : Nat) : List (Nat × Hx) → List Stmt → Bool
  | [], [] => true
  | (j, h) :: hs, .Assign [.Name m _] e _ :: ss => decide (N[j]? = some m) && isLc sc m && decide (i ≠ j) && mH sg N sc n h e && mHs sg N sc n i hs ss
  | _, _ => false
section
variable {sg : Sig} {G : Glob} {cf : CF} {N : List Str} {sc : Scope} {X : Cx}
theorem xcls_peS (ok : Ok sg G cf N sc X) (a : Addr) (pn : List (Addr × Obj)) {t : String} {p : Pos} (h1 : glbB sc (Str.ofString t) = true) (h2 : nodb (Str.ofString t) = true) (h3 : t ∈ sg.et) : PE (X.suite a pn) (.Name (Str.ofString t) p) (tC (vE X.K t)) := by
  obtain ⟨n1, n2, n3⟩ := nodb_of h2
  by_cases ht : t = "ValueError"
  · subst ht
    have e : vE X.K "ValueError" = .ty "ValueError" := by
      unfold vE
      rw [if_pos rfl]
    rw [e]
    exact pe_bltn (X := X.suite a pn) (glb_of ok h1) (ok.xf.vm h3) (PyProof.Rows.ExcClass.boot PyProof.Rows.excClass_ValueError) rfl n3 n1
  · rcases ok.xf.tg t h3 with z | ⟨T, k1, k2⟩
    · exact absurd z ht
    · have e : vE X.K t = .ref T := by
        unfold vE
        rw [if_neg ht, k1]
      rw [e]
      exact pe_glob (X := X.suite a pn) (glb_of ok h1) k2 rfl n1
theorem xs_paS (ok : Ok sg G cf N sc X) (a : Addr) (pn : List (Addr × Obj)) : ∀ {ts : List String} {es : List Expr}, mXs sg.et sc ts es = true → (PA (X.suite a pn) es fun _ H Q => Q (ts.map (vE X.K)) H) ∧ (∀ t ∈ ts, t ∈ sg.et)
  | [], [], _ => ⟨⟨fun pos pins s σ H Q I q => pa_nil.run pos pins s σ H Q I q⟩, fun t h => (by cases h)⟩
  | [], _ :: _, h => by cases h
  | t :: ts, [], h => by cases h
  | t :: ts, e :: es, h => by
    cases e with
    | Name z p =>
      have h' : (decide (z = Str.ofString t) && glbB sc z && nodb z && decide (t ∈ sg.et) && mXs sg.et sc ts es) = true := h
      simp only [Bool.and_eq_true, decide_eq_true_eq] at h'
      obtain ⟨⟨⟨⟨rfl, h2⟩, h3⟩, h4⟩, h5⟩ := h'
      obtain ⟨i1, i2⟩ := xs_paS ok a pn h5
      refine ⟨⟨fun pos pins s σ H Q I q => (pa_cons (xcls_peS ok a pn h2 h3 h4) i1 rfl).run pos pins s σ H Q I q⟩, fun t' h => ?_⟩
      rcases List.mem_cons.mp h with rfl | h
      · exact h4
      · exact i2 _ h
    | _ => cases h
/-- isinstance(e, (A, ..)), e the exception that the suite holds -/
def rIsET (K : PySem.W.Frag) (D a : Addr) : List V → Hp → VK → Prop := fun xs H Q => ∃ (tp : Addr) (cs : List V) (us : List Value) (b : Bool), xs = [.ref a, .ref tp] ∧ H tp = some (.tup cs) ∧ Paired ClsV cs us ∧ PySem.W.kitAny K (.ref D) us = some b ∧ Q (.bl b) H
theorem call_isET {a D : Addr} {oe : Obj} {pn : List (Addr × Obj)} (C : ExcC X.K D) (hz : Zc (.ref D) none oe) (hf : ∃ vs, oe.data = .fields vs) : CallR (X.suite a ((a, oe) :: pn)) (.builtin "isinstance") (rIsET X.K D a) := by
  intro pins s σ H xs us Q I r h
  obtain ⟨tp, cs, ws, b, rfl, hT, k, e, q⟩ := h
  obtain ⟨u1, u2, rfl, r1, r2⟩ := vals2 r
  cases (show u1 = Value.ref a from r1)
  cases (show u2 = Value.ref tp from r2)
  obtain ⟨hget, _⟩ := I.pin (a, oe) (List.mem_append.mpr (.inl List.mem_cons_self))
  obtain ⟨vs, hv⟩ := hf
  have J : PySem.W.InstAt s.heap a oe D none := by
    obtain ⟨oc, od, oda, osl⟩ := oe
    obtain ⟨h1, h2⟩ := hz
    dsimp only at h1 h2 hv
    subst h1 h2 hv
    exact ⟨hget, rfl, rfl, trivial⟩
  obtain ⟨_, its, rv, o, h1, h2, n, h3⟩ := (show ObjOk X.prog X.w H s.heap tp (.tup cs) from I.hok tp _ hT)
  have e3 := ClsV.all k rv
  subst e3
  obtain ⟨oc, od, dt, sl⟩ := o
  simp only at h2 h3
  subst h2 h3
  exact PySem.W.kia_tup (PySem.W.handS_kitx_exc C.hg C.hk C.hs C.hd C.ha C.hn C.ht C.hm) I.kIn J h1 e (fun z => nomatch z) fun tk => ⟨.bl b, H, I.tok tk, rfl, q⟩
/-- a test of the error at slot i -/
def tHx (G : Glob) (i : Nat) (a : Addr) (c : String) (h : Hx) : TE := fun σ H Q => ∃ φ s r b, HR G φ s H ∧ SR φ s H r σ ∧ σ[i]? = some (some (.ref a)) ∧ hxE c r h = some b ∧ ∀ φ' H', Gr φ s H φ' s H' → HR G φ' s H' → Q (.bl b) H'
theorem hx_pe (ok : Ok sg G cf N sc X) {n : Str} {i : Nat} (hi : N[i]? = some n) (hln : isLc sc n = true) (hnd : nodb n = true) {a C : Addr} {oe : Obj} {pn : List (Addr × Obj)} {c : String} (hcc : c ∈ sg.ec) (hC : eclK X.K c = some C) (hz : Zc (.ref C) none oe) (hf : ∃ vs, oe.data = .fields vs) :
    ∀ (h : Hx) (e : Expr), mH sg N sc n h e = true → PE (X.suite a ((a, oe) :: pn)) e (tHx G i a c h) := by
  have xc : ExcC X.K C := by
    obtain ⟨C', k1, _, _, _, _, _, xc⟩ := ok.xf.ec c hcc
    rw [hC] at k1
    cases k1
    exact xc
  have pn1 : ∀ p : Pos, PE (X.suite a ((a, oe) :: pn)) (.Name n p) (tVar i) := fun p => pe_var (X := X.suite a ((a, oe) :: pn)) (by show X.N[i]? = _; rw [ok.n]; exact hi) (.inl (show X.env.scope.names.lookup n = _ by rw [ok.sc]; exact isLc_of hln)) (nodb_of hnd).1 (nodb_of hnd).2.1
  have hm : X.mg "isinstance" = none := ok.bl _ (by decide)
  intro h
  induction h with
  | isx t =>
    intro e h
    simp only [mH] at h
    split at h
    · rename_i f p n' p' z p2 pos
      simp only [Bool.and_eq_true, decide_eq_true_eq] at h
      obtain ⟨⟨⟨⟨⟨⟨rfl, h2⟩, rfl⟩, rfl⟩, h5⟩, h6⟩, h7⟩ := h
      refine PE.imp (pe_callB (X := X.suite a ((a, oe) :: pn)) (call_isE xc hz hf) (glb_of ok h2) hm PyProof.Rows.boot_isinstance (pa_cons (pn1 _) (pa_cons (xcls_peS ok a _ h5 h6 h7) pa_nil rfl) rfl) (by decide) (by decide) rfl rfl) fun σ H Q h => ?_
      obtain ⟨φ, s, r, b, hr, sr, hs, hb, q⟩ := h
      refine ⟨.ref a, hs, ?_⟩
      have e1 : subE c t = b := by simpa [hxE] using hb
      exact ⟨vE X.K t, uE X.K t, b, rfl, fun u hu => (clsE X.K t).eq hu, by rw [(ok.xf.kt c hcc t h7 C hC).1, e1], q φ H (Gr.refl _ _ _) hr⟩
    · cases h
  | isxt ts =>
    intro e h
    simp only [mH] at h
    split at h
    · rename_i f p n' p' es k tp pos
      simp only [Bool.and_eq_true, decide_eq_true_eq] at h
      obtain ⟨⟨⟨⟨rfl, h2⟩, rfl⟩, h4⟩, h5⟩ := h
      obtain ⟨i1, i2⟩ := xs_paS ok a ((a, oe) :: pn) h4
      refine PE.imp (pe_callB (X := X.suite a ((a, oe) :: pn)) (call_isET xc hz hf) (glb_of ok h2) hm PyProof.Rows.boot_isinstance (pa_cons (pn1 _) (pa_cons (pe_tup i1) pa_nil rfl) rfl) (by decide) (by decide) rfl rfl) fun σ H Q h => ?_
      obtain ⟨φ, s, r, b, hr, sr, hs, hb, q⟩ := h
      refine ⟨.ref a, hs, by rw [List.length_map, sizeLine_eq]; omega, fun tq hq => ?_⟩
      have gg : Gr φ s H φ s (upd H tq (.tup (ts.map (vE X.K)))) := Gr.free hr hq
      have hr' := hr.free (o := .tup (ts.map (vE X.K))) hq
      have e1 : ts.any (subE c) = b := by simpa [hxE] using hb
      exact ⟨tq, ts.map (vE X.K), ts.map (uE X.K), b, rfl, upd_same, clsEs X.K ts, by rw [← e1]; exact kitAny_e fun t h => (ok.xf.kt c hcc t (i2 t h) C hC).1, q φ _ gg hr'⟩
    · cases h
  | var j =>
    intro e h
    simp only [mH] at h
    split at h
    · rename_i m p
      simp only [Bool.and_eq_true, decide_eq_true_eq] at h
      obtain ⟨⟨h1, h2⟩, h3⟩ := h
      refine PE.imp (pe_var (X := X.suite a ((a, oe) :: pn)) (i := j) (by show X.N[j]? = _; rw [ok.n]; exact h1) (.inl (show X.env.scope.names.lookup m = _ by rw [ok.sc]; exact isLc_of h2)) (nodb_of h3).1 (nodb_of h3).2.1) fun σ H Q h => ?_
      obtain ⟨φ, s, r, b, hr, sr, hs, hb, q⟩ := h
      have e1 : r[j]? = some (some (.bl b)) := by
        simp only [hxE] at hb
        split at hb
        · rename_i b' hj
          cases hb
          exact hj
        · cases hb
      obtain ⟨v, h4, h5⟩ := sr.get j _ e1
      simp only [Rep] at h5
      subst h5
      exact ⟨.bl b, h4, q φ H (Gr.refl _ _ _) hr⟩
    · cases h
  | and x y ix iy =>
    intro e h
    simp only [mH] at h
    split at h
    · rename_i ex ey pos
      simp only [Bool.and_eq_true] at h
      refine PE.imp (pe_and (ix _ h.1) (pe_one (iy _ h.2))) fun σ H Q h => ?_
      obtain ⟨φ, s, r, b, hr, sr, hs, hb, q⟩ := h
      simp only [hxE] at hb
      obtain ⟨b1, hb1, hb2⟩ := Option.bind_eq_some_iff.mp hb
      refine ⟨φ, s, r, b1, hr, sr, hs, hb1, fun φ' H' g h' => ⟨b1, rfl, ?_⟩⟩
      cases b1 with
      | true => exact ⟨φ', s, r, b, h', sr.mono g, hs, hb2, fun φ2 H2 g2 h2 => q φ2 H2 (g.trans g2) h2⟩
      | false =>
        cases hb2
        exact q φ' H' g h'
    · cases h
  | not x ix =>
    intro e h
    simp only [mH] at h
    split at h
    · rename_i ex pos
      refine PE.imp (pe_not (ix _ h)) fun σ H Q h => ?_
      obtain ⟨φ, s, r, b, hr, sr, hs, hb, q⟩ := h
      simp only [hxE] at hb
      obtain ⟨b1, hb1, rfl⟩ := Option.map_eq_some_iff.mp hb
      exact ⟨φ, s, r, b1, hr, sr, hs, hb1, fun φ' H' g h' => ⟨b1, rfl, q φ' H' g h'⟩⟩
    · cases h
/-- the suite -/
def tHs (G : Glob) (i : Nat) (a : Addr) (c : String) (hs : List (Nat × Hx)) : TS := fun D σ H => ∃ φ s r r2, HR G φ s H ∧ SR φ s H r σ ∧ σ[i]? = some (some (.ref a)) ∧ hxAll c hs r = some r2 ∧ ∀ φ' H' σ', Gr φ s H φ' s H' → HR G φ' s H' → SR φ' s H' r2 σ' → D.nx σ' H'
theorem hs_pss (ok : Ok sg G cf N sc X) (hfn : ∀ x, X.fn x = true) {n : Str} {i : Nat} (hi : N[i]? = some n) (hln : isLc sc n = true) (hnd : nodb n = true) {a C : Addr} {oe : Obj} {pn : List (Addr × Obj)} {c : String} (hcc : c ∈ sg.ec) (hC : eclK X.K c = some C) (hz : Zc (.ref C) none oe) (hf : ∃ vs, oe.data = .fields vs) :
    ∀ (hs : List (Nat × Hx)) (ss : List Stmt), mHs sg N sc n i hs ss = true → PSs (X.suite a ((a, oe) :: pn)) ss (tHs G i a c hs)
  | [], [], _ => PSs.imp pss_nil fun D σ H h => by
    obtain ⟨φ, s, r, r2, hr, sr, hs, hb, q⟩ := h
    cases hb
    exact q φ H σ (Gr.refl _ _ _) hr sr
  | [], _ :: _, h => by cases h
  | (j, x) :: hs, [], h => by cases h
  | (j, x) :: hs, s0 :: ss, h => by
    unfold mHs at h
    split at h
    · rename_i z1 z2; cases z1
    · rename_i j' x' hs' m pm e pos ss' z1 z2
      cases z1
      cases z2
      simp only [Bool.and_eq_true, decide_eq_true_eq] at h
      obtain ⟨⟨⟨⟨h1, h2⟩, h3⟩, h4⟩, h5⟩ := h
      have l2 : X.env.scope.names.lookup m = some .local := by rw [ok.sc]; exact isLc_of h2
      have p1 := hx_pe (pn := pn) (a := a) ok hi hln hnd hcc hC hz hf x e h4
      have sw : swapsWith e (some (.Name m pm)) pos.line (X.suite a ((a, oe) :: pn)).env = pure false := by
        cases x <;> simp only [mH] at h4 <;> split at h4 <;> first | rfl | cases h4
      refine PSs.imp (pss_cons (ps_set (X := X.suite a ((a, oe) :: pn)) (by show X.N.Nodup; rw [ok.n]; exact ok.nd) (by show X.N[j]? = _; rw [ok.n]; exact h1) (.inl l2) p1 sw (.inr l2)) (hs_pss ok hfn hi hln hnd hcc hC hz hf hs ss h5)) fun D σ H h => ?_
      obtain ⟨φ, s, r, r2, hr, sr, hsl, hb, q⟩ := h
      simp only [hxAll] at hb
      obtain ⟨b, hb1, hb2⟩ := Option.bind_eq_some_iff.mp hb
      refine ⟨φ, s, r, b, hr, sr, hsl, hb1, fun φ' H' g h' => ?_⟩
      refine ⟨φ', s, r.set j (some (.bl b)), r2, h', (sr.mono g).set j (by simp only [Rep]), ?_, hb2, fun φ2 H2 σ2 g2 h2 s2 => q φ2 H2 σ2 (g.trans g2) h2 s2⟩
      rw [List.getElem?_set_ne (Ne.symm h3)]
      exact hsl
    · cases h
/-- try: .. except X as n: tests of n -/
theorem x_tryh {W : WZ} {x n : Str} {t : String} {i : Nat} {hs : List (Nat × Hx)} {body suite : List Stmt} {b₀ : Stmt} {cs : Cs} {np pos pos' : Pos} (ok : Ok sg G cf N sc X) (hfn : ∀ x, X.fn x = true) (ht : t ∈ sg.et) (hst : X.stack = X.env :: X.outer) (hf : X.env.frame = some X.env.locals) (hi : N[i]? = some n) (hln : isLc sc n = true) (hnd : nodb n = true)
    (hc : Names X x (uE X.K t)) (tk : Takes X (wz G W)) (hm : mHs sg N sc n i hs (b₀ :: suite) = true)
    (hb : ∀ (W' : WZ) (pn : List (Addr × Obj)) (xe : Value → Shared → Prop), Takes (X.tr pn xe) (wz G W') → PassesOwn (model X.prog X.w) X.A X.env xe → PSs (X.tr pn xe) body (rSs G W' cf cs)) :
    PS X (.Try body [.ExceptHandler (some (.Name x np)) (some n) (b₀ :: suite) pos'] [] [] pos) (rS G W cf (.tryh cs t i hs)) := by
  have hN : X.N.Nodup := by rw [ok.n]; exact ok.nd
  have hi' : X.N[i]? = some n := by rw [ok.n]; exact hi
  have hl' : X.env.kindOf n = some .local := show X.env.scope.names.lookup n = some .local by rw [ok.sc]; exact isLc_of hln
  refine PS.imp (ps_try_as (tb := fun W0 Dn σ H => ∃ W' : WZ, (∀ cls d σ H, wz G W' cls d σ H → W0 cls d σ H) ∧ rSs G W' cf cs Dn σ H)
    (ts := fun a cls d D σ H => ∃ c C, c ∈ sg.ec ∧ eclK X.K c = some C ∧ cls = .ref C ∧ d = none ∧ tHs G i a c hs D σ H) hst hf hN hi' hl' hc tk (fun W0 pn xe tk0 hp => ?_) (fun a oe cls d pn hz hff => ?_)) fun Dn σ H h => ?_
  · refine ⟨fun pins s σ H Dn I h => ?_⟩
    obtain ⟨W', hW, h⟩ := h
    exact (hb W' pn xe (tk0.imp hW) hp).run pins s σ H Dn I h
  · refine ⟨fun pins s σ H Dn I h => ?_⟩
    obtain ⟨c, C, h1, h2, rfl, rfl, h3⟩ := h
    exact (hs_pss (pn := pn) ok hfn hi hln hnd h1 h2 hz hff hs (b₀ :: suite) hm).run pins s σ H Dn I h3
  · obtain ⟨φ, s, r, A, fl, r', s', he, p⟩ := h
    simp only [ex] at he
    obtain ⟨⟨f1, r1⟩, s1, e1, he⟩ := bnd_inv he
    refine ⟨fun c σ1 H1 => ∀ C, c ∈ G.ec → eclK G.K c = some C → wAs X.K (uE X.K t) i (fun a cls d D σ H => ∃ c C, c ∈ sg.ec ∧ eclK X.K c = some C ∧ cls = .ref C ∧ d = none ∧ tHs G i a c hs D σ H) (wz G W) Dn (.ref C) none σ1 H1, fun cls d σ1 H1 hw => ?_, φ, s, r, A, f1, r1, s1, e1, fun φ1 H1 σ1 g1 hr1 sr1 => ?_⟩
    · obtain ⟨c, C, h1, h2, rfl, rfl, h3⟩ := hw
      exact h3 C h1 h2
    · cases f1 with
      | nx => cases he; exact p φ1 H1 σ1 g1 hr1 sr1
      | bk => cases he; exact p φ1 H1 σ1 g1 hr1 sr1
      | ct => cases he; exact p φ1 H1 σ1 g1 hr1 sr1
      | rt d => cases he; exact p φ1 H1 σ1 g1 hr1 sr1
      | rz c =>
        intro C hcc hC
        have k2 := (ok.xf.kt c (by rw [← ok.gec]; exact hcc) t ht C (by rw [ok.k]; exact hC)).2
        refine ⟨subE c t, k2, fun hb a ha => ⟨c, C, by rw [← ok.gec]; exact hcc, by rw [ok.k]; exact hC, rfl, rfl, ?_⟩, fun hb => ⟨c, C, hcc, hC, rfl, rfl, ?_⟩⟩
        · dsimp only at he
          rw [if_pos hb] at he
          split at he
          · rename_i r2 h2
            split at he
            · rename_i il
              cases he
              refine ⟨φ1, s', r1.set i none, r2, hr1, ?_, ?_, h2, fun φ2 H2 σ2 g2 hr2 sr2 => ?_⟩
              · refine ⟨by rw [List.length_set, List.length_set]; exact sr1.len, fun l d e => ?_⟩
                by_cases hl : i = l
                · subst hl
                  rw [List.getElem?_set_self il] at e
                  cases e
                · rw [List.getElem?_set_ne hl] at e ⊢
                  exact sr1.get l d e
              · rw [List.getElem?_set_self (by rw [sr1.len]; exact il)]
              · refine p φ2 H2 _ (g1.trans g2) hr2 ⟨by rw [List.length_set, List.length_set]; exact sr2.len, fun l d e => ?_⟩
                by_cases hl : i = l
                · subst hl
                  by_cases hlt : i < r2.length
                  · rw [List.getElem?_set_self hlt] at e
                    cases e
                  · rw [List.getElem?_eq_none (by simpa using hlt)] at e
                    cases e
                · rw [List.getElem?_set_ne hl] at e ⊢
                  exact sr2.get l d e
            · cases he
          · cases he
        · dsimp only at he
          rw [if_neg (by rw [hb]; exact Bool.false_ne_true)] at he
          cases he
          exact p φ1 H1 σ1 g1 hr1 sr1
end
end Fl
namespace Fl
open PySem L2 PySem.Spec PyProof.Rows
section
variable {X : Cx}
theorem get_list : PGet X (rIxL X.K) := by
  intro pins s σ H x y v u Q I rx ry h
  obtain ⟨p, xs, i, z, rfl, rfl, hq, he, q⟩ := h
  cases rx
  obtain ⟨t, rfl⟩ := ry
  obtain ⟨its, r, pl, hz⟩ := I.list hq
  obtain ⟨j, h1, h2, h3, h4, h5⟩ := atI_get he
  obtain ⟨w, ew, rw'⟩ := r.get h2
  have hl := r.length
  have hn := line63
  have fin : EP X pins σ Q w s := ⟨z, H, I, rw', q⟩
  by_cases h0 : 0 ≤ i
  · have hj : i.toNat = j := by
      rw [seqIndex_of h0 h5] at h1
      exact Option.some.inj h1
    exact wpAny_getItem_list pl.isList h0 (by omega) (by rw [hj]; simpa using ew) fin
  · have hj : (i + (its.toArray.size : Int)).toNat = j := by
      rw [seqIndex_neg (by omega) h4] at h1
      rw [List.size_toArray, ← hl]
      exact Option.some.inj h1
    exact wpAny_getItem_list_neg pl.isList (by omega) (by rw [List.size_toArray] <;> omega) (by omega) (by rw [hj]; simpa using ew) fin
end
section
variable {G : Glob} {W : WZ} {X : Cx} {cf : CF} {pos : Pos}
def augiD (cf : CF) (fn : Int → Int → Int) (o i e : E) (r : Sl) (s : S) : XR := bnd (ev cf o r s) fun x s => bnd (ev cf i r s) fun k s => match x, k with
    | .ref n, .int k => match s.m n with
      | some (.lst xs) => match atI xs k with
        | some (.int a) => bnd (ev cf e r s) fun y s => match y with
          | .int b => match s.m n with
            | some (.lst ys) => match ixN ys.length k with
              | some j => some (.ok (.nx, r), s.put n (.lst (ys.set j (.int (fn a b)))))
              | none => none
            | _ => none
          | _ => none
        | _ => none
      | _ => none
    | _, _ => none
theorem x_augiG {o i e : Expr} {co ci ce : E} {tpos : Pos} {op : Operator} {fn : Int → Int → Int} (hK : X.K = G.K) (hop : PIp X op (ipI fn)) (ho : PE X o (rE G cf co)) (hi : PE X i (rE G cf ci)) (he : PE X e (rE G cf ce))
    (ha : ∀ ov iv new, augStore i ov iv new = (do holding [new, ov, iv] (setItem ov iv new); release [new, ov, iv] []; pure .next)) :
    PS X (.AugAssign (.Subscript o i tpos) op e pos) (rX G W (augiD cf fn co ci ce)) := by
  refine PS.imp (ps_augS ho hi get_list he hop set_list ha) fun Dn σ H h => ?_
  obtain ⟨φ, s, r, A, fl, r', s', hev, p⟩ := h
  unfold augiD at hev
  obtain ⟨x, s1, e1, hev⟩ := bnd_inv hev
  obtain ⟨k, s2, e2, hev⟩ := bnd_inv hev
  refine rd_step A e1 fun φ1 H1 xv g1 A1 rx => ?_
  refine rd_step A1 e2 fun φ2 H2 kv g2 A2 rk => ?_
  split at hev
  · rename_i n k _
    split at hev
    · rename_i xs hn
      split at hev
      · rename_i a hat
        obtain ⟨y, s3, e3, hev⟩ := bnd_inv hev
        have rx2 := Rep.mono g2 _ rx
        have hlc : lcont s2 (.ref n) = some xs := by simp only [lcont, hn]
        obtain ⟨q, vs, rfl, h1, h2⟩ := rx2.lcont A2.hr hlc
        rw [A2.hr.k.trans hK.symm] at h1
        simp only [Rep] at rk
        subst rk
        obtain ⟨u, hu, ru⟩ := at_rep h2 hat
        simp only [Rep] at ru
        subst ru
        refine ⟨q, vs, k, _, rfl, rfl, h1, hu, ?_⟩
        refine rd_step A2 e3 fun φ3 H3 yv g3 A3 ry => ?_
        split at hev
        · rename_i b
          simp only [Rep] at ry
          subst ry
          split at hev
          · rename_i ys hn'
            split at hev
            · rename_i j hj
              cases hev
              obtain ⟨q', vs', hqe, hq, h1', h2'⟩ := box_at A3.hr (Rep.mono g3 _ rx2) hn'
              cases hqe
              have l2 := h2'.set j (d := .int (fn a b)) (v := .int (fn a b)) (by simp only [Rep])
              have g : Gr φ3 s3 H3 φ3 (s3.put n (.lst (ys.set j (.int (fn a b))))) (upd H3 q (.lst (vs'.set j (.int (fn a b))))) := Gr.write A3.hr hn' hq
              refine ⟨a, b, rfl, rfl, q, vs', k, j, rfl, rfl, h1', by rw [h2'.length]; exact hj, ?_⟩
              exact p φ3 _ σ (((g1.trans g2).trans g3).trans g) (A3.hr.write hn' hq ⟨_, upd_same, RepL.mono g _ l2⟩) (A3.sr.mono g)
            · cases hev
          · cases hev
        · cases hev
      · cases hev
    · cases hev
  · cases hev
theorem x_augi {o i e : Expr} {co ci ce : E} {tpos : Pos} {b : Bop} (hb : augOk b = true) (hK : X.K = G.K) (ho : PE X o (rE G cf co)) (hi : PE X i (rE G cf ci)) (he : PE X e (rE G cf ce))
    (ha : ∀ ov iv new, augStore i ov iv new = (do holding [new, ov, iv] (setItem ov iv new); release [new, ov, iv] []; pure .next)) :
    PS X (.AugAssign (.Subscript o i tpos) (bopOf b) e pos) (rS G W cf (.augi co ci b ce)) := by
  cases b with
  | add =>
    have e1 : ex cf (.augi co ci .add ce) = augiD cf (fun i j => i + j) co ci ce := by
      funext r s
      simp only [ex]
      rfl
    rw [rS, e1]
    exact x_augiG hK ip_add ho hi he ha
  | sub =>
    have e1 : ex cf (.augi co ci .sub ce) = augiD cf (fun i j => i - j) co ci ce := by
      funext r s
      simp only [ex]
      rfl
    rw [rS, e1]
    exact x_augiG hK ip_sub ho hi he ha
  | _ => cases hb
end
end Fl
namespace Fl
open PySem L2
section
variable {G : Glob} {W : WZ} {X : Cx} {cf : CF} {pos : Pos}
theorem c_xite {c a b : Expr} {cc : E} {ca cb : Xe} (hc : PT X c (rT G cf cc)) (ha : PE X a (rdX G W (evx cf ca))) (hb : PE X b (rdX G W (evx cf cb))) : PE X (.IfExp c a b pos) (rdX G W (evx cf (.ite cc ca cb))) := by
  refine PE.imp (pe_ifExp hc ha hb) fun σ H Q h => ?_
  obtain ⟨φ, s, r, A, h⟩ := h
  have main : ∀ q, evx cf (.ite cc ca cb) r s = some q → ∃ x s1 k, ev cf cc r s = some (.ok x, s1) ∧ truth s1 x = some k ∧ evx cf (if k then ca else cb) r s1 = some q := fun q he => by
    simp only [evx] at he
    obtain ⟨x, s1, e1, he⟩ := bnn_inv he
    split at he
    · rename_i hk
      exact ⟨x, s1, true, e1, hk, he⟩
    · rename_i hk
      exact ⟨x, s1, false, e1, hk, he⟩
    · cases he
  have step : ∀ x s1 k, ev cf cc r s = some (.ok x, s1) → truth s1 x = some k → (∀ φ1 H1, Gr φ s H φ1 s1 H1 → At G φ1 s1 H1 r σ → (if k = true then rdX G W (evx cf ca) σ H1 Q else rdX G W (evx cf cb) σ H1 Q)) → tIf (rT G cf cc) (rdX G W (evx cf ca)) (rdX G W (evx cf cb)) σ H Q := fun x s1 k e1 hk go => by
    have e2 : tst cf cc r s = some (.ok k, s1) := by
      unfold tst
      rw [e1]
      show lft (truth s1 x) s1 = _
      rw [hk]
      rfl
    refine rd_step A e2 fun φ1 H1 v g1 A1 rv => ?_
    subst rv
    exact go φ1 H1 g1 A1
  rcases h with ⟨d, s', he, p⟩ | ⟨c', s', he, p⟩
  · obtain ⟨x, s1, k, e1, hk, e2⟩ := main _ he
    refine step x s1 k e1 hk fun φ1 H1 g1 A1 => ?_
    cases k with
    | true => exact ⟨φ1, s1, r, A1, .inl ⟨d, s', e2, Post.from g1 p⟩⟩
    | false => exact ⟨φ1, s1, r, A1, .inl ⟨d, s', e2, Post.from g1 p⟩⟩
  · obtain ⟨x, s1, k, e1, hk, e2⟩ := main _ he
    refine step x s1 k e1 hk fun φ1 H1 g1 A1 => ?_
    cases k with
    | true => exact ⟨φ1, s1, r, A1, .inr ⟨c', s', e2, fun φ' H' g h => p φ' H' (g1.trans g) h⟩⟩
    | false => exact ⟨φ1, s1, r, A1, .inr ⟨c', s', e2, fun φ' H' g h => p φ' H' (g1.trans g) h⟩⟩
/-- one more item: it is told, or raised -/
theorem rdx_cons {f : Sl → S → R D} {k : D → S → R D} {φ : Mp} {s : S} {r : Sl} {σ : L2.St} {H : Hp} {Q' Q : VK} (A : At G φ s H r σ)
    (h : (∃ d s', bnd (f r s) k = some (.ok d, s') ∧ Post G φ s H s' d Q) ∨ (∃ c s', bnd (f r s) k = some (.er c, s') ∧ ∀ φ' H', Gr φ s H φ' s' H' → HR G φ' s' H' → W c σ H'))
    (go : ∀ x s1, f r s = some (.ok x, s1) → ∀ φ1 H1 v, Gr φ s H φ1 s1 H1 → At G φ1 s1 H1 r σ → Rep φ1 s1 H1 x v →
      ((∃ d s', k x s1 = some (.ok d, s') ∧ Post G φ1 s1 H1 s' d Q) ∨ (∃ c s', k x s1 = some (.er c, s') ∧ ∀ φ' H', Gr φ1 s1 H1 φ' s' H' → HR G φ' s' H' → W c σ H')) → Q' v H1) : rdX G W f σ H Q' := by
  refine ⟨φ, s, r, A, ?_⟩
  cases hf : f r s with
  | none =>
    exfalso
    rw [hf] at h
    rcases h with ⟨d, s', he, p⟩ | ⟨c, s', he, p⟩ <;> cases he
  | some q =>
    obtain ⟨q, s1⟩ := q
    rw [hf] at h
    cases q with
    | er c =>
      rcases h with ⟨d, s', he, p⟩ | ⟨c, s', he, p⟩
      · cases he
      · cases he
        exact .inr ⟨c, s1, rfl, p⟩
    | ok x =>
      refine .inl ⟨x, s1, rfl, fun φ1 H1 v g1 h1 rv => go x s1 hf φ1 H1 v g1 ⟨h1, A.sr.mono g1⟩ rv ?_⟩
      rcases h with ⟨d, s', he, p⟩ | ⟨c, s', he, p⟩
      · exact .inl ⟨d, s', he, Post.from g1 p⟩
      · exact .inr ⟨c, s', he, fun φ' H' g h => p φ' H' (g1.trans g) h⟩
theorem c_xlst2 {a b : Expr} {ca cb : Xe} (ha : PE X a (rdX G W (evx cf ca))) (hb : PE X b (rdX G W (evx cf cb))) (na : starEach [a, b] X.env = (false, eval a X.env) :: starEach [b] X.env) (nb : starEach [b] X.env = (false, eval b X.env) :: starEach [] X.env) : PE X (.List [a, b] pos) (rdX G W (evx cf (.lst2 ca cb))) := by
  refine PE.imp (pe_lst (pa_cons ha (pa_cons hb pa_nil nb) na)) fun σ H Q h => ?_
  obtain ⟨φ, s, r, A, h⟩ := h
  simp only [evx] at h
  refine rdx_cons (f := evx cf ca) A h fun x s1 e1 φ1 H1 v g1 A1 rv h1 => ?_
  refine rdx_cons (f := evx cf cb) A1 h1 fun y s2 e2 φ2 H2 w g2 A2 rw' h2 => ?_
  have rs : RepL φ2 s2 H2 [x, y] [v, w] := by
    simp only [RepL]
    exact ⟨v, _, rfl, Rep.mono g2 _ rv, w, _, rfl, rw', rfl⟩
  rcases h2 with ⟨d, s', he, p⟩ | ⟨c, s', he, p⟩
  · unfold mkLz at he
    split at he
    · rename_i hz
      exact ⟨by rw [rs.length, ← LIM_eq]; exact hz, Post.lst A2.hr he p rs⟩
    · cases he
  · unfold mkLz at he
    split at he
    · cases he
    · cases he
theorem c_xlst3 {a b e : Expr} {ca cb ce : Xe} (ha : PE X a (rdX G W (evx cf ca))) (hb : PE X b (rdX G W (evx cf cb))) (he : PE X e (rdX G W (evx cf ce))) (na : starEach [a, b, e] X.env = (false, eval a X.env) :: starEach [b, e] X.env) (nb : starEach [b, e] X.env = (false, eval b X.env) :: starEach [e] X.env) (ne : starEach [e] X.env = (false, eval e X.env) :: starEach [] X.env) : PE X (.List [a, b, e] pos) (rdX G W (evx cf (.lst3 ca cb ce))) := by
  refine PE.imp (pe_lst (pa_cons ha (pa_cons hb (pa_cons he pa_nil ne) nb) na)) fun σ H Q h => ?_
  obtain ⟨φ, s, r, A, h⟩ := h
  simp only [evx] at h
  refine rdx_cons (f := evx cf ca) A h fun x s1 e1 φ1 H1 v g1 A1 rv h1 => ?_
  refine rdx_cons (f := evx cf cb) A1 h1 fun y s2 e2 φ2 H2 w g2 A2 rw' h2 => ?_
  refine rdx_cons (f := evx cf ce) A2 h2 fun z s3 e3 φ3 H3 u g3 A3 ru h3 => ?_
  have rs : RepL φ3 s3 H3 [x, y, z] [v, w, u] := by
    simp only [RepL]
    exact ⟨v, _, rfl, Rep.mono g3 _ (Rep.mono g2 _ rv), w, _, rfl, Rep.mono g3 _ rw', u, _, rfl, ru, rfl⟩
  rcases h3 with ⟨d, s', he, p⟩ | ⟨c, s', he, p⟩
  · unfold mkLz at he
    split at he
    · rename_i hz
      exact ⟨by rw [rs.length, ← LIM_eq]; exact hz, Post.lst A3.hr he p rs⟩
    · cases he
  · unfold mkLz at he
    split at he
    · cases he
    · cases he
end
end Fl
namespace Fl
open PySem L2
section
variable {G : Glob} {W : WZ} {X : Cx} {cf : CF} {pos : Pos}
theorem pg_go {f : Addr} {fn e : Expr} {es : List Expr} {tf : TE} {E : L2.St → XK} {sp : Sp} {t : TA} (heq : ∀ env, eval (.Call fn (e :: es) [] pos) env = (do callWith pos (← eval fn env) [] (backTo pos (starEach (e :: es) env)) (backToKw pos (keywordEach [] env))))
    (R : Runs X f E sp) (hk : PySem.W.keepIn X.K (.ref f) = true) (hf : PE X fn tf) (ha : PA X (e :: es) t)
    (he : starEach (e :: es) X.env = (false, eval e X.env) :: starEach es X.env) (hpl : (backTo pos (starEach es X.env)).any (·.1) = false) : PE X (.Call fn (e :: es) [] pos) (fun σ H Q => tf σ H fun c H1 => c = .ref f ∧ t σ H1 fun vs H2 => sp vs H2 Q (E σ)) := by
  refine ⟨fun pins s σ H Q I h => ?_⟩
  rw [heq]
  refine wpAny_bind (thn (hf.run pins s σ H _ I h) fun u s1 ⟨c, H1, I1, rc, ec, q1⟩ => ?_)
  subst ec
  obtain rfl : u = Value.ref f := rc
  exact PySem.W.callWith_K (h₀ := X.base) I.ok.mod.kin hk (thn (ha.run pos pins s1 σ H1 _ I1 q1) fun us s2 ⟨vs, H2, I2, rv, q⟩ => ⟨I2.kIn, R pins σ H2 s2 Q us vs I2 rv q⟩) he hpl
theorem c_xpick {x y : Str} {p1 p2 p3 p4 : Pos} {z e : Expr} {es : List Expr} {f g : String} {n n' : Nat} {ci : E} {ces : Es} (Fx : FnAtX G X x (cf "" f) n) (Fy : FnAtX G X y (cf "" g) n') (tk : Takes X (wz G W)) (hgx : Gl X x) (hgy : Gl X y) (hi : PE X z (rE G cf ci)) (hz : PlainIx z) (ha : PA X (e :: es) (rA G cf ces))
    (hdx : (x == ("__debug__" : Str)) = false) (hdy : (y == ("__debug__" : Str)) = false) (he : starEach (e :: es) X.env = (false, eval e X.env) :: starEach es X.env) (hpl : (backTo pos (starEach es X.env)).any (·.1) = false) :
    PE X (.Call (.Subscript (.List [.Name x p1, .Name y p2] p3) z p4) (e :: es) [] pos) (rdX G W (evx cf (.pick f g ci ces))) := by
  refine ⟨fun pins s0 σ H Q I h => ?_⟩
  obtain ⟨φ, s, r, A, h⟩ := h
  obtain ⟨⟨a, fd, ps, j, hm, hk, hb, hr, hn, ok⟩, hl⟩ := Fx
  obtain ⟨⟨a', fd', ps', j', hm', hk', hb', hr', hn', ok'⟩, hl'⟩ := Fy
  have callee := pe_ix (pos := p4) ix_seq (pe_lst (pos := p3) (pa_cons (pe_glob (pos := p1) hgx hm (show RelV (.ref a) (.ref a) from rfl) hdx) (pa_cons (pe_glob (pos := p2) hgy hm' (show RelV (.ref a') (.ref a') from rfl) hdy) pa_nil))) hi hz
  have main : ∀ (b : Rs D) (s' : S), evx cf (.pick f g ci ces) r s = some (b, s') → ((∃ d, b = .ok d ∧ Post G φ s H s' d Q) ∨ (∃ c, b = .er c ∧ ∀ φ' H', Gr φ s H φ' s' H' → HR G φ' s' H' → W c σ H')) → wpAny (model X.prog X.w) X.A (eval (.Call (.Subscript (.List [.Name x p1, .Name y p2] p3) z p4) (e :: es) [] pos) X.env) (EP X pins σ Q) X.xe s0 := by
    intro b s' hev p
    simp only [evx] at hev
    obtain ⟨k, s1, e1, hev⟩ := bnn_inv hev
    split at hev
    · rename_i h' hp
      obtain ⟨xs, s2, e2, hev⟩ := bnn_inv hev
      unfold pickF at hp
      split at hp
      · rename_i i
        have fin : ∀ (f0 : String) (a0 : Addr) (fd0 : FuncData) (ps0 : List Str) (j0 n0 : Nat), cf "" f0 xs s2 = some (b, s') → PySem.W.keepIn X.K (.ref a0) = true → Binds X.K fd0 ps0 [] → RmG j0 X.A → FnG X.prog X.w X.K X.mg X.base (L2.CX X.prog X.w) j0 a0 fd0 ps0 (spX G (cf "" f0) n0) → (∀ ds s q, cf "" f0 ds s = some q → ds.length = n0) → atI [V.ref a, V.ref a'] i = some (.ref a0) →
            wpAny (model X.prog X.w) X.A (eval (.Call (.Subscript (.List [.Name x p1, .Name y p2] p3) z p4) (e :: es) [] pos) X.env) (EP X pins σ Q) X.xe s0 := by
          intro f0 a0 fd0 ps0 j0 n0 hc k1 k2 k3 k4 k5 k6
          refine (pg_go (f := a0) (tf := _) (fun env => rfl) (k4.runs (E := WE (wz G W)) k3 k2 (passAt tk)) k1 callee ha he hpl).run pins s0 σ H Q I ?_
          show tLst (tCons (tC (.ref a)) (tCons (tC (.ref a')) tNil)) σ H _
          refine ⟨by show 2 ≤ sizeLine; decide, fun q hq => ?_⟩
          have g0 : Gr φ s H (pvt φ q) s (upd H q (.lst [.ref a, .ref a'])) := Gr.pvt A.hr hq
          have hr0 : HR G (pvt φ q) s (upd H q (.lst [.ref a, .ref a'])) := A.hr.pvt hq
          refine rd_step (φ := pvt φ q) (s := s) ⟨hr0, A.sr.mono g0⟩ e1 fun φ1 H1 v g1 A1 rv => ?_
          simp only [Rep] at rv
          subst rv
          obtain ⟨kk1, kk2⟩ := g1.pk q _ upd_same (.inr rfl)
          refine .inl ⟨q, [.ref a, .ref a'], i, .ref a0, rfl, rfl, SqL.of kk1, k6, rfl, ?_⟩
          refine rd_step A1 e2 fun φ2 H2 vs g2 A2 rs => ?_
          refine ⟨by rw [rs.length]; exact k5 _ _ _ hc, φ2, s2, xs, A2.hr, rs, ?_⟩
          have gg : Gr φ s H φ2 s2 H2 := g0.trans (g1.trans g2)
          rcases p with ⟨d, rfl, p⟩ | ⟨c', rfl, p⟩
          · exact .inl ⟨d, s', hc, Post.from gg p⟩
          · exact .inr ⟨c', s', hc, fun φ' H' C g h hc hC => ⟨c', C, hc, hC, rfl, rfl, p φ' H' (gg.trans g) h⟩⟩
        by_cases z0 : i = 0
        · subst z0
          rw [if_pos rfl] at hp
          cases hp
          exact fin f a fd ps j n hev hk hb hr ok hl rfl
        · rw [if_neg z0] at hp
          by_cases z1 : i = 1
          · subst z1
            rw [if_pos rfl] at hp
            cases hp
            exact fin g a' fd' ps' j' n' hev hk' hb' hr' ok' hl' rfl
          · rw [if_neg z1] at hp
            cases hp
      · cases hp
    · cases hev
  rcases h with ⟨d, s', he, p⟩ | ⟨c, s', he, p⟩
  · exact main _ _ he (.inl ⟨d, rfl, p⟩)
  · exact main _ _ he (.inr ⟨c, rfl, p⟩)
end
end Fl
namespace Fl
open PySem L2
def mTg (N : List Str) (sc : Scope) : Tg → Expr → Bool
  | .nm i, .Name x _ => decide (N[i]? = some x) && locB sc x
  | .tp is, .Tuple es _ _ => go is es
  | .nt i is, .Tuple [.Name x _, .Tuple es _ _] _ _ => decide (N[i]? = some x) && locB sc x && go is es
  | _, _ => false
where go : List Nat → List Expr → Bool
  | [], [] => true
  | i :: is, .Name x _ :: es => decide (N[i]? = some x) && locB sc x && go is es
  | _, _ => false
/-- name = [.. for ..]: stored within the comprehension, or behind it -/
def swB (sc : Scope) (x : Str) (py : Pos) : Expr → Option Bool
  | .ListComp _ _ scope pos => if isLc sc x then (if (py.line == pos.line) && !(scope.names.any fun p => p.1 == x && (p.2 == .local || p.2 == .cell)) then some true else none) else if isCl sc x then some false else none
  | _ => none
def kindF (sc : Scope) : Bool := match sc.kind with
  | .function => true
  | _ => false
/-- a call that may raise -/
def mX (sg : Sig) (N : List Str) (sc : Scope) : Xe → Expr → Bool
  | .call f es, e => match e with
    | .Call (.Name x _) (y :: ys) [] _ => decide (x = Str.ofString f) && glbB sc x && nodb x && (sg.fn.any fun p => decide (p.1 = "") && decide (p.2.1 = f)) && mEs sg N sc es (y :: ys)
    | _ => false
  | .own o m es, e => match e with
    | .Call (.Attribute r x ap) (y :: ys) [] cp => decide (x = Str.ofString m) && recvOk r && decide (ap.endLine = cp.line) && decide ((y :: ys).length < 20) && mE sg N sc o r && mEs sg N sc es (y :: ys)
    | _ => false
  | .ite c a b, e => match e with
    | .IfExp t l r _ => mE sg N sc c t && tOk c && mX sg N sc a l && mX sg N sc b r
    | _ => false
  | .lst2 a b, e => match e with
    | .List [p, q] _ => notStar p && notStar q && mX sg N sc a p && mX sg N sc b q
    | _ => false
  | .lst3 a b c, e => match e with
    | .List [p, q, u] _ => notStar p && notStar q && notStar u && mX sg N sc a p && mX sg N sc b q && mX sg N sc c u
    | _ => false
  | .pick f g i es, e => match e with
    | .Call (.Subscript (.List [.Name x _, .Name y _] _) z _) (y1 :: ys) [] _ => decide (x = Str.ofString f) && glbB sc x && nodb x && (sg.fn.any fun p => decide (p.1 = "") && decide (p.2.1 = f)) && decide (y = Str.ofString g) && glbB sc y && nodb y && (sg.fn.any fun p => decide (p.1 = "") && decide (p.2.1 = g)) && notSlice z && mE sg N sc i z && mEs sg N sc es (y1 :: ys)
    | _ => false
mutual
def mS (sg : Sig) (N : List Str) (sc : Scope) : C → Stmt → Bool
  | .asg i c, st => match st with
    | .Assign [.Name x py] e _ => decide (N[i]? = some x) && locB sc x && mE sg N sc c e && (notComp e || (kindF sc && match c, swB sc x py e with
      | .lc _ _ _ _ _, some true => true
      | _, some false => true
      | _, _ => false))
    | _ => false
  | .tpa is c, st => match st with
    | .Assign [.Tuple es _ _] e _ => mTg.go N sc is es && notComp e && notTup e && mE sg N sc c e
    | _ => false
  | .tpl is c, st => match st with
    | .Assign [.Tuple es _ _] e _ => mTg.go N sc is es && notComp e && notTup e && mE sg N sc c e
    | _ => false
  | .par i j a b, st => match st with
    | .Assign [.Tuple [.Name x px, .Name y py] _ _] (.Tuple [p, q] _ _) _ => decide (N[i]? = some x) && decide (N[j]? = some y) && decide (i ≠ j) && isLc sc x && isLc sc y && decide (px.line = py.line) && decide (x ≠ y) && notStar p && notStar q && !(foldedForSure 8 p && foldedForSure 8 q) && !(constantsAlone 8 p && constantsAlone 8 q) && kindF sc && mE sg N sc a p && mE sg N sc b q
    | _ => false
  | .par3 i j l a b c, st => match st with
    | .Assign [.Tuple [.Name x px, .Name y py, .Name z pz] _ _] (.Tuple [p, q, u] _ _) _ => decide (N[i]? = some x) && decide (N[j]? = some y) && decide (N[l]? = some z) && (decide (i ≠ j) && decide (i ≠ l) && decide (j ≠ l)) && (isLc sc x && isLc sc y && isLc sc z) && (decide (px.line = py.line) && decide (px.line = pz.line)) && (decide (x ≠ y) && decide (x ≠ z) && decide (y ≠ z)) && (notStar p && notStar q && notStar u) && !(foldedForSure 8 p && foldedForSure 8 q && foldedForSure 8 u) && !(constantsAlone 8 p && constantsAlone 8 q && constantsAlone 8 u) && kindF sc && mE sg N sc a p && mE sg N sc b q && mE sg N sc c u
    | _ => false
  | .augi o i b c, st => match st with
    | .AugAssign (.Subscript p q _) o' e _ => opB b o' && augOk b && notSlice q && mE sg N sc o p && mE sg N sc i q && mE sg N sc c e
    | _ => false
  | .aug i o c, st => match st with
    | .AugAssign (.Name x _) p e _ => opB o p && augOk o && decide (N[i]? = some x) && locB sc x && mE sg N sc c e
    | _ => false
  | .seti o i c, st => match st with
    | .Assign [.Subscript p q _] e _ => notSlice q && mE sg N sc o p && mE sg N sc i q && mE sg N sc c e
    | _ => false
  | .setf o f c, st => match st with
    | .Assign [.Attribute p x _] e _ => decide (x = Str.ofString f) && decide (f ∈ sg.fl) && mE sg N sc o p && mE sg N sc c e
    | _ => false
  | .augf o f b c, st => match st with
    | .AugAssign (.Attribute p x _) q e _ => decide (x = Str.ofString f) && decide (f ∈ sg.fl) && opB b q && augOk b && mE sg N sc o p && mE sg N sc c e
    | _ => false
  | .exp c, st => match st with
    | .Expr e _ => notComp e && mE sg N sc c e
    | _ => false
  | .ret c, st => match st with
    | .Return (some e) _ => mE sg N sc c e
    | _ => false
  | .retn, st => match st with
    | .Return none _ => true
    | _ => false
  | .ite c a b, st => match st with
    | .If t x y _ => mE sg N sc c t && tOk c && mSs sg N sc a x && mSs sg N sc b y
    | _ => false
  | .for tg it b, st => match st with
    | .For t iter body [] _ => mTg N sc tg t && notSet iter && mI sg N sc it t iter && mSs sg N sc b body
    | _ => false
  | .whl c b, st => match st with
    | .While t body [] _ => mE sg N sc c t && tOk c && mSs sg N sc b body
    | _ => false
  | .brk, st => match st with
    | .Break _ => true
    | _ => false
  | .cnt, st => match st with
    | .Continue _ => true
    | _ => false
  | .pas, st => match st with
    | .Pass _ => true
    | _ => false
  | .rse _, _ => true
  | .rz c, st => match st with
    | .Raise (some (.Call (.Name x _) [.Constant (.str _) _ _] [] _)) none _ => decide (x = Str.ofString c) && glbB sc x && nodb x && decide (c ∈ sg.ec)
    | _ => false
  | .xexp x, st => match st with
    | .Expr e _ => notComp e && mX sg N sc x e
    | _ => false
  | .xasg i x, st => match st with
    | .Assign [.Name y _] e _ => decide (N[i]? = some y) && locB sc y && notComp e && mX sg N sc x e
    | _ => false
  | .xret x, st => match st with
    | .Return (some e) _ => mX sg N sc x e
    | _ => false
  | .xsetf o f x, st => match st with
    | .Assign [.Attribute p y _] e _ => decide (y = Str.ofString f) && decide (f ∈ sg.fl) && mE sg N sc o p && mX sg N sc x e
    | _ => false
  | .tryc b t i j, st => match st with
    | .Try body [.ExceptHandler (some (.Name x _)) (some n) [.Assign [.Name m _] (.Name n' _) _] _] [] [] _ => decide (x = Str.ofString t) && decide (t ∈ sg.et) && glbB sc x && nodb x && decide (N[i]? = some n) && decide (N[j]? = some m) && decide (n' = n) && isLc sc n && isLc sc m && decide (i ≠ j) && nodb n && mSs sg N sc b body
    | _ => false
  | .tryk b t j, st => match st with
    | .Try body [.ExceptHandler (some (.Name x _)) none [.Assign [.Name m _] (.Constant (.bool true) _ _) _] _] [] [] _ => decide (x = Str.ofString t) && decide (t ∈ sg.et) && glbB sc x && nodb x && decide (N[j]? = some m) && locB sc m && mSs sg N sc b body
    | _ => false
  | .tryh b t i hs, st => match st with
    | .Try body [.ExceptHandler (some (.Name x _)) (some n) (b0 :: suite) _] [] [] _ => decide (x = Str.ofString t) && decide (t ∈ sg.et) && glbB sc x && nodb x && decide (N[i]? = some n) && isLc sc n && nodb n && mHs sg N sc n i hs (b0 :: suite) && mSs sg N sc b body
    | _ => false
def mSs (sg : Sig) (N : List Str) (sc : Scope) : Cs → List Stmt → Bool
  | .nil, [] => true
  | .cons c r, s :: ss => mS sg N sc c s && mSs sg N sc r ss
  | _, _ => false
end
structure OkS (sg : Sig) (G : Glob) (cf : CF) (N : List Str) (sc : Scope) (W : WZ) (X : Cx) : Prop where
  ok : Ok sg G cf N sc X
  hp : PassesOwn (model X.prog X.w) X.A X.env X.xe
  f1 : ∀ x, X.fn x = true
  tk : Takes X (wz G W)
  hs : X.stack = X.env :: X.outer
  hf : X.env.frame = some X.env.locals
  hex : X.ex = []
  fx : ∀ f n, ("", f, n) ∈ sg.fn → FnAtX G X (Str.ofString f) (cf "" f) n
  mx : ∀ c m, c ≠ "" → ∀ ds s q, cf c m ds s = some q → ∃ C n, G.cls c = some C ∧ Cls X.K C ∧ MtAtX G X C (Str.ofString m) (cf c m) n
section
variable {sg : Sig} {G : Glob} {cf : CF} {N : List Str} {sc : Scope} {W : WZ} {X : Cx}
theorem OkS.tr (ok : OkS sg G cf N sc W X) {W' : WZ} {pn : List (Addr × Obj)} {xe : Value → Shared → Prop} (tk : Takes (X.tr pn xe) (wz G W')) (hp : PassesOwn (model X.prog X.w) X.A X.env xe) : OkS sg G cf N sc W' (X.tr pn xe) := by
  obtain ⟨⟨a1, a2, a3, a4, a5, a6, gd, a7, g7, a8, a9, b1, b2, b3, b4, b5, b6⟩, c1, c2, c3, c4, c5, c6, c7, c8⟩ := ok
  refine ⟨⟨a1, a2, a3, a4, a5, a6, gd, a7, g7, a8, a9, fun f n h => ?_, fun c m hc ds s q e => ?_, b3, fun c hc => ?_, b5, b6⟩, hp, c2, tk, c4, c5, c6, fun f n h => ?_, fun c m hc ds s q e => ?_⟩
  · obtain ⟨⟨a, fd, ps, j, h1, h2, h3, h4, h5, h6⟩, h7⟩ := b1 f n h
    exact ⟨⟨a, fd, ps, j, h1, h2, h3, h4, h5, h6⟩, h7⟩
  · obtain ⟨C, n, h1, h2, ⟨a, fd, ps, j, k1, k2, k3, k4, k5⟩, h7⟩ := b2 c m hc ds s q e
    exact ⟨C, n, h1, h2, ⟨a, fd, ps, j, k1, k2, k3, k4, k5⟩, h7⟩
  · obtain ⟨C, n, h1, ⟨a, fd, ps, j, k1, k2, k3, k4, k5, k6⟩, h7⟩ := b4 c hc
    exact ⟨C, n, h1, ⟨a, fd, ps, j, k1, k2, k3, k4, k5, k6⟩, h7⟩
  · obtain ⟨⟨a, fd, ps, j, h1, h2, h3, h4, h5, h6⟩, h7⟩ := c7 f n h
    exact ⟨⟨a, fd, ps, j, h1, h2, h3, h4, h5, h6⟩, h7⟩
  · obtain ⟨C, n, h1, h2, ⟨a, fd, ps, j, k1, k2, k3, k4, k5⟩, h7⟩ := c8 c m hc ds s q e
    exact ⟨C, n, h1, h2, ⟨a, fd, ps, j, k1, k2, k3, k4, k5⟩, h7⟩
theorem sX (ok : OkS sg G cf N sc W X) {x : Xe} : ∀ {e : Expr}, mX sg N sc x e = true → PE X e (rdX G W (evx cf x)) := by
  induction x with
  | call f es =>
    intro e h
    simp only [mX] at h
    split at h
    · rename_i x p y ys pos
      simp only [Bool.and_eq_true, decide_eq_true_eq] at h
      obtain ⟨⟨⟨⟨h1, h2⟩, h3⟩, h4⟩, h5⟩ := h
      obtain ⟨n1, n2, n3⟩ := nodb_of h3
      obtain ⟨n, hn⟩ := fn_mem h4
      have F := ok.fx f n hn
      subst h1
      have hs := mEs_star h5
      have il := sL es sc X _ ok.ok h5
      rw [List.all_cons, Bool.and_eq_true] at hs
      exact c_xcall F ok.tk (glb_of ok.ok h2) il.pa n1 (star1 hs.1) (starN hs.2)
    · cases h
  | own o m es =>
    intro e h
    simp only [mX] at h
    split at h
    · rename_i r x ap y ys cp
      simp only [Bool.and_eq_true, decide_eq_true_eq] at h
      obtain ⟨⟨⟨⟨⟨h1, h2⟩, h3⟩, h4⟩, h5⟩, h6⟩ := h
      subst h1
      have hs := mEs_star h6
      have il := sL es sc X _ ok.ok h6
      have hln : (ap.endLine == cp.line) = true := by rw [h3]; exact beq_self_eq_true _
      rw [List.all_cons, Bool.and_eq_true] at hs
      refine c_xown (fun c hc => ok.mx c m hc) ok.tk (sE o sc X _ ok.ok h5).1 il.pa (star1 hs.1) (starN hs.2) (base_ok h2) ?_ hln
      rw [starA (by rw [List.all_cons, hs.1, hs.2]; rfl)]
      show (true && true && decide ((y :: ys).length + 0 + 0 < 30)) = true
      simp only [Bool.true_and, decide_eq_true_eq]
      omega
    · cases h
  | ite c a b iha ihb =>
    intro e h
    simp only [mX] at h
    split at h
    · rename_i t l r pos
      simp only [Bool.and_eq_true] at h
      obtain ⟨⟨⟨h1, h2⟩, h3⟩, h4⟩ := h
      exact c_xite ((sE c sc X _ ok.ok h1).2 h2) (iha h3) (ihb h4)
    · cases h
  | lst2 a b iha ihb =>
    intro e h
    simp only [mX] at h
    split at h
    · rename_i p q pos
      simp only [Bool.and_eq_true] at h
      obtain ⟨⟨⟨h1, h2⟩, h3⟩, h4⟩ := h
      exact c_xlst2 (iha h3) (ihb h4) (star1 h1) (star1 h2)
    · cases h
  | lst3 a b c iha ihb ihc =>
    intro e h
    simp only [mX] at h
    split at h
    · rename_i p q u pos
      simp only [Bool.and_eq_true] at h
      obtain ⟨⟨⟨⟨⟨h1, h2⟩, h3⟩, h4⟩, h5⟩, h6⟩ := h
      exact c_xlst3 (iha h4) (ihb h5) (ihc h6) (star1 h1) (star1 h2) (star1 h3)
    · cases h
  | pick f g i es =>
    intro e h
    simp only [mX] at h
    split at h
    · rename_i x p1 y p2 p3 z p4 y1 ys pos
      simp only [Bool.and_eq_true, decide_eq_true_eq] at h
      obtain ⟨⟨⟨⟨⟨⟨⟨⟨⟨⟨h1, h2⟩, h3⟩, h4⟩, h1'⟩, h2'⟩, h3'⟩, h4'⟩, h6⟩, h7⟩, h5⟩ := h
      obtain ⟨n1, n2, n3⟩ := nodb_of h3
      obtain ⟨m1, m2, m3⟩ := nodb_of h3'
      obtain ⟨n, hn⟩ := fn_mem h4
      obtain ⟨n', hn'⟩ := fn_mem h4'
      have F := ok.fx f n hn
      have F' := ok.fx g n' hn'
      subst h1
      subst h1'
      have hs := mEs_star h5
      have il := sL es sc X _ ok.ok h5
      rw [List.all_cons, Bool.and_eq_true] at hs
      exact c_xpick F F' ok.tk (glb_of ok.ok h2) (glb_of ok.ok h2') (sE i sc X _ ok.ok h7).1 (plain_ix h6) il.pa n1 m1 (star1 hs.1) (starN hs.2)
    · cases h
theorem sw_attr {e o : Expr} {x : Str} {p : Pos} {l : Nat} {env : Env} : swapsWith e (some (.Attribute o x p)) l env = pure false := by cases e <;> rfl
theorem sw_subs {e o i : Expr} {p : Pos} {l : Nat} {env : Env} : swapsWithSole [.Subscript o i p] e l env = pure false := by
  show swapsWith e (some (.Subscript o i p)) l env = pure false
  cases e <;> rfl
theorem sw_sole {t e : Expr} {l : Nat} {env : Env} (h : notComp e = true) : swapsWithSole [t] e l env = pure false := by
  show swapsWith e (some t) l env = pure false
  exact sw_no h
theorem tg_go (ok : OkS sg G cf N sc W X) : ∀ {is : List Nat} {es : List Expr}, mTg.go N sc is es = true → PGs X es (gsOf is) ∧ es.length = is.length ∧ ∀ e ∈ es, ∃ x p, e = Expr.Name x p
  | [], [], _ => ⟨pgs_nil, rfl, fun _ h => by cases h⟩
  | [], _ :: _, h => by cases h
  | i :: is, [], h => by cases h
  | i :: is, e :: es, h => by
    unfold mTg.go at h
    split at h
    · cases ‹_ :: _ = []›
    · rename_i i' is' x p es' h1 h2
      cases h1
      cases h2
      simp only [Bool.and_eq_true, decide_eq_true_eq] at h
      obtain ⟨h1, h2, h3⟩ := tg_go ok h.2
      refine ⟨pgs_cons (pg_name (by rw [ok.ok.n]; exact ok.ok.nd) (by rw [ok.ok.n]; exact h.1.1) (by rw [ok.ok.sc]; exact loc_of h.1.2) (.inl (ok.f1 x))) h1 rfl, by simp [h2], fun e he => ?_⟩
      rcases List.mem_cons.mp he with z | z
      · exact ⟨_, _, z⟩
      · exact h3 e z
    · cases h
theorem pg_tt (ok : OkS sg G cf N sc W X) {is : List Nat} {es : List Expr} {k : Nat} {p : Pos} (h : mTg.go N sc is es = true) : PG X (.Tuple es k p) (gTup X.K is.length (gsOf is)) := by
  obtain ⟨h1, h2, h3⟩ := tg_go ok h
  obtain ⟨a1, a2⟩ := assign_names (env := X.env) h3
  exact pg_tup ok.ok.calm h1 (by rw [a1, h2]) a2
theorem pg_tl (ok : OkS sg G cf N sc W X) {is : List Nat} {es : List Expr} {k : Nat} {p : Pos} (h : mTg.go N sc is es = true) : PG X (.Tuple es k p) (gLst X.K is.length (gsOf is)) := by
  obtain ⟨h1, h2, h3⟩ := tg_go ok h
  obtain ⟨a1, a2⟩ := assign_names (env := X.env) h3
  exact pg_lst ok.ok.calm h1 (by rw [a1, h2]) a2
theorem pg_tp (ok : OkS sg G cf N sc W X) {is : List Nat} {es : List Expr} {k : Nat} {p : Pos} (h : mTg.go N sc is es = true) : PG X (.Tuple es k p) (gOf X.K (.tp is)) := pg_ei (pg_tt ok h) (pg_tl ok h)
theorem pg_tg (ok : OkS sg G cf N sc W X) {tg : Tg} {t : Expr} (h : mTg N sc tg t = true) : PG X t (gOf X.K tg) := by
  cases tg with
  | nm i =>
    cases t with
    | Name x p =>
      have h' : (decide (N[i]? = some x) && locB sc x) = true := h
      simp only [Bool.and_eq_true, decide_eq_true_eq] at h'
      exact pg_name (by rw [ok.ok.n]; exact ok.ok.nd) (by rw [ok.ok.n]; exact h'.1) (by rw [ok.ok.sc]; exact loc_of h'.2) (.inl (ok.f1 x))
    | _ => cases h
  | tp is =>
    cases t with
    | Tuple es k p => exact pg_tp ok h
    | _ => cases h
  | nt i is =>
    unfold mTg at h
    split at h
    · rename_i h2; cases h2
    · rename_i h2; cases h2
    · rename_i i' is' x px es k2 p2 k p h1
      cases h1
      simp only [Bool.and_eq_true, decide_eq_true_eq] at h
      have hn : PG X (.Name x px) (gName i) := pg_name (by rw [ok.ok.n]; exact ok.ok.nd) (by rw [ok.ok.n]; exact h.1.1) (by rw [ok.ok.sc]; exact loc_of h.1.2) (.inl (ok.f1 x))
      exact pg_tup ok.ok.calm (pgs_cons hn (pgs_cons (pg_tt ok h.2) pgs_nil rfl) rfl) rfl rfl
    · cases h
theorem sw_false {x : Str} {py : Pos} {l : Nat} {e : Expr} (h : swB sc x py e = some false) (hs : X.env.scope = sc) : swapsWith e (some (.Name x py)) l X.env = pure false := by
  cases e with
  | ListComp elt gs scope pos =>
    have h' : (if isLc sc x = true then (if ((py.line == pos.line) && !(scope.names.any fun p => p.1 == x && (p.2 == .local || p.2 == .cell))) = true then some true else none) else if isCl sc x = true then some false else none) = some false := h
    by_cases h1 : isLc sc x = true
    · rw [if_pos h1] at h'
      split at h' <;> cases h'
    · rw [if_neg h1] at h'
      by_cases hc : isCl sc x = true
      · have ky : X.env.kindOf x = some .cell := by
          show X.env.scope.names.lookup x = some .cell
          rw [hs]
          exact isCl_of hc
        unfold swapsWith
        simp only [ky]
        have e1 : (some NameKind.cell == some NameKind.local) = false := rfl
        rw [e1, Bool.and_false, Bool.false_and, Bool.false_and]
      · rw [if_neg hc] at h'
        cases h'
  | _ => cases h
theorem notStar_any {l : List Expr} (h : ∀ e ∈ l, notStar e = true) : (l.any fun | .Starred .. => true | _ => false) = false := by
  rw [List.any_eq_false]
  intro e he
  have := h e he
  cases e <;> first | (cases this; done) | exact Bool.false_ne_true
theorem sw_par {x y : Str} {px py pt pt2 : Pos} {kt k2} {a b : Expr} {env : Env} (hk : env.blockKind = .function) (hx : env.kindOf x = some .local) (hy : env.kindOf y = some .local) (hl : px.line = py.line) (hne : x ≠ y)
   (na : notStar a = true) (nb : notStar b = true) (hf : (foldedForSure 8 a && foldedForSure 8 b) = false) (hc : (constantsAlone 8 a && constantsAlone 8 b) = false) :
   swappedStores [.Tuple [.Name x px, .Name y py] kt pt] (.Tuple [a, b] k2 pt2) env = pure (some [x, y]) := by
  unfold swappedStores
  have e1 := notStar_any (l := [a, b]) (by simp [na, nb])
  have e3 : [x, y].eraseDups.length = 2 := by
    have : (x == y) = false := by simpa using hne
    simp [List.eraseDups_cons, hne, Ne.symm hne]
  have e4 : [a, b].all (foldedForSure 8) = false := by simpa [Bool.and_assoc] using hf
  have e5 : [a, b].all (constantsAlone 8) = false := by simpa [Bool.and_assoc] using hc
  have hp : (Expr.Name x px).pos.line = px.line := rfl
  simp only [hk, e1, e4, e5]
  show (if _ then _ else _) = _
  simp [hx, hy, hl, e3]
  rw [if_neg (by
    have q := e1
    simp only [List.any_cons, List.any_nil, Bool.or_false, Bool.or_eq_false_iff] at q
    rintro (h | h)
    · exact Bool.false_ne_true (q.1.symm.trans h)
    · exact Bool.false_ne_true (q.2.symm.trans h))]
  simp only [List.filterMap_cons, List.filterMap_nil, hx, hy, hp, hl, true_and, if_true, e3]
  rfl
theorem sw_par3 {x y z : Str} {px py pz pt pt2 : Pos} {kt k2} {a b c : Expr} {env : Env} (hk : env.blockKind = .function) (hx : env.kindOf x = some .local) (hy : env.kindOf y = some .local) (hz : env.kindOf z = some .local) (hl : px.line = py.line) (hl2 : px.line = pz.line) (hxy : x ≠ y) (hxz : x ≠ z) (hyz : y ≠ z)
   (na : notStar a = true) (nb : notStar b = true) (nc : notStar c = true) (hf : (foldedForSure 8 a && foldedForSure 8 b && foldedForSure 8 c) = false) (hc : (constantsAlone 8 a && constantsAlone 8 b && constantsAlone 8 c) = false) :
   swappedStores [.Tuple [.Name x px, .Name y py, .Name z pz] kt pt] (.Tuple [a, b, c] k2 pt2) env = pure (some [x, y, z]) := by
  unfold swappedStores
  have e1 := notStar_any (l := [a, b, c]) (by simp [na, nb, nc])
  have e3 : [x, y, z].eraseDups.length = 3 := by
    simp [List.eraseDups_cons, hxy, Ne.symm hxy, hxz, Ne.symm hxz, hyz, Ne.symm hyz]
  have e4 : [a, b, c].all (foldedForSure 8) = false := by simpa [Bool.and_assoc] using hf
  have e5 : [a, b, c].all (constantsAlone 8) = false := by simpa [Bool.and_assoc] using hc
  have hp : (Expr.Name x px).pos.line = px.line := rfl
  simp only [hk, e1, e4, e5]
  show (if _ then _ else _) = _
  simp [hx, hy, hz, hl, hl2, e3]
  rw [if_neg (by
    have q := e1
    simp only [List.any_cons, List.any_nil, Bool.or_false, Bool.or_eq_false_iff] at q
    rintro (h | h | h)
    · exact Bool.false_ne_true (q.1.symm.trans h)
    · exact Bool.false_ne_true (q.2.1.symm.trans h)
    · exact Bool.false_ne_true (q.2.2.symm.trans h))]
  simp only [List.filterMap_cons, List.filterMap_nil, hx, hy, hz, hp, ← hl, ← hl2, true_and, if_true, e3]
  rfl
mutual
theorem sS : ∀ (c : C) (W : WZ) (X : Cx) (st : Stmt), OkS sg G cf N sc W X → mS sg N sc c st = true → PS X st (rS G W cf c)
  | .asg i c, W, X, st, ok, h => by
    simp only [mS] at h
    split at h
    · rename_i x py e pos
      simp only [Bool.and_eq_true, decide_eq_true_eq, Bool.or_eq_true] at h
      obtain ⟨⟨⟨h1, h2⟩, h3⟩, h4⟩ := h
      have hN : X.N.Nodup := by rw [ok.ok.n]; exact ok.ok.nd
      have hi : X.N[i]? = some x := by rw [ok.ok.n]; exact h1
      have hx : Loc X.env.scope x := by rw [ok.ok.sc]; exact loc_of h2
      have ie := (sE c sc X e ok.ok h3).1
      rcases h4 with h4 | ⟨h5, h4⟩
      · exact x_asg hN hi hx ie (sw_no h4) (.inl (ok.f1 x))
      · split at h4
        · rename_i bx ce tg it cnd hw
          simp only [mE] at h3
          split at h3
          · rename_i elt t iter ifs scope pos'
            simp only [Bool.and_eq_true] at h3
            obtain ⟨⟨⟨⟨k1, k2⟩, k3⟩, k4⟩, k5⟩ := h3
            split at k1
            · rename_i own hown
              simp only [Bool.and_eq_true, decide_eq_true_eq] at k1
              have hb : BlkOk X.N X.env.scope scope own := by
                rw [ok.ok.n, ok.ok.sc]
                exact blkOk_by k1.1
              have hw' : (if isLc sc x = true then (if ((py.line == pos'.line) && !(scope.names.any fun p => p.1 == x && (p.2 == .local || p.2 == .cell))) = true then some true else none) else if isCl sc x = true then some false else none) = some true := hw
              by_cases hlc : isLc sc x = true
              · rw [if_pos hlc] at hw'
                by_cases hcond : ((py.line == pos'.line) && !(scope.names.any fun p => p.1 == x && (p.2 == .local || p.2 == .cell))) = true
                · rw [Bool.and_eq_true, Bool.not_eq_true'] at hcond
                  have hlx : X.env.scope.names.lookup x = some .local := by rw [ok.ok.sc]; exact isLc_of hlc
                  have hkf : X.env.scope.kind = .function := by
                    rw [ok.ok.sc]
                    unfold kindF at h5
                    split at h5
                    · assumption
                    · cases h5
                  have hp := ps_setLc (X := X) (i := i) (y := x) (py := py) (pos := pos') (spos := pos) ok.ok.calm hN hi hlx (sw_true hkf hlx hcond.1 hcond.2) (sI it sc X t iter ok.ok k3) hb (fun s H C cl fp => pg_blk ok.ok hown s H C cl fp)
                    (fun s H C cl fp => sC cnd (relS scope sc) _ ifs (ok.ok.blk s H scope C cl fp) k4) (fun s H C cl fp => (sE ce (relS scope sc) _ elt (ok.ok.blk s H scope C cl fp) k5).1) (set_no k2)
                  rw [k1.2] at hp
                  refine PS.imp hp fun Dn σ H q => ?_
                  have q1 : tAsg (rE G cf (.lc bx ce tg it cnd)) (gName i) Dn σ H := asgR Dn σ H q
                  exact c_lcR σ H _ q1
                · rw [if_neg hcond] at hw'
                  cases hw'
              · rw [if_neg hlc] at hw'
                split at hw' <;> cases hw'
            · cases k1
          · cases h3
        · rename_i hw
          exact x_asg hN hi hx ie (sw_false hw ok.ok.sc) (.inl (ok.f1 x))
        · cases h4
    · cases h
  | .tpa is c, W, X, st, ok, h => by
    simp only [mS] at h
    split at h
    · rename_i es k p e pos
      simp only [Bool.and_eq_true] at h
      obtain ⟨⟨⟨h1, h2⟩, h3⟩, h4⟩ := h
      refine x_tpa (sE c sc X e ok.ok h4).1 (pg_tp ok h1) (sw_sole h2) ?_ rfl
      cases e <;> first | rfl | cases h3
    · cases h
  | .tpl is c, W, X, st, ok, h => by
    simp only [mS] at h
    split at h
    · rename_i es k p e pos
      simp only [Bool.and_eq_true] at h
      obtain ⟨⟨⟨h1, h2⟩, h3⟩, h4⟩ := h
      refine x_tpl ok.ok.k (sE c sc X e ok.ok h4).1 (pg_tl ok h1) (sw_sole h2) ?_ rfl
      cases e <;> first | rfl | cases h3
    · cases h
  | .par i j a b, W, X, st, ok, h => by
    simp only [mS] at h
    split at h
    · rename_i x px y py kt pt p q k2 pt2 pos
      simp only [Bool.and_eq_true, decide_eq_true_eq, Bool.not_eq_true'] at h
      obtain ⟨⟨⟨⟨⟨⟨⟨⟨⟨⟨⟨⟨⟨h1, h2⟩, h3⟩, h4⟩, h5⟩, h6⟩, h7⟩, h8⟩, h9⟩, h10⟩, h11⟩, h12⟩, h13⟩, h14⟩ := h
      have hx : X.env.scope.names.lookup x = some .local := by rw [ok.ok.sc]; exact isLc_of h4
      have hy : X.env.scope.names.lookup y = some .local := by rw [ok.ok.sc]; exact isLc_of h5
      have hkf : X.env.scope.kind = .function := by
        rw [ok.ok.sc]
        unfold kindF at h12
        split at h12
        · assumption
        · cases h12
      have hbk : X.env.blockKind = .function := by
        unfold Env.blockKind
        rw [hkf]
        rfl
      exact x_par ok.ok.calm (by rw [ok.ok.n]; exact ok.ok.nd) (by rw [ok.ok.n]; exact h1) (by rw [ok.ok.n]; exact h2) h3 hx hy (sE a sc X p ok.ok h13).1 (sE b sc X q ok.ok h14).1 (star1 h8) (star1 h9) (sw_par hbk hx hy h6 h7 h8 h9 h10 h11) rfl
    · cases h
  | .par3 i j l a b c, W, X, st, ok, h => by
    simp only [mS] at h
    split at h
    · rename_i x px y py z pz kt pt p q u k2 pt2 pos
      simp only [Bool.and_eq_true, decide_eq_true_eq, Bool.not_eq_true'] at h
      obtain ⟨⟨⟨⟨⟨⟨⟨⟨⟨⟨⟨⟨⟨h1, h2⟩, h2'⟩, ⟨⟨d1, d2⟩, d3⟩⟩, ⟨⟨l1, l2⟩, l3⟩⟩, ⟨n1, n2⟩⟩, ⟨⟨x1, x2⟩, x3⟩⟩, ⟨⟨s1, s2⟩, s3⟩⟩, h10⟩, h11⟩, h12⟩, h13⟩, h14⟩, h15⟩ := h
      have hx : X.env.scope.names.lookup x = some .local := by rw [ok.ok.sc]; exact isLc_of l1
      have hy : X.env.scope.names.lookup y = some .local := by rw [ok.ok.sc]; exact isLc_of l2
      have hz : X.env.scope.names.lookup z = some .local := by rw [ok.ok.sc]; exact isLc_of l3
      have hkf : X.env.scope.kind = .function := by
        rw [ok.ok.sc]
        unfold kindF at h12
        split at h12
        · assumption
        · cases h12
      have hbk : X.env.blockKind = .function := by
        unfold Env.blockKind
        rw [hkf]
        rfl
      exact x_par3 ok.ok.calm (by rw [ok.ok.n]; exact ok.ok.nd) (by rw [ok.ok.n]; exact h1) (by rw [ok.ok.n]; exact h2) (by rw [ok.ok.n]; exact h2') d1 d2 d3 hx hy hz (sE a sc X p ok.ok h13).1 (sE b sc X q ok.ok h14).1 (sE c sc X u ok.ok h15).1 (star1 s1) (star1 s2) (star1 s3) (sw_par3 hbk hx hy hz n1 n2 x1 x2 x3 s1 s2 s3 h10 h11) rfl
    · cases h
  | .augi o i b c, W, X, st, ok, h => by
    simp only [mS] at h
    split at h
    · rename_i p q q' o' e pos
      simp only [Bool.and_eq_true] at h
      obtain ⟨⟨⟨⟨⟨h1, h2⟩, h3⟩, h4⟩, h5⟩, h6⟩ := h
      have := opB_of h1
      subst this
      exact x_augi h2 ok.ok.k (sE o sc X p ok.ok h4).1 (sE i sc X q ok.ok h5).1 (sE c sc X e ok.ok h6).1 (fun ov iv new => by cases q <;> first | rfl | cases h3)
    · cases h
  | .aug i o c, W, X, st, ok, h => by
    simp only [mS] at h
    split at h
    · rename_i x p' p e pos
      simp only [Bool.and_eq_true, decide_eq_true_eq] at h
      obtain ⟨⟨⟨⟨h1, h2⟩, h3⟩, h4⟩, h5⟩ := h
      have := opB_of h1
      subst this
      exact x_aug h2 (by rw [ok.ok.n]; exact ok.ok.nd) (by rw [ok.ok.n]; exact h3) (by rw [ok.ok.sc]; exact loc_of h4) (sE c sc X e ok.ok h5).1 (.inl (ok.f1 x))
    · cases h
  | .seti o i c, W, X, st, ok, h => by
    simp only [mS] at h
    split at h
    · rename_i p q p' e pos
      simp only [Bool.and_eq_true] at h
      obtain ⟨⟨⟨h1, h3⟩, h4⟩, h5⟩ := h
      exact x_seti ok.ok.units (sE o sc X p ok.ok h3).1 (sE i sc X q ok.ok h4).1 (sE c sc X e ok.ok h5).1 sw_subs rfl rfl (fun v => by cases q <;> first | rfl | cases h1)
    · cases h
  | .setf o f c, W, X, st, ok, h => by
    simp only [mS] at h
    split at h
    · rename_i p x q e pos
      simp only [Bool.and_eq_true, decide_eq_true_eq] at h
      obtain ⟨⟨⟨h1, h2⟩, h4⟩, h5⟩ := h
      subst h1
      exact x_setf (fun c C hC => ⟨(ok.ok.cl c C hC).1, (ok.ok.cl c C hC).2 f h2⟩) (sE o sc X p ok.ok h4).1 (sE c sc X e ok.ok h5).1 sw_attr
    · cases h
  | .augf o f b c, W, X, st, ok, h => by
    simp only [mS] at h
    split at h
    · rename_i p x q o' e pos
      simp only [Bool.and_eq_true, decide_eq_true_eq] at h
      obtain ⟨⟨⟨⟨⟨h1, h2⟩, h3⟩, h4⟩, h5⟩, h6⟩ := h
      subst h1
      have := opB_of h3
      subst this
      exact x_augf h4 (fun c C hC => ⟨(ok.ok.cl c C hC).1, (ok.ok.cl c C hC).2 f h2⟩) (sE o sc X p ok.ok h5).1 (sE c sc X e ok.ok h6).1
    · cases h
  | .exp c, W, X, st, ok, h => by
    simp only [mS] at h
    split at h
    · simp only [Bool.and_eq_true] at h
      exact x_exp (sE c sc X _ ok.ok h.2).1 (sw_no h.1)
    · cases h
  | .ret c, W, X, st, ok, h => by
    simp only [mS] at h
    split at h
    · exact x_ret (sE c sc X _ ok.ok h).1
    · cases h
  | .retn, W, X, st, ok, h => by
    simp only [mS] at h
    split at h
    · exact x_retn
    · cases h
  | .ite c a b, W, X, st, ok, h => by
    simp only [mS] at h
    split at h
    · simp only [Bool.and_eq_true] at h
      obtain ⟨⟨⟨h1, h2⟩, h3⟩, h4⟩ := h
      exact x_ite ((sE c sc X _ ok.ok h1).2 h2) (sSs a W X _ ok h3) (sSs b W X _ ok h4)
    · cases h
  | .for tg it b, W, X, st, ok, h => by
    simp only [mS] at h
    split at h
    · simp only [Bool.and_eq_true] at h
      obtain ⟨⟨⟨h1, h2⟩, h3⟩, h4⟩ := h
      exact x_for ok.hp ok.ok.calm (sI it sc X _ _ ok.ok h3) (pg_tg ok h1) (sSs b W X _ ok h4) (set_no h2)
    · cases h
  | .whl c b, W, X, st, ok, h => by
    simp only [mS] at h
    split at h
    · simp only [Bool.and_eq_true] at h
      obtain ⟨⟨h1, h2⟩, h3⟩ := h
      exact x_whl ok.hp ((sE c sc X _ ok.ok h1).2 h2) (sSs b W X _ ok h3)
    · cases h
  | .brk, W, X, st, ok, h => by
    simp only [mS] at h
    split at h
    · exact x_brk
    · cases h
  | .cnt, W, X, st, ok, h => by
    simp only [mS] at h
    split at h
    · exact x_cnt
    · cases h
  | .pas, W, X, st, ok, h => by
    simp only [mS] at h
    split at h
    · exact x_pas
    · cases h
  | .rse _, W, X, st, ok, h => x_rse
  | .rz c, W, X, st, ok, h => by
    simp only [mS] at h
    split at h
    · simp only [Bool.and_eq_true, decide_eq_true_eq] at h
      obtain ⟨⟨⟨h1, h2⟩, h3⟩, h4⟩ := h
      subst h1
      exact x_rz (et := sg.et) ok.ok.k (by rw [ok.ok.gec]; exact ok.ok.xf) (by rw [ok.ok.gec]; exact h4) ok.ok.calm ok.tk (glb_of ok.ok h2) (nodb_of h3).1
    · cases h
  | .xexp x, W, X, st, ok, h => by
    simp only [mS] at h
    split at h
    · simp only [Bool.and_eq_true] at h
      exact x_xexp (sX ok h.2) (sw_no h.1)
    · cases h
  | .xasg i x, W, X, st, ok, h => by
    simp only [mS] at h
    split at h
    · rename_i y py e pos
      simp only [Bool.and_eq_true, decide_eq_true_eq] at h
      obtain ⟨⟨⟨h1, h2⟩, h3⟩, h4⟩ := h
      exact x_xasg (by rw [ok.ok.n]; exact ok.ok.nd) (by rw [ok.ok.n]; exact h1) (by rw [ok.ok.sc]; exact loc_of h2) (sX ok h4) (sw_no h3) (.inl (ok.f1 y))
    · cases h
  | .xret x, W, X, st, ok, h => by
    simp only [mS] at h
    split at h
    · exact x_xret (sX ok h)
    · cases h
  | .xsetf o f x, W, X, st, ok, h => by
    simp only [mS] at h
    split at h
    · rename_i p y q e pos
      simp only [Bool.and_eq_true, decide_eq_true_eq] at h
      obtain ⟨⟨⟨h1, h2⟩, h4⟩, h5⟩ := h
      subst h1
      exact x_xsetf (fun c C hC => ⟨(ok.ok.cl c C hC).1, (ok.ok.cl c C hC).2 f h2⟩) (sE o sc X p ok.ok h4).1 (sX ok h5) sw_attr
    · cases h
  | .tryc b t i j, W, X, st, ok, h => by
    simp only [mS] at h
    split at h
    · rename_i body x np n m pm n' pn pa pos' pos
      simp only [Bool.and_eq_true, decide_eq_true_eq] at h
      obtain ⟨⟨⟨⟨⟨⟨⟨⟨⟨⟨⟨h1, h2⟩, h3⟩, h4⟩, h5⟩, h6⟩, h7⟩, h8⟩, h9⟩, h10⟩, h11⟩, h12⟩ := h
      subst h1 h7
      have hx := nodb_of h4
      have hn := nodb_of h11
      have hc : Names X (Str.ofString t) (uE X.K t) := by
        refine ⟨glb_of ok.ok h3, hx.1, ?_⟩
        by_cases ht : t = "ValueError"
        · subst ht
          refine .inr ⟨ok.ok.xf.vm h2, ?_, hx.2.2⟩
          unfold uE
          rw [if_pos rfl]
          exact PyProof.Rows.ExcClass.boot PyProof.Rows.excClass_ValueError
        · rcases ok.ok.xf.tg t h2 with z | ⟨T, k1, k2⟩
          · exact absurd z ht
          · refine .inl ?_
            unfold uE
            rw [if_neg ht, k1]
            exact k2
      exact x_try (et := sg.et) ok.ok.k (by rw [ok.ok.gec]; exact ok.ok.xf) h2 ok.hs ok.hf ok.hex (by rw [ok.ok.n]; exact ok.ok.nd) (by rw [ok.ok.n]; exact h5) (show X.env.scope.names.lookup n' = some .local by rw [ok.ok.sc]; exact isLc_of h8)
        (by rw [ok.ok.n]; exact h6) (show X.env.scope.names.lookup m = some .local by rw [ok.ok.sc]; exact isLc_of h9) h10 hc hn.1 hn.2.1 ok.tk fun W' pn xe tk hp => sSs b W' (X.tr pn xe) body (ok.tr tk hp) h12
    · cases h
  | .tryk b t j, W, X, st, ok, h => by
    simp only [mS] at h
    split at h
    · rename_i body x np m pm k2 p2 pa pos' pos
      simp only [Bool.and_eq_true, decide_eq_true_eq] at h
      obtain ⟨⟨⟨⟨⟨⟨h1, h2⟩, h3⟩, h4⟩, h6⟩, h9⟩, h12⟩ := h
      subst h1
      have hx := nodb_of h4
      have hc : Names X (Str.ofString t) (uE X.K t) := by
        refine ⟨glb_of ok.ok h3, hx.1, ?_⟩
        by_cases ht : t = "ValueError"
        · subst ht
          refine .inr ⟨ok.ok.xf.vm h2, ?_, hx.2.2⟩
          unfold uE
          rw [if_pos rfl]
          exact PyProof.Rows.ExcClass.boot PyProof.Rows.excClass_ValueError
        · rcases ok.ok.xf.tg t h2 with z | ⟨T, k1, k2⟩
          · exact absurd z ht
          · refine .inl ?_
            unfold uE
            rw [if_neg ht, k1]
            exact k2
      exact x_trk (et := sg.et) ok.ok.k (by rw [ok.ok.gec]; exact ok.ok.xf) h2 ok.hs ok.hf (by rw [ok.ok.n]; exact ok.ok.nd) (by rw [ok.ok.n]; exact h6) (by rw [ok.ok.sc]; exact loc_of h9) (.inl (ok.f1 m)) hc ok.tk fun W' pn xe tk hp => sSs b W' (X.tr pn xe) body (ok.tr tk hp) h12
    · cases h
  | .tryh b t i hs, W, X, st, ok, h => by
    simp only [mS] at h
    split at h
    · rename_i body x np n b0 suite pos' pos
      simp only [Bool.and_eq_true, decide_eq_true_eq] at h
      obtain ⟨⟨⟨⟨⟨⟨⟨⟨h1, h2⟩, h3⟩, h4⟩, h5⟩, h6⟩, h7⟩, h8⟩, h9⟩ := h
      subst h1
      have hx := nodb_of h4
      have hc : Names X (Str.ofString t) (uE X.K t) := by
        refine ⟨glb_of ok.ok h3, hx.1, ?_⟩
        by_cases ht : t = "ValueError"
        · subst ht
          refine .inr ⟨ok.ok.xf.vm h2, ?_, hx.2.2⟩
          unfold uE
          rw [if_pos rfl]
          exact PyProof.Rows.ExcClass.boot PyProof.Rows.excClass_ValueError
        · rcases ok.ok.xf.tg t h2 with z | ⟨T, k1, k2⟩
          · exact absurd z ht
          · refine .inl ?_
            unfold uE
            rw [if_neg ht, k1]
            exact k2
      exact x_tryh ok.ok ok.f1 h2 ok.hs ok.hf h5 h6 h7 hc ok.tk h8 fun W' pn xe tk hp => sSs b W' (X.tr pn xe) body (ok.tr tk hp) h9
    · cases h
theorem sSs : ∀ (c : Cs) (W : WZ) (X : Cx) (ss : List Stmt), OkS sg G cf N sc W X → mSs sg N sc c ss = true → PSs X ss (rSs G W cf c)
  | .nil, W, X, [], ok, h => x_nil
  | .nil, W, X, _ :: _, ok, h => by simp only [mSs] at h; cases h
  | .cons c r, W, X, [], ok, h => by simp only [mSs] at h; cases h
  | .cons c r, W, X, s :: ss, ok, h => by
    simp only [mSs, Bool.and_eq_true] at h
    exact x_cons (sS c W X s ok h.1) (sSs r W X ss ok h.2)
end
end
theorem start_sr {φ : Mp} {s : S} {H : Hp} {ds : List D} {vs : List V} {N : List Str} {np : Nat} (r : RepL φ s H ds vs) (hn : ds.length = np) (hl : np ≤ N.length) : SR φ s H (ds.map some ++ List.replicate (N.length - np) none) (L2.start N vs) := by
  have hv := r.length
  refine ⟨?_, fun i d e => ?_⟩
  · unfold L2.start
    rw [List.length_append, List.length_append, List.length_map, List.length_map, List.length_replicate, List.length_replicate]
    omega
  · by_cases hi : i < ds.length
    · rw [List.getElem?_append_left (by simpa using hi), List.getElem?_map] at e
      cases hd : ds[i]? with
      | none =>
        rw [hd] at e
        cases e
      | some x =>
        rw [hd] at e
        cases e
        obtain ⟨v, h1, h2⟩ := r.get hd
        refine ⟨v, ?_, h2⟩
        unfold L2.start
        rw [List.getElem?_append_left (by rw [List.length_map]; omega), List.getElem?_map, h1]
        rfl
    · rw [List.getElem?_append_right (by simpa using hi), List.getElem?_replicate] at e
      split at e <;> cases e
theorem callF_len {Pg : Prg} {k : Nat} {c f : String} {F : Fn} (h : Pg c f = some F) {ds : List D} {s : S} {q : Rs D × S} (e : callF Pg k c f ds s = some q) : ds.length = F.np := by
  cases k with
  | zero => cases e
  | succ k =>
    simp only [callF, h] at e
    unfold fnRun at e
    split at e
    · assumption
    · cases e
def qual (c f : String) : String := if c = "" then f else c ++ "." ++ f
/-- where a def or a method stands -/
def AtF (K : PySem.W.Frag) (mg : Str → Option Value) (cls : String → Option Addr) (c f : String) (a : Addr) : Prop :=
  (c = "" ∧ mg (Str.ofString f) = some (.ref a)) ∨ (c ≠ "" ∧ ∃ C, cls c = some C ∧ Cls K C ∧ Meth K C (Str.ofString f) a)
/-- a def of the text and its core -/
structure FT (sg : Sig) (Pg : Prg) (K : PySem.W.Frag) (mg : Str → Option Value) (cls : String → Option Addr) (c f : String) (np : Nat) : Prop where
  ex : ∃ (a : Addr) (fd : FuncData) (ps N : List Str) (st : Stmt) (F : Fn), AtF K mg cls c f a ∧ (∃ nm ql : Str, Fun K nm ql st a fd) ∧ Binds K fd ps [] ∧ FnScope N ps (defScope st) ∧
    ps.length = np ∧ Pg c f = some F ∧ F.np = np ∧ F.ns = N.length ∧ np ≤ N.length ∧ mSs sg N (defScope st) F.body (defBody st) = true
/-- what the head must show of the text -/
structure TF (sg : Sig) (Pg : Prg) (w : World) (K : PySem.W.Frag) (mg : Str → Option Value) (cls : String → Option Addr) (fa : Addr) : Prop where
  fn : ∀ c f n, (c, f, n) ∈ sg.fn → FT sg Pg K mg cls c f n
  gs : ∀ f v, (f, v) ∈ sg.gs → ∃ t, mg (Str.ofString f) = some (.str ⟨v.toArray⟩ t)
  gi : ∀ f v, (f, v) ∈ sg.gi → ∃ t, mg (Str.ofString f) = some (.int v t)
  bl : ∀ x ∈ bnames, mg (Str.ofString x) = none
  ds : ∀ f t, (f, t) ∈ sg.ds → DsAt K w mg f t
  pg : ∀ c m F, Pg c m = some F → (c, m, F.np) ∈ sg.fn
  cl : ∀ c C, cls c = some C → Cls K C ∧ ∀ f ∈ sg.fl, NoAttr K C (Str.ofString f)
  mkk : ∀ c ∈ sg.cl, ∃ C n, cls c = some C ∧ mg (Str.ofString c) = some (.ref C) ∧ PySem.W.makesIn K C = true ∧ PySem.W.keepIn K (.ref C) = true ∧ c ≠ "" ∧ (c, "__init__", n) ∈ sg.fn
  xf : XFacts sg.ec sg.et K mg
  law : ∃ (fd : FuncData) (N : List Str) (st : Stmt) (F : Fn), Fun K "law" "law" st fa fd ∧ FnScope N ["script"] (defScope st) ∧ Pg "" "law" = some F ∧ F.np = 1 ∧ F.ns = N.length ∧ 1 ≤ N.length ∧ mSs sg N (defScope st) F.body (defBody st) = true ∧
    ∀ u : Value, bindArgs fd ⟨[u], []⟩ = pure [(("script" : Str), u)]
section
variable {P : Program} {w : World} {K : PySem.W.Frag} {mg : Str → Option Value} {base : Heap} {sg : Sig} {Pg : Prg} {cls : String → Option Addr} {fa : Addr}
theorem fn_ok {nm ql : Str} {c f : String} {np k : Nat} {a : Addr} {fd : FuncData} {ps N : List Str} {st : Stmt} {F : Fn} (T : TF sg Pg w K mg cls fa)
    (hF : Fun K nm ql st a fd) (S : FnScope N ps (defScope st)) (hps : ps.length = np) (hPg : Pg c f = some F) (hnp : F.np = np) (hns : F.ns = N.length) (hle : np ≤ N.length) (hm : mSs sg N (defScope st) F.body (defBody st) = true)
    (ih : ∀ c g n, (c, g, n) ∈ sg.fn → ∃ (a : Addr) (fd : FuncData) (ps : List Str), AtF K mg cls c g a ∧ PySem.W.keepIn K (.ref a) = true ∧ Binds K fd ps [] ∧ ps.length = n ∧ FnG P w K mg base (L2.CX P w) (2 * k) a fd ps (spX ⟨K, cls, sg.ec⟩ (callF Pg k c g) n)) :
    FnG P w K mg base (L2.CX P w) (2 * (k + 1)) a fd ps (spX ⟨K, cls, sg.ec⟩ (callF Pg (k + 1) c f) np) := by
  have hlen : ∀ c g n, (c, g, n) ∈ sg.fn → ∀ ds s q, callF Pg k c g ds s = some q → ds.length = n := fun c g n hg ds s q e => by
    obtain ⟨_, _, _, _, _, F', _, _, _, _, _, e1, e2, _⟩ := (T.fn c g n hg).ex
    rw [← e2]
    exact callF_len e1 e
  refine fn_g hF S (k := 2 * k + 1) (fun vs H Q E h => by rw [hps]; exact h.1) fun cdv A outer s H vs Q E hr h => ?_
  have hr0 : RmG (2 * k) _ := hr.mono (Nat.le_succ _)
  have fx : ∀ g n, ("", g, n) ∈ sg.fn → FnAtX ⟨K, cls, sg.ec⟩ (cxOf (L2.CX P w) P w K mg base N ql (defScope st) a cdv A outer s H E) (Str.ofString g) (callF Pg k "" g) n := fun g n hgn => by
    obtain ⟨a, fd, ps, h1, h2, h3, h4, h5⟩ := ih "" g n hgn
    rcases h1 with ⟨_, h1⟩ | ⟨h1, _⟩
    · exact ⟨⟨a, fd, ps, 2 * k, h1, h2, h3, hr0, h4, h5⟩, hlen "" g n hgn⟩
    · exact absurd rfl h1
  have mx : ∀ c m, c ≠ "" → ∀ ds s1 q, callF Pg k c m ds s1 = some q → ∃ C n, cls c = some C ∧ Cls K C ∧ MtAtX ⟨K, cls, sg.ec⟩ (cxOf (L2.CX P w) P w K mg base N ql (defScope st) a cdv A outer s H E) C (Str.ofString m) (callF Pg k c m) n := fun c m hc ds s1 q e => by
    have hF' : ∃ F', Pg c m = some F' := by
      cases hk : Pg c m with
      | some F' => exact ⟨F', rfl⟩
      | none =>
        cases k with
        | zero => cases e
        | succ k =>
          simp only [callF, hk] at e
          cases e
    obtain ⟨F', hF'⟩ := hF'
    have hg := T.pg c m F' hF'
    obtain ⟨a, fd, ps, h1, h2, h3, h4, h5⟩ := ih c m _ hg
    rcases h1 with ⟨h1, _⟩ | ⟨_, C, k1, k2, k3⟩
    · exact absurd h1 hc
    · exact ⟨C, _, k1, k2, ⟨a, fd, ps, 2 * k, k3, h3, hr0, h4, h5⟩, hlen c m _ hg⟩
  refine ⟨rSs ⟨K, cls, sg.ec⟩ (fun c _ H' => ∀ C, c ∈ sg.ec → eclK K c = some C → E (.ref C) none H') (callF Pg k) F.body, sSs (sg := sg) (N := N) (sc := defScope st) F.body _ _ (defBody st) ⟨⟨rfl, S.nd, rfl, rfl, rfl, hr.un, hr.gd, T.gs, T.gi, T.bl, T.ds, fun g n hgn => (fx g n hgn).plain, fun c m hc ds s q e => ?_, T.cl, fun c hc => ?_, rfl, T.xf⟩, passes_of rfl, fun _ => rfl, (takes_of rfl rfl rfl rfl).imp fun cls' d σ' H' hw => ?_, rfl, rfl, rfl, fx, mx⟩ hm, ?_⟩
  · obtain ⟨C, n, k1, k2, k3⟩ := mx c m hc ds s q e
    exact ⟨C, n, k1, k2, k3.plain⟩
  · obtain ⟨C, n, k1, k2, k3, k4, k5, k6⟩ := T.mkk c hc
    obtain ⟨a, fd, ps, h1, h2, h3, h4, h5⟩ := ih c "__init__" n k6
    rcases h1 with ⟨h1, _⟩ | ⟨_, C', j1, j2, j3⟩
    · exact absurd h1 k5
    · rw [k1] at j1
      cases j1
      exact ⟨C, n, k1, ⟨a, fd, ps, 2 * k, ⟨k3, j3.at_, j3.fn, k4⟩, k2, h3, hr, h4, toCX0 h5⟩, fun ds s d s' e => hlen c "__init__" n k6 ds s _ e⟩
  · obtain ⟨c, C, h1, h2, rfl, rfl, h3⟩ := hw
    exact h3 C h1 h2
  · obtain ⟨hl, φ, s0, ds, hH, rl, h⟩ := h
    have hlen := rl.length
    have run : ∀ q, callF Pg (k + 1) c f ds s0 = some q → ∃ fl r' s1, exs (callF Pg k) F.body (ds.map some ++ List.replicate (N.length - np) none) s0 = some (.ok (fl, r'), s1) ∧ (match fl with
        | .rt d => some (Rs.ok d, s1)
        | .nx => some (Rs.ok .non, s1)
        | .rz c => some (Rs.er c, s1)
        | _ => none) = some q := fun q e => by
      simp only [callF, hPg] at e
      unfold fnRun at e
      rw [if_pos (by rw [hnp]; omega)] at e
      obtain ⟨⟨fl, r'⟩, s1, e1, e⟩ := bnn_inv e
      rw [hns, hnp] at e1
      refine ⟨fl, r', s1, e1, ?_⟩
      cases fl <;> exact e
    rcases h with ⟨d, s', e, p⟩ | ⟨cn, s', e, p⟩
    · obtain ⟨fl, r', s1, e1, e⟩ := run _ e
      refine ⟨φ, s0, _, ⟨hH, start_sr rl (by omega) hle⟩, fl, r', s1, e1, fun φ' H' σ' g hr' sr' => ?_⟩
      cases fl with
      | nx =>
        cases e
        exact p φ' H' _ g hr' (by simp only [Rep])
      | rt v =>
        cases e
        exact fun u ru => p φ' H' u g hr' ru
      | bk => cases e
      | ct => cases e
      | rz c => cases e
    · obtain ⟨fl, r', s1, e1, e⟩ := run _ e
      refine ⟨φ, s0, _, ⟨hH, start_sr rl (by omega) hle⟩, fl, r', s1, e1, fun φ' H' σ' g hr' sr' => ?_⟩
      cases fl with
      | nx => cases e
      | rt v => cases e
      | bk => cases e
      | ct => cases e
      | rz c =>
        cases e
        exact fun C hc hC => p φ' H' C g hr' hc hC
theorem all_ok (T : TF sg Pg w K mg cls fa) :
    ∀ (k : Nat) (c f : String) (n : Nat), (c, f, n) ∈ sg.fn → ∃ (a : Addr) (fd : FuncData) (ps : List Str), AtF K mg cls c f a ∧ PySem.W.keepIn K (.ref a) = true ∧ Binds K fd ps [] ∧ ps.length = n ∧ FnG P w K mg base (L2.CX P w) (2 * k) a fd ps (spX ⟨K, cls, sg.ec⟩ (callF Pg k c f) n)
  | 0, c, f, n, h => by
    obtain ⟨a, fd, ps, N, st, F, h1, ⟨nm, ql, h2⟩, h3, h4, h5, h6, h7, h8, h9, h10⟩ := (T.fn c f n h).ex
    refine ⟨a, fd, ps, h1, h2.kp, h3, h5, fun vs H Q E q => by rw [h5]; exact q.1, fun A outer s H args us vs Q E _ _ _ _ q => ?_⟩
    obtain ⟨_, _, _, _, _, _, ⟨_, _, e, _⟩ | ⟨_, _, e, _⟩⟩ := q
    · cases e
    · cases e
  | k + 1, c, f, n, h => by
    obtain ⟨a, fd, ps, N, st, F, h1, ⟨nm, ql, h2⟩, h3, h4, h5, h6, h7, h8, h9, h10⟩ := (T.fn c f n h).ex
    exact ⟨a, fd, ps, h1, h2.kp, h3, h5, fn_ok T h2 h4 h5 h6 h7 h8 h9 h10 fun c g m hg => all_ok T k c g m hg⟩
/-- the law's promise -/
def spL (K : PySem.W.Frag) : Sp := fun vs H Q _ => ∃ (a : Addr) (ns : List Int), vs = [.ref a] ∧ ns.length ≤ 63 ∧ SqL K H a (ns.map V.int) ∧ ∀ H', Q (.bl true) H'
/-- at the law's entry -/
theorem sp_law {f : List D → S → R D} (hf : ∀ ns : List Int, ns.length ≤ 63 → ∃ s', f [.scr (ns.map D.int)] ⟨fun _ => none, 0⟩ = some (.ok (.bl true), s')) {vs : List V} {H : Hp} {Q : VK} {E : XK} (h : spL K vs H Q E) : spF ⟨K, cls, sg.ec⟩ f 1 vs H Q E := by
  obtain ⟨a, ns, rfl, hn, hS, q⟩ := h
  obtain ⟨s', hf⟩ := hf ns hn
  refine ⟨rfl, ⟨fun _ => none, fun _ => False, K⟩, ⟨fun _ => none, 0⟩, [.scr (ns.map D.int)], ⟨fun n o e => (by cases e), fun n m a e => (by cases e), fun n a e => (by cases e), fun a e => False.elim e, fun n a e => (by cases e), rfl⟩, ?_, .bl true, s', hf, fun φ' H' v g h r => ?_⟩
  · refine RepL.one ?_
    simp only [Rep]
    refine ⟨a, ns.map V.int, rfl, ?_, ?_⟩
    · rcases hS with hS | hS
      · exact .inl ⟨hS, fun z => False.elim z, fun n e => (by cases e)⟩
      · exact .inr hS
    · have go : ∀ l : List Int, RepL ⟨fun _ => none, fun _ => False, K⟩ ⟨fun _ => none, 0⟩ H (l.map D.int) (l.map V.int) := fun l => by
        induction l with
        | nil => exact RepL.nil
        | cons n l ih =>
          rw [List.map_cons, List.map_cons]
          simp only [RepL]
          exact ⟨_, _, rfl, by simp only [Rep], ih⟩
      exact go ns
  · simp only [Rep] at r
    subst r
    exact q H'
/-- THE END -/
theorem walk_law {l : PySem.W.OpenLaw} {q : Program} {loose : List Str} {XP : (Str → Option Value) → Heap → Prop} {YP : World → Heap → Prop} {d : DefRec} {K : Params → PySem.W.Frag} (sg : Sig) (Pg : Prg) (k : Nat) (hk : k < 30) (hn : l.most = some 63) (hdf : d.params.defaults = [])
    (hY : ∀ (w : World) (h : Heap), YP w h → (K w.params).In h)
    (T : ∀ (w : World) (mg : Str → Option Value) (fa : Addr) (h : Heap), (K w.params).In h → h.Ns mainGlobals mg → mg d.name = some (.ref fa) → ∃ cls, TF sg Pg w (K w.params) mg cls fa)
    (hlaw : ∀ ns : List Int, ns.length ≤ 63 → ∃ s', callF Pg (k + 1) "" "law" [.scr (ns.map D.int)] ⟨fun _ => none, 0⟩ = some (.ok (.bl true), s')) :
    PySem.W.WalkO q loose XP YP l.row.toRowW d [] (fun f vs => PySem.call f vs) := by
  refine walk_g (n := 63) (k := 2 * (k + 1)) (x := "script") (CX := CX0) (sp := spL) hn (by decide) hdf ⟨⟨rfl, ?_, ?_⟩, rfl, ?_⟩ hY (fun w mg fa h KX G hmg => ?_) (fun w H a ns hl hS => ⟨a, ns, rfl, hl, hS, fun _ => rfl⟩) fun _ _ _ _ z => z
  · have e : callerA.depth + 300 < recursionLimit := by decide
    omega
  · have e : callerA.units + 1500 < cLine := by decide
    omega
  · have e : callerA.units + 6000 < cLine := by decide
    omega
  · obtain ⟨cls, TT⟩ := T w mg fa h KX G hmg
    obtain ⟨fd, N, st, F, h1, h2, h3, h4, h5, h6, h7, h8⟩ := TT.law
    refine ⟨fd, fun s u => .of_eq (h8 u), fun base => ?_⟩
    exact (toCX0 (fn_ok (c := "") (f := "law") TT h1 h2 rfl h3 h4 h5 h6 h7 fun c g n hg => all_ok TT k c g n hg)).imp fun vs H Q E z => sp_law hlaw z
end
/-- a def that the head has found -/
structure Fx (K : PySem.W.Frag) (f g : Str) (st : Stmt) (a : Addr) : Prop where
  ex : ∃ (oc : Value) (od an : Option Addr) (sl : Array (Option Value)) (kV dc pm cd ct : Value), PySem.W.nsIn K mainGlobals f = some (some (.ref a)) ∧ K.lookup a = some ⟨oc, od, .func (PySem.W.fnOf g g (defArgs st) (defBody st) (defScope st) .none kV dc pm an cd ct), sl⟩ ∧ PySem.W.codeIn K cd g = true ∧ PySem.W.keepIn K (.ref a) = true
theorem fx_mk {K : PySem.W.Frag} {f g : Str} {st : Stmt} {a : Addr} {oc : Value} {od an : Option Addr} {sl : Array (Option Value)} {kV dc pm cd ct : Value} (h1 : PySem.W.nsIn K mainGlobals f = some (some (.ref a))) (h2 : K.lookup a = some ⟨oc, od, .func (PySem.W.fnOf g g (defArgs st) (defBody st) (defScope st) .none kV dc pm an cd ct), sl⟩)
    (h3 : PySem.W.codeIn K cd g = true) (h4 : PySem.W.keepIn K (.ref a) = true) : Fx K f g st a := ⟨⟨oc, od, an, sl, kV, dc, pm, cd, ct, h1, h2, h3, h4⟩⟩
theorem fx_k {K : PySem.W.Frag} {h : Heap} {f g : Str} {st : Stmt} {a : Addr} {oc : Value} {od an : Option Addr} {sl : Array (Option Value)} {kV dc pm cd ct : Value} {Goal : Prop} (_ : K.In h) (h1 : PySem.W.nsIn K mainGlobals f = some (some (.ref a))) (h2 : K.lookup a = some ⟨oc, od, .func (PySem.W.fnOf g g (defArgs st) (defBody st) (defScope st) .none kV dc pm an cd ct), sl⟩)
    (h3 : PySem.W.codeIn K cd g = true) (h4 : PySem.W.keepIn K (.ref a) = true) (k : ∀ a, Fx K f g st a → Goal) : Goal := k a (fx_mk h1 h2 h3 h4)
theorem gs_k {K : PySem.W.Frag} {h : Heap} {f v : Str} {t : Tok} {Goal : Prop} (_ : K.In h) (h1 : PySem.W.nsIn K mainGlobals f = some (some (.str v t))) (k : ∀ t, PySem.W.nsIn K mainGlobals f = some (some (.str v t)) → Goal) : Goal := k t h1
theorem gi_k {K : PySem.W.Frag} {h : Heap} {f : Str} {v : Int} {t : Tok} {Goal : Prop} (_ : K.In h) (h1 : PySem.W.nsIn K mainGlobals f = some (some (.int v t))) (k : ∀ t, PySem.W.nsIn K mainGlobals f = some (some (.int v t)) → Goal) : Goal := k t h1
/-- a dict of the text that the head has found -/
structure Dx (K : PySem.W.Frag) (w : World) (f : Str) (t : List (List Nat × Int)) (a : Addr) : Prop where
  ex : ∃ (es : Array DictEntry) (n : Nat), PySem.W.nsIn K mainGlobals f = some (some (.ref a)) ∧ KDict K w a es n ∧ entR es.toList t
theorem ds_k {K : PySem.W.Frag} {h : Heap} {w : World} {f : Str} {a : Addr} {es : List DictEntry} {n : Nat} {t : List (List Nat × Int)} {Goal : Prop} (_ : K.In h) (h1 : PySem.W.nsIn K mainGlobals f = some (some (.ref a))) (h2 : K.lookup a = some ⟨.type "dict", none, .dict es.toArray n, #[]⟩)
    (h3 : PySem.W.KeysLit w.params es) (h4 : (a == sysModules) = false) (h5 : entR es t) (k : ∀ a, Dx K w f t a → Goal) : Goal := k a ⟨⟨es.toArray, n, h1, ⟨h2, by rw [List.toList_toArray]; exact h3, h4⟩, by rw [List.toList_toArray]; exact h5⟩⟩
/-- a class that the head has found -/
structure Cx1 (K : PySem.W.Frag) (c : Str) (C : Addr) : Prop where
  at_ : PySem.W.nsIn K mainGlobals c = some (some (.ref C))
  cl : Cls K C
  mks : PySem.W.makesIn K C = true
  kp : PySem.W.keepIn K (.ref C) = true
theorem cx_k {K : PySem.W.Frag} {h : Heap} {c : Str} {C : Addr} {Goal : Prop} (_ : K.In h) (h1 : PySem.W.nsIn K mainGlobals c = some (some (.ref C))) (pg : PySem.W.plainGet K C Str.empty = true) (hd : PySem.W.hasDictIn K C = true) (po : PySem.W.plainOver K C = true)
    (sa : PySem.W.findIn K (.ref C) "__setattr__" = some (some (.builtin "object.__setattr__"))) (mk : PySem.W.makesIn K C = true) (kc : PySem.W.keepIn K (.ref C) = true) (k : Cx1 K c C → Goal) : Goal := k ⟨h1, ⟨pg, hd, po, sa⟩, mk, kc⟩
/-- a method that the head has found -/
structure Mx (K : PySem.W.Frag) (C : Addr) (f q : Str) (st : Stmt) (a : Addr) : Prop where
  ex : ∃ (oc : Value) (od an : Option Addr) (sl : Array (Option Value)) (kV dc pm cd ct : Value), Meth K C f a ∧ K.lookup a = some ⟨oc, od, .func (PySem.W.fnOf f q (defArgs st) (defBody st) (defScope st) .none kV dc pm an cd ct), sl⟩ ∧ PySem.W.codeIn K cd q = true
theorem mx_k {K : PySem.W.Frag} {c : Str} {C : Addr} {f q : Str} {st : Stmt} {a : Addr} {oc : Value} {od an : Option Addr} {sl : Array (Option Value)} {kV dc pm cd ct : Value} {Goal : Prop} (_ : Cx1 K c C) (h1 : PySem.W.findIn K (.ref C) f = some (some (.ref a))) (h2 : PySem.W.isFn K (.ref a) = true) (h3 : K.lookup a = some ⟨oc, od, .func (PySem.W.fnOf f q (defArgs st) (defBody st) (defScope st) .none kV dc pm an cd ct), sl⟩)
    (h4 : PySem.W.codeIn K cd q = true) (h5 : PySem.W.keepIn K (.ref a) = true) (k : ∀ a, Mx K C f q st a → Goal) : Goal := k a ⟨⟨oc, od, an, sl, kV, dc, pm, cd, ct, ⟨h1, h2, h5⟩, h3, h4⟩⟩
theorem na_k {K : PySem.W.Frag} {c : Str} {C : Addr} {f : Str} {Goal : Prop} (_ : Cx1 K c C) (h1 : PySem.W.findIn K (.ref C) f = some none) (k : NoAttr K C f → Goal) : Goal := k h1
theorem look_mem {α β : Type} [BEq α] [LawfulBEq α] {a : α} {b : β} : ∀ {l : List (α × β)}, l.lookup a = some b → (a, b) ∈ l
  | [], h => by cases h
  | (x, y) :: l, h => by
    rw [List.lookup_cons] at h
    cases hb : (a == x) with
    | true =>
      rw [hb] at h
      cases h
      have := beq_iff_eq.mp hb
      subst this
      exact List.mem_cons_self
    | false =>
      rw [hb] at h
      exact List.mem_cons_of_mem _ (look_mem h)
theorem pg_of {tbl : List ((String × String) × Fn)} {fn : List (String × String × Nat)} (h : (tbl.all fun p => fn.contains (p.1.1, p.1.2, p.2.np)) = true) : ∀ c m F, tbl.lookup (c, m) = some F → (c, m, F.np) ∈ fn := fun c m F e => by
  have := List.all_eq_true.mp h _ (look_mem e)
  exact List.contains_iff_mem.mp this
structure Ex1 (K : PySem.W.Frag) (c : Str) (C : Addr) : Prop where
  at_ : PySem.W.nsIn K mainGlobals c = some (some (.ref C))
  ex : PySem.W.excIn K C HandSPX.veTail "ValueError.__new__" = true
  kp : PySem.W.keepIn K (.ref C) = true
  sb : PySem.W.subIn K (.ref C) (.type "BaseException") = some true
  ty : PySem.W.typeIn K (.ref C) = some (.type "type")
  xc : ExcC K C
theorem ex_k {K : PySem.W.Frag} {h : Heap} {c : Str} {C : Addr} {Goal : Prop} (_ : K.In h) (h1 : PySem.W.nsIn K mainGlobals c = some (some (.ref C))) (h2 : PySem.W.excIn K C [.type "ValueError", .type "Exception", .type "BaseException", .type "object"] "ValueError.__new__" = true) (h3 : PySem.W.keepIn K (.ref C) = true) (h4 : PySem.W.typeIn K (.ref C) = some (.type "type"))
    (hg : PySem.W.findIn K (.ref C) "__getattribute__" = some (some (.builtin "BaseException.__getattribute__"))) (hk : PySem.W.findIn K (.ref C) "__getattr__" = some none) (hs : PySem.W.subIn K (.ref C) (.type "BaseException") = some true) (hd : PySem.W.hasDictIn K C = true)
    (ha : PySem.W.findIn K (.ref C) "__class__" = some (some (.builtin "object.__class__"))) (hn : PySem.W.specialIn K (.builtin "object.__class__") "__get__" = some (some (.builtin "getset_descriptor.__get__"))) (ht : PySem.W.takesIn K (.builtin "object.__class__") = some true) (hm : PySem.W.mroIn K C (.type "object") = some true)
    (k : Ex1 K c C → Goal) : Goal := k ⟨h1, h2, h3, hs, h4, ⟨hg, hk, hs, hd, ha, hn, ht, hm⟩⟩
/-- a class that a test names -/
structure Et1 (K : PySem.W.Frag) (c : Str) (C : Addr) : Prop where
  at_ : PySem.W.nsIn K mainGlobals c = some (some (.ref C))
  ic : PySem.W.isClsIn K C = true
  ty : PySem.W.typeIn K (.ref C) = some (.type "type")
  sb : PySem.W.subIn K (.ref C) (.type "BaseException") = some true
theorem et_k {K : PySem.W.Frag} {h : Heap} {f : Str} {T : Addr} {Goal : Prop} (_ : K.In h) (h1 : PySem.W.nsIn K mainGlobals f = some (some (.ref T))) (h2 : PySem.W.isClsIn K T = true) (h3 : PySem.W.typeIn K (.ref T) = some (.type "type")) (h4 : PySem.W.subIn K (.ref T) (.type "BaseException") = some true) (k : Et1 K f T → Goal) : Goal := k ⟨h1, h2, h3, h4⟩
theorem nn_k {K : PySem.W.Frag} {h : Heap} {f : Str} {Goal : Prop} (_ : K.In h) (h1 : PySem.W.nsIn K mainGlobals f = some none) (k : PySem.W.nsIn K mainGlobals f = some none → Goal) : Goal := k h1
theorem ki_k {K : PySem.W.Frag} {c f : Str} {C T : Addr} {b : Bool} {Goal : Prop} (_ : Ex1 K c C) (N : Et1 K f T) (hb : b = true ∨ C ≠ T) (h1 : PySem.W.subIn K (.ref C) (.ref T) = some b)
    (k : PySem.W.kitOne K (.ref C) (.ref T) = some b → PySem.W.exmOne K (.ref C) (.ref T) = some b → Goal) : Goal := by
  have e : PySem.W.kitCls K (.ref C) (.ref T) = some b := by
    unfold PySem.W.kitCls
    have h2 : (PySem.W.clsIn K T).isSome = true := N.ic
    dsimp only
    rw [if_pos (by rw [h2, N.ty]; rfl)]
    exact h1
  refine k ?_ ?_
  · unfold PySem.W.kitOne
    split
    · rename_i z
      rcases hb with rfl | hb
      · rfl
      · exact absurd (Value.ref.inj (beq_iff_eq.mp z)) hb
    · exact e
  · unfold PySem.W.exmOne
    rw [if_pos (by rw [N.sb]; rfl)]
    exact e
theorem kv_k {K : PySem.W.Frag} {c : Str} {C : Addr} {b : Bool} {Goal : Prop} (_ : Ex1 K c C) (h1 : PySem.W.subIn K (.ref C) (.type "ValueError") = some b) (h2 : PySem.W.subIn K (.type "ValueError") (.type "BaseException") = some true)
    (k : PySem.W.kitOne K (.ref C) (.type "ValueError") = some b → PySem.W.exmOne K (.ref C) (.type "ValueError") = some b → Goal) : Goal := by
  have e : PySem.W.kitCls K (.ref C) (.type "ValueError") = some b := by
    unfold PySem.W.kitCls
    dsimp only
    rw [if_pos (by decide +kernel)]
    exact h1
  refine k ?_ ?_
  · unfold PySem.W.kitOne
    rw [if_neg (by intro z; exact nomatch beq_iff_eq.mp z)]
    exact e
  · unfold PySem.W.exmOne
    rw [if_pos (by rw [h2]; rfl)]
    exact e
theorem ecl_of {K : PySem.W.Frag} {c : String} {C : Addr} (h : PySem.W.nsIn K mainGlobals (Str.ofString c) = some (some (.ref C))) : eclK K c = some C := by
  unfold eclK
  rw [h]
theorem uE_own {K : PySem.W.Frag} {t : String} {T : Addr} (h : t ≠ "ValueError") (e : eclK K t = some T) : uE K t = .ref T := by
  unfold uE
  rw [if_neg h, e]
theorem uE_V {K : PySem.W.Frag} : uE K "ValueError" = .type "ValueError" := by
  unfold uE
  rw [if_pos rfl]
end Fl
namespace Fl
section
variable {cf : CF} {r : Sl} {s : S}
def kVar (s : S) : Option (Option D) → R D
  | some (some d) => some (.ok d, s)
  | _ => none
theorem kVar_ok (d : D) : kVar s (some (some d)) = some (.ok d, s) := (rfl)
theorem e_var (i : Nat) : ev cf (.var i) r s = kVar s r[i]? := by
  simp only [ev]
  unfold kVar
  rfl
theorem e_non : ev cf .non r s = some (.ok .non, s) := by simp only [ev]
theorem e_bl (b : Bool) : ev cf (.bl b) r s = some (.ok (.bl b), s) := by simp only [ev]
theorem e_int (i : Int) : ev cf (.int i) r s = some (.ok (.int i), s) := by simp only [ev]
theorem e_str (x : List Nat) : ev cf (.str x) r s = some (.ok (.str x), s) := by simp only [ev]
theorem e_gs (f : String) (x : List Nat) : ev cf (.gs f x) r s = some (.ok (.str x), s) := by simp only [ev]
def kBin2 (o : Bop) (x : D) (q : R D) : R D := bnd q fun y s => lft (binD o x y) s
def kBin1 (cf : CF) (o : Bop) (b : E) (r : Sl) (q : R D) : R D := bnd q fun x s => kBin2 o x (ev cf b r s)
theorem e_bin (o : Bop) (a b : E) : ev cf (.bin o a b) r s = kBin1 cf o b r (ev cf a r s) := by simp only [ev]; rfl
theorem kBin1_ok (o : Bop) (b : E) (x : D) : kBin1 cf o b r (some (.ok x, s)) = kBin2 o x (ev cf b r s) := (rfl)
theorem kBin2_ok (o : Bop) (x y : D) : kBin2 o x (some (.ok y, s)) = lft (binD o x y) s := (rfl)
def kNeg (q : R D) : R D := bnd q fun x s => match x with
  | .int i => some (.ok (.int (-i)), s)
  | _ => none
theorem e_neg (a : E) : ev cf (.neg a) r s = kNeg (ev cf a r s) := by simp only [ev]; rfl
theorem kNeg_ok (i : Int) : kNeg (some (.ok (.int i), s)) = some (.ok (.int (-i)), s) := (rfl)
def kNot (q : R D) : R D := bnd q fun x s => lft ((truth s x).map fun b => .bl (!b)) s
theorem e_not (a : E) : ev cf (.not a) r s = kNot (ev cf a r s) := by simp only [ev]; rfl
theorem kNot_ok (b : Bool) : kNot (some (.ok (.bl b), s)) = some (.ok (.bl (!b)), s) := (rfl)
theorem kNot_ok' (x : D) : kNot (some (.ok x, s)) = lft ((truth s x).map fun b => .bl (!b)) s := (rfl)
def kAnd (cf : CF) (es : Es) (r : Sl) (q : R D) : R D := bnd q fun x s => match x with
  | .bl true => evAnd cf es r s
  | .bl false => some (.ok (.bl false), s)
  | _ => none
def kOr (cf : CF) (es : Es) (r : Sl) (q : R D) : R D := bnd q fun x s => match x with
  | .bl true => some (.ok (.bl true), s)
  | .bl false => evOr cf es r s
  | _ => none
theorem e_and (es : Es) : ev cf (.and es) r s = evAnd cf es r s := by simp only [ev]
theorem e_or (es : Es) : ev cf (.or es) r s = evOr cf es r s := by simp only [ev]
theorem a_one (e : E) : evAnd cf (.cons e .nil) r s = ev cf e r s := by simp only [evAnd]
theorem a_more (e e' : E) (t : Es) : evAnd cf (.cons e (.cons e' t)) r s = kAnd cf (.cons e' t) r (ev cf e r s) := by simp only [evAnd]; rfl
theorem o_one (e : E) : evOr cf (.cons e .nil) r s = ev cf e r s := by simp only [evOr]
theorem o_more (e e' : E) (t : Es) : evOr cf (.cons e (.cons e' t)) r s = kOr cf (.cons e' t) r (ev cf e r s) := by simp only [evOr]; rfl
theorem kAnd_t (es : Es) : kAnd cf es r (some (.ok (.bl true), s)) = evAnd cf es r s := (rfl)
theorem kAnd_f (es : Es) : kAnd cf es r (some (.ok (.bl false), s)) = some (.ok (.bl false), s) := (rfl)
theorem kOr_t (es : Es) : kOr cf es r (some (.ok (.bl true), s)) = some (.ok (.bl true), s) := (rfl)
theorem kOr_f (es : Es) : kOr cf es r (some (.ok (.bl false), s)) = evOr cf es r s := (rfl)
theorem kAnd_b (es : Es) (b : Bool) : kAnd cf es r (some (.ok (.bl b), s)) = if b = true then evAnd cf es r s else some (.ok (.bl false), s) := by cases b <;> rfl
theorem kOr_b (es : Es) (b : Bool) : kOr cf es r (some (.ok (.bl b), s)) = if b = true then some (.ok (.bl true), s) else evOr cf es r s := by cases b <;> rfl
theorem and_join (b c : Bool) : (if b = true then (some (Rs.ok (D.bl c), s) : R D) else some (.ok (.bl false), s)) = some (.ok (.bl (b && c)), s) := by cases b <;> rfl
theorem or_join (b c : Bool) : (if b = true then (some (Rs.ok (D.bl true), s) : R D) else some (.ok (.bl c), s)) = some (.ok (.bl (b || c)), s) := by cases b <;> rfl
def kCmp2 (o : Cop) (x : D) (q : R D) : R D := bnd q fun y s => lft ((cmpD s o x y).map .bl) s
def kCmp1 (cf : CF) (o : Cop) (b : E) (r : Sl) (q : R D) : R D := bnd q fun x s => kCmp2 o x (ev cf b r s)
theorem e_cmp (o : Cop) (a b : E) : ev cf (.cmp o a b) r s = kCmp1 cf o b r (ev cf a r s) := by simp only [ev]; rfl
theorem kCmp1_ok (o : Cop) (b : E) (x : D) : kCmp1 cf o b r (some (.ok x, s)) = kCmp2 o x (ev cf b r s) := (rfl)
theorem kCmp2_ok (o : Cop) (x y : D) : kCmp2 o x (some (.ok y, s)) = lft ((cmpD s o x y).map .bl) s := (rfl)
def kChn2 (cf : CF) (o p : Cop) (c : E) (r : Sl) (x : D) (q : R D) : R D := bnd q fun y s => match cmpD s o x y with
  | some true => kCmp2 p y (ev cf c r s)
  | some false => some (.ok (.bl false), s)
  | none => none
def kChn1 (cf : CF) (o p : Cop) (b c : E) (r : Sl) (q : R D) : R D := bnd q fun x s => kChn2 cf o p c r x (ev cf b r s)
theorem e_chn (o p : Cop) (a b c : E) : ev cf (.chn o p a b c) r s = kChn1 cf o p b c r (ev cf a r s) := by simp only [ev]; rfl
theorem kChn1_ok (o p : Cop) (b c : E) (x : D) : kChn1 cf o p b c r (some (.ok x, s)) = kChn2 cf o p c r x (ev cf b r s) := (rfl)
theorem kChn2_ok (o p : Cop) (c : E) (x y : D) : kChn2 cf o p c r x (some (.ok y, s)) = match cmpD s o x y with
  | some true => kCmp2 p y (ev cf c r s)
  | some false => some (.ok (.bl false), s)
  | none => none := (rfl)
theorem chn_b (b : Bool) (A B C : R D) : (match (some b : Option Bool) with
  | some true => A
  | some false => B
  | none => C) = if b = true then A else B := by cases b <;> rfl
theorem c_lt (i j : Int) : cmpD s .lt (.int i) (.int j) = some (decide (i < j)) := (rfl)
theorem c_le (i j : Int) : cmpD s .le (.int i) (.int j) = some (decide (i ≤ j)) := (rfl)
theorem c_gt (i j : Int) : cmpD s .gt (.int i) (.int j) = some (decide (j < i)) := (rfl)
theorem c_ge (i j : Int) : cmpD s .ge (.int i) (.int j) = some (decide (j ≤ i)) := (rfl)
theorem c_eq (x y : D) : cmpD s .eq x y = eqS s x y := by unfold cmpD; rfl
theorem c_ne (x y : D) : cmpD s .ne x y = (eqS s x y).map (!·) := by unfold cmpD; rfl
theorem q_int (i j : Int) : eqS s (.int i) (.int j) = some (decide (i = j)) := (rfl)
theorem q_str (x y : List Nat) : eqS s (.str x) (.str y) = some (decide (x = y)) := (rfl)
theorem q_bl (x y : Bool) : eqS s (.bl x) (.bl y) = some (decide (x = y)) := (rfl)
theorem q_tup (xs ys : List D) (h : (shp 60 (.tup xs) && shp 60 (.tup ys)) = true) : eqS s (.tup xs) (.tup ys) = some (eqD (.tup xs) (.tup ys)) := by
  show (if (shp 60 (.tup xs) && shp 60 (.tup ys)) = true then some (eqD (.tup xs) (.tup ys)) else _) = _
  rw [if_pos h]
theorem q_lst (xs ys : List D) (h : (shp 60 (.lst xs) && shp 60 (.lst ys)) = true) : eqS s (.lst xs) (.lst ys) = some (eqD (.lst xs) (.lst ys)) := by
  show (if (shp 60 (.lst xs) && shp 60 (.lst ys)) = true then some (eqD (.lst xs) (.lst ys)) else _) = _
  rw [if_pos h]
theorem c_isN (x : D) : cmpD s .is x .non = some (isNon x) := by cases x <;> rfl
theorem c_isnN (x : D) : cmpD s .isn x .non = some (!isNon x) := by cases x <;> rfl
theorem c_isB (a b : Bool) : cmpD s .is (.bl a) (.bl b) = some (a == b) := (rfl)
theorem c_in1 (c : Nat) (y : List Nat) : cmpD s .inn (.str [c]) (.str y) = some (decide (c ∈ y)) := (rfl)
theorem c_nin1 (c : Nat) (y : List Nat) : cmpD s .nin (.str [c]) (.str y) = some (!decide (c ∈ y)) := (rfl)
theorem map_some {α β : Type} (f : α → β) (a : α) : Option.map f (some a) = some (f a) := (rfl)
def kIte (cf : CF) (a b : E) (r : Sl) (q : R D) : R D := bnd q fun x s => match truth s x with
  | some true => ev cf a r s
  | some false => ev cf b r s
  | none => none
theorem e_ite (c a b : E) : ev cf (.ite c a b) r s = kIte cf a b r (ev cf c r s) := by simp only [ev]; rfl
theorem kIte_b (a b : E) (c : Bool) : kIte cf a b r (some (.ok (.bl c), s)) = if c = true then ev cf a r s else ev cf b r s := by cases c <;> rfl
def kEs2 (x : D) (q : R (List D)) : R (List D) := bnd q fun xs s => some (.ok (x :: xs), s)
def kEs1 (cf : CF) (t : Es) (r : Sl) (q : R D) : R (List D) := bnd q fun x s => kEs2 x (evs cf t r s)
theorem es_nil : evs cf .nil r s = some (.ok [], s) := by simp only [evs]
theorem es_cons (e : E) (t : Es) : evs cf (.cons e t) r s = kEs1 cf t r (ev cf e r s) := by simp only [evs]; rfl
theorem kEs1_ok (t : Es) (x : D) : kEs1 cf t r (some (.ok x, s)) = kEs2 x (evs cf t r s) := (rfl)
theorem kEs2_ok (x : D) (xs : List D) : kEs2 x (some (.ok xs, s)) = some (.ok (x :: xs), s) := (rfl)
def kTup (q : R (List D)) : R D := bnd q fun xs s => if xs.length ≤ LIM then some (.ok (.tup xs), s) else none
theorem e_tup (es : Es) : ev cf (.tup es) r s = kTup (evs cf es r s) := by simp only [ev]; rfl
theorem kTup_0 : kTup (some (.ok [], s)) = some (.ok (.tup []), s) := (rfl)
theorem kTup_1 (a : D) : kTup (some (.ok [a], s)) = some (.ok (.tup [a]), s) := (rfl)
theorem kTup_2 (a b : D) : kTup (some (.ok [a, b], s)) = some (.ok (.tup [a, b]), s) := (rfl)
theorem kTup_3 (a b c : D) : kTup (some (.ok [a, b, c], s)) = some (.ok (.tup [a, b, c]), s) := (rfl)
theorem kTup_4 (a b c d : D) : kTup (some (.ok [a, b, c, d], s)) = some (.ok (.tup [a, b, c, d]), s) := (rfl)
def kLst (bx : Bool) (q : R (List D)) : R D := bnd q fun xs s => mkLz bx xs s
theorem e_lst (bx : Bool) (es : Es) : ev cf (.lst bx es) r s = kLst bx (evs cf es r s) := by simp only [ev]; rfl
theorem kLst_f (xs : List D) (h : xs.length ≤ 100 := by decide) : kLst false (some (.ok xs, s)) = some (.ok (.lst xs), s) := by
  show (if xs.length ≤ LIM then mkL false xs s else none) = _
  rw [if_pos (Nat.le_trans h (by decide))]
  rfl
theorem kLst_t (xs : List D) (h : xs.length ≤ 100 := by decide) : kLst true (some (.ok xs, s)) = some (.ok (.ref s.nx), s.new (.lst xs)) := by
  show (if xs.length ≤ LIM then mkL true xs s else none) = _
  rw [if_pos (Nat.le_trans h (by decide))]
  rfl
def kCat2 (bx : Bool) (x : D) (q : R D) : R D := bnd q fun y s => match lcont s x, lcont s y with
  | some xs, some ys => mkLz bx (xs ++ ys) s
  | _, _ => none
def kCat1 (cf : CF) (bx : Bool) (b : E) (r : Sl) (q : R D) : R D := bnd q fun x s => kCat2 bx x (ev cf b r s)
theorem e_cat (bx : Bool) (a b : E) : ev cf (.cat bx a b) r s = kCat1 cf bx b r (ev cf a r s) := by simp only [ev]; rfl
theorem kCat1_ok (bx : Bool) (b : E) (x : D) : kCat1 cf bx b r (some (.ok x, s)) = kCat2 bx x (ev cf b r s) := (rfl)
theorem kCat2_f (xs ys : List D) (h : xs.length + ys.length ≤ LIM) : kCat2 false (.lst xs) (some (.ok (.lst ys), s)) = some (.ok (.lst (xs ++ ys)), s) := by
  show (if (xs ++ ys).length ≤ LIM then mkL false (xs ++ ys) s else none) = _
  rw [if_pos (by rw [List.length_append]; exact h)]
  rfl
theorem kCat2_s (xs ys : List D) (h : xs.length + ys.length ≤ LIM) : kCat2 false (.scr xs) (some (.ok (.lst ys), s)) = some (.ok (.lst (xs ++ ys)), s) := by
  show (if (xs ++ ys).length ≤ LIM then mkL false (xs ++ ys) s else none) = _
  rw [if_pos (by rw [List.length_append]; exact h)]
  rfl
def kIdx2 (x : D) (q : R D) : R D := bnd q fun y s => lft (idxD s x y) s
def kIdx1 (cf : CF) (b : E) (r : Sl) (q : R D) : R D := bnd q fun x s => kIdx2 x (ev cf b r s)
theorem e_idx (a b : E) : ev cf (.idx a b) r s = kIdx1 cf b r (ev cf a r s) := by simp only [ev]; rfl
theorem kIdx1_ok (b : E) (x : D) : kIdx1 cf b r (some (.ok x, s)) = kIdx2 x (ev cf b r s) := (rfl)
theorem kIdx2_ok (x y : D) : kIdx2 x (some (.ok y, s)) = lft (idxD s x y) s := (rfl)
theorem i_tup' (xs : List D) (i : Int) : idxD s (.tup xs) (.int i) = atI xs i := (rfl)
theorem i_lst' (xs : List D) (i : Int) : idxD s (.lst xs) (.int i) = atI xs i := (rfl)
theorem i_scr (xs : List D) (i : Int) : idxD s (.scr xs) (.int i) = atI xs i := (rfl)
theorem i_str' (x : List Nat) (i : Int) : idxD s (.str x) (.int i) = if x.length ≤ LIM then (atI x i).map fun c => .str [c] else none := (rfl)
theorem i_ref (n : Nat) (i : Int) (xs : List D) (h : s.m n = some (.lst xs)) : idxD s (.ref n) (.int i) = atI xs i := by
  have h1 : dcont s (.ref n) = none := by simp only [dcont, h]
  have h3 : tcont s (.ref n) = none := by simp only [tcont, h]
  have h2 : cont s (.ref n) = some xs := by simp only [cont, lcont, h]
  simp only [idxD, h1, h3, idxL, h2, Option.bind_some]
theorem at_0 {α : Type} (a : α) (l : List α) : atI (a :: l) 0 = some a := by
  unfold atI ixN
  rw [if_pos (by omega), if_pos (by simp only [List.length_cons]; omega)]
  rfl
theorem at_1 {α : Type} (a b : α) (l : List α) : atI (a :: b :: l) 1 = some b := by
  unfold atI ixN
  rw [if_pos (by omega), if_pos (by simp only [List.length_cons]; omega)]
  rfl
theorem at_2 {α : Type} (a b c : α) (l : List α) : atI (a :: b :: c :: l) 2 = some c := by
  unfold atI ixN
  rw [if_pos (by omega), if_pos (by simp only [List.length_cons]; omega)]
  rfl
theorem at_3 {α : Type} (a b c d : α) (l : List α) : atI (a :: b :: c :: d :: l) 3 = some d := by
  unfold atI ixN
  rw [if_pos (by omega), if_pos (by simp only [List.length_cons]; omega)]
  rfl
theorem at_nat {α : Type} (l : List α) (i : Nat) : atI l (i : Int) = l[i]? := by
  unfold atI ixN
  rw [if_pos (by omega)]
  by_cases h : (i : Int) < l.length
  · rw [if_pos h]
    simp
  · rw [if_neg h]
    exact (List.getElem?_eq_none (by omega)).symm
theorem at_get {α : Type} (l : List α) (i : Int) (h0 : 0 ≤ i) (h1 : i < l.length) : ∃ a, atI l i = some a ∧ a ∈ l := by
  obtain ⟨n, rfl⟩ := Int.eq_ofNat_of_zero_le h0
  rw [at_nat]
  have hn : n < l.length := by omega
  exact ⟨l[n], by rw [List.getElem?_eq_getElem hn], List.getElem_mem hn⟩
def kO (q : R D) : R (Option Int) := bnd q fun x s => match x with
  | .int i => some (.ok (some i), s)
  | _ => none
theorem o_no : evO cf .no r s = some (.ok none, s) := by simp only [evO]
theorem o_so (e : E) : evO cf (.so e) r s = kO (ev cf e r s) := by simp only [evO]; rfl
theorem kO_ok (i : Int) : kO (some (.ok (.int i), s)) = some (.ok (some i), s) := (rfl)
def sliD (s : S) (bx : Bool) (x : D) (l h : Option Int) : R D := match x with
  | .str z => if z.length ≤ LIM then some (.ok (.str (cut z l h)), s) else none
  | .tup zs => some (.ok (.tup (cut zs l h)), s)
  | x => match lcont s x with
    | some zs => mkL bx (cut zs l h) s
    | none => none
def kSl3 (bx : Bool) (x : D) (l : Option Int) (q : R (Option Int)) : R D := bnd q fun h s => sliD s bx x l h
def kSl2 (cf : CF) (bx : Bool) (hi : Oe) (r : Sl) (x : D) (q : R (Option Int)) : R D := bnd q fun l s => kSl3 bx x l (evO cf hi r s)
def kSl1 (cf : CF) (bx : Bool) (lo hi : Oe) (r : Sl) (q : R D) : R D := bnd q fun x s => kSl2 cf bx hi r x (evO cf lo r s)
theorem e_sl (bx : Bool) (a : E) (lo hi : Oe) : ev cf (.sl bx a lo hi) r s = kSl1 cf bx lo hi r (ev cf a r s) := by
  simp only [ev]
  unfold kSl1 kSl2 kSl3 sliD
  rfl
theorem kSl1_ok (bx : Bool) (lo hi : Oe) (x : D) : kSl1 cf bx lo hi r (some (.ok x, s)) = kSl2 cf bx hi r x (evO cf lo r s) := (rfl)
theorem kSl2_ok (bx : Bool) (hi : Oe) (x : D) (l : Option Int) : kSl2 cf bx hi r x (some (.ok l, s)) = kSl3 bx x l (evO cf hi r s) := (rfl)
theorem kSl3_ok (bx : Bool) (x : D) (l h : Option Int) : kSl3 bx x l (some (.ok h, s)) = sliD s bx x l h := (rfl)
theorem sl_tup' (bx : Bool) (xs : List D) (l h : Option Int) : sliD s bx (.tup xs) l h = some (.ok (.tup (cut xs l h)), s) := (rfl)
theorem sl_scr (xs : List D) (l h : Option Int) : sliD s false (.scr xs) l h = some (.ok (.lst (cut xs l h)), s) := (rfl)
theorem sl_lst' (xs : List D) (l h : Option Int) : sliD s false (.lst xs) l h = some (.ok (.lst (cut xs l h)), s) := (rfl)
def kCall (cf : CF) (f : String) (q : R (List D)) : R D := bnd q fun xs s => cf "" f xs s
theorem e_call (f : String) (es : Es) : ev cf (.call f es) r s = kCall cf f (evs cf es r s) := by simp only [ev]; rfl
theorem kCall_ok (f : String) (xs : List D) : kCall cf f (some (.ok xs, s)) = cf "" f xs s := (rfl)
def kBi (b : Bi) (q : R (List D)) : R D := bnd q fun xs s => biD s b xs
theorem e_bi (b : Bi) (es : Es) : ev cf (.bi b es) r s = kBi b (evs cf es r s) := by simp only [ev]; rfl
theorem kBi_ok (b : Bi) (xs : List D) : kBi b (some (.ok xs, s)) = biD s b xs := (rfl)
theorem b_intI (i : Int) : biD s .int [.int i] = some (.ok (.int i), s) := (rfl)
theorem b_intB (b : Bool) : biD s .int [.bl b] = some (.ok (.int (if b = true then 1 else 0)), s) := (rfl)
theorem b_min (i j : Int) : biD s .min2 [.int i, .int j] = some (.ok (.int (if j < i then j else i)), s) := (rfl)
theorem b_max (i j : Int) : biD s .max2 [.int i, .int j] = some (.ok (.int (if j > i then j else i)), s) := (rfl)
theorem b_abs (i : Int) : biD s .abs [.int i] = some (.ok (.int (if i < 0 then -i else i)), s) := (rfl)
theorem b_lenT (xs : List D) : biD s .len [.tup xs] = some (.ok (.int xs.length), s) := (rfl)
theorem b_lenL (xs : List D) : biD s .len [.lst xs] = some (.ok (.int xs.length), s) := (rfl)
theorem b_lenC (xs : List D) : biD s .len [.scr xs] = some (.ok (.int xs.length), s) := (rfl)
theorem b_lenS (x : List Nat) : biD s .len [.str x] = if x.length ≤ LIM then some (.ok (.int x.length), s) else none := (rfl)
theorem b_lenR (n : Nat) (xs : List D) (h : s.m n = some (.lst xs)) : biD s .len [.ref n] = some (.ok (.int xs.length), s) := by
  have h1 : dcont s (.ref n) = none := by simp only [dcont, h]
  have h3 : tcont s (.ref n) = none := by simp only [tcont, h]
  have h2 : cont s (.ref n) = some xs := by simp only [cont, lcont, h]
  show lenD s [.ref n] = _
  simp only [lenD, h1, h2, Option.map_some, lft]
theorem b_listL (xs : List D) : biD s (.list false) [.lst xs] = some (.ok (.lst xs), s) := (rfl)
theorem b_listT (xs : List D) : biD s (.list false) [.tup xs] = some (.ok (.lst xs), s) := (rfl)
theorem b_listLb (xs : List D) : biD s (.list true) [.lst xs] = some (.ok (.ref s.nx), s.new (.lst xs)) := (rfl)
def kIsi (t : Ty) (q : R D) : R D := bnd q fun x s => lft ((isiD s x t).map .bl) s
theorem e_isi (a : E) (t : Ty) : ev cf (.isi a t) r s = kIsi t (ev cf a r s) := by simp only [ev]; rfl
theorem kIsi_ok (t : Ty) (x : D) : kIsi t (some (.ok x, s)) = lft ((isiD s x t).map .bl) s := (rfl)
theorem n_int (i : Int) (t : Ty) : isiD s (.int i) t = some (subTy .int t) := (rfl)
theorem n_str (i : List Nat) (t : Ty) : isiD s (.str i) t = some (subTy .str t) := (rfl)
theorem n_bl (i : Bool) (t : Ty) : isiD s (.bl i) t = some (subTy .bool t) := (rfl)
theorem n_tup (i : List D) (t : Ty) : isiD s (.tup i) t = some (subTy .tuple t) := (rfl)
theorem n_lst (i : List D) (t : Ty) : isiD s (.lst i) t = some (subTy .list t) := (rfl)
theorem n_non (t : Ty) : isiD s .non t = some false := (rfl)
def kLr (bx : Bool) (q : R D) : R D := bnd q fun x s => lrngD s bx [x]
theorem e_lrng (bx : Bool) (a : E) : ev cf (.lrng bx a) r s = kLr bx (ev cf a r s) := by simp only [ev]; rfl
theorem kLr_ok (bx : Bool) (x : D) : kLr bx (some (.ok x, s)) = lrngD s bx [x] := (rfl)
def kMet2 (m : Mt) (x : D) (q : R (List D)) : R D := bnd q fun xs s => metD s m x xs
def kMet1 (cf : CF) (m : Mt) (es : Es) (r : Sl) (q : R D) : R D := bnd q fun x s => if mtOk s m x then kMet2 m x (evs cf es r s) else none
theorem e_met (m : Mt) (o : E) (es : Es) : ev cf (.met m o es) r s = kMet1 cf m es r (ev cf o r s) := by simp only [ev]; rfl
theorem kMet1_ok (m : Mt) (es : Es) (x : D) : kMet1 cf m es r (some (.ok x, s)) = if mtOk s m x = true then kMet2 m x (evs cf es r s) else none := (rfl)
theorem kMet2_ok (m : Mt) (x : D) (xs : List D) : kMet2 m x (some (.ok xs, s)) = metD s m x xs := (rfl)
def kFrz (q : R D) : R D := bnd q fun x s => frzD s x
theorem e_frz (a : E) : ev cf (.frz a) r s = kFrz (ev cf a r s) := by simp only [ev]; rfl
theorem kFrz_ok (x : D) : kFrz (some (.ok x, s)) = frzD s x := (rfl)
def lcI (cf : CF) (bx : Bool) (e : E) (tg : Tg) (c : Oe) (r : Sl) (s : S) (iv : Iv) : R D := match ivLen s iv with
  | none => none
  | some n => bnd (lcN tg iv (evT cf c) (ev cf e) r (n + 1) 0 [] s) fun xs s => mkL bx xs s
def kLc (cf : CF) (bx : Bool) (e : E) (tg : Tg) (c : Oe) (r : Sl) (q : R Iv) : R D := bnd q fun iv s => lcI cf bx e tg c r s iv
theorem e_lc (bx : Bool) (e : E) (tg : Tg) (it : It) (c : Oe) : ev cf (.lc bx e tg it c) r s = kLc cf bx e tg c r (evI cf it r s) := by simp only [ev]; rfl
theorem kLc_ok (bx : Bool) (e : E) (tg : Tg) (c : Oe) (iv : Iv) : kLc cf bx e tg c r (some (.ok iv, s)) = lcI cf bx e tg c r s iv := (rfl)
def kSeq' (q : R D) : R Iv := bnd q fun x s => match lcont s x with
  | some _ => some (.ok (.seq x), s)
  | none => none
theorem t_seq (e : E) : evI cf (.seq e) r s = kSeq' (ev cf e r s) := by simp only [evI]; rfl
theorem kSeq'_l (xs : List D) : kSeq' (some (.ok (.lst xs), s)) = some (.ok (.seq (.lst xs)), s) := (rfl)
theorem kSeq'_c (xs : List D) : kSeq' (some (.ok (.scr xs), s)) = some (.ok (.seq (.scr xs)), s) := (rfl)
def kTupI (q : R D) : R Iv := bnd q fun x s => match x with
  | .tup xs => some (.ok (.seq (.tup xs)), s)
  | _ => none
theorem t_tup (e : E) : evI cf (.tup e) r s = kTupI (ev cf e r s) := by simp only [evI]; rfl
theorem kTupI_ok (xs : List D) : kTupI (some (.ok (.tup xs), s)) = some (.ok (.seq (.tup xs)), s) := (rfl)
def kStrI (q : R D) : R Iv := bnd q fun x s => match x with
  | .str xs => some (.ok (.seq (.str xs)), s)
  | _ => none
theorem t_str (e : E) : evI cf (.str e) r s = kStrI (ev cf e r s) := by simp only [evI]; rfl
theorem kStrI_ok (xs : List Nat) : kStrI (some (.ok (.str xs), s)) = some (.ok (.seq (.str xs)), s) := (rfl)
def kRng (q : R D) : R Iv := bnd q fun x s => match x with
  | .int j => if j < 2 ^ 62 ∧ -(2 ^ 62) ≤ j then some (.ok (.rng 0 j.toNat), s) else none
  | _ => none
theorem t_rng (e : E) : evI cf (.rng e) r s = kRng (ev cf e r s) := by simp only [evI]; rfl
theorem kRng_ok (j : Int) (h : j < 2 ^ 62 ∧ -(2 ^ 62) ≤ j) : kRng (some (.ok (.int j), s)) = some (.ok (.rng 0 j.toNat), s) := by
  show (if j < 2 ^ 62 ∧ -(2 ^ 62) ≤ j then _ else none) = _
  rw [if_pos h]
def kEnm (q : R D) : R Iv := bnd q fun x s => match lcont s x with
  | some _ => some (.ok (.enm x), s)
  | none => none
theorem t_enm (e : E) : evI cf (.enm e) r s = kEnm (ev cf e r s) := by simp only [evI]; rfl
theorem kEnm_l (xs : List D) : kEnm (some (.ok (.lst xs), s)) = some (.ok (.enm (.lst xs)), s) := (rfl)
def kSeq (cf : CF) (t : Cs) (q : XR) : XR := bnd q fun p s => match p with
  | (.nx, r) => exs cf t r s
  | (.bk, r) => some (.ok (.bk, r), s)
  | (.ct, r) => some (.ok (.ct, r), s)
  | (.rt d, r) => some (.ok (.rt d, r), s)
  | (.rz c, r) => some (.ok (.rz c, r), s)
theorem kSeq_rz (t : Cs) (c : String) : kSeq cf t (some (.ok (.rz c, r), s)) = some (.ok (.rz c, r), s) := (rfl)
theorem s_nil : exs cf .nil r s = some (.ok (.nx, r), s) := by simp only [exs]
theorem s_cons (c : C) (t : Cs) : exs cf (.cons c t) r s = kSeq cf t (ex cf c r s) := by simp only [exs]; rfl
theorem kSeq_nx (t : Cs) : kSeq cf t (some (.ok (.nx, r), s)) = exs cf t r s := (rfl)
theorem kSeq_rt (t : Cs) (d : D) : kSeq cf t (some (.ok (.rt d, r), s)) = some (.ok (.rt d, r), s) := (rfl)
theorem kSeq_bk (t : Cs) : kSeq cf t (some (.ok (.bk, r), s)) = some (.ok (.bk, r), s) := (rfl)
theorem kSeq_ct (t : Cs) : kSeq cf t (some (.ok (.ct, r), s)) = some (.ok (.ct, r), s) := (rfl)
def kAsg (i : Nat) (r : Sl) (q : R D) : XR := bnd q fun x s => some (.ok (.nx, r.set i (some x)), s)
theorem s_asg (i : Nat) (e : E) : ex cf (.asg i e) r s = kAsg i r (ev cf e r s) := by simp only [ex]; rfl
theorem kAsg_ok (i : Nat) (x : D) : kAsg i r (some (.ok x, s)) = some (.ok (.nx, r.set i (some x)), s) := (rfl)
def kTpa (is : List Nat) (r : Sl) (q : R D) : XR := bnd q fun x s => match x with
  | .tup xs => match setAll is xs r with
    | some r' => some (.ok (.nx, r'), s)
    | none => none
  | _ => none
def kTpl (is : List Nat) (r : Sl) (q : R D) : XR := bnd q fun x s => match lcont s x with
    | some xs => match setAll is xs r with
      | some r' => some (.ok (.nx, r'), s)
      | none => none
    | none => none
theorem s_tpl (is : List Nat) (e : E) : ex cf (.tpl is e) r s = kTpl is r (ev cf e r s) := by simp only [ex]; rfl
theorem kTpl_2 (i j : Nat) (x y : D) : kTpl [i, j] r (some (.ok (.lst [x, y]), s)) = some (.ok (.nx, (r.set i (some x)).set j (some y)), s) := (rfl)
theorem s_tpa (is : List Nat) (e : E) : ex cf (.tpa is e) r s = kTpa is r (ev cf e r s) := by simp only [ex]; rfl
theorem kTpa_2 (i j : Nat) (x y : D) : kTpa [i, j] r (some (.ok (.tup [x, y]), s)) = some (.ok (.nx, (r.set i (some x)).set j (some y)), s) := (rfl)
theorem kTpa_3 (i j k : Nat) (x y z : D) : kTpa [i, j, k] r (some (.ok (.tup [x, y, z]), s)) = some (.ok (.nx, ((r.set i (some x)).set j (some y)).set k (some z)), s) := (rfl)
def kAug (i : Nat) (o : Bop) (r : Sl) (a : Int) (q : R D) : XR := bnd q fun y s => match y with
  | .int b => match o with
    | .add => some (.ok (.nx, r.set i (some (.int (a + b)))), s)
    | .sub => some (.ok (.nx, r.set i (some (.int (a - b)))), s)
    | _ => none
  | _ => none
def kAug0 (cf : CF) (i : Nat) (o : Bop) (e : E) (r : Sl) (s : S) : Option (Option D) → XR
  | some (some (.int a)) => kAug i o r a (ev cf e r s)
  | _ => none
theorem s_aug (i : Nat) (o : Bop) (e : E) : ex cf (.aug i o e) r s = kAug0 cf i o e r s r[i]? := by
  simp only [ex]
  unfold kAug0
  rfl
theorem kAug0_ok (i : Nat) (o : Bop) (e : E) (a : Int) : kAug0 cf i o e r s (some (some (.int a))) = kAug i o r a (ev cf e r s) := (rfl)
theorem kAug_add (i : Nat) (a b : Int) : kAug i .add r a (some (.ok (.int b), s)) = some (.ok (.nx, r.set i (some (.int (a + b)))), s) := (rfl)
theorem kAug_sub (i : Nat) (a b : Int) : kAug i .sub r a (some (.ok (.int b), s)) = some (.ok (.nx, r.set i (some (.int (a - b)))), s) := (rfl)
def stoD (r : Sl) (v x k : D) (s : S) : XR := match x with
    | .ref n => match s.m n with
      | some (.lst xs) => match k with
        | .int k => match ixN xs.length k with
          | some j => some (.ok (.nx, r), s.put n (.lst (xs.set j v)))
          | none => none
        | _ => none
      | some (.dic kvs) => match keyOf k with
        | some k => if kvs.length < LIM then some (.ok (.nx, r), s.put n (.dic (dput kvs k v))) else none
        | none => none
      | some (.dit kvs) => match keyT k with
        | some k => if kvs.length < LIM then some (.ok (.nx, r), s.put n (.dit (dput kvs k v))) else none
        | none => none
      | _ => none
    | _ => none
def kSt3 (r : Sl) (v x : D) (q : R D) : XR := bnd q fun k s => stoD r v x k s
def kSt2 (cf : CF) (i : E) (r : Sl) (v : D) (q : R D) : XR := bnd q fun x s => kSt3 r v x (ev cf i r s)
def kSt1 (cf : CF) (o i : E) (r : Sl) (q : R D) : XR := bnd q fun v s => kSt2 cf i r v (ev cf o r s)
theorem s_seti (o i e : E) : ex cf (.seti o i e) r s = kSt1 cf o i r (ev cf e r s) := by simp only [ex]; rfl
theorem kSt1_ok (o i : E) (v : D) : kSt1 cf o i r (some (.ok v, s)) = kSt2 cf i r v (ev cf o r s) := (rfl)
theorem kSt2_ok (i : E) (v x : D) : kSt2 cf i r v (some (.ok x, s)) = kSt3 r v x (ev cf i r s) := (rfl)
theorem kSt3_ok (v x k : D) : kSt3 r v x (some (.ok k, s)) = stoD r v x k s := (rfl)
theorem sto_ok (n : Nat) (k : Int) (j : Nat) (v : D) (xs : List D) (h : s.m n = some (.lst xs)) (hj : ixN xs.length k = some j) : stoD r v (.ref n) (.int k) s = some (.ok (.nx, r), s.put n (.lst (xs.set j v))) := by
  simp only [stoD, h, hj]
theorem sto_dic (n : Nat) (k : D) (kk : DK) (v : D) (kvs : List (DK × D)) (h : s.m n = some (.dic kvs)) (hk : keyOf k = some kk) (hl : kvs.length < LIM) : stoD r v (.ref n) k s = some (.ok (.nx, r), s.put n (.dic (dput kvs kk v))) := by
  simp only [stoD, h, hk, hl, if_true]
def kExp (r : Sl) (q : R D) : XR := bnd q fun _ s => some (.ok (.nx, r), s)
theorem s_exp (e : E) : ex cf (.exp e) r s = kExp r (ev cf e r s) := by simp only [ex]; rfl
theorem kExp_ok (x : D) : kExp r (some (.ok x, s)) = some (.ok (.nx, r), s) := (rfl)
def kRt (r : Sl) (q : R D) : XR := bnd q fun x s => some (.ok (.rt x, r), s)
theorem s_ret (e : E) : ex cf (.ret e) r s = kRt r (ev cf e r s) := by simp only [ex]; rfl
theorem kRt_ok (x : D) : kRt r (some (.ok x, s)) = some (.ok (.rt x, r), s) := (rfl)
theorem s_retn : ex cf .retn r s = some (.ok (.rt .non, r), s) := by simp only [ex]
def kIf (cf : CF) (a b : Cs) (r : Sl) (q : R D) : XR := bnd q fun x s => match truth s x with
  | some true => exs cf a r s
  | some false => exs cf b r s
  | none => none
theorem s_ite (c : E) (a b : Cs) : ex cf (.ite c a b) r s = kIf cf a b r (ev cf c r s) := by simp only [ex]; rfl
theorem kIf_b (a b : Cs) (c : Bool) : kIf cf a b r (some (.ok (.bl c), s)) = if c = true then exs cf a r s else exs cf b r s := by cases c <;> rfl
def forI (cf : CF) (tg : Tg) (b : Cs) (r : Sl) (s : S) (iv : Iv) : XR := match ivLen s iv with
  | none => none
  | some n => forN tg iv (exs cf b) (n + 1) 0 r s
def kFor (cf : CF) (tg : Tg) (b : Cs) (r : Sl) (q : R Iv) : XR := bnd q fun iv s => forI cf tg b r s iv
theorem s_for (tg : Tg) (it : It) (b : Cs) : ex cf (.for tg it b) r s = kFor cf tg b r (evI cf it r s) := by simp only [ex]; rfl
theorem kFor_ok (tg : Tg) (b : Cs) (iv : Iv) : kFor cf tg b r (some (.ok iv, s)) = forI cf tg b r s iv := (rfl)
theorem s_whl (c : E) (b : Cs) : ex cf (.whl c b) r s = whlN (ev cf c) (exs cf b) WF r s := by simp only [ex]
theorem s_pas : ex cf .pas r s = some (.ok (.nx, r), s) := by simp only [ex]
theorem s_brk : ex cf .brk r s = some (.ok (.bk, r), s) := by simp only [ex]
theorem s_rz (c : String) : ex cf (.rz c) r s = some (.ok (.rz c, r), s) := by simp only [ex]
def kXexp (r : Sl) (q : R D) : XR := bnr q r fun _ s => some (.ok (.nx, r), s)
theorem s_xexp (x : Xe) : ex cf (.xexp x) r s = kXexp r (evx cf x r s) := by simp only [ex]; rfl
theorem kXexp_ok (d : D) : kXexp r (some (.ok d, s)) = some (.ok (.nx, r), s) := (rfl)
theorem kXexp_er (c : String) : kXexp r (some (.er c, s)) = some (.ok (.rz c, r), s) := (rfl)
def kXasg (i : Nat) (r : Sl) (q : R D) : XR := bnr q r fun d s => some (.ok (.nx, r.set i (some d)), s)
theorem s_xasg (i : Nat) (x : Xe) : ex cf (.xasg i x) r s = kXasg i r (evx cf x r s) := by simp only [ex]; rfl
theorem kXasg_ok (i : Nat) (d : D) : kXasg i r (some (.ok d, s)) = some (.ok (.nx, r.set i (some d)), s) := (rfl)
theorem kXasg_er (i : Nat) (c : String) : kXasg i r (some (.er c, s)) = some (.ok (.rz c, r), s) := (rfl)
def kXret (r : Sl) (q : R D) : XR := bnr q r fun d s => some (.ok (.rt d, r), s)
theorem s_xret (x : Xe) : ex cf (.xret x) r s = kXret r (evx cf x r s) := by simp only [ex]; rfl
theorem kXret_ok (d : D) : kXret r (some (.ok d, s)) = some (.ok (.rt d, r), s) := (rfl)
theorem kXret_er (c : String) : kXret r (some (.er c, s)) = some (.ok (.rz c, r), s) := (rfl)
def kXc (cf : CF) (f : String) (q : R (List D)) : R D := bnn q fun xs s => cf "" f xs s
theorem x_call (f : String) (es : Es) : evx cf (.call f es) r s = kXc cf f (evs cf es r s) := by simp only [evx]; rfl
theorem kXc_ok (f : String) (xs : List D) : kXc cf f (some (.ok xs, s)) = cf "" f xs s := (rfl)
def kXo2 (cf : CF) (c m : String) (x : D) (q : R (List D)) : R D := bnn q fun xs s => cf c m (x :: xs) s
theorem kXo2_ok (c m : String) (x : D) (xs : List D) : kXo2 cf c m x (some (.ok xs, s)) = cf c m (x :: xs) s := (rfl)
def kXo (cf : CF) (m : String) (es : Es) (r : Sl) (q : R D) : R D := bnn q fun x s => ownX s m x fun c => kXo2 cf c m x (evs cf es r s)
theorem x_own (o : E) (m : String) (es : Es) : evx cf (.own o m es) r s = kXo cf m es r (ev cf o r s) := by simp only [evx]; rfl
theorem kXo_ok (m : String) (es : Es) (n : Nat) (c : String) (fs : List (String × D)) (h : s.m n = some (.ins c fs)) (hl : fs.lookup m = none) (hc : c ≠ "") : kXo cf m es r (some (.ok (.ref n), s)) = kXo2 cf c m (.ref n) (evs cf es r s) := by
  show ownX s m (.ref n) _ = _
  simp only [ownX, h, hl, if_neg hc]
def kTry (c : String) (i j : Nat) (q : XR) : XR := bnd q fun p s => match p with
    | (.rz k, r') => if subE k c then some (.ok (.nx, ((r'.set i (some (.ref s.nx))).set j (some (.ref s.nx))).set i none), s.new (.exc k)) else some (.ok (.rz k, r'), s)
    | p => some (.ok p, s)
theorem s_tryc (b : Cs) (c : String) (i j : Nat) : ex cf (.tryc b c i j) r s = kTry c i j (exs cf b r s) := by simp only [ex]; rfl
theorem kTry_rz (c k : String) (i j : Nat) (h : subE k c = true) : kTry c i j (some (.ok (.rz k, r), s)) = some (.ok (.nx, ((r.set i (some (.ref s.nx))).set j (some (.ref s.nx))).set i none), s.new (.exc k)) := by
  show (if subE k c = true then _ else _) = _
  rw [if_pos h]
def kTryk (c : String) (j : Nat) (q : XR) : XR := bnd q fun p s => match p with
    | (.rz k, r') => if subE k c then some (.ok (.nx, r'.set j (some (.bl true))), s) else some (.ok (.rz k, r'), s)
    | p => some (.ok p, s)
theorem s_tryk (b : Cs) (c : String) (j : Nat) : ex cf (.tryk b c j) r s = kTryk c j (exs cf b r s) := by simp only [ex]; rfl
theorem kTryk_rz (c k : String) (j : Nat) (h : subE k c = true) : kTryk c j (some (.ok (.rz k, r), s)) = some (.ok (.nx, r.set j (some (.bl true))), s) := by
  show (if subE k c = true then _ else _) = _
  rw [if_pos h]
def kTryh (c : String) (i : Nat) (hs : List (Nat × Hx)) (q : XR) : XR := bnd q fun p s => match p with
    | (.rz k, r') => if subE k c then (match hxAll k hs (r'.set i none) with
      | some r2 => if i < r'.length then some (.ok (.nx, r2.set i none), s) else none
      | none => none) else some (.ok (.rz k, r'), s)
    | p => some (.ok p, s)
theorem s_tryh (b : Cs) (c : String) (i : Nat) (hs : List (Nat × Hx)) : ex cf (.tryh b c i hs) r s = kTryh c i hs (exs cf b r s) := by simp only [ex]; rfl
theorem kTryh_rz (c k : String) (i : Nat) (hs : List (Nat × Hx)) (r2 : Sl) (h : subE k c = true) (h2 : hxAll k hs (r.set i none) = some r2) (hl : i < r.length) : kTryh c i hs (some (.ok (.rz k, r), s)) = some (.ok (.nx, r2.set i none), s) := by
  show (if subE k c = true then _ else _) = _
  rw [if_pos h, h2]
  exact if_pos hl
theorem kTryh_nx (c : String) (i : Nat) (hs : List (Nat × Hx)) : kTryh c i hs (some (.ok (.nx, r), s)) = some (.ok (.nx, r), s) := (rfl)
theorem kTryk_nx (c : String) (j : Nat) : kTryk c j (some (.ok (.nx, r), s)) = some (.ok (.nx, r), s) := (rfl)
theorem kTry_nx (c : String) (i j : Nat) : kTry c i j (some (.ok (.nx, r), s)) = some (.ok (.nx, r), s) := (rfl)
def kIsx (cs : List String) (q : R D) : R D := bnd q fun x s => lft ((isxD s x cs).map D.bl) s
theorem e_isx (a : E) (c : String) : ev cf (.isx a c) r s = kIsx [c] (ev cf a r s) := by simp only [ev]; rfl
theorem e_isxt (a : E) (cs : List String) : ev cf (.isxt a cs) r s = kIsx cs (ev cf a r s) := by simp only [ev]; rfl
theorem kIsx_ok (cs : List String) (n : Nat) (k : String) (h : s.m n = some (.exc k)) : kIsx cs (some (.ok (.ref n), s)) = some (.ok (.bl (cs.any (subE k))), s) := by
  show lft ((isxD s (.ref n) cs).map D.bl) s = _
  simp only [isxD, h]
  rfl
def kRet (q : XR) : R D := bnn q fun p s => match p with
  | (.rt d, _) => some (.ok d, s)
  | (.nx, _) => some (.ok .non, s)
  | (.rz c, _) => some (.er c, s)
  | _ => none
theorem kRet_rz (c : String) : kRet (some (.ok (.rz c, r), s)) = some (.er c, s) := (rfl)
theorem kRet_rt (d : D) : kRet (some (.ok (.rt d, r), s)) = some (.ok d, s) := (rfl)
theorem kRet_nx : kRet (some (.ok (.nx, r), s)) = some (.ok .non, s) := (rfl)
theorem call_run {Pg : Prg} {F : Fn} {k : Nat} {c f : String} {ds : List D} (h : Pg c f = some F) (hn : ds.length = F.np) : callF Pg (k + 1) c f ds s = kRet (exs (callF Pg k) F.body (ds.map some ++ List.replicate (F.ns - F.np) none) s) := by
  simp only [callF, h]
  unfold fnRun
  rw [if_pos hn]
  rfl
theorem bi_add (i j : Int) : binD .add (.int i) (.int j) = some (.int (i + j)) := (rfl)
theorem bi_sub (i j : Int) : binD .sub (.int i) (.int j) = some (.int (i - j)) := (rfl)
theorem bi_mul (i j : Int) (h : (sm64 i || sm64 j) = true) : binD .mul (.int i) (.int j) = some (.int (i * j)) := by
  show ((if ((sm64 i || sm64 j) || wd i j) = true then some (i * j) else none).map D.int) = _
  rw [if_pos (by rw [h]; rfl)]
  rfl
theorem bi_mulW (i j : Int) (h : wd i j = true) : binD .mul (.int i) (.int j) = some (.int (i * j)) := by
  show ((if ((sm64 i || sm64 j) || wd i j) = true then some (i * j) else none).map D.int) = _
  rw [if_pos (by rw [h, Bool.or_true])]
  rfl
theorem bi_fdiv (i j : Int) (h : 0 < j ∧ j < 10000000000000000000000000000000000000000) : binD .fdiv (.int i) (.int j) = some (.int (i / j)) := by
  show ((if j ≠ 0 ∧ j.natAbs < 10000000000000000000000000000000000000000 then some (i.fdiv j) else none).map D.int) = _
  rw [if_pos (by omega), Int.fdiv_eq_ediv_of_nonneg i (by omega)]
  rfl
theorem bi_mod (i j : Int) (h : 0 < j) : binD .mod (.int i) (.int j) = some (.int (i % j)) := by
  show ((if j ≠ 0 then some (i.fmod j) else none).map D.int) = _
  rw [if_pos (by omega), Int.fmod_eq_emod_of_nonneg i (by omega)]
  rfl
theorem bi_pow (i j : Int) (h : 0 ≤ j ∧ j ≤ 1000000 ∧ i.natAbs < 2 ^ 64) : binD .pow (.int i) (.int j) = some (.int (i ^ j.toNat)) := by
  show ((if 0 ≤ j ∧ j ≤ 1000000 ∧ i.natAbs < 2 ^ 64 then some (i ^ j.toNat) else none).map D.int) = _
  rw [if_pos h]
  rfl
theorem bi_str (x y : List Nat) (h : x.length + y.length ≤ LIM) : binD .add (.str x) (.str y) = some (.str (x ++ y)) := by
  show (if x.length + y.length ≤ LIM then some (D.str (x ++ y)) else none) = _
  rw [if_pos h]
theorem bi_tup (x y : List D) (h : x.length + y.length ≤ LIM) : binD .add (.tup x) (.tup y) = some (.tup (x ++ y)) := by
  show (if x.length + y.length ≤ LIM then some (D.tup (x ++ y)) else none) = _
  rw [if_pos h]
theorem sm_l (i j : Int) (h : -(2 ^ 64) < i ∧ i < 2 ^ 64) : (sm64 i || sm64 j) = true := by
  rw [Bool.or_eq_true]
  left
  unfold sm64
  rw [Bool.and_eq_true, decide_eq_true_eq, decide_eq_true_eq]
  exact h
theorem sm_r (i j : Int) (h : -(2 ^ 64) < j ∧ j < 2 ^ 64) : (sm64 i || sm64 j) = true := by
  rw [Bool.or_eq_true]
  right
  unfold sm64
  rw [Bool.and_eq_true, decide_eq_true_eq, decide_eq_true_eq]
  exact h
theorem put_same (n : Nat) (o : Ob) : (s.put n o).m n = some o := by simp [S.put]
theorem put_ne (n k : Nat) (o : Ob) (h : k ≠ n) : (s.put n o).m k = s.m k := by simp [S.put, h]
theorem put_nx (n : Nat) (o : Ob) : (s.put n o).nx = s.nx := (rfl)
theorem new_same (o : Ob) : (s.new o).m s.nx = some o := by simp [S.new]
theorem new_ne (k : Nat) (o : Ob) (h : k ≠ s.nx) : (s.new o).m k = s.m k := by simp [S.new, h]
theorem new_nx (o : Ob) : (s.new o).nx = s.nx + 1 := (rfl)
theorem put_put (n : Nat) (o u : Ob) : (s.put n o).put n u = s.put n u := by
  simp only [S.put]
  congr 1
  funext k
  split <;> rfl
end
end Fl
namespace Fl
/-- a loop whose body goes on, or gives back -/
theorem forN_inv {tg : Tg} {iv : Iv} {body : Sl → S → XR} (n : Nat) (P : Nat → Sl → S → Prop)
    (hl : ∀ i r s, P i r s → i ≤ n → ivLen s iv = some n)
    (hb : ∀ i r s, P i r s → i < n → ∃ x r1 r' s' w, ivGet s i iv = some x ∧ tgSet s tg x r = some r1 ∧ body r1 s = some (.ok (w, r'), s') ∧ (w = .nx ∨ w = .ct) ∧ P (i + 1) r' s') :
    ∀ m i r s, P i r s → i ≤ n → n + 1 ≤ m + i → ∃ r' s', forN tg iv body m i r s = some (.ok (.nx, r'), s') ∧ P n r' s' := by
  intro m
  induction m with
  | zero => intro i r s _ h h'; omega
  | succ m ih =>
    intro i r s hp hi hm
    rw [forN, hl i r s hp hi]
    dsimp only
    by_cases h : i < n
    · rw [if_pos h]
      obtain ⟨x, r1, r', s', w, h1, h2, h3, h4, h5⟩ := hb i r s hp h
      rw [h1]
      dsimp only
      rw [h2]
      dsimp only
      rw [h3, bnd_ok]
      rcases h4 with rfl | rfl
      · exact ih (i + 1) r' s' h5 (by omega) (by omega)
      · exact ih (i + 1) r' s' h5 (by omega) (by omega)
    · rw [if_neg h]
      have : i = n := by omega
      subst this
      exact ⟨r, s, rfl, hp⟩
theorem for_inv {cf : CF} {tg : Tg} {b : Cs} {iv : Iv} {r : Sl} {s : S} (n : Nat) (P : Nat → Sl → S → Prop) (h0 : P 0 r s)
    (hl : ∀ i r s, P i r s → i ≤ n → ivLen s iv = some n)
    (hb : ∀ i r s, P i r s → i < n → ∃ x r1 r' s' w, ivGet s i iv = some x ∧ tgSet s tg x r = some r1 ∧ exs cf b r1 s = some (.ok (w, r'), s') ∧ (w = .nx ∨ w = .ct) ∧ P (i + 1) r' s') :
    ∃ r' s', forI cf tg b r s iv = some (.ok (.nx, r'), s') ∧ P n r' s' := by
  unfold forI
  rw [hl 0 r s h0 (Nat.zero_le _)]
  exact forN_inv n P hl hb (n + 1) 0 r s h0 (Nat.zero_le _) (by omega)
/-- over a list that stays -/
theorem for_lst {cf : CF} {t : Nat} {b : Cs} {xs : List D} {r : Sl} {s : S} (P : Nat → Sl → S → Prop) (h0 : P 0 r s)
    (hb : ∀ i r s x, P i r s → xs[i]? = some x → ∃ r' s', exs cf b (r.set t (some x)) s = some (.ok (.nx, r'), s') ∧ P (i + 1) r' s') :
    ∃ r' s', forI cf (.nm t) b r s (.seq (.lst xs)) = some (.ok (.nx, r'), s') ∧ P xs.length r' s' :=
  for_inv xs.length P h0 (fun _ _ _ _ _ => rfl) fun i r s hp hi => by
    obtain ⟨r', s', h1, h2⟩ := hb i r s xs[i] hp (List.getElem?_eq_getElem hi)
    exact ⟨xs[i], _, r', s', .nx, List.getElem?_eq_getElem hi, rfl, h1, .inl rfl, h2⟩
theorem for_tup {cf : CF} {t : Nat} {b : Cs} {xs : List D} {r : Sl} {s : S} (P : Nat → Sl → S → Prop) (h0 : P 0 r s)
    (hb : ∀ i r s x, P i r s → xs[i]? = some x → ∃ r' s', exs cf b (r.set t (some x)) s = some (.ok (.nx, r'), s') ∧ P (i + 1) r' s') :
    ∃ r' s', forI cf (.nm t) b r s (.seq (.tup xs)) = some (.ok (.nx, r'), s') ∧ P xs.length r' s' :=
  for_inv xs.length P h0 (fun _ _ _ _ _ => rfl) fun i r s hp hi => by
    obtain ⟨r', s', h1, h2⟩ := hb i r s xs[i] hp (List.getElem?_eq_getElem hi)
    exact ⟨xs[i], _, r', s', .nx, List.getElem?_eq_getElem hi, rfl, h1, .inl rfl, h2⟩
theorem for_rng {cf : CF} {t : Nat} {b : Cs} {n : Nat} {r : Sl} {s : S} (P : Nat → Sl → S → Prop) (h0 : P 0 r s)
    (hb : ∀ (i : Nat) r s, P i r s → i < n → ∃ r' s', exs cf b (r.set t (some (.int (i : Nat)))) s = some (.ok (.nx, r'), s') ∧ P (i + 1) r' s') :
    ∃ r' s', forI cf (.nm t) b r s (.rng 0 n) = some (.ok (.nx, r'), s') ∧ P n r' s' :=
  for_inv n P h0 (fun _ _ _ _ _ => rfl) fun i r s hp hi => by
    obtain ⟨r', s', h1, h2⟩ := hb i r s hp hi
    exact ⟨_, _, r', s', .nx, (by show some (D.int (0 + (i : Int))) = some (D.int (i : Int)); rw [Int.zero_add]), rfl, h1, .inl rfl, h2⟩
/-- a comprehension without a test whose store stays as P says -/
theorem lcN_inv {tg : Tg} {iv : Iv} {elt : Sl → S → R D} {r : Sl} (cf : CF) (n : Nat) (hn : n ≤ LIM) (P : List D → S → Prop)
    (hl : ∀ xs s, P xs s → ivLen s iv = some n)
    (hb : ∀ i xs s, P xs s → xs.length = i → i < n → ∃ x r1 d s', ivGet s i iv = some x ∧ tgSet s tg x r = some r1 ∧ elt r1 s = some (.ok d, s') ∧ P (xs ++ [d]) s') :
    ∀ m i acc s, P acc s → acc.length = i → i ≤ n → n + 1 ≤ m + i → ∃ xs s', lcN tg iv (evT cf .no) elt r m i acc s = some (.ok xs, s') ∧ P xs s' ∧ xs.length = n := by
  intro m
  induction m with
  | zero => intro i r s _ _ h h'; omega
  | succ m ih =>
    intro i acc s hp hi hin hm
    rw [lcN, hl acc s hp]
    dsimp only
    by_cases h : i < n
    · rw [if_pos h]
      obtain ⟨x, r1, d, s', h1, h2, h3, h4⟩ := hb i acc s hp hi h
      rw [h1]
      dsimp only
      rw [h2]
      simp only [evT, bnd_ok, if_true, h3]
      rw [if_pos (by omega)]
      exact ih (i + 1) _ s' h4 (by rw [List.length_append, hi]; rfl) (by omega) (by omega)
    · rw [if_neg h]
      have : i = n := by omega
      subst this
      exact ⟨acc, s, rfl, hp, hi⟩
theorem lc_inv {cf : CF} {tg : Tg} {iv : Iv} {e : E} {r : Sl} {s : S} (n : Nat) (hn : n ≤ LIM) (P : List D → S → Prop) (h0 : P [] s)
    (hl : ∀ xs s, P xs s → ivLen s iv = some n)
    (hb : ∀ i xs s, P xs s → xs.length = i → i < n → ∃ x r1 d s', ivGet s i iv = some x ∧ tgSet s tg x r = some r1 ∧ ev cf e r1 s = some (.ok d, s') ∧ P (xs ++ [d]) s') :
    ∃ xs s', lcI cf false e tg .no r s iv = some (.ok (.lst xs), s') ∧ P xs s' ∧ xs.length = n := by
  obtain ⟨xs, s', h1, h2, h3⟩ := lcN_inv cf n hn P hl hb (n + 1) 0 [] s h0 rfl (Nat.zero_le _) (by omega)
  refine ⟨xs, s', ?_, h2, h3⟩
  unfold lcI
  rw [hl [] s h0]
  dsimp only
  rw [h1]
  rfl
theorem lc_rng {cf : CF} {t : Nat} {e : E} {r : Sl} {s : S} (n : Nat) (hn : n ≤ LIM) (P : List D → S → Prop) (h0 : P [] s)
    (hb : ∀ (i : Nat) xs s, P xs s → xs.length = i → i < n → ∃ d s', ev cf e (r.set t (some (.int (i : Nat)))) s = some (.ok d, s') ∧ P (xs ++ [d]) s') :
    ∃ xs s', lcI cf false e (.nm t) .no r s (.rng 0 n) = some (.ok (.lst xs), s') ∧ P xs s' ∧ xs.length = n :=
  lc_inv n hn P h0 (fun _ _ _ => rfl) fun i xs s hp hx hi => by
    obtain ⟨d, s', h1, h2⟩ := hb i xs s hp hx hi
    exact ⟨_, _, d, s', (by show some (D.int (0 + (i : Int))) = some (D.int (i : Int)); rw [Int.zero_add]), rfl, h1, h2⟩
theorem kLst_0f {s : S} : kLst false (some (.ok [], s)) = some (.ok (.lst []), s) := (rfl)
theorem kLst_0t {s : S} : kLst true (some (.ok [], s)) = some (.ok (.ref s.nx), s.new (.lst [])) := (rfl)
theorem kLst_1f {s : S} (a : D) : kLst false (some (.ok [a], s)) = some (.ok (.lst [a]), s) := (rfl)
theorem kLst_1t {s : S} (a : D) : kLst true (some (.ok [a], s)) = some (.ok (.ref s.nx), s.new (.lst [a])) := (rfl)
theorem kLst_2f {s : S} (a b : D) : kLst false (some (.ok [a, b], s)) = some (.ok (.lst [a, b]), s) := (rfl)
theorem kLst_2t {s : S} (a b : D) : kLst true (some (.ok [a, b], s)) = some (.ok (.ref s.nx), s.new (.lst [a, b])) := (rfl)
theorem kLst_3f {s : S} (a b c : D) : kLst false (some (.ok [a, b, c], s)) = some (.ok (.lst [a, b, c]), s) := (rfl)
theorem kLst_3t {s : S} (a b c : D) : kLst true (some (.ok [a, b, c], s)) = some (.ok (.ref s.nx), s.new (.lst [a, b, c])) := (rfl)
theorem kLst_4f {s : S} (a b c d : D) : kLst false (some (.ok [a, b, c, d], s)) = some (.ok (.lst [a, b, c, d]), s) := (rfl)
theorem kLst_4t {s : S} (a b c d : D) : kLst true (some (.ok [a, b, c, d], s)) = some (.ok (.ref s.nx), s.new (.lst [a, b, c, d])) := (rfl)
theorem kLst_5f {s : S} (a b c d e : D) : kLst false (some (.ok [a, b, c, d, e], s)) = some (.ok (.lst [a, b, c, d, e]), s) := (rfl)
theorem kLst_5t {s : S} (a b c d e : D) : kLst true (some (.ok [a, b, c, d, e], s)) = some (.ok (.ref s.nx), s.new (.lst [a, b, c, d, e])) := (rfl)
theorem kLst_6f {s : S} (a b c d e f : D) : kLst false (some (.ok [a, b, c, d, e, f], s)) = some (.ok (.lst [a, b, c, d, e, f]), s) := (rfl)
theorem kLst_6t {s : S} (a b c d e f : D) : kLst true (some (.ok [a, b, c, d, e, f], s)) = some (.ok (.ref s.nx), s.new (.lst [a, b, c, d, e, f])) := (rfl)
theorem kLst_7f {s : S} (a b c d e f g : D) : kLst false (some (.ok [a, b, c, d, e, f, g], s)) = some (.ok (.lst [a, b, c, d, e, f, g]), s) := (rfl)
theorem kLst_7t {s : S} (a b c d e f g : D) : kLst true (some (.ok [a, b, c, d, e, f, g], s)) = some (.ok (.ref s.nx), s.new (.lst [a, b, c, d, e, f, g])) := (rfl)
theorem kLst_8f {s : S} (a b c d e f g h : D) : kLst false (some (.ok [a, b, c, d, e, f, g, h], s)) = some (.ok (.lst [a, b, c, d, e, f, g, h]), s) := (rfl)
theorem kLst_8t {s : S} (a b c d e f g h : D) : kLst true (some (.ok [a, b, c, d, e, f, g, h], s)) = some (.ok (.ref s.nx), s.new (.lst [a, b, c, d, e, f, g, h])) := (rfl)
theorem at_4 {α : Type} (a b c d e : α) (t : List α) : atI (a :: b :: c :: d :: e :: t) 4 = some e := by
  unfold atI ixN
  rw [if_pos (by omega), if_pos (by simp only [List.length_cons]; omega)]
  rfl
theorem at_5 {α : Type} (a b c d e f : α) (t : List α) : atI (a :: b :: c :: d :: e :: f :: t) 5 = some f := by
  unfold atI ixN
  rw [if_pos (by omega), if_pos (by simp only [List.length_cons]; omega)]
  rfl
theorem at_6 {α : Type} (a b c d e f g : α) (t : List α) : atI (a :: b :: c :: d :: e :: f :: g :: t) 6 = some g := by
  unfold atI ixN
  rw [if_pos (by omega), if_pos (by simp only [List.length_cons]; omega)]
  rfl
theorem at_7 {α : Type} (a b c d e f g h : α) (t : List α) : atI (a :: b :: c :: d :: e :: f :: g :: h :: t) 7 = some h := by
  unfold atI ixN
  rw [if_pos (by omega), if_pos (by simp only [List.length_cons]; omega)]
  rfl
theorem at_8 {α : Type} (a b c d e f g h i : α) (t : List α) : atI (a :: b :: c :: d :: e :: f :: g :: h :: i :: t) 8 = some i := by
  unfold atI ixN
  rw [if_pos (by omega), if_pos (by simp only [List.length_cons]; omega)]
  rfl
theorem ix_str (x : List Nat) (i : Int) {s : S} (hx : x.length ≤ LIM) (h0 : 0 ≤ i) (h1 : i < x.length) : ∃ c, idxD s (.str x) (.int i) = some (.str [c]) ∧ c ∈ x := by
  obtain ⟨c, h, hc⟩ := at_get x i h0 h1
  refine ⟨c, ?_, hc⟩
  rw [i_str', if_pos hx, h]
  rfl
theorem ix_list (xs : List D) (i : Int) {s : S} (h0 : 0 ≤ i) (h1 : i < xs.length) : ∃ d, idxD s (.lst xs) (.int i) = some d ∧ d ∈ xs := by
  obtain ⟨c, h, hc⟩ := at_get xs i h0 h1
  exact ⟨c, h, hc⟩
theorem lt_5 {v : Int} (h0 : 0 ≤ v) (h : v < 5) : v = 0 ∨ v = 1 ∨ v = 2 ∨ v = 3 ∨ v = 4 := by omega
theorem lt_4 {v : Int} (h0 : 0 ≤ v) (h : v < 4) : v = 0 ∨ v = 1 ∨ v = 2 ∨ v = 3 := by omega
theorem lt_3 {v : Int} (h0 : 0 ≤ v) (h : v < 3) : v = 0 ∨ v = 1 ∨ v = 2 := by omega
theorem lt_2 {v : Int} (h0 : 0 ≤ v) (h : v < 2) : v = 0 ∨ v = 1 := by omega
theorem lt_6 {v : Int} (h0 : 0 ≤ v) (h : v < 6) : v = 0 ∨ v = 1 ∨ v = 2 ∨ v = 3 ∨ v = 4 ∨ v = 5 := by omega
/-- the law's outer loop -/
theorem law_cells {cf : CF} {b : Cs} {ns : List Int} {s : S} {q : Sl} (N : Nat) (hq : q.length = N)
    (hb : ∀ (x : Int) (r : Sl) (s : S), r.length = N → ∃ r' s', exs cf b (some (.scr (ns.map D.int)) :: some (.int x) :: r) s = some (.ok (.nx, some (.scr (ns.map D.int)) :: r'), s') ∧ r'.length = N + 1) (z : Int) :
    ∃ r' s', forI cf (.nm 1) b (some (.scr (ns.map D.int)) :: none :: q) s (.seq (.lst (ns.map D.int ++ [.int z]))) = some (.ok (.nx, r'), s') := by
  obtain ⟨r', s', h, _⟩ := for_lst (cf := cf) (b := b) (t := 1) (s := s) (xs := ns.map D.int ++ [.int z]) (r := some (.scr (ns.map D.int)) :: none :: q) (fun _ r _ => ∃ q, r = some (.scr (ns.map D.int)) :: q ∧ q.length = N + 1) ⟨none :: q, rfl, by simp [hq]⟩ (by
    rintro i r s x ⟨q, rfl, hq⟩ hx
    have hm := List.mem_of_getElem? hx
    rw [List.mem_append, List.mem_map, List.mem_singleton] at hm
    have : ∃ v : Int, x = .int v := by
      rcases hm with ⟨v, _, rfl⟩ | rfl
      · exact ⟨v, rfl⟩
      · exact ⟨z, rfl⟩
    obtain ⟨v, rfl⟩ := this
    cases q with
    | nil => cases hq
    | cons w q =>
      obtain ⟨r', s', h1, h2⟩ := hb v q s (by simpa using hq)
      exact ⟨_, s', h1, r', rfl, h2⟩)
  exact ⟨r', s', h⟩
theorem len0 {q : Sl} (h : q.length = 0) : q = [] := List.length_eq_zero_iff.mp h
theorem lenS {q : Sl} {n : Nat} (h : q.length = n + 1) : ∃ w p, q = w :: p ∧ p.length = n := by
  cases q with
  | nil => cases h
  | cons w p => exact ⟨w, p, rfl, by simpa using h⟩
theorem len1 {q : Sl} (h : q.length = 1) : ∃ w1, q = [w1] := by
  obtain ⟨w, p, rfl, g⟩ := lenS h
  cases len0 g
  exact ⟨_, rfl⟩
theorem len2 {q : Sl} (h : q.length = 2) : ∃ w1 w2, q = [w1, w2] := by
  obtain ⟨w, p, rfl, g⟩ := lenS h
  obtain ⟨w1, rfl⟩ := len1 g
  exact ⟨_, _, rfl⟩
theorem len3 {q : Sl} (h : q.length = 3) : ∃ w1 w2 w3, q = [w1, w2, w3] := by
  obtain ⟨w, p, rfl, g⟩ := lenS h
  obtain ⟨w1, w2, rfl⟩ := len2 g
  exact ⟨_, _, _, rfl⟩
theorem len4 {q : Sl} (h : q.length = 4) : ∃ w1 w2 w3 w4, q = [w1, w2, w3, w4] := by
  obtain ⟨w, p, rfl, g⟩ := lenS h
  obtain ⟨w1, w2, w3, rfl⟩ := len3 g
  exact ⟨_, _, _, _, rfl⟩
theorem len5 {q : Sl} (h : q.length = 5) : ∃ w1 w2 w3 w4 w5, q = [w1, w2, w3, w4, w5] := by
  obtain ⟨w, p, rfl, g⟩ := lenS h
  obtain ⟨w1, w2, w3, w4, rfl⟩ := len4 g
  exact ⟨_, _, _, _, _, rfl⟩
theorem len6 {q : Sl} (h : q.length = 6) : ∃ w1 w2 w3 w4 w5 w6, q = [w1, w2, w3, w4, w5, w6] := by
  obtain ⟨w, p, rfl, g⟩ := lenS h
  obtain ⟨w1, w2, w3, w4, w5, rfl⟩ := len5 g
  exact ⟨_, _, _, _, _, _, rfl⟩
theorem len7 {q : Sl} (h : q.length = 7) : ∃ w1 w2 w3 w4 w5 w6 w7, q = [w1, w2, w3, w4, w5, w6, w7] := by
  obtain ⟨w, p, rfl, g⟩ := lenS h
  obtain ⟨w1, w2, w3, w4, w5, w6, rfl⟩ := len6 g
  exact ⟨_, _, _, _, _, _, _, rfl⟩
theorem len8 {q : Sl} (h : q.length = 8) : ∃ w1 w2 w3 w4 w5 w6 w7 w8, q = [w1, w2, w3, w4, w5, w6, w7, w8] := by
  obtain ⟨w, p, rfl, g⟩ := lenS h
  obtain ⟨w1, w2, w3, w4, w5, w6, w7, rfl⟩ := len7 g
  exact ⟨_, _, _, _, _, _, _, _, rfl⟩
theorem len9 {q : Sl} (h : q.length = 9) : ∃ w1 w2 w3 w4 w5 w6 w7 w8 w9, q = [w1, w2, w3, w4, w5, w6, w7, w8, w9] := by
  obtain ⟨w, p, rfl, g⟩ := lenS h
  obtain ⟨w1, w2, w3, w4, w5, w6, w7, w8, rfl⟩ := len8 g
  exact ⟨_, _, _, _, _, _, _, _, _, rfl⟩
theorem len10 {q : Sl} (h : q.length = 10) : ∃ w1 w2 w3 w4 w5 w6 w7 w8 w9 w10, q = [w1, w2, w3, w4, w5, w6, w7, w8, w9, w10] := by
  obtain ⟨w, p, rfl, g⟩ := lenS h
  obtain ⟨w1, w2, w3, w4, w5, w6, w7, w8, w9, rfl⟩ := len9 g
  exact ⟨_, _, _, _, _, _, _, _, _, _, rfl⟩
theorem len11 {q : Sl} (h : q.length = 11) : ∃ w1 w2 w3 w4 w5 w6 w7 w8 w9 w10 w11, q = [w1, w2, w3, w4, w5, w6, w7, w8, w9, w10, w11] := by
  obtain ⟨w, p, rfl, g⟩ := lenS h
  obtain ⟨w1, w2, w3, w4, w5, w6, w7, w8, w9, w10, rfl⟩ := len10 g
  exact ⟨_, _, _, _, _, _, _, _, _, _, _, rfl⟩
theorem len12 {q : Sl} (h : q.length = 12) : ∃ w1 w2 w3 w4 w5 w6 w7 w8 w9 w10 w11 w12, q = [w1, w2, w3, w4, w5, w6, w7, w8, w9, w10, w11, w12] := by
  obtain ⟨w, p, rfl, g⟩ := lenS h
  obtain ⟨w1, w2, w3, w4, w5, w6, w7, w8, w9, w10, w11, rfl⟩ := len11 g
  exact ⟨_, _, _, _, _, _, _, _, _, _, _, _, rfl⟩
theorem len13 {q : Sl} (h : q.length = 13) : ∃ w1 w2 w3 w4 w5 w6 w7 w8 w9 w10 w11 w12 w13, q = [w1, w2, w3, w4, w5, w6, w7, w8, w9, w10, w11, w12, w13] := by
  obtain ⟨w, p, rfl, g⟩ := lenS h
  obtain ⟨w1, w2, w3, w4, w5, w6, w7, w8, w9, w10, w11, w12, rfl⟩ := len12 g
  exact ⟨_, _, _, _, _, _, _, _, _, _, _, _, _, rfl⟩
theorem len14 {q : Sl} (h : q.length = 14) : ∃ w1 w2 w3 w4 w5 w6 w7 w8 w9 w10 w11 w12 w13 w14, q = [w1, w2, w3, w4, w5, w6, w7, w8, w9, w10, w11, w12, w13, w14] := by
  obtain ⟨w, p, rfl, g⟩ := lenS h
  obtain ⟨w1, w2, w3, w4, w5, w6, w7, w8, w9, w10, w11, w12, w13, rfl⟩ := len13 g
  exact ⟨_, _, _, _, _, _, _, _, _, _, _, _, _, _, rfl⟩
theorem len15 {q : Sl} (h : q.length = 15) : ∃ w1 w2 w3 w4 w5 w6 w7 w8 w9 w10 w11 w12 w13 w14 w15, q = [w1, w2, w3, w4, w5, w6, w7, w8, w9, w10, w11, w12, w13, w14, w15] := by
  obtain ⟨w, p, rfl, g⟩ := lenS h
  obtain ⟨w1, w2, w3, w4, w5, w6, w7, w8, w9, w10, w11, w12, w13, w14, rfl⟩ := len14 g
  exact ⟨_, _, _, _, _, _, _, _, _, _, _, _, _, _, _, rfl⟩
theorem len16 {q : Sl} (h : q.length = 16) : ∃ w1 w2 w3 w4 w5 w6 w7 w8 w9 w10 w11 w12 w13 w14 w15 w16, q = [w1, w2, w3, w4, w5, w6, w7, w8, w9, w10, w11, w12, w13, w14, w15, w16] := by
  obtain ⟨w, p, rfl, g⟩ := lenS h
  obtain ⟨w1, w2, w3, w4, w5, w6, w7, w8, w9, w10, w11, w12, w13, w14, w15, rfl⟩ := len15 g
  exact ⟨_, _, _, _, _, _, _, _, _, _, _, _, _, _, _, _, rfl⟩
/-- a box of ints, and what else stays -/
def Keep (s s' : S) (n : Nat) : Prop := s'.nx = s.nx ∧ ∀ k, k ≠ n → s'.m k = s.m k
theorem ix_0 {α : Type} (a : α) (l : List α) : ixN (a :: l).length 0 = some 0 := by
  unfold ixN
  rw [if_pos (by omega), if_pos (by simp only [List.length_cons]; omega)]
  rfl
theorem ix_1 {α : Type} (a b : α) (l : List α) : ixN (a :: b :: l).length 1 = some 1 := by
  unfold ixN
  rw [if_pos (by omega), if_pos (by simp only [List.length_cons]; omega)]
  rfl
theorem ix_2 {α : Type} (a b c : α) (l : List α) : ixN (a :: b :: c :: l).length 2 = some 2 := by
  unfold ixN
  rw [if_pos (by omega), if_pos (by simp only [List.length_cons]; omega)]
  rfl
theorem i_fv (v : Int) (lo hi : Int) (h : lo ≤ v ∧ v < hi) : lo ≤ v ∧ v < hi := h
theorem cut_63 (ns : List Int) (h : ns.length ≤ 63) : cut (ns.map D.int) none (some 63) = ns.map D.int := by
  unfold cut sIx
  dsimp only
  rw [if_neg (by omega), List.drop_zero]
  apply List.take_of_length_le
  rw [List.length_map]
  omega
end Fl
namespace Fl
mutual
theorem eqD_refl : ∀ (k : Nat) (d : D), shp k d = true → eqD d d = true
  | _, .non, _ => by simp only [eqD]
  | _, .bl b, _ => by simp [eqD]
  | _, .int i, _ => by simp [eqD]
  | _, .str x, _ => by simp [eqD]
  | 0, .tup xs, h => by simp [shp] at h
  | 0, .lst xs, h => by simp [shp] at h
  | k + 1, .tup xs, h => by
    simp only [shp] at h
    simp only [eqD]
    exact eqL_refl k xs h
  | k + 1, .lst xs, h => by
    simp only [shp] at h
    simp only [eqD]
    exact eqL_refl k xs h
  | 0, .ref _, h => by simp [shp] at h
  | k + 1, .ref _, h => by simp [shp] at h
  | 0, .scr _, h => by simp [shp] at h
  | k + 1, .scr _, h => by simp [shp] at h
theorem eqL_refl : ∀ (k : Nat) (xs : List D), shpL k xs = true → eqL xs xs = true
  | _, [], _ => by simp only [eqL]
  | k, x :: xs, h => by
    simp only [shpL, Bool.and_eq_true] at h
    simp only [eqL, Bool.and_eq_true]
    exact ⟨eqD_refl k x h.1, eqL_refl k xs h.2⟩
end
theorem q_refl {s : S} {xs : List D} (h : shp 60 (.tup xs) = true) : eqS s (.tup xs) (.tup xs) = some true := by
  rw [q_tup _ _ (by rw [h]; rfl), eqD_refl 60 _ h]
theorem q_reflL {s : S} {xs : List D} (h : shp 60 (.lst xs) = true) : eqS s (.lst xs) (.lst xs) = some true := by
  rw [q_lst _ _ (by rw [h]; rfl), eqD_refl 60 _ h]
theorem cut_take (ns : List Int) (j : Int) (h : 0 ≤ j) : cut (ns.map D.int) none (some j) = (ns.take j.toNat).map D.int := by
  unfold cut sIx
  dsimp only
  rw [if_neg (by omega), List.drop_zero, Nat.sub_zero, List.map_take]
  rcases Nat.le_total j.toNat ns.length with h1 | h1
  · rw [Nat.min_eq_left (by rw [List.length_map]; exact h1)]
  · rw [Nat.min_eq_right (by rw [List.length_map]; exact h1)]
    rw [List.take_of_length_le (Nat.le_refl _), List.take_of_length_le (by rw [List.length_map]; exact h1)]
theorem for_enm {cf : CF} {t u : Nat} {b : Cs} {xs : List D} {r : Sl} {s : S} (P : Nat → Sl → S → Prop) (h0 : P 0 r s)
    (hb : ∀ (i : Nat) r s x, P i r s → xs[i]? = some x → ∃ r' s', exs cf b ((r.set t (some (.int (i : Nat)))).set u (some x)) s = some (.ok (.nx, r'), s') ∧ P (i + 1) r' s') :
    ∃ r' s', forI cf (.tp [t, u]) b r s (.enm (.lst xs)) = some (.ok (.nx, r'), s') ∧ P xs.length r' s' :=
  for_inv xs.length P h0 (fun _ _ _ _ _ => rfl) fun i r s hp hi => by
    obtain ⟨r', s', h1, h2⟩ := hb i r s xs[i] hp (List.getElem?_eq_getElem hi)
    refine ⟨.tup [.int i, xs[i]], _, r', s', .nx, ?_, rfl, h1, .inl rfl, h2⟩
    show ((xs[i]?).map fun x => D.tup [.int i, x]) = _
    rw [List.getElem?_eq_getElem hi]
    rfl
/-- the law's outer loop with numbers -/
theorem law_enm {cf : CF} {b : Cs} {xs : List D} {z : D} {s : S} {q : Sl} (N : Nat) (hq : q.length = N) (hx : ∀ x ∈ xs, ∃ v : Int, x = .int v)
    (hb : ∀ (i : Nat) (x : Int) (r : Sl) (s : S), r.length = N → ∃ r' s', exs cf b (some z :: some (.int i) :: some (.int x) :: r) s = some (.ok (.nx, some z :: r'), s') ∧ r'.length = N + 2) :
    ∃ r' s', forI cf (.tp [1, 2]) b (some z :: none :: none :: q) s (.enm (.lst xs)) = some (.ok (.nx, some z :: r'), s') := by
  obtain ⟨r', s', h, q, rfl, -⟩ := for_enm (cf := cf) (b := b) (t := 1) (u := 2) (s := s) (xs := xs) (r := some z :: none :: none :: q) (fun _ r _ => ∃ q, r = some z :: q ∧ q.length = N + 2) ⟨none :: none :: q, rfl, by simp [hq]⟩ (by
    rintro i r s x ⟨q, rfl, hq⟩ hxi
    obtain ⟨v, rfl⟩ := hx x (List.mem_of_getElem? hxi)
    match q, hq with
    | w1 :: w2 :: q, hq =>
      obtain ⟨r', s', h1, h2⟩ := hb i v q s (by simpa using hq)
      exact ⟨_, s', h1, r', rfl, h2⟩)
  exact ⟨q, s', h⟩
theorem ints_cons (v : Int) (ns : List Int) : ∀ x ∈ D.int v :: ns.map D.int, ∃ v : Int, x = .int v := by
  intro x hx
  rw [List.mem_cons, List.mem_map] at hx
  rcases hx with rfl | ⟨v, _, rfl⟩
  · exact ⟨_, rfl⟩
  · exact ⟨_, rfl⟩
theorem ints_app (v : Int) (ns : List Int) : ∀ x ∈ ns.map D.int ++ [D.int v], ∃ v : Int, x = .int v := by
  intro x hx
  rw [List.mem_append, List.mem_map, List.mem_singleton] at hx
  rcases hx with ⟨v, _, rfl⟩ | rfl
  · exact ⟨_, rfl⟩
  · exact ⟨_, rfl⟩
/-- deeds -/
inductive Dd where
  | put (p : Int) (c : Nat)
  | cut (p : Int)
  | non
def Dd.d : Dd → D
  | .put p c => .tup [.str [112, 117, 116], .int p, .str [c]]
  | .cut p => .tup [.str [99, 117, 116], .int p]
  | .non => .tup [.str [110, 111, 110, 101]]
def Dd.ok : Dd → Prop
  | .put _ c => c < 1114112
  | _ => True
theorem Dd.shp {d : Dd} (h : d.ok) : shp 60 d.d = true := by
  cases d with
  | put p c =>
    have : c < 1114112 := h
    simp [Dd.d, Fl.shp, Fl.shpL, this]
  | cut p => simp [Dd.d, Fl.shp, Fl.shpL]
  | non => simp [Dd.d, Fl.shp, Fl.shpL]
def mv : Dd → Dd → Bool → Dd
  | .put p c, .put q _, f => if q < p ∨ (q = p ∧ f = false) then .put (p + 1) c else .put p c
  | .cut p, .put q _, _ => if q ≤ p then .cut (p + 1) else .cut p
  | .put p c, .cut q, _ => if q < p then .put (p - 1) c else .put p c
  | .cut p, .cut q, _ => if q < p then .cut (p - 1) else if q = p then .non else .cut p
  | d, .non, _ => d
  | .non, _, _ => .non
end Fl
namespace Fl
theorem lcN_pure {cf : CF} {t : Nat} {iv : Iv} {c : Oe} {e : E} {r : Sl} {s : S} (xs : List D) (p : D → Bool) (g : D → D) (hn : xs.length ≤ LIM) (hl : ivLen s iv = some xs.length) (hg : ∀ i, i < xs.length → ivGet s i iv = xs[i]?)
    (ht : ∀ x ∈ xs, evT cf c (r.set t (some x)) s = some (.ok (p x), s))
    (he : ∀ x ∈ xs, p x = true → ev cf e (r.set t (some x)) s = some (.ok (g x), s)) :
    ∀ m i acc, i ≤ xs.length → acc.length ≤ i → xs.length + 1 ≤ m + i → lcN (.nm t) iv (evT cf c) (ev cf e) r m i acc s = some (.ok (acc ++ ((xs.drop i).filter p).map g), s) := by
  intro m
  induction m with
  | zero => intro i acc h1 h2 h3; omega
  | succ m ih =>
    intro i acc h1 h2 h3
    rw [lcN, hl]
    dsimp only
    by_cases h : i < xs.length
    · rw [if_pos h, hg i h, List.getElem?_eq_getElem h]
      simp only [tgSet]
      have hm : xs[i] ∈ xs := List.getElem_mem h
      rw [ht _ hm, bnd_ok, List.drop_eq_getElem_cons h, List.filter_cons]
      by_cases hp : p xs[i] = true
      · rw [if_pos hp, if_pos hp, he _ hm hp, bnd_ok, if_pos (by omega), ih (i + 1) _ (by omega) (by rw [List.length_append]; simp only [List.length_cons, List.length_nil]; omega) (by omega), List.map_cons, List.append_assoc]
        rfl
      · rw [if_neg hp, if_neg hp]
        exact ih (i + 1) acc (by omega) (by omega) (by omega)
    · rw [if_neg h, List.drop_eq_nil_of_le (by omega)]
      simp
theorem lc_pure {cf : CF} {t : Nat} {iv : Iv} {c : Oe} {e : E} {r : Sl} {s : S} (xs : List D) (p : D → Bool) (g : D → D) (hn : xs.length ≤ LIM) (hl : ivLen s iv = some xs.length) (hg : ∀ i, i < xs.length → ivGet s i iv = xs[i]?)
    (ht : ∀ x ∈ xs, evT cf c (r.set t (some x)) s = some (.ok (p x), s))
    (he : ∀ x ∈ xs, p x = true → ev cf e (r.set t (some x)) s = some (.ok (g x), s)) :
    lcI cf false e (.nm t) c r s iv = some (.ok (.lst ((xs.filter p).map g)), s) := by
  unfold lcI
  rw [hl]
  dsimp only
  rw [lcN_pure xs p g hn hl hg ht he (xs.length + 1) 0 [] (Nat.zero_le _) (Nat.zero_le _) (by omega)]
  rfl
theorem iv_ref {s : S} {n : Nat} {xs : List D} (h : s.m n = some (.lst xs)) : ivLen s (.seq (.ref n)) = some xs.length ∧ ∀ i, ivGet s i (.seq (.ref n)) = xs[i]? := by
  have e : cont s (.ref n) = some xs := by simp only [cont, lcont, h]
  constructor
  · show (cont s (.ref n)).map _ = _
    rw [e]
    rfl
  · intro i
    show (cont s (.ref n)).bind _ = _
    rw [e]
    rfl
theorem t_no {cf : CF} {r : Sl} {s : S} : evT cf .no r s = some (.ok true, s) := by simp only [evT]
def kT (q : R D) : R Bool := bnd q fun x s => lft (truth s x) s
theorem t_so {cf : CF} {r : Sl} {s : S} (e : E) : evT cf (.so e) r s = kT (ev cf e r s) := by simp only [evT]; rfl
theorem kT_b {s : S} (b : Bool) : kT (some (.ok (.bl b), s)) = some (.ok b, s) := (rfl)
theorem kSeq'_r {s : S} {n : Nat} {xs : List D} (h : s.m n = some (.lst xs)) : kSeq' (some (.ok (.ref n), s)) = some (.ok (.seq (.ref n)), s) := by
  show (match lcont s (.ref n) with | some _ => some (Rs.ok (Iv.seq (.ref n)), s) | none => none) = _
  have : lcont s (.ref n) = some xs := by simp only [lcont, h]
  rw [this]
theorem mt_ref {s : S} {n : Nat} {xs : List D} (h : s.m n = some (.lst xs)) (m : Mt) (hm : m = .append ∨ m = .pop ∨ m = .popAt ∨ m = .insert) : mtOk s m (.ref n) = true := by
  have : lcont s (.ref n) = some xs := by simp only [lcont, h]
  rcases hm with rfl | rfl | rfl | rfl <;> simp only [mtOk, this, Option.isSome]
theorem m_popAt {s : S} {n : Nat} {xs : List D} {i : Nat} {y : D} (h : s.m n = some (.lst xs)) (hi : xs[i]? = some y) (hb : i < 1000000000) : metD s .popAt (.ref n) [.int (i : Nat)] = some (.ok y, s.put n (.lst (xs.eraseIdx i))) := by
  have hl : i < xs.length := (List.getElem?_eq_some_iff.mp hi).1
  show popAtD s (.ref n) [.int (i : Nat)] = _
  simp only [popAtD, h]
  rw [if_pos (by omega)]
  unfold ixN
  rw [if_pos (by omega), if_pos (by omega)]
  simp only [Int.toNat_natCast, hi]
theorem m_insert {s : S} {n : Nat} {xs : List D} {i : Int} {y : D} (h : s.m n = some (.lst xs)) (hx : xs.length < LIM) (h0 : 0 ≤ i) (hb : i < 1000000000) : metD s .insert (.ref n) [.int i, y] = some (.ok .non, s.put n (.lst (xs.take i.toNat ++ y :: xs.drop i.toNat))) := by
  show insD s (.ref n) [.int i, y] = _
  simp only [insD, h]
  rw [if_pos ⟨hx, h0, by omega⟩]
theorem m_append {s : S} {n : Nat} {xs : List D} {y : D} (h : s.m n = some (.lst xs)) (hx : xs.length < LIM) : metD s .append (.ref n) [y] = some (.ok .non, s.put n (.lst (xs ++ [y]))) := by
  show appD s (.ref n) [y] = _
  simp only [appD, h]
  rw [if_pos hx]
theorem m_pop {s : S} {n : Nat} {xs : List D} {y : D} (h : s.m n = some (.lst (xs ++ [y]))) : metD s .pop (.ref n) [] = some (.ok y, s.put n (.lst xs)) := by
  show popD s (.ref n) [] = _
  simp only [popD, h]
  simp
theorem lr_t {s : S} (n : Int) (h : 0 ≤ n ∧ n ≤ 1000000) : lrngD s true [.int n] = some (.ok (.ref s.nx), s.new (.lst (rngL n))) := by
  show (if n ≤ 1000000 ∧ -1000000 ≤ n then mkL true (rngL n) s else none) = _
  rw [if_pos (by omega)]
  rfl
theorem lr_f {s : S} (n : Int) (h : 0 ≤ n ∧ n ≤ 1000000) : lrngD s false [.int n] = some (.ok (.lst (rngL n)), s) := by
  show (if n ≤ 1000000 ∧ -1000000 ≤ n then mkL false (rngL n) s else none) = _
  rw [if_pos (by omega)]
  rfl
def kDg2 (tab : List (List Nat × Int)) (x : D) (q : R D) : R D := bnd q fun y s => dgetD tab x y s
def kDg1 (cf : CF) (tab : List (List Nat × Int)) (d : E) (r : Sl) (q : R D) : R D := bnd q fun x s => kDg2 tab x (ev cf d r s)
theorem e_dget {cf : CF} {r : Sl} {s : S} (f : String) (tab : List (List Nat × Int)) (k d : E) : ev cf (.dget f tab k d) r s = kDg1 cf tab d r (ev cf k r s) := by simp only [ev]; rfl
theorem kDg1_ok {cf : CF} {r : Sl} {s : S} (tab : List (List Nat × Int)) (d : E) (x : D) : kDg1 cf tab d r (some (.ok x, s)) = kDg2 tab x (ev cf d r s) := (rfl)
theorem kDg2_ok {s : S} (tab : List (List Nat × Int)) (z : List Nat) (y : D) : kDg2 tab (.str z) (some (.ok y, s)) = some (.ok (match tab.find? fun p => p.1 == z with | some p => .int p.2 | none => y), s) := (rfl)
/-- older boxes stay -/
def Old (s s' : S) : Prop := s.nx ≤ s'.nx ∧ ∀ j, j < s.nx → s'.m j = s.m j
theorem Old.rfl {s : S} : Old s s := ⟨Nat.le_refl _, fun _ _ => Eq.refl _⟩
theorem Old.trans {s t u : S} (h : Old s t) (g : Old t u) : Old s u := ⟨Nat.le_trans h.1 g.1, fun j hj => (g.2 j (Nat.lt_of_lt_of_le hj h.1)).trans (h.2 j hj)⟩
theorem Old.new {s : S} (o : Ob) : Old s (s.new o) := ⟨Nat.le_succ _, fun j hj => new_ne j o (Nat.ne_of_lt hj)⟩
theorem Old.put {s t : S} {n : Nat} (o : Ob) (h : Old s t) (hn : s.nx ≤ n) : Old s (t.put n o) := ⟨h.1, fun j hj => (put_ne n j o (by omega)).trans (h.2 j hj)⟩
theorem Old.kill {s t : S} {n : Nat} (h : Old s t) (hn : s.nx ≤ n) : Old s (t.kill n) := ⟨h.1, fun j hj => by
  have : j ≠ n := by omega
  simp only [S.kill, this, if_false]
  exact h.2 j hj⟩
theorem len_filter_erase {α : Type} (f : α → Bool) : ∀ (xs : List α) (k : Nat) (y : α), xs[k]? = some y → ((xs.eraseIdx k).filter f).length + (if f y = true then 1 else 0) = (xs.filter f).length
  | x :: xs, 0, y, h => by
    simp only [List.getElem?_cons_zero, Option.some.injEq] at h
    subst h
    by_cases hf : f x = true <;> simp [List.filter_cons, hf]
  | x :: xs, k + 1, y, h => by
    simp only [List.getElem?_cons_succ] at h
    have ih := len_filter_erase f xs k y h
    rw [List.eraseIdx_cons_succ, List.filter_cons, List.filter_cons]
    by_cases hf : f x = true
    · rw [if_pos hf, if_pos hf, List.length_cons, List.length_cons]
      omega
    · rw [if_neg hf, if_neg hf]
      exact ih
theorem rng_get (n : Nat) (i : Nat) (h : i < n) : (rngL (n : Nat))[i]? = some (.int i) := by
  unfold rngL
  rw [List.getElem?_map, Int.toNat_natCast, List.getElem?_range h]
  rfl
theorem rng_len (n : Nat) : (rngL (n : Nat)).length = n := by
  unfold rngL
  simp
theorem rng_mem {n : Int} {x : D} (h : x ∈ rngL n) : ∃ i : Nat, x = .int i ∧ i < n.toNat := by
  unfold rngL at h
  rw [List.mem_map] at h
  obtain ⟨i, hi, rfl⟩ := h
  exact ⟨i, rfl, List.mem_range.mp hi⟩
theorem rng_count (f : D → Bool) (p : Nat) (hf : ∀ i : Nat, f (.int i) = decide (i < p)) : ∀ n : Nat, ((rngL (n : Nat)).filter f).length = min p n
  | 0 => by simp [rngL]
  | n + 1 => by
    have ih := rng_count f p hf n
    have : rngL ((n + 1 : Nat) : Int) = rngL (n : Nat) ++ [.int n] := by
      unfold rngL
      rw [Int.toNat_natCast, Int.toNat_natCast, List.range_succ, List.map_append]
      rfl
    rw [this, List.filter_append, List.length_append, ih, List.filter_cons, hf]
    by_cases h : n < p
    · simp only [h, decide_true, if_true, List.filter_nil, List.length_cons, List.length_nil]
      omega
    · simp only [h, decide_false, List.filter_nil]
      simp
      omega
end Fl
namespace Fl
theorem find_at {L : List D} {y : D} {j : Nat} (hj : j < L.length) (h : ∀ i x, L[i]? = some x → eqD x y = decide (i = j)) : L.findIdx? (fun x => eqD x y) = some j := by
  rw [List.findIdx?_eq_some_iff_getElem]
  refine ⟨hj, ?_, fun i hi => ?_⟩
  · rw [h j L[j] (List.getElem?_eq_getElem hj)]
    simp
  · rw [h i L[i] (List.getElem?_eq_getElem (by omega))]
    simp
    omega
theorem any_at {L : List D} {y : D} {j : Nat} (hj : j < L.length) (h : ∀ i x, L[i]? = some x → eqD x y = decide (i = j)) : (L.any fun x => eqD x y) = true := by
  rw [List.any_eq_true]
  exact ⟨L[j], List.getElem_mem hj, by rw [h j L[j] (List.getElem?_eq_getElem hj)]; simp⟩
theorem any_no {L : List D} {y : D} (h : ∀ (i : Nat) x, L[i]? = some x → eqD x y = false) : (L.any fun x => eqD x y) = false := by
  rw [List.any_eq_false]
  intro x hx
  obtain ⟨i, hi, rfl⟩ := List.getElem_of_mem hx
  rw [h i _ (List.getElem?_eq_getElem hi)]
  decide
theorem eqD_int (i j : Int) : eqD (.int i) (.int j) = decide (i = j) := by
  simp only [eqD]
  rfl
theorem c_nin_ref {s : S} {n : Nat} {xs : List D} {i : Int} (h : s.m n = some (.lst xs)) (hf : xs.all flat = true) : cmpD s .nin (.int i) (.ref n) = some (!xs.any fun x => eqD x (.int i)) := by
  have e : cont s (.ref n) = some xs := by simp only [cont, lcont, h]
  have e1 : dcont s (.ref n) = none := by simp only [dcont, h]
  have e2 : flat (.int i) = true := rfl
  have e3 : tcont s (.ref n) = none := by simp only [tcont, h]
  simp only [cmpD, e1, e3, inD, e, Option.bind_some, hf, e2, Bool.and_self, if_true, Option.map_some]
theorem m_index {s : S} {n : Nat} {xs : List D} {i : Int} {j : Nat} (h : s.m n = some (.lst xs)) (hf : xs.all flat = true) (hj : xs.findIdx? (fun x => eqD x (.int i)) = some j) : metD s .index (.ref n) [.int i] = some (.ok (.int j), s) := by
  have e : lcont s (.ref n) = some xs := by simp only [lcont, h]
  show ixOfD s (.ref n) [.int i] = _
  simp only [ixOfD, e, hf, hj]
  rfl
theorem mt_ix {s : S} {n : Nat} {xs : List D} (h : s.m n = some (.lst xs)) : mtOk s .index (.ref n) = true := by
  have : lcont s (.ref n) = some xs := by simp only [lcont, h]
  simp only [mtOk, this, Option.isSome]
theorem b_len1 {s : S} (c : Nat) : biD s .len [.str [c]] = some (.ok (.int 1), s) := (rfl)
theorem b_lenStr {s : S} {x : List Nat} (h : x.length ≤ LIM) : biD s .len [.str x] = some (.ok (.int x.length), s) := by
  rw [b_lenS, if_pos h]
theorem cut_to {α : Type} (x : List α) (p : Nat) : cut x none (some (p : Int)) = x.take p := by
  unfold cut sIx
  dsimp only
  rw [if_neg (by omega), List.drop_zero, Nat.sub_zero, Int.toNat_natCast]
  rcases Nat.le_total p x.length with h1 | h1
  · rw [Nat.min_eq_left h1]
  · rw [Nat.min_eq_right h1, List.take_of_length_le (Nat.le_refl _), List.take_of_length_le h1]
theorem cut_from {α : Type} (x : List α) (p : Nat) : cut x (some (p : Int)) none = x.drop p := by
  unfold cut sIx
  dsimp only
  rw [if_neg (by omega), Int.toNat_natCast]
  rcases Nat.le_total p x.length with h1 | h1
  · rw [Nat.min_eq_left h1, List.take_of_length_le (by rw [List.length_drop]; omega)]
  · rw [Nat.min_eq_right h1, List.drop_eq_nil_of_le (Nat.le_refl _), List.drop_eq_nil_of_le h1]
    simp
theorem cut_mid {α : Type} (x : List α) (p q : Nat) (h : p ≤ q) : cut x (some (p : Int)) (some (q : Int)) = (x.take q).drop p := by
  unfold cut sIx
  dsimp only
  rw [if_neg (by omega), if_neg (by omega), Int.toNat_natCast, Int.toNat_natCast, List.drop_take]
  rcases Nat.le_total q x.length with h1 | h1
  · rw [Nat.min_eq_left h1, Nat.min_eq_left (by omega)]
  · rcases Nat.le_total p x.length with h2 | h2
    · rw [Nat.min_eq_right h1, Nat.min_eq_left h2, List.take_of_length_le (by rw [List.length_drop]; omega), List.take_of_length_le (by rw [List.length_drop]; omega)]
    · rw [Nat.min_eq_right h1, Nat.min_eq_right h2, List.drop_eq_nil_of_le (Nat.le_refl _), List.drop_eq_nil_of_le h2]
      simp
theorem sl_str {s : S} {bx : Bool} {x : List Nat} {l h : Option Int} (hx : x.length ≤ LIM) : sliD s bx (.str x) l h = some (.ok (.str (cut x l h)), s) := by
  show (if x.length ≤ LIM then some (Rs.ok (D.str (cut x l h)), s) else none) = _
  rw [if_pos hx]
end Fl
namespace Fl
theorem for_lst2 {cf : CF} {t u : Nat} {b : Cs} {xs : List D} {r : Sl} {s : S} (P : Nat → Sl → S → Prop) (h0 : P 0 r s)
    (hb : ∀ (i : Nat) r s x, P i r s → xs[i]? = some x → ∃ y z, x = .tup [y, z] ∧ ∃ r' s', exs cf b ((r.set t (some y)).set u (some z)) s = some (.ok (.nx, r'), s') ∧ P (i + 1) r' s') :
    ∃ r' s', forI cf (.tp [t, u]) b r s (.seq (.lst xs)) = some (.ok (.nx, r'), s') ∧ P xs.length r' s' :=
  for_inv xs.length P h0 (fun _ _ _ _ _ => rfl) fun i r s hp hi => by
    obtain ⟨y, z, hx, r', s', h1, h2⟩ := hb i r s xs[i] hp (List.getElem?_eq_getElem hi)
    exact ⟨.tup [y, z], _, r', s', .nx, by rw [← hx]; exact List.getElem?_eq_getElem hi, rfl, h1, .inl rfl, h2⟩
theorem txts_map : ∀ cs : List Nat, txts (cs.map fun c => D.str [c]) = some (cs.map fun c => [c])
  | [] => rfl
  | c :: cs => by
    rw [List.map_cons, List.map_cons]
    simp only [txts, txtOf, txts_map cs]
    rfl
theorem join_map : ∀ cs : List Nat, joinT [] (cs.map fun c => [c]) = cs
  | [] => rfl
  | [c] => rfl
  | c :: d :: cs => by
    have ih := join_map (d :: cs)
    rw [List.map_cons] at ih
    rw [List.map_cons, List.map_cons]
    simp only [joinT, List.nil_append]
    rw [ih]
    rfl
theorem sum_map : ∀ cs : List Nat, sumLen (cs.map fun c => [c]) = cs.length
  | [] => rfl
  | c :: cs => by
    rw [List.map_cons]
    simp only [sumLen, sum_map cs, List.length_cons, List.length_nil]
    omega
theorem m_join {s : S} (cs : List Nat) (h : cs.length ≤ 1000000) : metD s .join (.str []) [.lst (cs.map fun c => D.str [c])] = some (.ok (.str cs), s) := by
  show joinD s (.str []) [.lst (cs.map fun c => D.str [c])] = _
  simp only [joinD, cont, lcont, Option.bind_some, txts_map]
  rw [if_pos (by rw [sum_map]; simp only [List.length_nil, Nat.zero_mul, Nat.add_zero]; unfold LIM; omega), join_map]
theorem mt_join {s : S} (x : List Nat) : mtOk s .join (.str x) = true := by
  simp only [mtOk]
theorem kMet1_join {cf : CF} {r : Sl} {s : S} (es : Es) (x : List Nat) : kMet1 cf .join es r (some (.ok (.str x), s)) = kMet2 .join (.str x) (evs cf es r s) := by
  have h : mtOk s .join (.str x) = true := mt_join x
  rw [kMet1_ok, if_pos h]
end Fl
namespace Fl
theorem law_for {cf : CF} {b : Cs} {xs : List D} {z : D} {s : S} {q : Sl} (N : Nat) (hq : q.length = N) (hx : ∀ x ∈ xs, ∃ v : Int, x = .int v)
    (hb : ∀ (x : Int) (r : Sl) (s : S), r.length = N → ∃ r' s', exs cf b (some z :: some (.int x) :: r) s = some (.ok (.nx, some z :: r'), s') ∧ r'.length = N + 1) :
    ∃ r' s', forI cf (.nm 1) b (some z :: none :: q) s (.seq (.lst xs)) = some (.ok (.nx, some z :: r'), s') := by
  obtain ⟨r', s', h, q, rfl, -⟩ := for_lst (cf := cf) (b := b) (t := 1) (s := s) (xs := xs) (r := some z :: none :: q) (fun _ r _ => ∃ q, r = some z :: q ∧ q.length = N + 1) ⟨none :: q, rfl, by simp [hq]⟩ (by
    rintro i r s x ⟨q, rfl, hq⟩ hxi
    obtain ⟨v, rfl⟩ := hx x (List.mem_of_getElem? hxi)
    match q, hq with
    | w1 :: q, hq =>
      obtain ⟨r', s', h1, h2⟩ := hb v q s (by simpa using hq)
      exact ⟨_, s', h1, r', rfl, h2⟩)
  exact ⟨q, s', h⟩
theorem ints_2app (u v : Int) (ns : List Int) : ∀ x ∈ [D.int u, D.int v] ++ ns.map D.int, ∃ v : Int, x = .int v := by
  intro x hx
  rw [List.mem_append, List.mem_cons, List.mem_singleton, List.mem_map] at hx
  rcases hx with (rfl | rfl) | ⟨v, _, rfl⟩ <;> exact ⟨_, rfl⟩
theorem q_tup2 {s : S} {a b : D} (h : shp 59 a = true) (g : shp 59 b = true) : eqS s (.tup [a, b]) (.tup [a, b]) = some true := by
  apply q_refl
  simp only [shp, shpL, h, g, Bool.and_self]
section
variable {cf : CF} {r : Sl} {s : S}
def fldD (s : S) (f : String) (x : D) : R D := match x with
    | .ref n => match s.m n with
      | some (.ins _ fs) => lft (fs.lookup f) s
      | _ => none
    | _ => none
def kFld (f : String) (q : R D) : R D := bnd q fun x s => fldD s f x
theorem e_fld (o : E) (f : String) : ev cf (.fld o f) r s = kFld f (ev cf o r s) := by simp only [ev]; rfl
theorem kFld_ok (f : String) (x : D) : kFld f (some (.ok x, s)) = fldD s f x := (rfl)
theorem fld_ok {n : Nat} {c : String} {fs : List (String × D)} (f : String) (h : s.m n = some (.ins c fs)) : fldD s f (.ref n) = lft (fs.lookup f) s := by
  simp only [fldD, h]
def kOwn2 (cf : CF) (c m : String) (x : D) (q : R (List D)) : R D := bnd q fun xs s => if c = "" then none else cf c m (x :: xs) s
def kOwn (cf : CF) (m : String) (es : Es) (r : Sl) (q : R D) : R D := bnd q fun x s => match x with
    | .ref n => match s.m n with
      | some (.ins c fs) => match fs.lookup m with
        | none => kOwn2 cf c m x (evs cf es r s)
        | some _ => none
      | _ => none
    | _ => none
theorem e_own (o : E) (m : String) (es : Es) : ev cf (.own o m es) r s = kOwn cf m es r (ev cf o r s) := by simp only [ev]; rfl
theorem kOwn_ok {n : Nat} {c : String} {fs : List (String × D)} (m : String) (es : Es) (h : s.m n = some (.ins c fs)) (hl : fs.lookup m = none) : kOwn cf m es r (some (.ok (.ref n), s)) = kOwn2 cf c m (.ref n) (evs cf es r s) := by
  show (match s.m n with
      | some (.ins c fs) => match fs.lookup m with
        | none => kOwn2 cf c m (.ref n) (evs cf es r s)
        | some _ => none
      | _ => none) = _
  rw [h]
  dsimp only
  rw [hl]
theorem kOwn2_ok (c m : String) (x : D) (xs : List D) (hc : c ≠ "") : kOwn2 cf c m x (some (.ok xs, s)) = cf c m (x :: xs) s := by
  show (if c = "" then none else cf c m (x :: xs) s) = _
  rw [if_neg hc]
def kMak2 (n : Nat) (q : R D) : R D := bnd q fun v s => match v with
    | .non => some (.ok (.ref n), s)
    | _ => none
def kMak (cf : CF) (c : String) (q : R (List D)) : R D := bnd q fun xs s => kMak2 s.nx (cf c "__init__" (.ref s.nx :: xs) (s.new (.ins c [])))
theorem e_mak (c : String) (es : Es) : ev cf (.mak c es) r s = kMak cf c (evs cf es r s) := by simp only [ev]; rfl
theorem kMak_ok (c : String) (xs : List D) : kMak cf c (some (.ok xs, s)) = kMak2 s.nx (cf c "__init__" (.ref s.nx :: xs) (s.new (.ins c []))) := (rfl)
theorem kMak2_ok (n : Nat) : kMak2 n (some (.ok .non, s)) = some (.ok (.ref n), s) := (rfl)
def setfD (r : Sl) (f : String) (v x : D) (s : S) : XR := match x with
    | .ref n => match s.m n with
      | some (.ins c fs) => if fs.length < 900 then some (.ok (.nx, r), s.put n (.ins c (setF f v fs))) else none
      | _ => none
    | _ => none
def kSf2 (f : String) (r : Sl) (v : D) (q : R D) : XR := bnd q fun x s => setfD r f v x s
def kSf (cf : CF) (o : E) (f : String) (r : Sl) (q : R D) : XR := bnd q fun v s => kSf2 f r v (ev cf o r s)
theorem s_setf (o : E) (f : String) (e : E) : ex cf (.setf o f e) r s = kSf cf o f r (ev cf e r s) := by simp only [ex]; rfl
theorem kSf_ok (o : E) (f : String) (v : D) : kSf cf o f r (some (.ok v, s)) = kSf2 f r v (ev cf o r s) := (rfl)
theorem kSf2_ok (f : String) (v x : D) : kSf2 f r v (some (.ok x, s)) = setfD r f v x s := (rfl)
theorem setf_ok {n : Nat} {c : String} {fs : List (String × D)} (f : String) (v : D) (h : s.m n = some (.ins c fs)) (hl : fs.length < 900) : setfD r f v (.ref n) s = some (.ok (.nx, r), s.put n (.ins c (setF f v fs))) := by
  simp only [setfD, h, hl, if_true]
def kAf2 (r : Sl) (n : Nat) (c0 f : String) (p : Bop) (a : Int) (q : R D) : XR := bnd q fun y s => match y with
          | .int b => match s.m n with
            | some (.ins c fs) => if c = c0 ∧ fs.length < 900 then match p with
              | .add => some (.ok (.nx, r), s.put n (.ins c (setF f (.int (a + b)) fs)))
              | .sub => some (.ok (.nx, r), s.put n (.ins c (setF f (.int (a - b)) fs)))
              | _ => none
              else none
            | _ => none
          | _ => none
def kAf (cf : CF) (f : String) (p : Bop) (e : E) (r : Sl) (q : R D) : XR := bnd q fun x s => match x with
    | .ref n => match s.m n with
      | some (.ins c0 fs) => match fs.lookup f with
        | some (.int a) => kAf2 r n c0 f p a (ev cf e r s)
        | _ => none
      | _ => none
    | _ => none
theorem s_augf (o : E) (f : String) (p : Bop) (e : E) : ex cf (.augf o f p e) r s = kAf cf f p e r (ev cf o r s) := by simp only [ex]; rfl
theorem kAf_ok {n : Nat} {c : String} {fs : List (String × D)} {a : Int} (f : String) (p : Bop) (e : E) (h : s.m n = some (.ins c fs)) (hl : fs.lookup f = some (.int a)) : kAf cf f p e r (some (.ok (.ref n), s)) = kAf2 r n c f p a (ev cf e r s) := by
  show (match s.m n with
      | some (.ins c0 fs) => match fs.lookup f with
        | some (.int a) => kAf2 r n c0 f p a (ev cf e r s)
        | _ => none
      | _ => none) = _
  rw [h]
  dsimp only
  rw [hl]
theorem kAf2_add {n : Nat} {c : String} {fs : List (String × D)} {a b : Int} (f : String) (h : s.m n = some (.ins c fs)) (hl : fs.length < 900) : kAf2 r n c f .add a (some (.ok (.int b), s)) = some (.ok (.nx, r), s.put n (.ins c (setF f (.int (a + b)) fs))) := by
  show (match s.m n with
            | some (.ins c1 fs) => if c1 = c ∧ fs.length < 900 then some (Rs.ok (Fw.nx, r), s.put n (.ins c1 (setF f (.int (a + b)) fs))) else none
            | _ => none) = _
  rw [h]
  dsimp only
  rw [if_pos ⟨rfl, hl⟩]
def kPar2 (i j : Nat) (r : Sl) (x : D) (q : R D) : XR := bnd q fun y s => some (.ok (.nx, (r.set i (some x)).set j (some y)), s)
def kPar (cf : CF) (i j : Nat) (b : E) (r : Sl) (q : R D) : XR := bnd q fun x s => kPar2 i j r x (ev cf b r s)
theorem s_par (i j : Nat) (a b : E) : ex cf (.par i j a b) r s = kPar cf i j b r (ev cf a r s) := by simp only [ex]; rfl
theorem kPar_ok (i j : Nat) (b : E) (x : D) : kPar cf i j b r (some (.ok x, s)) = kPar2 i j r x (ev cf b r s) := (rfl)
theorem kPar2_ok (i j : Nat) (x y : D) : kPar2 i j r x (some (.ok y, s)) = some (.ok (.nx, (r.set i (some x)).set j (some y)), s) := (rfl)
def kDsp (ks : List (List Nat)) (q : R (List D)) : R D := bnd q fun xs s => if xs.length = ks.length ∧ ks.length ≤ 15 then some (.ok (.ref s.nx), s.new (.dic (dmk ks xs))) else none
theorem e_dsp (ks : List (List Nat)) (vs : Es) : ev cf (.dsp ks vs) r s = kDsp ks (evs cf vs r s) := by simp only [ev]; rfl
theorem kDsp_ok (ks : List (List Nat)) (xs : List D) (h : xs.length = ks.length ∧ ks.length ≤ 15) : kDsp ks (some (.ok xs, s)) = some (.ok (.ref s.nx), s.new (.dic (dmk ks xs))) := by
  show (if xs.length = ks.length ∧ ks.length ≤ 15 then some (Rs.ok (D.ref s.nx), s.new (.dic (dmk ks xs))) else none) = _
  rw [if_pos h]
theorem i_dic {n : Nat} {kvs : List (DK × D)} {k : D} {kk : DK} (h : s.m n = some (.dic kvs)) (hk : keyOf k = some kk) : idxD s (.ref n) k = dlook kvs kk := by
  have : dcont s (.ref n) = some kvs := by simp only [dcont, h]
  simp only [idxD, this, hk, Option.bind_some]
theorem b_lenDic {n : Nat} {kvs : List (DK × D)} (h : s.m n = some (.dic kvs)) : biD s .len [.ref n] = some (.ok (.int kvs.length), s) := by
  have : dcont s (.ref n) = some kvs := by simp only [dcont, h]
  show lenD s [.ref n] = _
  simp only [lenD, this]
theorem c_inDic {n : Nat} {kvs : List (DK × D)} {a : D} {k : DK} (h : s.m n = some (.dic kvs)) (hk : keyOf a = some k) : cmpD s .inn a (.ref n) = some (dlook kvs k).isSome := by
  have hd : dcont s (.ref n) = some kvs := by simp only [dcont, h]
  cases a <;> first | (cases hk; done) | (simp only [cmpD, hd, hk, Option.map_some])
def kRpt2 (bx : Bool) (x : D) (q : R D) : R D := bnd q fun y s => match ccont s x, y with
    | some xs, .int k => if -(2 ^ 63) ≤ k ∧ k < 2 ^ 63 ∧ xs.length * k.toNat ≤ LIM then mkL bx (List.replicate k.toNat xs).flatten s else none
    | _, _ => none
def kRpt (cf : CF) (bx : Bool) (b : E) (r : Sl) (q : R D) : R D := bnd q fun x s => kRpt2 bx x (ev cf b r s)
def kRev (bx : Bool) (q : R D) : R D := bnd q fun x s => match x with
    | .str z => if z.length ≤ LIM then some (.ok (.str z.reverse), s) else none
    | .tup zs => some (.ok (.tup zs.reverse), s)
    | x => match lcont s x with
      | some xs => mkL bx xs.reverse s
      | none => none
theorem e_rev (bx : Bool) (a : E) : ev cf (.rev bx a) r s = kRev bx (ev cf a r s) := by simp only [ev]; rfl
theorem kRev_t (bx : Bool) (xs : List D) : kRev bx (some (.ok (.tup xs), s)) = some (.ok (.tup xs.reverse), s) := (rfl)
theorem kRev_s (bx : Bool) (x : List Nat) : kRev bx (some (.ok (.str x), s)) = if x.length ≤ LIM then some (.ok (.str x.reverse), s) else none := (rfl)
theorem e_dnt : ev cf .dnt r s = some (.ok (.ref s.nx), s.new (.dit [])) := by simp only [ev]
def kRpr (q : R D) : R D := bnd q fun x s => lft (reprD s x) s
theorem e_rpr (a : E) : ev cf (.rpr a) r s = kRpr (ev cf a r s) := by simp only [ev]; rfl
theorem kRpr_ok (x : D) : kRpr (some (.ok x, s)) = lft (reprD s x) s := (rfl)
def kDv3 (x y : D) (q : R D) : R D := bnd q fun z s => dgvD s x y z
def kDv2 (cf : CF) (d : E) (r : Sl) (x : D) (q : R D) : R D := bnd q fun y s => kDv3 x y (ev cf d r s)
def kDv1 (cf : CF) (k d : E) (r : Sl) (q : R D) : R D := bnd q fun x s => if (dcont s x).isSome || (tcont s x).isSome then kDv2 cf d r x (ev cf k r s) else none
theorem e_dgv (o k d : E) : ev cf (.dgv o k d) r s = kDv1 cf k d r (ev cf o r s) := by simp only [ev]; rfl
theorem kDv1_dic (k d : E) (n : Nat) (kvs : List (DK × D)) (h : s.m n = some (.dic kvs)) : kDv1 cf k d r (some (.ok (.ref n), s)) = kDv2 cf d r (.ref n) (ev cf k r s) := by
  show (if (dcont s (.ref n)).isSome || (tcont s (.ref n)).isSome then _ else _) = _
  have : dcont s (.ref n) = some kvs := by simp only [dcont, h]
  rw [this]
  rfl
theorem kDv1_dit (k d : E) (n : Nat) (kvs : List (List DK × D)) (h : s.m n = some (.dit kvs)) : kDv1 cf k d r (some (.ok (.ref n), s)) = kDv2 cf d r (.ref n) (ev cf k r s) := by
  show (if (dcont s (.ref n)).isSome || (tcont s (.ref n)).isSome then _ else _) = _
  have h1 : dcont s (.ref n) = none := by simp only [dcont, h]
  have : tcont s (.ref n) = some kvs := by simp only [tcont, h]
  rw [this, h1]
  rfl
theorem kDv2_ok (d : E) (x y : D) : kDv2 cf d r x (some (.ok y, s)) = kDv3 x y (ev cf d r s) := (rfl)
theorem kDv3_dic (n : Nat) (y z : D) (k : DK) (kvs : List (DK × D)) (h : s.m n = some (.dic kvs)) (hk : keyOf y = some k) : kDv3 (.ref n) y (some (.ok z, s)) = some (.ok ((dlook kvs k).getD z), s) := by
  show dgvD s (.ref n) y z = _
  have : dcont s (.ref n) = some kvs := by simp only [dcont, h]
  simp only [dgvD, this, hk]
theorem kDv3_dit (n : Nat) (y z : D) (k : List DK) (kvs : List (List DK × D)) (h : s.m n = some (.dit kvs)) (hk : keyT y = some k) : kDv3 (.ref n) y (some (.ok z, s)) = some (.ok ((dlook kvs k).getD z), s) := by
  show dgvD s (.ref n) y z = _
  have h1 : dcont s (.ref n) = none := by simp only [dcont, h]
  have : tcont s (.ref n) = some kvs := by simp only [tcont, h]
  simp only [dgvD, this, h1, hk]
theorem c_inDit {n : Nat} {kvs : List (List DK × D)} {a : D} {k : List DK} (h : s.m n = some (.dit kvs)) (hk : keyT a = some k) : cmpD s .inn a (.ref n) = some (dlook kvs k).isSome := by
  have h1 : dcont s (.ref n) = none := by simp only [dcont, h]
  have hd : tcont s (.ref n) = some kvs := by simp only [tcont, h]
  cases a <;> first | (cases hk; done) | (simp only [cmpD, h1, hd, hk, Option.map_some])
theorem kRev_f (xs : List D) : kRev false (some (.ok (.lst xs), s)) = some (.ok (.lst xs.reverse), s) := (rfl)
def kDsv2 (x : D) (q : R D) : R D := bnd q fun y s => match x with
    | .str z => some (.ok (.ref s.nx), s.new (.dic (dmk [z] [y])))
    | _ => none
def kDsv (cf : CF) (b : E) (r : Sl) (q : R D) : R D := bnd q fun x s => kDsv2 x (ev cf b r s)
theorem e_dsv (a b : E) : ev cf (.dsv a b) r s = kDsv cf b r (ev cf a r s) := by simp only [ev]; rfl
theorem kDsv_ok (b : E) (x : D) : kDsv cf b r (some (.ok x, s)) = kDsv2 x (ev cf b r s) := (rfl)
theorem kDsv2_ok (z : List Nat) (y : D) : kDsv2 (.str z) (some (.ok y, s)) = some (.ok (.ref s.nx), s.new (.dic (dmk [z] [y]))) := (rfl)
def kLset (q : R D) : R D := bnd q fun x s => lft ((lcont s x).bind lsetD) s
theorem e_lset (a : E) : ev cf (.lset a) r s = kLset (ev cf a r s) := by simp only [ev]; rfl
theorem kLset_l (xs : List D) : kLset (some (.ok (.lst xs), s)) = lft (lsetD xs) s := (rfl)
theorem e_rpt (bx : Bool) (a b : E) : ev cf (.rpt bx a b) r s = kRpt cf bx b r (ev cf a r s) := by simp only [ev]; rfl
theorem kRpt_ok (bx : Bool) (b : E) (x : D) : kRpt cf bx b r (some (.ok x, s)) = kRpt2 bx x (ev cf b r s) := (rfl)
theorem kRpt2_f (xs : List D) (k : Nat) (h : xs.length * k ≤ 1000000 ∧ k ≤ 1000000) : kRpt2 false (.lst xs) (some (.ok (.int (k : Nat)), s)) = some (.ok (.lst (List.replicate k xs).flatten), s) := by
  have hc : ccont s (.lst xs) = some xs := by simp only [ccont]
  unfold kRpt2
  rw [bnd_ok, hc]
  dsimp only
  rw [Int.toNat_natCast, if_pos ⟨by omega, by omega, by unfold LIM; omega⟩]
  simp only [mkL]
  rfl
def kIsit (ts : List Ty) (q : R D) : R D := bnd q fun x s => lft ((isiTD s x ts).map .bl) s
theorem e_isit (a : E) (ts : List Ty) : ev cf (.isit a ts) r s = kIsit ts (ev cf a r s) := by simp only [ev]; rfl
theorem kIsit_ok (ts : List Ty) (x : D) : kIsit ts (some (.ok x, s)) = lft ((isiTD s x ts).map .bl) s := (rfl)
theorem nt_int (i : Int) (ts : List Ty) : isiTD s (.int i) ts = some (ts.any fun t => subTy .int t) := (rfl)
theorem nt_str (i : List Nat) (ts : List Ty) : isiTD s (.str i) ts = some (ts.any fun t => subTy .str t) := (rfl)
theorem nt_bl (i : Bool) (ts : List Ty) : isiTD s (.bl i) ts = some (ts.any fun t => subTy .bool t) := (rfl)
theorem nt_tup (i : List D) (ts : List Ty) : isiTD s (.tup i) ts = some (ts.any fun t => subTy .tuple t) := (rfl)
theorem nt_lst (i : List D) (ts : List Ty) : isiTD s (.lst i) ts = some (ts.any fun t => subTy .list t) := (rfl)
theorem nt_non (ts : List Ty) : isiTD s .non ts = some false := (rfl)
theorem n_ref {n : Nat} {xs : List D} (h : s.m n = some (.lst xs)) (t : Ty) : isiD s (.ref n) t = some (subTy .list t) := by
  have : tyOf s (.ref n) = some .list := by simp only [tyOf, h]
  simp only [isiD, this, Option.map_some]
theorem nt_ref {n : Nat} {xs : List D} (h : s.m n = some (.lst xs)) (ts : List Ty) : isiTD s (.ref n) ts = some (ts.any fun t => subTy .list t) := by
  have : tyOf s (.ref n) = some .list := by simp only [tyOf, h]
  simp only [isiTD, this, Option.map_some]
end
theorem for_zip {cf : CF} {t u : Nat} {b : Cs} {xs ys : List D} {r : Sl} {s : S} (hl : xs.length = ys.length) (P : Nat → Sl → S → Prop) (h0 : P 0 r s)
    (hb : ∀ (i : Nat) r s x y, P i r s → xs[i]? = some x → ys[i]? = some y → ∃ r' s', exs cf b ((r.set t (some x)).set u (some y)) s = some (.ok (.nx, r'), s') ∧ P (i + 1) r' s') :
    ∃ r' s', forI cf (.tp [t, u]) b r s (.zip (.lst xs) (.lst ys)) = some (.ok (.nx, r'), s') ∧ P xs.length r' s' :=
  for_inv xs.length P h0 (fun _ _ _ _ _ => by
    show some (min xs.length ys.length) = _
    rw [hl, Nat.min_self]) fun i r s hp hi => by
    obtain ⟨r', s', h1, h2⟩ := hb i r s xs[i] (ys[i]'(by omega)) hp (List.getElem?_eq_getElem hi) (List.getElem?_eq_getElem (by omega))
    refine ⟨.tup [xs[i], ys[i]'(by omega)], _, r', s', .nx, ?_, rfl, h1, .inl rfl, h2⟩
    show ((xs[i]?).bind fun x => (ys[i]?).map fun y => D.tup [x, y]) = _
    rw [List.getElem?_eq_getElem hi, List.getElem?_eq_getElem (by omega : i < ys.length)]
    rfl
def kZip2 (x : D) (q : R D) : R Iv := bnd q fun y s => match lcont s x, lcont s y with
    | some _, some _ => some (.ok (.zip x y), s)
    | _, _ => none
def kZip (cf : CF) (b : E) (r : Sl) (q : R D) : R Iv := bnd q fun x s => kZip2 x (ev cf b r s)
theorem t_zip {cf : CF} {r : Sl} {s : S} (a b : E) : evI cf (.zip a b) r s = kZip cf b r (ev cf a r s) := by simp only [evI]; rfl
theorem kZip_ok {cf : CF} {r : Sl} {s : S} (b : E) (x : D) : kZip cf b r (some (.ok x, s)) = kZip2 x (ev cf b r s) := (rfl)
theorem kZip2_l {s : S} (xs ys : List D) : kZip2 (.lst xs) (some (.ok (.lst ys), s)) = some (.ok (.zip (.lst xs) (.lst ys)), s) := (rfl)
theorem c_ninT {s : S} (x : List Nat) (xs : List D) (h : xs.all flat = true) : cmpD s .nin (.str x) (.tup xs) = some (!xs.any fun y => eqD y (.str x)) := by
  have e2 : flat (.str x) = true := rfl
  have e1 : dcont s (.tup xs) = none := rfl
  have e3 : tcont s (.tup xs) = none := rfl
  have e : cont s (.tup xs) = some xs := rfl
  simp only [cmpD, e1, e3, inD, e, Option.bind_some, h, e2, Bool.and_self, if_true, Option.map_some]
theorem c_innT {s : S} (x : List Nat) (xs : List D) (h : xs.all flat = true) : cmpD s .inn (.str x) (.tup xs) = some (xs.any fun y => eqD y (.str x)) := by
  have e2 : flat (.str x) = true := rfl
  have e1 : dcont s (.tup xs) = none := rfl
  have e3 : tcont s (.tup xs) = none := rfl
  have e : cont s (.tup xs) = some xs := rfl
  simp only [cmpD, e1, e3, inD, e, Option.bind_some, h, e2, Bool.and_self, if_true, Option.map_some]
end Fl
namespace Fl
section
variable {cf : CF} {r : Sl} {s : S}
theorem m_put (n k : Nat) (o : Ob) : (s.put n o).m k = if k = n then some o else s.m k := (rfl)
theorem m_new (k : Nat) (o : Ob) : (s.new o).m k = if k = s.nx then some o else s.m k := (rfl)
theorem m_kill (n k : Nat) : (s.kill n).m k = if k = n then none else s.m k := (rfl)
theorem nx_put (n : Nat) (o : Ob) : (s.put n o).nx = s.nx := (rfl)
theorem nx_new (o : Ob) : (s.new o).nx = s.nx + 1 := (rfl)
theorem nx_kill (n : Nat) : (s.kill n).nx = s.nx := (rfl)
def idxO (k : D) : Option Ob → Option D
  | some (.lst xs) => match k with
    | .int i => atI xs i
    | _ => none
  | some (.dic kvs) => (keyOf k).bind (dlook kvs)
  | some (.dit kvs) => (keyT k).bind (dlook kvs)
  | _ => none
theorem idx_ref (n : Nat) (k : D) : idxD s (.ref n) k = idxO k (s.m n) := by
  cases h : s.m n with
  | none =>
    have h1 : dcont s (.ref n) = none := by simp only [dcont, h]
    have h3 : tcont s (.ref n) = none := by simp only [tcont, h]
    have h2 : cont s (.ref n) = none := by simp only [cont, lcont, h]
    cases k <;> simp only [idxD, h1, h3, idxL, h2, Option.bind_none, idxO]
  | some o =>
    cases o with
    | lst xs =>
      have h1 : dcont s (.ref n) = none := by simp only [dcont, h]
      have h3 : tcont s (.ref n) = none := by simp only [tcont, h]
      have h2 : cont s (.ref n) = some xs := by simp only [cont, lcont, h]
      cases k <;> simp only [idxD, h1, h3, idxL, h2, Option.bind_some, idxO]
    | exc c =>
      have h1 : dcont s (.ref n) = none := by simp only [dcont, h]
      have h3 : tcont s (.ref n) = none := by simp only [tcont, h]
      have h2 : cont s (.ref n) = none := by simp only [cont, lcont, h]
      cases k <;> simp only [idxD, h1, h3, idxL, h2, Option.bind_none, idxO]
    | ins c fs =>
      have h1 : dcont s (.ref n) = none := by simp only [dcont, h]
      have h3 : tcont s (.ref n) = none := by simp only [tcont, h]
      have h2 : cont s (.ref n) = none := by simp only [cont, lcont, h]
      cases k <;> simp only [idxD, h1, h3, idxL, h2, Option.bind_none, idxO]
    | dic kvs =>
      have h1 : dcont s (.ref n) = some kvs := by simp only [dcont, h]
      simp only [idxD, h1, idxO]
    | dit kvs =>
      have h1 : dcont s (.ref n) = none := by simp only [dcont, h]
      have h3 : tcont s (.ref n) = some kvs := by simp only [tcont, h]
      simp only [idxD, h1, h3, idxO]
theorem idxO_lst (i : Int) (xs : List D) : idxO (.int i) (some (.lst xs)) = atI xs i := (rfl)
theorem idxO_dic (k : D) (kvs : List (DK × D)) : idxO k (some (.dic kvs)) = (keyOf k).bind (dlook kvs) := (rfl)
theorem idxO_dit (k : D) (kvs : List (List DK × D)) : idxO k (some (.dit kvs)) = (keyT k).bind (dlook kvs) := (rfl)
theorem key_str (x : List Nat) : keyOf (.str x) = some (.s x) := (rfl)
theorem key_int (i : Int) : keyOf (.int i) = some (.i i) := (rfl)
def fldO (s : S) (f : String) : Option Ob → R D
  | some (.ins _ fs) => lft (fs.lookup f) s
  | _ => none
theorem fld_ref (n : Nat) (f : String) : fldD s f (.ref n) = fldO s f (s.m n) := by
  unfold fldD fldO
  rfl
theorem fldO_ins (f c : String) (fs : List (String × D)) : fldO s f (some (.ins c fs)) = lft (fs.lookup f) s := (rfl)
def ownL (cf : CF) (c m : String) (es : Es) (r : Sl) (n : Nat) (s : S) : Option D → R D
  | none => kOwn2 cf c m (.ref n) (evs cf es r s)
  | some _ => none
def ownO (cf : CF) (m : String) (es : Es) (r : Sl) (n : Nat) (s : S) : Option Ob → R D
  | some (.ins c fs) => ownL cf c m es r n s (fs.lookup m)
  | _ => none
theorem own_ref (n : Nat) (m : String) (es : Es) : kOwn cf m es r (some (.ok (.ref n), s)) = ownO cf m es r n s (s.m n) := by
  unfold ownO ownL
  rfl
theorem ownO_ins (m c : String) (es : Es) (n : Nat) (fs : List (String × D)) : ownO cf m es r n s (some (.ins c fs)) = ownL cf c m es r n s (fs.lookup m) := (rfl)
theorem ownL_no (m c : String) (es : Es) (n : Nat) : ownL cf c m es r n s none = kOwn2 cf c m (.ref n) (evs cf es r s) := (rfl)
def setfO (r : Sl) (f : String) (v : D) (n : Nat) (s : S) : Option Ob → XR
  | some (.ins c fs) => if fs.length < 900 then some (.ok (.nx, r), s.put n (.ins c (setF f v fs))) else none
  | _ => none
theorem setf_ref (n : Nat) (f : String) (v : D) : setfD r f v (.ref n) s = setfO r f v n s (s.m n) := by
  unfold setfD setfO
  rfl
theorem setfO_ins (f c : String) (v : D) (n : Nat) (fs : List (String × D)) : setfO r f v n s (some (.ins c fs)) = if fs.length < 900 then some (.ok (.nx, r), s.put n (.ins c (setF f v fs))) else none := (rfl)
def afL (cf : CF) (c f : String) (p : Bop) (e : E) (r : Sl) (n : Nat) (s : S) : Option D → XR
  | some (.int a) => kAf2 r n c f p a (ev cf e r s)
  | _ => none
def afO (cf : CF) (f : String) (p : Bop) (e : E) (r : Sl) (n : Nat) (s : S) : Option Ob → XR
  | some (.ins c fs) => afL cf c f p e r n s (fs.lookup f)
  | _ => none
theorem af_ref (n : Nat) (f : String) (p : Bop) (e : E) : kAf cf f p e r (some (.ok (.ref n), s)) = afO cf f p e r n s (s.m n) := by
  unfold afO afL
  rfl
theorem afO_ins (f c : String) (p : Bop) (e : E) (n : Nat) (fs : List (String × D)) : afO cf f p e r n s (some (.ins c fs)) = afL cf c f p e r n s (fs.lookup f) := (rfl)
theorem afL_int (f c : String) (p : Bop) (e : E) (n : Nat) (a : Int) : afL cf c f p e r n s (some (.int a)) = kAf2 r n c f p a (ev cf e r s) := (rfl)
def af2O (r : Sl) (c0 f : String) (a b : Int) (n : Nat) (s : S) : Option Ob → XR
  | some (.ins c fs) => if c = c0 ∧ fs.length < 900 then some (.ok (.nx, r), s.put n (.ins c (setF f (.int (a + b)) fs))) else none
  | _ => none
theorem af2_add (n : Nat) (c f : String) (a b : Int) : kAf2 r n c f .add a (some (.ok (.int b), s)) = af2O r c f a b n s (s.m n) := by
  unfold af2O
  rfl
theorem af2O_ins (c f : String) (a b : Int) (n : Nat) (fs : List (String × D)) : af2O r c f a b n s (some (.ins c fs)) = if fs.length < 900 then some (.ok (.nx, r), s.put n (.ins c (setF f (.int (a + b)) fs))) else none := by
  show (if c = c ∧ fs.length < 900 then _ else none) = _
  simp only [true_and]
def stoO (r : Sl) (v : D) (n : Nat) (k : D) (s : S) : Option Ob → XR
  | some (.lst xs) => match k with
    | .int k => match ixN xs.length k with
      | some j => some (.ok (.nx, r), s.put n (.lst (xs.set j v)))
      | none => none
    | _ => none
  | some (.dic kvs) => match keyOf k with
    | some k => if kvs.length < LIM then some (.ok (.nx, r), s.put n (.dic (dput kvs k v))) else none
    | none => none
  | some (.dit kvs) => match keyT k with
    | some k => if kvs.length < LIM then some (.ok (.nx, r), s.put n (.dit (dput kvs k v))) else none
    | none => none
  | _ => none
theorem sto_ref (n : Nat) (v k : D) : stoD r v (.ref n) k s = stoO r v n k s (s.m n) := by
  unfold stoD stoO
  rfl
theorem stoO_2a (v a b : D) (n : Nat) : stoO r v n (.int 0) s (some (.lst [a, b])) = some (.ok (.nx, r), s.put n (.lst [v, b])) := (rfl)
theorem stoO_2b (v a b : D) (n : Nat) : stoO r v n (.int 1) s (some (.lst [a, b])) = some (.ok (.nx, r), s.put n (.lst [a, v])) := (rfl)
theorem stoO_3a (v a b c : D) (n : Nat) : stoO r v n (.int 0) s (some (.lst [a, b, c])) = some (.ok (.nx, r), s.put n (.lst [v, b, c])) := (rfl)
theorem stoO_3b (v a b c : D) (n : Nat) : stoO r v n (.int 1) s (some (.lst [a, b, c])) = some (.ok (.nx, r), s.put n (.lst [a, v, c])) := (rfl)
theorem stoO_3c (v a b c : D) (n : Nat) : stoO r v n (.int 2) s (some (.lst [a, b, c])) = some (.ok (.nx, r), s.put n (.lst [a, b, v])) := (rfl)
def mtO : Mt → Option Ob → Bool
  | .join, _ => false
  | .upper, _ => false
  | .split _, _ => false
  | _, some (.lst _) => true
  | _, _ => false
theorem mt_refO (n : Nat) (m : Mt) : mtOk s m (.ref n) = mtO m (s.m n) := by
  cases h : s.m n with
  | none =>
    have h1 : lcont s (.ref n) = none := by simp only [lcont, h]
    cases m <;> simp only [mtOk, h1, Option.isSome, mtO]
  | some o =>
    cases o with
    | lst xs =>
      have h1 : lcont s (.ref n) = some xs := by simp only [lcont, h]
      cases m <;> simp only [mtOk, h1, Option.isSome, mtO]
    | dit kvs =>
      have h1 : lcont s (.ref n) = none := by simp only [lcont, h]
      cases m <;> simp only [mtOk, h1, Option.isSome, mtO]
    | exc c =>
      have h1 : lcont s (.ref n) = none := by simp only [lcont, h]
      cases m <;> simp only [mtOk, h1, Option.isSome, mtO]
    | ins c fs =>
      have h1 : lcont s (.ref n) = none := by simp only [lcont, h]
      cases m <;> simp only [mtOk, h1, Option.isSome, mtO]
    | dic kvs =>
      have h1 : lcont s (.ref n) = none := by simp only [lcont, h]
      cases m <;> simp only [mtOk, h1, Option.isSome, mtO]
theorem mtO_app (xs : List D) : mtO .append (some (.lst xs)) = true := (rfl)
theorem mtO_popAt (xs : List D) : mtO .popAt (some (.lst xs)) = true := (rfl)
theorem mtO_pop (xs : List D) : mtO .pop (some (.lst xs)) = true := (rfl)
theorem mtO_ins (xs : List D) : mtO .insert (some (.lst xs)) = true := (rfl)
theorem mtO_index (xs : List D) : mtO .index (some (.lst xs)) = true := (rfl)
def appO (n : Nat) (y : D) (s : S) : Option Ob → R D
  | some (.lst xs) => if xs.length < LIM then some (.ok .non, s.put n (.lst (xs ++ [y]))) else none
  | _ => none
theorem app_ref (n : Nat) (y : D) : metD s .append (.ref n) [y] = appO n y s (s.m n) := by
  show appD s (.ref n) [y] = _
  unfold appD appO
  rfl
theorem appO_lst (n : Nat) (y : D) (xs : List D) : appO n y s (some (.lst xs)) = if xs.length < LIM then some (.ok .non, s.put n (.lst (xs ++ [y]))) else none := (rfl)
def pop0 (n : Nat) (s : S) : Option Ob → R D
  | some (.lst (x :: xs)) => some (.ok x, s.put n (.lst xs))
  | _ => none
theorem pop0_ref (n : Nat) (h : ∃ x xs, s.m n = some (.lst (x :: xs))) : metD s .popAt (.ref n) [.int 0] = pop0 n s (s.m n) := by
  obtain ⟨x, xs, h⟩ := h
  show popAtD s (.ref n) [.int 0] = _
  simp only [popAtD, h, pop0]
  rw [if_pos (by omega)]
  unfold ixN
  rw [if_pos (by omega), if_pos (by simp only [List.length_cons]; omega)]
  rfl
theorem pop0_at {n : Nat} {x : D} {xs : List D} (h : s.m n = some (.lst (x :: xs))) : metD s .popAt (.ref n) [.int 0] = some (.ok x, s.put n (.lst xs)) := by
  rw [pop0_ref n ⟨x, xs, h⟩, h]
  rfl
def lstO (bx : Bool) (s : S) : Option Ob → R D
  | some (.lst xs) => mkL bx xs s
  | _ => none
theorem list_ref (n : Nat) (bx : Bool) : biD s (.list bx) [.ref n] = lstO bx s (s.m n) := by
  show listD s bx [.ref n] = _
  cases h : s.m n with
  | none =>
    have h2 : cont s (.ref n) = none := by simp only [cont, lcont, h]
    simp only [listD, h2, lstO]
  | some o =>
    cases o with
    | lst xs =>
      have h2 : cont s (.ref n) = some xs := by simp only [cont, lcont, h]
      simp only [listD, h2, lstO]
    | dit kvs =>
      have h2 : cont s (.ref n) = none := by simp only [cont, lcont, h]
      simp only [listD, h2, lstO]
    | exc c =>
      have h2 : cont s (.ref n) = none := by simp only [cont, lcont, h]
      simp only [listD, h2, lstO]
    | ins c fs =>
      have h2 : cont s (.ref n) = none := by simp only [cont, lcont, h]
      simp only [listD, h2, lstO]
    | dic kvs =>
      have h2 : cont s (.ref n) = none := by simp only [cont, lcont, h]
      simp only [listD, h2, lstO]
theorem lstO_t (xs : List D) : lstO true s (some (.lst xs)) = some (.ok (.ref s.nx), s.new (.lst xs)) := (rfl)
theorem lstO_f (xs : List D) : lstO false s (some (.lst xs)) = some (.ok (.lst xs), s) := (rfl)
def sliO (bx : Bool) (l h : Option Int) (s : S) : Option Ob → R D
  | some (.lst xs) => mkL bx (cut xs l h) s
  | _ => none
theorem sli_ref (n : Nat) (bx : Bool) (l h : Option Int) : sliD s bx (.ref n) l h = sliO bx l h s (s.m n) := by
  show (match lcont s (.ref n) with | some zs => mkL bx (cut zs l h) s | none => none) = _
  cases hn : s.m n with
  | none =>
    have h2 : lcont s (.ref n) = none := by simp only [lcont, hn]
    simp only [h2, sliO]
  | some o =>
    cases o with
    | lst xs =>
      have h2 : lcont s (.ref n) = some xs := by simp only [lcont, hn]
      simp only [h2, sliO]
    | dit kvs =>
      have h2 : lcont s (.ref n) = none := by simp only [lcont, hn]
      simp only [h2, sliO]
    | exc c =>
      have h2 : lcont s (.ref n) = none := by simp only [lcont, hn]
      simp only [h2, sliO]
    | ins c fs =>
      have h2 : lcont s (.ref n) = none := by simp only [lcont, hn]
      simp only [h2, sliO]
    | dic kvs =>
      have h2 : lcont s (.ref n) = none := by simp only [lcont, hn]
      simp only [h2, sliO]
theorem sliO_t (l h : Option Int) (xs : List D) : sliO true l h s (some (.lst xs)) = some (.ok (.ref s.nx), s.new (.lst (cut xs l h))) := (rfl)
theorem sliO_f (l h : Option Int) (xs : List D) : sliO false l h s (some (.lst xs)) = some (.ok (.lst (cut xs l h)), s) := (rfl)
def seqO (n : Nat) (s : S) : Option Ob → R Iv
  | some (.lst _) => some (.ok (.seq (.ref n)), s)
  | _ => none
theorem seq_ref (n : Nat) : kSeq' (some (.ok (.ref n), s)) = seqO n s (s.m n) := by
  show (match lcont s (.ref n) with | some _ => some (Rs.ok (Iv.seq (.ref n)), s) | none => none) = _
  cases hn : s.m n with
  | none =>
    have h2 : lcont s (.ref n) = none := by simp only [lcont, hn]
    simp only [h2, seqO]
  | some o =>
    cases o with
    | lst xs =>
      have h2 : lcont s (.ref n) = some xs := by simp only [lcont, hn]
      simp only [h2, seqO]
    | dit kvs =>
      have h2 : lcont s (.ref n) = none := by simp only [lcont, hn]
      simp only [h2, seqO]
    | exc c =>
      have h2 : lcont s (.ref n) = none := by simp only [lcont, hn]
      simp only [h2, seqO]
    | ins c fs =>
      have h2 : lcont s (.ref n) = none := by simp only [lcont, hn]
      simp only [h2, seqO]
    | dic kvs =>
      have h2 : lcont s (.ref n) = none := by simp only [lcont, hn]
      simp only [h2, seqO]
theorem seqO_lst (n : Nat) (xs : List D) : seqO n s (some (.lst xs)) = some (.ok (.seq (.ref n)), s) := (rfl)
def lenO (s : S) : Option Ob → R D
  | some (.lst xs) => some (.ok (.int xs.length), s)
  | some (.dic kvs) => some (.ok (.int kvs.length), s)
  | _ => none
theorem len_ref (n : Nat) : biD s .len [.ref n] = lenO s (s.m n) := by
  show lenD s [.ref n] = _
  cases hn : s.m n with
  | none =>
    have h1 : dcont s (.ref n) = none := by simp only [dcont, hn]
    have h2 : cont s (.ref n) = none := by simp only [cont, lcont, hn]
    simp only [lenD, h1, h2, Option.map_none, lft, lenO]
  | some o =>
    cases o with
    | lst xs =>
      have h1 : dcont s (.ref n) = none := by simp only [dcont, hn]
      have h2 : cont s (.ref n) = some xs := by simp only [cont, lcont, hn]
      simp only [lenD, h1, h2, Option.map_some, lft, lenO]
    | exc c =>
      have h1 : dcont s (.ref n) = none := by simp only [dcont, hn]
      have h2 : cont s (.ref n) = none := by simp only [cont, lcont, hn]
      simp only [lenD, h1, h2, Option.map_none, lft, lenO]
    | ins c fs =>
      have h1 : dcont s (.ref n) = none := by simp only [dcont, hn]
      have h2 : cont s (.ref n) = none := by simp only [cont, lcont, hn]
      simp only [lenD, h1, h2, Option.map_none, lft, lenO]
    | dic kvs =>
      have h1 : dcont s (.ref n) = some kvs := by simp only [dcont, hn]
      simp only [lenD, h1, lenO]
    | dit kvs =>
      have h1 : dcont s (.ref n) = none := by simp only [dcont, hn]
      have h2 : cont s (.ref n) = none := by simp only [cont, lcont, hn]
      simp only [lenD, h1, h2, Option.map_none, lft, lenO]
theorem lenO_lst (xs : List D) : lenO s (some (.lst xs)) = some (.ok (.int xs.length), s) := (rfl)
theorem lenO_dic (xs : List (DK × D)) : lenO s (some (.dic xs)) = some (.ok (.int xs.length), s) := (rfl)
theorem mtO_count (xs : List D) : mtO .count (some (.lst xs)) = true := (rfl)
def cntO (y : D) (s : S) : Option Ob → R D
  | some (.lst xs) => if (flat y && xs.all flat) = true then some (.ok (.int ((xs.countP fun x => eqD x y : Nat) : Int)), s) else none
  | _ => none
theorem cnt_ref (n : Nat) (y : D) : metD s .count (.ref n) [y] = cntO y s (s.m n) := by
  show cntD s (.ref n) [y] = _
  cases h : s.m n with
  | none => simp only [cntD, lcont, h, cntO]
  | some o => cases o <;> simp only [cntD, lcont, h, cntO]
def ixoO (y : D) (s : S) : Option Ob → R D
  | some (.lst xs) => if (flat y && xs.all flat) = true then match xs.findIdx? fun x => eqD x y with
      | some j => some (.ok (.int (j : Nat)), s)
      | none => none
      else if shp 60 (opnD s 20 y) && shp 60 (.lst (xs.map (opnD s 19))) then match (xs.map (opnD s 19)).findIdx? fun z => eqD z (opnD s 20 y) with
        | some j => some (.ok (.int (j : Nat)), s)
        | none => none
        else none
  | _ => none
theorem ixo_ref (n : Nat) (y : D) : metD s .index (.ref n) [y] = ixoO y s (s.m n) := by
  show ixOfD s (.ref n) [y] = _
  cases h : s.m n with
  | none => simp only [ixOfD, lcont, h, ixoO]
  | some o =>
    cases o with
    | lst xs =>
      have e : opnD s 20 (.ref n) = .lst (xs.map (opnD s 19)) := by
        show opnD s (19 + 1) (.ref n) = _
        simp only [opnD, h]
      simp only [ixOfD, lcont, h, ixoO, e] <;> rfl
    | _ => simp only [ixOfD, lcont, h, ixoO]
theorem cntO_4 (a b c d : Bool) : cntO (.bl true) s (some (.lst [.bl a, .bl b, .bl c, .bl d])) = some (.ok (.int (((if a then 1 else 0) + (if b then 1 else 0) + (if c then 1 else 0) + (if d then 1 else 0) : Nat) : Int)), s) := by
  cases a <;> cases b <;> cases c <;> cases d <;> rfl
theorem ixoO_4a (b c d : Bool) : ixoO (.bl true) s (some (.lst [.bl true, .bl b, .bl c, .bl d])) = some (.ok (.int 0), s) := (rfl)
theorem ixoO_4b (c d : Bool) : ixoO (.bl true) s (some (.lst [.bl false, .bl true, .bl c, .bl d])) = some (.ok (.int 1), s) := (rfl)
theorem ixoO_4c (d : Bool) : ixoO (.bl true) s (some (.lst [.bl false, .bl false, .bl true, .bl d])) = some (.ok (.int 2), s) := (rfl)
theorem ixoO_4d : ixoO (.bl true) s (some (.lst [.bl false, .bl false, .bl false, .bl true])) = some (.ok (.int 3), s) := (rfl)
def xoL (cf : CF) (c m : String) (es : Es) (r : Sl) (n : Nat) (s : S) : Option D → R D
  | none => if c = "" then none else kXo2 cf c m (.ref n) (evs cf es r s)
  | some _ => none
def xoO (cf : CF) (m : String) (es : Es) (r : Sl) (n : Nat) (s : S) : Option Ob → R D
  | some (.ins c fs) => xoL cf c m es r n s (fs.lookup m)
  | _ => none
theorem xo_ref (n : Nat) (m : String) (es : Es) : kXo cf m es r (some (.ok (.ref n), s)) = xoO cf m es r n s (s.m n) := by
  show ownX s m (.ref n) _ = _
  unfold ownX xoO xoL
  rfl
theorem xoO_ins (m c : String) (es : Es) (n : Nat) (fs : List (String × D)) : xoO cf m es r n s (some (.ins c fs)) = xoL cf c m es r n s (fs.lookup m) := (rfl)
theorem xoL_no (m c : String) (es : Es) (n : Nat) (hc : c ≠ "") : xoL cf c m es r n s none = kXo2 cf c m (.ref n) (evs cf es r s) := by
  show (if c = "" then none else _) = _
  rw [if_neg hc]
def kXsf (cf : CF) (o : E) (f : String) (r : Sl) (q : R D) : XR := bnr q r fun v s => kSf2 f r v (ev cf o r s)
theorem s_xsetf (o : E) (f : String) (x : Xe) : ex cf (.xsetf o f x) r s = kXsf cf o f r (evx cf x r s) := by simp only [ex]; rfl
theorem kXsf_ok (o : E) (f : String) (v : D) : kXsf cf o f r (some (.ok v, s)) = kSf2 f r v (ev cf o r s) := (rfl)
theorem kXsf_er (o : E) (f : String) (c : String) : kXsf cf o f r (some (.er c, s)) = some (.ok (.rz c, r), s) := (rfl)
def isxO (cs : List String) (s : S) : Option Ob → R D
  | some (.exc k) => some (.ok (.bl (cs.any (subE k))), s)
  | _ => none
theorem isx_ref (cs : List String) (n : Nat) : kIsx cs (some (.ok (.ref n), s)) = isxO cs s (s.m n) := by
  show lft ((isxD s (.ref n) cs).map D.bl) s = _
  cases h : s.m n with
  | none => simp only [isxD, h, Option.map_none, lft, isxO]
  | some o =>
    cases o with
    | exc k => simp only [isxD, h, Option.map_some, lft, isxO]
    | lst xs => simp only [isxD, h, Option.map_none, lft, isxO]
    | ins c fs => simp only [isxD, h, Option.map_none, lft, isxO]
    | dic kvs => simp only [isxD, h, Option.map_none, lft, isxO]
    | dit kvs => simp only [isxD, h, Option.map_none, lft, isxO]
theorem isxO_exc (cs : List String) (k : String) : isxO cs s (some (.exc k)) = some (.ok (.bl (cs.any (subE k))), s) := (rfl)
theorem eq_nil {n : Nat} {xs : List D} (h : s.m n = some (.lst xs)) (hs : shpL 59 xs = true) : eqS s (.ref n) (.lst []) = some xs.isEmpty := by
  have h1 : opn s (.ref n) = .lst xs := by simp only [opn, h]
  have h2 : shp 60 (.lst xs) = true := by simp only [shp]; exact hs
  have h3 : shp 60 (.lst []) = true := by decide
  show (if (shp 60 (opn s (.ref n)) && shp 60 (opn s (.lst []))) = true then some (eqD (opn s (.ref n)) (opn s (.lst []))) else _) = _
  have h4 : opn s (.lst []) = .lst [] := rfl
  rw [h1, h4, h2, h3]
  simp only [Bool.and_self, if_true]
  cases xs <;> simp only [eqD, eqL, List.isEmpty]
end
/-- what may have changed -/
def Fr (s s' : S) (M : List Nat) : Prop := s.nx ≤ s'.nx ∧ ∀ j, j < s.nx → j ∉ M → s'.m j = s.m j
theorem Fr.rfl {s : S} {M : List Nat} : Fr s s M := ⟨Nat.le_refl _, fun _ _ _ => Eq.refl _⟩
theorem Fr.trans {s t u : S} {M : List Nat} (h : Fr s t M) (g : Fr t u M) : Fr s u M := ⟨Nat.le_trans h.1 g.1, fun j hj hm => (g.2 j (Nat.lt_of_lt_of_le hj h.1) hm).trans (h.2 j hj hm)⟩
theorem Fr.mono {s t : S} {M N : List Nat} (h : Fr s t M) (g : ∀ j ∈ M, j ∈ N) : Fr s t N := ⟨h.1, fun j hj hm => h.2 j hj fun z => hm (g j z)⟩
theorem Fr.put {s t : S} {M : List Nat} {n : Nat} (o : Ob) (h : Fr s t M) (hn : n ∈ M ∨ s.nx ≤ n) : Fr s (t.put n o) M := ⟨h.1, fun j hj hm => (put_ne n j o (by
  rintro rfl
  rcases hn with hn | hn
  · exact hm hn
  · omega)).trans (h.2 j hj hm)⟩
theorem Fr.new {s t : S} {M : List Nat} (o : Ob) (h : Fr s t M) : Fr s (t.new o) M := ⟨Nat.le_succ_of_le h.1, fun j hj hm => (new_ne j o (by have := h.1; omega)).trans (h.2 j hj hm)⟩
theorem Fr.old {s t : S} (h : Old s t) (M : List Nat) : Fr s t M := ⟨h.1, fun j hj _ => h.2 j hj⟩
theorem Fr.keep {s t : S} {n : Nat} (h : t.nx = s.nx ∧ ∀ j, j ≠ n → t.m j = s.m j) : Fr s t [n] := ⟨Nat.le_of_eq h.1.symm, fun j _ hm => h.2 j (by simpa using hm)⟩
theorem Keep.trans {s t u : S} {n : Nat} (h : Keep s t n) (g : Keep t u n) : Keep s u n := ⟨g.1.trans h.1, fun j hj => (g.2 j hj).trans (h.2 j hj)⟩
/-- over a list in a box that stays -/
theorem for_ref {cf : CF} {t n : Nat} {b : Cs} {xs : List D} {r : Sl} {s : S} (P : Nat → Sl → S → Prop) (h0 : P 0 r s) (hst : ∀ i r s, P i r s → s.m n = some (.lst xs))
    (hb : ∀ i r s x, P i r s → xs[i]? = some x → ∃ r' s', exs cf b (r.set t (some x)) s = some (.ok (.nx, r'), s') ∧ P (i + 1) r' s') :
    ∃ r' s', forI cf (.nm t) b r s (.seq (.ref n)) = some (.ok (.nx, r'), s') ∧ P xs.length r' s' :=
  for_inv xs.length P h0 (fun i r s h _ => (iv_ref (hst i r s h)).1) fun i r s hp hi => by
    obtain ⟨r', s', h1, h2⟩ := hb i r s xs[i] hp (List.getElem?_eq_getElem hi)
    exact ⟨xs[i], _, r', s', .nx, by rw [(iv_ref (hst i r s hp)).2]; exact List.getElem?_eq_getElem hi, rfl, h1, .inl rfl, h2⟩
theorem for_ref2 {cf : CF} {t u n : Nat} {b : Cs} {xs : List D} {r : Sl} {s : S} (P : Nat → Sl → S → Prop) (h0 : P 0 r s) (hst : ∀ i r s, P i r s → s.m n = some (.lst xs))
    (hb : ∀ (i : Nat) r s x, P i r s → xs[i]? = some x → ∃ y z, x = .tup [y, z] ∧ ∃ r' s', exs cf b ((r.set t (some y)).set u (some z)) s = some (.ok (.nx, r'), s') ∧ P (i + 1) r' s') :
    ∃ r' s', forI cf (.tp [t, u]) b r s (.seq (.ref n)) = some (.ok (.nx, r'), s') ∧ P xs.length r' s' :=
  for_inv xs.length P h0 (fun i r s h _ => (iv_ref (hst i r s h)).1) fun i r s hp hi => by
    obtain ⟨y, z, hx, r', s', h1, h2⟩ := hb i r s xs[i] hp (List.getElem?_eq_getElem hi)
    exact ⟨.tup [y, z], _, r', s', .nx, by rw [(iv_ref (hst i r s hp)).2, ← hx]; exact List.getElem?_eq_getElem hi, rfl, h1, .inl rfl, h2⟩
theorem kTpa_4 {r : Sl} {s : S} (i j k l : Nat) (x y z w : D) : kTpa [i, j, k, l] r (some (.ok (.tup [x, y, z, w]), s)) = some (.ok (.nx, (((r.set i (some x)).set j (some y)).set k (some z)).set l (some w)), s) := (rfl)
mutual
theorem opnD_id {s : S} : ∀ (k : Nat) (d : D) {j : Nat}, shp j d = true → opnD s k d = d
  | 0, d, j, _ => by simp only [opnD]
  | k + 1, .ref n, j, h => by cases j <;> (simp only [shp] at h; cases h)
  | k + 1, .scr n, j, h => by cases j <;> (simp only [shp] at h; cases h)
  | k + 1, .tup xs, 0, h => by simp only [shp] at h; cases h
  | k + 1, .tup xs, j + 1, h => by
    simp only [shp] at h
    simp only [opnD, opnDs_id k xs h]
  | k + 1, .lst xs, 0, h => by simp only [shp] at h; cases h
  | k + 1, .lst xs, j + 1, h => by
    simp only [shp] at h
    simp only [opnD, opnDs_id k xs h]
  | k + 1, .non, j, _ => by simp only [opnD]
  | k + 1, .bl _, j, _ => by simp only [opnD]
  | k + 1, .int _, j, _ => by simp only [opnD]
  | k + 1, .str _, j, _ => by simp only [opnD]
theorem opnDs_id {s : S} : ∀ (k : Nat) (ds : List D) {j : Nat}, shpL j ds = true → ds.map (opnD s k) = ds
  | k, [], j, _ => rfl
  | k, d :: ds, j, h => by
    simp only [shpL, Bool.and_eq_true] at h
    rw [List.map_cons, opnD_id k d h.1, opnDs_id k ds h.2]
end
/-- two lists of lists, in boxes, against two of none -/
theorem eq_two {s : S} {n a b : Nat} {xs ys : List D} (hn : s.m n = some (.lst [.ref a, .ref b])) (ha : s.m a = some (.lst xs)) (hb : s.m b = some (.lst ys)) (hx : shpL 58 xs = true) (hy : shpL 58 ys = true) : eqS s (.ref n) (.lst [.lst [], .lst []]) = some (xs.isEmpty && ys.isEmpty) := by
  have h1 : opn s (.ref n) = .lst [.ref a, .ref b] := by simp only [opn, hn]
  have h2 : shp 60 (.lst [.ref a, .ref b]) = false := by simp only [shp, shpL, Bool.false_and]
  have h3 : opnD s 20 (.ref n) = .lst [.lst xs, .lst ys] := by
    simp only [opnD, hn, ha, hb, List.map_cons, List.map_nil, opnDs_id _ xs hx, opnDs_id _ ys hy]
  have h4 : opnD s 20 (.lst [.lst [], .lst []]) = .lst [.lst [], .lst []] := opnD_id 20 _ (j := 3) (by decide)
  have h5 : shp 60 (.lst [.lst xs, .lst ys]) = true := by simp only [shp, shpL, hx, hy, Bool.and_self]
  have h6 : shp 60 (.lst [.lst [], .lst []]) = true := by decide
  show (if (shp 60 (opn s (.ref n)) && shp 60 (opn s (.lst [.lst [], .lst []]))) = true then some (eqD (opn s (.ref n)) (opn s (.lst [.lst [], .lst []]))) else if (shp 60 (opnD s 20 (.ref n)) && shp 60 (opnD s 20 (.lst [.lst [], .lst []]))) = true then some (eqD (opnD s 20 (.ref n)) (opnD s 20 (.lst [.lst [], .lst []]))) else _) = _
  rw [h1, h2, h3, h4, h5, h6]
  simp only [Bool.false_and, Bool.and_self, if_true, Bool.false_eq_true, if_false]
  cases xs <;> cases ys <;> simp only [eqD, eqL, List.isEmpty, Bool.and_true, Bool.and_self, Bool.false_and, Bool.and_false, Bool.true_and]
theorem whl_by {cf : CF} {c : E} {b : Cs} (P : Nat → Sl → S → Prop) (h0 : ∀ r s, P 0 r s → ev cf c r s = some (.ok (.bl false), s))
    (h1 : ∀ n r s, P (n + 1) r s → ev cf c r s = some (.ok (.bl true), s) ∧ ∃ r' s', exs cf b r s = some (.ok (.nx, r'), s') ∧ P n r' s') :
    ∀ n m r s, P n r s → n < m → ∃ r' s', whlN (ev cf c) (exs cf b) m r s = some (.ok (.nx, r'), s') ∧ P 0 r' s'
  | 0, 0, r, s, hp, hm => by omega
  | 0, m + 1, r, s, hp, hm => by
    refine ⟨r, s, ?_, hp⟩
    rw [whlN, h0 r s hp]
    rfl
  | n + 1, 0, r, s, hp, hm => by omega
  | n + 1, m + 1, r, s, hp, hm => by
    obtain ⟨e1, r', s', e2, hp'⟩ := h1 n r s hp
    obtain ⟨r2, s2, e3, hp2⟩ := whl_by P h0 h1 n m r' s' hp' (by omega)
    refine ⟨r2, s2, ?_, hp2⟩
    rw [whlN, e1]
    show bnd (exs cf b r s) _ = _
    rw [e2]
    exact e3
theorem eq_lr {s : S} {n : Nat} {xs : List D} (h : s.m n = some (.lst xs)) (hs : shpL 59 xs = true) : eqS s (.lst xs) (.ref n) = some true := by
  have h1 : opn s (.ref n) = .lst xs := by simp only [opn, h]
  have h2 : opn s (.lst xs) = .lst xs := rfl
  have h3 : shp 60 (.lst xs) = true := by simp only [shp]; exact hs
  show (if (shp 60 (opn s (.lst xs)) && shp 60 (opn s (.ref n))) = true then some (eqD (opn s (.lst xs)) (opn s (.ref n))) else _) = _
  rw [h1, h2, h3, eqD_refl 60 _ h3]
  rfl
end Fl
namespace Fl
section
variable {cf : CF} {r : Sl} {s : S}
def kAny (q : R D) : R Iv := bnd q fun x s => match x with
  | .tup xs => some (.ok (.seq (.tup xs)), s)
  | x => match lcont s x with
    | some _ => some (.ok (.seq x), s)
    | none => none
theorem t_any (e : E) : evI cf (.any e) r s = kAny (ev cf e r s) := by simp only [evI] <;> rfl
theorem kAny_t (xs : List D) : kAny (some (.ok (.tup xs), s)) = some (.ok (.seq (.tup xs)), s) := (rfl)
theorem kAny_l (xs : List D) : kAny (some (.ok (.lst xs), s)) = some (.ok (.seq (.lst xs)), s) := (rfl)
theorem kAny_r {n : Nat} {xs : List D} (h : s.m n = some (.lst xs)) : kAny (some (.ok (.ref n), s)) = some (.ok (.seq (.ref n)), s) := by
  show (match lcont s (.ref n) with | some _ => some (Rs.ok (Iv.seq (.ref n)), s) | none => none) = _
  have : lcont s (.ref n) = some xs := by simp only [lcont, h]
  rw [this]
def kPar3c (i j l : Nat) (r : Sl) (x y : D) (q : R D) : XR := bnd q fun z s => some (.ok (.nx, ((r.set i (some x)).set j (some y)).set l (some z)), s)
def kPar3b (cf : CF) (i j l : Nat) (c : E) (r : Sl) (x : D) (q : R D) : XR := bnd q fun y s => kPar3c i j l r x y (ev cf c r s)
def kPar3a (cf : CF) (i j l : Nat) (b c : E) (r : Sl) (q : R D) : XR := bnd q fun x s => kPar3b cf i j l c r x (ev cf b r s)
theorem s_par3 (i j l : Nat) (a b c : E) : ex cf (.par3 i j l a b c) r s = kPar3a cf i j l b c r (ev cf a r s) := by simp only [ex] <;> rfl
theorem kPar3a_ok (i j l : Nat) (b c : E) (x : D) : kPar3a cf i j l b c r (some (.ok x, s)) = kPar3b cf i j l c r x (ev cf b r s) := (rfl)
theorem kPar3b_ok (i j l : Nat) (c : E) (x y : D) : kPar3b cf i j l c r x (some (.ok y, s)) = kPar3c i j l r x y (ev cf c r s) := (rfl)
theorem kPar3c_ok (i j l : Nat) (x y z : D) : kPar3c i j l r x y (some (.ok z, s)) = some (.ok (.nx, ((r.set i (some x)).set j (some y)).set l (some z)), s) := (rfl)
theorem mtO_ext (xs : List D) : mtO .extend (some (.lst xs)) = true := (rfl)
theorem ext_lst {n : Nat} {xs ys : List D} (h : s.m n = some (.lst xs)) (hl : xs.length + ys.length ≤ LIM) : metD s .extend (.ref n) [.lst ys] = some (.ok .non, s.put n (.lst (xs ++ ys))) := by
  show extD s (.ref n) [.lst ys] = _
  simp only [extD, h, ccont, hl, if_true]
theorem ext_ref {n k : Nat} {xs ys : List D} (h : s.m n = some (.lst xs)) (hk : s.m k = some (.lst ys)) (hl : xs.length + ys.length ≤ LIM) : metD s .extend (.ref n) [.ref k] = some (.ok .non, s.put n (.lst (xs ++ ys))) := by
  show extD s (.ref n) [.ref k] = _
  simp only [extD, h, ccont, hk, hl, if_true]
theorem stoO_4a (v a b c d : D) (n : Nat) : stoO r v n (.int 0) s (some (.lst [a, b, c, d])) = some (.ok (.nx, r), s.put n (.lst [v, b, c, d])) := (rfl)
theorem stoO_4b (v a b c d : D) (n : Nat) : stoO r v n (.int 1) s (some (.lst [a, b, c, d])) = some (.ok (.nx, r), s.put n (.lst [a, v, c, d])) := (rfl)
theorem stoO_4c (v a b c d : D) (n : Nat) : stoO r v n (.int 2) s (some (.lst [a, b, c, d])) = some (.ok (.nx, r), s.put n (.lst [a, b, v, d])) := (rfl)
theorem stoO_4d (v a b c d : D) (n : Nat) : stoO r v n (.int 3) s (some (.lst [a, b, c, d])) = some (.ok (.nx, r), s.put n (.lst [a, b, c, v])) := (rfl)
end
theorem whl_bd {cf : CF} {c : E} {b : Cs} (N : Nat) (P : Nat → Sl → S → Prop) (Q : Sl → S → Prop)
    (h : ∀ i r s, P i r s → i ≤ N → (∃ s', ev cf c r s = some (.ok (.bl false), s') ∧ Q r s') ∨ (i < N ∧ ∃ s1, ev cf c r s = some (.ok (.bl true), s1) ∧ ∃ r' s', exs cf b r s1 = some (.ok (.nx, r'), s') ∧ P (i + 1) r' s')) :
    ∀ m i r s, P i r s → i ≤ N → N - i < m → ∃ r' s', whlN (ev cf c) (exs cf b) m r s = some (.ok (.nx, r'), s') ∧ Q r' s'
  | 0, i, r, s, hp, hi, hm => by omega
  | m + 1, i, r, s, hp, hi, hm => by
    rcases h i r s hp hi with ⟨s', e1, hq⟩ | ⟨hl, s1, e1, r', s', e2, hp'⟩
    · refine ⟨r, s', ?_, hq⟩
      rw [whlN, e1]
      rfl
    · obtain ⟨r2, s2, e3, hq⟩ := whl_bd N P Q h m (i + 1) r' s' hp' (by omega) (by omega)
      refine ⟨r2, s2, ?_, hq⟩
      rw [whlN, e1]
      show bnd (exs cf b r s1) _ = _
      rw [e2]
      exact e3
theorem shp_ints (n : Nat) : ∀ xs : List Int, shpL n (xs.map D.int) = true
  | [] => rfl
  | x :: xs => by
    rw [List.map_cons]
    simp only [shpL, shp, shp_ints n xs, Bool.and_self]
end Fl
namespace Fl
open PySem (PyData)
mutual
def pd0 : D → PyData
  | .non => .none
  | .bl b => .bool b
  | .int i => .int i
  | .str x => .str ⟨x.toArray⟩
  | .tup xs => .tuple (pd0L xs)
  | .lst xs => .list (pd0L xs)
  | .ref _ => .dict []
  | .scr _ => .none
def pd0L : List D → List PyData
  | [] => []
  | x :: xs => pd0 x :: pd0L xs
end
mutual
def rkD (ok : Nat → Bool) : D → Bool
  | .non => true
  | .bl _ => true
  | .int i => decide (i.natAbs < 10 ^ 100)
  | .str x => x.all (· < 1114112)
  | .tup xs => rkL ok xs
  | .lst xs => rkL ok xs
  | .ref n => ok n
  | .scr _ => false
def rkL (ok : Nat → Bool) : List D → Bool
  | [] => true
  | x :: xs => rkD ok x && rkL ok xs
end
mutual
def wtD : D → Nat
  | .int _ => 400
  | .str x => x.length
  | .tup xs => wtL xs
  | .lst xs => wtL xs
  | _ => 0
def wtL : List D → Nat
  | [] => 0
  | x :: xs => wtD x + 1 + wtL xs
end
mutual
def dpD : D → Nat
  | .tup xs => dpL xs + 1
  | .lst xs => dpL xs + 1
  | .ref _ => 1
  | _ => 0
def dpL : List D → Nat
  | [] => 0
  | x :: xs => max (dpD x) (dpL xs)
end
/-- what repr writes -/
def txD (x : D) : List Nat := (pd0 x).shown.cps.toList
theorem wtL_app : ∀ xs ys : List D, wtL (xs ++ ys) = wtL xs + wtL ys
  | [], ys => by simp [wtL]
  | x :: xs, ys => by
    rw [List.cons_append, wtL, wtL, wtL_app xs ys]
    omega
theorem rkL_app (ok : Nat → Bool) : ∀ xs ys : List D, rkL ok (xs ++ ys) = (rkL ok xs && rkL ok ys)
  | [], ys => by simp [rkL]
  | x :: xs, ys => by rw [List.cons_append, rkL, rkL, rkL_app ok xs ys, Bool.and_assoc]
theorem dpL_app : ∀ xs ys : List D, dpL (xs ++ ys) = max (dpL xs) (dpL ys)
  | [], ys => by simp [dpL]
  | x :: xs, ys => by
    rw [List.cons_append, dpL, dpL, dpL_app xs ys]
    omega
theorem wtL_le {m : Nat} : ∀ {xs : List D}, (∀ x ∈ xs, wtD x ≤ m) → wtL xs ≤ (m + 1) * xs.length
  | [], _ => by simp [wtL]
  | x :: xs, h => by
    have h1 := h x List.mem_cons_self
    have h2 := wtL_le fun y hy => h y (List.mem_cons_of_mem _ hy)
    rw [wtL, List.length_cons, Nat.mul_succ]
    omega
theorem dpL_le {m : Nat} : ∀ {xs : List D}, (∀ x ∈ xs, dpD x ≤ m) → dpL xs ≤ m
  | [], _ => by simp [dpL]
  | x :: xs, h => by
    have h1 := h x List.mem_cons_self
    have h2 := dpL_le fun y hy => h y (List.mem_cons_of_mem _ hy)
    rw [dpL]
    omega
theorem rkL_all {ok : Nat → Bool} : ∀ {xs : List D}, (∀ x ∈ xs, rkD ok x = true) → rkL ok xs = true
  | [], _ => by simp [rkL]
  | x :: xs, h => by
    rw [rkL, h x List.mem_cons_self, rkL_all fun y hy => h y (List.mem_cons_of_mem _ hy)]
    rfl
mutual
theorem pdO_0 {s : S} {ok : Nat → Bool} (hs : ∀ n, ok n = true → s.m n = some (.dic [])) : ∀ (k : Nat) (x : D), rkD ok x = true → dpD x ≤ k → pdO s k x = some (pd0 x)
  | k, .non, _, _ => by simp only [pdO, pd0]
  | k, .bl _, _, _ => by simp only [pdO, pd0]
  | k, .int _, _, _ => by simp only [pdO, pd0]
  | k, .str _, _, _ => by simp only [pdO, pd0]
  | k, .scr _, h, _ => by simp only [rkD] at h; cases h
  | 0, .tup xs, _, hd => by simp only [dpD] at hd; omega
  | 0, .lst xs, _, hd => by simp only [dpD] at hd; omega
  | 0, .ref n, _, hd => by simp only [dpD] at hd; omega
  | k + 1, .tup xs, h, hd => by
    simp only [rkD] at h
    simp only [dpD] at hd
    simp only [pdO, pd0, pdOs_0 hs k xs h (by omega), Option.map_some]
  | k + 1, .lst xs, h, hd => by
    simp only [rkD] at h
    simp only [dpD] at hd
    simp only [pdO, pd0, pdOs_0 hs k xs h (by omega), Option.map_some]
  | k + 1, .ref n, h, hd => by
    simp only [rkD] at h
    simp only [pdO, pd0, hs n h, pdOv, Option.map_some]
theorem pdOs_0 {s : S} {ok : Nat → Bool} (hs : ∀ n, ok n = true → s.m n = some (.dic [])) : ∀ (k : Nat) (xs : List D), rkL ok xs = true → dpL xs ≤ k → pdOs s k xs = some (pd0L xs)
  | k, [], _, _ => by simp only [pdOs, pd0L]
  | k, x :: xs, h, hd => by
    simp only [rkL, Bool.and_eq_true] at h
    simp only [dpL] at hd
    simp only [pdOs, pd0L, pdO_0 hs k x h.1 (by omega), pdOs_0 hs k xs h.2 (by omega), Option.bind_some, Option.map_some]
end
theorem log_le {i : Int} (h : i.natAbs < 10 ^ 100) : i.natAbs.log2 < 399 := by
  by_cases h0 : i.natAbs = 0
  · rw [h0]
    decide
  · refine (Nat.log2_lt h0).mpr (Nat.lt_of_lt_of_le h ?_)
    decide
theorem int_short {i : Int} (h : i.natAbs < 10 ^ 100) : (PyData.shown (.int i)).length ≤ 120 := by
  have e := PySem.int_text_length_le10 (k := 100) (by decide) h
  simp only [PyData.shown]
  rw [PySem.ofString_length]
  omega
mutual
theorem pd0_ok {ok : Nat → Bool} : ∀ (x : D), rkD ok x = true → (pd0 x).showable = true ∧ (pd0 x).leavesShort 120 = true ∧ (pd0 x).depth ≤ dpD x ∧ (pd0 x).weight ≤ wtD x
  | .non, _ => by simp [pd0, PyData.showable, PyData.leavesShort, PyData.depth, PyData.weight]
  | .bl _, _ => by simp [pd0, PyData.showable, PyData.leavesShort, PyData.depth, PyData.weight]
  | .int i, h => by
    simp only [rkD, decide_eq_true_eq] at h
    have := log_le h
    refine ⟨?_, ?_, ?_, ?_⟩
    · simp only [pd0, PyData.showable, decide_eq_true_eq]
      omega
    · simp only [pd0, PyData.leavesShort, decide_eq_true_eq]
      exact int_short h
    · simp [pd0, PyData.depth]
    · simp only [pd0, PyData.weight, wtD]
      split <;> omega
  | .str x, h => by
    simp only [rkD] at h
    refine ⟨by simp [pd0, PyData.showable], ?_, by simp [pd0, PyData.depth], by simp [pd0, PyData.weight, wtD]⟩
    simp only [pd0, PyData.leavesShort, List.all_eq_true, decide_eq_true_eq]
    intro c hc
    have h1 := List.all_eq_true.mp h c (by simpa using hc)
    have h2 : c < 1114112 := of_decide_eq_true h1
    have e : (16 : Nat) ^ 8 = 4294967296 := by decide
    omega
  | .ref n, h => by simp [pd0, PyData.showable, PyData.showableKv, PyData.leavesShort, PyData.leavesShortKv, PyData.depth, PyData.depthKv, PyData.weight, PyData.weightKv, dpD, wtD]
  | .scr _, h => by simp only [rkD] at h; cases h
  | .tup xs, h => by
    simp only [rkD] at h
    obtain ⟨h1, h2, h3, h4⟩ := pd0L_ok xs h
    refine ⟨by simpa [pd0, PyData.showable] using h1, by simpa [pd0, PyData.leavesShort] using h2, ?_, by simpa [pd0, PyData.weight, wtD] using h4⟩
    simp only [pd0, PyData.depth, dpD]
    omega
  | .lst xs, h => by
    simp only [rkD] at h
    obtain ⟨h1, h2, h3, h4⟩ := pd0L_ok xs h
    refine ⟨by simpa [pd0, PyData.showable] using h1, by simpa [pd0, PyData.leavesShort] using h2, ?_, by simpa [pd0, PyData.weight, wtD] using h4⟩
    simp only [pd0, PyData.depth, dpD]
    omega
theorem pd0L_ok {ok : Nat → Bool} : ∀ (xs : List D), rkL ok xs = true → PyData.showableAll (pd0L xs) = true ∧ PyData.leavesShortAll 120 (pd0L xs) = true ∧ PyData.depthAll (pd0L xs) ≤ dpL xs ∧ PyData.weightAll (pd0L xs) ≤ wtL xs
  | [], _ => by simp [pd0L, PyData.showableAll, PyData.leavesShortAll, PyData.depthAll, PyData.weightAll, dpL, wtL]
  | x :: xs, h => by
    simp only [rkL, Bool.and_eq_true] at h
    obtain ⟨h1, h2, h3, h4⟩ := pd0_ok x h.1
    obtain ⟨g1, g2, g3, g4⟩ := pd0L_ok xs h.2
    refine ⟨by simp [pd0L, PyData.showableAll, h1, g1], by simp [pd0L, PyData.leavesShortAll, h2, g2], ?_, ?_⟩
    · simp only [pd0L, PyData.depthAll, dpL]
      omega
    · simp only [pd0L, PyData.weightAll, wtL]
      omega
end
theorem repr_ok {s : S} {ok : Nat → Bool} {x : D} (hs : ∀ n, ok n = true → s.m n = some (.dic [])) (h1 : rkD ok x = true) (h2 : dpD x ≤ 4000) (h3 : wtD x ≤ 120000) : reprD s x = some (.str (txD x)) := by
  obtain ⟨k1, k2, k3, k4⟩ := pd0_ok x h1
  unfold reprD
  rw [pdO_0 hs 4100 x h1 (by omega), Option.bind_some]
  have : rpOk (pd0 x) = true := by
    unfold rpOk
    rw [k1, k2, decide_eq_true (show (pd0 x).depth ≤ 4000 by omega), decide_eq_true (show (pd0 x).weight ≤ 120000 by omega)]
    rfl
  rw [if_pos this]
  rfl
/-- what ends a loop early -/
def stops : Fw → Option Fw
  | .bk => some .nx
  | .rt d => some (.rt d)
  | .rz c => some (.rz c)
  | _ => none
theorem forN_stop {tg : Tg} {iv : Iv} {body : Sl → S → XR} (n m : Nat) (hm : m < n) (P : Nat → Sl → S → Prop) (Z : Fw → Sl → S → Prop)
    (hl : ∀ i r s, P i r s → i ≤ m → ivLen s iv = some n)
    (hb : ∀ i r s, P i r s → i < m → ∃ x r1 r' s' w, ivGet s i iv = some x ∧ tgSet s tg x r = some r1 ∧ body r1 s = some (.ok (w, r'), s') ∧ (w = .nx ∨ w = .ct) ∧ P (i + 1) r' s')
    (he : ∀ r s, P m r s → ∃ x r1 r' s' w z, ivGet s m iv = some x ∧ tgSet s tg x r = some r1 ∧ body r1 s = some (.ok (w, r'), s') ∧ stops w = some z ∧ Z z r' s') :
    ∀ k i r s, P i r s → i ≤ m → m + 1 ≤ k + i → ∃ z r' s', forN tg iv body k i r s = some (.ok (z, r'), s') ∧ Z z r' s' := by
  intro k
  induction k with
  | zero => intro i r s _ h h'; omega
  | succ k ih =>
    intro i r s hp hi hk
    rw [forN, hl i r s hp hi]
    dsimp only
    rw [if_pos (by omega)]
    by_cases h : i < m
    · obtain ⟨x, r1, r', s', w, h1, h2, h3, h4, h5⟩ := hb i r s hp h
      rw [h1]
      dsimp only
      rw [h2]
      dsimp only
      rw [h3, bnd_ok]
      rcases h4 with rfl | rfl
      · exact ih (i + 1) r' s' h5 (by omega) (by omega)
      · exact ih (i + 1) r' s' h5 (by omega) (by omega)
    · have : i = m := by omega
      subst this
      obtain ⟨x, r1, r', s', w, z, h1, h2, h3, h4, h5⟩ := he r s hp
      rw [h1]
      dsimp only
      rw [h2]
      dsimp only
      rw [h3, bnd_ok]
      cases w <;> first | (cases h4; done) | (cases h4; exact ⟨_, r', s', rfl, h5⟩)
theorem for_stop {cf : CF} {tg : Tg} {b : Cs} {iv : Iv} {r : Sl} {s : S} (n m : Nat) (hm : m < n) (P : Nat → Sl → S → Prop) (Z : Fw → Sl → S → Prop) (h0 : P 0 r s)
    (hl : ∀ i r s, P i r s → i ≤ m → ivLen s iv = some n)
    (hb : ∀ i r s, P i r s → i < m → ∃ x r1 r' s' w, ivGet s i iv = some x ∧ tgSet s tg x r = some r1 ∧ exs cf b r1 s = some (.ok (w, r'), s') ∧ (w = .nx ∨ w = .ct) ∧ P (i + 1) r' s')
    (he : ∀ r s, P m r s → ∃ x r1 r' s' w z, ivGet s m iv = some x ∧ tgSet s tg x r = some r1 ∧ exs cf b r1 s = some (.ok (w, r'), s') ∧ stops w = some z ∧ Z z r' s') :
    ∃ z r' s', forI cf tg b r s iv = some (.ok (z, r'), s') ∧ Z z r' s' := by
  unfold forI
  rw [hl 0 r s h0 (Nat.zero_le _)]
  exact forN_stop n m hm P Z hl hb he (n + 1) 0 r s h0 (Nat.zero_le _) (by omega)
theorem rkL_mem {ok : Nat → Bool} : ∀ {xs : List D}, rkL ok xs = true → ∀ x ∈ xs, rkD ok x = true
  | [], _, x, h => (List.not_mem_nil h).elim
  | y :: xs, h, x, hx => by
    rw [rkL, Bool.and_eq_true] at h
    rcases List.mem_cons.mp hx with rfl | hx
    · exact h.1
    · exact rkL_mem h.2 x hx
mutual
theorem rkD_mono {ok ok' : Nat → Bool} (h : ∀ n, ok n = true → ok' n = true) : ∀ {x : D}, rkD ok x = true → rkD ok' x = true
  | .non, _ => by simp only [rkD]
  | .bl _, _ => by simp only [rkD]
  | .int _, q => by simpa only [rkD] using q
  | .str _, q => by simpa only [rkD] using q
  | .ref n, q => by
    simp only [rkD] at q ⊢
    exact h n q
  | .scr _, q => by simpa only [rkD] using q
  | .tup xs, q => by
    simp only [rkD] at q ⊢
    exact rkL_mono h q
  | .lst xs, q => by
    simp only [rkD] at q ⊢
    exact rkL_mono h q
theorem rkL_mono {ok ok' : Nat → Bool} (h : ∀ n, ok n = true → ok' n = true) : ∀ {xs : List D}, rkL ok xs = true → rkL ok' xs = true
  | [], _ => by simp only [rkL]
  | x :: xs, q => by
    rw [rkL, Bool.and_eq_true] at q
    rw [rkL, rkD_mono h q.1, rkL_mono h q.2]
    rfl
end
theorem wtL_mem : ∀ {xs : List D} {x : D}, x ∈ xs → wtD x < wtL xs
  | y :: xs, x, h => by
    rw [wtL]
    rcases List.mem_cons.mp h with rfl | h
    · omega
    · have := wtL_mem h
      omega
theorem dpL_mem : ∀ {xs : List D} {x : D}, x ∈ xs → dpD x ≤ dpL xs
  | y :: xs, x, h => by
    rw [dpL]
    rcases List.mem_cons.mp h with rfl | h
    · omega
    · have := dpL_mem h
      omega
theorem len_wtL : ∀ xs : List D, xs.length ≤ wtL xs
  | [] => by simp [wtL]
  | x :: xs => by
    have := len_wtL xs
    rw [wtL, List.length_cons]
    omega
theorem wtL_take (k : Nat) (xs : List D) : wtL (xs.take k) ≤ wtL xs := by
  have := wtL_app (xs.take k) (xs.drop k)
  rw [List.take_append_drop] at this
  omega
theorem wtL_drop (k : Nat) (xs : List D) : wtL (xs.drop k) ≤ wtL xs := by
  have := wtL_app (xs.take k) (xs.drop k)
  rw [List.take_append_drop] at this
  omega
theorem wtL_two (k : Nat) (xs : List D) : wtL (xs.take k) + wtL (xs.drop k) = wtL xs := by
  have := wtL_app (xs.take k) (xs.drop k)
  rw [List.take_append_drop] at this
  omega
theorem wtL_rev : ∀ xs : List D, wtL xs.reverse = wtL xs
  | [] => rfl
  | x :: xs => by
    rw [List.reverse_cons, wtL_app, wtL_rev xs]
    simp only [wtL]
    omega
/-- a row of things: its boxes, weight, depth -/
structure TL (ok : Nat → Bool) (xs : List D) (w d : Nat) : Prop where
  rk : rkL ok xs = true
  wt : wtL xs ≤ w
  dp : dpL xs ≤ d
structure TD (ok : Nat → Bool) (x : D) (w d : Nat) : Prop where
  rk : rkD ok x = true
  wt : wtD x ≤ w
  dp : dpD x ≤ d
section
variable {ok ok' : Nat → Bool} {xs ys : List D} {x : D} {w d w' d' : Nat}
theorem TL.sub (h : TL ok xs w d) (hs : ∀ y ∈ ys, y ∈ xs) (hw : wtL ys ≤ wtL xs) : TL ok ys w d :=
  ⟨rkL_all fun y hy => rkL_mem h.rk y (hs y hy), Nat.le_trans hw h.wt, dpL_le fun y hy => Nat.le_trans (dpL_mem (hs y hy)) h.dp⟩
theorem TL.take (h : TL ok xs w d) (k : Nat) : TL ok (xs.take k) w d := h.sub (fun _ hy => List.mem_of_mem_take hy) (wtL_take k xs)
theorem TL.drop (h : TL ok xs w d) (k : Nat) : TL ok (xs.drop k) w d := h.sub (fun _ hy => List.mem_of_mem_drop hy) (wtL_drop k xs)
theorem TL.cut (h : TL ok xs w d) (lo hi : Option Int) : TL ok (Fl.cut xs lo hi) w d := (h.drop _).take _
theorem TL.rev (h : TL ok xs w d) : TL ok xs.reverse w d := h.sub (fun _ hy => List.mem_reverse.mp hy) (Nat.le_of_eq (wtL_rev xs))
theorem TL.app (h : TL ok xs w d) (g : TL ok ys w' d') : TL ok (xs ++ ys) (w + w') (max d d') :=
  ⟨by rw [rkL_app, h.rk, g.rk]; rfl, by rw [wtL_app]; have := h.wt; have := g.wt; omega, by rw [dpL_app]; have := h.dp; have := g.dp; omega⟩
theorem TL.one (h : TD ok x w d) : TL ok [x] (w + 1) d := ⟨by rw [rkL, h.rk]; rfl, by simp only [wtL]; have := h.wt; omega, by simp only [dpL]; have := h.dp; omega⟩
theorem TL.tup (h : TL ok xs w d) : TD ok (.tup xs) w (d + 1) := ⟨by simpa only [rkD] using h.rk, by simpa only [wtD] using h.wt, by simp only [dpD]; have := h.dp; omega⟩
theorem TL.lst (h : TL ok xs w d) : TD ok (.lst xs) w (d + 1) := ⟨by simpa only [rkD] using h.rk, by simpa only [wtD] using h.wt, by simp only [dpD]; have := h.dp; omega⟩
theorem TL.mono (h : TL ok xs w d) (hw : w ≤ w') (hd : d ≤ d') : TL ok xs w' d' := ⟨h.rk, Nat.le_trans h.wt hw, Nat.le_trans h.dp hd⟩
theorem TD.mono (h : TD ok x w d) (hw : w ≤ w') (hd : d ≤ d') : TD ok x w' d' := ⟨h.rk, Nat.le_trans h.wt hw, Nat.le_trans h.dp hd⟩
theorem TL.mem (h : TL ok xs w d) (hx : x ∈ xs) : TD ok x w d := ⟨rkL_mem h.rk x hx, by have := wtL_mem hx; have := h.wt; omega, Nat.le_trans (dpL_mem hx) h.dp⟩
theorem TL.up (h : TL ok xs w d) (g : ∀ n, ok n = true → ok' n = true) : TL ok' xs w d := ⟨rkL_mono g h.rk, h.wt, h.dp⟩
theorem TD.up (h : TD ok x w d) (g : ∀ n, ok n = true → ok' n = true) : TD ok' x w d := ⟨rkD_mono g h.rk, h.wt, h.dp⟩
theorem TL.len (h : TL ok xs w d) : xs.length ≤ w := Nat.le_trans (len_wtL xs) h.wt
end
theorem ix_mem (xs : List D) (i : Int) {s : S} (h0 : 0 ≤ i) (h1 : i < xs.length) : ∃ x, idxD s (.lst xs) (.int i) = some x ∧ x ∈ xs := by
  obtain ⟨n, rfl⟩ := Int.eq_ofNat_of_zero_le h0
  have hn : n < xs.length := by omega
  refine ⟨xs[n], ?_, List.getElem_mem hn⟩
  show atI xs (n : Int) = _
  unfold atI ixN
  rw [if_pos (by omega), if_pos (by omega), Option.bind_some, Int.toNat_natCast, List.getElem?_eq_getElem hn]
/-- the boxes that are empty dicts -/
def okS (s : S) : Nat → Bool := fun n => decide (n < s.nx) && match s.m n with
  | some (.dic []) => true
  | _ => false
theorem okS_at {s : S} {n : Nat} (h : okS s n = true) : n < s.nx ∧ s.m n = some (.dic []) := by
  unfold okS at h
  rw [Bool.and_eq_true] at h
  refine ⟨of_decide_eq_true h.1, ?_⟩
  have h2 := h.2
  split at h2
  · assumption
  · cases h2
theorem okS_of {s : S} {n : Nat} (h : n < s.nx) (g : s.m n = some (.dic [])) : okS s n = true := by
  unfold okS
  rw [g, decide_eq_true h]
  rfl
/-- all but the box n is kept -/
def Kp (s s' : S) (n : Nat) : Prop := s.nx ≤ s'.nx ∧ ∀ j, j < s.nx → j ≠ n → s'.m j = s.m j
theorem Kp.rfl {s : S} {n : Nat} : Kp s s n := ⟨Nat.le_refl _, fun _ _ _ => Eq.refl _⟩
theorem Kp.trans {s t u : S} {n : Nat} (h : Kp s t n) (g : Kp t u n) : Kp s u n := ⟨Nat.le_trans h.1 g.1, fun j hj hn => (g.2 j (Nat.lt_of_lt_of_le hj h.1) hn).trans (h.2 j hj hn)⟩
theorem okS_kp {s s' : S} {n : Nat} {xs : List D} (h : Kp s s' n) (hn : s.m n = some (.lst xs)) : ∀ j, okS s j = true → okS s' j = true := fun j hj => by
  obtain ⟨h1, h2⟩ := okS_at hj
  have hne : j ≠ n := fun z => by
    rw [z, hn] at h2
    cases h2
  exact okS_of (Nat.lt_of_lt_of_le h1 h.1) ((h.2 j h1 hne).trans h2)
theorem lcN_nope {tg : Tg} {iv : Iv} {tst : Sl → S → R Bool} {elt : Sl → S → R D} {r : Sl} (n : Nat) (P : Nat → S → Prop) (hl : ∀ i s, P i s → i ≤ n → ivLen s iv = some n)
    (hb : ∀ i s, P i s → i < n → ∃ x r1 s', ivGet s i iv = some x ∧ tgSet s tg x r = some r1 ∧ tst r1 s = some (.ok false, s') ∧ P (i + 1) s') :
    ∀ m i acc s, P i s → i ≤ n → n + 1 ≤ m + i → ∃ s', lcN tg iv tst elt r m i acc s = some (.ok acc, s') ∧ P n s' := by
  intro m
  induction m with
  | zero => intro i acc s _ h1 h2; omega
  | succ m ih =>
    intro i acc s hp h1 h2
    rw [lcN, hl i s hp h1]
    dsimp only
    by_cases h : i < n
    · rw [if_pos h]
      obtain ⟨x, r1, s', g1, g2, g3, g4⟩ := hb i s hp h
      rw [g1]
      dsimp only
      rw [g2]
      dsimp only
      rw [g3, bnd_ok]
      exact ih (i + 1) acc s' g4 (by omega) (by omega)
    · rw [if_neg h]
      have : i = n := by omega
      subst this
      exact ⟨s, rfl, hp⟩
theorem lc_nope {cf : CF} {t : Nat} {e : E} {c : Oe} {r : Sl} {s : S} {xs : List D} (P : Nat → S → Prop) (h0 : P 0 s)
    (hb : ∀ i s x, P i s → xs[i]? = some x → ∃ s', evT cf c (r.set t (some x)) s = some (.ok false, s') ∧ P (i + 1) s') :
    ∃ s', lcI cf false e (.nm t) c r s (.seq (.lst xs)) = some (.ok (.lst []), s') ∧ P xs.length s' := by
  unfold lcI
  obtain ⟨s', h1, h2⟩ := lcN_nope (tg := .nm t) (iv := .seq (.lst xs)) (tst := evT cf c) (r := r) (elt := ev cf e) xs.length P (fun _ _ _ _ => rfl) (fun i s hp hi => by
    obtain ⟨s', g1, g2⟩ := hb i s xs[i] hp (List.getElem?_eq_getElem hi)
    exact ⟨xs[i], _, s', List.getElem?_eq_getElem hi, rfl, g1, g2⟩) (xs.length + 1) 0 [] s h0 (Nat.zero_le _) (by omega)
  refine ⟨s', ?_, h2⟩
  show bnd (lcN _ _ _ _ _ _ _ _ _) _ = _
  rw [h1]
  rfl
theorem law_forN {cf : CF} {b : Cs} {xs : List D} {z : D} {s : S} {q : Sl} (N : Nat) (hq : q.length = N) (hx : ∀ x ∈ xs, ∃ v : Int, x = .int v)
    (hb : ∀ (x : Int) (r : Sl) (s : S), r.length = N → ∃ r' s', exs cf b (some z :: some (.int x) :: r) s = some (.ok (.nx, some z :: r'), s') ∧ r'.length = N + 1) :
    ∃ r' s', forI cf (.nm 1) b (some z :: none :: q) s (.seq (.lst xs)) = some (.ok (.nx, some z :: r'), s') ∧ r'.length = N + 1 := by
  obtain ⟨r', s', h, q, rfl, hl⟩ := for_lst (cf := cf) (b := b) (t := 1) (s := s) (xs := xs) (r := some z :: none :: q) (fun _ r _ => ∃ q, r = some z :: q ∧ q.length = N + 1) ⟨none :: q, rfl, by simp [hq]⟩ (by
    rintro i r s x ⟨q, rfl, hq⟩ hxi
    obtain ⟨v, rfl⟩ := hx x (List.mem_of_getElem? hxi)
    match q, hq with
    | w1 :: q, hq =>
      obtain ⟨r', s', h1, h2⟩ := hb v q s (by simpa using hq)
      exact ⟨_, s', h1, r', rfl, h2⟩)
  exact ⟨q, s', h, hl⟩
end Fl
namespace Fl
section
variable {cf : CF} {r : Sl} {s : S}
def kLenm (bx : Bool) (q : R D) : R D := bnd q fun x s => match lcont s x with
  | some xs => mkL bx (enumL 0 xs) s
  | none => none
theorem e_lenm (bx : Bool) (a : E) : ev cf (.lenm bx a) r s = kLenm bx (ev cf a r s) := by simp only [ev]; rfl
theorem kLenm_l (xs : List D) : kLenm false (some (.ok (.lst xs), s)) = some (.ok (.lst (enumL 0 xs)), s) := (rfl)
def kRps (cf : CF) (b : E) (r : Sl) (q : R D) : R D := bnd q fun x s => bnd (ev cf b r s) fun y s => match x, y with
  | .str z, .int k => if -1000 ≤ k ∧ k ≤ 1000 ∧ z.length ≤ 1000 then some (.ok (.str (List.replicate k.toNat z).flatten), s) else none
  | _, _ => none
theorem e_rps (a b : E) : ev cf (.rps a b) r s = kRps cf b r (ev cf a r s) := by simp only [ev]; rfl
theorem kRps_i (z : List Nat) (k : Int) (h : 2 ≤ k ∧ k ≤ 1000 ∧ 1 ≤ z.length ∧ z.length ≤ 1000) : kRps cf (.int k) r (some (.ok (.str z), s)) = some (.ok (.str (List.replicate k.toNat z).flatten), s) := by
  unfold kRps
  rw [bnd_ok, e_int, bnd_ok]
  dsimp only
  rw [if_pos ⟨by omega, h.2.1, h.2.2.2⟩]
def kSset (bx : Bool) (q : R D) : R D := bnd q fun x s => match x with
  | .str z => if z.length < 64 then mkL bx ((sortU z).map fun c => .str [c]) s else none
  | x => match lcont s x with
    | some xs => ssetL s bx xs
    | none => none
theorem e_sset (bx : Bool) (a : E) : ev cf (.sset bx a) r s = kSset bx (ev cf a r s) := by simp only [ev]; rfl
theorem kSset_f (z : List Nat) (h : z.length < 64) : kSset false (some (.ok (.str z), s)) = some (.ok (.lst ((sortU z).map fun c => .str [c])), s) := by
  unfold kSset
  rw [bnd_ok]
  dsimp only
  rw [if_pos h]
  rfl
theorem b_sortT (z : List Nat) (h : z.length < 64) : biD s (.sorted false) [.str z] = some (.ok (.lst ((sortM z).map fun c => .str [c])), s) := by
  show (if z.length < 64 then mkL false _ s else none) = _
  rw [if_pos h]
  rfl
theorem onesD_map : ∀ l : List Nat, onesD (l.map fun c => D.str [c]) = some l
  | [] => rfl
  | c :: l => by
    rw [List.map_cons]
    show (onesD (l.map fun c => D.str [c])).map (fun q => c :: q) = _
    rw [onesD_map l]
    rfl
theorem wnD_map (z : List Nat) : ∀ ks : List Int, wnD z (ks.map fun i => D.tup [.str z, .int i]) = some ks
  | [] => rfl
  | i :: ks => by
    rw [List.map_cons]
    show (if z = z then (wnD z (ks.map fun i => D.tup [.str z, .int i])).map (fun q => i :: q) else none) = _
    rw [if_pos rfl, wnD_map z ks]
    rfl
theorem b_sortL (xs : List D) : biD s (.sorted false) [.lst xs] = sortL s false xs := (rfl)
theorem b_sortO (l : List Nat) (h : l.length < 64) : biD s (.sorted false) [.lst (l.map fun c => .str [c])] = some (.ok (.lst ((sortM l).map fun c => .str [c])), s) := by
  rw [b_sortL]
  unfold sortL
  rw [onesD_map]
  dsimp only
  rw [if_pos h]
  rfl
theorem b_sortW (z : List Nat) (ks : List Int) (h : ordI ks = true) : biD s (.sorted false) [.lst (ks.map fun i => .tup [.str z, .int i])] = some (.ok (.lst (ks.map fun i => .tup [.str z, .int i])), s) := by
  cases ks with
  | nil => rfl
  | cons i r =>
    rw [b_sortL]
    have e1 : onesD ((i :: r).map fun i => D.tup [.str z, .int i]) = none := rfl
    have e2 : wn1 ((i :: r).map fun i => D.tup [.str z, .int i]) = z := rfl
    unfold sortL
    rw [e1, e2, wnD_map]
    dsimp only
    rw [if_pos h]
    rfl
def kEns (q : R D) : R Iv := bnd q fun x s => match x with
  | .str z => some (.ok (.ens z), s)
  | _ => none
theorem t_ens (e : E) : evI cf (.ens e) r s = kEns (ev cf e r s) := by simp only [evI]; rfl
theorem kEns_ok (z : List Nat) : kEns (some (.ok (.str z), s)) = some (.ok (.ens z), s) := (rfl)
def kDsi (cf : CF) (b : E) (r : Sl) (q : R D) : R D := bnd q fun x s => bnd (ev cf b r s) fun y s => match x with
  | .int i => some (.ok (.ref s.nx), s.new (.dic [(.i i, y)]))
  | _ => none
theorem e_dsi (a b : E) : ev cf (.dsi a b) r s = kDsi cf b r (ev cf a r s) := by simp only [ev]; rfl
theorem b_min3 (i j k : Int) : biD s .min3 [.int i, .int j, .int k] = some (.ok (.int (min (min i j) k)), s) := (rfl)
theorem intsD_map : ∀ ns : List Int, intsD (ns.map D.int) = some ns
  | [] => rfl
  | n :: ns => by
    show (intsD (ns.map D.int)).map _ = _
    rw [intsD_map ns]
    rfl
theorem kSset_o (l : List Nat) (h : l.length < 64) : kSset false (some (.ok (.lst (l.map fun c => .str [c])), s)) = some (.ok (.lst ((sortU l).map fun c => .str [c])), s) := by
  show ssetL s false (l.map fun c => .str [c]) = _
  unfold ssetL
  rw [onesD_map]
  dsimp only
  rw [if_pos h]
  rfl
theorem kSset_i (ns : List Int) (h : ns.length < 64) (hr : risI ns = true) : kSset false (some (.ok (.lst (ns.map D.int)), s)) = some (.ok (.lst (ns.map D.int)), s) := by
  show ssetL s false (ns.map D.int) = _
  cases ns with
  | nil => rfl
  | cons i r =>
    unfold ssetL
    have e1 : onesD ((i :: r).map D.int) = none := rfl
    rw [e1, intsD_map]
    dsimp only
    rw [hr, decide_eq_true h]
    rfl
theorem b_sumS (ns : List Int) : biD s .sum [.scr (ns.map D.int)] = some (.ok (.int ns.sum), s) := by
  show lft (((some (ns.map D.int)).bind intsD).map fun ns => D.int ns.sum) s = _
  rw [Option.bind_some, intsD_map]
  rfl
theorem b_strI (i : Int) (h : i.natAbs < 2 ^ 1900) : biD s .str [.int i] = some (.ok (.str (PySem.PyData.int i).shown.cps.toList), s) := by
  show (if _ then _ else _) = _
  rw [if_pos h]
end
/-- what a comprehension picks and makes -/
def sel {α : Type} (p : Nat → α → Bool) (g : Nat → α → D) : Nat → List α → List D
  | _, [] => []
  | i, y :: ys => if p i y then g i y :: sel p g (i + 1) ys else sel p g (i + 1) ys
theorem sel_app {α : Type} (p : Nat → α → Bool) (g : Nat → α → D) : ∀ (ys zs : List α) (i : Nat), sel p g i (ys ++ zs) = sel p g i ys ++ sel p g (i + ys.length) zs
  | [], zs, i => by simp [sel]
  | y :: ys, zs, i => by
    have e : i + (y :: ys).length = i + 1 + ys.length := by rw [List.length_cons]; omega
    rw [e]
    simp only [List.cons_append, sel, sel_app p g ys zs (i + 1)]
    split <;> rfl
theorem sel_one {α : Type} (p : Nat → α → Bool) (g : Nat → α → D) (y : α) (i : Nat) : sel p g i [y] = if p i y then [g i y] else [] := by
  simp only [sel]
theorem sel_all {α : Type} (g : α → D) : ∀ (ys : List α) (i : Nat), sel (fun _ _ => true) (fun _ y => g y) i ys = ys.map g
  | [], _ => rfl
  | y :: ys, i => by simp only [sel, if_true, List.map_cons, sel_all g ys (i + 1)]
theorem sel_len {α : Type} (p : Nat → α → Bool) (g : Nat → α → D) : ∀ (ys : List α) (i : Nat), (sel p g i ys).length ≤ ys.length
  | [], _ => Nat.le_refl _
  | y :: ys, i => by
    have := sel_len p g ys (i + 1)
    simp only [sel]
    split
    · simp only [List.length_cons]
      omega
    · simp only [List.length_cons]
      omega
theorem sel_mem {α : Type} {p : Nat → α → Bool} {g : Nat → α → D} {x : D} : ∀ {ys : List α} {i : Nat}, x ∈ sel p g i ys → ∃ j y, ys[j]? = some y ∧ p (i + j) y = true ∧ x = g (i + j) y
  | [], i, h => by cases h
  | y :: ys, i, h => by
    simp only [sel] at h
    have go : x ∈ sel p g (i + 1) ys → ∃ j z, (y :: ys)[j]? = some z ∧ p (i + j) z = true ∧ x = g (i + j) z := fun h => by
      obtain ⟨j, z, h1, h2, h3⟩ := sel_mem h
      have e : i + 1 + j = i + (j + 1) := by omega
      rw [e] at h2 h3
      exact ⟨j + 1, z, h1, h2, h3⟩
    split at h
    · rename_i hp
      rcases List.mem_cons.mp h with z | z
      · exact ⟨0, y, rfl, hp, z⟩
      · exact go z
    · exact go h
theorem lcN_sel {α : Type} {cf : CF} {tg : Tg} {iv : Iv} {c : Oe} {e : E} {r : Sl} {s : S} (ys : List α) (p : Nat → α → Bool) (g : Nat → α → D) (hn : ys.length ≤ LIM) (hl : ivLen s iv = some ys.length)
    (hb : ∀ i y, ys[i]? = some y → ∃ x r1, ivGet s i iv = some x ∧ tgSet s tg x r = some r1 ∧ evT cf c r1 s = some (.ok (p i y), s) ∧ (p i y = true → ev cf e r1 s = some (.ok (g i y), s))) :
    ∀ m i acc, i ≤ ys.length → acc.length ≤ i → ys.length + 1 ≤ m + i → lcN tg iv (evT cf c) (ev cf e) r m i acc s = some (.ok (acc ++ sel p g i (ys.drop i)), s) := by
  intro m
  induction m with
  | zero => intro i acc h1 h2 h3; omega
  | succ m ih =>
    intro i acc h1 h2 h3
    rw [lcN, hl]
    dsimp only
    by_cases h : i < ys.length
    · obtain ⟨x, r1, e1, e2, e3, e4⟩ := hb i ys[i] (List.getElem?_eq_getElem h)
      rw [if_pos h, e1]
      dsimp only
      rw [e2]
      dsimp only
      rw [e3, bnd_ok, List.drop_eq_getElem_cons h]
      by_cases hp : p i ys[i] = true
      · rw [if_pos hp, e4 hp, bnd_ok, if_pos (by omega), ih (i + 1) _ (by omega) (by rw [List.length_append]; simp only [List.length_cons, List.length_nil]; omega) (by omega)]
        simp only [sel, hp, if_true, List.append_assoc, List.singleton_append]
      · rw [if_neg hp, ih (i + 1) acc (by omega) (by omega) (by omega)]
        simp only [sel, hp, if_false, Bool.false_eq_true]
    · rw [if_neg h, List.drop_eq_nil_of_le (by omega)]
      simp [sel]
/-- a comprehension over anything, the store stays -/
theorem lc_sel {α : Type} {cf : CF} {tg : Tg} {iv : Iv} {c : Oe} {e : E} {r : Sl} {s : S} (ys : List α) (p : Nat → α → Bool) (g : Nat → α → D) (hn : ys.length ≤ LIM) (hl : ivLen s iv = some ys.length)
    (hb : ∀ i y, ys[i]? = some y → ∃ x r1, ivGet s i iv = some x ∧ tgSet s tg x r = some r1 ∧ evT cf c r1 s = some (.ok (p i y), s) ∧ (p i y = true → ev cf e r1 s = some (.ok (g i y), s))) :
    lcI cf false e tg c r s iv = some (.ok (.lst (sel p g 0 ys)), s) := by
  unfold lcI
  rw [hl]
  dsimp only
  rw [lcN_sel ys p g hn hl hb (ys.length + 1) 0 [] (Nat.zero_le _) (Nat.zero_le _) (by omega)]
  rfl
theorem enumL_get : ∀ (xs : List D) (i j : Nat), (enumL i xs)[j]? = (xs[j]?).map fun x => D.tup [.int ((i + j : Nat) : Int), x]
  | [], i, j => by simp [enumL]
  | x :: xs, i, 0 => by simp [enumL]
  | x :: xs, i, j + 1 => by
    show (enumL (i + 1) xs)[j]? = _
    rw [enumL_get xs (i + 1) j]
    simp only [List.getElem?_cons_succ]
    congr 1
    funext y
    have : i + 1 + j = i + (j + 1) := by omega
    rw [this]
theorem enumL_len : ∀ (xs : List D) (i : Nat), (enumL i xs).length = xs.length
  | [], _ => rfl
  | x :: xs, i => by show (enumL (i + 1) xs).length + 1 = _; rw [enumL_len]; rfl
theorem ens_len {s : S} (x : List Nat) : ivLen s (.ens x) = some x.length := rfl
theorem ens_get {s : S} (x : List Nat) (i : Nat) : ivGet s i (.ens x) = (x[i]?).map fun c => .tup [.int i, .str [c]] := rfl
theorem enm_len {s : S} (xs : List D) : ivLen s (.enm (.lst xs)) = some xs.length := rfl
theorem enm_get {s : S} (xs : List D) (i : Nat) : ivGet s i (.enm (.lst xs)) = (xs[i]?).map fun x => .tup [.int i, x] := rfl
theorem seq_len' {s : S} (xs : List D) : ivLen s (.seq (.lst xs)) = some xs.length := rfl
theorem seq_get' {s : S} (xs : List D) (i : Nat) : ivGet s i (.seq (.lst xs)) = xs[i]? := rfl
/-- over a text with numbers -/
theorem for_ens {cf : CF} {t u : Nat} {b : Cs} {xs : List Nat} {r : Sl} {s : S} (P : Nat → Sl → S → Prop) (h0 : P 0 r s)
    (hb : ∀ (i : Nat) r s c, P i r s → xs[i]? = some c → ∃ r' s', exs cf b ((r.set t (some (.int (i : Nat)))).set u (some (.str [c]))) s = some (.ok (.nx, r'), s') ∧ P (i + 1) r' s') :
    ∃ r' s', forI cf (.tp [t, u]) b r s (.ens xs) = some (.ok (.nx, r'), s') ∧ P xs.length r' s' :=
  for_inv xs.length P h0 (fun _ _ _ _ _ => rfl) fun i r s hp hi => by
    obtain ⟨r', s', h1, h2⟩ := hb i r s xs[i] hp (List.getElem?_eq_getElem hi)
    refine ⟨.tup [.int i, .str [xs[i]]], _, r', s', .nx, ?_, rfl, h1, .inl rfl, h2⟩
    show ((xs[i]?).map fun x => D.tup [.int i, .str [x]]) = _
    rw [List.getElem?_eq_getElem hi]
    rfl
/-- over pairs that stay -/
theorem for_tp {cf : CF} {t u : Nat} {b : Cs} {xs : List D} {r : Sl} {s : S} (P : Nat → Sl → S → Prop) (h0 : P 0 r s)
    (hb : ∀ (i : Nat) r s x, P i r s → xs[i]? = some x → ∃ a c r' s', x = .tup [a, c] ∧ exs cf b ((r.set t (some a)).set u (some c)) s = some (.ok (.nx, r'), s') ∧ P (i + 1) r' s') :
    ∃ r' s', forI cf (.tp [t, u]) b r s (.seq (.lst xs)) = some (.ok (.nx, r'), s') ∧ P xs.length r' s' :=
  for_inv xs.length P h0 (fun _ _ _ _ _ => rfl) fun i r s hp hi => by
    obtain ⟨a, c, r', s', h0, h1, h2⟩ := hb i r s xs[i] hp (List.getElem?_eq_getElem hi)
    refine ⟨.tup [a, c], _, r', s', .nx, ?_, rfl, h1, .inl rfl, h2⟩
    show xs[i]? = _
    rw [List.getElem?_eq_getElem hi, h0]
theorem kLst_9f {s : S} (a0 a1 a2 a3 a4 a5 a6 a7 a8 : D) : kLst false (some (.ok [a0, a1, a2, a3, a4, a5, a6, a7, a8], s)) = some (.ok (.lst [a0, a1, a2, a3, a4, a5, a6, a7, a8]), s) := (rfl)
theorem kLst_10f {s : S} (a0 a1 a2 a3 a4 a5 a6 a7 a8 a9 : D) : kLst false (some (.ok [a0, a1, a2, a3, a4, a5, a6, a7, a8, a9], s)) = some (.ok (.lst [a0, a1, a2, a3, a4, a5, a6, a7, a8, a9]), s) := (rfl)
theorem kLst_11f {s : S} (a0 a1 a2 a3 a4 a5 a6 a7 a8 a9 a10 : D) : kLst false (some (.ok [a0, a1, a2, a3, a4, a5, a6, a7, a8, a9, a10], s)) = some (.ok (.lst [a0, a1, a2, a3, a4, a5, a6, a7, a8, a9, a10]), s) := (rfl)
theorem kLst_12f {s : S} (a0 a1 a2 a3 a4 a5 a6 a7 a8 a9 a10 a11 : D) : kLst false (some (.ok [a0, a1, a2, a3, a4, a5, a6, a7, a8, a9, a10, a11], s)) = some (.ok (.lst [a0, a1, a2, a3, a4, a5, a6, a7, a8, a9, a10, a11]), s) := (rfl)
theorem kLst_13f {s : S} (a0 a1 a2 a3 a4 a5 a6 a7 a8 a9 a10 a11 a12 : D) : kLst false (some (.ok [a0, a1, a2, a3, a4, a5, a6, a7, a8, a9, a10, a11, a12], s)) = some (.ok (.lst [a0, a1, a2, a3, a4, a5, a6, a7, a8, a9, a10, a11, a12]), s) := (rfl)
theorem kLst_14f {s : S} (a0 a1 a2 a3 a4 a5 a6 a7 a8 a9 a10 a11 a12 a13 : D) : kLst false (some (.ok [a0, a1, a2, a3, a4, a5, a6, a7, a8, a9, a10, a11, a12, a13], s)) = some (.ok (.lst [a0, a1, a2, a3, a4, a5, a6, a7, a8, a9, a10, a11, a12, a13]), s) := (rfl)
theorem kLst_15f {s : S} (a0 a1 a2 a3 a4 a5 a6 a7 a8 a9 a10 a11 a12 a13 a14 : D) : kLst false (some (.ok [a0, a1, a2, a3, a4, a5, a6, a7, a8, a9, a10, a11, a12, a13, a14], s)) = some (.ok (.lst [a0, a1, a2, a3, a4, a5, a6, a7, a8, a9, a10, a11, a12, a13, a14]), s) := (rfl)
theorem kLst_16f {s : S} (a0 a1 a2 a3 a4 a5 a6 a7 a8 a9 a10 a11 a12 a13 a14 a15 : D) : kLst false (some (.ok [a0, a1, a2, a3, a4, a5, a6, a7, a8, a9, a10, a11, a12, a13, a14, a15], s)) = some (.ok (.lst [a0, a1, a2, a3, a4, a5, a6, a7, a8, a9, a10, a11, a12, a13, a14, a15]), s) := (rfl)
theorem kLst_17f {s : S} (a0 a1 a2 a3 a4 a5 a6 a7 a8 a9 a10 a11 a12 a13 a14 a15 a16 : D) : kLst false (some (.ok [a0, a1, a2, a3, a4, a5, a6, a7, a8, a9, a10, a11, a12, a13, a14, a15, a16], s)) = some (.ok (.lst [a0, a1, a2, a3, a4, a5, a6, a7, a8, a9, a10, a11, a12, a13, a14, a15, a16]), s) := (rfl)
theorem kLst_18f {s : S} (a0 a1 a2 a3 a4 a5 a6 a7 a8 a9 a10 a11 a12 a13 a14 a15 a16 a17 : D) : kLst false (some (.ok [a0, a1, a2, a3, a4, a5, a6, a7, a8, a9, a10, a11, a12, a13, a14, a15, a16, a17], s)) = some (.ok (.lst [a0, a1, a2, a3, a4, a5, a6, a7, a8, a9, a10, a11, a12, a13, a14, a15, a16, a17]), s) := (rfl)
theorem kLst_19f {s : S} (a0 a1 a2 a3 a4 a5 a6 a7 a8 a9 a10 a11 a12 a13 a14 a15 a16 a17 a18 : D) : kLst false (some (.ok [a0, a1, a2, a3, a4, a5, a6, a7, a8, a9, a10, a11, a12, a13, a14, a15, a16, a17, a18], s)) = some (.ok (.lst [a0, a1, a2, a3, a4, a5, a6, a7, a8, a9, a10, a11, a12, a13, a14, a15, a16, a17, a18]), s) := (rfl)
open PySem PyProof.Rows in
theorem free_list {k : Nat} (hk : 1114112 ≤ k) {xs : List PyData} (h : ∀ x ∈ xs, k ∉ x.shown.cps.toList) : k ∉ (PyData.list xs).shown.cps.toList := by
  rw [PyData.shown_list, mem_cps_append, mem_cps_append, signs_lbrack, signs_rbrack, mem_join]
  rintro ((hm | (⟨t, ht, hc⟩ | ⟨-, hm⟩)) | hm)
  · rw [List.mem_singleton] at hm; omega
  · exact shownAll_free h t ht hc
  · rw [signs_sep] at hm
    simp only [List.mem_cons, List.not_mem_nil, or_false] at hm
    omega
  · rw [List.mem_singleton] at hm; omega
open PySem PyProof.Rows in
theorem free_tup {k : Nat} (hk : 1114112 ≤ k) {xs : List PyData} (h : ∀ x ∈ xs, k ∉ x.shown.cps.toList) : k ∉ (PyData.tuple xs).shown.cps.toList := by
  rw [PyData.shown_tuple, mem_cps_append, mem_cps_append, signs_lparen, mem_join, signs_tuple_end]
  rintro ((hm | (⟨t, ht, hc⟩ | ⟨-, hm⟩)) | hm)
  · rw [List.mem_singleton] at hm; omega
  · exact shownAll_free h t ht hc
  · rw [signs_sep] at hm
    simp only [List.mem_cons, List.not_mem_nil, or_false] at hm
    omega
  · split at hm
    · simp only [List.mem_cons, List.not_mem_nil, or_false] at hm
      omega
    · simp only [List.mem_cons, List.not_mem_nil, or_false] at hm
      omega
open PySem PyProof.Rows in
theorem free_int {k : Nat} (hk : 1114112 ≤ k) (i : Int) : k ∉ (PyData.int i).shown.cps.toList := shown_int_free' ⟨by omega, .inr (by omega)⟩ i
section
variable {cf : CF} {r : Sl} {s : S}
def kXi (cf : CF) (a b : Xe) (r : Sl) (q : R D) : R D := bnn q fun x s => match truth s x with
  | some true => evx cf a r s
  | some false => evx cf b r s
  | none => none
theorem xe_ite (c : E) (a b : Xe) : evx cf (.ite c a b) r s = kXi cf a b r (ev cf c r s) := by simp only [evx]; rfl
theorem kXi_b (a b : Xe) (k : Bool) : kXi cf a b r (some (.ok (.bl k), s)) = if k = true then evx cf a r s else evx cf b r s := by cases k <;> rfl
def kX2b (x : D) (q : R D) : R D := bnd q fun y s => mkLz false [x, y] s
def kX2a (cf : CF) (b : Xe) (r : Sl) (q : R D) : R D := bnd q fun x s => kX2b x (evx cf b r s)
theorem xe_lst2 (a b : Xe) : evx cf (.lst2 a b) r s = kX2a cf b r (evx cf a r s) := by simp only [evx]; rfl
theorem kX2a_ok (b : Xe) (x : D) : kX2a cf b r (some (.ok x, s)) = kX2b x (evx cf b r s) := (rfl)
theorem kX2a_er (b : Xe) (c : String) : kX2a cf b r (some (.er c, s)) = some (.er c, s) := (rfl)
theorem kX2b_ok (x y : D) : kX2b x (some (.ok y, s)) = some (.ok (.lst [x, y]), s) := (rfl)
theorem kX2b_er (x : D) (c : String) : kX2b x (some (.er c, s)) = some (.er c, s) := (rfl)
def kX3c (x y : D) (q : R D) : R D := bnd q fun z s => mkLz false [x, y, z] s
def kX3b (cf : CF) (c : Xe) (r : Sl) (x : D) (q : R D) : R D := bnd q fun y s => kX3c x y (evx cf c r s)
def kX3a (cf : CF) (b c : Xe) (r : Sl) (q : R D) : R D := bnd q fun x s => kX3b cf c r x (evx cf b r s)
theorem xe_lst3 (a b c : Xe) : evx cf (.lst3 a b c) r s = kX3a cf b c r (evx cf a r s) := by simp only [evx]; rfl
theorem kX3a_ok (b c : Xe) (x : D) : kX3a cf b c r (some (.ok x, s)) = kX3b cf c r x (evx cf b r s) := (rfl)
theorem kX3a_er (b c : Xe) (e : String) : kX3a cf b c r (some (.er e, s)) = some (.er e, s) := (rfl)
theorem kX3b_ok (c : Xe) (x y : D) : kX3b cf c r x (some (.ok y, s)) = kX3c x y (evx cf c r s) := (rfl)
theorem kX3b_er (c : Xe) (x : D) (e : String) : kX3b cf c r x (some (.er e, s)) = some (.er e, s) := (rfl)
theorem kX3c_ok (x y z : D) : kX3c x y (some (.ok z, s)) = some (.ok (.lst [x, y, z]), s) := (rfl)
theorem kX3c_er (x y : D) (e : String) : kX3c x y (some (.er e, s)) = some (.er e, s) := (rfl)
def kAi4 (n : Nat) (k a : Int) (p : Bop) (r : Sl) (q : R D) : XR := bnd q fun y s => match y with
  | .int b => match s.m n with
    | some (.lst ys) => match ixN ys.length k with
      | some j => match p with
        | .add => some (.ok (.nx, r), s.put n (.lst (ys.set j (.int (a + b)))))
        | .sub => some (.ok (.nx, r), s.put n (.lst (ys.set j (.int (a - b)))))
        | _ => none
      | none => none
    | _ => none
  | _ => none
def kAi3 (cf : CF) (p : Bop) (e : E) (r : Sl) (x : D) (q : R D) : XR := bnd q fun k s => match x, k with
  | .ref n, .int k => match s.m n with
    | some (.lst xs) => match atI xs k with
      | some (.int a) => kAi4 n k a p r (ev cf e r s)
      | _ => none
    | _ => none
  | _, _ => none
def kAi2 (cf : CF) (i : E) (p : Bop) (e : E) (r : Sl) (q : R D) : XR := bnd q fun x s => kAi3 cf p e r x (ev cf i r s)
theorem s_augi (o i : E) (p : Bop) (e : E) : ex cf (.augi o i p e) r s = kAi2 cf i p e r (ev cf o r s) := by simp only [ex]; rfl
theorem kAi2_ok (i : E) (p : Bop) (e : E) (x : D) : kAi2 cf i p e r (some (.ok x, s)) = kAi3 cf p e r x (ev cf i r s) := (rfl)
theorem kAi3_at {p : Bop} {e : E} {n : Nat} {k a : Int} {xs : List D} (h : s.m n = some (.lst xs)) (ha : atI xs k = some (.int a)) : kAi3 cf p e r (.ref n) (some (.ok (.int k), s)) = kAi4 n k a p r (ev cf e r s) := by
  show (match s.m n with
    | some (.lst xs) => match atI xs k with
      | some (.int a) => kAi4 n k a p r (ev cf e r s)
      | _ => none
    | _ => none) = _
  rw [h]
  show (match atI xs k with
      | some (.int a) => kAi4 n k a p r (ev cf e r s)
      | _ => none) = _
  rw [ha]
theorem kAi4_add {n : Nat} {k a b : Int} {ys : List D} {j : Nat} (h : s.m n = some (.lst ys)) (hj : ixN ys.length k = some j) : kAi4 n k a .add r (some (.ok (.int b), s)) = some (.ok (.nx, r), s.put n (.lst (ys.set j (.int (a + b))))) := by
  show (match s.m n with
    | some (.lst ys) => match ixN ys.length k with
      | some j => some (Rs.ok (Fw.nx, r), s.put n (.lst (ys.set j (.int (a + b)))))
      | none => none
    | _ => none) = _
  rw [h]
  show (match ixN ys.length k with
      | some j => some (Rs.ok (Fw.nx, r), s.put n (.lst (ys.set j (.int (a + b)))))
      | none => none) = _
  rw [hj]
theorem kAi4_sub {n : Nat} {k a b : Int} {ys : List D} {j : Nat} (h : s.m n = some (.lst ys)) (hj : ixN ys.length k = some j) : kAi4 n k a .sub r (some (.ok (.int b), s)) = some (.ok (.nx, r), s.put n (.lst (ys.set j (.int (a - b))))) := by
  show (match s.m n with
    | some (.lst ys) => match ixN ys.length k with
      | some j => some (Rs.ok (Fw.nx, r), s.put n (.lst (ys.set j (.int (a - b)))))
      | none => none
    | _ => none) = _
  rw [h]
  show (match ixN ys.length k with
      | some j => some (Rs.ok (Fw.nx, r), s.put n (.lst (ys.set j (.int (a - b)))))
      | none => none) = _
  rw [hj]
def kPk (cf : CF) (f g : String) (es : Es) (r : Sl) (q : R D) : R D := bnn q fun k s => match pickF f g k with
  | some h => bnn (evs cf es r s) fun xs s => cf "" h xs s
  | none => none
theorem xe_pick (f g : String) (i : E) (es : Es) : evx cf (.pick f g i es) r s = kPk cf f g es r (ev cf i r s) := by simp only [evx]; rfl
theorem kPk_0 (f g : String) (es : Es) : kPk cf f g es r (some (.ok (.int 0), s)) = evx cf (.call f es) r s := by simp only [evx]; rfl
theorem kPk_1 (f g : String) (es : Es) : kPk cf f g es r (some (.ok (.int 1), s)) = evx cf (.call g es) r s := by simp only [evx]; rfl
def kDenm (q : R D) : R D := bnd q fun x s => match lcont s x with
  | some xs => some (.ok (.ref s.nx), s.new (.dic ((denL 0 xs).foldl (fun acc kv => dput acc kv.1 kv.2) [])))
  | none => none
theorem e_denm (a : E) : ev cf (.denm a) r s = kDenm (ev cf a r s) := by simp only [ev]; rfl
theorem dput_new {kvs : List (DK × D)} {k : DK} {v : D} (h : ∀ kv ∈ kvs, kv.1 ≠ k) : dput kvs k v = kvs ++ [(k, v)] := by
  unfold dput
  rw [if_neg]
  simp only [List.any_eq_true, decide_eq_true_eq, not_exists, not_and]
  exact h
theorem denL_fold : ∀ (xs : List D) (i : Nat) (acc : List (DK × D)), (∀ kv ∈ acc, ∃ j : Nat, j < i ∧ kv.1 = .i (j : Nat)) → (denL i xs).foldl (fun acc kv => dput acc kv.1 kv.2) acc = acc ++ denL i xs
  | [], i, acc, _ => by simp [denL]
  | x :: xs, i, acc, h => by
    show (denL (i + 1) xs).foldl (fun acc kv => dput acc kv.1 kv.2) (dput acc (.i (i : Nat)) x) = _
    rw [dput_new (fun kv hkv => by
      obtain ⟨j, hj, e⟩ := h kv hkv
      rw [e]
      intro z
      injection z with z
      omega), denL_fold xs (i + 1) _ (fun kv hkv => by
      rcases List.mem_append.mp hkv with z | z
      · obtain ⟨j, hj, e⟩ := h kv z
        exact ⟨j, by omega, e⟩
      · rw [List.mem_singleton.mp z]
        exact ⟨i, by omega, rfl⟩)]
    simp [denL]
theorem kDenm_l (xs : List D) : kDenm (some (.ok (.lst xs), s)) = some (.ok (.ref s.nx), s.new (.dic (denL 0 xs))) := by
  show some (Rs.ok (D.ref s.nx), s.new (.dic ((denL 0 xs).foldl (fun acc kv => dput acc kv.1 kv.2) []))) = _
  rw [denL_fold xs 0 [] (fun kv h => by cases h)]
  rfl
theorem e_dst (a b : E) : ev cf (.dst a b) r s = bnd (ev cf a r (s.new (.dit []))) fun x s1 => bnd (ev cf b r s1) fun y s2 => match keyT x, s2.m s.nx with
    | some k, some (.dit []) => some (.ok (.ref s.nx), s2.put s.nx (.dit [(k, y)]))
    | _, _ => none := by simp only [ev] <;> rfl
end
end Fl
namespace Fl
open PySem PyProof.Rows L2 _root_.TL
theorem numZ (n : Nat) : (PyData.shown (.int (n : Int))).cps.toList = numL n := by
  simp only [PyData.shown]
  exact tl_num n
theorem numZ_neg (m : Nat) : 45 ∈ (PyData.shown (.int (Int.negSucc m))).cps.toList := by
  rw [PyData.shown_int, signs_ofString, Int.toString_eq_repr, Int.repr_eq_if, if_neg (by omega), String.toList_append]
  exact List.mem_map.mpr ⟨'-', List.mem_append_left _ (by simp), by decide⟩
theorem numZ_inj {i : Int} {k : Nat} (h : (PyData.shown (.int i)).cps.toList = (PyData.shown (.int (k : Int))).cps.toList) : i = k := by
  cases i with
  | ofNat n =>
    have e : (PyData.shown (.int (n : Int))).cps.toList = (PyData.shown (.int (k : Int))).cps.toList := h
    rw [numZ, numZ] at e
    have := numL_inj e
    show (n : Int) = k
    omega
  | negSucc m =>
    have := numZ_neg m
    rw [h, numZ] at this
    exact absurd this (numL_free (.inl (by decide)))
def Jn : List (List Nat) → List Nat
  | [] => []
  | [t] => t
  | t :: u :: r => t ++ 44 :: 32 :: Jn (u :: r)
theorem join_cps : ∀ ts : List Str, (Str.join ", " ts).cps.toList = Jn (ts.map fun t => t.cps.toList)
  | [] => rfl
  | [t] => rfl
  | t :: u :: r => by
    have ih := join_cps (u :: r)
    rw [join_cons_cons, cps_toList_append, cps_toList_append, ih, signs_sep]
    simp [Jn]
theorem shown_lst (ds : List PyData) : (PyData.shown (.list ds)).cps.toList = 91 :: (Jn (ds.map fun d => d.shown.cps.toList) ++ [93]) := by
  have e : ∀ ds : List PyData, PyData.shownAll ds = ds.map PyData.shown := fun ds => by
    induction ds with
    | nil => rfl
    | cons d ds ih => simp only [PyData.shownAll, ih, List.map_cons]
  rw [PyData.shown_list, cps_toList_append, cps_toList_append, signs_lbrack, signs_rbrack, join_cps, e, List.map_map]
  rfl
theorem jn_mem {c : Nat} : ∀ ts : List (List Nat), c ∈ Jn ts ↔ (∃ t ∈ ts, c ∈ t) ∨ (2 ≤ ts.length ∧ (c = 44 ∨ c = 32))
  | [] => by simp [Jn]
  | [t] => by simp [Jn]
  | t :: u :: r => by
    have ih := jn_mem (c := c) (u :: r)
    simp only [Jn, List.mem_append, List.mem_cons, ih]
    constructor
    · rintro (h | h | h | ⟨x, hx, h⟩ | ⟨_, h⟩)
      · exact .inl ⟨t, .inl rfl, h⟩
      · exact .inr ⟨by simp, .inl h⟩
      · exact .inr ⟨by simp, .inr h⟩
      · exact .inl ⟨x, .inr (by simpa using hx), h⟩
      · exact .inr ⟨by simp, h⟩
    · rintro (⟨x, rfl | hx, h⟩ | ⟨_, h | h⟩)
      · exact .inl h
      · exact .inr (.inr (.inr (.inl ⟨x, by simpa using hx, h⟩)))
      · exact .inr (.inl h)
      · exact .inr (.inr (.inl h))
theorem cut_44 : ∀ (t u a b : List Nat), 44 ∉ t → 44 ∉ u → t ++ 44 :: a = u ++ 44 :: b → t = u ∧ a = b
  | [], [], a, b, _, _, h => ⟨rfl, by simpa using h⟩
  | [], y :: u, a, b, _, hu, h => by
    simp only [List.nil_append, List.cons_append] at h
    injection h with h1 h2
    exact absurd (by rw [← h1]; exact List.mem_cons_self) hu
  | x :: t, [], a, b, ht, _, h => by
    simp only [List.nil_append, List.cons_append] at h
    injection h with h1 h2
    exact absurd (by rw [h1]; exact List.mem_cons_self) ht
  | x :: t, y :: u, a, b, ht, hu, h => by
    simp only [List.cons_append] at h
    injection h with h1 h2
    obtain ⟨e1, e2⟩ := cut_44 t u a b (fun z => ht (List.mem_cons_of_mem _ z)) (fun z => hu (List.mem_cons_of_mem _ z)) h2
    exact ⟨by rw [h1, e1], e2⟩
theorem jn_inj : ∀ (ts us : List (List Nat)), (∀ t ∈ ts, t ≠ [] ∧ 44 ∉ t) → (∀ u ∈ us, u ≠ [] ∧ 44 ∉ u) → Jn ts = Jn us → ts = us
  | [], [], _, _, _ => rfl
  | [], u :: us, _, hu, h => by
    exfalso
    have h1 := (hu u List.mem_cons_self).1
    cases us with
    | nil => exact h1 h.symm
    | cons v us =>
      simp only [Jn] at h
      exact absurd h.symm (by simp)
  | t :: ts, [], ht, _, h => by
    exfalso
    have h1 := (ht t List.mem_cons_self).1
    cases ts with
    | nil => exact h1 h
    | cons v us =>
      simp only [Jn] at h
      exact absurd h (by simp)
  | [t], [u], _, _, h => by
    simp only [Jn] at h
    rw [h]
  | [t], u :: v :: us, ht, _, h => by
    simp only [Jn] at h
    exact absurd (by rw [h]; simp) (ht t List.mem_cons_self).2
  | t :: v :: ts, [u], _, hu, h => by
    simp only [Jn] at h
    exact absurd (by rw [← h]; simp) (hu u List.mem_cons_self).2
  | t :: v :: ts, u :: w :: us, ht, hu, h => by
    simp only [Jn] at h
    obtain ⟨e1, e2⟩ := cut_44 _ _ _ _ (ht t List.mem_cons_self).2 (hu u List.mem_cons_self).2 h
    injection e2 with _ e3
    rw [e1, jn_inj (v :: ts) (w :: us) (fun x hx => ht x (List.mem_cons_of_mem _ hx)) (fun x hx => hu x (List.mem_cons_of_mem _ hx)) e3]
/-- signs that stand in no number and not in None -/
def badC (c : Nat) : Prop := c = 39 ∨ c = 34 ∨ c = 40 ∨ c = 91 ∨ c = 123
def kD : Option Nat → D
  | none => .non
  | some i => .int (i : Nat)
theorem quote_in (x : Str) : ∃ c, badC c ∧ c ∈ (reprText x).cps.toList := by
  refine ⟨reprQuote x, ?_, by simp [reprText]⟩
  unfold reprQuote
  split
  · exact .inr (.inl rfl)
  · exact .inl rfl
theorem tok_ok {ok : Nat → Bool} (x : D) (h : rkD ok x = true) : (pd0 x).shown.cps.toList ≠ [] ∧ (44 ∉ (pd0 x).shown.cps.toList ∨ ∃ c, badC c ∧ c ∈ (pd0 x).shown.cps.toList) := by
  have key : ∀ c, badC c → c ∈ (pd0 x).shown.cps.toList → (pd0 x).shown.cps.toList ≠ [] ∧ (44 ∉ (pd0 x).shown.cps.toList ∨ ∃ c, badC c ∧ c ∈ (pd0 x).shown.cps.toList) := fun c h1 h2 => by
    refine ⟨fun z => ?_, .inr ⟨c, h1, h2⟩⟩
    rw [z] at h2
    cases h2
  cases x with
  | non => simp only [pd0, PyData.shown]; exact ⟨by decide, .inl (by decide)⟩
  | bl b =>
    cases b with
    | true => simp only [pd0, PyData.shown]; exact ⟨by decide, .inl (by decide)⟩
    | false => simp only [pd0, PyData.shown]; exact ⟨by decide, .inl (by decide)⟩
  | int i =>
    refine ⟨?_, .inl ?_⟩
    · cases i with
      | ofNat n =>
        show (PyData.shown (.int (n : Int))).cps.toList ≠ []
        rw [numZ]
        exact numL_ne n
      | negSucc m =>
        intro z
        have := numZ_neg m
        simp only [pd0] at z
        rw [z] at this
        cases this
    · simp only [pd0, PyData.shown]
      exact int_text_free' 44 ⟨by decide, by decide⟩ i
  | str y =>
    obtain ⟨c, h1, h2⟩ := quote_in ⟨y.toArray⟩
    exact key c h1 (by simp only [pd0, PyData.shown]; exact h2)
  | lst xs => exact key 91 (.inr (.inr (.inr (.inl rfl)))) (by simp only [pd0]; rw [shown_lst]; exact List.mem_cons_self)
  | tup xs => exact key 40 (.inr (.inr (.inl rfl))) (by
      simp only [pd0]
      rw [PyData.shown_tuple, mem_cps_append, mem_cps_append, signs_lparen]
      exact .inl (by simp))
  | ref n => exact key 123 (.inr (.inr (.inr (.inr rfl)))) (by simp only [pd0, PyData.shown, PyData.shownKv]; decide)
  | scr xs => simp only [rkD] at h; cases h
theorem tokK (o : Option Nat) : (pd0 (kD o)).shown.cps.toList ≠ [] ∧ 44 ∉ (pd0 (kD o)).shown.cps.toList ∧ (∀ c, badC c → c ∉ (pd0 (kD o)).shown.cps.toList) := by
  cases o with
  | none => simp only [kD, pd0, PyData.shown]; refine ⟨by decide, by decide, fun c hc => ?_⟩; rcases hc with rfl | rfl | rfl | rfl | rfl <;> decide
  | some i =>
    simp only [kD, pd0]
    rw [numZ]
    refine ⟨numL_ne i, numL_free (.inl (by decide)), fun c hc => ?_⟩
    rcases hc with rfl | rfl | rfl | rfl | rfl <;> exact numL_free (by omega)
theorem tok_inj {ok : Nat → Bool} (x : D) (o : Option Nat) (hx : rkD ok x = true) (h : (pd0 x).shown.cps.toList = (pd0 (kD o)).shown.cps.toList) : x = kD o := by
  obtain ⟨h1, h2⟩ := tok_ok x hx
  obtain ⟨k1, k2, k3⟩ := tokK o
  have nb : ∀ c, badC c → c ∉ (pd0 x).shown.cps.toList := fun c hc => by rw [h]; exact k3 c hc
  have big : ∀ _ : Nat, (∃ d, badC d ∧ d ∈ (pd0 x).shown.cps.toList) → x = kD o := fun _ ⟨d, a, b⟩ => absurd b (nb d a)
  have n78 : ∀ i : Int, 78 ∉ (PyData.shown (.int i)).cps.toList := fun i => by simp only [PyData.shown]; exact int_text_free' 78 ⟨by decide, by decide⟩ i
  have n84 : ∀ i : Int, 84 ∉ (PyData.shown (.int i)).cps.toList := fun i => by simp only [PyData.shown]; exact int_text_free' 84 ⟨by decide, by decide⟩ i
  have n70 : ∀ i : Int, 70 ∉ (PyData.shown (.int i)).cps.toList := fun i => by simp only [PyData.shown]; exact int_text_free' 70 ⟨by decide, by decide⟩ i
  have t78 : 78 ∈ (PyData.shown .none).cps.toList := by simp only [PyData.shown]; decide
  have t84 : 84 ∈ (PyData.shown (.bool true)).cps.toList := by simp only [PyData.shown]; decide
  have t70 : 70 ∈ (PyData.shown (.bool false)).cps.toList := by simp only [PyData.shown]; decide
  have m84 : 84 ∉ (PyData.shown .none).cps.toList := by simp only [PyData.shown]; decide
  have m70 : 70 ∉ (PyData.shown .none).cps.toList := by simp only [PyData.shown]; decide
  cases x with
  | non =>
    cases o with
    | none => rfl
    | some i =>
      simp only [pd0, kD] at h
      rw [h] at t78
      exact absurd t78 (n78 _)
  | bl b =>
    exfalso
    cases o with
    | none =>
      simp only [pd0, kD] at h
      cases b with
      | true => rw [h] at t84; exact m84 t84
      | false => rw [h] at t70; exact m70 t70
    | some i =>
      simp only [pd0, kD] at h
      cases b with
      | true => rw [h] at t84; exact n84 _ t84
      | false => rw [h] at t70; exact n70 _ t70
  | int i =>
    cases o with
    | none =>
      simp only [pd0, kD] at h
      rw [← h] at t78
      exact absurd t78 (n78 _)
    | some k =>
      simp only [pd0, kD] at h
      rw [numZ_inj h]
      rfl
  | str y =>
    obtain ⟨c, a, b⟩ := quote_in ⟨y.toArray⟩
    exact big c ⟨c, a, by simp only [pd0, PyData.shown]; exact b⟩
  | lst xs => exact big 91 ⟨91, .inr (.inr (.inr (.inl rfl))), by simp only [pd0]; rw [shown_lst]; exact List.mem_cons_self⟩
  | tup xs => exact big 40 ⟨40, .inr (.inr (.inl rfl)), by
      simp only [pd0]
      rw [PyData.shown_tuple, mem_cps_append, mem_cps_append, signs_lparen]
      exact .inl (by simp)⟩
  | ref n => exact big 123 ⟨123, .inr (.inr (.inr (.inr rfl))), by simp only [pd0, PyData.shown, PyData.shownKv]; decide⟩
  | scr xs => simp only [rkD] at hx; cases hx
theorem pd0L_map : ∀ xs : List D, pd0L xs = xs.map pd0
  | [] => rfl
  | x :: xs => by rw [pd0L, pd0L_map xs]; rfl
theorem toks_inj {ok : Nat → Bool} : ∀ (xs : List D) (ks : List (Option Nat)), rkL ok xs = true → (xs.map fun x => (pd0 x).shown.cps.toList) = (ks.map fun o => (pd0 (kD o)).shown.cps.toList) → xs = ks.map kD
  | [], [], _, _ => rfl
  | [], _ :: _, _, h => by cases h
  | _ :: _, [], _, h => by cases h
  | x :: xs, o :: ks, hx, h => by
    simp only [rkL, Bool.and_eq_true] at hx
    rw [List.map_cons, List.map_cons] at h
    injection h with h1 h2
    rw [tok_inj x o hx.1 h1, toks_inj xs ks hx.2 h2]
    rfl
theorem tx_inj {ok : Nat → Bool} {xs : List D} {ks : List (Option Nat)} (hx : rkL ok xs = true) (h : txD (.lst xs) = txD (.lst (ks.map kD))) : xs = ks.map kD := by
  unfold txD at h
  simp only [pd0] at h
  rw [shown_lst, shown_lst] at h
  injection h with _ h
  have h1 := List.append_cancel_right h
  rw [pd0L_map, pd0L_map, List.map_map, List.map_map, List.map_map] at h1
  refine toks_inj xs ks hx (jn_inj _ _ (fun t ht => ?_) (fun u hu => ?_) h1)
  · obtain ⟨x, hm, rfl⟩ := List.mem_map.mp ht
    have hr := rkL_mem hx x hm
    obtain ⟨a, b⟩ := tok_ok x hr
    refine ⟨a, ?_⟩
    rcases b with b | ⟨c, b1, b2⟩
    · exact b
    · exfalso
      have : c ∈ Jn (List.map (fun x => (pd0 x).shown.cps.toList) xs) := (jn_mem _).mpr (.inl ⟨_, List.mem_map_of_mem hm, b2⟩)
      have h2 : c ∈ Jn (List.map (fun o => (pd0 (kD o)).shown.cps.toList) ks) := by
        have e : Jn (List.map (fun x => (pd0 x).shown.cps.toList) xs) = Jn (List.map (fun o => (pd0 (kD o)).shown.cps.toList) ks) := h1
        rw [← e]
        exact this
      rcases (jn_mem _).mp h2 with ⟨t, ht, hc⟩ | ⟨-, hc⟩
      · obtain ⟨o, -, rfl⟩ := List.mem_map.mp ht
        exact (tokK o).2.2 c b1 hc
      · rcases b1 with rfl | rfl | rfl | rfl | rfl <;> omega
  · obtain ⟨o, -, rfl⟩ := List.mem_map.mp hu
    exact ⟨(tokK o).1, (tokK o).2.1⟩
end Fl
namespace Fl
section
variable {cf : CF} {r : Sl} {s : S}
theorem e_gi (x : String) (v : Int) : ev cf (.gi x v) r s = some (.ok (.int v), s) := by simp only [ev]
def kFst (q : R (List D)) : R D := bnd q fun ds s => match fstJ ds with
  | some x => if x.length ≤ LIM then some (.ok (.str x), s) else none
  | none => none
theorem e_fst (es : Es) : ev cf (.fst es) r s = kFst (evs cf es r s) := by simp only [ev]; rfl
theorem kFst_ok {ds : List D} {x : List Nat} (h : fstJ ds = some x) (hl : x.length ≤ LIM) : kFst (some (.ok ds, s)) = some (.ok (.str x), s) := by
  show (match fstJ ds with | some x => if x.length ≤ LIM then some (Rs.ok (D.str x), s) else none | none => none) = _
  rw [h]
  exact if_pos hl
/-- o.replace(y, z) -/
def rpL (w y z : List Nat) : List Nat := (PySem.Txt.replace ⟨w.toArray⟩ ⟨y.toArray⟩ ⟨z.toArray⟩).cps.toList
def rplD (x w : D) (y z : List Nat) (s : S) : R D := match x, w with
  | .str x, .str w => if w.length + (w.length + 1) * z.length ≤ LIM ∧ (x ++ rpL w y z).length ≤ LIM then some (.ok (.str (x ++ rpL w y z)), s) else none
  | _, _ => none
def kRpl2 (x : D) (y z : List Nat) (q : R D) : R D := bnd q fun w s => rplD x w y z s
def kRpl1 (cf : CF) (o : E) (y z : List Nat) (r : Sl) (q : R D) : R D := bnd q fun x s => kRpl2 x y z (ev cf o r s)
theorem e_rpl (a o : E) (y z : List Nat) : ev cf (.rpl a o y z) r s = kRpl1 cf o y z r (ev cf a r s) := by simp only [ev]; rfl
theorem kRpl1_ok (o : E) (y z : List Nat) (x : D) : kRpl1 cf o y z r (some (.ok x, s)) = kRpl2 x y z (ev cf o r s) := (rfl)
theorem kRpl2_ok (x w y z : List Nat) (h : w.length + (w.length + 1) * z.length ≤ LIM ∧ (x ++ rpL w y z).length ≤ LIM) : kRpl2 (.str x) y z (some (.ok (.str w), s)) = some (.ok (.str (x ++ rpL w y z)), s) := if_pos h
end
/-- a text in parts -/
def ptL (a b : List Nat) : List (List Nat) := (PySem.Txt.split ⟨a.toArray⟩ ⟨b.toArray⟩).map fun z => z.cps.toList
theorem m_split {s : S} (a b : List Nat) (h : b ≠ [] ∧ a.length ≤ 1000000) : metD s (.split false) (.str a) [.str b] = some (.ok (.lst ((ptL a b).map D.str)), s) := by
  show splD s false (.str a) [.str b] = _
  unfold splD
  dsimp only
  rw [if_pos h, ptL, List.map_map]
  rfl
theorem mt_split_ok {s : S} (bx : Bool) (a : List Nat) : mtOk s (.split bx) (.str a) = true := rfl
open PySem in
theorem ptL_spl (a b : List Nat) (hb : b ≠ []) (hk : ∀ c ∈ b, c < 256) : ptL a b = _root_.TL.spl b 0 [] a := by
  have h := _root_.TL.split_spl ⟨a.toArray⟩ ⟨b.toArray⟩ (by simpa [_root_.TL.tl] using hb) (_root_.TL.kind_ok (by
    rw [← Array.all_toList]
    simp only [List.all_eq_true, decide_eq_true_eq]
    intro c hc
    exact hk c (by simpa using hc)))
  exact h
theorem b_intT {s : S} {x : List Nat} {n : Int} (h : PySem.intText? ⟨x.toArray⟩ = some n) (hl : x.length ≤ 640) : biD s .intT [.str x] = some (.ok (.int n), s) := by
  show (if x.length ≤ 640 then lft ((PySem.intText? ⟨x.toArray⟩).map D.int) s else none) = _
  rw [if_pos hl, h]
  rfl
open PySem _root_.TL in
theorem int_numL {n : Nat} (h : (_root_.TL.numL n).length ≤ 4300) : PySem.intText? ⟨(_root_.TL.numL n).toArray⟩ = some (n : Int) := by
  have e : (⟨(_root_.TL.numL n).toArray⟩ : Str) = Str.ofString (toString ((n : Nat) : Int)) := _root_.TL.ext_tl ((show _root_.TL.tl (⟨(_root_.TL.numL n).toArray⟩ : Str) = _root_.TL.numL n from rfl).trans (_root_.TL.tl_num n).symm)
  rw [e]
  exact _root_.TL.int_num h
end Fl
namespace Lw
open Fl
def c_SIGNS : List Nat := [97, 98, 99, 100, 101, 102, 103, 104, 105, 106, 107, 108, 109, 110, 111, 112, 113, 114, 115, 116, 117, 118, 119, 120, 121, 122, 32]
def c_FIGURES : List Nat := [48, 49, 50, 51, 52, 53, 54, 55, 56, 57]
def b_show_sign : Cs := (.cons (.ite (.cmp .eq (.var 0) (.str [32])) (.cons (.ret (.str [95])) .nil) .nil) (.cons (.ret (.var 0)) .nil))
def f_show_sign : Fn := ⟨1, 1, b_show_sign⟩
def b_read_sign : Cs := (.cons (.ite (.cmp .eq (.var 0) (.str [95])) (.cons (.ret (.str [32])) .nil) .nil) (.cons (.ite (.or (.cons (.cmp .ne (.bi .len (.cons (.var 0) .nil)) (.int 1)) (.cons (.cmp .eq (.var 0) (.str [32])) (.cons (.cmp .nin (.var 0) (.gs "SIGNS" c_SIGNS)) .nil)))) (.cons (.rse "NoText") .nil) .nil) (.cons (.ret (.var 0)) .nil)))
def f_read_sign : Fn := ⟨1, 1, b_read_sign⟩
def b_show_deed : Cs := (.cons (.ite (.cmp .eq (.idx (.var 0) (.int 0)) (.str [112, 117, 116])) (.cons (.ret (.bin .add (.fst (.cons (.str [43]) (.cons (.idx (.var 0) (.int 1)) (.cons (.str [32]) .nil)))) (.call "show_sign" (.cons (.idx (.var 0) (.int 2)) .nil)))) .nil) .nil) (.cons (.ite (.cmp .eq (.idx (.var 0) (.int 0)) (.str [99, 117, 116])) (.cons (.ret (.fst (.cons (.str [45]) (.cons (.idx (.var 0) (.int 1)) .nil)))) .nil) .nil) (.cons (.ret (.str [48])) .nil)))
def f_show_deed : Fn := ⟨1, 1, b_show_deed⟩
def l_read_number_1 : Cs := (.cons (.ite (.cmp .nin (.var 1) (.gs "FIGURES" c_FIGURES)) (.cons (.rse "NoText") .nil) .nil) .nil)
def b_read_number : Cs := (.cons (.ite (.or (.cons (.not (.chn .le .le (.int 1) (.bi .len (.cons (.var 0) .nil)) (.gi "MOST_FIGURES" 3))) (.cons (.and (.cons (.cmp .eq (.idx (.var 0) (.int 0)) (.str [48])) (.cons (.cmp .ne (.var 0) (.str [48])) .nil))) .nil))) (.cons (.rse "NoText") .nil) .nil) (.cons (.for (.nm 1) (.str (.var 0)) l_read_number_1) (.cons (.ret (.bi .intT (.cons (.var 0) .nil))) .nil)))
def f_read_number : Fn := ⟨1, 2, b_read_number⟩
def b_read_deed : Cs := (.cons (.ite (.cmp .eq (.var 0) (.str [48])) (.cons (.ret (.tup (.cons (.str [110, 111, 110, 101]) .nil))) .nil) .nil) (.cons (.ite (.cmp .eq (.sl false (.var 0) .no (.so (.int 1))) (.str [45])) (.cons (.ret (.tup (.cons (.str [99, 117, 116]) (.cons (.call "read_number" (.cons (.sl false (.var 0) (.so (.int 1)) .no) .nil)) .nil)))) .nil) .nil) (.cons (.asg 1 (.met (.split false) (.var 0) (.cons (.str [32]) .nil))) (.cons (.ite (.or (.cons (.cmp .ne (.sl false (.var 0) .no (.so (.int 1))) (.str [43])) (.cons (.cmp .ne (.bi .len (.cons (.var 1) .nil)) (.int 2)) .nil))) (.cons (.rse "NoText") .nil) .nil) (.cons (.ret (.tup (.cons (.str [112, 117, 116]) (.cons (.call "read_number" (.cons (.sl false (.idx (.var 1) (.int 0)) (.so (.int 1)) .no) .nil)) (.cons (.call "read_sign" (.cons (.idx (.var 1) (.int 1)) .nil)) .nil))))) .nil)))))
def f_read_deed : Fn := ⟨1, 2, b_read_deed⟩
def b_lines_in : Cs := (.cons (.asg 1 (.met (.split false) (.var 0) (.cons (.str [10]) .nil))) (.cons (.ite (.cmp .ne (.idx (.var 1) (.neg (.int 1))) (.str [])) (.cons (.rse "NoText") .nil) .nil) (.cons (.ret (.sl false (.var 1) .no (.so (.neg (.int 1))))) .nil)))
def f_lines_in : Fn := ⟨1, 2, b_lines_in⟩
def x_show_row_1 : E := (.bin .add (.call "show_deed" (.cons (.var 1) .nil)) (.str [10]))
def b_show_row : Cs := (.cons (.ret (.met .join (.str []) (.cons (.lc false x_show_row_1 (.nm 1) (.seq (.var 0)) .no) .nil))) .nil)
def f_show_row : Fn := ⟨1, 2, b_show_row⟩
def x_read_row_1 : E := (.call "read_deed" (.cons (.var 1) .nil))
def b_read_row : Cs := (.cons (.ret (.lc true x_read_row_1 (.nm 1) (.seq (.call "lines_in" (.cons (.var 0) .nil))) .no)) .nil)
def f_read_row : Fn := ⟨1, 2, b_read_row⟩
def b_show_event : Cs := (.cons (.ite (.cmp .eq (.idx (.var 0) (.int 0)) (.str [99, 111, 109, 101])) (.cons (.ret (.fst (.cons (.idx (.var 0) (.int 1)) (.cons (.str [32, 60]) .nil)))) .nil) .nil) (.cons (.ret (.bin .add (.fst (.cons (.idx (.var 0) (.int 1)) (.cons (.str [32]) .nil))) (.call "show_deed" (.cons (.idx (.var 0) (.int 2)) .nil)))) .nil))
def f_show_event : Fn := ⟨1, 1, b_show_event⟩
def b_read_event : Cs := (.cons (.ite (.cmp .nin (.sl false (.var 0) .no (.so (.int 2))) (.tup (.cons (.str [48, 32]) (.cons (.str [49, 32]) .nil)))) (.cons (.rse "NoText") .nil) .nil) (.cons (.asg 1 (.bi .intT (.cons (.sl false (.var 0) .no (.so (.int 1))) .nil))) (.cons (.ite (.cmp .eq (.sl false (.var 0) (.so (.int 2)) .no) (.str [60])) (.cons (.ret (.tup (.cons (.str [99, 111, 109, 101]) (.cons (.var 1) .nil)))) .nil) .nil) (.cons (.ret (.tup (.cons (.str [109, 97, 107, 101]) (.cons (.var 1) (.cons (.call "read_deed" (.cons (.sl false (.var 0) (.so (.int 2)) .no) .nil)) .nil))))) .nil))))
def f_read_event : Fn := ⟨1, 2, b_read_event⟩
def x_show_story_1 : E := (.bin .add (.call "show_event" (.cons (.var 1) .nil)) (.str [10]))
def b_show_story : Cs := (.cons (.ret (.met .join (.str []) (.cons (.lc false x_show_story_1 (.nm 1) (.seq (.var 0)) .no) .nil))) .nil)
def f_show_story : Fn := ⟨1, 2, b_show_story⟩
def x_read_story_1 : E := (.call "read_event" (.cons (.var 1) .nil))
def b_read_story : Cs := (.cons (.ret (.lc true x_read_story_1 (.nm 1) (.seq (.call "lines_in" (.cons (.var 0) .nil))) .no)) .nil)
def f_read_story : Fn := ⟨1, 2, b_read_story⟩
def b__law_take : Cs := (.cons (.ite (.cmp .eq (.idx (.var 0) (.int 1)) (.int 0)) (.cons (.asg 3 (.bin .mod (.idx (.var 0) (.int 0)) (.var 1))) (.cons (.seti (.var 0) (.int 0) (.bin .fdiv (.idx (.var 0) (.int 0)) (.var 1))) (.cons (.ret (.var 3)) .nil))) .nil) (.cons (.seti (.var 0) (.int 2) (.bin .add (.idx (.var 0) (.int 2)) (.int 1))) (.cons (.asg 2 (.bin .mul (.bin .mod (.idx (.var 0) (.int 0)) (.int 2147483647)) (.bin .add (.bin .mul (.idx (.var 0) (.int 2)) (.idx (.var 0) (.int 2))) (.int 48271)))) (.cons (.asg 2 (.bin .mod (.bin .add (.bin .add (.var 2) (.idx (.var 0) (.int 2))) (.int 7)) (.int 2147483629))) (.cons (.asg 2 (.bin .mod (.bin .mul (.var 2) (.var 2)) (.int 2147483587))) (.cons (.ret (.bin .mod (.bin .fdiv (.bin .mod (.bin .mul (.var 2) (.int 69621)) (.int 2147483563)) (.int 8)) (.var 1))) .nil))))))
def f__law_take : Fn := ⟨2, 4, b__law_take⟩
def b__law_deck : Cs := (.cons (.ite (.cmp .ge (.var 0) (.bin .pow (.int 10) (.int 18))) (.cons (.ret (.lst true (.cons (.bin .sub (.var 0) (.bin .pow (.int 10) (.int 18))) (.cons (.int 0) (.cons (.var 1) .nil))))) .nil) .nil) (.cons (.ret (.lst true (.cons (.var 0) (.cons (.int 1) (.cons (.var 1) .nil))))) .nil))
def f__law_deck : Fn := ⟨2, 2, b__law_deck⟩
def b__law_sign : Cs := (.cons (.ret (.idx (.str [97, 98, 99, 100, 101, 102, 103, 104, 105, 106, 107, 108, 109, 110, 111, 112, 113, 114, 115, 116, 117, 118, 119, 120, 121, 122, 32]) (.call "_law_take" (.cons (.var 0) (.cons (.int 27) .nil))))) .nil)
def f__law_sign : Fn := ⟨1, 1, b__law_sign⟩
def b__law_deed : Cs := (.cons (.asg 2 (.call "_law_take" (.cons (.var 0) (.cons (.int 7) .nil)))) (.cons (.ite (.cmp .lt (.var 2) (.int 4)) (.cons (.ret (.tup (.cons (.str [112, 117, 116]) (.cons (.call "_law_take" (.cons (.var 0) (.cons (.var 1) .nil))) (.cons (.call "_law_sign" (.cons (.var 0) .nil)) .nil))))) .nil) .nil) (.cons (.ite (.cmp .lt (.var 2) (.int 6)) (.cons (.ret (.tup (.cons (.str [99, 117, 116]) (.cons (.call "_law_take" (.cons (.var 0) (.cons (.var 1) .nil))) .nil)))) .nil) .nil) (.cons (.ret (.tup (.cons (.str [110, 111, 110, 101]) .nil))) .nil))))
def f__law_deed : Fn := ⟨2, 3, b__law_deed⟩
def b__law_written : Cs := (.cons (.ite (.cmp .eq (.idx (.var 0) (.int 0)) (.str [112, 117, 116])) (.cons (.ret (.rpl (.bin .add (.bin .add (.str [43]) (.bi .str (.cons (.idx (.var 0) (.int 1)) .nil))) (.str [32])) (.idx (.var 0) (.int 2)) [32] [95])) .nil) .nil) (.cons (.ret (.ite (.cmp .eq (.idx (.var 0) (.int 0)) (.str [99, 117, 116])) (.bin .add (.str [45]) (.bi .str (.cons (.idx (.var 0) (.int 1)) .nil))) (.str [48]))) .nil))
def f__law_written : Fn := ⟨1, 1, b__law_written⟩
def b__law_event : Cs := (.cons (.asg 1 (.call "_law_take" (.cons (.var 0) (.cons (.int 2) .nil)))) (.cons (.ite (.cmp .eq (.call "_law_take" (.cons (.var 0) (.cons (.int 3) .nil))) (.int 0)) (.cons (.ret (.tup (.cons (.str [99, 111, 109, 101]) (.cons (.var 1) .nil)))) .nil) .nil) (.cons (.ret (.tup (.cons (.str [109, 97, 107, 101]) (.cons (.var 1) (.cons (.call "_law_deed" (.cons (.var 0) (.cons (.idx (.lst false (.cons (.int 12) (.cons (.int 1000) .nil))) (.call "_law_take" (.cons (.var 0) (.cons (.int 2) .nil)))) .nil))) .nil))))) .nil)))
def f__law_event : Fn := ⟨1, 2, b__law_event⟩
def b__law_event_written : Cs := (.cons (.ite (.cmp .eq (.idx (.var 0) (.int 0)) (.str [99, 111, 109, 101])) (.cons (.ret (.bin .add (.bi .str (.cons (.idx (.var 0) (.int 1)) .nil)) (.str [32, 60]))) .nil) .nil) (.cons (.ret (.bin .add (.bin .add (.bi .str (.cons (.idx (.var 0) (.int 1)) .nil)) (.str [32])) (.call "_law_written" (.cons (.idx (.var 0) (.int 2)) .nil)))) .nil))
def f__law_event_written : Fn := ⟨1, 1, b__law_event_written⟩
def x_law_1 : E := (.call "_law_deed" (.cons (.var 6) (.cons (.idx (.lst false (.cons (.int 12) (.cons (.int 1000) .nil))) (.call "_law_take" (.cons (.var 6) (.cons (.int 2) .nil)))) .nil)))
def x_law_2 : E := (.call "_law_event" (.cons (.var 6) .nil))
def x_law_3 : E := (.bin .add (.call "_law_written" (.cons (.var 14) .nil)) (.str [10]))
def x_law_4 : E := (.bin .add (.call "_law_event_written" (.cons (.var 15) .nil)) (.str [10]))
def x_law_5 : E := (.var 13)
def y_law_5 : Oe := .so (.not (.isi (.var 13) .str))
def l_law_1_7 : Cs := (.cons (.asg 10 (.lst false (.cons (.call "show_row" (.cons (.idx (.var 9) (.int 0)) .nil)) (.cons (.call "show_story" (.cons (.idx (.var 9) (.int 1)) .nil)) .nil)))) (.cons (.ite (.or (.cons (.cmp .ne (.var 10) (.var 8)) (.cons (.cmp .ne (.var 9) (.lst false (.cons (.var 3) (.cons (.var 4) .nil)))) .nil))) (.cons (.ret (.bl false)) .nil) .nil) (.cons (.ite (.cmp .ne (.lc false x_law_5 (.nm 13) (.seq (.var 10)) y_law_5) (.lst false .nil)) (.cons (.ret (.bl false)) .nil) .nil) (.cons (.exp (.met .append (.var 1) (.cons (.tup (.cons (.var 3) (.cons (.var 4) (.cons (.var 8) .nil)))) .nil))) .nil))))
def l_law_1_4 : Cs := (.cons (.asg 8 (.lst true (.cons (.met .join (.str []) (.cons (.lc false x_law_3 (.nm 14) (.seq (.var 3)) .no) .nil)) .nil))) (.cons (.exp (.met .append (.var 8) (.cons (.met .join (.str []) (.cons (.lc false x_law_4 (.nm 15) (.seq (.var 4)) .no) .nil)) .nil))) (.cons (.asg 9 (.lst false (.cons (.bi (.list false) (.cons (.var 3) .nil)) (.cons (.bi (.list false) (.cons (.var 4) .nil)) .nil)))) l_law_1_7)))
def l_law_1_2 : Cs := (.cons (.asg 7 (.idx (.lst false (.cons (.int 21) (.cons (.int 41) .nil))) (.bi .int (.cons (.cmp .eq (.call "_law_take" (.cons (.var 6) (.cons (.int 8) .nil))) (.int 3)) .nil)))) (.cons (.asg 4 (.lc false x_law_2 (.nm 12) (.rng (.call "_law_take" (.cons (.var 6) (.cons (.var 7) .nil)))) .no)) l_law_1_4))
def l_law_1 : Cs := (.cons (.asg 6 (.call "_law_deck" (.cons (.var 2) (.cons (.int 3) .nil)))) (.cons (.asg 3 (.lc false x_law_1 (.nm 12) (.rng (.call "_law_take" (.cons (.var 6) (.cons (.int 21) .nil)))) .no)) l_law_1_2))
def l_law_2_2 : Cs := (.cons (.exp (.met .append (.idx (.var 11) (.int 0)) (.cons .non .nil))) (.cons (.exp (.met .append (.idx (.var 11) (.int 1)) (.cons .non .nil))) (.cons (.ite (.cmp .ne (.rpr (.lst false (.cons (.call "read_row" (.cons (.idx (.var 5) (.int 0)) .nil)) (.cons (.call "read_story" (.cons (.idx (.var 5) (.int 1)) .nil)) .nil)))) (.rpr (.lst false (.cons (.var 3) (.cons (.var 4) .nil))))) (.cons (.ret (.bl false)) .nil) .nil) .nil)))
def l_law_2 : Cs := (.cons (.asg 11 (.lst false (.cons (.call "read_row" (.cons (.idx (.var 5) (.int 0)) .nil)) (.cons (.call "read_story" (.cons (.idx (.var 5) (.int 1)) .nil)) .nil)))) (.cons (.ite (.cmp .ne (.rpr (.var 11)) (.rpr (.lst false (.cons (.var 3) (.cons (.var 4) .nil))))) (.cons (.ret (.bl false)) .nil) .nil) l_law_2_2))
def b_law : Cs := (.cons (.asg 1 (.lst true .nil)) (.cons (.for (.nm 2) (.seq (.cat false (.sl false (.var 0) .no (.so (.int 30))) (.lst false (.cons (.int 0) .nil)))) l_law_1) (.cons (.for (.tp [3, 4, 5]) (.seq (.var 1)) l_law_2) (.cons (.ret (.bl true)) .nil))))
def f_law : Fn := ⟨1, 16, b_law⟩
def tbl : List ((String × String) × Fn) := [(("", "show_sign"), f_show_sign), (("", "read_sign"), f_read_sign), (("", "show_deed"), f_show_deed), (("", "read_number"), f_read_number), (("", "read_deed"), f_read_deed), (("", "lines_in"), f_lines_in), (("", "show_row"), f_show_row), (("", "read_row"), f_read_row), (("", "show_event"), f_show_event), (("", "read_event"), f_read_event), (("", "show_story"), f_show_story), (("", "read_story"), f_read_story), (("", "_law_take"), f__law_take), (("", "_law_deck"), f__law_deck), (("", "_law_sign"), f__law_sign), (("", "_law_deed"), f__law_deed), (("", "_law_written"), f__law_written), (("", "_law_event"), f__law_event), (("", "_law_event_written"), f__law_event_written), (("", "law"), f_law)]
def Pg : Prg := fun c f => tbl.lookup (c, f)
theorem pg_show_sign : Pg "" "show_sign" = some f_show_sign := rfl
theorem pg_read_sign : Pg "" "read_sign" = some f_read_sign := rfl
theorem pg_show_deed : Pg "" "show_deed" = some f_show_deed := rfl
theorem pg_read_number : Pg "" "read_number" = some f_read_number := rfl
theorem pg_read_deed : Pg "" "read_deed" = some f_read_deed := rfl
theorem pg_lines_in : Pg "" "lines_in" = some f_lines_in := rfl
theorem pg_show_row : Pg "" "show_row" = some f_show_row := rfl
theorem pg_read_row : Pg "" "read_row" = some f_read_row := rfl
theorem pg_show_event : Pg "" "show_event" = some f_show_event := rfl
theorem pg_read_event : Pg "" "read_event" = some f_read_event := rfl
theorem pg_show_story : Pg "" "show_story" = some f_show_story := rfl
theorem pg_read_story : Pg "" "read_story" = some f_read_story := rfl
theorem pg__law_take : Pg "" "_law_take" = some f__law_take := rfl
theorem pg__law_deck : Pg "" "_law_deck" = some f__law_deck := rfl
theorem pg__law_sign : Pg "" "_law_sign" = some f__law_sign := rfl
theorem pg__law_deed : Pg "" "_law_deed" = some f__law_deed := rfl
theorem pg__law_written : Pg "" "_law_written" = some f__law_written := rfl
theorem pg__law_event : Pg "" "_law_event" = some f__law_event := rfl
theorem pg__law_event_written : Pg "" "_law_event_written" = some f__law_event_written := rfl
theorem pg_law : Pg "" "law" = some f_law := rfl
theorem r_show_sign (k : Nat) (s : S) (a0 : D) : callF Pg (k + 1) "" "show_sign" [a0] s = kRet (exs (callF Pg k) b_show_sign [some a0] s) := call_run (F := f_show_sign) pg_show_sign rfl
theorem r_read_sign (k : Nat) (s : S) (a0 : D) : callF Pg (k + 1) "" "read_sign" [a0] s = kRet (exs (callF Pg k) b_read_sign [some a0] s) := call_run (F := f_read_sign) pg_read_sign rfl
theorem r_show_deed (k : Nat) (s : S) (a0 : D) : callF Pg (k + 1) "" "show_deed" [a0] s = kRet (exs (callF Pg k) b_show_deed [some a0] s) := call_run (F := f_show_deed) pg_show_deed rfl
theorem r_read_number (k : Nat) (s : S) (a0 : D) : callF Pg (k + 1) "" "read_number" [a0] s = kRet (exs (callF Pg k) b_read_number [some a0, none] s) := call_run (F := f_read_number) pg_read_number rfl
theorem r_read_deed (k : Nat) (s : S) (a0 : D) : callF Pg (k + 1) "" "read_deed" [a0] s = kRet (exs (callF Pg k) b_read_deed [some a0, none] s) := call_run (F := f_read_deed) pg_read_deed rfl
theorem r_lines_in (k : Nat) (s : S) (a0 : D) : callF Pg (k + 1) "" "lines_in" [a0] s = kRet (exs (callF Pg k) b_lines_in [some a0, none] s) := call_run (F := f_lines_in) pg_lines_in rfl
theorem r_show_row (k : Nat) (s : S) (a0 : D) : callF Pg (k + 1) "" "show_row" [a0] s = kRet (exs (callF Pg k) b_show_row [some a0, none] s) := call_run (F := f_show_row) pg_show_row rfl
theorem r_read_row (k : Nat) (s : S) (a0 : D) : callF Pg (k + 1) "" "read_row" [a0] s = kRet (exs (callF Pg k) b_read_row [some a0, none] s) := call_run (F := f_read_row) pg_read_row rfl
theorem r_show_event (k : Nat) (s : S) (a0 : D) : callF Pg (k + 1) "" "show_event" [a0] s = kRet (exs (callF Pg k) b_show_event [some a0] s) := call_run (F := f_show_event) pg_show_event rfl
theorem r_read_event (k : Nat) (s : S) (a0 : D) : callF Pg (k + 1) "" "read_event" [a0] s = kRet (exs (callF Pg k) b_read_event [some a0, none] s) := call_run (F := f_read_event) pg_read_event rfl
theorem r_show_story (k : Nat) (s : S) (a0 : D) : callF Pg (k + 1) "" "show_story" [a0] s = kRet (exs (callF Pg k) b_show_story [some a0, none] s) := call_run (F := f_show_story) pg_show_story rfl
theorem r_read_story (k : Nat) (s : S) (a0 : D) : callF Pg (k + 1) "" "read_story" [a0] s = kRet (exs (callF Pg k) b_read_story [some a0, none] s) := call_run (F := f_read_story) pg_read_story rfl
theorem r__law_take (k : Nat) (s : S) (a0 : D) (a1 : D) : callF Pg (k + 1) "" "_law_take" [a0, a1] s = kRet (exs (callF Pg k) b__law_take [some a0, some a1, none, none] s) := call_run (F := f__law_take) pg__law_take rfl
theorem r__law_deck (k : Nat) (s : S) (a0 : D) (a1 : D) : callF Pg (k + 1) "" "_law_deck" [a0, a1] s = kRet (exs (callF Pg k) b__law_deck [some a0, some a1] s) := call_run (F := f__law_deck) pg__law_deck rfl
theorem r__law_sign (k : Nat) (s : S) (a0 : D) : callF Pg (k + 1) "" "_law_sign" [a0] s = kRet (exs (callF Pg k) b__law_sign [some a0] s) := call_run (F := f__law_sign) pg__law_sign rfl
theorem r__law_deed (k : Nat) (s : S) (a0 : D) (a1 : D) : callF Pg (k + 1) "" "_law_deed" [a0, a1] s = kRet (exs (callF Pg k) b__law_deed [some a0, some a1, none] s) := call_run (F := f__law_deed) pg__law_deed rfl
theorem r__law_written (k : Nat) (s : S) (a0 : D) : callF Pg (k + 1) "" "_law_written" [a0] s = kRet (exs (callF Pg k) b__law_written [some a0] s) := call_run (F := f__law_written) pg__law_written rfl
theorem r__law_event (k : Nat) (s : S) (a0 : D) : callF Pg (k + 1) "" "_law_event" [a0] s = kRet (exs (callF Pg k) b__law_event [some a0, none] s) := call_run (F := f__law_event) pg__law_event rfl
theorem r__law_event_written (k : Nat) (s : S) (a0 : D) : callF Pg (k + 1) "" "_law_event_written" [a0] s = kRet (exs (callF Pg k) b__law_event_written [some a0] s) := call_run (F := f__law_event_written) pg__law_event_written rfl
theorem r_law (k : Nat) (s : S) (a0 : D) : callF Pg (k + 1) "" "law" [a0] s = kRet (exs (callF Pg k) b_law [some a0, none, none, none, none, none, none, none, none, none, none, none, none, none, none, none] s) := call_run (F := f_law) pg_law rfl
local macro_rules
  | `(tactic| simp? $cfg:optConfig only [$args,*] $[$loc:location]?) => `(tactic| simp $cfg:optConfig only [e_var, kVar_ok, e_non, e_bl, e_int, e_str, e_gs, e_bin, kBin1_ok, kBin2_ok, e_neg, kNeg_ok, e_not, kNot_ok, e_and, e_or, a_one, a_more, o_one, o_more, kAnd_t, kAnd_f, kOr_t, kOr_f, kAnd_b, kOr_b, e_cmp, kCmp1_ok, kCmp2_ok, e_chn, kChn1_ok, kChn2_ok, c_lt, c_le, c_gt, c_ge, c_eq, c_ne, q_int, q_str, q_bl, c_isN, c_isnN, c_isB, Fl.map_some, lft_some, e_ite, kIte_b, es_nil, es_cons, kEs1_ok, kEs2_ok, e_tup, kTup_0, kTup_1, kTup_2, kTup_3, kTup_4, e_lst, kLst_0f, kLst_1f, kLst_2f, kLst_3f, kLst_4f, kLst_5f, kLst_6f, kLst_7f, kLst_8f, kLst_0t, kLst_1t, kLst_2t, kLst_3t, kLst_4t, e_cat, kCat1_ok, e_idx, kIdx1_ok, kIdx2_ok, i_tup', i_lst', i_scr, at_0, at_1, at_2, at_3, at_4, at_5, at_6, at_7, at_8, o_no, o_so, kO_ok, e_sl, kSl1_ok, kSl2_ok, kSl3_ok, sl_tup', sl_scr, sl_lst', e_call, kCall_ok, e_bi, kBi_ok, b_intI, b_intB, b_min, b_max, b_abs, b_lenT, b_lenL, b_lenC, b_listL, b_listT, b_listLb, e_isi, kIsi_ok, n_int, n_str, n_bl, n_tup, n_lst, n_non, subTy, e_lrng, kLr_ok, e_met, kMet1_ok, kMet2_ok, e_frz, kFrz_ok, e_lc, kLc_ok, t_seq, kSeq'_l, kSeq'_c, t_tup, kTupI_ok, t_str, kStrI_ok, t_rng, t_enm, kEnm_l, s_nil, s_cons, kSeq_nx, kSeq_rt, kSeq_bk, kSeq_ct, s_asg, kAsg_ok, s_tpa, kTpa_2, kTpa_3, s_aug, kAug0_ok, kAug_add, kAug_sub, s_seti, kSt1_ok, kSt2_ok, kSt3_ok, s_exp, kExp_ok, s_ret, kRt_ok, s_retn, s_ite, kIf_b, s_for, kFor_ok, s_whl, s_pas, s_brk, kRet_rt, kRet_nx, bi_add, bi_sub, List.getElem?_cons_zero, List.getElem?_cons_succ, List.set_cons_zero, List.set_cons_succ, decide_eq_true_eq, decide_true, decide_false, if_true, if_false, ite_true, ite_false, Bool.false_eq_true, Bool.not_true, Bool.not_false, isNon, e_dget, kDg1_ok, kDg2_ok, b_len1, e_fld, kFld_ok, e_own, e_mak, kMak_ok, kMak2_ok, s_setf, kSf_ok, kSf2_ok, s_augf, s_par, kPar_ok, kPar2_ok, e_dsp, e_rpt, kRpt_ok, e_isit, kIsit_ok, nt_int, nt_str, nt_bl, nt_tup, nt_lst, nt_non, List.any_cons, List.any_nil, Bool.or_false, Bool.false_or, Bool.true_or, t_zip, kZip_ok, kZip2_l, kTpa_4, kOwn2_ok, e_lset, kLset_l, s_tpl, kTpl_2, e_dsv, kDsv_ok, kDsv2_ok, kSeq_rz, kRet_rz, s_rz, s_xexp, kXexp_ok, kXexp_er, s_xasg, kXasg_ok, kXasg_er, s_xret, kXret_ok, kXret_er, x_call, kXc_ok, x_own, kXo2_ok, s_xsetf, kXsf_ok, kXsf_er, s_tryc, kTry_nx, s_tryk, kTryk_nx, s_tryh, kTryh_nx, e_isx, e_isxt, t_any, kAny_t, kAny_l, s_par3, kPar3a_ok, kPar3b_ok, kPar3c_ok, e_dnt, e_rpr, kRpr_ok, e_dgv, kDv2_ok, kRev_t, idxO_dit, e_rev, kRev_f, e_lenm, kLenm_l, t_ens, kEns_ok, b_min3, e_rps, kLst_9f, kLst_10f, kLst_11f, kLst_12f, kLst_13f, kLst_14f, kLst_15f, kLst_16f, kLst_17f, kLst_18f, kLst_19f, e_sset, xe_ite, kXi_b, xe_lst2, kX2a_ok, kX2a_er, kX2b_ok, kX2b_er, xe_lst3, kX3a_ok, kX3a_er, kX3b_ok, kX3b_er, kX3c_ok, kX3c_er, s_augi, kAi2_ok, xe_pick, kPk_0, kPk_1, e_denm, kDenm_l, e_gi, e_fst, e_rpl, kRpl1_ok, $args,*] $[$loc:location]?)
/-- the deck: digits or a number to mix, which, how many were drawn -/
def Deck (s : S) (n : Nat) (C : Nat) : Prop := ∃ a f k : Int, s.m n = some (.lst [.int a, .int f, .int k]) ∧ 0 ≤ k ∧ k ≤ (C : Int)
theorem Deck.fr {s s' : S} {n C : Nat} {M : List Nat} (h : Deck s n C) (ho : Fr s s' M) (hn : n < s.nx) (hm : n ∉ M) : Deck s' n C := by
  obtain ⟨a, f, k, h1, h2⟩ := h
  exact ⟨a, f, k, (ho.2 n hn hm).trans h1, h2⟩
theorem Deck.old {s s' : S} {n C : Nat} (h : Deck s n C) (ho : Old s s') (hn : n < s.nx) : Deck s' n C := h.fr (Fr.old ho []) hn (fun h => by cases h)
theorem Deck.mono {s : S} {n C C' : Nat} (h : Deck s n C) (hc : C ≤ C') : Deck s n C' := by
  obtain ⟨a, f, k, h1, h2, h3⟩ := h
  exact ⟨a, f, k, h1, h2, by omega⟩
theorem deck_spec (k : Nat) (s : S) (c : Int) (j : Nat) : ∃ s', callF Pg (k + 1) "" "_law_deck" [.int c, .int (j : Nat)] s = some (.ok (.ref s.nx), s') ∧ Deck s' s.nx j ∧ s'.nx = s.nx + 1 ∧ Old s s' := by
  have bp : binD .pow (.int 10) (.int 18) = some (.int (10 ^ (18 : Int).toNat)) := bi_pow 10 18 (by decide)
  by_cases h : 10 ^ (18 : Int).toNat ≤ c
  · refine ⟨s.new (.lst [.int (c - 10 ^ (18 : Int).toNat), .int 0, .int (j : Nat)]), ?_, ⟨_, _, _, new_same _, by omega, Int.le_refl _⟩, rfl, Old.new _⟩
    simp? only [r__law_deck, b__law_deck, bp, h]
  · refine ⟨s.new (.lst [.int c, .int 1, .int (j : Nat)]), ?_, ⟨_, _, _, new_same _, by omega, Int.le_refl _⟩, rfl, Old.new _⟩
    simp? only [r__law_deck, b__law_deck, bp, h]
theorem take_spec (k : Nat) (s : S) (n C : Nat) (m : Int) (hw : Deck s n C) (hC : C < 1000000) (hm : 0 < m ∧ m < 1000000000) : ∃ v s', callF Pg (k + 1) "" "_law_take" [.ref n, .int m] s = some (.ok (.int v), s') ∧ 0 ≤ v ∧ v < m ∧ Deck s' n (C + 1) ∧ Keep s s' n := by
  obtain ⟨a, f, q, h, h0, h1⟩ := hw
  have hm2 : 0 < m ∧ m < 10000000000000000000000000000000000000000 := ⟨hm.1, by omega⟩
  by_cases hf : f = 0
  · refine ⟨a % m, s.put n (.lst [.int (a / m), .int f, .int q]), ?_, Int.emod_nonneg _ (by omega), Int.emod_lt_of_pos _ hm.1, ⟨_, _, _, put_same _ _, h0, by omega⟩, put_nx _ _, fun j hj => put_ne _ _ _ hj⟩
    simp? only [r__law_take, b__law_take, i_ref n 1 _ h, i_ref n 0 _ h, hf, bi_mod a m hm.1, bi_fdiv a m hm2, sto_ref, h, stoO_3a]
  · have hq : (q + 1) * (q + 1) < 2 ^ 62 := by
      have : (q + 1) * (q + 1) ≤ 1000001 * 1000001 := Int.mul_le_mul (by omega) (by omega) (by omega) (by omega)
      omega
    have hq0 : 0 ≤ (q + 1) * (q + 1) := Int.mul_nonneg (by omega) (by omega)
    obtain ⟨s1, hs1⟩ : ∃ u, u = s.put n (.lst [.int a, .int f, .int (q + 1)]) := ⟨_, rfl⟩
    have h2 : s1.m n = some (.lst [.int a, .int f, .int (q + 1)]) := by rw [hs1]; exact put_same _ _
    have e1 : ∀ x : Int, 0 ≤ x % 2147483647 ∧ x % 2147483647 < 2147483647 := fun x => ⟨Int.emod_nonneg _ (by decide), Int.emod_lt_of_pos _ (by decide)⟩
    have e2 : ∀ x : Int, 0 ≤ x % 2147483629 ∧ x % 2147483629 < 2147483629 := fun x => ⟨Int.emod_nonneg _ (by decide), Int.emod_lt_of_pos _ (by decide)⟩
    have e3 : ∀ x : Int, 0 ≤ x % 2147483587 ∧ x % 2147483587 < 2147483587 := fun x => ⟨Int.emod_nonneg _ (by decide), Int.emod_lt_of_pos _ (by decide)⟩
    have m1 := bi_mul (q + 1) (q + 1) (sm_l _ _ (by omega))
    have m2 : ∀ y : Int, binD .mul (.int (a % 2147483647)) (.int y) = some (.int (a % 2147483647 * y)) := fun y => bi_mul _ y (sm_l _ _ (by have := e1 a; omega))
    have m3 : ∀ x : Int, binD .mul (.int (x % 2147483629)) (.int (x % 2147483629)) = some (.int (x % 2147483629 * (x % 2147483629))) := fun x => bi_mul _ _ (sm_l _ _ (by have := e2 x; omega))
    have m4 : ∀ x : Int, binD .mul (.int (x % 2147483587)) (.int 69621) = some (.int (x % 2147483587 * 69621)) := fun x => bi_mul _ _ (sm_l _ _ (by have := e3 x; omega))
    refine ⟨((a % 2147483647 * ((q + 1) * (q + 1) + 48271) + (q + 1) + 7) % 2147483629 * ((a % 2147483647 * ((q + 1) * (q + 1) + 48271) + (q + 1) + 7) % 2147483629) % 2147483587 * 69621 % 2147483563 / 8) % m, s1, ?_, Int.emod_nonneg _ (by omega), Int.emod_lt_of_pos _ hm.1, ⟨_, _, _, h2, by omega, by omega⟩, by rw [hs1]; exact put_nx _ _, fun j hj => by rw [hs1]; exact put_ne _ _ _ hj⟩
    simp? only [r__law_take, b__law_take, i_ref n 1 _ h, i_ref n 2 _ h, hf, sto_ref, h, stoO_3c, ← hs1, i_ref n 0 _ h2, i_ref n 2 _ h2, bi_mod a 2147483647 (by decide), m1, m2, bi_mod _ 2147483629 (by decide), m3, bi_mod _ 2147483587 (by decide), m4, bi_mod _ 2147483563 (by decide), bi_fdiv _ 8 (by decide), bi_mod _ m hm.1]

def Sgn (c : Nat) : Prop := c ∈ [97, 98, 99, 100, 101, 102, 103, 104, 105, 106, 107, 108, 109, 110, 111, 112, 113, 114, 115, 116, 117, 118, 119, 120, 121, 122, 32]
/-- deeds that are written: places to 999 -/
def Wd : Dd → Prop
  | .put p c => (0 ≤ p ∧ p < 1000) ∧ Sgn c
  | .cut p => 0 ≤ p ∧ p < 1000
  | .non => True
/-- a sign as it is written -/
def us (c : Nat) : Nat := if c = 32 then 95 else c
/-- a deed as it is written -/
def wr : Dd → List Nat
  | .put p c => 43 :: (_root_.TL.numL p.toNat ++ [32, us c])
  | .cut p => 45 :: _root_.TL.numL p.toNat
  | .non => [48]
def numOk (x : List Nat) : Bool := decide (1 ≤ x.length) && decide (x.length ≤ 3) && (decide (x.head? ≠ some 48) || decide (x = [48])) && x.all fun c => decide (48 ≤ c) && decide (c ≤ 57)
theorem num_ok : ∀ n : Nat, n < 1000 → numOk (_root_.TL.numL n) = true := by
  have h : (List.range 1000).all (fun n => numOk (_root_.TL.numL n)) = true := by decide +kernel
  intro n hn
  exact List.all_eq_true.mp h n (List.mem_range.mpr hn)
theorem rp_sign (c : Nat) (h : Sgn c) : rpL [c] [32] [95] = [us c] := by
  have e : ([97, 98, 99, 100, 101, 102, 103, 104, 105, 106, 107, 108, 109, 110, 111, 112, 113, 114, 115, 116, 117, 118, 119, 120, 121, 122, 32] : List Nat).all (fun c => decide (rpL [c] [32] [95] = [us c])) = true := by decide +kernel
  exact of_decide_eq_true (List.all_eq_true.mp e c h)
theorem us_in (c : Nat) (h : Sgn c) : us c ≠ 32 ∧ us c ≠ 10 ∧ (us c = 95 ↔ c = 32) ∧ (us c ≠ 95 → us c = c ∧ us c ∈ c_SIGNS) := by
  have e : ([97, 98, 99, 100, 101, 102, 103, 104, 105, 106, 107, 108, 109, 110, 111, 112, 113, 114, 115, 116, 117, 118, 119, 120, 121, 122, 32] : List Nat).all (fun c => decide (us c ≠ 32 ∧ us c ≠ 10 ∧ (us c = 95 ↔ c = 32) ∧ (us c ≠ 95 → us c = c ∧ us c ∈ c_SIGNS))) = true := by decide +kernel
  exact of_decide_eq_true (List.all_eq_true.mp e c h)
theorem fst_num (n : Nat) : fstP (.int (n : Nat)) = some (_root_.TL.numL n) ∨ ¬ n < 2 ^ 1900 := by
  by_cases h : n < 2 ^ 1900
  · left
    show (if ((n : Int)).natAbs < 2 ^ 1900 then some _ else none) = _
    rw [Int.natAbs_natCast, if_pos h, numZ]
  · exact .inr h
theorem fst_numL {n : Nat} (h : n < 1000) : fstP (.int (n : Nat)) = some (_root_.TL.numL n) := by
  rcases fst_num n with e | e
  · exact e
  · exact absurd (Nat.lt_of_lt_of_le h (by decide)) e
theorem fst_str (x : List Nat) : fstP (.str x) = some x := rfl
theorem str_num {s : S} {n : Nat} (h : n < 1000) : biD s .str [.int (n : Nat)] = some (.ok (.str (_root_.TL.numL n)), s) := by
  rw [b_strI (n : Int) (Nat.lt_of_lt_of_le (show ((n : Int)).natAbs < 1000 by omega) (by decide)), numZ]
theorem num_len {n : Nat} (h : n < 1000) : (_root_.TL.numL n).length ≤ 3 ∧ 1 ≤ (_root_.TL.numL n).length := by
  have := num_ok n h
  simp only [numOk, Bool.and_eq_true, decide_eq_true_eq] at this
  exact ⟨this.1.1.2, this.1.1.1⟩
theorem show_sign_spec (k : Nat) (s : S) (c : Nat) : callF Pg (k + 1) "" "show_sign" [.str [c]] s = some (.ok (.str [us c]), s) := by
  by_cases h : c = 32
  · subst h
    have e : us 32 = 95 := rfl
    simp? (config := {decide := true}) only [r_show_sign, b_show_sign, e]
  · have e : us c = c := if_neg h
    have e2 : (([c] : List Nat) = [32]) = False := eq_false (fun z => h (by simpa using z))
    rw [e]
    simp? (config := {decide := true}) only [r_show_sign, b_show_sign, e2]
theorem show_deed_spec (k : Nat) (s : S) (d : Dd) (h : Wd d) : callF Pg (k + 1 + 1) "" "show_deed" [d.d] s = some (.ok (.str (wr d)), s) := by
  cases d with
  | put p c =>
    obtain ⟨n, rfl⟩ := Int.eq_ofNat_of_zero_le h.1.1
    have hn : n < 1000 := by have := h.1.2; omega
    have hl := num_len hn
    have f1 : fstJ [.str [43], .int (n : Nat), .str [32]] = some (43 :: (_root_.TL.numL n ++ [32])) := by
      simp only [fstJ, fst_numL hn, Option.bind_some, Option.map_some, fst_str, List.append_nil, List.singleton_append]
    have f2 := kFst_ok (s := s) f1 (by simp only [List.length_cons, List.length_append, List.length_nil]; unfold LIM; omega)
    have f3 := bi_str (43 :: (_root_.TL.numL n ++ [32])) [us c] (by simp only [List.length_cons, List.length_append, List.length_nil]; unfold LIM; omega)
    have e : wr (.put (n : Int) c) = 43 :: (_root_.TL.numL n ++ [32]) ++ [us c] := by simp [wr]
    rw [e]
    simp? (config := {decide := true}) only [Dd.d, r_show_deed, b_show_deed, f2, show_sign_spec, f3]
  | cut p =>
    obtain ⟨n, rfl⟩ := Int.eq_ofNat_of_zero_le h.1
    have hn : n < 1000 := by have := h.2; omega
    have hl := num_len hn
    have f1 : fstJ [.str [45], .int (n : Nat)] = some (45 :: _root_.TL.numL n) := by
      simp only [fstJ, fst_numL hn, Option.bind_some, Option.map_some, fst_str, List.append_nil, List.singleton_append]
    have f2 := kFst_ok (s := s) f1 (by simp only [List.length_cons]; unfold LIM; omega)
    have e : wr (.cut (n : Int)) = 45 :: _root_.TL.numL n := by simp [wr]
    rw [e]
    simp? (config := {decide := true}) only [Dd.d, r_show_deed, b_show_deed, f2]
  | non => simp? (config := {decide := true}) only [Dd.d, r_show_deed, b_show_deed, wr]
theorem lwritten_spec (k : Nat) (s : S) (d : Dd) (h : Wd d) : callF Pg (k + 1) "" "_law_written" [d.d] s = some (.ok (.str (wr d)), s) := by
  cases d with
  | put p c =>
    obtain ⟨n, rfl⟩ := Int.eq_ofNat_of_zero_le h.1.1
    have hn : n < 1000 := by have := h.1.2; omega
    have hl := num_len hn
    have b1 := bi_str [43] (_root_.TL.numL n) (by simp only [List.length_cons, List.length_nil]; unfold LIM; omega)
    have b2 := bi_str ([43] ++ _root_.TL.numL n) [32] (by simp only [List.length_cons, List.length_append, List.length_nil]; unfold LIM; omega)
    have b3 := kRpl2_ok (s := s) ([43] ++ _root_.TL.numL n ++ [32]) [c] [32] [95] (by rw [rp_sign c h.2]; simp only [List.length_cons, List.length_append, List.length_nil]; unfold LIM; omega)
    rw [rp_sign c h.2] at b3
    have e : wr (.put (n : Int) c) = [43] ++ _root_.TL.numL n ++ [32] ++ [us c] := by simp [wr]
    rw [e]
    simp? (config := {decide := true}) only [Dd.d, r__law_written, b__law_written, str_num hn, b1, b2, b3]
  | cut p =>
    obtain ⟨n, rfl⟩ := Int.eq_ofNat_of_zero_le h.1
    have hn : n < 1000 := by have := h.2; omega
    have hl := num_len hn
    have b1 := bi_str [45] (_root_.TL.numL n) (by simp only [List.length_cons, List.length_nil]; unfold LIM; omega)
    have e : wr (.cut (n : Int)) = [45] ++ _root_.TL.numL n := by simp [wr]
    rw [e]
    simp? (config := {decide := true}) only [Dd.d, r__law_written, b__law_written, str_num hn, b1]
  | non => simp? (config := {decide := true}) only [Dd.d, r__law_written, b__law_written, wr]

theorem num_dig {n : Nat} (h : n < 1000) : ∀ c ∈ _root_.TL.numL n, 48 ≤ c ∧ c ≤ 57 := fun c hc => by
  have := num_ok n h
  simp only [numOk, Bool.and_eq_true, List.all_eq_true, decide_eq_true_eq] at this
  exact this.2 c hc
theorem fig_in : ∀ c : Nat, 48 ≤ c → c ≤ 57 → decide (c ∈ c_FIGURES) = true := fun c h1 h2 => by
  have : c = 48 ∨ c = 49 ∨ c = 50 ∨ c = 51 ∨ c = 52 ∨ c = 53 ∨ c = 54 ∨ c = 55 ∨ c = 56 ∨ c = 57 := by omega
  rcases this with rfl | rfl | rfl | rfl | rfl | rfl | rfl | rfl | rfl | rfl <;> decide
theorem read_number_spec (k : Nat) (s : S) (n : Nat) (h : n < 1000) : callF Pg (k + 1) "" "read_number" [.str (_root_.TL.numL n)] s = some (.ok (.int (n : Nat)), s) := by
  have hok := num_ok n h
  have hd := num_dig h
  have hi := b_intT (s := s) (int_numL (n := n) (by have := num_len h; omega)) (by have := num_len h; omega)
  simp only [numOk, Bool.and_eq_true, Bool.or_eq_true, decide_eq_true_eq] at hok
  obtain ⟨⟨⟨l1, l2⟩, l3⟩, -⟩ := hok
  obtain ⟨r', s', hF, hs', q, rfl⟩ := for_inv (cf := callF Pg k) (tg := .nm 1) (b := l_read_number_1) (iv := .seq (.str (_root_.TL.numL n))) (r := [some (.str (_root_.TL.numL n)), none]) (s := s) (_root_.TL.numL n).length
    (fun _ r' s' => s' = s ∧ ∃ q, r' = [some (.str (_root_.TL.numL n)), q]) ⟨rfl, _, rfl⟩ (fun _ _ _ _ _ => rfl) (by
    rintro i r' t ⟨rfl, q, rfl⟩ hi
    have hc := hd (_root_.TL.numL n)[i] (List.getElem_mem hi)
    have hf := fig_in _ hc.1 hc.2
    refine ⟨.str [(_root_.TL.numL n)[i]], _, [some (.str (_root_.TL.numL n)), some (.str [(_root_.TL.numL n)[i]])], t, .nx, ?_, rfl, ?_, .inl rfl, rfl, _, rfl⟩
    · show ((_root_.TL.numL n)[i]?).map _ = _
      rw [List.getElem?_eq_getElem hi]
      rfl
    · show exs (callF Pg k) l_read_number_1 [some (.str (_root_.TL.numL n)), some (.str [(_root_.TL.numL n)[i]])] t = _
      simp? (config := {decide := true}) only [l_read_number_1, c_nin1, hf])
  rw [hs'] at hF
  obtain ⟨x, hx⟩ : ∃ x, x = _root_.TL.numL n := ⟨_, rfl⟩
  rw [← hx] at l1 l2 l3 hi hF ⊢
  have hz : x.length ≤ LIM := by unfold LIM; omega
  have a1 : ((1 : Int) ≤ (x.length : Int)) = True := eq_true (by omega)
  have a2 : ((x.length : Int) ≤ 3) = True := eq_true (by omega)
  cases x with
  | nil => simp at l1
  | cons c r =>
    have i0 : idxD s (.str (c :: r)) (.int 0) = some (.str [c]) := by
      rw [i_str', if_pos hz]
      exact congrArg (Option.map _) (at_nat (c :: r) 0)
    by_cases hc : c = 48
    · have hr : c :: r = [48] := by
        rcases l3 with l3 | l3
        · exact absurd (by rw [hc]; rfl) l3
        · exact l3
      rw [hr] at hi hF i0 a1 a2 hz ⊢
      rw [hc] at i0
      simp? (config := {decide := true}) only [r_read_number, b_read_number, b_lenStr hz, a1, a2, i0, hF, hi]
    · have e2 : (([c] : List Nat) = [48]) = False := eq_false (fun z => hc (by simpa using z))
      simp? (config := {decide := true}) only [r_read_number, b_read_number, b_lenStr hz, a1, a2, i0, e2, hF, hi]
theorem read_sign_spec (k : Nat) (s : S) (c : Nat) (h : Sgn c) : callF Pg (k + 1) "" "read_sign" [.str [us c]] s = some (.ok (.str [c]), s) := by
  obtain ⟨h1, h2, h3, h4⟩ := us_in c h
  by_cases e : us c = 95
  · have hc := h3.mp e
    rw [e, hc]
    simp? (config := {decide := true}) only [r_read_sign, b_read_sign]
  · obtain ⟨h5, h6⟩ := h4 e
    rw [h5] at e h6 h1 ⊢
    have e1 : (([c] : List Nat) = [95]) = False := eq_false (fun z => e (by simpa using z))
    have e2 : (([c] : List Nat) = [32]) = False := eq_false (fun z => h1 (by simpa using z))
    have hm : decide (c ∈ c_SIGNS) = true := decide_eq_true h6
    have hl : biD s .len [.str [c]] = some (.ok (.int 1), s) := b_lenStr (x := [c]) (by show 1 ≤ LIM; decide)
    simp? (config := {decide := true}) only [r_read_sign, b_read_sign, e1, e2, hl, c_nin1, hm]
theorem sp_free {n : Nat} (h : n < 1000) : 32 ∉ 43 :: _root_.TL.numL n := fun hm => by
  rcases List.mem_cons.mp hm with e | e
  · cases e
  · have := num_dig h _ e
    omega
theorem cut_1 {α : Type} (x : α) (r : List α) : cut (x :: r) none (some 1) = [x] ∧ cut (x :: r) (some 1) none = r := by
  have a := cut_to (x :: r) 1
  have b := cut_from (x :: r) 1
  exact ⟨a, b⟩
theorem read_deed_spec (k : Nat) (s : S) (d : Dd) (h : Wd d) : callF Pg (k + 1 + 1) "" "read_deed" [.str (wr d)] s = some (.ok d.d, s) := by
  cases d with
  | put p c =>
    obtain ⟨n, rfl⟩ := Int.eq_ofNat_of_zero_le h.1.1
    have hn : n < 1000 := by have := h.1.2; omega
    have hl := num_len hn
    have e : wr (.put (n : Int) c) = 43 :: (_root_.TL.numL n ++ [32, us c]) := by simp [wr]
    have hsp : ptL (43 :: (_root_.TL.numL n ++ [32, us c])) [32] = [43 :: _root_.TL.numL n, [us c]] := by
      rw [ptL_spl _ _ (by decide) (by decide)]
      have e2 : 43 :: (_root_.TL.numL n ++ [32, us c]) = (43 :: _root_.TL.numL n) ++ ([32] ++ [us c]) := by simp
      rw [e2, _root_.TL.spl_part1 (S := []) (sp_free hn)]
      have := (us_in c h.2).1
      rw [_root_.TL.spl_last1 (by simpa using Ne.symm this)]
      rfl
    have hm := m_split (s := s) (43 :: (_root_.TL.numL n ++ [32, us c])) [32] ⟨by decide, by simp only [List.length_cons, List.length_append, List.length_nil]; omega⟩
    rw [hsp] at hm
    simp only [List.map_cons, List.map_nil] at hm
    have hz : (43 :: (_root_.TL.numL n ++ [32, us c])).length ≤ LIM := by simp only [List.length_cons, List.length_append, List.length_nil]; unfold LIM; omega
    have hz2 : (43 :: _root_.TL.numL n).length ≤ LIM := by simp only [List.length_cons]; unfold LIM; omega
    rw [e]
    have q0 : (43 :: (_root_.TL.numL n ++ [32, us c]) = [48]) = False := eq_false (fun z => by cases z)
    simp? (config := {decide := true}) only [r_read_deed, b_read_deed, q0, sl_str hz, (cut_1 43 (_root_.TL.numL n ++ [32, us c])).1, mt_split_ok, hm, List.length_cons, List.length_nil, sl_str hz2, (cut_1 43 (_root_.TL.numL n)).2, read_number_spec k s n hn, read_sign_spec k s c h.2, Dd.d]
  | cut p =>
    obtain ⟨n, rfl⟩ := Int.eq_ofNat_of_zero_le h.1
    have hn : n < 1000 := by have := h.2; omega
    have hl := num_len hn
    have e : wr (.cut (n : Int)) = 45 :: _root_.TL.numL n := by simp [wr]
    have hz : (45 :: _root_.TL.numL n).length ≤ LIM := by simp only [List.length_cons]; unfold LIM; omega
    rw [e]
    have q0 : (45 :: _root_.TL.numL n = [48]) = False := eq_false (fun z => by cases z)
    simp? (config := {decide := true}) only [r_read_deed, b_read_deed, q0, sl_str hz, (cut_1 45 (_root_.TL.numL n)).1, (cut_1 45 (_root_.TL.numL n)).2, read_number_spec k s n hn, Dd.d]
  | non => simp? (config := {decide := true}) only [r_read_deed, b_read_deed, wr, Dd.d]
/-! lines -/
def lns : List (List Nat) → List Nat
  | [] => []
  | l :: r => l ++ 10 :: lns r
theorem spl_lns : ∀ ls : List (List Nat), (∀ l ∈ ls, 10 ∉ l) → _root_.TL.spl [10] 0 [] (lns ls) = ls ++ [[]]
  | [], _ => by
    show _root_.TL.spl [10] 0 [] [] = _
    rw [_root_.TL.spl_nil]
    rfl
  | l :: r, h => by
    have ih := spl_lns r fun x hx => h x (List.mem_cons_of_mem _ hx)
    have e : lns (l :: r) = l ++ ([10] ++ lns r) := by simp [lns]
    rw [e, _root_.TL.spl_part1 (S := []) (h l List.mem_cons_self), ih]
    rfl
theorem at_last {α : Type} (xs : List α) (y : α) : atI (xs ++ [y]) (-1) = some y := by
  unfold atI ixN
  rw [if_neg (by omega), if_pos (by simp only [List.length_append, List.length_cons, List.length_nil]; omega), Option.bind_some]
  have e : (-1 + (((xs ++ [y]).length : Nat) : Int)).toNat = xs.length := by
    simp only [List.length_append, List.length_cons, List.length_nil]
    omega
  rw [e]
  simp
theorem cut_last {α : Type} (xs : List α) (y : α) : cut (xs ++ [y]) none (some (-1)) = xs := by
  have e1 : sIx (xs ++ [y]).length (xs ++ [y]).length (some (-1)) = xs.length := by
    unfold sIx
    dsimp only
    rw [if_pos (by decide), List.length_append, List.length_cons, List.length_nil]
    omega
  have e2 : sIx (xs ++ [y]).length 0 none = 0 := rfl
  unfold cut
  rw [e1, e2, List.drop_zero, Nat.sub_zero]
  simp
theorem lines_spec (k : Nat) (s : S) (ls : List (List Nat)) (h : ∀ l ∈ ls, 10 ∉ l) (hl : (lns ls).length ≤ 100000) : callF Pg (k + 1) "" "lines_in" [.str (lns ls)] s = some (.ok (.lst (ls.map D.str)), s) := by
  have hm := m_split (s := s) (lns ls) [10] ⟨by decide, by omega⟩
  rw [ptL_spl _ _ (by decide) (by decide), spl_lns ls h, List.map_append] at hm
  have hm' : metD s (.split false) (.str (lns ls)) [.str [10]] = some (.ok (.lst (ls.map D.str ++ [.str []])), s) := hm
  simp? (config := {decide := true}) only [r_lines_in, b_lines_in, mt_split_ok, hm', at_last, cut_last]

/-! events -/
inductive Ev where
  | come (g : Nat)
  | make (g : Nat) (d : Dd)
def Ev.d : Ev → D
  | .come g => .tup [.str [99, 111, 109, 101], .int (g : Nat)]
  | .make g d => .tup [.str [109, 97, 107, 101], .int (g : Nat), d.d]
def We : Ev → Prop
  | .come g => g < 2
  | .make g d => g < 2 ∧ Wd d
def wrE : Ev → List Nat
  | .come g => [48 + g, 32, 60]
  | .make g d => [48 + g, 32] ++ wr d
theorem num_1 {g : Nat} (h : g < 2) : _root_.TL.numL g = [48 + g] := _root_.TL.numL_lt (by omega)
theorem wr_len (d : Dd) (h : Wd d) : (wr d).length ≤ 6 ∧ 10 ∉ wr d := by
  cases d with
  | put p c =>
    obtain ⟨n, rfl⟩ := Int.eq_ofNat_of_zero_le h.1.1
    have hn : n < 1000 := by have := h.1.2; omega
    have hl := num_len hn
    have e : wr (.put (n : Int) c) = 43 :: (_root_.TL.numL n ++ [32, us c]) := by simp [wr]
    rw [e]
    refine ⟨by simp only [List.length_cons, List.length_append, List.length_nil]; omega, fun hm => ?_⟩
    have := (us_in c h.2).2.1
    simp only [List.mem_cons, List.mem_append, List.not_mem_nil, or_false] at hm
    rcases hm with e | e | e | e
    · cases e
    · have := num_dig hn _ e; omega
    · cases e
    · exact this e.symm
  | cut p =>
    obtain ⟨n, rfl⟩ := Int.eq_ofNat_of_zero_le h.1
    have hn : n < 1000 := by have := h.2; omega
    have hl := num_len hn
    have e : wr (.cut (n : Int)) = 45 :: _root_.TL.numL n := by simp [wr]
    rw [e]
    refine ⟨by simp only [List.length_cons]; omega, fun hm => ?_⟩
    simp only [List.mem_cons] at hm
    rcases hm with e | e
    · cases e
    · have := num_dig hn _ e; omega
  | non => exact ⟨by decide, by decide⟩
theorem wrE_len (e : Ev) (h : We e) : (wrE e).length ≤ 8 ∧ 10 ∉ wrE e := by
  cases e with
  | come g =>
    have hg : g < 2 := h
    refine ⟨by simp [wrE], fun hm => ?_⟩
    simp only [wrE, List.mem_cons, List.not_mem_nil, or_false] at hm
    omega
  | make g d =>
    obtain ⟨hg, hd⟩ := h
    obtain ⟨a, b⟩ := wr_len d hd
    refine ⟨by simp only [wrE, List.length_append, List.length_cons, List.length_nil]; omega, fun hm => ?_⟩
    simp only [wrE, List.mem_append, List.mem_cons, List.not_mem_nil, or_false] at hm
    rcases hm with hm | hm
    · omega
    · exact b hm
theorem show_event_spec (k : Nat) (s : S) (e : Ev) (h : We e) : callF Pg (k + 1 + 1 + 1) "" "show_event" [e.d] s = some (.ok (.str (wrE e)), s) := by
  cases e with
  | come g =>
    have hg : g < 2 := h
    have f1 : fstJ [.int (g : Nat), .str [32, 60]] = some [48 + g, 32, 60] := by
      simp only [fstJ, fst_numL (show g < 1000 by omega), num_1 hg, Option.bind_some, Option.map_some, fst_str, List.append_nil, List.singleton_append]
    have f2 := kFst_ok (s := s) f1 (by show 3 ≤ LIM; decide)
    simp? (config := {decide := true}) only [Ev.d, r_show_event, b_show_event, f2, wrE]
  | make g d =>
    obtain ⟨hg, hd⟩ := h
    have f1 : fstJ [.int (g : Nat), .str [32]] = some [48 + g, 32] := by
      simp only [fstJ, fst_numL (show g < 1000 by omega), num_1 hg, Option.bind_some, Option.map_some, fst_str, List.append_nil, List.singleton_append]
    have f2 := kFst_ok (s := s) f1 (by show 2 ≤ LIM; decide)
    have f3 := bi_str [48 + g, 32] (wr d) (by have := (wr_len d hd).1; simp only [List.length_cons, List.length_nil]; unfold LIM; omega)
    simp? (config := {decide := true}) only [Ev.d, r_show_event, b_show_event, f2, show_deed_spec k s d hd, f3, wrE]
theorem lwrittenE_spec (k : Nat) (s : S) (e : Ev) (h : We e) : callF Pg (k + 1 + 1) "" "_law_event_written" [e.d] s = some (.ok (.str (wrE e)), s) := by
  cases e with
  | come g =>
    have hg : g < 2 := h
    have f1 := str_num (s := s) (show g < 1000 by omega)
    rw [num_1 hg] at f1
    have f3 := bi_str [48 + g] [32, 60] (by show 3 ≤ LIM; decide)
    simp? (config := {decide := true}) only [Ev.d, r__law_event_written, b__law_event_written, f1, f3, wrE, List.singleton_append]
  | make g d =>
    obtain ⟨hg, hd⟩ := h
    have f1 := str_num (s := s) (show g < 1000 by omega)
    rw [num_1 hg] at f1
    have f2 : binD .add (.str [48 + g]) (.str [32]) = some (.str [48 + g, 32]) := bi_str [48 + g] [32] (by show 2 ≤ LIM; decide)
    have f3 := bi_str [48 + g, 32] (wr d) (by have := (wr_len d hd).1; simp only [List.length_append, List.length_cons, List.length_nil]; unfold LIM; omega)
    simp? (config := {decide := true}) only [Ev.d, r__law_event_written, b__law_event_written, f1, f2, lwritten_spec k s d hd, f3, wrE, List.singleton_append]
theorem int_1 {s : S} {g : Nat} (hg : g < 2) : biD s .intT [.str [48 + g]] = some (.ok (.int (g : Nat)), s) := by
  have := b_intT (s := s) (int_numL (n := g) (by have := num_len (show g < 1000 by omega); omega)) (by have := num_len (show g < 1000 by omega); omega)
  rw [num_1 hg] at this
  exact this
theorem cut_2 {α : Type} (x y : α) (r : List α) : cut (x :: y :: r) none (some 2) = [x, y] ∧ cut (x :: y :: r) (some 2) none = r := by
  have a := cut_to (x :: y :: r) 2
  have b := cut_from (x :: y :: r) 2
  exact ⟨a, b⟩
theorem read_event_spec (k : Nat) (s : S) (e : Ev) (h : We e) : callF Pg (k + 1 + 1 + 1) "" "read_event" [.str (wrE e)] s = some (.ok e.d, s) := by
  have mem : ∀ g : Nat, g < 2 → ([D.str [48, 32], .str [49, 32]].any fun y => eqD y (.str [48 + g, 32])) = true := fun g hg => by
    have : g = 0 ∨ g = 1 := by omega
    rcases this with rfl | rfl <;> decide
  cases e with
  | come g =>
    have hg : g < 2 := h
    have hz : ([48 + g, 32, 60] : List Nat).length ≤ LIM := by show 3 ≤ LIM; decide
    have hm := mem g hg
    have c1 := cut_1 (48 + g) [32, 60]
    have c2 := cut_2 (48 + g) 32 [60]
    have ht : ([D.str [48, 32], .str [49, 32]] : List D).all flat = true := rfl
    simp? (config := {decide := true}) only [wrE, r_read_event, b_read_event, sl_str hz, c1.1, c2.1, c2.2, c_ninT _ _ ht, hm, int_1 hg, Ev.d]
  | make g d =>
    obtain ⟨hg, hd⟩ := h
    have hz : ([48 + g, 32] ++ wr d).length ≤ LIM := by have := (wr_len d hd).1; simp only [List.length_append, List.length_cons, List.length_nil]; unfold LIM; omega
    have hm := mem g hg
    have c1 : cut ([48 + g, 32] ++ wr d) none (some 1) = [48 + g] := (cut_1 (48 + g) (32 :: wr d)).1
    have c2 : cut ([48 + g, 32] ++ wr d) none (some 2) = [48 + g, 32] := (cut_2 (48 + g) 32 (wr d)).1
    have c3 : cut ([48 + g, 32] ++ wr d) (some 2) none = wr d := (cut_2 (48 + g) 32 (wr d)).2
    have ht : ([D.str [48, 32], .str [49, 32]] : List D).all flat = true := rfl
    have hne : (wr d = [60]) = False := eq_false (fun z => by
      cases d with
      | put p c => cases z
      | cut p => cases z
      | non => cases z)
    simp? (config := {decide := true}) only [wrE, r_read_event, b_read_event, sl_str hz, c1, c2, c3, c_ninT _ _ ht, hm, int_1 hg, hne, read_deed_spec k s d hd, Ev.d]
/-! rows and stories -/
theorem txts_str : ∀ ys : List (List Nat), txts (ys.map D.str) = some ys
  | [] => rfl
  | y :: ys => by
    have := txts_str ys
    simp only [List.map_cons, txts, txtOf, this, Option.bind_some, Option.map_some]
theorem joinT_nil : ∀ ys : List (List Nat), joinT [] ys = ys.flatten
  | [] => rfl
  | [y] => by simp [joinT]
  | y :: z :: r => by
    have := joinT_nil (z :: r)
    simp only [joinT, this, List.flatten_cons, List.nil_append]
theorem sumLen_flat : ∀ ys : List (List Nat), sumLen ys = ys.flatten.length
  | [] => rfl
  | y :: ys => by simp only [sumLen, sumLen_flat ys, List.flatten_cons, List.length_append]
theorem m_joinL {s : S} (ys : List (List Nat)) (h : ys.flatten.length ≤ 1000000) : metD s .join (.str []) [.lst (ys.map D.str)] = some (.ok (.str ys.flatten), s) := by
  show joinD s (.str []) [.lst (ys.map D.str)] = _
  simp only [joinD, cont, lcont, Option.bind_some, txts_str]
  rw [if_pos (by rw [sumLen_flat]; simp only [List.length_nil, Nat.zero_mul, Nat.add_zero]; unfold LIM; omega), joinT_nil]
theorem lns_flat : ∀ ls : List (List Nat), (ls.map fun l => l ++ [10]).flatten = lns ls
  | [] => rfl
  | l :: r => by simp [lns, lns_flat r]
theorem lns_len (m : Nat) : ∀ ls : List (List Nat), (∀ l ∈ ls, l.length ≤ m) → (lns ls).length ≤ (m + 1) * ls.length
  | [], _ => by simp [lns]
  | l :: r, h => by
    have h1 := h l List.mem_cons_self
    have h2 := lns_len m r fun x hx => h x (List.mem_cons_of_mem _ hx)
    simp only [lns, List.length_append, List.length_cons]
    rw [Nat.mul_succ]
    omega
theorem rowL {r : List Dd} (h : ∀ d ∈ r, Wd d) : (lns (r.map wr)).length ≤ 7 * r.length ∧ ∀ l ∈ r.map wr, 10 ∉ l := by
  have := lns_len 6 (r.map wr) fun l hl => by
    obtain ⟨d, hd, rfl⟩ := List.mem_map.mp hl
    exact (wr_len d (h d hd)).1
  rw [List.length_map] at this
  refine ⟨this, fun l hl => ?_⟩
  obtain ⟨d, hd, rfl⟩ := List.mem_map.mp hl
  exact (wr_len d (h d hd)).2
theorem stoL {r : List Ev} (h : ∀ d ∈ r, We d) : (lns (r.map wrE)).length ≤ 9 * r.length ∧ ∀ l ∈ r.map wrE, 10 ∉ l := by
  have := lns_len 8 (r.map wrE) fun l hl => by
    obtain ⟨d, hd, rfl⟩ := List.mem_map.mp hl
    exact (wrE_len d (h d hd)).1
  rw [List.length_map] at this
  refine ⟨this, fun l hl => ?_⟩
  obtain ⟨d, hd, rfl⟩ := List.mem_map.mp hl
  exact (wrE_len d (h d hd)).2

theorem lc_box {cf : CF} {e : E} {tg : Tg} {c : Oe} {r : Sl} {s s' : S} {iv : Fl.Iv} {xs : List D} (h : lcI cf false e tg c r s iv = some (.ok (.lst xs), s')) : lcI cf true e tg c r s iv = some (.ok (.ref s'.nx), s'.new (.lst xs)) := by
  unfold lcI at h ⊢
  cases hl : ivLen s iv with
  | none => rw [hl] at h; cases h
  | some n =>
    rw [hl] at h
    dsimp only at h ⊢
    cases hn : lcN tg iv (evT cf c) (ev cf e) r (n + 1) 0 [] s with
    | none => rw [hn] at h; cases h
    | some q =>
      obtain ⟨x, t⟩ := q
      rw [hn] at h
      cases x with
      | ok ys =>
        have h' : some (Rs.ok (D.lst ys), t) = some (Rs.ok (D.lst xs), s') := h
        cases h'
        rfl
      | _ => cases h
theorem sel_all {α : Type} (g : α → D) : ∀ (ys : List α) (i : Nat), sel (fun _ _ => true) (fun _ y => g y) i ys = ys.map g
  | [], _ => rfl
  | y :: ys, i => by
    simp only [sel, sel_all g ys (i + 1), List.map_cons]
    rfl
/-- a comprehension over a list of things, each of which is told alone -/
theorem lc_map {cf : CF} {t : Nat} {e : E} {r : Sl} {s : S} {α : Type} (ys : List α) (f g : α → D) (hn : ys.length ≤ 1000000) (h : ∀ y ∈ ys, ev cf e (r.set t (some (f y))) s = some (.ok (g y), s)) : lcI cf false e (.nm t) .no r s (.seq (.lst (ys.map f))) = some (.ok (.lst (ys.map g)), s) := by
  have := lc_sel (cf := cf) (tg := .nm t) (iv := .seq (.lst (ys.map f))) (c := .no) (e := e) (r := r) (s := s) ys (fun _ _ => true) (fun _ y => g y) (by unfold LIM; omega) (by rw [seq_len', List.length_map]) (by
    intro i y hi
    refine ⟨f y, _, ?_, rfl, t_no, fun _ => h y (List.mem_of_getElem? hi)⟩
    rw [seq_get', List.getElem?_map, hi]
    rfl)
  rw [sel_all] at this
  exact this
theorem show_row_spec (k : Nat) (s : S) (r : List Dd) (h : ∀ d ∈ r, Wd d) (hl : r.length ≤ 1000) : callF Pg (k + 1 + 1 + 1) "" "show_row" [.lst (r.map Dd.d)] s = some (.ok (.str (lns (r.map wr))), s) := by
  have e := lc_map (cf := callF Pg (k + 1 + 1)) (t := 1) (e := x_show_row_1) (r := [some (.lst (r.map Dd.d)), none]) (s := s) r Dd.d (fun d => .str (wr d ++ [10])) (by omega) (fun d hd => by
    have b := bi_str (wr d) [10] (by have := (wr_len d (h d hd)).1; simp only [List.length_cons, List.length_nil]; unfold LIM; omega)
    show ev (callF Pg (k + 1 + 1)) x_show_row_1 [some (.lst (r.map Dd.d)), some d.d] s = _
    simp? only [x_show_row_1, show_deed_spec k s d (h d hd), b])
  have e2 : (r.map fun d => D.str (wr d ++ [10])) = ((r.map wr).map fun l => l ++ [10]).map D.str := by rw [List.map_map, List.map_map]; rfl
  have j := m_joinL (s := s) ((r.map wr).map fun l => l ++ [10]) (by rw [lns_flat]; have := (rowL h).1; omega)
  rw [lns_flat] at j
  rw [e2] at e
  simp? only [r_show_row, b_show_row, mt_join, if_true, e, j]
theorem show_story_spec (k : Nat) (s : S) (r : List Ev) (h : ∀ d ∈ r, We d) (hl : r.length ≤ 1000) : callF Pg (k + 1 + 1 + 1 + 1) "" "show_story" [.lst (r.map Ev.d)] s = some (.ok (.str (lns (r.map wrE))), s) := by
  have e := lc_map (cf := callF Pg (k + 1 + 1 + 1)) (t := 1) (e := x_show_story_1) (r := [some (.lst (r.map Ev.d)), none]) (s := s) r Ev.d (fun d => .str (wrE d ++ [10])) (by omega) (fun d hd => by
    have b := bi_str (wrE d) [10] (by have := (wrE_len d (h d hd)).1; simp only [List.length_cons, List.length_nil]; unfold LIM; omega)
    show ev (callF Pg (k + 1 + 1 + 1)) x_show_story_1 [some (.lst (r.map Ev.d)), some d.d] s = _
    simp? only [x_show_story_1, show_event_spec k s d (h d hd), b])
  have e2 : (r.map fun d => D.str (wrE d ++ [10])) = ((r.map wrE).map fun l => l ++ [10]).map D.str := by rw [List.map_map, List.map_map]; rfl
  have j := m_joinL (s := s) ((r.map wrE).map fun l => l ++ [10]) (by rw [lns_flat]; have := (stoL h).1; omega)
  rw [lns_flat] at j
  rw [e2] at e
  simp? only [r_show_story, b_show_story, mt_join, if_true, e, j]
theorem read_row_spec (k : Nat) (s : S) (r : List Dd) (h : ∀ d ∈ r, Wd d) (hl : r.length ≤ 1000) : callF Pg (k + 1 + 1 + 1) "" "read_row" [.str (lns (r.map wr))] s = some (.ok (.ref s.nx), s.new (.lst (r.map Dd.d))) := by
  have l1 := lines_spec (k + 1) s (r.map wr) (rowL h).2 (by have := (rowL h).1; omega)
  have e := lc_box (lc_map (cf := callF Pg (k + 1 + 1)) (t := 1) (e := x_read_row_1) (r := [some (.str (lns (r.map wr))), none]) (s := s) r (fun d => .str (wr d)) Dd.d (by omega) (fun d hd => by
    show ev (callF Pg (k + 1 + 1)) x_read_row_1 [some (.str (lns (r.map wr))), some (.str (wr d))] s = _
    simp? only [x_read_row_1, read_deed_spec k s d (h d hd)]))
  have e2 : (r.map fun d => D.str (wr d)) = (r.map wr).map D.str := by rw [List.map_map]; rfl
  rw [e2] at e
  simp? only [r_read_row, b_read_row, l1, e]
theorem read_story_spec (k : Nat) (s : S) (r : List Ev) (h : ∀ d ∈ r, We d) (hl : r.length ≤ 1000) : callF Pg (k + 1 + 1 + 1 + 1) "" "read_story" [.str (lns (r.map wrE))] s = some (.ok (.ref s.nx), s.new (.lst (r.map Ev.d))) := by
  have l1 := lines_spec (k + 1 + 1) s (r.map wrE) (stoL h).2 (by have := (stoL h).1; omega)
  have e := lc_box (lc_map (cf := callF Pg (k + 1 + 1 + 1)) (t := 1) (e := x_read_story_1) (r := [some (.str (lns (r.map wrE))), none]) (s := s) r (fun d => .str (wrE d)) Ev.d (by omega) (fun d hd => by
    show ev (callF Pg (k + 1 + 1 + 1)) x_read_story_1 [some (.str (lns (r.map wrE))), some (.str (wrE d))] s = _
    simp? only [x_read_story_1, read_event_spec k s d (h d hd)]))
  have e2 : (r.map fun d => D.str (wrE d)) = (r.map wrE).map D.str := by rw [List.map_map]; rfl
  rw [e2] at e
  simp? only [r_read_story, b_read_story, l1, e]
/-! what is drawn -/
theorem lsign_spec (k : Nat) (s : S) (n C : Nat) (hw : Deck s n C) (hC : C < 999000) : ∃ c s', callF Pg (k + 1 + 1) "" "_law_sign" [.ref n] s = some (.ok (.str [c]), s') ∧ Sgn c ∧ Deck s' n (C + 1) ∧ Keep s s' n := by
  obtain ⟨v, s1, h1, h1a, h1b, w1, k1⟩ := take_spec k s n C 27 hw (by omega) (by omega)
  obtain ⟨c, hc, hm⟩ := at_get [97, 98, 99, 100, 101, 102, 103, 104, 105, 106, 107, 108, 109, 110, 111, 112, 113, 114, 115, 116, 117, 118, 119, 120, 121, 122, 32] v h1a (by show v < ((27 : Nat) : Int); exact h1b)
  refine ⟨c, s1, ?_, hm, w1, k1⟩
  have hi : idxD s1 (.str [97, 98, 99, 100, 101, 102, 103, 104, 105, 106, 107, 108, 109, 110, 111, 112, 113, 114, 115, 116, 117, 118, 119, 120, 121, 122, 32]) (.int v) = some (.str [c]) := by
    rw [i_str', if_pos (by decide), hc]
    rfl
  simp? only [r__law_sign, b__law_sign, h1, hi]
theorem ldeed_spec (k : Nat) (s : S) (n C : Nat) (m : Int) (hw : Deck s n C) (hC : C < 998000) (hm : 0 < m ∧ m ≤ 1000) : ∃ d s', callF Pg (k + 1 + 1 + 1) "" "_law_deed" [.ref n, .int m] s = some (.ok (Dd.d d), s') ∧ Wd d ∧ Deck s' n (C + 4) ∧ Keep s s' n := by
  obtain ⟨v, s1, h1, h1a, h1b, w1, k1⟩ := take_spec (k + 1) s n C 7 hw (by omega) (by omega)
  by_cases c1 : v < 4
  · obtain ⟨p, s2, h2, h2a, h2b, w2, k2⟩ := take_spec (k + 1) s1 n _ m w1 (by omega) (by omega)
    obtain ⟨c, s3, h3, h3a, w3, k3⟩ := lsign_spec k s2 n _ w2 (by omega)
    refine ⟨.put p c, s3, ?_, ⟨⟨h2a, by omega⟩, h3a⟩, w3.mono (by omega), (k1.trans k2).trans k3⟩
    simp? (config := {decide := true}) only [r__law_deed, b__law_deed, h1, c1, h2, h3, Dd.d]
  · by_cases c2 : v < 6
    · obtain ⟨p, s2, h2, h2a, h2b, w2, k2⟩ := take_spec (k + 1) s1 n _ m w1 (by omega) (by omega)
      refine ⟨.cut p, s2, ?_, ⟨h2a, by omega⟩, w2.mono (by omega), k1.trans k2⟩
      simp? (config := {decide := true}) only [r__law_deed, b__law_deed, h1, c1, c2, h2, Dd.d]
    · refine ⟨.non, s1, ?_, trivial, w1.mono (by omega), k1⟩
      simp? (config := {decide := true}) only [r__law_deed, b__law_deed, h1, c1, c2, Dd.d]
theorem room_spec (k : Nat) (s : S) (n C : Nat) (hw : Deck s n C) (hC : C < 998000) : ∃ v m s', callF Pg (k + 1) "" "_law_take" [.ref n, .int 2] s = some (.ok (.int v), s') ∧ atI [D.int 12, .int 1000] v = some (.int m) ∧ (0 < m ∧ m ≤ 1000) ∧ Deck s' n (C + 1) ∧ Keep s s' n := by
  obtain ⟨v, s1, h1, h1a, h1b, w1, k1⟩ := take_spec k s n C 2 hw (by omega) (by omega)
  have : v = 0 ∨ v = 1 := by omega
  rcases this with rfl | rfl
  · exact ⟨0, 12, s1, h1, rfl, by omega, w1, k1⟩
  · exact ⟨1, 1000, s1, h1, rfl, by omega, w1, k1⟩
theorem levent_spec (k : Nat) (s : S) (n C : Nat) (hw : Deck s n C) (hC : C < 997000) : ∃ e s', callF Pg (k + 1 + 1 + 1 + 1) "" "_law_event" [.ref n] s = some (.ok (Ev.d e), s') ∧ We e ∧ Deck s' n (C + 7) ∧ Keep s s' n := by
  obtain ⟨g, s1, h1, h1a, h1b, w1, k1⟩ := take_spec (k + 1 + 1) s n C 2 hw (by omega) (by omega)
  obtain ⟨g, rfl⟩ := Int.eq_ofNat_of_zero_le h1a
  obtain ⟨v, s2, h2, h2a, h2b, w2, k2⟩ := take_spec (k + 1 + 1) s1 n _ 3 w1 (by omega) (by omega)
  by_cases c : v = 0
  · refine ⟨.come g, s2, ?_, by show g < 2; omega, w2.mono (by omega), k1.trans k2⟩
    simp? (config := {decide := true}) only [r__law_event, b__law_event, h1, h2, c, Ev.d]
  · obtain ⟨u, m, s3, h3, hm, hm2, w3, k3⟩ := room_spec (k + 1 + 1) s2 n _ w2 (by omega)
    obtain ⟨d, s4, h4, hd, w4, k4⟩ := ldeed_spec k s3 n _ m w3 (by omega) hm2
    refine ⟨.make g d, s4, ?_, ⟨by omega, hd⟩, w4.mono (by omega), ((k1.trans k2).trans k3).trans k4⟩
    simp? (config := {decide := true}) only [r__law_event, b__law_event, h1, h2, c, h3, hm, h4, Ev.d]

theorem Sgn.lt {c : Nat} (hm : Sgn c) : c < 128 := by
  have := List.all_eq_true.mp (show [97, 98, 99, 100, 101, 102, 103, 104, 105, 106, 107, 108, 109, 110, 111, 112, 113, 114, 115, 116, 117, 118, 119, 120, 121, 122, 32].all (fun c => decide (c < 128)) = true by decide) c hm
  exact of_decide_eq_true this
theorem us_lt {c : Nat} (h : Sgn c) : us c < 128 := by
  unfold us
  have := h.lt
  split <;> omega
theorem wr_lt {d : Dd} (h : Wd d) : ∀ c ∈ wr d, c < 128 := by
  intro x hx
  cases d with
  | put p c =>
    obtain ⟨n, rfl⟩ := Int.eq_ofNat_of_zero_le h.1.1
    have hn : n < 1000 := by have := h.1.2; omega
    have e : wr (.put (n : Int) c) = 43 :: (_root_.TL.numL n ++ [32, us c]) := by simp [wr]
    rw [e] at hx
    simp only [List.mem_cons, List.mem_append, List.not_mem_nil, or_false] at hx
    have := us_lt h.2
    rcases hx with e | e | e | e
    · omega
    · have := num_dig hn _ e; omega
    · omega
    · omega
  | cut p =>
    obtain ⟨n, rfl⟩ := Int.eq_ofNat_of_zero_le h.1
    have hn : n < 1000 := by have := h.2; omega
    have e : wr (.cut (n : Int)) = 45 :: _root_.TL.numL n := by simp [wr]
    rw [e] at hx
    simp only [List.mem_cons] at hx
    rcases hx with e | e
    · omega
    · have := num_dig hn _ e; omega
  | non =>
    simp only [wr, List.mem_cons, List.not_mem_nil, or_false] at hx
    omega
theorem wrE_lt {e : Ev} (h : We e) : ∀ c ∈ wrE e, c < 128 := by
  intro x hx
  cases e with
  | come g =>
    have hg : g < 2 := h
    simp only [wrE, List.mem_cons, List.not_mem_nil, or_false] at hx
    omega
  | make g d =>
    obtain ⟨hg, hd⟩ := h
    simp only [wrE, List.mem_append, List.mem_cons, List.not_mem_nil, or_false] at hx
    rcases hx with hx | hx
    · omega
    · exact wr_lt hd x hx
theorem lns_lt : ∀ {ls : List (List Nat)}, (∀ l ∈ ls, ∀ c ∈ l, c < 128) → ∀ c ∈ lns ls, c < 128
  | [], _, c, hc => by cases hc
  | l :: r, h, c, hc => by
    simp only [lns, List.mem_append, List.mem_cons] at hc
    rcases hc with hc | rfl | hc
    · exact h l List.mem_cons_self c hc
    · decide
    · exact lns_lt (fun x hx => h x (List.mem_cons_of_mem _ hx)) c hc
theorem row_lt {r : List Dd} (h : ∀ d ∈ r, Wd d) : ∀ c ∈ lns (r.map wr), c < 128 := lns_lt fun l hl => by
  obtain ⟨d, hd, rfl⟩ := List.mem_map.mp hl
  exact wr_lt (h d hd)
theorem sto_lt {r : List Ev} (h : ∀ d ∈ r, We d) : ∀ c ∈ lns (r.map wrE), c < 128 := lns_lt fun l hl => by
  obtain ⟨d, hd, rfl⟩ := List.mem_map.mp hl
  exact wrE_lt (h d hd)
theorem shp_tx {x : List Nat} (h : ∀ c ∈ x, c < 128) (n : Nat) : shp n (.str x) = true := by
  have : x.all (· < 1114112) = true := List.all_eq_true.mpr fun c hc => decide_eq_true (by have := h c hc; omega)
  cases n <;> simpa only [shp] using this
theorem dd_ok (ok : Nat → Bool) {d : Dd} (h : Wd d) : rkD ok d.d = true ∧ dpD d.d ≤ 1 ∧ wtD d.d ≤ 410 ∧ ∀ n, shp (n + 1) d.d = true := by
  cases d with
  | put p c =>
    have hp : p.natAbs < 10 ^ 100 := Nat.lt_of_lt_of_le (show p.natAbs < 1000 by have := h.1.1; have := h.1.2; omega) (by decide)
    have hc : c < 1114112 := by have := h.2.lt; omega
    refine ⟨?_, by simp [Dd.d, dpD, dpL], by simp [Dd.d, wtD, wtL], fun n => ?_⟩
    · simp only [Dd.d, rkD, rkL, List.all_cons, List.all_nil, Bool.and_true, decide_eq_true hp, decide_eq_true hc]
      decide
    · have a := shp_tx (x := [112, 117, 116]) (by decide) n
      have b := shp_tx (x := [c]) (fun y hy => by rw [List.mem_singleton.mp hy]; exact h.2.lt) n
      simp only [shp] at a b
      simp only [Dd.d, shp, shpL, a, b, Bool.and_self]
  | cut p =>
    have hp : p.natAbs < 10 ^ 100 := Nat.lt_of_lt_of_le (show p.natAbs < 1000 by have := h.1; have := h.2; omega) (by decide)
    refine ⟨?_, by simp [Dd.d, dpD, dpL], by simp [Dd.d, wtD, wtL], fun n => ?_⟩
    · simp only [Dd.d, rkD, rkL, Bool.and_true, decide_eq_true hp]
      decide
    · have a := shp_tx (x := [99, 117, 116]) (by decide) n
      simp only [shp] at a
      simp only [Dd.d, shp, shpL, a, Bool.and_self]
  | non =>
    refine ⟨rfl, by simp [Dd.d, dpD, dpL], by simp [Dd.d, wtD, wtL], fun n => ?_⟩
    have a := shp_tx (x := [110, 111, 110, 101]) (by decide) n
    simp only [shp] at a
    simp only [Dd.d, shp, shpL, a, Bool.and_self]
theorem ev_ok (ok : Nat → Bool) {e : Ev} (h : We e) : rkD ok e.d = true ∧ dpD e.d ≤ 2 ∧ wtD e.d ≤ 830 ∧ ∀ n, shp (n + 2) e.d = true := by
  cases e with
  | come g =>
    have hg : g < 2 := h
    have hp : ((g : Int)).natAbs < 10 ^ 100 := Nat.lt_of_lt_of_le (show ((g : Int)).natAbs < 1000 by omega) (by decide)
    refine ⟨?_, by simp [Ev.d, dpD, dpL], by simp [Ev.d, wtD, wtL], fun n => ?_⟩
    · simp only [Ev.d, rkD, rkL, Bool.and_true, decide_eq_true hp]
      decide
    · have a := shp_tx (x := [99, 111, 109, 101]) (by decide) (n + 1)
      simp only [shp] at a
      simp only [Ev.d, shp, shpL, a, Bool.and_self]
  | make g d =>
    obtain ⟨hg, hd⟩ := h
    have hp : ((g : Int)).natAbs < 10 ^ 100 := Nat.lt_of_lt_of_le (show ((g : Int)).natAbs < 1000 by omega) (by decide)
    obtain ⟨r1, r2, r3, r4⟩ := dd_ok ok hd
    refine ⟨?_, ?_, ?_, fun n => ?_⟩
    · simp only [Ev.d, rkD, rkL, Bool.and_true, decide_eq_true hp, r1]
      decide
    · simp only [Ev.d, dpD, dpL]
      omega
    · simp only [Ev.d, wtD, wtL, List.length_cons, List.length_nil]
      omega
    · have a := shp_tx (x := [109, 97, 107, 101]) (by decide) (n + 1)
      simp only [shp] at a
      simp only [Ev.d, shp, shpL, a, r4 n, Bool.and_self]
theorem rows_ok (ok : Nat → Bool) {r : List Dd} {t : List Ev} (hr : ∀ d ∈ r, Wd d) (ht : ∀ e ∈ t, We e) (lr : r.length ≤ 30) (lt : t.length ≤ 60) :
    rkD ok (.lst [.lst (r.map Dd.d), .lst (t.map Ev.d)]) = true ∧ dpD (.lst [.lst (r.map Dd.d), .lst (t.map Ev.d)]) ≤ 100 ∧ wtD (.lst [.lst (r.map Dd.d), .lst (t.map Ev.d)]) ≤ 100000 ∧ shp 60 (.lst [.lst (r.map Dd.d), .lst (t.map Ev.d)]) = true := by
  have mr : ∀ x ∈ r.map Dd.d, rkD ok x = true ∧ dpD x ≤ 1 ∧ wtD x ≤ 410 ∧ ∀ n, shp (n + 1) x = true := fun x hx => by
    obtain ⟨d, hd, rfl⟩ := List.mem_map.mp hx
    exact dd_ok ok (hr d hd)
  have mt : ∀ x ∈ t.map Ev.d, rkD ok x = true ∧ dpD x ≤ 2 ∧ wtD x ≤ 830 ∧ ∀ n, shp (n + 2) x = true := fun x hx => by
    obtain ⟨d, hd, rfl⟩ := List.mem_map.mp hx
    exact ev_ok ok (ht d hd)
  have shl : ∀ (n : Nat) (xs : List D), (∀ x ∈ xs, shp n x = true) → shpL n xs = true := fun n xs => by
    induction xs with
    | nil => intro _; simp only [shpL]
    | cons x xs ih =>
      intro h
      simp only [shpL, h x List.mem_cons_self, ih fun y hy => h y (List.mem_cons_of_mem _ hy), Bool.and_self]
  have k1 : rkL ok (r.map Dd.d) = true := rkL_all fun x hx => (mr x hx).1
  have k2 : rkL ok (t.map Ev.d) = true := rkL_all fun x hx => (mt x hx).1
  have d1 : dpL (r.map Dd.d) ≤ 1 := dpL_le fun x hx => (mr x hx).2.1
  have d2 : dpL (t.map Ev.d) ≤ 2 := dpL_le fun x hx => (mt x hx).2.1
  have w1 := wtL_le (m := 410) (xs := r.map Dd.d) fun x hx => (mr x hx).2.2.1
  have w2 := wtL_le (m := 830) (xs := t.map Ev.d) fun x hx => (mt x hx).2.2.1
  rw [List.length_map] at w1 w2
  have s1 : shpL 58 (r.map Dd.d) = true := shl 58 _ fun x hx => (mr x hx).2.2.2 57
  have s2 : shpL 58 (t.map Ev.d) = true := shl 58 _ fun x hx => (mt x hx).2.2.2 56
  refine ⟨by simp only [rkD, rkL, k1, k2, Bool.and_self], ?_, ?_, by simp only [shp, shpL, s1, s2, Bool.and_self]⟩
  · simp only [dpD, dpL]
    omega
  · simp only [wtD, wtL]
    omega
theorem repr_lst {s : S} {r : List Dd} {t : List Ev} (hr : ∀ d ∈ r, Wd d) (ht : ∀ e ∈ t, We e) (lr : r.length ≤ 30) (lt : t.length ≤ 60) : ∃ x, ∀ s : S, reprD s (.lst [.lst (r.map Dd.d), .lst (t.map Ev.d)]) = some (.str x) := by
  obtain ⟨a, b, c, -⟩ := rows_ok (fun _ => false) hr ht lr lt
  exact ⟨_, fun s => repr_ok (ok := fun _ => false) (fun n hn => by cases hn) a (by omega) (by omega)⟩
theorem repr_refs {s : S} {a b : Nat} {xs ys : List D} (ha : s.m a = some (.lst xs)) (hb : s.m b = some (.lst ys)) : reprD s (.lst [.ref a, .ref b]) = reprD s (.lst [.lst xs, .lst ys]) := by
  have e : ∀ k, pdO s (k + 1) (.ref a) = pdO s (k + 1) (.lst xs) := fun k => by simp only [pdO, ha]
  have f : ∀ k, pdO s (k + 1) (.ref b) = pdO s (k + 1) (.lst ys) := fun k => by simp only [pdO, hb]
  have h : pdO s (4099 + 1) (.lst [.ref a, .ref b]) = pdO s (4099 + 1) (.lst [.lst xs, .lst ys]) := by
    have e1 := e 4098
    have f1 := f 4098
    simp only [pdO, pdOs] at e1 f1 ⊢
    simp only [e1, f1]
  unfold reprD
  exact congrArg (fun z => Option.bind z _) h

/-- an entry of what is held -/
structure En where
  r : List Dd
  t : List Ev
  a : Nat
def En.d (e : En) : D := .tup [.lst (e.r.map Dd.d), .lst (e.t.map Ev.d), .ref e.a]
structure En.ok (e : En) (s : S) : Prop where
  hr : ∀ d ∈ e.r, Wd d
  ht : ∀ d ∈ e.t, We d
  lr : e.r.length ≤ 30
  lt : e.t.length ≤ 60
  a : e.a < s.nx
  m : s.m e.a = some (.lst [.str (lns (e.r.map wr)), .str (lns (e.t.map wrE))])
theorem En.ok.old {e : En} {s s' : S} (h : e.ok s) (o : Old s s') : e.ok s' := ⟨h.hr, h.ht, h.lr, h.lt, Nat.lt_of_lt_of_le h.a o.1, (o.2 _ h.a).trans h.m⟩
theorem q_lref {s : S} {n : Nat} {xs ys : List D} (h : s.m n = some (.lst ys)) (hs : shp 60 (.lst xs) = true ∧ shp 60 (.lst ys) = true) : eqS s (.lst xs) (.ref n) = some (eqD (.lst xs) (.lst ys)) := by
  have e1 : opn s (.ref n) = .lst ys := by simp only [opn, h]
  have e2 : opn s (.lst xs) = .lst xs := rfl
  show (if (shp 60 (opn s (.lst xs)) && shp 60 (opn s (.ref n))) = true then some (eqD (opn s (.lst xs)) (opn s (.ref n))) else _) = _
  rw [e1, e2, hs.1, hs.2]
  rfl
theorem row_lc (k : Nat) (s : S) (n C : Nat) (m : Nat) (hm : m ≤ 20) (z0 z1 z2 z3 z4 z5 z7 z8 z9 z10 z11 z12 z13 z14 z15 : Option D) (hw : Deck s n C) (hC : C < 900000) :
    ∃ (r : List Dd) (s' : S), lcI (callF Pg (k + 1 + 1 + 1)) false x_law_1 (.nm 12) .no [z0, z1, z2, z3, z4, z5, some (.ref n), z7, z8, z9, z10, z11, z12, z13, z14, z15] s (.rng 0 m) = some (.ok (.lst (r.map Dd.d)), s') ∧ (∀ d ∈ r, Wd d) ∧ r.length = m ∧ Deck s' n (C + 100) ∧ Keep s s' n := by
  obtain ⟨xs, s', h, ⟨r, rfl, hr, hw', hk⟩, hl⟩ := lc_rng (cf := callF Pg (k + 1 + 1 + 1)) (t := 12) (e := x_law_1) (r := [z0, z1, z2, z3, z4, z5, some (.ref n), z7, z8, z9, z10, z11, z12, z13, z14, z15]) (s := s) m (by unfold LIM; omega)
    (fun xs t => ∃ r : List Dd, xs = r.map Dd.d ∧ (∀ d ∈ r, Wd d) ∧ Deck t n (C + 5 * xs.length) ∧ Keep s t n) ⟨[], rfl, nofun, hw, rfl, fun _ _ => rfl⟩ (by
    rintro i xs t ⟨r, rfl, hr, wt, kt⟩ hx hi
    rw [List.length_map] at hx wt
    obtain ⟨v, m', s1, h1, hm1, hm2, w1, k1⟩ := room_spec (k + 1 + 1) t n _ wt (by omega)
    obtain ⟨d, s2, h2, hd, w2, k2⟩ := ldeed_spec k s1 n _ m' w1 (by omega) hm2
    refine ⟨d.d, s2, ?_, r ++ [d], by rw [List.map_append]; rfl, fun x hx => ?_, w2.mono ?_, (kt.trans k1).trans k2⟩
    · show ev (callF Pg (k + 1 + 1 + 1)) x_law_1 [z0, z1, z2, z3, z4, z5, some (.ref n), z7, z8, z9, z10, z11, some (.int (i : Nat)), z13, z14, z15] t = _
      simp? only [x_law_1, h1, hm1, h2]
    · rcases List.mem_append.mp hx with hx | hx
      · exact hr x hx
      · rw [List.mem_singleton.mp hx]; exact hd
    · rw [List.length_append, List.length_map, List.length_singleton]
      omega)
  rw [List.length_map] at hl hw'
  exact ⟨r, s', h, hr, hl, hw'.mono (by omega), hk⟩
theorem sto_lc (k : Nat) (s : S) (n C : Nat) (m : Nat) (hm : m ≤ 60) (z0 z1 z2 z3 z4 z5 z7 z8 z9 z10 z11 z12 z13 z14 z15 : Option D) (hw : Deck s n C) (hC : C < 900000) :
    ∃ (r : List Ev) (s' : S), lcI (callF Pg (k + 1 + 1 + 1 + 1)) false x_law_2 (.nm 12) .no [z0, z1, z2, z3, z4, z5, some (.ref n), z7, z8, z9, z10, z11, z12, z13, z14, z15] s (.rng 0 m) = some (.ok (.lst (r.map Ev.d)), s') ∧ (∀ d ∈ r, We d) ∧ r.length = m ∧ Deck s' n (C + 420) ∧ Keep s s' n := by
  obtain ⟨xs, s', h, ⟨r, rfl, hr, hw', hk⟩, hl⟩ := lc_rng (cf := callF Pg (k + 1 + 1 + 1 + 1)) (t := 12) (e := x_law_2) (r := [z0, z1, z2, z3, z4, z5, some (.ref n), z7, z8, z9, z10, z11, z12, z13, z14, z15]) (s := s) m (by unfold LIM; omega)
    (fun xs t => ∃ r : List Ev, xs = r.map Ev.d ∧ (∀ d ∈ r, We d) ∧ Deck t n (C + 7 * xs.length) ∧ Keep s t n) ⟨[], rfl, nofun, hw, rfl, fun _ _ => rfl⟩ (by
    rintro i xs t ⟨r, rfl, hr, wt, kt⟩ hx hi
    rw [List.length_map] at hx wt
    obtain ⟨d, s2, h2, hd, w2, k2⟩ := levent_spec k t n _ wt (by omega)
    refine ⟨d.d, s2, ?_, r ++ [d], by rw [List.map_append]; rfl, fun x hx => ?_, w2.mono ?_, kt.trans k2⟩
    · show ev (callF Pg (k + 1 + 1 + 1 + 1)) x_law_2 [z0, z1, z2, z3, z4, z5, some (.ref n), z7, z8, z9, z10, z11, some (.int (i : Nat)), z13, z14, z15] t = _
      simp? only [x_law_2, h2]
    · rcases List.mem_append.mp hx with hx | hx
      · exact hr x hx
      · rw [List.mem_singleton.mp hx]; exact hd
    · rw [List.length_append, List.length_map, List.length_singleton]
      omega)
  rw [List.length_map] at hl hw'
  exact ⟨r, s', h, hr, hl, hw'.mono (by omega), hk⟩
/-- behind the draws -/
theorem tail_spec (H n : Nat) (s : S) (r : List Dd) (t : List Ev) (es : List En) (z0 z2 z5 z7 z8 z9 z10 z11 z12 z13 z14 z15 : Option D) (hH : H < s.nx) (hm : s.m H = some (.lst (es.map En.d))) (hes : ∀ e ∈ es, e.ok s ∧ e.a ≠ H) (hel : es.length ≤ 100)
    (hr : ∀ d ∈ r, Wd d) (ht : ∀ e ∈ t, We e) (lr : r.length ≤ 30) (lt : t.length ≤ 60) :
    ∃ (r' : Sl) (s' : S) (es' : List En), exs (callF Pg 12) l_law_1_4 [z0, some (.ref H), z2, some (.lst (r.map Dd.d)), some (.lst (t.map Ev.d)), z5, some (.ref n), z7, z8, z9, z10, z11, z12, z13, z14, z15] s = some (.ok (.nx, z0 :: some (.ref H) :: r'), s') ∧ r'.length = 14 ∧ H < s'.nx ∧ s'.m H = some (.lst (es'.map En.d)) ∧ (∀ e ∈ es', e.ok s' ∧ e.a ≠ H) ∧ es'.length = es.length + 1 := by
  obtain ⟨A, hA⟩ : ∃ A, A = lns (r.map wr) := ⟨_, rfl⟩
  obtain ⟨B, hB⟩ : ∃ B, B = lns (t.map wrE) := ⟨_, rfl⟩
  have la := (rowL hr).1
  have lb := (stoL ht).1
  rw [← hA] at la
  rw [← hB] at lb
  have e3 : ∀ u : S, lcI (callF Pg 12) false x_law_3 (.nm 14) .no [z0, some (.ref H), z2, some (.lst (r.map Dd.d)), some (.lst (t.map Ev.d)), z5, some (.ref n), z7, z8, z9, z10, z11, z12, z13, z14, z15] u (.seq (.lst (r.map Dd.d))) = some (.ok (.lst ((r.map wr).map fun l => D.str (l ++ [10]))), u) := fun u => by
    rw [lc_map r Dd.d (fun d => .str (wr d ++ [10])) (by omega) (fun d hd => by
      have b := bi_str (wr d) [10] (by have := (wr_len d (hr d hd)).1; simp only [List.length_cons, List.length_nil]; unfold LIM; omega)
      show ev (callF Pg 12) x_law_3 [z0, some (.ref H), z2, some (.lst (r.map Dd.d)), some (.lst (t.map Ev.d)), z5, some (.ref n), z7, z8, z9, z10, z11, z12, z13, some d.d, z15] u = _
      simp? only [x_law_3, lwritten_spec 11 u d (hr d hd), b]), List.map_map]
    rfl
  have j3 : ∀ u : S, metD u .join (.str []) [.lst ((r.map wr).map fun l => D.str (l ++ [10]))] = some (.ok (.str A), u) := fun u => by
    have := m_joinL (s := u) ((r.map wr).map fun l => l ++ [10]) (by rw [lns_flat, ← hA]; omega)
    rw [lns_flat, ← hA, List.map_map] at this
    exact this
  obtain ⟨s1, hs1⟩ : ∃ u, u = s.new (.lst [.str A]) := ⟨_, rfl⟩
  have o1 : Old s s1 := by rw [hs1]; exact Old.new _
  have n1 : s1.nx = s.nx + 1 := by rw [hs1]; rfl
  have m1 : s1.m s.nx = some (.lst [.str A]) := by rw [hs1]; exact new_same _
  have e4 : ∀ (u : S) (z8 : Option D), lcI (callF Pg 12) false x_law_4 (.nm 15) .no [z0, some (.ref H), z2, some (.lst (r.map Dd.d)), some (.lst (t.map Ev.d)), z5, some (.ref n), z7, z8, z9, z10, z11, z12, z13, z14, z15] u (.seq (.lst (t.map Ev.d))) = some (.ok (.lst ((t.map wrE).map fun l => D.str (l ++ [10]))), u) := fun u z8 => by
    rw [lc_map t Ev.d (fun d => .str (wrE d ++ [10])) (by omega) (fun d hd => by
      have b := bi_str (wrE d) [10] (by have := (wrE_len d (ht d hd)).1; simp only [List.length_cons, List.length_nil]; unfold LIM; omega)
      show ev (callF Pg 12) x_law_4 [z0, some (.ref H), z2, some (.lst (r.map Dd.d)), some (.lst (t.map Ev.d)), z5, some (.ref n), z7, z8, z9, z10, z11, z12, z13, z14, some d.d] u = _
      simp? only [x_law_4, lwrittenE_spec 10 u d (ht d hd), b]), List.map_map]
    rfl
  have j4 : ∀ u : S, metD u .join (.str []) [.lst ((t.map wrE).map fun l => D.str (l ++ [10]))] = some (.ok (.str B), u) := fun u => by
    have := m_joinL (s := u) ((t.map wrE).map fun l => l ++ [10]) (by rw [lns_flat, ← hB]; omega)
    rw [lns_flat, ← hB, List.map_map] at this
    exact this
  have ap := m_append (y := D.str B) m1 (by show 1 < LIM; decide)
  have mt := mt_ref m1 .append (by simp)
  obtain ⟨s2, hs2⟩ : ∃ u, u = s1.put s.nx (.lst ([.str A] ++ [.str B])) := ⟨_, rfl⟩
  rw [← hs2] at ap
  have m2 : s2.m s.nx = some (.lst [.str A, .str B]) := by rw [hs2]; exact put_same _ _
  have o2 : Old s s2 := by rw [hs2]; exact o1.put _ (Nat.le_refl _)
  have n2 : s2.nx = s.nx + 1 := by rw [hs2]; exact n1
  have h5 := show_row_spec 9 s2 r hr (by omega)
  have h6 := show_story_spec 8 s2 t ht (by omega)
  rw [← hA] at h5
  rw [← hB] at h6
  have shA := shp_tx (x := A) (by rw [hA]; exact row_lt hr)
  have shB := shp_tx (x := B) (by rw [hB]; exact sto_lt ht)
  have sh2 : shp 60 (.lst [.str A, .str B]) = true := by
    have a := shA 0
    have b := shB 0
    simp only [shp] at a b
    simp only [shp, shpL, a, b, Bool.and_self]
  have q1 : cmpD s2 .ne (.lst [.str A, .str B]) (.ref s.nx) = some false := by
    rw [c_ne, q_lref m2 ⟨sh2, sh2⟩]
    simp [eqD, eqL]
  have q2 : cmpD s2 .ne (.lst [.lst (r.map Dd.d), .lst (t.map Ev.d)]) (.lst [.lst (r.map Dd.d), .lst (t.map Ev.d)]) = some false := by
    rw [c_ne, q_reflL (rows_ok (fun _ => false) hr ht lr lt).2.2.2]
    rfl
  have e5 : ∀ (z8 z9 z10 : Option D), lcI (callF Pg 12) false x_law_5 (.nm 13) y_law_5 [z0, some (.ref H), z2, some (.lst (r.map Dd.d)), some (.lst (t.map Ev.d)), z5, some (.ref n), z7, z8, z9, z10, z11, z12, z13, z14, z15] s2 (.seq (.lst [.str A, .str B])) = some (.ok (.lst []), s2) := fun z8 z9 z10 => by
    have := lc_pure (cf := callF Pg 12) (t := 13) (iv := .seq (.lst [.str A, .str B])) (c := y_law_5) (e := x_law_5) (r := [z0, some (.ref H), z2, some (.lst (r.map Dd.d)), some (.lst (t.map Ev.d)), z5, some (.ref n), z7, z8, z9, z10, z11, z12, z13, z14, z15]) (s := s2) [.str A, .str B] (fun _ => false) (fun x => x) (by show 2 ≤ LIM; decide) rfl (fun _ _ => rfl) (fun x hx => by
      simp only [List.mem_cons, List.not_mem_nil, or_false] at hx
      rcases hx with rfl | rfl <;> simp? (config := {decide := true}) only [y_law_5, t_so, kT_b]) (fun x _ h => by cases h)
    exact this
  have qn : cmpD s2 .ne (.lst []) (.lst []) = some false := rfl
  have hm2 : s2.m H = some (.lst (es.map En.d)) := (o2.2 H hH).trans hm
  have ap2 := m_append (y := D.tup [.lst (r.map Dd.d), .lst (t.map Ev.d), .ref s.nx]) hm2 (by rw [List.length_map]; unfold LIM; omega)
  have mt2 := mt_ref hm2 .append (by simp)
  let e : En := ⟨r, t, s.nx⟩
  have hput : Old s2 (s2.put H (.lst (es.map En.d ++ [e.d]))) ∨ True := .inr trivial
  have keep : ∀ x : En, x.ok s2 → x.a ≠ H → x.ok (s2.put H (.lst (es.map En.d ++ [e.d]))) := fun x hx hne => ⟨hx.hr, hx.ht, hx.lr, hx.lt, hx.a, (put_ne _ _ _ hne).trans hx.m⟩
  refine ⟨[z2, some (.lst (r.map Dd.d)), some (.lst (t.map Ev.d)), z5, some (.ref n), z7, some (.ref s.nx), some (.lst [.lst (r.map Dd.d), .lst (t.map Ev.d)]), some (.lst [.str A, .str B]), z11, z12, z13, z14, z15], s2.put H (.lst (es.map En.d ++ [e.d])), es ++ [e], ?_, rfl, by show H < s2.nx; omega, ?_, ?_, by rw [List.length_append]; rfl⟩
  · simp? (config := {decide := true}) only [l_law_1_4, l_law_1_7, mt_join, e3, j3, ← hs1, mt, e4, j4, ap, h5, h6, q1, q2, e5, qn, mt2, ap2]
    rfl
  · rw [put_same, List.map_append]
    rfl
  · intro x hx
    rcases List.mem_append.mp hx with hx | hx
    · obtain ⟨a, b⟩ := hes x hx
      exact ⟨keep x (a.old o2) b, b⟩
    · rw [List.mem_singleton.mp hx]
      refine ⟨keep e ⟨hr, ht, lr, lt, by show s.nx < s2.nx; omega, ?_⟩ (by show s.nx ≠ H; omega), by show s.nx ≠ H; omega⟩
      show s2.m s.nx = _
      rw [m2, hA, hB]

theorem cell_spec (H : Nat) (s : S) (c : Int) (es : List En) (z0 z3 z4 z5 z6 z7 z8 z9 z10 z11 z12 z13 z14 z15 : Option D) (hH : H < s.nx) (hm : s.m H = some (.lst (es.map En.d))) (hes : ∀ e ∈ es, e.ok s ∧ e.a ≠ H) (hel : es.length ≤ 100) :
    ∃ (r' : Sl) (s' : S) (es' : List En), exs (callF Pg 12) l_law_1 [z0, some (.ref H), some (.int c), z3, z4, z5, z6, z7, z8, z9, z10, z11, z12, z13, z14, z15] s = some (.ok (.nx, z0 :: some (.ref H) :: r'), s') ∧ r'.length = 14 ∧ H < s'.nx ∧ s'.m H = some (.lst (es'.map En.d)) ∧ (∀ e ∈ es', e.ok s' ∧ e.a ≠ H) ∧ es'.length = es.length + 1 := by
  obtain ⟨s1, h1, w1, n1, o1⟩ := deck_spec 11 s c 3
  obtain ⟨n, hn⟩ : ∃ n, n = s.nx := ⟨_, rfl⟩
  rw [← hn] at h1 w1 n1
  have e3 : ((3 : Nat) : Int) = 3 := rfl
  rw [e3] at h1
  obtain ⟨v2, s2, h2, h2a, h2b, w2, k2⟩ := take_spec 11 s1 n 3 21 w1 (by omega) (by omega)
  obtain ⟨u, rfl⟩ := Int.eq_ofNat_of_zero_le h2a
  have kr1 : kRng (some (.ok (.int (u : Nat)), s2)) = some (.ok (.rng 0 u), s2) := by rw [kRng_ok _ (by omega), Int.toNat_natCast]
  obtain ⟨r, s3, h3, hr, hrl, w3, k3⟩ := row_lc 9 s2 n 4 u (by omega) z0 (some (.ref H)) (some (.int c)) z3 z4 z5 z7 z8 z9 z10 z11 z12 z13 z14 z15 w2 (by omega)
  obtain ⟨v4, s4, h4, h4a, h4b, w4, k4⟩ := take_spec 11 s3 n _ 8 w3 (by omega) (by omega)
  obtain ⟨b, hb⟩ : ∃ b : Bool, b = decide (v4 = 3) := ⟨_, rfl⟩
  have hmost : ∃ m : Int, atI [D.int 21, .int 41] (if v4 = 3 then 1 else 0) = some (.int m) ∧ 0 < m ∧ m ≤ 41 := by
    by_cases c3 : v4 = 3
    · exact ⟨41, by rw [if_pos c3]; rfl, by omega, by omega⟩
    · exact ⟨21, by rw [if_neg c3]; rfl, by omega, by omega⟩
  obtain ⟨m, hm1, hm2, hm3⟩ := hmost
  obtain ⟨v5, s5, h5, h5a, h5b, w5, k5⟩ := take_spec 11 s4 n _ m w4 (by omega) (by omega)
  obtain ⟨w, rfl⟩ := Int.eq_ofNat_of_zero_le h5a
  have kr2 : kRng (some (.ok (.int (w : Nat)), s5)) = some (.ok (.rng 0 w), s5) := by rw [kRng_ok _ (by omega), Int.toNat_natCast]
  obtain ⟨t, s6, h6, ht, htl, w6, k6⟩ := sto_lc 8 s5 n _ w (by omega) z0 (some (.ref H)) (some (.int c)) (some (.lst (r.map Dd.d))) z4 z5 (some (.int m)) z8 z9 z10 z11 z12 z13 z14 z15 w5 (by omega)
  have kk : Keep s1 s6 n := (((k2.trans k3).trans k4).trans k5).trans k6
  have o6 : Old s s6 := ⟨by rw [kk.1]; omega, fun j hj => (kk.2 j (by omega)).trans (o1.2 j hj)⟩
  obtain ⟨r', s', es', g1, g2, g3, g4, g5, g6⟩ := tail_spec H n s6 r t es z0 (some (.int c)) z5 (some (.int m)) z8 z9 z10 z11 z12 z13 z14 z15 (Nat.lt_of_lt_of_le hH o6.1) ((o6.2 H hH).trans hm) (fun e he => ⟨(hes e he).1.old o6, (hes e he).2⟩) hel hr ht (by omega) (by omega)
  refine ⟨r', s', es', ?_, g2, g3, g4, g5, g6⟩
  simp? (config := {decide := true}) only [l_law_1, l_law_1_2, h1, h2, kr1, h3, h4, hm1, h5, kr2, h6, g1]
/-- reading back -/
theorem back_spec (s : S) (e : En) (he : e.ok s) (z0 z1 z2 z6 z7 z8 z9 z10 z11 z12 z13 z14 z15 : Option D) :
    ∃ (z11' : Option D) (s' : S), exs (callF Pg 12) l_law_2 [z0, z1, z2, some (.lst (e.r.map Dd.d)), some (.lst (e.t.map Ev.d)), some (.ref e.a), z6, z7, z8, z9, z10, z11, z12, z13, z14, z15] s = some (.ok (.nx, [z0, z1, z2, some (.lst (e.r.map Dd.d)), some (.lst (e.t.map Ev.d)), some (.ref e.a), z6, z7, z8, z9, z10, z11', z12, z13, z14, z15]), s') ∧ Old s s' := by
  obtain ⟨x, hx⟩ := repr_lst (s := s) he.hr he.ht he.lr he.lt
  have i0 : ∀ u : S, Old s u → idxD u (.ref e.a) (.int 0) = some (.str (lns (e.r.map wr))) := fun u o => by
    rw [i_ref _ _ _ ((o.2 _ he.a).trans he.m)]
    exact at_nat _ 0
  have i1 : ∀ u : S, Old s u → idxD u (.ref e.a) (.int 1) = some (.str (lns (e.t.map wrE))) := fun u o => by
    rw [i_ref _ _ _ ((o.2 _ he.a).trans he.m)]
    exact at_nat _ 1
  obtain ⟨s1, hs1⟩ : ∃ u, u = s.new (.lst (e.r.map Dd.d)) := ⟨_, rfl⟩
  have o1 : Old s s1 := by rw [hs1]; exact Old.new _
  have n1 : s1.nx = s.nx + 1 := by rw [hs1]; rfl
  have m1 : s1.m s.nx = some (.lst (e.r.map Dd.d)) := by rw [hs1]; exact new_same _
  obtain ⟨s2, hs2⟩ : ∃ u, u = s1.new (.lst (e.t.map Ev.d)) := ⟨_, rfl⟩
  have o2 : Old s1 s2 := by rw [hs2]; exact Old.new _
  have n2 : s2.nx = s1.nx + 1 := by rw [hs2]; rfl
  have m2 : s2.m s1.nx = some (.lst (e.t.map Ev.d)) := by rw [hs2]; exact new_same _
  have m2a : s2.m s.nx = some (.lst (e.r.map Dd.d)) := (o2.2 _ (by omega)).trans m1
  have h1 := read_row_spec 9 s e.r he.hr (by have := he.lr; omega)
  have h2 := read_story_spec 8 s1 e.t he.ht (by have := he.lt; omega)
  rw [← hs1] at h1
  rw [← hs2] at h2
  have r1 : reprD s2 (.lst [.ref s.nx, .ref s1.nx]) = some (.str x) := by rw [repr_refs m2a m2, hx]
  have lr := he.lr
  have lt := he.lt
  have a1 := m_append (y := D.non) m2a (by rw [List.length_map]; unfold LIM; omega)
  have t1 := mt_ref m2a .append (by simp)
  obtain ⟨s3, hs3⟩ : ∃ u, u = s2.put s.nx (.lst (e.r.map Dd.d ++ [.non])) := ⟨_, rfl⟩
  rw [← hs3] at a1
  have o3 : Old s s3 := by rw [hs3]; exact (o1.trans o2).put _ (Nat.le_refl _)
  have n3 : s3.nx = s2.nx := by rw [hs3]; rfl
  have m3 : s3.m s1.nx = some (.lst (e.t.map Ev.d)) := by rw [hs3, put_ne _ _ _ (by omega)]; exact m2
  have a2 := m_append (y := D.non) m3 (by rw [List.length_map]; unfold LIM; omega)
  have t2 := mt_ref m3 .append (by simp)
  obtain ⟨s4, hs4⟩ : ∃ u, u = s3.put s1.nx (.lst (e.t.map Ev.d ++ [.non])) := ⟨_, rfl⟩
  rw [← hs4] at a2
  have o4 : Old s s4 := by rw [hs4]; exact o3.put _ (by omega)
  have n4 : s4.nx = s3.nx := by rw [hs4]; rfl
  obtain ⟨s5, hs5⟩ : ∃ u, u = s4.new (.lst (e.r.map Dd.d)) := ⟨_, rfl⟩
  have o5 : Old s4 s5 := by rw [hs5]; exact Old.new _
  have n5 : s5.nx = s4.nx + 1 := by rw [hs5]; rfl
  have m5 : s5.m s4.nx = some (.lst (e.r.map Dd.d)) := by rw [hs5]; exact new_same _
  obtain ⟨s6, hs6⟩ : ∃ u, u = s5.new (.lst (e.t.map Ev.d)) := ⟨_, rfl⟩
  have o6 : Old s5 s6 := by rw [hs6]; exact Old.new _
  have m6 : s6.m s5.nx = some (.lst (e.t.map Ev.d)) := by rw [hs6]; exact new_same _
  have m6a : s6.m s4.nx = some (.lst (e.r.map Dd.d)) := (o6.2 _ (by omega)).trans m5
  have h5 := read_row_spec 9 s4 e.r he.hr (by omega)
  have h6 := read_story_spec 8 s5 e.t he.ht (by omega)
  rw [← hs5] at h5
  rw [← hs6] at h6
  have r2 : reprD s6 (.lst [.ref s4.nx, .ref s5.nx]) = some (.str x) := by rw [repr_refs m6a m6, hx]
  have hx2 := hx s2
  have hx6 := hx s6
  have o45 := o4.trans o5
  refine ⟨some (.lst [.ref s.nx, .ref s1.nx]), s6, ?_, o45.trans o6⟩
  simp? (config := {decide := true}) only [l_law_2, l_law_2_2, i0 s .rfl, h1, i1 s1 o1, h2, r1, hx2, t1, a1, t2, a2, i0 s4 o4, h5, i1 s5 o45, h6, r2, hx6]
theorem law_true : ∀ ns : List Int, ns.length ≤ 63 → ∃ s', callF Pg (12 + 1) "" "law" [.scr (ns.map D.int)] ⟨fun _ => none, 0⟩ = some (.ok (.bl true), s') := by
  intro ns hn
  obtain ⟨s0, hs0⟩ : ∃ u, u = (⟨fun _ => none, 0⟩ : S).new (.lst []) := ⟨_, rfl⟩
  have m0 : s0.m 0 = some (.lst []) := by rw [hs0]; exact new_same _
  have n0 : s0.nx = 1 := by rw [hs0]; rfl
  obtain ⟨cs, hcs⟩ : ∃ cs : List Int, cs = ns.take 30 ++ [0] := ⟨_, rfl⟩
  have hcl : cs.length ≤ 31 := by rw [hcs, List.length_append, List.length_take]; simp; omega
  have hcat : kCat2 false (.lst ((ns.map D.int).take 30)) (some (.ok (.lst [.int 0]), s0)) = some (.ok (.lst (cs.map D.int)), s0) := by
    rw [kCat2_f _ _ (by rw [List.length_take]; simp; unfold LIM; omega), hcs, List.map_append, List.map_take]
    rfl
  obtain ⟨r', s1, h1, q, es, rfl, hq, g1, g2, g3, g4⟩ := for_lst (cf := callF Pg 12) (t := 2) (b := l_law_1) (xs := cs.map D.int) (r := [some (.scr (ns.map D.int)), some (.ref 0), none, none, none, none, none, none, none, none, none, none, none, none, none, none]) (s := s0)
    (fun i r' s' => ∃ (q : Sl) (es : List En), r' = some (.scr (ns.map D.int)) :: some (.ref 0) :: q ∧ q.length = 14 ∧ 0 < s'.nx ∧ s'.m 0 = some (.lst (es.map En.d)) ∧ (∀ e ∈ es, e.ok s' ∧ e.a ≠ 0) ∧ es.length = i) ⟨_, [], rfl, rfl, by omega, m0, nofun, rfl⟩ (by
    rintro i r' t x ⟨q, es, rfl, hq, g1, g2, g3, g4⟩ hi
    rw [List.getElem?_map] at hi
    cases hc : cs[i]? with
    | none => rw [hc] at hi; cases hi
    | some c =>
      rw [hc] at hi
      cases hi
      have hil := (List.getElem?_eq_some_iff.mp hc).1
      match q, hq with
      | [z2, z3, z4, z5, z6, z7, z8, z9, z10, z11, z12, z13, z14, z15], _ =>
        obtain ⟨r', s', es', k1, k2, k3, k4, k5, k6⟩ := cell_spec 0 t c es (some (.scr (ns.map D.int))) z3 z4 z5 z6 z7 z8 z9 z10 z11 z12 z13 z14 z15 g1 g2 g3 (by omega)
        exact ⟨_, s', k1, r', es', rfl, k2, k3, k4, k5, by omega⟩)
  obtain ⟨r2, s2, h2, o2, q2, rfl, hq2⟩ := for_inv (cf := callF Pg 12) (tg := .tp [3, 4, 5]) (b := l_law_2) (iv := .seq (.ref 0)) (r := some (.scr (ns.map D.int)) :: some (.ref 0) :: q) (s := s1) es.length
    (fun i r' s' => Old s1 s' ∧ ∃ q, r' = some (.scr (ns.map D.int)) :: some (.ref 0) :: q ∧ q.length = 14) ⟨.rfl, q, rfl, hq⟩ (fun i r t h _ => by
      rw [(iv_ref ((h.1.2 0 g1).trans g2)).1, List.length_map]) (by
    rintro i r' t ⟨ot, q, rfl, hq⟩ hi
    have he := g3 es[i] (List.getElem_mem hi)
    match q, hq with
    | [z2, z3, z4, z5, z6, z7, z8, z9, z10, z11, z12, z13, z14, z15], _ =>
      obtain ⟨z11', t', k1, k2⟩ := back_spec t es[i] (he.1.old ot) (some (.scr (ns.map D.int))) (some (.ref 0)) z2 z6 z7 z8 z9 z10 z11 z12 z13 z14 z15
      refine ⟨es[i].d, _, _, t', .nx, ?_, rfl, k1, .inl rfl, ot.trans k2, _, rfl, rfl⟩
      rw [(iv_ref ((ot.2 0 g1).trans g2)).2, List.getElem?_map, List.getElem?_eq_getElem hi]
      rfl)
  have ks : kSeq' (some (.ok (.ref 0), s1)) = some (.ok (.seq (.ref 0)), s1) := kSeq'_r g2
  have hl0 : kLst true (some (.ok [], (⟨fun _ => none, 0⟩ : S))) = some (.ok (.ref 0), s0) := by rw [hs0]; rfl
  have e30 : (30 : Int) = ((30 : Nat) : Int) := rfl
  have hcut : cut (ns.map D.int) none (some 30) = (ns.map D.int).take 30 := cut_to _ 30
  simp? (config := {decide := true}) only [r_law, b_law, hl0, hcut, hcat, h1, ks, h2]
  exact ⟨_, rfl⟩

end Lw
namespace Lw
open PySem L2 Fl
def topS (i : Nat) : Stmt := PySem.Challenge.pw_farline_k83_texts_written.main.body.getD i (.Pass ⟨0, 0, 0, 0⟩)
abbrev s_show_sign : Stmt := topS 7
abbrev s_read_sign : Stmt := topS 8
abbrev s_show_deed : Stmt := topS 9
abbrev s_read_number : Stmt := topS 10
abbrev s_read_deed : Stmt := topS 11
abbrev s_lines_in : Stmt := topS 12
abbrev s_show_row : Stmt := topS 13
abbrev s_read_row : Stmt := topS 14
abbrev s_show_event : Stmt := topS 15
abbrev s_read_event : Stmt := topS 16
abbrev s_show_story : Stmt := topS 17
abbrev s_read_story : Stmt := topS 18
abbrev s__law_take : Stmt := topS 21
abbrev s__law_deck : Stmt := topS 22
abbrev s__law_sign : Stmt := topS 23
abbrev s__law_deed : Stmt := topS 25
abbrev s__law_written : Stmt := topS 26
abbrev s__law_event : Stmt := topS 27
abbrev s__law_event_written : Stmt := topS 28
abbrev s_law : Stmt := topS 29
def sg : Sig := ⟨[("SIGNS", c_SIGNS), ("FIGURES", c_FIGURES)], [("", "show_sign", 1), ("", "read_sign", 1), ("", "show_deed", 1), ("", "read_number", 1), ("", "read_deed", 1), ("", "lines_in", 1), ("", "show_row", 1), ("", "read_row", 1), ("", "show_event", 1), ("", "read_event", 1), ("", "show_story", 1), ("", "read_story", 1), ("", "_law_take", 2), ("", "_law_deck", 2), ("", "_law_sign", 1), ("", "_law_deed", 2), ("", "_law_written", 1), ("", "_law_event", 1), ("", "_law_event_written", 1), ("", "law", 1)], [], [], [], [], [], [("MOST_FIGURES", 3)]⟩
theorem sc_show_sign : FnScope ["sign"] ["sign"] (defScope s_show_sign) := ⟨rfl, rfl, rfl, by decide +kernel, rfl, by decide +kernel, by decide +kernel⟩
theorem m_show_sign : mSs sg ["sign"] (defScope s_show_sign) f_show_sign.body (defBody s_show_sign) = true := by decide +kernel
theorem sc_read_sign : FnScope ["sign"] ["sign"] (defScope s_read_sign) := ⟨rfl, rfl, rfl, by decide +kernel, rfl, by decide +kernel, by decide +kernel⟩
theorem m_read_sign : mSs sg ["sign"] (defScope s_read_sign) f_read_sign.body (defBody s_read_sign) = true := by decide +kernel
theorem sc_show_deed : FnScope ["deed"] ["deed"] (defScope s_show_deed) := ⟨rfl, rfl, rfl, by decide +kernel, rfl, by decide +kernel, by decide +kernel⟩
theorem m_show_deed : mSs sg ["deed"] (defScope s_show_deed) f_show_deed.body (defBody s_show_deed) = true := by decide +kernel
theorem sc_read_number : FnScope ["word", "figure"] ["word"] (defScope s_read_number) := ⟨rfl, rfl, rfl, by decide +kernel, rfl, by decide +kernel, by decide +kernel⟩
theorem m_read_number : mSs sg ["word", "figure"] (defScope s_read_number) f_read_number.body (defBody s_read_number) = true := by decide +kernel
theorem sc_read_deed : FnScope ["text", "words"] ["text"] (defScope s_read_deed) := ⟨rfl, rfl, rfl, by decide +kernel, rfl, by decide +kernel, by decide +kernel⟩
theorem m_read_deed : mSs sg ["text", "words"] (defScope s_read_deed) f_read_deed.body (defBody s_read_deed) = true := by decide +kernel
theorem sc_lines_in : FnScope ["text", "lines"] ["text"] (defScope s_lines_in) := ⟨rfl, rfl, rfl, by decide +kernel, rfl, by decide +kernel, by decide +kernel⟩
theorem m_lines_in : mSs sg ["text", "lines"] (defScope s_lines_in) f_lines_in.body (defBody s_lines_in) = true := by decide +kernel
theorem sc_show_row : FnScope ["row", "deed"] ["row"] (defScope s_show_row) := ⟨rfl, rfl, rfl, by decide +kernel, rfl, by decide +kernel, by decide +kernel⟩
theorem m_show_row : mSs sg ["row", "deed"] (defScope s_show_row) f_show_row.body (defBody s_show_row) = true := by decide +kernel
theorem sc_read_row : FnScope ["text", "line"] ["text"] (defScope s_read_row) := ⟨rfl, rfl, rfl, by decide +kernel, rfl, by decide +kernel, by decide +kernel⟩
theorem m_read_row : mSs sg ["text", "line"] (defScope s_read_row) f_read_row.body (defBody s_read_row) = true := by decide +kernel
theorem sc_show_event : FnScope ["event"] ["event"] (defScope s_show_event) := ⟨rfl, rfl, rfl, by decide +kernel, rfl, by decide +kernel, by decide +kernel⟩
theorem m_show_event : mSs sg ["event"] (defScope s_show_event) f_show_event.body (defBody s_show_event) = true := by decide +kernel
theorem sc_read_event : FnScope ["line", "seat"] ["line"] (defScope s_read_event) := ⟨rfl, rfl, rfl, by decide +kernel, rfl, by decide +kernel, by decide +kernel⟩
theorem m_read_event : mSs sg ["line", "seat"] (defScope s_read_event) f_read_event.body (defBody s_read_event) = true := by decide +kernel
theorem sc_show_story : FnScope ["story", "event"] ["story"] (defScope s_show_story) := ⟨rfl, rfl, rfl, by decide +kernel, rfl, by decide +kernel, by decide +kernel⟩
theorem m_show_story : mSs sg ["story", "event"] (defScope s_show_story) f_show_story.body (defBody s_show_story) = true := by decide +kernel
theorem sc_read_story : FnScope ["text", "line"] ["text"] (defScope s_read_story) := ⟨rfl, rfl, rfl, by decide +kernel, rfl, by decide +kernel, by decide +kernel⟩
theorem m_read_story : mSs sg ["text", "line"] (defScope s_read_story) f_read_story.body (defBody s_read_story) = true := by decide +kernel
theorem sc__law_take : FnScope ["deck", "many", "number", "come"] ["deck", "many"] (defScope s__law_take) := ⟨rfl, rfl, rfl, by decide +kernel, rfl, by decide +kernel, by decide +kernel⟩
theorem m__law_take : mSs sg ["deck", "many", "number", "come"] (defScope s__law_take) f__law_take.body (defBody s__law_take) = true := by decide +kernel
theorem sc__law_deck : FnScope ["cell", "k"] ["cell", "k"] (defScope s__law_deck) := ⟨rfl, rfl, rfl, by decide +kernel, rfl, by decide +kernel, by decide +kernel⟩
theorem m__law_deck : mSs sg ["cell", "k"] (defScope s__law_deck) f__law_deck.body (defBody s__law_deck) = true := by decide +kernel
theorem sc__law_sign : FnScope ["deck"] ["deck"] (defScope s__law_sign) := ⟨rfl, rfl, rfl, by decide +kernel, rfl, by decide +kernel, by decide +kernel⟩
theorem m__law_sign : mSs sg ["deck"] (defScope s__law_sign) f__law_sign.body (defBody s__law_sign) = true := by decide +kernel
theorem sc__law_deed : FnScope ["deck", "place", "way"] ["deck", "place"] (defScope s__law_deed) := ⟨rfl, rfl, rfl, by decide +kernel, rfl, by decide +kernel, by decide +kernel⟩
theorem m__law_deed : mSs sg ["deck", "place", "way"] (defScope s__law_deed) f__law_deed.body (defBody s__law_deed) = true := by decide +kernel
theorem sc__law_written : FnScope ["deed"] ["deed"] (defScope s__law_written) := ⟨rfl, rfl, rfl, by decide +kernel, rfl, by decide +kernel, by decide +kernel⟩
theorem m__law_written : mSs sg ["deed"] (defScope s__law_written) f__law_written.body (defBody s__law_written) = true := by decide +kernel
theorem sc__law_event : FnScope ["deck", "seat"] ["deck"] (defScope s__law_event) := ⟨rfl, rfl, rfl, by decide +kernel, rfl, by decide +kernel, by decide +kernel⟩
theorem m__law_event : mSs sg ["deck", "seat"] (defScope s__law_event) f__law_event.body (defBody s__law_event) = true := by decide +kernel
theorem sc__law_event_written : FnScope ["event"] ["event"] (defScope s__law_event_written) := ⟨rfl, rfl, rfl, by decide +kernel, rfl, by decide +kernel, by decide +kernel⟩
theorem m__law_event_written : mSs sg ["event"] (defScope s__law_event_written) f__law_event_written.body (defBody s__law_event_written) = true := by decide +kernel
theorem sc_law : FnScope ["script", "held", "cell", "row", "story", "texts", "deck", "most", "due", "handed", "told", "found", "k", "text", "deed", "event"] ["script"] (defScope s_law) := ⟨rfl, rfl, rfl, by decide +kernel, rfl, by decide +kernel, by decide +kernel⟩
theorem m_law : mSs sg ["script", "held", "cell", "row", "story", "texts", "deck", "most", "due", "handed", "told", "found", "k", "text", "deed", "event"] (defScope s_law) f_law.body (defBody s_law) = true := by decide +kernel
theorem ft_show_sign {K : PySem.W.Frag} {h : Heap} {mg : Str → Option Value} {cls : String → Option Addr} {a : Addr} (X : K.In h) (G : h.Ns mainGlobals mg) (F : Fx K "show_sign" "show_sign" s_show_sign a) : FT sg Pg K mg cls "" "show_sign" 1 := by
  obtain ⟨oc, od, an, sl, kV, dc, pm, cd, ct, h1, h2, h3, h4⟩ := F.ex
  have F1 := fun_mk (st := s_show_sign) h2 h3 h4
  exact ⟨⟨a, _, ["sign"], ["sign"], s_show_sign, f_show_sign, .inl ⟨rfl, PySem.W.mg_of X G h1⟩, ⟨_, _, F1⟩, F1.binds (ps := ["sign"]) (fun _ _ _ _ _ _ us hl => match us, hl with | [_], _ => rfl), sc_show_sign, rfl, pg_show_sign, rfl, rfl, by decide, m_show_sign⟩⟩
theorem ft_read_sign {K : PySem.W.Frag} {h : Heap} {mg : Str → Option Value} {cls : String → Option Addr} {a : Addr} (X : K.In h) (G : h.Ns mainGlobals mg) (F : Fx K "read_sign" "read_sign" s_read_sign a) : FT sg Pg K mg cls "" "read_sign" 1 := by
  obtain ⟨oc, od, an, sl, kV, dc, pm, cd, ct, h1, h2, h3, h4⟩ := F.ex
  have F1 := fun_mk (st := s_read_sign) h2 h3 h4
  exact ⟨⟨a, _, ["sign"], ["sign"], s_read_sign, f_read_sign, .inl ⟨rfl, PySem.W.mg_of X G h1⟩, ⟨_, _, F1⟩, F1.binds (ps := ["sign"]) (fun _ _ _ _ _ _ us hl => match us, hl with | [_], _ => rfl), sc_read_sign, rfl, pg_read_sign, rfl, rfl, by decide, m_read_sign⟩⟩
theorem ft_show_deed {K : PySem.W.Frag} {h : Heap} {mg : Str → Option Value} {cls : String → Option Addr} {a : Addr} (X : K.In h) (G : h.Ns mainGlobals mg) (F : Fx K "show_deed" "show_deed" s_show_deed a) : FT sg Pg K mg cls "" "show_deed" 1 := by
  obtain ⟨oc, od, an, sl, kV, dc, pm, cd, ct, h1, h2, h3, h4⟩ := F.ex
  have F1 := fun_mk (st := s_show_deed) h2 h3 h4
  exact ⟨⟨a, _, ["deed"], ["deed"], s_show_deed, f_show_deed, .inl ⟨rfl, PySem.W.mg_of X G h1⟩, ⟨_, _, F1⟩, F1.binds (ps := ["deed"]) (fun _ _ _ _ _ _ us hl => match us, hl with | [_], _ => rfl), sc_show_deed, rfl, pg_show_deed, rfl, rfl, by decide, m_show_deed⟩⟩
theorem ft_read_number {K : PySem.W.Frag} {h : Heap} {mg : Str → Option Value} {cls : String → Option Addr} {a : Addr} (X : K.In h) (G : h.Ns mainGlobals mg) (F : Fx K "read_number" "read_number" s_read_number a) : FT sg Pg K mg cls "" "read_number" 1 := by
  obtain ⟨oc, od, an, sl, kV, dc, pm, cd, ct, h1, h2, h3, h4⟩ := F.ex
  have F1 := fun_mk (st := s_read_number) h2 h3 h4
  exact ⟨⟨a, _, ["word"], ["word", "figure"], s_read_number, f_read_number, .inl ⟨rfl, PySem.W.mg_of X G h1⟩, ⟨_, _, F1⟩, F1.binds (ps := ["word"]) (fun _ _ _ _ _ _ us hl => match us, hl with | [_], _ => rfl), sc_read_number, rfl, pg_read_number, rfl, rfl, by decide, m_read_number⟩⟩
theorem ft_read_deed {K : PySem.W.Frag} {h : Heap} {mg : Str → Option Value} {cls : String → Option Addr} {a : Addr} (X : K.In h) (G : h.Ns mainGlobals mg) (F : Fx K "read_deed" "read_deed" s_read_deed a) : FT sg Pg K mg cls "" "read_deed" 1 := by
  obtain ⟨oc, od, an, sl, kV, dc, pm, cd, ct, h1, h2, h3, h4⟩ := F.ex
  have F1 := fun_mk (st := s_read_deed) h2 h3 h4
  exact ⟨⟨a, _, ["text"], ["text", "words"], s_read_deed, f_read_deed, .inl ⟨rfl, PySem.W.mg_of X G h1⟩, ⟨_, _, F1⟩, F1.binds (ps := ["text"]) (fun _ _ _ _ _ _ us hl => match us, hl with | [_], _ => rfl), sc_read_deed, rfl, pg_read_deed, rfl, rfl, by decide, m_read_deed⟩⟩
theorem ft_lines_in {K : PySem.W.Frag} {h : Heap} {mg : Str → Option Value} {cls : String → Option Addr} {a : Addr} (X : K.In h) (G : h.Ns mainGlobals mg) (F : Fx K "lines_in" "lines_in" s_lines_in a) : FT sg Pg K mg cls "" "lines_in" 1 := by
  obtain ⟨oc, od, an, sl, kV, dc, pm, cd, ct, h1, h2, h3, h4⟩ := F.ex
  have F1 := fun_mk (st := s_lines_in) h2 h3 h4
  exact ⟨⟨a, _, ["text"], ["text", "lines"], s_lines_in, f_lines_in, .inl ⟨rfl, PySem.W.mg_of X G h1⟩, ⟨_, _, F1⟩, F1.binds (ps := ["text"]) (fun _ _ _ _ _ _ us hl => match us, hl with | [_], _ => rfl), sc_lines_in, rfl, pg_lines_in, rfl, rfl, by decide, m_lines_in⟩⟩
theorem ft_show_row {K : PySem.W.Frag} {h : Heap} {mg : Str → Option Value} {cls : String → Option Addr} {a : Addr} (X : K.In h) (G : h.Ns mainGlobals mg) (F : Fx K "show_row" "show_row" s_show_row a) : FT sg Pg K mg cls "" "show_row" 1 := by
  obtain ⟨oc, od, an, sl, kV, dc, pm, cd, ct, h1, h2, h3, h4⟩ := F.ex
  have F1 := fun_mk (st := s_show_row) h2 h3 h4
  exact ⟨⟨a, _, ["row"], ["row", "deed"], s_show_row, f_show_row, .inl ⟨rfl, PySem.W.mg_of X G h1⟩, ⟨_, _, F1⟩, F1.binds (ps := ["row"]) (fun _ _ _ _ _ _ us hl => match us, hl with | [_], _ => rfl), sc_show_row, rfl, pg_show_row, rfl, rfl, by decide, m_show_row⟩⟩
theorem ft_read_row {K : PySem.W.Frag} {h : Heap} {mg : Str → Option Value} {cls : String → Option Addr} {a : Addr} (X : K.In h) (G : h.Ns mainGlobals mg) (F : Fx K "read_row" "read_row" s_read_row a) : FT sg Pg K mg cls "" "read_row" 1 := by
  obtain ⟨oc, od, an, sl, kV, dc, pm, cd, ct, h1, h2, h3, h4⟩ := F.ex
  have F1 := fun_mk (st := s_read_row) h2 h3 h4
  exact ⟨⟨a, _, ["text"], ["text", "line"], s_read_row, f_read_row, .inl ⟨rfl, PySem.W.mg_of X G h1⟩, ⟨_, _, F1⟩, F1.binds (ps := ["text"]) (fun _ _ _ _ _ _ us hl => match us, hl with | [_], _ => rfl), sc_read_row, rfl, pg_read_row, rfl, rfl, by decide, m_read_row⟩⟩
theorem ft_show_event {K : PySem.W.Frag} {h : Heap} {mg : Str → Option Value} {cls : String → Option Addr} {a : Addr} (X : K.In h) (G : h.Ns mainGlobals mg) (F : Fx K "show_event" "show_event" s_show_event a) : FT sg Pg K mg cls "" "show_event" 1 := by
  obtain ⟨oc, od, an, sl, kV, dc, pm, cd, ct, h1, h2, h3, h4⟩ := F.ex
  have F1 := fun_mk (st := s_show_event) h2 h3 h4
  exact ⟨⟨a, _, ["event"], ["event"], s_show_event, f_show_event, .inl ⟨rfl, PySem.W.mg_of X G h1⟩, ⟨_, _, F1⟩, F1.binds (ps := ["event"]) (fun _ _ _ _ _ _ us hl => match us, hl with | [_], _ => rfl), sc_show_event, rfl, pg_show_event, rfl, rfl, by decide, m_show_event⟩⟩
theorem ft_read_event {K : PySem.W.Frag} {h : Heap} {mg : Str → Option Value} {cls : String → Option Addr} {a : Addr} (X : K.In h) (G : h.Ns mainGlobals mg) (F : Fx K "read_event" "read_event" s_read_event a) : FT sg Pg K mg cls "" "read_event" 1 := by
  obtain ⟨oc, od, an, sl, kV, dc, pm, cd, ct, h1, h2, h3, h4⟩ := F.ex
  have F1 := fun_mk (st := s_read_event) h2 h3 h4
  exact ⟨⟨a, _, ["line"], ["line", "seat"], s_read_event, f_read_event, .inl ⟨rfl, PySem.W.mg_of X G h1⟩, ⟨_, _, F1⟩, F1.binds (ps := ["line"]) (fun _ _ _ _ _ _ us hl => match us, hl with | [_], _ => rfl), sc_read_event, rfl, pg_read_event, rfl, rfl, by decide, m_read_event⟩⟩
theorem ft_show_story {K : PySem.W.Frag} {h : Heap} {mg : Str → Option Value} {cls : String → Option Addr} {a : Addr} (X : K.In h) (G : h.Ns mainGlobals mg) (F : Fx K "show_story" "show_story" s_show_story a) : FT sg Pg K mg cls "" "show_story" 1 := by
  obtain ⟨oc, od, an, sl, kV, dc, pm, cd, ct, h1, h2, h3, h4⟩ := F.ex
  have F1 := fun_mk (st := s_show_story) h2 h3 h4
  exact ⟨⟨a, _, ["story"], ["story", "event"], s_show_story, f_show_story, .inl ⟨rfl, PySem.W.mg_of X G h1⟩, ⟨_, _, F1⟩, F1.binds (ps := ["story"]) (fun _ _ _ _ _ _ us hl => match us, hl with | [_], _ => rfl), sc_show_story, rfl, pg_show_story, rfl, rfl, by decide, m_show_story⟩⟩
theorem ft_read_story {K : PySem.W.Frag} {h : Heap} {mg : Str → Option Value} {cls : String → Option Addr} {a : Addr} (X : K.In h) (G : h.Ns mainGlobals mg) (F : Fx K "read_story" "read_story" s_read_story a) : FT sg Pg K mg cls "" "read_story" 1 := by
  obtain ⟨oc, od, an, sl, kV, dc, pm, cd, ct, h1, h2, h3, h4⟩ := F.ex
  have F1 := fun_mk (st := s_read_story) h2 h3 h4
  exact ⟨⟨a, _, ["text"], ["text", "line"], s_read_story, f_read_story, .inl ⟨rfl, PySem.W.mg_of X G h1⟩, ⟨_, _, F1⟩, F1.binds (ps := ["text"]) (fun _ _ _ _ _ _ us hl => match us, hl with | [_], _ => rfl), sc_read_story, rfl, pg_read_story, rfl, rfl, by decide, m_read_story⟩⟩
theorem ft__law_take {K : PySem.W.Frag} {h : Heap} {mg : Str → Option Value} {cls : String → Option Addr} {a : Addr} (X : K.In h) (G : h.Ns mainGlobals mg) (F : Fx K "_law_take" "_law_take" s__law_take a) : FT sg Pg K mg cls "" "_law_take" 2 := by
  obtain ⟨oc, od, an, sl, kV, dc, pm, cd, ct, h1, h2, h3, h4⟩ := F.ex
  have F1 := fun_mk (st := s__law_take) h2 h3 h4
  exact ⟨⟨a, _, ["deck", "many"], ["deck", "many", "number", "come"], s__law_take, f__law_take, .inl ⟨rfl, PySem.W.mg_of X G h1⟩, ⟨_, _, F1⟩, F1.binds (ps := ["deck", "many"]) (fun _ _ _ _ _ _ us hl => match us, hl with | [_, _], _ => rfl), sc__law_take, rfl, pg__law_take, rfl, rfl, by decide, m__law_take⟩⟩
theorem ft__law_deck {K : PySem.W.Frag} {h : Heap} {mg : Str → Option Value} {cls : String → Option Addr} {a : Addr} (X : K.In h) (G : h.Ns mainGlobals mg) (F : Fx K "_law_deck" "_law_deck" s__law_deck a) : FT sg Pg K mg cls "" "_law_deck" 2 := by
  obtain ⟨oc, od, an, sl, kV, dc, pm, cd, ct, h1, h2, h3, h4⟩ := F.ex
  have F1 := fun_mk (st := s__law_deck) h2 h3 h4
  exact ⟨⟨a, _, ["cell", "k"], ["cell", "k"], s__law_deck, f__law_deck, .inl ⟨rfl, PySem.W.mg_of X G h1⟩, ⟨_, _, F1⟩, F1.binds (ps := ["cell", "k"]) (fun _ _ _ _ _ _ us hl => match us, hl with | [_, _], _ => rfl), sc__law_deck, rfl, pg__law_deck, rfl, rfl, by decide, m__law_deck⟩⟩
theorem ft__law_sign {K : PySem.W.Frag} {h : Heap} {mg : Str → Option Value} {cls : String → Option Addr} {a : Addr} (X : K.In h) (G : h.Ns mainGlobals mg) (F : Fx K "_law_sign" "_law_sign" s__law_sign a) : FT sg Pg K mg cls "" "_law_sign" 1 := by
  obtain ⟨oc, od, an, sl, kV, dc, pm, cd, ct, h1, h2, h3, h4⟩ := F.ex
  have F1 := fun_mk (st := s__law_sign) h2 h3 h4
  exact ⟨⟨a, _, ["deck"], ["deck"], s__law_sign, f__law_sign, .inl ⟨rfl, PySem.W.mg_of X G h1⟩, ⟨_, _, F1⟩, F1.binds (ps := ["deck"]) (fun _ _ _ _ _ _ us hl => match us, hl with | [_], _ => rfl), sc__law_sign, rfl, pg__law_sign, rfl, rfl, by decide, m__law_sign⟩⟩
theorem ft__law_deed {K : PySem.W.Frag} {h : Heap} {mg : Str → Option Value} {cls : String → Option Addr} {a : Addr} (X : K.In h) (G : h.Ns mainGlobals mg) (F : Fx K "_law_deed" "_law_deed" s__law_deed a) : FT sg Pg K mg cls "" "_law_deed" 2 := by
  obtain ⟨oc, od, an, sl, kV, dc, pm, cd, ct, h1, h2, h3, h4⟩ := F.ex
  have F1 := fun_mk (st := s__law_deed) h2 h3 h4
  exact ⟨⟨a, _, ["deck", "place"], ["deck", "place", "way"], s__law_deed, f__law_deed, .inl ⟨rfl, PySem.W.mg_of X G h1⟩, ⟨_, _, F1⟩, F1.binds (ps := ["deck", "place"]) (fun _ _ _ _ _ _ us hl => match us, hl with | [_, _], _ => rfl), sc__law_deed, rfl, pg__law_deed, rfl, rfl, by decide, m__law_deed⟩⟩
theorem ft__law_written {K : PySem.W.Frag} {h : Heap} {mg : Str → Option Value} {cls : String → Option Addr} {a : Addr} (X : K.In h) (G : h.Ns mainGlobals mg) (F : Fx K "_law_written" "_law_written" s__law_written a) : FT sg Pg K mg cls "" "_law_written" 1 := by
  obtain ⟨oc, od, an, sl, kV, dc, pm, cd, ct, h1, h2, h3, h4⟩ := F.ex
  have F1 := fun_mk (st := s__law_written) h2 h3 h4
  exact ⟨⟨a, _, ["deed"], ["deed"], s__law_written, f__law_written, .inl ⟨rfl, PySem.W.mg_of X G h1⟩, ⟨_, _, F1⟩, F1.binds (ps := ["deed"]) (fun _ _ _ _ _ _ us hl => match us, hl with | [_], _ => rfl), sc__law_written, rfl, pg__law_written, rfl, rfl, by decide, m__law_written⟩⟩
theorem ft__law_event {K : PySem.W.Frag} {h : Heap} {mg : Str → Option Value} {cls : String → Option Addr} {a : Addr} (X : K.In h) (G : h.Ns mainGlobals mg) (F : Fx K "_law_event" "_law_event" s__law_event a) : FT sg Pg K mg cls "" "_law_event" 1 := by
  obtain ⟨oc, od, an, sl, kV, dc, pm, cd, ct, h1, h2, h3, h4⟩ := F.ex
  have F1 := fun_mk (st := s__law_event) h2 h3 h4
  exact ⟨⟨a, _, ["deck"], ["deck", "seat"], s__law_event, f__law_event, .inl ⟨rfl, PySem.W.mg_of X G h1⟩, ⟨_, _, F1⟩, F1.binds (ps := ["deck"]) (fun _ _ _ _ _ _ us hl => match us, hl with | [_], _ => rfl), sc__law_event, rfl, pg__law_event, rfl, rfl, by decide, m__law_event⟩⟩
theorem ft__law_event_written {K : PySem.W.Frag} {h : Heap} {mg : Str → Option Value} {cls : String → Option Addr} {a : Addr} (X : K.In h) (G : h.Ns mainGlobals mg) (F : Fx K "_law_event_written" "_law_event_written" s__law_event_written a) : FT sg Pg K mg cls "" "_law_event_written" 1 := by
  obtain ⟨oc, od, an, sl, kV, dc, pm, cd, ct, h1, h2, h3, h4⟩ := F.ex
  have F1 := fun_mk (st := s__law_event_written) h2 h3 h4
  exact ⟨⟨a, _, ["event"], ["event"], s__law_event_written, f__law_event_written, .inl ⟨rfl, PySem.W.mg_of X G h1⟩, ⟨_, _, F1⟩, F1.binds (ps := ["event"]) (fun _ _ _ _ _ _ us hl => match us, hl with | [_], _ => rfl), sc__law_event_written, rfl, pg__law_event_written, rfl, rfl, by decide, m__law_event_written⟩⟩
theorem ft_law {K : PySem.W.Frag} {h : Heap} {mg : Str → Option Value} {cls : String → Option Addr} {a : Addr} (X : K.In h) (G : h.Ns mainGlobals mg) (F : Fx K "law" "law" s_law a) : FT sg Pg K mg cls "" "law" 1 := by
  obtain ⟨oc, od, an, sl, kV, dc, pm, cd, ct, h1, h2, h3, h4⟩ := F.ex
  have F1 := fun_mk (st := s_law) h2 h3 h4
  exact ⟨⟨a, _, ["script"], ["script", "held", "cell", "row", "story", "texts", "deck", "most", "due", "handed", "told", "found", "k", "text", "deed", "event"], s_law, f_law, .inl ⟨rfl, PySem.W.mg_of X G h1⟩, ⟨_, _, F1⟩, F1.binds (ps := ["script"]) (fun _ _ _ _ _ _ us hl => match us, hl with | [_], _ => rfl), sc_law, rfl, pg_law, rfl, rfl, by decide, m_law⟩⟩
theorem xf_mk {K : PySem.W.Frag} {mg : Str → Option Value} : XFacts sg.ec sg.et K mg := ⟨fun t h => (by cases h), fun h => (by cases h), fun c h => (by cases h), fun c h => (by cases h)⟩
theorem tf_mk {w : World} {K : PySem.W.Frag} {h : Heap} {mg : Str → Option Value} {fa a0 a1 a2 a3 a4 a5 a6 a7 a8 a9 a10 a11 a12 a13 a14 a15 a16 a17 a18 a19 : Addr} (X : K.In h) (G : h.Ns mainGlobals mg) (hfa : mg "law" = some (.ref fa)) (F0 : Fx K "show_sign" "show_sign" s_show_sign a0) (F1 : Fx K "read_sign" "read_sign" s_read_sign a1) (F2 : Fx K "show_deed" "show_deed" s_show_deed a2) (F3 : Fx K "read_number" "read_number" s_read_number a3) (F4 : Fx K "read_deed" "read_deed" s_read_deed a4) (F5 : Fx K "lines_in" "lines_in" s_lines_in a5) (F6 : Fx K "show_row" "show_row" s_show_row a6) (F7 : Fx K "read_row" "read_row" s_read_row a7) (F8 : Fx K "show_event" "show_event" s_show_event a8) (F9 : Fx K "read_event" "read_event" s_read_event a9) (F10 : Fx K "show_story" "show_story" s_show_story a10) (F11 : Fx K "read_story" "read_story" s_read_story a11) (F12 : Fx K "_law_take" "_law_take" s__law_take a12) (F13 : Fx K "_law_deck" "_law_deck" s__law_deck a13) (F14 : Fx K "_law_sign" "_law_sign" s__law_sign a14) (F15 : Fx K "_law_deed" "_law_deed" s__law_deed a15) (F16 : Fx K "_law_written" "_law_written" s__law_written a16) (F17 : Fx K "_law_event" "_law_event" s__law_event a17) (F18 : Fx K "_law_event_written" "_law_event_written" s__law_event_written a18) (F19 : Fx K "law" "law" s_law a19)
    (hb : ∀ x ∈ bnames, PySem.W.nsIn K mainGlobals (Str.ofString x) = some none) {t0 : Tok} (g0 : PySem.W.nsIn K mainGlobals "SIGNS" = some (some (.str ⟨c_SIGNS.toArray⟩ t0))) {t1 : Tok} (g1 : PySem.W.nsIn K mainGlobals "FIGURES" = some (some (.str ⟨c_FIGURES.toArray⟩ t1))) {u0 : Tok} (j0 : PySem.W.nsIn K mainGlobals "MOST_FIGURES" = some (some (.int 3 u0))) (hxf : XFacts sg.ec sg.et K mg) : ∃ cls, TF sg Pg w K mg cls fa := by
  refine ⟨fun c => List.lookup c [], fun c f n hf => ?_, fun f v hf => ?_, fun f v hf => ?_, fun x hx => PySem.W.mg_none_of X G (hb x hx), fun f v hf => ?_, pg_of (by decide +kernel), fun c C hc => ?_, fun c hc => ?_, hxf, ?_⟩
  · simp only [sg, List.mem_cons, Prod.mk.injEq, List.not_mem_nil, or_false] at hf
    rcases hf with ⟨rfl, rfl, rfl⟩ | ⟨rfl, rfl, rfl⟩ | ⟨rfl, rfl, rfl⟩ | ⟨rfl, rfl, rfl⟩ | ⟨rfl, rfl, rfl⟩ | ⟨rfl, rfl, rfl⟩ | ⟨rfl, rfl, rfl⟩ | ⟨rfl, rfl, rfl⟩ | ⟨rfl, rfl, rfl⟩ | ⟨rfl, rfl, rfl⟩ | ⟨rfl, rfl, rfl⟩ | ⟨rfl, rfl, rfl⟩ | ⟨rfl, rfl, rfl⟩ | ⟨rfl, rfl, rfl⟩ | ⟨rfl, rfl, rfl⟩ | ⟨rfl, rfl, rfl⟩ | ⟨rfl, rfl, rfl⟩ | ⟨rfl, rfl, rfl⟩ | ⟨rfl, rfl, rfl⟩ | ⟨rfl, rfl, rfl⟩
    · exact ft_show_sign X G F0
    · exact ft_read_sign X G F1
    · exact ft_show_deed X G F2
    · exact ft_read_number X G F3
    · exact ft_read_deed X G F4
    · exact ft_lines_in X G F5
    · exact ft_show_row X G F6
    · exact ft_read_row X G F7
    · exact ft_show_event X G F8
    · exact ft_read_event X G F9
    · exact ft_show_story X G F10
    · exact ft_read_story X G F11
    · exact ft__law_take X G F12
    · exact ft__law_deck X G F13
    · exact ft__law_sign X G F14
    · exact ft__law_deed X G F15
    · exact ft__law_written X G F16
    · exact ft__law_event X G F17
    · exact ft__law_event_written X G F18
    · exact ft_law X G F19
  · simp only [sg, List.mem_cons, Prod.mk.injEq, List.not_mem_nil, or_false] at hf
    rcases hf with ⟨rfl, rfl⟩ | ⟨rfl, rfl⟩
    · exact ⟨_, PySem.W.mg_of X G g0⟩
    · exact ⟨_, PySem.W.mg_of X G g1⟩
  · simp only [sg, List.mem_cons, Prod.mk.injEq, List.not_mem_nil, or_false] at hf
    rcases hf with ⟨rfl, rfl⟩
    · exact ⟨_, PySem.W.mg_of X G j0⟩
  · simp [sg] at hf
  · cases hc
  · cases hc
  · obtain ⟨oc, od, an, sl, kV, dc, pm, cd, ct, h1, h2, h3, h4⟩ := F19.ex
    have e := hfa.symm.trans (PySem.W.mg_of X G h1)
    cases e
    exact ⟨_, ["script", "held", "cell", "row", "story", "texts", "deck", "most", "due", "handed", "told", "found", "k", "text", "deed", "event"], s_law, f_law, fun_mk (st := s_law) h2 h3 h4, sc_law, pg_law, rfl, rfl, by decide, m_law, fun u => rfl⟩
end Lw
open PySem PySem.W PyProof.Rows
set_option maxRecDepth 100000 in
set_option maxHeartbeats 0 in
theorem PySem.Challenge.cw_farline_k83_texts_written_holds : PySem.Challenge.rw_farline_k83_texts_written.Holds := by
  w_on; o_law; k_head; (case hw => w_witness2)
  k_fill
  refine Fl.walk_law (l := PySem.Challenge.rw_farline_k83_texts_written) Lw.sg Lw.Pg 12 (by decide) rfl rfl (fun w h Y => PySem.W.kIn_of Y) ?T Lw.law_true
  case T =>
    intro w mg fa h KX G hmg
    refine' Fl.fx_k (f := "show_sign") (g := "show_sign") (st := Lw.s_show_sign) KX ?a ?l ?c ?k (fun a0 F0 => ?_); (case a => k_is); (case l => k_is); (case c => k_is); (case k => k_is)
    refine' Fl.fx_k (f := "read_sign") (g := "read_sign") (st := Lw.s_read_sign) KX ?a ?l ?c ?k (fun a1 F1 => ?_); (case a => k_is); (case l => k_is); (case c => k_is); (case k => k_is)
    refine' Fl.fx_k (f := "show_deed") (g := "show_deed") (st := Lw.s_show_deed) KX ?a ?l ?c ?k (fun a2 F2 => ?_); (case a => k_is); (case l => k_is); (case c => k_is); (case k => k_is)
    refine' Fl.fx_k (f := "read_number") (g := "read_number") (st := Lw.s_read_number) KX ?a ?l ?c ?k (fun a3 F3 => ?_); (case a => k_is); (case l => k_is); (case c => k_is); (case k => k_is)
    refine' Fl.fx_k (f := "read_deed") (g := "read_deed") (st := Lw.s_read_deed) KX ?a ?l ?c ?k (fun a4 F4 => ?_); (case a => k_is); (case l => k_is); (case c => k_is); (case k => k_is)
    refine' Fl.fx_k (f := "lines_in") (g := "lines_in") (st := Lw.s_lines_in) KX ?a ?l ?c ?k (fun a5 F5 => ?_); (case a => k_is); (case l => k_is); (case c => k_is); (case k => k_is)
    refine' Fl.fx_k (f := "show_row") (g := "show_row") (st := Lw.s_show_row) KX ?a ?l ?c ?k (fun a6 F6 => ?_); (case a => k_is); (case l => k_is); (case c => k_is); (case k => k_is)
    refine' Fl.fx_k (f := "read_row") (g := "read_row") (st := Lw.s_read_row) KX ?a ?l ?c ?k (fun a7 F7 => ?_); (case a => k_is); (case l => k_is); (case c => k_is); (case k => k_is)
    refine' Fl.fx_k (f := "show_event") (g := "show_event") (st := Lw.s_show_event) KX ?a ?l ?c ?k (fun a8 F8 => ?_); (case a => k_is); (case l => k_is); (case c => k_is); (case k => k_is)
    refine' Fl.fx_k (f := "read_event") (g := "read_event") (st := Lw.s_read_event) KX ?a ?l ?c ?k (fun a9 F9 => ?_); (case a => k_is); (case l => k_is); (case c => k_is); (case k => k_is)
    refine' Fl.fx_k (f := "show_story") (g := "show_story") (st := Lw.s_show_story) KX ?a ?l ?c ?k (fun a10 F10 => ?_); (case a => k_is); (case l => k_is); (case c => k_is); (case k => k_is)
    refine' Fl.fx_k (f := "read_story") (g := "read_story") (st := Lw.s_read_story) KX ?a ?l ?c ?k (fun a11 F11 => ?_); (case a => k_is); (case l => k_is); (case c => k_is); (case k => k_is)
    refine' Fl.fx_k (f := "_law_take") (g := "_law_take") (st := Lw.s__law_take) KX ?a ?l ?c ?k (fun a12 F12 => ?_); (case a => k_is); (case l => k_is); (case c => k_is); (case k => k_is)
    refine' Fl.fx_k (f := "_law_deck") (g := "_law_deck") (st := Lw.s__law_deck) KX ?a ?l ?c ?k (fun a13 F13 => ?_); (case a => k_is); (case l => k_is); (case c => k_is); (case k => k_is)
    refine' Fl.fx_k (f := "_law_sign") (g := "_law_sign") (st := Lw.s__law_sign) KX ?a ?l ?c ?k (fun a14 F14 => ?_); (case a => k_is); (case l => k_is); (case c => k_is); (case k => k_is)
    refine' Fl.fx_k (f := "_law_deed") (g := "_law_deed") (st := Lw.s__law_deed) KX ?a ?l ?c ?k (fun a15 F15 => ?_); (case a => k_is); (case l => k_is); (case c => k_is); (case k => k_is)
    refine' Fl.fx_k (f := "_law_written") (g := "_law_written") (st := Lw.s__law_written) KX ?a ?l ?c ?k (fun a16 F16 => ?_); (case a => k_is); (case l => k_is); (case c => k_is); (case k => k_is)
    refine' Fl.fx_k (f := "_law_event") (g := "_law_event") (st := Lw.s__law_event) KX ?a ?l ?c ?k (fun a17 F17 => ?_); (case a => k_is); (case l => k_is); (case c => k_is); (case k => k_is)
    refine' Fl.fx_k (f := "_law_event_written") (g := "_law_event_written") (st := Lw.s__law_event_written) KX ?a ?l ?c ?k (fun a18 F18 => ?_); (case a => k_is); (case l => k_is); (case c => k_is); (case k => k_is)
    refine' Fl.fx_k (f := "law") (g := "law") (st := Lw.s_law) KX ?a ?l ?c ?k (fun a19 F19 => ?_); (case a => k_is); (case l => k_is); (case c => k_is); (case k => k_is)
    refine' Fl.gs_k (f := "SIGNS") (v := ⟨Lw.c_SIGNS.toArray⟩) KX ?a (fun t0 g0 => ?_); (case a => k_is)
    refine' Fl.gs_k (f := "FIGURES") (v := ⟨Lw.c_FIGURES.toArray⟩) KX ?a (fun t1 g1 => ?_); (case a => k_is)
    refine' Fl.gi_k (f := "MOST_FIGURES") (v := 3) KX ?a (fun u0 j0 => ?_); (case a => k_is)
    refine Lw.tf_mk KX G hmg  F0 F1 F2 F3 F4 F5 F6 F7 F8 F9 F10 F11 F12 F13 F14 F15 F16 F17 F18 F19  ?_ g0 g1 j0  Lw.xf_mk
    intro x hx
    simp only [Fl.bnames, List.mem_cons, List.not_mem_nil, or_false] at hx
    rcases hx with rfl | rfl | rfl | rfl | rfl | rfl | rfl | rfl | rfl | rfl | rfl | rfl | rfl | rfl | rfl | rfl | rfl | rfl
    all_goals k_is
