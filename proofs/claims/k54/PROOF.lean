import PyProof.Rows.All
import Wide.All
import OpenK.AllK
import Wide.FinOn
import HandS.Codes
import HandS.Conv
import HandS.Deep
import HandS.Dict
import HandS.ExcIs
import HandS.ExcValue
import HandS.FStr
import HandS.Flow
import HandS.Flt
import HandS.ForMost
import HandS.IsInst
import HandS.Iter
import HandS.List
import HandS.ListItems
import HandS.More
import HandS.RaiseMore
import HandS.ReplaceDef
import HandS.ReplaceList
import HandS.ReplaceLit
import HandS.SetFor
import HandS.SetKeys
import HandS.SortRule
import HandS.Strs
import HandS.Style
import HandS.Text
import HandS.TryMany
import HandS.TryOnly
import HandS.TupAny
import HandS.TupLe
import HandS.Wide
import HandS.WordsExc
import KE.DataMinMax
import KE.GoesEnum
import KE.GoesMore
import KE.GoesZip
import KE.IntText
import KE.KDictDisplayH
import KE.KDictPairs
import KE.KDictZip
import KE.KItemsList
import KE.KeyNested
import KE.LtData
import PyProof.CollectStr
import PyProof.EqKinds
import PyProof.FactsAll.dict
import PyProof.FactsAll.subtypes
import PyProof.ListStr
import PyProof.MeetsStr3
import PyProof.NeKinds
import PyProof.P3In
import PyProof.ReprLen
import PyProof.ReprReads
import PyProof.ReprRoads
import PyProof.Rows.FactsT3
import PyProof.Rows.ReprOcc
import PyProof.Rows.SetFrom
import PyProof.Rows.SortStr
import PyProof.SetRoads
import PyProof.StrBlock2
import PyProof.StrLawsIn
import PyProof.TupleOfStr
import Wide.Txt
import PySem.Challenge.RW_farline_k54_whole_fewest_there_and_back
set_option Elab.async false
set_option linter.all false
set_option maxRecDepth 100000
set_option maxHeartbeats 4000000
namespace Fl
inductive D where
  | non
  | bl (b : Bool)
  | int (i : Int)
  | str (x : List Nat)
  | tup (xs : List D)
  | lst (xs : List D)
  | ref (n : Nat)
  | scr (xs : List D)
  deriving Inhabited
/-- a dict's key -/
inductive DK where
  | i (i : Int)
  | s (x : List Nat)
  deriving DecidableEq
inductive Ob where
  | lst (xs : List D)
  | ins (c : String) (fs : List (String × D))
  | dic (kvs : List (DK × D))
  | exc (c : String)
  | dit (kvs : List (List DK × D))
  | dnn (ks : List (List (List DK)))
structure S where
  m : Nat → Option Ob
  nx : Nat
noncomputable def S.put (s : S) (n : Nat) (o : Ob) : S := ⟨fun k => if k = n then some o else s.m k, s.nx⟩
noncomputable def S.new (s : S) (o : Ob) : S := ⟨fun k => if k = s.nx then some o else s.m k, s.nx + 1⟩
noncomputable def S.kill (s : S) (n : Nat) : S := ⟨fun k => if k = n then none else s.m k, s.nx⟩
inductive Rs (α : Type) where
  | ok (a : α)
  | er (c : String)
noncomputable abbrev R (α : Type) := Option (Rs α × S)
noncomputable def bnd {α β : Type} (x : R α) (f : α → S → R β) : R β :=
  match x with
  | some (.ok a, s) => f a s
  | some (.er c, s) => some (.er c, s)
  | none => none
noncomputable def lft {α : Type} (o : Option α) (s : S) : R α :=
  match o with
  | some a => some (.ok a, s)
  | none => none
theorem bnd_ok {α β : Type} (a : α) (s : S) (f : α → S → R β) : bnd (some (.ok a, s)) f = f a s := rfl
theorem lft_some {α : Type} (a : α) (s : S) : lft (some a) s = some (.ok a, s) := rfl
theorem bnd_inv {α β : Type} {x : R α} {f : α → S → R β} {b : β} {s' : S} (h : bnd x f = some (.ok b, s')) : ∃ a s, x = some (.ok a, s) ∧ f a s = some (.ok b, s') := by
  unfold bnd at h
  split at h
  · exact ⟨_, _, rfl, h⟩
  · cases h
  · cases h
theorem lft_inv {α : Type} {o : Option α} {s s' : S} {a : α} (h : lft o s = some (.ok a, s')) : o = some a ∧ s' = s := by
  unfold lft at h
  split at h
  · cases h
    exact ⟨rfl, rfl⟩
  · cases h
noncomputable def LIM : Nat := 16777216
noncomputable def ccont (s : S) : D → Option (List D)
  | .lst xs => some xs
  | .ref n => match s.m n with
    | some (.lst xs) => some xs
    | _ => none
  | _ => none
noncomputable def lcont (s : S) : D → Option (List D)
  | .lst xs => some xs
  | .scr xs => some xs
  | .ref n => match s.m n with
    | some (.lst xs) => some xs
    | _ => none
  | _ => none
noncomputable def cont (s : S) : D → Option (List D)
  | .tup xs => some xs
  | d => lcont s d
/-- dicts -/
noncomputable def keyOf : D → Option DK
  | .int i => some (.i i)
  | .str x => some (.s x)
  | _ => none
noncomputable def dlook {κ : Type} [DecidableEq κ] (kvs : List (κ × D)) (k : κ) : Option D := (kvs.find? fun kv => decide (kv.1 = k)).map (·.2)
noncomputable def dput {κ : Type} [DecidableEq κ] (kvs : List (κ × D)) (k : κ) (v : D) : List (κ × D) :=
  if (kvs.any fun kv => decide (kv.1 = k)) = true then kvs.map (fun kv => if kv.1 = k then (kv.1, v) else kv) else kvs ++ [(k, v)]
noncomputable def dmk (ks : List (List Nat)) (vs : List D) : List (DK × D) := (ks.zip vs).foldl (fun acc kv => dput acc (.s kv.1) kv.2) []
noncomputable def dcont (s : S) : D → Option (List (DK × D))
  | .ref n => match s.m n with
    | some (.dic kvs) => some kvs
    | _ => none
  | _ => none
/-- dicts whose keys are tuples -/
noncomputable def keyTs : List D → Option (List DK)
  | [] => some []
  | d :: r => (keyOf d).bind fun k => (keyTs r).map fun q => k :: q
noncomputable def keyT : D → Option (List DK)
  | .tup ds => keyTs ds
  | _ => none
/-- a tuple of tuples -/
noncomputable def keyTTs : List D → Option (List (List DK))
  | [] => some []
  | d :: r => (keyT d).bind fun k => (keyTTs r).map fun q => k :: q
noncomputable def keyTT : D → Option (List (List DK))
  | .tup ds => keyTTs ds
  | _ => none
noncomputable def tcont (s : S) : D → Option (List (List DK × D))
  | .ref n => match s.m n with
    | some (.dit kvs) => some kvs
    | _ => none
  | _ => none
noncomputable def ixN (n : Nat) (i : Int) : Option Nat := if 0 ≤ i then (if i < n then some i.toNat else none) else if -(n : Int) ≤ i then some (i + n).toNat else none
noncomputable def atI {α : Type} (xs : List α) (i : Int) : Option α := (ixN xs.length i).bind fun j => xs[j]?
noncomputable def sIx (n d : Nat) : Option Int → Nat
  | none => d
  | some v => if v < 0 then (v + (n : Int)).toNat else min v.toNat n
noncomputable def cut {α : Type} (xs : List α) (lo hi : Option Int) : List α := (xs.drop (sIx xs.length 0 lo)).take (sIx xs.length xs.length hi - sIx xs.length 0 lo)
noncomputable def mkL (bx : Bool) (xs : List D) (s : S) : R D :=
  if bx then some (.ok (.ref s.nx), s.new (.lst xs)) else some (.ok (.lst xs), s)
/-- a list whose length is to be looked at -/
noncomputable def mkLz (bx : Bool) (xs : List D) (s : S) : R D := if xs.length ≤ LIM then mkL bx xs s else none
inductive Bop where
  | add | sub | mul | fdiv | mod | pow
inductive Cop where
  | eq | ne | lt | le | gt | ge | is | isn | inn | nin
noncomputable def sm64 (i : Int) : Bool := decide (-(2 ^ 64) < i) && decide (i < 2 ^ 64)
noncomputable def wd (i j : Int) : Bool := decide (i.natAbs < 2 ^ 1000) && decide (j.natAbs < 2 ^ 1000)
noncomputable def binI : Bop → Int → Int → Option Int
  | .add, i, j => some (i + j)
  | .sub, i, j => some (i - j)
  | .mul, i, j => if (sm64 i || sm64 j) || wd i j then some (i * j) else none
  | .fdiv, i, j => if j ≠ 0 ∧ j.natAbs < 10000000000000000000000000000000000000000 then some (i.fdiv j) else none
  | .mod, i, j => if j ≠ 0 then some (i.fmod j) else none
  | .pow, i, j => if 0 ≤ j ∧ j ≤ 1000000 ∧ i.natAbs < 2 ^ 64 then some (i ^ j.toNat) else none
noncomputable def binD : Bop → D → D → Option D
  | o, .int i, .int j => (binI o i j).map .int
  | .add, .str x, .str y => if x.length + y.length ≤ LIM then some (.str (x ++ y)) else none
  | .add, .tup xs, .tup ys => if xs.length + ys.length ≤ LIM then some (.tup (xs ++ ys)) else none
  | _, _, _ => none
mutual
noncomputable def eqD : D → D → Bool
  | .non, .non => true
  | .bl a, .bl b => a == b
  | .bl a, .int j => (if a then 1 else 0) == j
  | .int i, .bl b => i == (if b then 1 else 0)
  | .int i, .int j => i == j
  | .str x, .str y => x == y
  | .lst xs, .lst ys => eqL xs ys
  | .tup xs, .tup ys => eqL xs ys
  | _, _ => false
noncomputable def eqL : List D → List D → Bool
  | [], [] => true
  | x :: xs, y :: ys => eqD x y && eqL xs ys
  | _, _ => false
end
/- without boxes, not too deep, texts of code points -/
mutual
noncomputable def shp : Nat → D → Bool
  | _, .non => true
  | _, .bl _ => true
  | _, .int _ => true
  | _, .str x => x.all (· < 1114112)
  | 0, .tup _ => false
  | 0, .lst _ => false
  | k + 1, .tup xs => shpL k xs
  | k + 1, .lst xs => shpL k xs
  | _, .ref _ => false
  | _, .scr _ => false
noncomputable def shpL : Nat → List D → Bool
  | _, [] => true
  | k, x :: xs => shp k x && shpL k xs
end
/-- boxes of lists opened, one level -/
noncomputable def opn (s : S) : D → D
  | .ref n => match s.m n with
    | some (.lst xs) => .lst xs
    | _ => .ref n
  | .scr xs => .lst xs
  | d => d
/-- boxes of lists opened, many levels -/
noncomputable def opnD (s : S) : Nat → D → D
  | 0, d => d
  | k + 1, .ref n => match s.m n with
    | some (.lst xs) => .lst (xs.map (opnD s k))
    | _ => .ref n
  | _ + 1, .scr xs => .lst xs
  | k + 1, .tup xs => .tup (xs.map (opnD s k))
  | k + 1, .lst xs => .lst (xs.map (opnD s k))
  | _ + 1, d => d
/-- a list, a tuple, a dict -/
noncomputable def hvD (s : S) : D → Bool
  | .tup _ => true
  | .lst _ => true
  | .ref n => match s.m n with
    | some (.lst _) => true
    | some (.dic _) => true
    | _ => false
  | _ => false
noncomputable def lgtD : D → Bool
  | .non => true
  | .int _ => true
  | _ => false
/-- two lists of unlike lengths -/
noncomputable def lenU (s : S) (a b : D) : Bool := match ccont s a, ccont s b with
  | some xs, some ys => decide (xs.length ≠ ys.length)
  | _, _ => false
/-- things that are unlike whatever they hold -/
noncomputable def unS (s : S) (a b : D) : Option Bool := if (hvD s a && lgtD b || lenU s a b) = true then some false else none
noncomputable def eqS (s : S) (a b : D) : Option Bool :=
  match a, b with
  | .int i, .int j => some (decide (i = j))
  | .str x, .str y => some (decide (x = y))
  | .bl x, .bl y => some (decide (x = y))
  | .non, .non => some true
  | a, b => if shp 60 (opn s a) && shp 60 (opn s b) then some (eqD (opn s a) (opn s b)) else if shp 60 (opnD s 20 a) && shp 60 (opnD s 20 b) then some (eqD (opnD s 20 a) (opnD s 20 b)) else unS s a b
mutual
noncomputable def toPD : D → PySem.PyData
  | .non => .none
  | .bl b => .bool b
  | .int i => .int i
  | .str x => .str ⟨x.toArray⟩
  | .tup xs => .tuple (toPDs xs)
  | .lst xs => .list (toPDs xs)
  | .ref _ => .none
  | .scr _ => .none
noncomputable def toPDs : List D → List PySem.PyData
  | [] => []
  | x :: xs => toPD x :: toPDs xs
end
/-- a thing as data, its boxes opened -/
noncomputable def pdK : DK → PySem.PyData
  | .i i => .int i
  | .s x => .str ⟨x.toArray⟩
mutual
noncomputable def pdO (s : S) : Nat → D → Option PySem.PyData
  | _, .non => some .none
  | _, .bl b => some (.bool b)
  | _, .int i => some (.int i)
  | _, .str x => some (.str ⟨x.toArray⟩)
  | k + 1, .tup xs => (pdOs s k xs).map .tuple
  | k + 1, .lst xs => (pdOs s k xs).map .list
  | k + 1, .ref n => match s.m n with
    | some (.lst xs) => (pdOs s k xs).map .list
    | some (.dic kvs) => (pdOv s k kvs).map .dict
    | _ => none
  | _, _ => none
  termination_by k d => (k, sizeOf d)
noncomputable def pdOs (s : S) : Nat → List D → Option (List PySem.PyData)
  | _, [] => some []
  | k, x :: xs => (pdO s k x).bind fun d => (pdOs s k xs).map fun ds => d :: ds
  termination_by k ds => (k, sizeOf ds)
noncomputable def pdOv (s : S) : Nat → List (DK × D) → Option (List (PySem.PyData × PySem.PyData))
  | _, [] => some []
  | k, (q, x) :: xs => (pdO s k x).bind fun d => (pdOv s k xs).map fun ds => (pdK q, d) :: ds
  termination_by k ds => (k, sizeOf ds)
end
noncomputable def rpOk (d : PySem.PyData) : Bool := d.showable && d.leavesShort 120 && decide (d.depth ≤ 4000) && decide (d.weight ≤ 120000)
/-- what repr writes -/
noncomputable def reprD (s : S) (x : D) : Option D := (pdO s 4100 x).bind fun d => if rpOk d then some (.str d.shown.cps.toList) else none
noncomputable def isNon : D → Bool
  | .non => true
  | _ => false
noncomputable def flat : D → Bool
  | .non => true
  | .bl _ => true
  | .int _ => true
  | .str _ => true
  | _ => false
/-- stands in a list or tuple -/
noncomputable def inD (s : S) (a b : D) : Option Bool := (cont s b).bind fun xs => if flat a && xs.all flat then some (xs.any fun x => eqD x a) else match opnD s 20 b with
  | .lst zs => if shp 60 (opnD s 20 a) && shp 60 (.lst zs) then some (zs.any fun z => eqD z (opnD s 20 a)) else none
  | .tup zs => if shp 60 (opnD s 20 a) && shp 60 (.tup zs) then some (zs.any fun z => eqD z (opnD s 20 a)) else none
  | _ => none
noncomputable def notN : PySem.PyData → Bool
  | .none => false
  | _ => true
/-- the order of tuples and lists whose parts are alike -/
noncomputable def ltS (s : S) (a b : D) : Option Bool := match pdO s 20 a, pdO s 20 b with
  | some x, some y => if PySem.W.alike x y && notN x && decide (x.depth ≤ 100) then some (PySem.W.dataLt x y) else none
  | _, _ => none
noncomputable def cmpD (s : S) : Cop → D → D → Option Bool
  | .eq, a, b => eqS s a b
  | .ne, a, b => (eqS s a b).map (!·)
  | .lt, .int i, .int j => some (decide (i < j))
  | .le, .int i, .int j => some (decide (i ≤ j))
  | .gt, .int i, .int j => some (decide (j < i))
  | .ge, .int i, .int j => some (decide (j ≤ i))
  | .lt, .str x, .str y => some (decide (x < y))
  | .le, .str x, .str y => some (!decide (y < x))
  | .lt, a, b => ltS s a b
  | .is, a, .non => some (isNon a)
  | .isn, a, .non => some (!isNon a)
  | .is, .bl a, .bl b => some (a == b)
  | .isn, .bl a, .bl b => some (!(a == b))
  | .inn, .str [c], .str y => some (decide (c ∈ y))
  | .nin, .str [c], .str y => some (!decide (c ∈ y))
  | .inn, a, b => match dcont s b with
    | some kvs => (keyOf a).map fun k => (dlook kvs k).isSome
    | none => match tcont s b with
      | some kvs => (keyT a).map fun k => (dlook kvs k).isSome
      | none => inD s a b
  | .nin, a, b => match dcont s b with
    | some kvs => (keyOf a).map fun k => !(dlook kvs k).isSome
    | none => match tcont s b with
      | some kvs => (keyT a).map fun k => !(dlook kvs k).isSome
      | none => (inD s a b).map (!·)
  | _, _, _ => none
noncomputable def truth (s : S) : D → Option Bool
  | .bl b => some b
  | .non => some false
  | .int i => some (i != 0)
  | .str x => if x.length ≤ LIM then some (x.length != 0) else none
  | .tup xs => some (!xs.isEmpty)
  | d => (lcont s d).map fun xs => !xs.isEmpty
noncomputable def idxL (s : S) (a b : D) : Option D :=
  match b with
  | .int i => match a with
    | .str x => if x.length ≤ LIM then (atI x i).map fun c => .str [c] else none
    | a => (cont s a).bind fun xs => atI xs i
  | _ => none
noncomputable def idxD (s : S) (a b : D) : Option D := match dcont s a with
  | some kvs => (keyOf b).bind (dlook kvs)
  | none => match tcont s a with
    | some kvs => (keyT b).bind (dlook kvs)
    | none => idxL s a b
inductive Ty where
  | int | str | bool | tuple | list | dict
inductive Bi where
  | len | int | list (bx : Bool) | tuple | min2 | max2 | abs | sum | min3 | minL | minT | str | sorted (bx : Bool) | dict | minE | intT | dictT
inductive Mt where
  | append | pop | popAt | insert | join | index | clear | count | upper | extend | split (bx : Bool) | splitN (bx : Bool)
noncomputable def tyOf (s : S) : D → Option Ty
  | .bl _ => some .bool
  | .int _ => some .int
  | .str _ => some .str
  | .tup _ => some .tuple
  | .lst _ => some .list
  | .scr _ => some .list
  | .ref n => match s.m n with
    | some (.lst _) => some .list
    | some (.dic _) => some .dict
    | some (.dit _) => some .dict
    | _ => none
  | .non => none
noncomputable def subTy : Ty → Ty → Bool
  | .int, .int => true | .bool, .int => true | .bool, .bool => true | .str, .str => true | .tuple, .tuple => true | .list, .list => true | .dict, .dict => true
  | _, _ => false
noncomputable def isiD (s : S) (d : D) (t : Ty) : Option Bool :=
  match d with
  | .non => some false
  | d => (tyOf s d).map fun u => subTy u t
noncomputable def isiTD (s : S) (d : D) (ts : List Ty) : Option Bool :=
  match d with
  | .non => some false
  | d => (tyOf s d).map fun u => ts.any fun t => subTy u t
noncomputable def txtOf : D → Option (List Nat)
  | .str x => some x
  | _ => none
noncomputable def txts : List D → Option (List (List Nat))
  | [] => some []
  | d :: r => (txtOf d).bind fun x => (txts r).map fun y => x :: y
noncomputable def joinT (sep : List Nat) : List (List Nat) → List Nat
  | [] => []
  | [x] => x
  | x :: y :: r => x ++ (sep ++ joinT sep (y :: r))
noncomputable def sumLen : List (List Nat) → Nat
  | [] => 0
  | x :: r => x.length + sumLen r
noncomputable def lenD (s : S) : List D → R D
  | [.str x] => if x.length ≤ LIM then some (.ok (.int x.length), s) else none
  | [d] => match dcont s d with
    | some kvs => some (.ok (.int kvs.length), s)
    | none => lft ((cont s d).map fun xs => .int xs.length) s
  | _ => none
noncomputable def intD (s : S) : List D → R D
  | [.int i] => some (.ok (.int i), s)
  | [.bl b] => some (.ok (.int (if b then 1 else 0)), s)
  | _ => none
noncomputable def listD (s : S) (bx : Bool) : List D → R D
  | [.str x] => if x.length ≤ LIM then mkL bx (x.map fun c => .str [c]) s else none
  | [d] => match cont s d with
    | some xs => mkL bx xs s
    | none => none
  | _ => none
noncomputable def tupleD (s : S) : List D → R D
  | [.tup xs] => some (.ok (.tup xs), s)
  | [.str x] => if x.length ≤ LIM then some (.ok (.tup (x.map fun c => .str [c])), s) else none
  | [d] => lft ((lcont s d).map fun xs => .tup xs) s
  | _ => none
noncomputable def minD (s : S) : List D → R D
  | [.int i, .int j] => some (.ok (.int (if j < i then j else i)), s)
  | _ => none
noncomputable def maxD (s : S) : List D → R D
  | [.int i, .int j] => some (.ok (.int (if j > i then j else i)), s)
  | _ => none
noncomputable def absD (s : S) : List D → R D
  | [.int i] => some (.ok (.int (if i < 0 then -i else i)), s)
  | _ => none
noncomputable def intsD : List D → Option (List Int)
  | [] => some []
  | .int i :: r => (intsD r).map fun q => i :: q
  | _ => none
noncomputable def sumD (s : S) : List D → R D
  | [d] => lft (((lcont s d).bind intsD).map fun ns => .int ns.sum) s
  | _ => none
noncomputable def min3D (s : S) : List D → R D
  | [.int i, .int j, .int k] => some (.ok (.int (min (min i j) k)), s)
  | _ => none
noncomputable def minI : List Int → Option Int
  | [] => none
  | [i] => some i
  | i :: j :: r => (minI (j :: r)).map (min i)
noncomputable def minLD (s : S) : List D → R D
  | [d] => lft ((((lcont s d).bind intsD).bind minI).map .int) s
  | _ => none
/-- the order of two tuples that begin with a text and a number, which tell them apart -/
noncomputable def ltEv : D → D → Option Bool
  | .tup (.str a :: .int i :: _), .tup (.str b :: .int j :: _) => if a = b then (if i = j then none else some (decide (i < j))) else some (decide (a < b))
  | _, _ => none
noncomputable def minTL : List D → Option D
  | [.tup x] => some (.tup x)
  | [x, y] => (ltEv y x).map fun b => if b then y else x
  | _ => none
noncomputable def minTD (s : S) : List D → R D
  | [d] => lft ((lcont s d).bind minTL) s
  | _ => none
/-- which of the things is the first of the least -/
noncomputable def bestD (f : Nat → Nat → Bool) : Nat → Nat
  | 0 => 0
  | k + 1 => if f (k + 1) (bestD f k) = true then k + 1 else bestD f k
/-- min(xs) of things whose parts are alike -/
noncomputable def minED (s : S) : List D → R D
  | [d] => match lcont s d with
    | some xs => match pdOs s 20 xs with
      | some ds => if (ds.all fun x => notN x && ds.all fun y => PySem.W.alike x y) && decide (PySem.PyData.depthAll ds ≤ 100) then lft (xs[bestD (fun i j => PySem.W.dataLt (ds.getD i .none) (ds.getD j .none)) (ds.length - 1)]?) s else none
      | none => none
    | none => none
  | _ => none
/-- int of a text -/
noncomputable def intTD (s : S) : List D → R D
  | [.str x] => if x.length ≤ 640 then lft ((PySem.intText? ⟨x.toArray⟩).map .int) s else none
  | _ => none
/-- a part of f'..' -/
noncomputable def fstP : D → Option (List Nat)
  | .str x => some x
  | .int i => if i.natAbs < 2 ^ 1900 then some (PySem.PyData.int i).shown.cps.toList else none
  | _ => none
noncomputable def fstJ : List D → Option (List Nat)
  | [] => some []
  | d :: ds => (fstP d).bind fun x => (fstJ ds).map fun y => x ++ y
/-- str of a whole number, a text, a thing -/
noncomputable def strD (s : S) : List D → R D
  | [.int i] => if i.natAbs < 2 ^ 1900 then some (.ok (.str (PySem.PyData.int i).shown.cps.toList), s) else none
  | [.str x] => some (.ok (.str x), s)
  | [d] => lft (reprD s d) s
  | _ => none
/-- numbers in order: once each, or as often as they stand -/
noncomputable def insU (c : Nat) : List Nat → List Nat
  | [] => [c]
  | d :: r => if c < d then c :: d :: r else if c = d then d :: r else d :: insU c r
noncomputable def sortU (x : List Nat) : List Nat := x.foldr insU []
noncomputable def insM (c : Nat) : List Nat → List Nat
  | [] => [c]
  | d :: r => if c ≤ d then c :: d :: r else d :: insM c r
noncomputable def sortM (x : List Nat) : List Nat := x.foldr insM []
/-- the points of texts of one sign -/
noncomputable def onesD : List D → Option (List Nat)
  | [] => some []
  | .str [c] :: r => (onesD r).map fun q => c :: q
  | _ => none
/-- the numbers of tuples of the word z and a number -/
noncomputable def wnD (z : List Nat) : List D → Option (List Int)
  | [] => some []
  | .tup [.str x, .int i] :: r => if x = z then (wnD z r).map fun q => i :: q else none
  | _ => none
/-- the first word -/
noncomputable def wn1 : List D → List Nat
  | .tup (.str z :: _) :: _ => z
  | _ => []
noncomputable def ordI : List Int → Bool
  | [] => true
  | i :: r => r.all (fun j => decide (i ≤ j)) && ordI r
/-- sorted of a list: of texts of one sign, or of tuples of one word and a number that are in order -/
noncomputable def sortL (s : S) (bx : Bool) (xs : List D) : R D :=
  match onesD xs with
  | some l => if l.length < 64 then mkL bx ((sortM l).map fun c => .str [c]) s else none
  | none => match wnD (wn1 xs) xs with
    | some ks => if ordI ks then mkL bx xs s else none
    | none => none
noncomputable def risI : List Int → Bool
  | [] => true
  | i :: r => r.all (fun j => decide (i < j)) && risI r
/-- sorted(set(xs)): of texts of one sign, or of whole numbers that rise -/
noncomputable def ssetL (s : S) (bx : Bool) (xs : List D) : R D :=
  match onesD xs with
  | some l => if l.length < 64 then mkL bx ((sortU l).map fun c => .str [c]) s else none
  | none => match intsD xs with
    | some ks => if ks.length < 64 && risI ks then mkL bx xs s else none
    | none => none
noncomputable def sortD (s : S) (bx : Bool) : List D → R D
  | [.str x] => if x.length < 64 then mkL bx ((sortM x).map fun c => .str [c]) s else none
  | [d] => match lcont s d with
    | some xs => sortL s bx xs
    | none => none
  | _ => none
noncomputable def enumL : Nat → List D → List D
  | _, [] => []
  | i, x :: r => .tup [.int (i : Nat), x] :: enumL (i + 1) r
/-- the entries of dict(enumerate(xs)) -/
noncomputable def denL : Nat → List D → List (DK × D)
  | _, [] => []
  | i, x :: r => (.i (i : Nat), x) :: denL (i + 1) r
noncomputable def rngL (n : Int) : List D := (List.range n.toNat).map fun i => .int (i : Nat)
noncomputable def lrngD (s : S) (bx : Bool) : List D → R D
  | [.int n] => if n ≤ 1000000 ∧ -1000000 ≤ n then mkL bx (rngL n) s else none
  | _ => none
/-- dict(xs) of a list of pairs -/
noncomputable def pairsD : List D → Option (List (DK × D))
  | [] => some []
  | .tup [a, v] :: r => (keyOf a).bind fun k => (pairsD r).map fun q => (k, v) :: q
  | _ => none
noncomputable def dictD (s : S) : List D → R D
  | [d] => match (lcont s d).bind pairsD with
    | some kvs => some (.ok (.ref s.nx), s.new (.dic (kvs.foldl (fun acc kv => dput acc kv.1 kv.2) [])))
    | none => none
  | _ => none
/-- dict(xs) of a list of pairs whose first parts are tuples -/
noncomputable def pairsTD : List D → Option (List (List DK × D))
  | [] => some []
  | .tup [a, v] :: r => (keyT a).bind fun k => (pairsTD r).map fun q => (k, v) :: q
  | _ => none
noncomputable def dictTD (s : S) : List D → R D
  | [d] => match (lcont s d).bind pairsTD with
    | some kvs => some (.ok (.ref s.nx), s.new (.dit (kvs.foldl (fun acc kv => dput acc kv.1 kv.2) [])))
    | none => none
  | _ => none
noncomputable def biD (s : S) : Bi → List D → R D
  | .len, ds => lenD s ds
  | .int, ds => intD s ds
  | .list bx, ds => listD s bx ds
  | .tuple, ds => tupleD s ds
  | .min2, ds => minD s ds
  | .max2, ds => maxD s ds
  | .abs, ds => absD s ds
  | .sum, ds => sumD s ds
  | .min3, ds => min3D s ds
  | .minL, ds => minLD s ds
  | .minT, ds => minTD s ds
  | .str, ds => strD s ds
  | .intT, ds => intTD s ds
  | .sorted bx, ds => sortD s bx ds
  | .dict, ds => dictD s ds
  | .dictT, ds => dictTD s ds
  | .minE, ds => minED s ds
noncomputable def appD (s : S) : D → List D → R D
  | .ref n, [x] => match s.m n with
    | some (.lst xs) => if xs.length < LIM then some (.ok .non, s.put n (.lst (xs ++ [x]))) else none
    | _ => none
  | _, _ => none
noncomputable def popD (s : S) : D → List D → R D
  | .ref n, [] => match s.m n with
    | some (.lst xs) => match xs[xs.length - 1]? with
      | some y => some (.ok y, s.put n (.lst xs.dropLast))
      | none => none
    | _ => none
  | _, _ => none
noncomputable def popAtD (s : S) : D → List D → R D
  | .ref n, [.int i] => match s.m n with
    | some (.lst xs) => if -(2 ^ 60) ≤ i ∧ i < 2 ^ 60 then match ixN xs.length i with
      | some k => match xs[k]? with
        | some y => some (.ok y, s.put n (.lst (xs.eraseIdx k)))
        | none => none
      | none => none
      else none
    | _ => none
  | _, _ => none
noncomputable def insD (s : S) : D → List D → R D
  | .ref n, [.int i, x] => match s.m n with
    | some (.lst xs) => if xs.length < LIM ∧ 0 ≤ i ∧ i < 2 ^ 62 then some (.ok .non, s.put n (.lst (xs.take i.toNat ++ x :: xs.drop i.toNat))) else none
    | _ => none
  | _, _ => none
noncomputable def joinD (s : S) : D → List D → R D
  | .str sep, [d] => match (cont s d).bind txts with
    | some ys => if sumLen ys + sep.length * ys.length ≤ LIM then some (.ok (.str (joinT sep ys)), s) else none
    | none => none
  | _, _ => none
noncomputable def ixOfD (s : S) : D → List D → R D
  | d, [y] => match lcont s d with
    | some xs => if (flat y && xs.all flat) = true then match xs.findIdx? fun x => eqD x y with
      | some j => some (.ok (.int (j : Nat)), s)
      | none => none
      else match opnD s 20 d with
      | .lst zs => if shp 60 (opnD s 20 y) && shp 60 (.lst zs) then match zs.findIdx? fun z => eqD z (opnD s 20 y) with
        | some j => some (.ok (.int (j : Nat)), s)
        | none => none
        else none
      | _ => none
    | none => none
  | _, _ => none
noncomputable def clrD (s : S) : D → List D → R D
  | .ref n, [] => match s.m n with
    | some (.lst _) => some (.ok .non, s.put n (.lst []))
    | _ => none
  | _, _ => none
noncomputable def cntD (s : S) : D → List D → R D
  | d, [y] => match lcont s d with
    | some xs => if (flat y && xs.all flat) = true then some (.ok (.int ((xs.countP fun x => eqD x y : Nat) : Int)), s) else none
    | none => none
  | _, _ => none
noncomputable def upN (c : Nat) : Nat := if 97 ≤ c ∧ c ≤ 122 then c - 32 else c
noncomputable def uprD (s : S) : D → List D → R D
  | .str x, [] => if x.length ≤ 1000000 ∧ x.all (· < 128) = true then some (.ok (.str (x.map upN)), s) else none
  | _, _ => none
noncomputable def extD (s : S) : D → List D → R D
  | .ref n, [d] => match s.m n with
    | some (.lst xs) => match ccont s d with
      | some ys => if xs.length + ys.length ≤ LIM then some (.ok .non, s.put n (.lst (xs ++ ys))) else none
      | none => none
    | _ => none
  | _, _ => none
/-- a text in parts -/
noncomputable def splD (s : S) (bx : Bool) : D → List D → R D
  | .str a, [.str b] => if b ≠ [] ∧ a.length ≤ 1000000 then mkL bx ((PySem.Txt.split ⟨a.toArray⟩ ⟨b.toArray⟩).map fun z => .str z.cps.toList) s else none
  | _, _ => none
/-- a text in parts, so many cuts at most -/
noncomputable def splitM (x y : PySem.Str) (k : Nat) : List PySem.Str :=
  if (decide (x.length < y.length) || decide (PySem.Builtin.Str.strKind x < PySem.Builtin.Str.strKind y)) = true then [x] else
  if (PySem.Builtin.Str.occurrences x y 0 x.length k).isEmpty = true then [x] else PySem.Builtin.Str.partsBetween x (PySem.Builtin.Str.occurrences x y 0 x.length k) y.length
noncomputable def splND (s : S) (bx : Bool) : D → List D → R D
  | .str a, [.str b, .int k] => if b ≠ [] ∧ a.length ≤ 1000000 ∧ 0 ≤ k ∧ k < 1000000 then mkL bx ((splitM ⟨a.toArray⟩ ⟨b.toArray⟩ k.toNat).map fun z => .str z.cps.toList) s else none
  | _, _ => none
noncomputable def metD (s : S) : Mt → D → List D → R D
  | .append, d, ds => appD s d ds
  | .pop, d, ds => popD s d ds
  | .popAt, d, ds => popAtD s d ds
  | .insert, d, ds => insD s d ds
  | .join, d, ds => joinD s d ds
  | .index, d, ds => ixOfD s d ds
  | .clear, d, ds => clrD s d ds
  | .count, d, ds => cntD s d ds
  | .upper, d, ds => uprD s d ds
  | .extend, d, ds => extD s d ds
  | .split bx, d, ds => splD s bx d ds
  | .splitN bx, d, ds => splND s bx d ds
/-- the receiver is of the method's type -/
noncomputable def mtOk (s : S) : Mt → D → Bool
  | .join, .str _ => true
  | .join, _ => false
  | .upper, .str _ => true
  | .upper, _ => false
  | .split _, .str _ => true
  | .split _, _ => false
  | .splitN _, .str _ => true
  | .splitN _, _ => false
  | _, d => (lcont s d).isSome
/-- pairs of items and signs -/
noncomputable def zipL : List D → List Nat → List D
  | x :: xs, c :: z => .tup [x, .str [c]] :: zipL xs z
  | _, _ => []
/-- d.setdefault(k, v) -/
noncomputable def sdfD (s : S) (x y z : D) : R D := match x with
  | .ref n => match s.m n, keyOf y with
    | some (.dic kvs), some k => match dlook kvs k with
      | some v => some (.ok v, s)
      | none => if kvs.length < LIM then some (.ok z, s.put n (.dic (dput kvs k z))) else none
    | _, _ => none
  | _ => none
 set_option genInjectivity false
 set_option genSizeOfSpec false
inductive Tg where
  | nm (i : Nat)
  | tp (is : List Nat)
  | nt (i : Nat) (is : List Nat)
mutual
inductive E where
  | var (i : Nat)
  | non
  | bl (b : Bool)
  | int (i : Int)
  | str (x : List Nat)
  | gs (x : String) (v : List Nat)
  | gi (x : String) (v : Int)
  | bin (o : Bop) (a b : E)
  | neg (a : E)
  | not (a : E)
  | and (es : Es)
  | or (es : Es)
  | cmp (o : Cop) (a b : E)
  | chn (o p : Cop) (a b c : E)
  | ite (c a b : E)
  | tup (es : Es)
  | lst (bx : Bool) (es : Es)
  | cat (bx : Bool) (a b : E)
  | idx (a b : E)
  | sl (bx : Bool) (a : E) (lo hi : Oe)
  | call (f : String) (es : Es)
  | bi (b : Bi) (es : Es)
  | lrng (bx : Bool) (a : E)
  | isi (a : E) (t : Ty)
  | met (m : Mt) (o : E) (es : Es)
  | fld (o : E) (f : String)
  | own (o : E) (m : String) (es : Es)
  | mak (c : String) (es : Es)
  | lc (bx : Bool) (e : E) (tg : Tg) (it : It) (c : Oe)
  | frz (a : E)
  | dsp (ks : List (List Nat)) (vs : Es)
  | rpt (bx : Bool) (a b : E)
  | rev (bx : Bool) (a : E)
  | dnt
  | dnn
  | inn2 (a d : E)
  | lenm (bx : Bool) (a : E)
  | denm (a : E)
  | fst (es : Es)
  | rpl (a o : E) (y z : List Nat)
  | nint (x : E) (f : String) (ts : List (List Nat))
  | irp (i : Nat) (b y z : List Nat)
  | lzip (bx : Bool) (a b : E)
  | sdf (d k v : E)
  | ltx (a : E)
  | dst (a b : E)
  | sset (bx : Bool) (a : E)
  | rps (a b : E)
  | dsi (a b : E)
  | dgv (o k d : E)
  | rpr (a : E)
  | lset (a : E)
  | dsv (a b : E)
  | isit (a : E) (ts : List Ty)
  | isx (a : E) (c : String)
  | isxt (a : E) (cs : List String)
  | dget (x : String) (tab : List (List Nat × Int)) (k d : E)
inductive Es where
  | nil
  | cons (e : E) (r : Es)
inductive Oe where
  | no
  | so (e : E)
inductive It where
  | seq (e : E)
  | any (e : E)
  | tup (e : E)
  | str (e : E)
  | rng (e : E)
  | rng2 (a b : E)
  | enm (e : E)
  | ens (e : E)
  | zip (a b : E)
  | zips (a b : E)
end
/-- what a loop walks -/
inductive Iv where
  | seq (d : D)
  | rng (lo : Int) (n : Nat)
  | enm (d : D)
  | ens (x : List Nat)
  | zip (a b : D)
  | zips (a : D) (x : List Nat)
noncomputable def ivLen (s : S) : Iv → Option Nat
  | .seq (.str x) => some x.length
  | .seq d => (cont s d).map (·.length)
  | .rng _ n => some n
  | .enm d => (lcont s d).map (·.length)
  | .ens x => some x.length
  | .zip a b => (lcont s a).bind fun xs => (lcont s b).map fun ys => min xs.length ys.length
  | .zips a x => (lcont s a).map fun xs => min xs.length x.length
noncomputable def ivGet (s : S) (i : Nat) : Iv → Option D
  | .seq (.str x) => (x[i]?).map fun c => .str [c]
  | .seq d => (cont s d).bind (·[i]?)
  | .rng lo _ => some (.int (lo + i))
  | .enm d => (lcont s d).bind fun xs => (xs[i]?).map fun x => .tup [.int i, x]
  | .ens x => (x[i]?).map fun c => .tup [.int i, .str [c]]
  | .zip a b => (lcont s a).bind fun xs => (lcont s b).bind fun ys => (xs[i]?).bind fun x => (ys[i]?).map fun y => .tup [x, y]
  | .zips a z => (lcont s a).bind fun xs => (xs[i]?).bind fun x => (z[i]?).map fun c => .tup [x, .str [c]]
noncomputable abbrev Sl := List (Option D)
noncomputable def setAll : List Nat → List D → Sl → Option Sl
  | [], [], r => some r
  | i :: is, d :: ds, r => setAll is ds (r.set i (some d))
  | _, _, _ => none
noncomputable def ntD : D → Option (D × List D)
  | .tup [d, .tup ds] => some (d, ds)
  | _ => none
noncomputable def tgSet (s : S) : Tg → D → Sl → Option Sl
  | .nm i, d, r => some (r.set i (some d))
  | .tp is, .tup ds, r => setAll is ds r
  | .tp is, .lst ds, r => setAll is ds r
  | .tp _, _, _ => none
  | .nt i is, d, r => (ntD d).bind fun p => setAll is p.2 (r.set i (some p.1))
noncomputable abbrev CF := String → String → List D → S → R D
/-- a comprehension's turns -/
noncomputable def lcN (tg : Tg) (iv : Iv) (tst : Sl → S → R Bool) (elt : Sl → S → R D) (r : Sl) : Nat → Nat → List D → S → R (List D)
  | 0, _, _, _ => none
  | m + 1, i, acc, s => match ivLen s iv with
    | none => none
    | some n => if i < n then match ivGet s i iv with
      | none => none
      | some x => match tgSet s tg x r with
        | none => none
        | some r' => bnd (tst r' s) fun b s => if b then bnd (elt r' s) fun d s => if acc.length < LIM then lcN tg iv tst elt r m (i + 1) (acc ++ [d]) s else none else lcN tg iv tst elt r m (i + 1) acc s
      else some (.ok acc, s)
noncomputable def dgetD (tab : List (List Nat × Int)) (x y : D) (s : S) : R D := match x with
  | .str z => some (.ok (match tab.find? fun p => p.1 == z with | some p => .int p.2 | none => y), s)
  | _ => none
/-- len(set(xs)) of at most two whole numbers -/
noncomputable def lsetD : List D → Option D
  | [] => some (.int 0)
  | [.int _] => some (.int 1)
  | [.int i, .int j] => some (.int (if i = j then 1 else 2))
  | _ => none
/-- an own error's class below another one -/
noncomputable def subE (k c : String) : Bool := decide (c = "LineError") || decide (c = "ValueError") || decide (k = c)
/-- tests of a caught error -/
inductive Hx where
  | isx (t : String)
  | isxt (ts : List String)
  | var (i : Nat)
  | and (a b : Hx)
  | not (a : Hx)
noncomputable def hxE (k : String) (r : Sl) : Hx → Option Bool
  | .isx t => some (subE k t)
  | .isxt ts => some (ts.any (subE k))
  | .var i => match r[i]? with
    | some (some (.bl b)) => some b
    | _ => none
  | .and a b => (hxE k r a).bind fun x => if x = true then hxE k r b else some false
  | .not a => (hxE k r a).map (!·)
noncomputable def hxAll (k : String) : List (Nat × Hx) → Sl → Option Sl
  | [], r => some r
  | (j, h) :: t, r => (hxE k r h).bind fun b => hxAll k t (r.set j (some (.bl b)))
noncomputable def isxD (s : S) (d : D) (cs : List String) : Option Bool := match d with
  | .ref n => match s.m n with
    | some (.exc k) => some (cs.any (subE k))
    | _ => none
  | _ => none
noncomputable def frzD (s : S) : D → R D
  | .ref n => match s.m n with
    | some (.lst xs) => some (.ok (.lst xs), s.kill n)
    | _ => none
  | .lst xs => some (.ok (.lst xs), s)
  | _ => none
/-- a pair of names as a key, in a dict that holds True alone -/
noncomputable def nnIn (s : S) (x y : D) : Option Bool := match y with
  | .ref n => match s.m n with
    | some (.dnn ks) => (keyTT x).map fun k => decide (k ∈ ks)
    | _ => none
  | _ => none
noncomputable def nnPut (ks : List (List (List DK))) (k : List (List DK)) : List (List (List DK)) := if k ∈ ks then ks else ks ++ [k]
/-- d.get(k, z) -/
noncomputable def dgvD (s : S) (x y z : D) : R D := match dcont s x with
  | some kvs => match keyOf y with
    | some k => some (.ok ((dlook kvs k).getD z), s)
    | none => none
  | none => match tcont s x with
    | some kvs => match keyT y with
      | some k => some (.ok ((dlook kvs k).getD z), s)
      | none => none
    | none => none
mutual
noncomputable def ev (cf : CF) : E → Sl → S → R D
  | .var i, r, s => match r[i]? with
    | some (some d) => some (.ok d, s)
    | _ => none
  | .non, _, s => some (.ok .non, s)
  | .bl b, _, s => some (.ok (.bl b), s)
  | .int i, _, s => some (.ok (.int i), s)
  | .str x, _, s => some (.ok (.str x), s)
  | .gs _ v, _, s => some (.ok (.str v), s)
  | .gi _ v, _, s => some (.ok (.int v), s)
  | .bin o a b, r, s => bnd (ev cf a r s) fun x s => bnd (ev cf b r s) fun y s => lft (binD o x y) s
  | .neg a, r, s => bnd (ev cf a r s) fun x s => match x with
    | .int i => some (.ok (.int (-i)), s)
    | _ => none
  | .not a, r, s => bnd (ev cf a r s) fun x s => lft ((truth s x).map fun b => .bl (!b)) s
  | .and es, r, s => evAnd cf es r s
  | .or es, r, s => evOr cf es r s
  | .cmp o a b, r, s => bnd (ev cf a r s) fun x s => bnd (ev cf b r s) fun y s => lft ((cmpD s o x y).map .bl) s
  | .chn o p a b c, r, s => bnd (ev cf a r s) fun x s => bnd (ev cf b r s) fun y s => match cmpD s o x y with
    | some true => bnd (ev cf c r s) fun z s => lft ((cmpD s p y z).map .bl) s
    | some false => some (.ok (.bl false), s)
    | none => none
  | .ite c a b, r, s => bnd (ev cf c r s) fun x s => match truth s x with
    | some true => ev cf a r s
    | some false => ev cf b r s
    | none => none
  | .tup es, r, s => bnd (evs cf es r s) fun xs s => if xs.length ≤ LIM then some (.ok (.tup xs), s) else none
  | .lst bx es, r, s => bnd (evs cf es r s) fun xs s => mkLz bx xs s
  | .cat bx a b, r, s => bnd (ev cf a r s) fun x s => bnd (ev cf b r s) fun y s => match lcont s x, lcont s y with
    | some xs, some ys => mkLz bx (xs ++ ys) s
    | _, _ => none
  | .idx a b, r, s => bnd (ev cf a r s) fun x s => bnd (ev cf b r s) fun y s => lft (idxD s x y) s
  | .sl bx a lo hi, r, s => bnd (ev cf a r s) fun x s => bnd (evO cf lo r s) fun l s => bnd (evO cf hi r s) fun h s => match x with
    | .str z => if z.length ≤ LIM then some (.ok (.str (cut z l h)), s) else none
    | .tup zs => some (.ok (.tup (cut zs l h)), s)
    | x => match lcont s x with
      | some zs => mkL bx (cut zs l h) s
      | none => none
  | .call f es, r, s => bnd (evs cf es r s) fun xs s => cf "" f xs s
  | .bi b es, r, s => bnd (evs cf es r s) fun xs s => biD s b xs
  | .lrng bx a, r, s => bnd (ev cf a r s) fun x s => lrngD s bx [x]
  | .isi a t, r, s => bnd (ev cf a r s) fun x s => lft ((isiD s x t).map .bl) s
  | .met m o es, r, s => bnd (ev cf o r s) fun x s => if mtOk s m x then bnd (evs cf es r s) fun xs s => metD s m x xs else none
  | .fld o f, r, s => bnd (ev cf o r s) fun x s => match x with
    | .ref n => match s.m n with
      | some (.ins _ fs) => lft (fs.lookup f) s
      | _ => none
    | _ => none
  | .own o m es, r, s => bnd (ev cf o r s) fun x s => match x with
    | .ref n => match s.m n with
      | some (.ins c fs) => match fs.lookup m with
        | none => bnd (evs cf es r s) fun xs s => if c = "" then none else cf c m (x :: xs) s
        | some _ => none
      | _ => none
    | _ => none
  | .mak c es, r, s => bnd (evs cf es r s) fun xs s => bnd (cf c "__init__" (.ref s.nx :: xs) (s.new (.ins c []))) fun v s' => match v with
    | .non => some (.ok (.ref s.nx), s')
    | _ => none
  | .lc bx e tg it c, r, s => bnd (evI cf it r s) fun iv s => match ivLen s iv with
    | none => none
    | some n => bnd (lcN tg iv (evT cf c) (ev cf e) r (n + 1) 0 [] s) fun xs s => mkL bx xs s
  | .frz a, r, s => bnd (ev cf a r s) fun x s => frzD s x
  | .dsp ks vs, r, s => bnd (evs cf vs r s) fun xs s => if xs.length = ks.length ∧ ks.length ≤ 15 then some (.ok (.ref s.nx), s.new (.dic (dmk ks xs))) else none
  | .rpt bx a b, r, s => bnd (ev cf a r s) fun x s => bnd (ev cf b r s) fun y s => match ccont s x, y with
    | some xs, .int k => if -(2 ^ 63) ≤ k ∧ k < 2 ^ 63 ∧ xs.length * k.toNat ≤ LIM then mkL bx (List.replicate k.toNat xs).flatten s else none
    | _, _ => none
  | .rev bx a, r, s => bnd (ev cf a r s) fun x s => match x with
    | .str z => if z.length ≤ LIM then some (.ok (.str z.reverse), s) else none
    | .tup zs => some (.ok (.tup zs.reverse), s)
    | x => match lcont s x with
      | some xs => mkL bx xs.reverse s
      | none => none
  | .dnt, r, s => some (.ok (.ref s.nx), s.new (.dit []))
  | .dnn, r, s => some (.ok (.ref s.nx), s.new (.dnn []))
  | .inn2 a d, r, s => bnd (ev cf a r s) fun x s => bnd (ev cf d r s) fun y s => lft ((nnIn s x y).map .bl) s
  | .lenm bx a, r, s => bnd (ev cf a r s) fun x s => match lcont s x with
    | some xs => mkL bx (enumL 0 xs) s
    | none => none
  | .dst a b, r, s => bnd (ev cf a r (s.new (.dit []))) fun x s1 => bnd (ev cf b r s1) fun y s2 => match keyT x, s2.m s.nx with
    | some k, some (.dit []) => some (.ok (.ref s.nx), s2.put s.nx (.dit [(k, y)]))
    | _, _ => none
  | .fst es, r, s => bnd (evs cf es r s) fun ds s => match fstJ ds with
    | some x => if x.length ≤ LIM then some (.ok (.str x), s) else none
    | none => none
  | .rpl a o y z, r, s => bnd (ev cf a r s) fun x s => bnd (ev cf o r s) fun w s => match x, w with
    | .str x, .str w => if w.length + (w.length + 1) * z.length ≤ LIM ∧ (x ++ (PySem.Txt.replace ⟨w.toArray⟩ ⟨y.toArray⟩ ⟨z.toArray⟩).cps.toList).length ≤ LIM then some (.ok (.str (x ++ (PySem.Txt.replace ⟨w.toArray⟩ ⟨y.toArray⟩ ⟨z.toArray⟩).cps.toList)), s) else none
    | _, _ => none
  | .nint a _ ts, r, s => bnd (ev cf a r s) fun x s => match x with
    | .str z => some (.ok (.bl (!decide (z ∈ ts))), s)
    | _ => none
  | .irp i b y z, r, s => match r[i]? with
    | some (some (.str w)) => if w = [] then some (.ok (.str b), s) else if w.length + (w.length + 1) * z.length ≤ LIM then some (.ok (.str (PySem.Txt.replace ⟨w.toArray⟩ ⟨y.toArray⟩ ⟨z.toArray⟩).cps.toList), s) else none
    | _ => none
  | .lzip bx a b, r, s => bnd (ev cf a r s) fun x s => bnd (ev cf b r s) fun y s => match lcont s x, y with
    | some xs, .str z => mkL bx (zipL xs z) s
    | _, _ => none
  | .sdf d k v, r, s => bnd (ev cf d r s) fun x s => bnd (ev cf k r s) fun y s => bnd (ev cf v r s) fun z s => sdfD s x y z
  | .ltx a, r, s => bnd (ev cf a r s) fun x s => match (lcont s x).bind txts with
    | some ts => if ts.Nodup ∧ ts.length ≤ 60 then some (.ok (.int (ts.length : Nat)), s) else none
    | none => none
  | .denm a, r, s => bnd (ev cf a r s) fun x s => match lcont s x with
    | some xs => some (.ok (.ref s.nx), s.new (.dic ((denL 0 xs).foldl (fun acc kv => dput acc kv.1 kv.2) [])))
    | none => none
  | .sset bx a, r, s => bnd (ev cf a r s) fun x s => match x with
    | .str z => if z.length < 64 then mkL bx ((sortU z).map fun c => .str [c]) s else none
    | x => match lcont s x with
      | some xs => ssetL s bx xs
      | none => none
  | .rps a b, r, s => bnd (ev cf a r s) fun x s => bnd (ev cf b r s) fun y s => match x, y with
    | .str z, .int k => if -1000 ≤ k ∧ k ≤ 1000 ∧ z.length ≤ 1000 then some (.ok (.str (List.replicate k.toNat z).flatten), s) else none
    | _, _ => none
  | .dsi a b, r, s => bnd (ev cf a r s) fun x s => bnd (ev cf b r s) fun y s => match x with
    | .int i => some (.ok (.ref s.nx), s.new (.dic [(.i i, y)]))
    | _ => none
  | .dgv o k d, r, s => bnd (ev cf o r s) fun x s => if (dcont s x).isSome || (tcont s x).isSome then bnd (ev cf k r s) fun y s => bnd (ev cf d r s) fun z s => dgvD s x y z else none
  | .rpr a, r, s => bnd (ev cf a r s) fun x s => lft (reprD s x) s
  | .dsv a b, r, s => bnd (ev cf a r s) fun x s => bnd (ev cf b r s) fun y s => match x with
    | .str z => some (.ok (.ref s.nx), s.new (.dic (dmk [z] [y])))
    | _ => none
  | .lset a, r, s => bnd (ev cf a r s) fun x s => lft ((lcont s x).bind lsetD) s
  | .isit a ts, r, s => bnd (ev cf a r s) fun x s => lft ((isiTD s x ts).map .bl) s
  | .isx a c, r, s => bnd (ev cf a r s) fun x s => lft ((isxD s x [c]).map .bl) s
  | .isxt a cs, r, s => bnd (ev cf a r s) fun x s => lft ((isxD s x cs).map .bl) s
  | .dget _ tab k d, r, s => bnd (ev cf k r s) fun x s => bnd (ev cf d r s) fun y s => dgetD tab x y s
noncomputable def evs (cf : CF) : Es → Sl → S → R (List D)
  | .nil, _, s => some (.ok [], s)
  | .cons e t, r, s => bnd (ev cf e r s) fun x s => bnd (evs cf t r s) fun xs s => some (.ok (x :: xs), s)
noncomputable def evAnd (cf : CF) : Es → Sl → S → R D
  | .nil, _, _ => none
  | .cons e .nil, r, s => ev cf e r s
  | .cons e (.cons e' t), r, s => bnd (ev cf e r s) fun x s => match x with
    | .bl true => evAnd cf (.cons e' t) r s
    | .bl false => some (.ok (.bl false), s)
    | _ => none
noncomputable def evOr (cf : CF) : Es → Sl → S → R D
  | .nil, _, _ => none
  | .cons e .nil, r, s => ev cf e r s
  | .cons e (.cons e' t), r, s => bnd (ev cf e r s) fun x s => match x with
    | .bl true => some (.ok (.bl true), s)
    | .bl false => evOr cf (.cons e' t) r s
    | _ => none
noncomputable def evO (cf : CF) : Oe → Sl → S → R (Option Int)
  | .no, _, s => some (.ok none, s)
  | .so e, r, s => bnd (ev cf e r s) fun x s => match x with
    | .int i => some (.ok (some i), s)
    | _ => none
/-- a clause's test -/
noncomputable def evT (cf : CF) : Oe → Sl → S → R Bool
  | .no, _, s => some (.ok true, s)
  | .so e, r, s => bnd (ev cf e r s) fun x s => lft (truth s x) s
noncomputable def evI (cf : CF) : It → Sl → S → R Iv
  | .seq e, r, s => bnd (ev cf e r s) fun x s => match lcont s x with
    | some _ => some (.ok (.seq x), s)
    | none => none
  | .any e, r, s => bnd (ev cf e r s) fun x s => match x with
    | .tup xs => some (.ok (.seq (.tup xs)), s)
    | x => match lcont s x with
      | some _ => some (.ok (.seq x), s)
      | none => none
  | .tup e, r, s => bnd (ev cf e r s) fun x s => match x with
    | .tup xs => some (.ok (.seq (.tup xs)), s)
    | _ => none
  | .str e, r, s => bnd (ev cf e r s) fun x s => match x with
    | .str xs => some (.ok (.seq (.str xs)), s)
    | _ => none
  | .rng e, r, s => bnd (ev cf e r s) fun x s => match x with
    | .int j => if j < 2 ^ 62 ∧ -(2 ^ 62) ≤ j then some (.ok (.rng 0 j.toNat), s) else none
    | _ => none
  | .rng2 a b, r, s => bnd (ev cf a r s) fun x s => bnd (ev cf b r s) fun y s => match x, y with
    | .int i, .int j => if i < 2 ^ 62 ∧ -(2 ^ 62) ≤ i ∧ j < 2 ^ 62 ∧ -(2 ^ 62) ≤ j then some (.ok (.rng i (j - i).toNat), s) else none
    | _, _ => none
  | .enm e, r, s => bnd (ev cf e r s) fun x s => match lcont s x with
    | some _ => some (.ok (.enm x), s)
    | none => none
  | .ens e, r, s => bnd (ev cf e r s) fun x s => match x with
    | .str z => some (.ok (.ens z), s)
    | _ => none
  | .zip a b, r, s => bnd (ev cf a r s) fun x s => bnd (ev cf b r s) fun y s => match lcont s x, lcont s y with
    | some _, some _ => some (.ok (.zip x y), s)
    | _, _ => none
  | .zips a b, r, s => bnd (ev cf a r s) fun x s => bnd (ev cf b r s) fun y s => match lcont s x, y with
    | some _, .str z => some (.ok (.zips x z), s)
    | _, _ => none
end
inductive Fw where
  | nx | bk | ct
  | rt (d : D)
  | rz (c : String)
/-- a call that may raise -/
inductive Xe where
  | call (f : String) (es : Es)
  | own (o : E) (m : String) (es : Es)
  | ite (c : E) (a b : Xe)
  | lst2 (a b : Xe)
  | lst3 (a b c : Xe)
  | pick (f g : String) (i : E) (es : Es)
  | xc1 (f : String) (x : Xe)
mutual
inductive C where
  | asg (i : Nat) (e : E)
  | tpa (is : List Nat) (e : E)
  | tpl (is : List Nat) (e : E)
  | par (i j : Nat) (a b : E)
  | par3 (i j l : Nat) (a b c : E)
  | aug (i : Nat) (o : Bop) (e : E)
  | seti (o i e : E)
  | augi (o i : E) (p : Bop) (e : E)
  | setf (o : E) (f : String) (e : E)
  | augf (o : E) (f : String) (p : Bop) (e : E)
  | exp (e : E)
  | ret (e : E)
  | retn
  | ite (c : E) (a b : Cs)
  | for (tg : Tg) (it : It) (b : Cs)
  | whl (c : E) (b : Cs)
  | brk
  | cnt
  | pas
  | rse (c : String)
  | rz (c : String)
  | xexp (x : Xe)
  | xasg (i : Nat) (x : Xe)
  | xret (x : Xe)
  | xsetf (o : E) (f : String) (x : Xe)
  | tryc (b : Cs) (c : String) (i j : Nat)
  | tryk (b : Cs) (c : String) (j : Nat)
  | tryh (b : Cs) (c : String) (i : Nat) (hs : List (Nat × Hx))
  | ford (i j : Nat) (b : Cs)
  | setn (d k : E)
  | tryn (b : Cs) (c : String)
  | try2 (b : Cs) (c1 : String) (x1 : List Nat) (c2 : String) (x2 : List Nat) (i : Nat)
  | rpd (i : Nat) (o : E) (y z : List Nat)
inductive Cs where
  | nil
  | cons (c : C) (r : Cs)
end
noncomputable abbrev XR := R (Fw × Sl)
noncomputable def dkD : DK → D
  | .i i => .int i
  | .s x => .str x
/-- the keys of a dict with tuples as keys -/
noncomputable def ditKs (kvs : List (List DK × D)) : D := .tup (kvs.map fun kv => .tup (kv.1.map dkD))
/-- behind a loop over a dict it may be written again -/
noncomputable def unlk (n : Nat) (kvs : List (List DK × D)) (p : Fw × Sl) (s : S) : XR := match p.1 with
  | .rz _ => none
  | _ => match s.m n with
    | none => some (.ok p, s.put n (.dit kvs))
    | some _ => none
/-- what is not raised -/
noncomputable def bnn {α β : Type} (x : R α) (f : α → S → R β) : R β :=
  match x with
  | some (.ok a, s) => f a s
  | _ => none
theorem bnn_inv {α β : Type} {x : R α} {f : α → S → R β} {b : Rs β × S} (h : bnn x f = some b) : ∃ a s, x = some (.ok a, s) ∧ f a s = some b := by
  unfold bnn at h
  split at h
  · exact ⟨_, _, rfl, h⟩
  · cases h
noncomputable def ownX (s : S) (m : String) (x : D) (k : String → R D) : R D := match x with
  | .ref n => match s.m n with
    | some (.ins c fs) => match fs.lookup m with
      | none => if c = "" then none else k c
      | some _ => none
    | _ => none
  | _ => none
/-- one of two defs, by a number -/
noncomputable def pickF (f g : String) : D → Option String
  | .int i => if i = 0 then some f else if i = 1 then some g else none
  | _ => none
noncomputable def evx (cf : CF) : Xe → Sl → S → R D
  | .call f es, r, s => bnn (evs cf es r s) fun xs s => cf "" f xs s
  | .own o m es, r, s => bnn (ev cf o r s) fun x s => ownX s m x fun c => bnn (evs cf es r s) fun xs s => cf c m (x :: xs) s
  | .ite c a b, r, s => bnn (ev cf c r s) fun x s => match truth s x with
    | some true => evx cf a r s
    | some false => evx cf b r s
    | none => none
  | .lst2 a b, r, s => bnd (evx cf a r s) fun x s => bnd (evx cf b r s) fun y s => mkLz false [x, y] s
  | .lst3 a b c, r, s => bnd (evx cf a r s) fun x s => bnd (evx cf b r s) fun y s => bnd (evx cf c r s) fun z s => mkLz false [x, y, z] s
  | .pick f g i es, r, s => bnn (ev cf i r s) fun k s => match pickF f g k with
    | some h => bnn (evs cf es r s) fun xs s => cf "" h xs s
    | none => none
  | .xc1 f x, r, s => bnd (evx cf x r s) fun d s => cf "" f [d] s
noncomputable def bnr (q : R D) (r : Sl) (k : D → S → XR) : XR :=
  match q with
  | some (.ok d, s) => k d s
  | some (.er c, s) => some (.ok (.rz c, r), s)
  | none => none
noncomputable def forN (tg : Tg) (iv : Iv) (body : Sl → S → XR) : Nat → Nat → Sl → S → XR
  | 0, _, _, _ => none
  | m + 1, i, r, s => match ivLen s iv with
    | none => none
    | some n => if i < n then match ivGet s i iv with
      | none => none
      | some x => match tgSet s tg x r with
        | none => none
        | some r' => bnd (body r' s) fun p s => match p with
          | (.nx, r) => forN tg iv body m (i + 1) r s
          | (.ct, r) => forN tg iv body m (i + 1) r s
          | (.bk, r) => some (.ok (.nx, r), s)
          | (.rt d, r) => some (.ok (.rt d, r), s)
          | (.rz c, r) => some (.ok (.rz c, r), s)
      else some (.ok (.nx, r), s)
noncomputable def whlN (tst : Sl → S → R D) (body : Sl → S → XR) : Nat → Sl → S → XR
  | 0, _, _ => none
  | m + 1, r, s => bnd (tst r s) fun x s => match truth s x with
    | some true => bnd (body r s) fun p s => match p with
      | (.nx, r) => whlN tst body m r s
      | (.ct, r) => whlN tst body m r s
      | (.bk, r) => some (.ok (.nx, r), s)
      | (.rt d, r) => some (.ok (.rt d, r), s)
      | (.rz c, r) => some (.ok (.rz c, r), s)
    | some false => some (.ok (.nx, r), s)
    | none => none
noncomputable def WF : Nat := 1000000
noncomputable def setF (f : String) (v : D) : List (String × D) → List (String × D)
  | [] => [(f, v)]
  | (g, x) :: r => if g = f then (g, v) :: r else (g, x) :: setF f v r
mutual
noncomputable def ex (cf : CF) : C → Sl → S → XR
  | .asg i e, r, s => bnd (ev cf e r s) fun x s => some (.ok (.nx, r.set i (some x)), s)
  | .tpa is e, r, s => bnd (ev cf e r s) fun x s => match x with
    | .tup xs => match setAll is xs r with
      | some r' => some (.ok (.nx, r'), s)
      | none => none
    | _ => none
  | .tpl is e, r, s => bnd (ev cf e r s) fun x s => match lcont s x with
    | some xs => match setAll is xs r with
      | some r' => some (.ok (.nx, r'), s)
      | none => none
    | none => none
  | .par i j a b, r, s => bnd (ev cf a r s) fun x s => bnd (ev cf b r s) fun y s => some (.ok (.nx, (r.set i (some x)).set j (some y)), s)
  | .par3 i j l a b c, r, s => bnd (ev cf a r s) fun x s => bnd (ev cf b r s) fun y s => bnd (ev cf c r s) fun z s => some (.ok (.nx, ((r.set i (some x)).set j (some y)).set l (some z)), s)
  | .aug i o e, r, s => match r[i]? with
    | some (some (.int a)) => bnd (ev cf e r s) fun y s => match y with
      | .int b => match o with
        | .add => some (.ok (.nx, r.set i (some (.int (a + b)))), s)
        | .sub => some (.ok (.nx, r.set i (some (.int (a - b)))), s)
        | _ => none
      | _ => none
    | _ => none
  | .seti o i e, r, s => bnd (ev cf e r s) fun v s => bnd (ev cf o r s) fun x s => bnd (ev cf i r s) fun k s => match x with
    | .ref n => match s.m n with
      | some (.lst xs) => match k with
        | .int k => match ixN xs.length k with
          | some j => some (.ok (.nx, r), s.put n (.lst (xs.set j v)))
          | none => none
        | _ => none
      | some (.dic kvs) => match keyOf k with
        | some k => if kvs.length < LIM then some (.ok (.nx, r), s.put n (.dic (dput kvs k v))) else none
        | none => none
      | some (.dit kvs) => match keyT k with
        | some k => if kvs.length < LIM then some (.ok (.nx, r), s.put n (.dit (dput kvs k v))) else none
        | none => none
      | _ => none
    | _ => none
  | .augi o i p e, r, s => bnd (ev cf o r s) fun x s => bnd (ev cf i r s) fun k s => match x, k with
    | .ref n, .int k => match s.m n with
      | some (.lst xs) => match atI xs k with
        | some (.int a) => bnd (ev cf e r s) fun y s => match y with
          | .int b => match s.m n with
            | some (.lst ys) => match ixN ys.length k with
              | some j => match p with
                | .add => some (.ok (.nx, r), s.put n (.lst (ys.set j (.int (a + b)))))
                | .sub => some (.ok (.nx, r), s.put n (.lst (ys.set j (.int (a - b)))))
                | _ => none
              | none => none
            | _ => none
          | _ => none
        | _ => none
      | _ => none
    | _, _ => none
  | .setf o f e, r, s => bnd (ev cf e r s) fun v s => bnd (ev cf o r s) fun x s => match x with
    | .ref n => match s.m n with
      | some (.ins c fs) => if fs.length < 900 then some (.ok (.nx, r), s.put n (.ins c (setF f v fs))) else none
      | _ => none
    | _ => none
  | .augf o f p e, r, s => bnd (ev cf o r s) fun x s => match x with
    | .ref n => match s.m n with
      | some (.ins c0 fs) => match fs.lookup f with
        | some (.int a) => bnd (ev cf e r s) fun y s => match y with
          | .int b => match s.m n with
            | some (.ins c fs) => if c = c0 ∧ fs.length < 900 then match p with
              | .add => some (.ok (.nx, r), s.put n (.ins c (setF f (.int (a + b)) fs)))
              | .sub => some (.ok (.nx, r), s.put n (.ins c (setF f (.int (a - b)) fs)))
              | _ => none
              else none
            | _ => none
          | _ => none
        | _ => none
      | _ => none
    | _ => none
  | .exp e, r, s => bnd (ev cf e r s) fun _ s => some (.ok (.nx, r), s)
  | .ret e, r, s => bnd (ev cf e r s) fun x s => some (.ok (.rt x, r), s)
  | .retn, r, s => some (.ok (.rt .non, r), s)
  | .ite c a b, r, s => bnd (ev cf c r s) fun x s => match truth s x with
    | some true => exs cf a r s
    | some false => exs cf b r s
    | none => none
  | .for tg it b, r, s => bnd (evI cf it r s) fun iv s => match ivLen s iv with
    | none => none
    | some n => forN tg iv (exs cf b) (n + 1) 0 r s
  | .whl c b, r, s => whlN (ev cf c) (exs cf b) WF r s
  | .brk, r, s => some (.ok (.bk, r), s)
  | .cnt, r, s => some (.ok (.ct, r), s)
  | .pas, r, s => some (.ok (.nx, r), s)
  | .rse c, _, s => some (.er c, s)
  | .rz c, r, s => some (.ok (.rz c, r), s)
  | .xexp x, r, s => bnr (evx cf x r s) r fun _ s => some (.ok (.nx, r), s)
  | .xasg i x, r, s => bnr (evx cf x r s) r fun d s => some (.ok (.nx, r.set i (some d)), s)
  | .xret x, r, s => bnr (evx cf x r s) r fun d s => some (.ok (.rt d, r), s)
  | .xsetf o f x, r, s => bnr (evx cf x r s) r fun v s => bnd (ev cf o r s) fun x s => match x with
    | .ref n => match s.m n with
      | some (.ins c fs) => if fs.length < 900 then some (.ok (.nx, r), s.put n (.ins c (setF f v fs))) else none
      | _ => none
    | _ => none
  | .tryc b c i j, r, s => bnd (exs cf b r s) fun p s => match p with
    | (.rz k, r') => if subE k c then some (.ok (.nx, ((r'.set i (some (.ref s.nx))).set j (some (.ref s.nx))).set i none), s.new (.exc k)) else some (.ok (.rz k, r'), s)
    | p => some (.ok p, s)
  | .tryk b c j, r, s => bnd (exs cf b r s) fun p s => match p with
    | (.rz k, r') => if subE k c then some (.ok (.nx, r'.set j (some (.bl true))), s) else some (.ok (.rz k, r'), s)
    | p => some (.ok p, s)
  | .tryh b c i hs, r, s => bnd (exs cf b r s) fun p s => match p with
    | (.rz k, r') => if subE k c then (match hxAll k hs (r'.set i none) with
      | some r2 => if i < r'.length then some (.ok (.nx, r2.set i none), s) else none
      | none => none) else some (.ok (.rz k, r'), s)
    | p => some (.ok p, s)
  | .setn d k, r, s => bnd (ev cf d r s) fun y s => bnd (ev cf k r s) fun x s => match y with
    | .ref n => match s.m n with
      | some (.dnn ks) => match keyTT x with
        | some q => if ks.length < LIM then some (.ok (.nx, r), s.put n (.dnn (nnPut ks q))) else none
        | none => none
      | _ => none
    | _ => none
  | .tryn b _, r, s => bnd (exs cf b r s) fun p s => match p with
    | (.rz _, _) => none
    | p => some (.ok p, s)
  | .try2 b c1 x1 c2 x2 i, r, s => bnd (exs cf b r s) fun p s => match p with
    | (.rz k, r') => if subE k c1 then some (.ok (.nx, r'.set i (some (.str x1))), s) else if subE k c2 then some (.ok (.nx, r'.set i (some (.str x2))), s) else some (.ok (.rz k, r'), s)
    | p => some (.ok p, s)
  | .rpd i o y z, r, s => bnd (ev cf o r s) fun x s => match x with
    | .str w => if w.length + (w.length + 1) * z.length ≤ LIM then some (.ok (.nx, r.set i (some (.str (PySem.Txt.replace ⟨w.toArray⟩ ⟨y.toArray⟩ ⟨z.toArray⟩).cps.toList))), s) else none
    | _ => none
  | .ford i j b, r, s => match r[j]? with
    | some (some (.ref n)) => match s.m n with
      | some (.dit kvs) => bnd (forN (.nm i) (.seq (ditKs kvs)) (exs cf b) (kvs.length + 1) 0 r (s.kill n)) (unlk n kvs)
      | _ => none
    | _ => none
noncomputable def exs (cf : CF) : Cs → Sl → S → XR
  | .nil, r, s => some (.ok (.nx, r), s)
  | .cons c t, r, s => bnd (ex cf c r s) fun p s => match p with
    | (.nx, r) => exs cf t r s
    | (.bk, r) => some (.ok (.bk, r), s)
    | (.ct, r) => some (.ok (.ct, r), s)
    | (.rt d, r) => some (.ok (.rt d, r), s)
    | (.rz c, r) => some (.ok (.rz c, r), s)
end
/-- a def: its class ("" of none), its name, how many parameters, how many names, its body -/
structure Fn where
  np : Nat
  ns : Nat
  body : Cs
 set_option genInjectivity true
 set_option genSizeOfSpec true
noncomputable abbrev Prg := String → String → Option Fn
noncomputable def fnRun (F : Fn) (cf : CF) (ds : List D) (s : S) : R D :=
  if ds.length = F.np then bnn (exs cf F.body (ds.map some ++ List.replicate (F.ns - F.np) none) s) fun p s => match p with
    | (.rt d, _) => some (.ok d, s)
    | (.nx, _) => some (.ok .non, s)
    | (.rz c, _) => some (.er c, s)
    | _ => none
  else none
noncomputable def callF (P : Prg) : Nat → CF
  | 0, _, _, _, _ => none
  | k + 1, c, f, ds, s => match P c f with
    | some F => fnRun F (callF P k) ds s
    | none => none
end Fl
namespace Fl
open PySem L2 PySem.Spec PyProof.Rows
/-- room, and no guard stands -/
structure RmG (k : Nat) (A : Around) : Prop where
  rm : Room k A
  gd : A.guards = some []
  big : A.units + 16 * k + 4500 < cLine
theorem RmG.mono {j k : Nat} {A : Around} (r : RmG k A) (h : j ≤ k) : RmG j A := ⟨r.rm.mono h, r.gd, by have := r.big; omega⟩
theorem RmG.deeper {k : Nat} {A : Around} (r : RmG (k + 1) A) (env : Env) : RmG k (A.deeper env) := ⟨r.rm.deeper env, r.gd, by have := r.big; show A.units + 3 + _ + _ < _; omega⟩
theorem RmG.make {k : Nat} {A : Around} (r : RmG (k + 1) A) (C : Addr) (us : List Value) : RmG k (A.under (.builtin "type.__call__" ⟨.ref C :: us, []⟩)) := by
  refine ⟨r.rm.make C us [], ?_, by have := r.big; rw [make_units]; omega⟩
  have e : (A.under (.builtin "type.__call__" ⟨.ref C :: us, []⟩)).guards = A.guards := by simp [Around.under, Code.guards, Code.isGuard, guardIds, pushGuards]
  rw [e]
  exact r.gd
structure FnG (P : Program) (w : World) (K : PySem.W.Frag) (mg : Str → Option Value) (base : Heap) (CX : CXT) (k : Nat) (f : Addr) (fd : FuncData) (ps : List Str) (sp : Sp) : Prop where
  len : ∀ vs H Q E, sp vs H Q E → vs.length = ps.length
  go : ∀ (A : Around) (fr : List Env) (s : Shared) (H : Hp) (ar : Args) (us : List Value) (vs : List V) (Q : VK) (E : XK), RmG k A → Env0 P w K mg base A fr s H → BindsTo s fd ar (ps.zip us) → Vals vs us → sp vs H Q E →
    codeAny (model P w) A (.call (.ref f) ar) (CR CX fr P w H s Q E) s
theorem FnG.imp {P : Program} {w : World} {K : PySem.W.Frag} {mg : Str → Option Value} {base : Heap} {CX : CXT} {k : Nat} {f : Addr} {fd : FuncData} {ps : List Str} {sp sp' : Sp} (F : FnG P w K mg base CX k f fd ps sp) (h : ∀ vs H Q E, sp' vs H Q E → sp vs H Q E) : FnG P w K mg base CX k f fd ps sp' :=
  ⟨fun vs H Q E q => F.len vs H Q E (h vs H Q E q), fun A fr s H ar us vs Q E a b c d q => F.go A fr s H ar us vs Q E a b c d (h vs H Q E q)⟩
theorem RmG.un {k : Nat} {A : Around} (r : RmG k A) : A.units + 4499 < cLine := by have := r.big; omega
/-- what a call of the def at f comes to in the context X -/
noncomputable def Runs (X : Cx) (f : Addr) (E : L2.St → XK) (sp : Sp) : Prop := ∀ (pins : List (Addr × Obj)) (σ : L2.St) (H : Hp) (s : Shared) (Q : VK) (us : List Value) (vs : List V), Inv X pins σ H s → Vals vs us → sp vs H Q (E σ) →
  wpAny (model X.prog X.w) X.A (call (.ref f) us) (EP X pins σ Q) X.xe s
section
variable {X : Cx} {CX : CXT} {k : Nat} {f C : Addr} {fd : FuncData} {ps : List Str} {sp : Sp} {E : L2.St → XK} {x m : Str} {p pos apos : Pos} {e o : Expr} {es : List Expr} {ta : TE} {t : TA}
theorem passAt0 {σ : L2.St} : PassesAt CX0 X σ E0 := fun pins H s e s' I h => pass0 pins σ H s e s' I h
theorem cr_after {pins : List (Addr × Obj)} {σ : L2.St} {H : Hp} {s s' : Shared} {Q : VK} {E1 : XK} {r : Result} (I : Inv X pins σ H s) (hx : PassesAt CX X σ E1) (h : CR CX X.stack X.prog X.w H s Q E1 r s') :
    (∃ u, r = .ok (.ret u) ∧ EP X pins σ Q u s') ∨ (∃ e, r = .error e ∧ X.xe e s') := by
  match r, h with
  | .ok (.ret u), h => exact .inl ⟨u, rfl, I.after h⟩
  | .error e, h => exact .inr ⟨e, rfl, hx pins H s e s' I h⟩
  | .ok .next, h => exact h.elim
  | .ok .brk, h => exact h.elim
  | .ok .cont, h => exact h.elim
theorem FnG.runs (F : FnG X.prog X.w X.K X.mg X.base CX k f fd ps sp) (hr : RmG k X.A) (hb : Binds X.K fd ps []) (hx : ∀ σ, PassesAt CX X σ (E σ)) : Runs X f E sp := by
  intro pins σ H s Q us vs I rv h
  have hn : us.length = ps.length := rv.length ▸ F.len _ _ _ _ h
  have bd := hb s us I.kIn (by rw [List.append_nil, hn])
  rw [List.append_nil] at bd
  refine wpAny_call (codeAny_mono (F.go X.A X.stack s H ⟨us, []⟩ us vs Q (E σ) hr I.env0 bd rv h) fun z s' q => ?_)
  rcases cr_after I (hx σ) q with ⟨u, rfl, q'⟩ | ⟨e, rfl, q'⟩
  · exact q'
  · exact q'
/-- f(..) by what its call comes to -/
noncomputable def tGo (sp : Sp) (E : L2.St → XK) (t : TA) : TE := fun σ H Q => t σ H fun vs H1 => sp vs H1 Q (E σ)
theorem pg_call (R : Runs X f E sp) (hg : Gl X x) (hm : X.mg x = some (.ref f)) (hk : PySem.W.keepIn X.K (.ref f) = true) (ha : PA X (e :: es) t) (hdb : (x == ("__debug__" : Str)) = false)
    (he : starEach (e :: es) X.env = (false, eval e X.env) :: starEach es X.env) (hpl : (backTo pos (starEach es X.env)).any (·.1) = false) : PE X (.Call (.Name x p) (e :: es) [] pos) (tGo sp E t) :=
  ⟨fun pins s σ H Q I h => wpAny_Call_Name_kw (ld_glob I hg hm (PySem.W.callWith_K (h₀ := X.base) I.ok.mod.kin hk (thn (ha.run pos pins s σ H _ I h) fun us s1 ⟨vs, H1, I1, rv, q⟩ => ⟨I1.kIn, R pins σ H1 s1 Q us vs I1 rv q⟩) he hpl) hdb)⟩
theorem pg_call0 (R : Runs X f E sp) (hg : Gl X x) (hm : X.mg x = some (.ref f)) (hk : PySem.W.keepIn X.K (.ref f) = true) (hdb : (x == ("__debug__" : Str)) = false) : PE X (.Call (.Name x p) [] [] pos) (tGo sp E tNil) :=
  ⟨fun pins s σ H Q I h => wpAny_Call_Name_kw (ld_glob I hg hm (PySem.W.callWith_K0 I.kIn hk (R pins σ H s Q [] [] I .nil h)) hdb)⟩
/-- C(..): the new instance, then its __init__ -/
noncomputable def mkSp (C : Addr) (sp : Sp) : Sp := fun vs H Q E => ∀ a dx, H a = none → H dx = none → dx ≠ a → sp (.ref a :: vs) (upd (upd H dx (.own a)) a (.ins C dx [])) (fun v H2 => v = .non ∧ Q (.ref a) H2) E
theorem FnG.makes (M : Mk X.K C f) (F : FnG X.prog X.w X.K X.mg X.base CX k f fd ps sp) (hr : RmG (k + 1) X.A) (hb : Binds X.K fd ps []) (hx : ∀ σ, PassesAt CX X σ (E σ)) : Runs X C E (mkSp C sp) := by
  intro pins σ H s Q us vs I rv h
  have J := Inv.made (C := C) I
  have hq := h (s.heap.objs.size + 1) s.heap.objs.size (I.hok.fresh (Nat.le_succ _)) (I.hok.fresh (Nat.le_refl _)) (Nat.ne_of_lt (Nat.lt_succ_self _))
  have rv2 : Vals (V.ref (s.heap.objs.size + 1) :: vs) (Value.ref (s.heap.objs.size + 1) :: us) := .cons rfl rv
  have hn : (Value.ref (s.heap.objs.size + 1) :: us).length = ps.length := rv2.length ▸ F.len _ _ _ _ hq
  have bd := fun z (KI : X.K.In z.heap) => hb z (Value.ref (s.heap.objs.size + 1) :: us) KI (by rw [List.append_nil, hn])
  simp only [List.append_nil] at bd
  refine wpAny_call (make_map (f := f) I.kIn M.makes M.init (beq_iff_eq.mp M.fn) (codeAny_mono (F.go _ X.stack _ _ ⟨Value.ref (s.heap.objs.size + 1) :: us, []⟩ _ _ _ (E σ) (hr.make C us) (J.env0.make C us []) (bd _ J.kIn) rv2 hq) fun z s' q => ?_))
  rcases cr_after J (hx σ) q with ⟨u, rfl, v, H', J3, r3, rfl, q3⟩ | ⟨e, rfl, qe⟩
  · exact ⟨r3, V.ref (s.heap.objs.size + 1), H', J3, rfl, q3⟩
  · exact qe
end
/-- a def's promise by its body -/
theorem fn_g {CX : CXT} {P : Program} {w : World} {K : PySem.W.Frag} {mg : Str → Option Value} {base : Heap} {x qual : Str} {st : Stmt} {f : Addr} {fd : FuncData} {N ps : List Str} {k : Nat} {sp : Sp} (F : Fun K x qual st f fd) (S : FnScope N ps (defScope st))
    (len : ∀ vs H Q E, sp vs H Q E → vs.length = ps.length)
    (hbody : ∀ (cd : Value) (A : Around) (fr : List Env) (s : Shared) (H : Hp) (vs : List V) (Q : VK) (E : XK), RmG k (A.deeper (envOfC qual (defScope st) s.heap.objs.size f cd)) → sp vs H Q E →
      ∃ t, PSs (cxOf CX P w K mg base N qual (defScope st) f cd A fr s H E) (defBody st) t ∧ t { nx := fun _ H' => Q .non H', rt := Q } (start N vs) H) : FnG P w K mg base CX (k + 1) f fd ps sp := by
  obtain ⟨oc, od, kV, doc, pm, an, cd, ct, osl, rfl, lk, hcd⟩ := F.ex
  refine ⟨len, fun A fr s H ar us vs Q E hr e0 hb rv hsp => ?_⟩
  have old : ∀ b o, base.get? b = some o → s.heap.get? b = some o := fun b o e => (e0.bs b o e).1
  have KX : K.In s.heap := e0.mod.kin.keeps old
  refine codeAny_call_function hr.rm.depth (KX _ _ lk) rfl S.co S.gen rfl (PySem.W.codeRec_of KX hcd) (hb _ _ _ _ (wpAny_newFunctionEnv_cells S.kind (fun ⟨n, v⟩ hy => ?_) fun env he s1 ic => ?_))
  · rcases S.par n (List.of_mem_zip hy).1 with q | q
    · exact .inl q
    · exact .inr ⟨q, PySem.W.cellsFrom_some _ _ _ (.inl q)⟩
  · subst he
    obtain ⟨t, ht, hq⟩ := hbody cd A fr s H vs Q E (hr.deeper _) hsp
    refine ⟨(e0.mod.nolimit.keeps old).keeps ic.toInCall.keep, codeAny_func (wpAny_mono (ht.run [] s1 (start N vs) H _ (inv_start S hr.rm.hd e0 (len _ _ _ _ hsp) rv ic) hq) (fun fl s' hs => ?_) fun e s' hs => hs)⟩
    match fl, hs with
    | .ret u, ⟨v, _, H', J, rv', q⟩ => exact ⟨v, H', J.os, J.bare, J.base, J.hok, rv', q⟩
    | .next, ⟨_, H', J, q⟩ => exact ⟨.non, H', J.os, J.bare, J.base, J.hok, rfl, q⟩
    | .brk, ⟨_, _, _, q⟩ => exact q.elim
    | .cont, ⟨_, _, _, q⟩ => exact q.elim
/-- the law's call, at the heap behind the top -/
theorem law_g {P : Program} {w : World} {K : PySem.W.Frag} {mg mb : Str → Option Value} {CX : CXT} {k : Nat} {fa a : Addr} {fd : FuncData} {x : Str} {sp : Sp} {s₁ : Shared} {vs : List Value} {ns : List Int}
    (KX : K.In s₁.heap) (hns : s₁.heap.Ns mainGlobals mg) (hb : s₁.heap.Ns builtinsNs mb) (hbb : ∀ x : Str, x ≠ "__name__" → mb x = bootBuiltins x) (hlim : s₁.heap.NoLimit) (hg : s₁.gens = #[])
    (ha : s₁.heap.get? a = some { cls := .type "list", data := .seq vs.toArray }) (hi : IntsAre vs ns) (hl : ns.length ≤ sizeLine) (hr : RmG k callerA)
    (F : ∀ base : Heap, FnG P w K mg base CX k fa fd [x] sp) (hbind : ∀ (s : Shared) (u : Value), BindsTo s fd ⟨[u], []⟩ [(x, u)])
    (hsp : ∀ H : Hp, SqL K H a (ns.map V.int) → sp [.ref a] H (fun v _ => v = .bl true) fun _ _ _ => False)
    (hCX : ∀ H e s', CX [] H s₁ (fun _ _ _ => False) e s' → False) :
    codeAny (model P w) callerA (.call (.ref fa) ⟨[.ref a], []⟩) (fun r s' => r = .ok (.ret (.bool true)) ∧ OldK s₁.heap s'.heap ∧ s'.os = s₁.os ∧ AllBare s'.gens) s₁ := by
  have rv := vals_ints hi
  have hlen := hi.length
  have main : ∀ H : Hp, (∀ b, H b = none ∨ (b = a ∧ K.lookup a = none ∧ ∃ ys, H b = some (.frz { cls := .type "list", data := .seq vs.toArray } (.lst ys)))) → SqL K H a (ns.map V.int) → HOk P w H s₁.heap →
      codeAny (model P w) callerA (.call (.ref fa) ⟨[.ref a], []⟩) (fun r s' => r = .ok (.ret (.bool true)) ∧ OldK s₁.heap s'.heap ∧ s'.os = s₁.os ∧ AllBare s'.gens) s₁ := by
    intro H hO hS hok
    have isD : ∀ {b : Addr} {o : Obj} {es : Array DictEntry} {ep : Nat}, s₁.heap.get? b = some o → o.data = .dict es ep → H b = none := fun {b o es ep} e d => by
      rcases hO b with z | ⟨rfl, _, _⟩
      · exact z
      · rw [ha] at e
        cases e
        cases d
    have nsK : ∀ {b : Addr} {m : Str → Option Value}, s₁.heap.Ns b m → (hidT s₁.heap H).Ns b m := fun {b m} ⟨o, es, ep, e, d, r⟩ => ⟨o, es, ep, hidT_get e (isD e d), d, r⟩
    have hK : K.In (hidT s₁.heap H) := fun b o e => hidT_get (KX b o e) (by
      rcases hO b with z | ⟨rfl, z, _⟩
      · exact z
      · rw [z] at e
        cases e)
    have md : Mod K mg (hidT s₁.heap H) := ⟨hK, nsK hns, ⟨mb, nsK hb, hbb⟩, let ⟨mc, h1, h2⟩ := hlim; ⟨mc, nsK h1, h2⟩⟩
    have e0 : Env0 P w K mg (hidT s₁.heap H) callerA [] s₁ H := ⟨rfl, md, fun b o e => of_hidT e, Nat.le_of_eq (hidT_size _ _), trivial, fun b z => absurd (show b ∈ ([] : List Addr) from z) List.not_mem_nil, hok, .of_eq hg⟩
    refine codeAny_mono ((F _).go callerA [] s₁ H ⟨[.ref a], []⟩ [.ref a] [.ref a] _ _ hr e0 (hbind s₁ (.ref a)) (.cons rfl .nil) (hsp H hS)) fun r s' h => ?_
    match r, h with
    | .error e, h => exact (hCX H e s' h).elim
    | .ok .next, h => exact h.elim
    | .ok .brk, h => exact h.elim
    | .ok .cont, h => exact h.elim
    | .ok (.ret u), ⟨v, H', os, bare, un, hok', ru, q⟩ =>
      cases (show v = .bl true from q)
      cases (show u = Value.bool true from ru)
      refine ⟨rfl, OldK.of_keep fun b o e => ?_, os, bare⟩
      rcases hO b with z | ⟨rfl, _, ys, z⟩
      · exact un.keep b o e z (fun y => absurd (show b ∈ ([] : List Addr) from y) List.not_mem_nil) List.not_mem_nil
      · have z1 := (hok b _ z).1
        have z2 := (hok' b _ (un.frzs b _ _ z)).1
        rw [e] at z1
        cases z1
        exact z2
  cases hk : K.lookup a with
  | some o =>
    have e := KX a o hk
    rw [ha] at e
    cases e
    exact main (fun _ => none) (fun _ => .inl rfl) (.inr ⟨_, vs.toArray, _, hk, rfl, rfl, rfl, by rw [List.size_toArray, hlen]; exact hl, by simpa using rv⟩) fun b u z => nomatch z
  | none =>
    let L : HO := .frz { cls := .type "list", data := .seq vs.toArray } (.lst (ns.map V.int))
    refine main (fun b => if b = a then some L else none) (fun b => ?_) (.inl (.inr ⟨{ cls := .type "list", data := .seq vs.toArray }, if_pos rfl⟩)) fun b u z => ?_
    · by_cases h : b = a
      · exact .inr ⟨h, hk, _, if_pos h⟩
      · exact .inl (if_neg h)
    · by_cases h : b = a
      · cases (if_pos h).symm.trans z
        subst h
        exact ⟨ha, by rw [List.length_map]; exact hl, vs, _, rv, ha⟩
      · cases (if_neg h).symm.trans z
theorem walk_g {l : PySem.W.OpenLaw} {n k : Nat} {q : Program} {loose : List Str} {XP : (Str → Option Value) → Heap → Prop} {YP : World → Heap → Prop} {d : DefRec} {K : Params → PySem.W.Frag} {CX : CXT} {sp : PySem.W.Frag → Sp} {x : Str}
    (hn : l.most = some n) (hz : n ≤ sizeLine) (hdf : d.params.defaults = []) (hr : RmG k callerA) (hY : ∀ (w : World) (h : Heap), YP w h → (K w.params).In h)
    (F : ∀ (w : World) (mg : Str → Option Value) (fa : Addr) (h : Heap), (K w.params).In h → h.Ns mainGlobals mg → mg d.name = some (.ref fa) →
      ∃ fd : FuncData, (∀ (s : Shared) (u : Value), BindsTo s fd ⟨[u], []⟩ [(x, u)]) ∧ ∀ base : Heap, FnG l.prog w (K w.params) mg base CX k fa fd [x] (sp (K w.params)))
    (hsp : ∀ (w : World) (H : Hp) (a : Addr) (ns : List Int), ns.length ≤ n → SqL (K w.params) H a (ns.map V.int) → sp (K w.params) [.ref a] H (fun v _ => v = .bl true) fun _ _ _ => False)
    (hCX : ∀ (H : Hp) (s : Shared) (e : Value) (s' : Shared), CX [] H s (fun _ _ _ => False) e s' → False) : PySem.W.WalkO q loose XP YP l.row.toRowW d [] (fun f vs => PySem.call f vs) := by
  refine Att.attach_call hn hdf fun w s₀ s₁ mg mb fa o pm cd doc a vs ns G Y ho hd hcd hmg hobj hints hlen hg => ?_
  obtain ⟨fd, hb, hF⟩ := F w mg fa _ (hY w _ Y) G.T.g hmg
  exact law_g (hY w _ Y) G.T.g G.T.b G.T.builtins G.T.nolimit hg hobj hints (Nat.le_trans hlen hz) hr hF hb (fun H hS => hsp w H a ns hlen hS) fun H e s' => hCX H s₁ e s'
end Fl
namespace Fl
open PySem L2
/-- where the boxes stand; addresses that are nobody's (a comprehension's list while it grows) -/
structure Mp where
  f : Nat → Option Addr
  pv : Addr → Prop
  K : PySem.W.Frag
instance : CoeFun Mp (fun _ => Nat → Option Addr) := ⟨Mp.f⟩
noncomputable def Dead (φ : Mp) (s : S) (a : Addr) : Prop := ¬ φ.pv a ∧ ∀ n, φ n = some a → s.m n = none
/-- a list of the module -/
noncomputable def KL (K : PySem.W.Frag) (a : Addr) (xs : List V) : Prop := ∃ (o : Obj) (its : Array Value) (n : Nat), K.lookup a = some o ∧ o.cls = .type "list" ∧ o.dict = none ∧ o.data = .seq its n ∧ its.size ≤ sizeLine ∧ Vals xs its.toList
/-- the script -/
noncomputable def ScL (φ : Mp) (s : S) (H : Hp) (a : Addr) (vs : List V) : Prop := (Rd H a (.lst vs) ∧ Dead φ s a) ∨ KL φ.K a vs
theorem ScL.sq {φ : Mp} {s : S} {H : Hp} {a : Addr} {vs : List V} (h : ScL φ s H a vs) : SqL φ.K H a vs := h.elim (fun z => .inl z.1) .inr
mutual
noncomputable def Rep (φ : Mp) (s : S) (H : Hp) : D → V → Prop
  | .non, v => v = .non
  | .bl b, v => v = .bl b
  | .int i, v => v = .int i
  | .str x, v => v = .str ⟨x.toArray⟩
  | .tup ds, v => ∃ a vs, v = .ref a ∧ H a = some (.tup vs) ∧ Dead φ s a ∧ RepL φ s H ds vs
  | .lst ds, v => ∃ a vs, v = .ref a ∧ H a = some (.lst vs) ∧ Dead φ s a ∧ RepL φ s H ds vs
  | .ref n, v => ∃ a, v = .ref a ∧ φ n = some a
  | .scr ds, v => ∃ a vs, v = .ref a ∧ ScL φ s H a vs ∧ RepL φ s H ds vs
noncomputable def RepL (φ : Mp) (s : S) (H : Hp) : List D → List V → Prop
  | [], vs => vs = []
  | d :: ds, vs => ∃ v r, vs = v :: r ∧ Rep φ s H d v ∧ RepL φ s H ds r
end
structure Gr (φ : Mp) (s : S) (H : Hp) (φ' : Mp) (s' : S) (H' : Hp) : Prop where
  mp : ∀ n a, φ n = some a → φ' n = some a
  kp : ∀ a o, H a = some o → Dead φ s a → H' a = some o ∧ Dead φ' s' a
  pk : ∀ a o, H a = some o → φ.pv a → H' a = some o ∧ φ'.pv a
  ke : φ'.K = φ.K
theorem Gr.refl (φ : Mp) (s : S) (H : Hp) : Gr φ s H φ s H := ⟨fun _ _ h => h, fun _ _ h d => ⟨h, d⟩, fun _ _ h d => ⟨h, d⟩, rfl⟩
theorem Gr.trans {φ φ1 φ2 : Mp} {s s1 s2 : S} {H H1 H2 : Hp} (a : Gr φ s H φ1 s1 H1) (b : Gr φ1 s1 H1 φ2 s2 H2) : Gr φ s H φ2 s2 H2 :=
  ⟨fun n x h => b.mp n x (a.mp n x h), fun x o h d => let ⟨h1, d1⟩ := a.kp x o h d; b.kp x o h1 d1, fun x o h d => let ⟨h1, d1⟩ := a.pk x o h d; b.pk x o h1 d1, b.ke.trans a.ke⟩
mutual
theorem Rep.mono {φ φ' : Mp} {s s' : S} {H H' : Hp} (g : Gr φ s H φ' s' H') : ∀ (d : D) {v : V}, Rep φ s H d v → Rep φ' s' H' d v
  | .non, v, h => by simpa only [Rep] using h
  | .bl b, v, h => by simpa only [Rep] using h
  | .int i, v, h => by simpa only [Rep] using h
  | .str x, v, h => by simpa only [Rep] using h
  | .tup ds, v, h => by
    simp only [Rep] at h ⊢
    obtain ⟨a, vs, e, ha, hd, hl⟩ := h
    obtain ⟨h1, h2⟩ := g.kp a _ ha hd
    exact ⟨a, vs, e, h1, h2, RepL.mono g ds hl⟩
  | .lst ds, v, h => by
    simp only [Rep] at h ⊢
    obtain ⟨a, vs, e, ha, hd, hl⟩ := h
    obtain ⟨h1, h2⟩ := g.kp a _ ha hd
    exact ⟨a, vs, e, h1, h2, RepL.mono g ds hl⟩
  | .scr ds, v, h => by
    simp only [Rep] at h ⊢
    obtain ⟨a, vs, e, ha, hl⟩ := h
    refine ⟨a, vs, e, ?_, RepL.mono g ds hl⟩
    rcases ha with ⟨ha | ⟨o, ha⟩, hd⟩ | ha
    · obtain ⟨h1, h2⟩ := g.kp a _ ha hd
      exact .inl ⟨.inl h1, h2⟩
    · obtain ⟨h1, h2⟩ := g.kp a _ ha hd
      exact .inl ⟨.inr ⟨o, h1⟩, h2⟩
    · exact .inr (by rw [g.ke]; exact ha)
  | .ref n, v, h => by
    simp only [Rep] at h ⊢
    obtain ⟨a, e, h⟩ := h
    exact ⟨a, e, g.mp n a h⟩
theorem RepL.mono {φ φ' : Mp} {s s' : S} {H H' : Hp} (g : Gr φ s H φ' s' H') : ∀ (ds : List D) {vs : List V}, RepL φ s H ds vs → RepL φ' s' H' ds vs
  | [], vs, h => by simpa only [RepL] using h
  | d :: ds, vs, h => by
    simp only [RepL] at h ⊢
    obtain ⟨v, r, e, h1, h2⟩ := h
    exact ⟨v, r, e, Rep.mono g d h1, RepL.mono g ds h2⟩
end
section
variable {φ φ' : Mp} {s s' : S} {H H' : Hp}
theorem RepL.length : ∀ {ds : List D} {vs : List V}, RepL φ s H ds vs → vs.length = ds.length
  | [], vs, h => by
    simp only [RepL] at h
    subst h
    rfl
  | d :: ds, vs, h => by
    simp only [RepL] at h
    obtain ⟨v, r, e, h1, h2⟩ := h
    subst e
    simp [RepL.length h2]
theorem RepL.get : ∀ {ds : List D} {vs : List V} {i : Nat} {d : D}, RepL φ s H ds vs → ds[i]? = some d → ∃ v, vs[i]? = some v ∧ Rep φ s H d v
  | [], vs, i, d, h, e => by simp at e
  | x :: ds, vs, 0, d, h, e => by
    simp only [RepL] at h
    obtain ⟨v, r, e1, h1, h2⟩ := h
    subst e1
    simp at e
    subst e
    exact ⟨v, rfl, h1⟩
  | x :: ds, vs, i + 1, d, h, e => by
    simp only [RepL] at h
    obtain ⟨v, r, e1, h1, h2⟩ := h
    subst e1
    simp at e
    obtain ⟨w, hw, hr⟩ := RepL.get h2 e
    exact ⟨w, by simpa using hw, hr⟩
theorem RepL.app : ∀ {ds es : List D} {vs ws : List V}, RepL φ s H ds vs → RepL φ s H es ws → RepL φ s H (ds ++ es) (vs ++ ws)
  | [], es, vs, ws, h, h' => by
    simp only [RepL] at h
    subst h
    exact h'
  | x :: ds, es, vs, ws, h, h' => by
    simp only [RepL] at h
    obtain ⟨v, r, e1, h1, h2⟩ := h
    subst e1
    show RepL φ s H (x :: (ds ++ es)) _
    simp only [RepL]
    exact ⟨v, r ++ ws, rfl, h1, RepL.app h2 h'⟩
theorem RepL.one {d : D} {v : V} (h : Rep φ s H d v) : RepL φ s H [d] [v] := by
  simp only [RepL]
  exact ⟨v, [], rfl, h, rfl⟩
theorem RepL.nil : RepL φ s H [] [] := by simp only [RepL]
theorem RepL.drop : ∀ (n : Nat) {ds : List D} {vs : List V}, RepL φ s H ds vs → RepL φ s H (ds.drop n) (vs.drop n)
  | 0, ds, vs, h => h
  | n + 1, [], vs, h => by
    simp only [RepL] at h
    subst h
    exact RepL.nil
  | n + 1, d :: ds, vs, h => by
    simp only [RepL] at h
    obtain ⟨v, r, e1, h1, h2⟩ := h
    subst e1
    exact RepL.drop n h2
theorem RepL.take : ∀ (n : Nat) {ds : List D} {vs : List V}, RepL φ s H ds vs → RepL φ s H (ds.take n) (vs.take n)
  | 0, ds, vs, h => RepL.nil
  | n + 1, [], vs, h => by
    simp only [RepL] at h
    subst h
    exact RepL.nil
  | n + 1, d :: ds, vs, h => by
    simp only [RepL] at h
    obtain ⟨v, r, e1, h1, h2⟩ := h
    subst e1
    show RepL φ s H (d :: ds.take n) (v :: r.take n)
    simp only [RepL]
    exact ⟨v, _, rfl, h1, RepL.take n h2⟩
theorem RepL.set : ∀ (i : Nat) {ds : List D} {vs : List V} {d : D} {v : V}, RepL φ s H ds vs → Rep φ s H d v → RepL φ s H (ds.set i d) (vs.set i v)
  | _, [], vs, d, v, h, _ => by
    simp only [RepL] at h
    subst h
    exact RepL.nil
  | 0, x :: ds, vs, d, v, h, hv => by
    simp only [RepL] at h
    obtain ⟨w, r, e1, h1, h2⟩ := h
    subst e1
    show RepL φ s H (d :: ds) (v :: r)
    simp only [RepL]
    exact ⟨v, r, rfl, hv, h2⟩
  | i + 1, x :: ds, vs, d, v, h, hv => by
    simp only [RepL] at h
    obtain ⟨w, r, e1, h1, h2⟩ := h
    subst e1
    show RepL φ s H (x :: ds.set i d) (w :: r.set i v)
    simp only [RepL]
    exact ⟨w, _, rfl, h1, RepL.set i h2 hv⟩
theorem RepL.cut {ds : List D} {vs : List V} (h : RepL φ s H ds vs) (lo hi : Option Int) : RepL φ s H (cut ds lo hi) (cutV vs lo hi) := by
  unfold Fl.cut cutV
  rw [h.length]
  exact (h.drop _).take _
theorem RepL.erase : ∀ (i : Nat) {ds : List D} {vs : List V}, RepL φ s H ds vs → RepL φ s H (ds.eraseIdx i) (vs.eraseIdx i)
  | _, [], vs, h => by
    simp only [RepL] at h
    subst h
    exact RepL.nil
  | 0, x :: ds, vs, h => by
    simp only [RepL] at h
    obtain ⟨w, r, e1, h1, h2⟩ := h
    subst e1
    exact h2
  | i + 1, x :: ds, vs, h => by
    simp only [RepL] at h
    obtain ⟨w, r, e1, h1, h2⟩ := h
    subst e1
    show RepL φ s H (x :: ds.eraseIdx i) (w :: r.eraseIdx i)
    simp only [RepL]
    exact ⟨w, _, rfl, h1, RepL.erase i h2⟩
theorem RepL.dropLast : ∀ {ds : List D} {vs : List V}, RepL φ s H ds vs → RepL φ s H ds.dropLast vs.dropLast := by
  intro ds vs h
  rw [List.dropLast_eq_take, List.dropLast_eq_take, h.length]
  exact h.take _
end
structure Glob where
  K : PySem.W.Frag
  cls : String → Option Addr
  ec : List String
  w : World
/-- nested keys -/
noncomputable def nkV : Key → NestedKey
  | .inl i => .num i
  | .inr x => .text x
noncomputable def nkK (kk : List (List Key)) : NestedKey := .tup (kk.map fun k => .tup (k.map nkV))
/-- the dict at a, by its entries -/
noncomputable def nnφ (w : World) (a : Addr) (xs : List (NestedKey × Addr × Value)) (h : Heap) : Prop := (a == sysModules) = false ∧ ∃ o es ep, h.get? a = some o ∧ o.ExactDict ∧ o.data = .dict es ep ∧ es.toList = xs.map (fun x => ⟨x.1.hash w, .ref x.2.1, x.2.2⟩) ∧ (xs.map (·.1)).Nodup
noncomputable def NkH (H : Hp) (q : Addr) (kk : List (List Key)) : Prop := ∃ ps : List Addr, H q = some (.tup (ps.map V.ref)) ∧ Paired (fun k p => H p = some (.tup (k.map kV))) kk ps
noncomputable def NkD (φ : Mp) (s : S) (H : Hp) (q : Addr) (kk : List (List Key)) : Prop := ∃ ps : List Addr, (H q = some (.tup (ps.map V.ref)) ∧ Dead φ s q) ∧ Paired (fun k p => H p = some (.tup (k.map kV)) ∧ Dead φ s p) kk ps
theorem NkD.h {φ : Mp} {s : S} {H : Hp} {q : Addr} {kk : List (List Key)} (x : NkD φ s H q kk) : NkH H q kk := let ⟨ps, h1, h2⟩ := x; ⟨ps, h1.1, Paired.mapP h2 fun _ _ z => z.1⟩
noncomputable def FR (φ : Mp) (s : S) (H : Hp) : List (String × D) → List (Str × V) → Prop
  | [], gs => gs = []
  | (f, d) :: fs, gs => ∃ v r, gs = (Str.ofString f, v) :: r ∧ Rep φ s H d v ∧ FR φ s H fs r
noncomputable def kyOf : DK → Key
  | .i i => Sum.inl i
  | .s x => Sum.inr ⟨x.toArray⟩
noncomputable def KRg {κ κ' : Type} (g : κ → κ') (φ : Mp) (s : S) (H : Hp) : List (κ × D) → List (κ' × V) → Prop
  | [], gs => gs = []
  | (f, d) :: fs, gs => ∃ v r, gs = (g f, v) :: r ∧ Rep φ s H d v ∧ KRg g φ s H fs r
noncomputable abbrev KR := KRg kyOf
noncomputable abbrev KRT := KRg (List.map kyOf)
/-- where an own error's class stands -/
noncomputable def eclK (K : PySem.W.Frag) (c : String) : Option Addr := match PySem.W.nsIn K mainGlobals (Str.ofString c) with
  | some (some (.ref C)) => some C
  | _ => none
/-- a caught error -/
noncomputable def xO (C a : Addr) : HO := .ext fun h => ∃ oe vs, h.get? a = some oe ∧ Zc (.ref C) none oe ∧ oe.data = .fields vs
noncomputable def ObR (G : Glob) (φ : Mp) (s : S) (H : Hp) (a : Addr) : Ob → Prop
  | .lst ds => ∃ vs, H a = some (.lst vs) ∧ RepL φ s H ds vs
  | .ins c fs => ∃ C dx gs, H a = some (.ins C dx gs) ∧ G.cls c = some C ∧ FR φ s H fs gs
  | .dic kvs => ∃ ks, H a = some (.dK ks) ∧ KR φ s H kvs ks
  | .exc c => c ∈ G.ec ∧ ∃ C, eclK G.K c = some C ∧ H a = some (xO C a)
  | .dit kvs => ∃ ks, H a = some (.dT ks) ∧ KRT φ s H kvs ks
  | .dnn ks => ∃ xs, H a = some (.ext (nnφ G.w a xs)) ∧ Paired (fun (k : List (List DK)) (x : NestedKey × Addr × Value) => x.1 = nkK (k.map (List.map kyOf)) ∧ x.2.2 = .bool true ∧ NkD φ s H x.2.1 (k.map (List.map kyOf))) ks xs
structure HR (G : Glob) (φ : Mp) (s : S) (H : Hp) : Prop where
  ob : ∀ n o, s.m n = some o → ∃ a, φ n = some a ∧ ObR G φ s H a o
  inj : ∀ n m a, φ n = some a → φ m = some a → n = m
  dom : ∀ n a, φ n = some a → n < s.nx ∧ ∃ o, H a = some o
  pvd : ∀ a, φ.pv a → ∃ o, H a = some o ∧ ∀ vs, o ≠ .tup vs
  np : ∀ n a, φ n = some a → ¬ φ.pv a
  k : φ.K = G.K
section
variable {G : Glob} {φ φ' : Mp} {s s' : S} {H H' : Hp}
theorem FR.mono (g : Gr φ s H φ' s' H') : ∀ {fs : List (String × D)} {gs : List (Str × V)}, FR φ s H fs gs → FR φ' s' H' fs gs
  | [], gs, h => h
  | (f, d) :: fs, gs, h => by
    obtain ⟨v, r, e, h1, h2⟩ := h
    exact ⟨v, r, e, Rep.mono g d h1, FR.mono g h2⟩
theorem KRg.mono {κ κ' : Type} {k : κ → κ'} (g : Gr φ s H φ' s' H') : ∀ {fs : List (κ × D)} {gs : List (κ' × V)}, KRg k φ s H fs gs → KRg k φ' s' H' fs gs
  | [], gs, h => h
  | (f, d) :: fs, gs, h => by
    obtain ⟨v, r, e, h1, h2⟩ := h
    exact ⟨v, r, e, Rep.mono g d h1, KRg.mono g h2⟩
theorem NkD.mono (g : Gr φ s H φ' s' H') {q : Addr} {kk : List (List Key)} (x : NkD φ s H q kk) : NkD φ' s' H' q kk :=
  let ⟨ps, h1, h2⟩ := x; ⟨ps, g.kp _ _ h1.1 h1.2, Paired.mapP h2 fun _ _ z => g.kp _ _ z.1 z.2⟩
theorem ObR.mono {a : Addr} {u : Ob} (g : Gr φ s H φ' s' H') (e : H' a = H a) (h : ObR G φ s H a u) : ObR G φ' s' H' a u := by
  cases u with
  | lst ds =>
    obtain ⟨vs, h1, h2⟩ := h
    exact ⟨vs, by rw [e]; exact h1, RepL.mono g ds h2⟩
  | ins c fs =>
    obtain ⟨C, dx, gs, h1, h2, h3⟩ := h
    exact ⟨C, dx, gs, by rw [e]; exact h1, h2, h3.mono g⟩
  | dic kvs =>
    obtain ⟨ks, h1, h2⟩ := h
    exact ⟨ks, by rw [e]; exact h1, h2.mono g⟩
  | exc c =>
    obtain ⟨h0, C, h1, h2⟩ := h
    exact ⟨h0, C, h1, by rw [e]; exact h2⟩
  | dit kvs =>
    obtain ⟨ks, h1, h2⟩ := h
    exact ⟨ks, by rw [e]; exact h1, h2.mono g⟩
  | dnn ks =>
    obtain ⟨xs, h1, h2⟩ := h
    exact ⟨xs, by rw [e]; exact h1, Paired.mapP h2 fun _ _ z => ⟨z.1, z.2.1, z.2.2.mono g⟩⟩
theorem HR.fresh (h : HR G φ s H) {p : Addr} (hp : H p = none) : Dead φ s p := by
  refine ⟨fun hv => ?_, fun n e => ?_⟩
  · obtain ⟨o, ho, _⟩ := h.pvd p hv
    rw [hp] at ho
    cases ho
  · obtain ⟨_, o, ho⟩ := h.dom n p e
    rw [hp] at ho
    cases ho
theorem HR.nofresh (h : HR G φ s H) {p : Addr} (hp : H p = none) (n : Nat) : φ n ≠ some p := fun e => by
  obtain ⟨_, o, ho⟩ := h.dom n p e
  rw [hp] at ho
  cases ho
/-- a new thing that is no box -/
theorem Gr.free (h : HR G φ s H) {p : Addr} {o : HO} (hp : H p = none) : Gr φ s H φ s (upd H p o) :=
  ⟨fun _ _ e => e, fun a u e d => ⟨by rw [upd_ne (ne_of_none e hp)]; exact e, d⟩, fun a u e d => ⟨by rw [upd_ne (ne_of_none e hp)]; exact e, d⟩, rfl⟩
theorem HR.free (h : HR G φ s H) {p : Addr} {o : HO} (hp : H p = none) : HR G φ s (upd H p o) := by
  have g : Gr φ s H φ s (upd H p o) := Gr.free h hp
  refine ⟨fun n u e => ?_, h.inj, fun n a e => ?_, fun a e => ?_, h.np, h.k⟩
  · obtain ⟨a, ha, hb⟩ := h.ob n u e
    have na : a ≠ p := fun z => h.nofresh hp n (z ▸ ha)
    exact ⟨a, ha, hb.mono g (upd_ne na)⟩
  · obtain ⟨h1, o', ho⟩ := h.dom n a e
    exact ⟨h1, o', by rw [upd_ne (ne_of_none ho hp)]; exact ho⟩
  · obtain ⟨o', ho, ht⟩ := h.pvd a e
    exact ⟨o', by rw [upd_ne (ne_of_none ho hp)]; exact ho, ht⟩
/-- a new box -/
noncomputable def bx (φ : Mp) (n : Nat) (p : Addr) : Mp := ⟨fun k => if k = n then some p else φ k, φ.pv, φ.K⟩
theorem Gr.box (h : HR G φ s H) {p : Addr} {o : HO} {u : Ob} (hp : H p = none) : Gr φ s H (bx φ s.nx p) (s.new u) (upd H p o) := by
  refine ⟨fun n a e => ?_, fun a w e d => ⟨by rw [upd_ne (ne_of_none e hp)]; exact e, d.1, fun k z => ?_⟩, fun a w e d => ⟨by rw [upd_ne (ne_of_none e hp)]; exact e, d⟩, rfl⟩
  · have := (h.dom n a e).1
    show (if n = s.nx then some p else φ n) = some a
    rw [if_neg (by omega)]
    exact e
  · replace z : (if k = s.nx then some p else φ k) = some a := z
    show (if k = s.nx then some u else s.m k) = none
    by_cases hk : k = s.nx
    · rw [if_pos hk] at z
      exact absurd (Option.some.inj z).symm (ne_of_none e hp)
    · rw [if_neg hk] at z ⊢
      exact d.2 k z
theorem HR.box (h : HR G φ s H) {p : Addr} {o : HO} {u : Ob} (hp : H p = none) (hu : ObR G (bx φ s.nx p) (s.new u) (upd H p o) p u) : HR G (bx φ s.nx p) (s.new u) (upd H p o) := by
  have g : Gr φ s H (bx φ s.nx p) (s.new u) (upd H p o) := Gr.box h hp
  refine ⟨fun n w e => ?_, fun n m a e1 e2 => ?_, fun n a e => ?_, fun a e => ?_, fun n a e => ?_, h.k⟩
  · by_cases hn : n = s.nx
    · subst hn
      have e' : (if s.nx = s.nx then some u else s.m s.nx) = some w := e
      rw [if_pos rfl] at e'
      cases e'
      exact ⟨p, by show (if s.nx = s.nx then some p else φ s.nx) = some p; rw [if_pos rfl], hu⟩
    · have e' : (if n = s.nx then some u else s.m n) = some w := e
      rw [if_neg hn] at e'
      obtain ⟨a, ha, hb⟩ := h.ob n w e'
      have na : a ≠ p := fun z => h.nofresh hp n (z ▸ ha)
      exact ⟨a, by show (if n = s.nx then some p else φ n) = some a; rw [if_neg hn]; exact ha, hb.mono g (upd_ne na)⟩
  · replace e1 : (if n = s.nx then some p else φ n) = some a := e1
    replace e2 : (if m = s.nx then some p else φ m) = some a := e2
    by_cases hn : n = s.nx
    · by_cases hm : m = s.nx
      · rw [hn, hm]
      · rw [if_pos hn] at e1
        rw [if_neg hm] at e2
        cases e1
        exact absurd e2 (h.nofresh hp m)
    · rw [if_neg hn] at e1
      by_cases hm : m = s.nx
      · rw [if_pos hm] at e2
        cases e2
        exact absurd e1 (h.nofresh hp n)
      · rw [if_neg hm] at e2
        exact h.inj n m a e1 e2
  · replace e : (if n = s.nx then some p else φ n) = some a := e
    by_cases hn : n = s.nx
    · rw [if_pos hn] at e
      cases e
      exact ⟨by show n < s.nx + 1; omega, o, upd_same⟩
    · rw [if_neg hn] at e
      obtain ⟨h1, o', ho⟩ := h.dom n a e
      exact ⟨by show n < s.nx + 1; omega, o', by rw [upd_ne (ne_of_none ho hp)]; exact ho⟩
  · obtain ⟨o', ho, ht⟩ := h.pvd a e
    exact ⟨o', by rw [upd_ne (ne_of_none ho hp)]; exact ho, ht⟩
  · replace e : (if n = s.nx then some p else φ n) = some a := e
    by_cases hn : n = s.nx
    · rw [if_pos hn] at e
      cases e
      exact (h.fresh hp).1
    · rw [if_neg hn] at e
      exact h.np n a e
/-- a box is written -/
theorem Gr.write (h : HR G φ s H) {n : Nat} {a : Addr} {o : HO} {u v : Ob} (hn : s.m n = some u) (ha : φ n = some a) : Gr φ s H φ (s.put n v) (upd H a o) := by
  refine ⟨fun _ _ e => e, fun b w e d => ?_, fun b w e d => ⟨by rw [upd_ne (show b ≠ a from fun z => h.np n a ha (by rw [← z]; exact d))]; exact e, d⟩, rfl⟩
  have nb : b ≠ a := fun z => by
    subst z
    have := d.2 n ha
    rw [hn] at this
    cases this
  refine ⟨by rw [upd_ne nb]; exact e, d.1, fun k z => ?_⟩
  show (if k = n then some v else s.m k) = none
  by_cases hk : k = n
  · subst hk
    rw [ha] at z
    exact absurd (Option.some.inj z).symm nb
  · rw [if_neg hk]
    exact d.2 k z
theorem HR.write (h : HR G φ s H) {n : Nat} {a : Addr} {o : HO} {u v : Ob} (hn : s.m n = some u) (ha : φ n = some a) (hv : ObR G φ (s.put n v) (upd H a o) a v) : HR G φ (s.put n v) (upd H a o) := by
  have g : Gr φ s H φ (s.put n v) (upd H a o) := Gr.write h hn ha
  refine ⟨fun k w e => ?_, h.inj, fun k b e => ?_, fun b e => ?_, h.np, h.k⟩
  · have e' : (if k = n then some v else s.m k) = some w := e
    by_cases hk : k = n
    · subst hk
      rw [if_pos rfl] at e'
      cases e'
      exact ⟨a, ha, hv⟩
    · rw [if_neg hk] at e'
      obtain ⟨b, hb, hw⟩ := h.ob k w e'
      have nb : b ≠ a := fun z => hk (h.inj k n a (z ▸ hb) ha)
      exact ⟨b, hb, hw.mono g (upd_ne nb)⟩
  · obtain ⟨h1, o', ho⟩ := h.dom k b e
    refine ⟨h1, ?_⟩
    by_cases hb : b = a
    · subst hb
      exact ⟨o, upd_same⟩
    · exact ⟨o', by rw [upd_ne hb]; exact ho⟩
  · obtain ⟨o', ho, ht⟩ := h.pvd b e
    exact ⟨o', by rw [upd_ne (show b ≠ a from fun z => h.np n a ha (by rw [← z]; exact e))]; exact ho, ht⟩
theorem Gr.kill (n : Nat) : Gr φ s H φ (s.kill n) H := ⟨fun _ _ e => e, fun b w e d => ⟨e, d.1, fun k z => by
  show (if k = n then none else s.m k) = none
  split
  · rfl
  · exact d.2 k z⟩, fun b w e d => ⟨e, d⟩, rfl⟩
theorem HR.kill (h : HR G φ s H) (n : Nat) : HR G φ (s.kill n) H := by
  refine ⟨fun k w e => ?_, h.inj, h.dom, h.pvd, h.np, h.k⟩
  have e' : (if k = n then none else s.m k) = some w := e
  by_cases hk : k = n
  · rw [if_pos hk] at e'
    cases e'
  · rw [if_neg hk] at e'
    obtain ⟨b, hb, hw⟩ := h.ob k w e'
    exact ⟨b, hb, hw.mono (Gr.kill n) rfl⟩
/-- a list that can be read -/
theorem Rep.lcont (h : HR G φ s H) {d : D} {v : V} {xs : List D} (r : Rep φ s H d v) (e : lcont s d = some xs) : ∃ a vs, v = .ref a ∧ SqL φ.K H a vs ∧ RepL φ s H xs vs := by
  cases d with
  | lst ys =>
    cases (show some ys = some xs from e)
    simp only [Rep] at r
    obtain ⟨a, vs, e, h1, _, h2⟩ := r
    exact ⟨a, vs, e, SqL.of h1, h2⟩
  | scr ys =>
    cases (show some ys = some xs from e)
    simp only [Rep] at r
    obtain ⟨a, vs, e, h1, h2⟩ := r
    exact ⟨a, vs, e, h1.sq, h2⟩
  | ref n =>
    simp only [Fl.lcont] at e
    split at e
    · rename_i ys q
      cases e
      simp only [Rep] at r
      obtain ⟨a, e, ha⟩ := r
      obtain ⟨b, hb, vs, h1, h2⟩ := h.ob n _ q
      rw [ha] at hb
      cases hb
      exact ⟨a, vs, e, SqL.of h1, h2⟩
    · cases e
  | _ => cases e
theorem Rep.ccont (h : HR G φ s H) {d : D} {v : V} {xs : List D} (r : Rep φ s H d v) (e : ccont s d = some xs) : ∃ a vs, v = .ref a ∧ H a = some (.lst vs) ∧ RepL φ s H xs vs := by
  cases d with
  | lst ys =>
    cases (show some ys = some xs from e)
    simp only [Rep] at r
    obtain ⟨a, vs, e, h1, _, h2⟩ := r
    exact ⟨a, vs, e, h1, h2⟩
  | ref n =>
    simp only [Fl.ccont] at e
    split at e
    · rename_i ys q
      cases e
      simp only [Rep] at r
      obtain ⟨a, e, ha⟩ := r
      obtain ⟨b, hb, vs, h1, h2⟩ := h.ob n _ q
      rw [ha] at hb
      cases hb
      exact ⟨a, vs, e, h1, h2⟩
    · cases e
  | _ => cases e
theorem Rep.cont (h : HR G φ s H) {d : D} {v : V} {xs : List D} (r : Rep φ s H d v) (e : cont s d = some xs) : ∃ a vs, v = .ref a ∧ (SqL φ.K H a vs ∨ SqT φ.K H a vs) ∧ RepL φ s H xs vs := by
  unfold Fl.cont at e
  split at e
  · cases e
    simp only [Rep] at r
    obtain ⟨a, vs, e, h1, _, h2⟩ := r
    exact ⟨a, vs, e, .inr (SqT.of h1), h2⟩
  · obtain ⟨a, vs, e, h1, h2⟩ := r.lcont h e
    exact ⟨a, vs, e, .inl h1, h2⟩
end
structure SR (φ : Mp) (s : S) (H : Hp) (r : Sl) (σ : L2.St) : Prop where
  len : σ.length = r.length
  get : ∀ (i : Nat) d, r[i]? = some (some d) → ∃ v, σ[i]? = some (some v) ∧ Rep φ s H d v
section
variable {φ φ' : Mp} {s s' : S} {H H' : Hp} {r : Sl} {σ : L2.St}
theorem SR.mono (g : Gr φ s H φ' s' H') (h : SR φ s H r σ) : SR φ' s' H' r σ := ⟨h.len, fun i d e => let ⟨v, h1, h2⟩ := h.get i d e; ⟨v, h1, Rep.mono g d h2⟩⟩
theorem SR.set (h : SR φ s H r σ) {d : D} {v : V} (i : Nat) (q : Rep φ s H d v) : SR φ s H (r.set i (some d)) (σ.set i (some v)) := by
  refine ⟨by rw [List.length_set, List.length_set]; exact h.len, fun j e z => ?_⟩
  by_cases hj : i = j
  · subst hj
    by_cases hi : i < r.length
    · rw [List.getElem?_set_self hi] at z
      cases z
      exact ⟨v, by rw [List.getElem?_set_self (by rw [h.len]; exact hi)], q⟩
    · rw [List.getElem?_eq_none (by simpa using hi)] at z
      cases z
  · rw [List.getElem?_set_ne hj] at z ⊢
    exact h.get j e z
end
structure At (G : Glob) (φ : Mp) (s : S) (H : Hp) (r : Sl) (σ : L2.St) : Prop where
  hr : HR G φ s H
  sr : SR φ s H r σ
/-- the reading of a computation over slots and store -/
noncomputable def rd {α β : Type} (G : Glob) (f : Sl → S → R α) (rp : Mp → S → Hp → α → β → Prop) : L2.St → Hp → (β → Hp → Prop) → Prop := fun σ H Q =>
  ∃ φ s r, At G φ s H r σ ∧ ∃ a s', f r s = some (.ok a, s') ∧ ∀ φ' H' b, Gr φ s H φ' s' H' → HR G φ' s' H' → rp φ' s' H' a b → Q b H'
noncomputable abbrev rE (G : Glob) (cf : CF) (c : E) : TE := rd G (ev cf c) Rep
noncomputable abbrev rA (G : Glob) (cf : CF) (c : Es) : TA := rd G (evs cf c) RepL
/-- a test -/
noncomputable def tst (cf : CF) (c : E) : Sl → S → R Bool := fun r s => bnd (ev cf c r s) fun x s => lft (truth s x) s
noncomputable abbrev rT (G : Glob) (cf : CF) (c : E) : TT := rd G (tst cf c) (fun _ _ _ a b => a = b)
section
variable {α β : Type} {G : Glob} {φ φ' : Mp} {s s' s1 : S} {H H' : Hp} {r : Sl} {σ : L2.St} {f : Sl → S → R α} {rp : Mp → S → Hp → α → β → Prop} {K : β → Hp → Prop} {a : α}
theorem rd_step (A : At G φ s H r σ) (e : f r s = some (.ok a, s1)) (k : ∀ φ1 H1 v, Gr φ s H φ1 s1 H1 → At G φ1 s1 H1 r σ → rp φ1 s1 H1 a v → K v H1) : rd G f rp σ H K :=
  ⟨φ, s, r, A, a, s1, e, fun φ' H' v g h q => k φ' H' v g ⟨h, A.sr.mono g⟩ q⟩
end
theorem PE.imp {X : Cx} {e : Expr} {t t' : TE} (h : PE X e t) (k : ∀ σ H Q, t' σ H Q → t σ H Q) : PE X e t' := ⟨fun pins s σ H Q I q => h.run pins s σ H Q I (k σ H Q q)⟩
theorem PT.imp {X : Cx} {e : Expr} {t t' : TT} (h : PT X e t) (k : ∀ σ H Q, t' σ H Q → t σ H Q) : PT X e t' := ⟨fun pins s σ H Q I q => h.run pins s σ H Q I (k σ H Q q)⟩
theorem PW.imp {X : Cx} {e : Expr} {t t' : TT} (h : PW X e t) (k : ∀ σ H Q, t' σ H Q → t σ H Q) : PW X e t' := ⟨fun wh pins s σ H Q I q => h.run wh pins s σ H Q I (k σ H Q q)⟩
theorem PA.imp {X : Cx} {e : List Expr} {t t' : TA} (h : PA X e t) (k : ∀ σ H Q, t' σ H Q → t σ H Q) : PA X e t' := ⟨fun pos pins s σ H Q I q => h.run pos pins s σ H Q I (k σ H Q q)⟩
theorem PS.imp {X : Cx} {e : Stmt} {t t' : TS} (h : PS X e t) (k : ∀ D σ H, t' D σ H → t D σ H) : PS X e t' := ⟨fun pins s σ H D I q => h.run pins s σ H D I (k D σ H q)⟩
theorem PSs.imp {X : Cx} {e : List Stmt} {t t' : TS} (h : PSs X e t) (k : ∀ D σ H, t' D σ H → t D σ H) : PSs X e t' := ⟨fun pins s σ H D I q => h.run pins s σ H D I (k D σ H q)⟩
end Fl
namespace PySem.SeqAt
open AutoSeq1 (wpAny_loadPart')
open MeetsSeq MeetsSeq2 MeetsSeq3
open PySem.EqNone
theorem dict_eq_declines_none (l : Addr) (es : Array DictEntry) (n : Nat) (dd : Option Addr) (sl : Array (Option Value)) :
    Meets (Builtin.«dict.__eq__» ⟨[.ref l, .none], []⟩) (fun _ R s => s.heap.get? l = some { cls := .type "dict", dict := dd, data := .dict es n, slots := sl } ∧ R (.ok (.ret .notImplemented)) s) :=
  .of_wp fun prog w A R s h => by obtain ⟨hp, g, d, tk, os⟩ := s; obtain ⟨hl, h⟩ := h; have f1 := F.sub_NoneType_dict; wp_walk using wpAny_loadPart' hl; exact ⟨_, rfl, h⟩
theorem dict_eq_declines_int (l : Addr) (es : Array DictEntry) (n : Nat) (dd : Option Addr) (sl : Array (Option Value)) (b : Int) (u : Tok) :
    Meets (Builtin.«dict.__eq__» ⟨[.ref l, .int b u], []⟩) (fun _ R s => s.heap.get? l = some { cls := .type "dict", dict := dd, data := .dict es n, slots := sl } ∧ R (.ok (.ret .notImplemented)) s) :=
  .of_wp fun prog w A R s h => by obtain ⟨hp, g, d, tk, os⟩ := s; obtain ⟨hl, h⟩ := h; have f1 := F.sub_int_dict; wp_walk using wpAny_loadPart' hl; exact ⟨_, rfl, h⟩
theorem dict_ne_declines_none (l : Addr) (es : Array DictEntry) (n : Nat) (dd : Option Addr) (sl : Array (Option Value)) :
    Meets (Builtin.«dict.__ne__» ⟨[.ref l, .none], []⟩) (fun _ R s => s.heap.get? l = some { cls := .type "dict", dict := dd, data := .dict es n, slots := sl } ∧ R (.ok (.ret .notImplemented)) s) :=
  .of_wp fun prog w A R s h => by obtain ⟨hp, g, d, tk, os⟩ := s; obtain ⟨hl, h⟩ := h; have f1 := F.sub_NoneType_dict; wp_walk using wpAny_loadPart' hl; exact ⟨_, rfl, h⟩
theorem dict_ne_declines_int (l : Addr) (es : Array DictEntry) (n : Nat) (dd : Option Addr) (sl : Array (Option Value)) (b : Int) (u : Tok) :
    Meets (Builtin.«dict.__ne__» ⟨[.ref l, .int b u], []⟩) (fun _ R s => s.heap.get? l = some { cls := .type "dict", dict := dd, data := .dict es n, slots := sl } ∧ R (.ok (.ret .notImplemented)) s) :=
  .of_wp fun prog w A R s h => by obtain ⟨hp, g, d, tk, os⟩ := s; obtain ⟨hl, h⟩ := h; have f1 := F.sub_int_dict; wp_walk using wpAny_loadPart' hl; exact ⟨_, rfl, h⟩
theorem int_eq_declines_dict (b : Int) (u : Tok) (l : Addr) (c : Value) (es : Array DictEntry) (n : Nat) (dd : Option Addr) (sl : Array (Option Value)) :
    Meets (Builtin.«int.__eq__» ⟨[.int b u, .ref l], []⟩) (fun _ R s => s.heap.get? l = some { cls := c, dict := dd, data := .dict es n, slots := sl } ∧ R (.ok (.ret .notImplemented)) s) :=
  .of_wp fun prog w A R s h => by obtain ⟨hp, g, d, tk, os⟩ := s; obtain ⟨hl, h⟩ := h; wp_walk using wpAny_loadPart' hl, wpAny_load hl; exact ⟨_, rfl, h⟩
theorem int_ne_declines_dict (b : Int) (u : Tok) (l : Addr) (c : Value) (es : Array DictEntry) (n : Nat) (dd : Option Addr) (sl : Array (Option Value)) :
    Meets (Builtin.«int.__ne__» ⟨[.int b u, .ref l], []⟩) (fun _ R s => s.heap.get? l = some { cls := c, dict := dd, data := .dict es n, slots := sl } ∧ R (.ok (.ret .notImplemented)) s) :=
  .of_wp fun prog w A R s h => by obtain ⟨hp, g, d, tk, os⟩ := s; obtain ⟨hl, h⟩ := h; wp_walk using wpAny_loadPart' hl, wpAny_load hl; exact ⟨_, rfl, h⟩
section
variable {A : Around} {s : Shared}
theorem RcAt.dict_none {l : Addr} {dd : Option Addr} {es : Array DictEntry} {n : Nat} {sl : Array (Option Value)} (ho : s.heap.get? l = some { cls := .type "dict", dict := dd, data := .dict es n, slots := sl }) (hu : A.units < cLine) : RcAt A s (.ref l) .none false := fun prog w E Q h =>
  rc_eq_decline_or (k := false) ⟨_, ho, rfl⟩ rfl (by decide) F.sub_NoneType_dict F.slot_dict_eq F.slot_NoneType_eq_refl
    (fun _ hq => call_meets F.slot_dict_eq ⟨_, ho, rfl⟩ F.entry_dict_eq (F.args_dict_eq_2 _ _) (dict_eq_declines_none l es n dd sl) ⟨ho, hq⟩)
    (fun _ hq => call_gives F.slot_NoneType_eq_refl rfl F.entry_NoneType_eq (F.args_NoneType_eq_2 _ _) (NoneType___eq___none_ref_0 l) hq)
    (fun _ hq => wpAny_of_eq (rfl : isSame (.ref l) .none = pure false) hq) (.inr hu) h
theorem RcAt.dict_int {l : Addr} {dd : Option Addr} {es : Array DictEntry} {n : Nat} {sl : Array (Option Value)} (b : Int) (u : Tok) (ho : s.heap.get? l = some { cls := .type "dict", dict := dd, data := .dict es n, slots := sl }) (hu : A.units < cLine) : RcAt A s (.ref l) (.int b u) false := fun prog w E Q h =>
  rc_eq_decline_or (k := false) ⟨_, ho, rfl⟩ (typeIs_int s b u) (by decide) F.sub_int_dict F.slot_dict_eq F.slot_int_eq_refl
    (fun _ hq => call_meets F.slot_dict_eq ⟨_, ho, rfl⟩ F.entry_dict_eq (F.args_dict_eq_2 _ _) (dict_eq_declines_int l es n dd sl b u) ⟨ho, hq⟩)
    (fun _ hq => call_meets F.slot_int_eq_refl (typeIs_int s b u) F.entry_int_eq (F.args_int_eq_2 _ _) (int_eq_declines_dict b u l (.type "dict") es n dd sl) ⟨ho, hq⟩)
    (fun _ hq => wpAny_of_eq (rfl : isSame (.ref l) (.int b u) = pure false) hq) (.inr hu) h
theorem RcNeAt.dict_none {l : Addr} {dd : Option Addr} {es : Array DictEntry} {n : Nat} {sl : Array (Option Value)} (ho : s.heap.get? l = some { cls := .type "dict", dict := dd, data := .dict es n, slots := sl }) (hu : A.units < cLine) : RcNeAt A s (.ref l) .none true := fun prog w E Q h =>
  rc_ne_decline_or (k := false) ⟨_, ho, rfl⟩ rfl (by decide) F.sub_NoneType_dict F.slot_dict_ne F.slot_NoneType_ne_refl
    (fun _ hq => call_meets F.slot_dict_ne ⟨_, ho, rfl⟩ F.entry_dict_ne (F.args_dict_ne_2 _ _) (dict_ne_declines_none l es n dd sl) ⟨ho, hq⟩)
    (fun _ hq => call_gives F.slot_NoneType_ne_refl rfl F.entry_NoneType_ne (F.args_NoneType_ne_2 _ _) (NoneType___ne___none_ref_0 l) hq)
    (fun _ hq => wpAny_of_eq (rfl : isSame (.ref l) .none = pure false) hq) (.inr hu) h
theorem RcNeAt.dict_int {l : Addr} {dd : Option Addr} {es : Array DictEntry} {n : Nat} {sl : Array (Option Value)} (b : Int) (u : Tok) (ho : s.heap.get? l = some { cls := .type "dict", dict := dd, data := .dict es n, slots := sl }) (hu : A.units < cLine) : RcNeAt A s (.ref l) (.int b u) true := fun prog w E Q h =>
  rc_ne_decline_or (k := false) ⟨_, ho, rfl⟩ (typeIs_int s b u) (by decide) F.sub_int_dict F.slot_dict_ne F.slot_int_ne_refl
    (fun _ hq => call_meets F.slot_dict_ne ⟨_, ho, rfl⟩ F.entry_dict_ne (F.args_dict_ne_2 _ _) (dict_ne_declines_int l es n dd sl b u) ⟨ho, hq⟩)
    (fun _ hq => call_meets F.slot_int_ne_refl (typeIs_int s b u) F.entry_int_ne (F.args_int_ne_2 _ _) (int_ne_declines_dict b u l (.type "dict") es n dd sl) ⟨ho, hq⟩)
    (fun _ hq => wpAny_of_eq (rfl : isSame (.ref l) (.int b u) = pure false) hq) (.inr hu) h
end
end PySem.SeqAt
namespace Fl
open PySem L2
/-- a list, a tuple, a dict -/
noncomputable def Hvy (K : PySem.W.Frag) (H : Hp) (x : V) : Prop := (∃ a xs, x = .ref a ∧ SqL K H a xs) ∨ (∃ a xs, x = .ref a ∧ SqT K H a xs) ∨ ∃ a kvs, x = .ref a ∧ H a = some (.dK kvs)
/-- they are unlike -/
noncomputable def Unl (K : PySem.W.Frag) (H : Hp) (x y : V) : Prop := (Hvy K H x ∧ (y = .non ∨ ∃ i, y = .int i)) ∨ ∃ a b xs ys, x = .ref a ∧ y = .ref b ∧ SqL K H a xs ∧ SqL K H b ys ∧ xs.length ≠ ys.length
noncomputable def rEqN (K : PySem.W.Frag) : R2 := fun x y H Q => Unl K H x y ∧ Q (.bl false) H
noncomputable def rNeN (K : PySem.W.Frag) : R2 := fun x y H Q => Unl K H x y ∧ Q (.bl true) H
theorem unl_at {X : Cx} {pins : List (Addr × Obj)} {σ : L2.St} {H : Hp} {s : Shared} {x y : V} {v u : Value} (hu : X.A.units < cLine) (I : Inv X pins σ H s) (rx : RelV x v) (ry : RelV y u) (h : Unl X.K H x y) : SeqAt.RcAt X.A s v u false ∧ SeqAt.RcNeAt X.A s v u true := by
  rcases h with ⟨h, hy⟩ | ⟨a, b, xs, ys, rfl, rfl, h1, h2, h3⟩
  · rcases h with ⟨a, xs, rfl, h1⟩ | ⟨a, xs, rfl, h1⟩ | ⟨a, kvs, rfl, h1⟩
    · cases rx
      obtain ⟨its, -, hl, -⟩ := I.list h1
      rcases hy with rfl | ⟨i, rfl⟩
      · cases ry
        exact ⟨SeqAt.RcAt.list_none hl.isList hu, SeqAt.RcNeAt.list_none hl.isList hu⟩
      · obtain ⟨t, rfl⟩ := ry
        exact ⟨SeqAt.RcAt.list_int i t hl.isList hu, SeqAt.RcNeAt.list_int i t hl.isList hu⟩
    · cases rx
      obtain ⟨its, -, hl, -⟩ := I.tuple h1
      rcases hy with rfl | ⟨i, rfl⟩
      · cases ry
        exact ⟨SeqAt.RcAt.tuple_none hl hu, SeqAt.RcNeAt.tuple_none hl hu⟩
      · obtain ⟨t, rfl⟩ := ry
        exact ⟨SeqAt.RcAt.tuple_int i t hl hu, SeqAt.RcNeAt.tuple_int i t hl hu⟩
    · cases rx
      obtain ⟨-, -, vs, -, ⟨c, dd, dat, sl⟩, es, ep, ho, hx, hd, -⟩ := dk_of I.hok h1
      obtain ⟨e1, e2⟩ := hx
      simp only at e1 hd
      subst e1 hd
      rcases hy with rfl | ⟨i, rfl⟩
      · cases ry
        exact ⟨SeqAt.RcAt.dict_none ho hu, SeqAt.RcNeAt.dict_none ho hu⟩
      · obtain ⟨t, rfl⟩ := ry
        exact ⟨SeqAt.RcAt.dict_int i t ho hu, SeqAt.RcNeAt.dict_int i t ho hu⟩
  · cases rx
    cases ry
    obtain ⟨is, r1, l1, -⟩ := I.list h1
    obtain ⟨js, r2, l2, -⟩ := I.list h2
    have hz : (is.toArray.size != js.toArray.size) = true := by
      have e1 := r1.length
      have e2 := r2.length
      simp only [List.size_toArray, bne_iff_ne, ne_eq]
      omega
    exact ⟨SeqAt.RcAt.lists_lengths l1.isList l2.isList hz hu, SeqAt.RcNeAt.lists_lengths l1.isList l2.isList hz hu⟩
theorem op_eqN {X : Cx} (hu : X.A.units < cLine) : OpR X (compareOp .Eq) (rEqN X.K) := by
  intro pins s σ H x y v u Q I rx ry h
  exact (unl_at hu I rx ry h.1).1 _ _ _ _ ⟨.bl _, H, I, rfl, h.2⟩
theorem op_neN {X : Cx} (hu : X.A.units < cLine) : OpR X (compareOp .NotEq) (rNeN X.K) := by
  intro pins s σ H x y v u Q I rx ry h
  exact (unl_at hu I rx ry h.1).2 _ _ _ _ ⟨.bl _, H, I, rfl, h.2⟩
end Fl
namespace Fl
open PySem L2
theorem LIM_eq : LIM = sizeLine := by rw [sizeLine_eq]; rfl
theorem str_len (x : List Nat) : (⟨x.toArray⟩ : Str).length = x.length := by simp [Str.length]
theorem str_cps (x : List Nat) : (⟨x.toArray⟩ : Str).cps.toList = x := by simp
theorem str_app (x y : List Nat) : (⟨x.toArray⟩ : Str) ++ ⟨y.toArray⟩ = ⟨(x ++ y).toArray⟩ := by
  show (⟨x.toArray ++ y.toArray⟩ : Str) = _
  simp
theorem str_inj {x y : List Nat} : (⟨x.toArray⟩ : Str) = ⟨y.toArray⟩ ↔ x = y := by
  constructor
  · intro h
    have := congrArg (fun z : Str => z.cps.toList) h
    simpa using this
  · intro h
    rw [h]
theorem cutS_eq (x : List Nat) (lo hi : Option Int) : cutS ⟨x.toArray⟩ lo hi = ⟨(cut x lo hi).toArray⟩ := by
  unfold cutS
  rw [str_len]
  rfl
theorem OpR.or {X : Cx} {f : Value → Value → Sem Value} {r r' : R2} (h : OpR X f r) (h' : OpR X f r') : OpR X f (fun x y H Q => r x y H Q ∨ r' x y H Q) := by
  intro pins s σ H x y v u Q I rx ry q
  rcases q with q | q
  · exact h pins s σ H x y v u Q I rx ry q
  · exact h' pins s σ H x y v u Q I rx ry q
theorem CallR.or {X : Cx} {f : Value} {r r' : List V → Hp → VK → Prop} (h : CallR X f r) (h' : CallR X f r') : CallR X f (fun x H Q => r x H Q ∨ r' x H Q) := by
  intro pins s σ H x v Q I rx q
  rcases q with q | q
  · exact h pins s σ H x v Q I rx q
  · exact h' pins s σ H x v Q I rx q
/-- what is wanted behind a value -/
noncomputable def Post (G : Glob) (φ : Mp) (s : S) (H : Hp) (s' : S) (d : D) (Q : VK) : Prop := ∀ φ' H' v, Gr φ s H φ' s' H' → HR G φ' s' H' → Rep φ' s' H' d v → Q v H'
section
variable {G : Glob} {φ : Mp} {s s' : S} {H : Hp} {d : D} {Q : VK}
theorem Post.here (h : HR G φ s H) (p : Post G φ s H s d Q) {v : V} (r : Rep φ s H d v) : Q v H := p φ H v (Gr.refl φ s H) h r
theorem Post.tup (h : HR G φ s H) {ds : List D} (p : Post G φ s H s (.tup ds) Q) {vs : List V} (r : RepL φ s H ds vs) : ∀ a, H a = none → Q (.ref a) (upd H a (.tup vs)) := fun a ha => by
  have g : Gr φ s H φ s (upd H a (.tup vs)) := Gr.free h ha
  refine p φ _ _ g (h.free ha) ?_
  simp only [Rep]
  exact ⟨a, vs, rfl, upd_same, h.fresh ha, RepL.mono g ds r⟩
/-- a new list, frozen or boxed -/
theorem Post.lst (h : HR G φ s H) {bx : Bool} {ds : List D} (e : mkL bx ds s = some (.ok d, s')) (p : Post G φ s H s' d Q) {vs : List V} (r : RepL φ s H ds vs) : ∀ a, H a = none → Q (.ref a) (upd H a (.lst vs)) := fun a ha => by
  unfold mkL at e
  cases bx with
  | true =>
    rw [if_pos rfl] at e
    cases e
    have g : Gr φ s H (Fl.bx φ s.nx a) (s.new (.lst ds)) (upd H a (.lst vs)) := Gr.box h ha
    refine p _ _ _ g (h.box ha ⟨vs, upd_same, RepL.mono g ds r⟩) ?_
    simp only [Rep]
    exact ⟨a, rfl, by show (if s.nx = s.nx then some a else φ s.nx) = some a; rw [if_pos rfl]⟩
  | false =>
    rw [if_neg Bool.false_ne_true] at e
    cases e
    have g : Gr φ s H φ s (upd H a (.lst vs)) := Gr.free h ha
    refine p φ _ _ g (h.free ha) ?_
    simp only [Rep]
    exact ⟨a, vs, rfl, upd_same, h.fresh ha, RepL.mono g ds r⟩
end
noncomputable def bopOf : Bop → Operator
  | .add => .Add | .sub => .Sub | .mul => .Mult | .fdiv => .FloorDiv | .mod => .Mod | .pow => .Pow
noncomputable def rInt (o : Bop) : R2 := fun x y H Q => ∃ i j k, x = .int i ∧ y = .int j ∧ binI o i j = some k ∧ Q (.int k) H
noncomputable def rStrA : R2 := fun x y H Q => ∃ i j, x = .str i ∧ y = .str j ∧ i.length + j.length ≤ sizeLine ∧ Q (.str (i ++ j)) H
noncomputable def rBin (K : PySem.W.Frag) : Bop → R2
  | .add => fun x y H Q => (rInt .add x y H Q ∨ rStrA x y H Q) ∨ rCatA K x y H Q
  | o => rInt o
theorem sm64_iff {i : Int} (h : sm64 i = true) : -(2 ^ 64) < i ∧ i < 2 ^ 64 := by
  unfold sm64 at h
  simp only [Bool.and_eq_true, decide_eq_true_eq] at h
  exact h
theorem op_mul2 {X : Cx} : OpR X (binaryOp .Mult) (rInt .mul) := by
  intro pins s σ H x y v u Q I rx ry h
  obtain ⟨i, j, k, rfl, rfl, e, q⟩ := h
  have e' : (if ((sm64 i || sm64 j) || wd i j) = true then some (i * j) else none) = some k := e
  by_cases hc : ((sm64 i || sm64 j) || wd i j) = true
  · rw [if_pos hc] at e'
    cases e'
    rcases Bool.or_eq_true_iff.mp hc with hc | hw
    · obtain ⟨t, rfl⟩ := rx
      obtain ⟨t', rfl⟩ := ry
      rcases Bool.or_eq_true_iff.mp hc with h | h
      · obtain ⟨h1, h2⟩ := sm64_iff h
        exact PyProof.Rows.mul_int ⟨.int _, H, I.tok _, ⟨_, rfl⟩, q⟩ (.of_left (intBits_le_64 h1 h2))
      · obtain ⟨h1, h2⟩ := sm64_iff h
        exact PyProof.Rows.mul_int ⟨.int _, H, I.tok _, ⟨_, rfl⟩, q⟩ (.of_right (intBits_le_64 h1 h2))
    · unfold wd at hw
      rw [Bool.and_eq_true, decide_eq_true_eq, decide_eq_true_eq] at hw
      exact op_mulW pins s σ H _ _ v u Q I rx ry ⟨i, j, rfl, rfl, wide_mul hw.1 hw.2 (by decide) (by decide) (by decide), q⟩
  · rw [if_neg hc] at e'
    cases e'
theorem op_fdivB {X : Cx} : OpR X (binaryOp .FloorDiv) (rI (fun _ j => j ≠ 0 ∧ j.natAbs < 10000000000000000000000000000000000000000) fun i j => .int (i.fdiv j)) := opI fun _ _ _ _ _ _ _ hc q => PyProof.Rows.floordiv_int hc.1 q (.inl (PyProof.noPylong_of_log2 (Nat.lt_of_lt_of_le (PySem.Flt.log2_lt_of (k := 140) (by decide) (Nat.lt_of_lt_of_le hc.2 (by decide))) (by decide))))
theorem op_bin {X : Cx} (o : Bop) : OpR X (binaryOp (bopOf o)) (rBin X.K o) := by
  cases o with
  | add =>
    refine OpR.or (OpR.or ?_ op_add_str) op_catA
    intro pins s σ H x y v u Q I rx ry h
    obtain ⟨i, j, k, rfl, rfl, e, q⟩ := h
    cases e
    exact op_add pins s σ H _ _ v u Q I rx ry ⟨i, j, rfl, rfl, q⟩
  | sub =>
    intro pins s σ H x y v u Q I rx ry h
    obtain ⟨i, j, k, rfl, rfl, e, q⟩ := h
    cases e
    exact op_sub pins s σ H _ _ v u Q I rx ry ⟨i, j, rfl, rfl, q⟩
  | mul => exact op_mul2
  | fdiv =>
    intro pins s σ H x y v u Q I rx ry h
    obtain ⟨i, j, k, rfl, rfl, e, q⟩ := h
    have e' : (if j ≠ 0 ∧ j.natAbs < 10000000000000000000000000000000000000000 then some (i.fdiv j) else none) = some k := e
    split at e'
    · rename_i hc
      cases e'
      exact op_fdivB pins s σ H _ _ v u Q I rx ry ⟨i, j, rfl, rfl, hc, q⟩
    · cases e'
  | mod =>
    intro pins s σ H x y v u Q I rx ry h
    obtain ⟨i, j, k, rfl, rfl, e, q⟩ := h
    have e' : (if j ≠ 0 then some (i.fmod j) else none) = some k := e
    split at e'
    · rename_i hc
      cases e'
      exact op_modN pins s σ H _ _ v u Q I rx ry ⟨i, j, rfl, rfl, hc, q⟩
    · cases e'
  | pow =>
    intro pins s σ H x y v u Q I rx ry h
    obtain ⟨i, j, k, rfl, rfl, e, q⟩ := h
    have e' : (if 0 ≤ j ∧ j ≤ 1000000 ∧ i.natAbs < 2 ^ 64 then some (i ^ j.toNat) else none) = some k := e
    split at e'
    · rename_i hc
      cases e'
      exact op_pow pins s σ H _ _ v u Q I rx ry ⟨i, j, rfl, rfl, hc, q⟩
    · cases e'
section
variable {G : Glob} {φ : Mp} {s s' : S} {H : Hp} {a b d : D} {x y : V} {Q : VK} {K : PySem.W.Frag}
theorem bin_ok {o : Bop} (h : HR G φ s H) (ra : Rep φ s H a x) (rb : Rep φ s H b y) (e : binD o a b = some d) (p : Post G φ s H s d Q) : rBin K o x y H Q := by
  unfold binD at e
  split at e
  · rename_i i j
    simp only [Rep] at ra rb
    subst ra rb
    cases hk : binI o i j with
    | none =>
      rw [hk] at e
      cases e
    | some k =>
      rw [hk] at e
      cases e
      have q : rInt o (.int i) (.int j) H Q := ⟨i, j, k, rfl, rfl, hk, p.here h (by simp only [Rep])⟩
      cases o with
      | add => exact .inl (.inl q)
      | _ => exact q
  · rename_i i j
    simp only [Rep] at ra rb
    subst ra rb
    split at e
    · rename_i hz
      cases e
      refine .inl (.inr ⟨_, _, rfl, rfl, ?_, p.here h ?_⟩)
      · rw [str_len, str_len, ← LIM_eq]
        exact hz
      · simp only [Rep]
        rw [str_app]
    · cases e
  · rename_i xs ys
    split at e
    · rename_i hz
      cases e
      simp only [Rep] at ra rb
      obtain ⟨a1, vs, rfl, h1, d1, l1⟩ := ra
      obtain ⟨a2, ws, rfl, h2, d2, l2⟩ := rb
      refine .inr ⟨a1, a2, vs, ws, rfl, rfl, SqT.of h1, SqT.of h2, ?_, ?_, ?_, ?_⟩
      · rw [l1.length, l2.length, ← LIM_eq]
        exact hz
      · intro hv
        have hx : xs = [] := List.length_eq_zero_iff.mp (by rw [← l1.length, hv]; rfl)
        subst hx
        refine p.here h ?_
        simp only [Rep]
        exact ⟨a2, ws, rfl, h2, d2, l2⟩
      · intro _ hw
        have hy : ys = [] := List.length_eq_zero_iff.mp (by rw [← l2.length, hw]; rfl)
        subst hy
        refine p.here h ?_
        rw [List.append_nil]
        simp only [Rep]
        exact ⟨a1, vs, rfl, h1, d1, l1⟩
      · intro _ _
        exact p.tup h (l1.app l2)
    · cases e
  · cases e
end
section
variable {φ : Mp} {s : S} {H : Hp} {K : PySem.W.Frag}
mutual
theorem rep_dp : ∀ (d : D) {k : Nat} {v : V}, shp k d = true → Rep φ s H d v → Dp K H v (toPD d)
  | .non, k, v, _, r => by
    simp only [Rep] at r
    subst r
    simp only [toPD]
    exact .non
  | .bl b, k, v, _, r => by
    simp only [Rep] at r
    subst r
    simp only [toPD]
    exact .bl b
  | .int i, k, v, _, r => by
    simp only [Rep] at r
    subst r
    simp only [toPD]
    exact .int i
  | .str x, k, v, _, r => by
    simp only [Rep] at r
    subst r
    simp only [toPD]
    exact .str _
  | .tup xs, 0, v, h, r => by simp only [shp] at h; cases h
  | .tup xs, k + 1, v, h, r => by
    simp only [shp] at h
    simp only [Rep] at r
    obtain ⟨a, vs, rfl, h1, _, l⟩ := r
    simp only [toPD]
    exact .tup (SqT.of h1) (rep_dps xs h l)
  | .lst xs, 0, v, h, r => by simp only [shp] at h; cases h
  | .lst xs, k + 1, v, h, r => by
    simp only [shp] at h
    simp only [Rep] at r
    obtain ⟨a, vs, rfl, h1, _, l⟩ := r
    simp only [toPD]
    exact .lst (SqL.of h1) (rep_dps xs h l)
  | .ref n, k, v, h, r => by simp only [shp] at h; cases h
  | .scr xs, k, v, h, r => by simp only [shp] at h; cases h
theorem rep_dps : ∀ (ds : List D) {k : Nat} {vs : List V}, shpL k ds = true → RepL φ s H ds vs → DpAll K H vs (toPDs ds)
  | [], k, vs, _, r => by
    simp only [RepL] at r
    subst r
    simp only [toPDs]
    exact .nil
  | d :: ds, k, vs, h, r => by
    simp only [shpL, Bool.and_eq_true] at h
    simp only [RepL] at r
    obtain ⟨v, w, rfl, r1, r2⟩ := r
    simp only [toPDs]
    exact .cons (rep_dp d h.1 r1) (rep_dps ds h.2 r2)
end
end
mutual
theorem shp_shaped : ∀ (d : D) {k : Nat}, shp k d = true → (toPD d).canLay0 = true ∧ (toPD d).depth ≤ k
  | .non, k, h => by simp [toPD, PyData.canLay0, PyData.depth]
  | .bl b, k, h => by simp [toPD, PyData.canLay0, PyData.depth]
  | .int i, k, h => by simp [toPD, PyData.canLay0, PyData.depth]
  | .str x, k, h => by
    simp only [shp] at h
    refine ⟨?_, by simp [toPD, PyData.depth]⟩
    simp only [toPD, PyData.canLay0, PyData.strOk]
    rw [← Array.all_toList]
    exact h
  | .tup xs, 0, h => by simp only [shp] at h; cases h
  | .tup xs, k + 1, h => by
    simp only [shp] at h
    obtain ⟨h1, h2⟩ := shpL_shaped xs h
    simp only [toPD, PyData.canLay0, PyData.depth]
    exact ⟨h1, by omega⟩
  | .lst xs, 0, h => by simp only [shp] at h; cases h
  | .lst xs, k + 1, h => by
    simp only [shp] at h
    obtain ⟨h1, h2⟩ := shpL_shaped xs h
    simp only [toPD, PyData.canLay0, PyData.depth]
    exact ⟨h1, by omega⟩
  | .ref n, k, h => by simp only [shp] at h; cases h
  | .scr xs, k, h => by simp only [shp] at h; cases h
theorem shpL_shaped : ∀ (ds : List D) {k : Nat}, shpL k ds = true → PyData.canLayAll0 (toPDs ds) = true ∧ PyData.depthAll (toPDs ds) ≤ k
  | [], k, _ => by simp [toPDs, PyData.canLayAll0, PyData.depthAll]
  | d :: ds, k, h => by
    simp only [shpL, Bool.and_eq_true] at h
    obtain ⟨h1, h2⟩ := shp_shaped d h.1
    obtain ⟨h3, h4⟩ := shpL_shaped ds h.2
    simp only [toPDs, PyData.canLayAll0, PyData.depthAll, h1, h3, Bool.and_self, true_and]
    exact Nat.max_le.mpr ⟨h2, h4⟩
end
theorem beq_str (x y : List Nat) : ((⟨x.toArray⟩ : Str) == ⟨y.toArray⟩) = (x == y) := by
  rw [Bool.eq_iff_iff]
  simp only [beq_iff_eq]
  exact str_inj
mutual
theorem eqv_eq : ∀ (a b : D) {k j : Nat}, shp k a = true → shp j b = true → PyData.eqv (toPD a) (toPD b) = eqD a b
  | .tup xs, .tup ys, k, j, h, h' => by
    cases k with
    | zero => simp only [shp] at h; cases h
    | succ k =>
      cases j with
      | zero => simp only [shp] at h'; cases h'
      | succ j =>
        simp only [shp] at h h'
        simp only [toPD, PyData.eqv, eqD]
        exact eqvL_eq xs ys h h'
  | .lst xs, .lst ys, k, j, h, h' => by
    cases k with
    | zero => simp only [shp] at h; cases h
    | succ k =>
      cases j with
      | zero => simp only [shp] at h'; cases h'
      | succ j =>
        simp only [shp] at h h'
        simp only [toPD, PyData.eqv, eqD]
        exact eqvL_eq xs ys h h'
  | .str x, .str y, k, j, h, h' => by
    simp only [toPD, PyData.eqv, eqD]
    exact beq_str x y
  | .ref n, b, k, j, h, h' => by simp only [shp] at h; cases h
  | .scr n, b, k, j, h, h' => by simp only [shp] at h; cases h
  | .non, b, k, j, h, h' => by cases b <;> first | (simp only [shp] at h'; cases h'; done) | simp only [toPD, PyData.eqv, eqD]
  | .bl x, b, k, j, h, h' => by cases b <;> first | (simp only [shp] at h'; cases h'; done) | simp only [toPD, PyData.eqv, eqD]
  | .int x, b, k, j, h, h' => by cases b <;> first | (simp only [shp] at h'; cases h'; done) | simp only [toPD, PyData.eqv, eqD]
  | .str x, .non, k, j, h, h' => by simp only [toPD, PyData.eqv, eqD]
  | .str x, .bl _, k, j, h, h' => by simp only [toPD, PyData.eqv, eqD]
  | .str x, .int _, k, j, h, h' => by simp only [toPD, PyData.eqv, eqD]
  | .str x, .tup _, k, j, h, h' => by simp only [toPD, PyData.eqv, eqD]
  | .str x, .lst _, k, j, h, h' => by simp only [toPD, PyData.eqv, eqD]
  | .str x, .ref _, k, j, h, h' => by simp only [shp] at h'; cases h'
  | .str x, .scr _, k, j, h, h' => by simp only [shp] at h'; cases h'
  | .tup x, .non, k, j, h, h' => by simp only [toPD, PyData.eqv, eqD]
  | .tup x, .bl _, k, j, h, h' => by simp only [toPD, PyData.eqv, eqD]
  | .tup x, .int _, k, j, h, h' => by simp only [toPD, PyData.eqv, eqD]
  | .tup x, .str _, k, j, h, h' => by simp only [toPD, PyData.eqv, eqD]
  | .tup x, .lst _, k, j, h, h' => by simp only [toPD, PyData.eqv, eqD]
  | .tup x, .ref _, k, j, h, h' => by simp only [shp] at h'; cases h'
  | .tup x, .scr _, k, j, h, h' => by simp only [shp] at h'; cases h'
  | .lst x, .non, k, j, h, h' => by simp only [toPD, PyData.eqv, eqD]
  | .lst x, .bl _, k, j, h, h' => by simp only [toPD, PyData.eqv, eqD]
  | .lst x, .int _, k, j, h, h' => by simp only [toPD, PyData.eqv, eqD]
  | .lst x, .str _, k, j, h, h' => by simp only [toPD, PyData.eqv, eqD]
  | .lst x, .tup _, k, j, h, h' => by simp only [toPD, PyData.eqv, eqD]
  | .lst x, .ref _, k, j, h, h' => by simp only [shp] at h'; cases h'
  | .lst x, .scr _, k, j, h, h' => by simp only [shp] at h'; cases h'
theorem eqvL_eq : ∀ (a b : List D) {k j : Nat}, shpL k a = true → shpL j b = true → PyData.eqvAll (toPDs a) (toPDs b) = eqL a b
  | [], [], k, j, h, h' => by simp only [toPDs, PyData.eqvAll, eqL]
  | [], _ :: _, k, j, h, h' => by simp only [toPDs, PyData.eqvAll, eqL]
  | _ :: _, [], k, j, h, h' => by simp only [toPDs, PyData.eqvAll, eqL]
  | x :: xs, y :: ys, k, j, h, h' => by
    simp only [shpL, Bool.and_eq_true] at h h'
    simp only [toPDs, PyData.eqvAll, eqL]
    rw [eqv_eq x y h.1 h'.1, eqvL_eq xs ys h.2 h'.2]
end
section
variable {G : Glob} {φ : Mp} {s : S} {H : Hp} {K : PySem.W.Frag}
/-- a list's box, opened -/
theorem opn_dp (hk : φ.K = K) (h : HR G φ s H) {d : D} {v : V} (hs : shp 60 (opn s d) = true) (r : Rep φ s H d v) : Dp K H v (toPD (opn s d)) := by
  cases d with
  | ref n =>
    simp only [opn] at hs ⊢
    split at hs
    · rename_i xs q
      simp only [Rep] at r
      obtain ⟨a, rfl, ha⟩ := r
      obtain ⟨b, hb, vs, h1, h2⟩ := h.ob n _ q
      rw [ha] at hb
      cases hb
      simp only [shp] at hs
      simp only [toPD]
      exact .lst (SqL.of h1) (rep_dps xs hs h2)
    · simp only [shp] at hs
      cases hs
  | scr xs =>
    simp only [opn] at hs ⊢
    simp only [Rep] at r
    obtain ⟨a, vs, rfl, h1, l⟩ := r
    simp only [shp] at hs
    simp only [toPD]
    exact .lst (by rw [← hk]; exact h1.sq) (rep_dps xs hs l)
  | _ =>
    simp only [opn] at hs ⊢
    exact rep_dp _ hs r
mutual
theorem opnD_dp (hk : φ.K = K) (h : HR G φ s H) : ∀ (k : Nat) (d : D) {j : Nat} {v : V}, shp j (opnD s k d) = true → Rep φ s H d v → Dp K H v (toPD (opnD s k d))
  | 0, d, j, v, hs, r => by
    simp only [opnD] at hs ⊢
    exact rep_dp d hs r
  | k + 1, .ref n, j, v, hs, r => by
    simp only [opnD] at hs ⊢
    split at hs
    · rename_i xs q
      simp only [Rep] at r
      obtain ⟨a, rfl, ha⟩ := r
      obtain ⟨b, hb, vs, h1, h2⟩ := h.ob n _ q
      rw [ha] at hb
      cases hb
      cases j with
      | zero => simp only [shp] at hs; cases hs
      | succ j =>
        simp only [shp] at hs
        simp only [toPD]
        exact .lst (SqL.of h1) (opnD_dps hk h k xs hs h2)
    · simp only [shp] at hs
      cases hs
  | k + 1, .scr xs, j, v, hs, r => by
    simp only [opnD] at hs ⊢
    simp only [Rep] at r
    obtain ⟨a, vs, rfl, h1, l⟩ := r
    cases j with
    | zero => simp only [shp] at hs; cases hs
    | succ j =>
      simp only [shp] at hs
      simp only [toPD]
      exact .lst (by rw [← hk]; exact h1.sq) (rep_dps xs hs l)
  | k + 1, .tup xs, j, v, hs, r => by
    simp only [opnD] at hs ⊢
    simp only [Rep] at r
    obtain ⟨a, vs, rfl, h1, _, l⟩ := r
    cases j with
    | zero => simp only [shp] at hs; cases hs
    | succ j =>
      simp only [shp] at hs
      simp only [toPD]
      exact .tup (SqT.of h1) (opnD_dps hk h k xs hs l)
  | k + 1, .lst xs, j, v, hs, r => by
    simp only [opnD] at hs ⊢
    simp only [Rep] at r
    obtain ⟨a, vs, rfl, h1, _, l⟩ := r
    cases j with
    | zero => simp only [shp] at hs; cases hs
    | succ j =>
      simp only [shp] at hs
      simp only [toPD]
      exact .lst (SqL.of h1) (opnD_dps hk h k xs hs l)
  | k + 1, .non, j, v, hs, r => by
    simp only [opnD] at hs ⊢
    exact rep_dp _ hs r
  | k + 1, .bl _, j, v, hs, r => by
    simp only [opnD] at hs ⊢
    exact rep_dp _ hs r
  | k + 1, .int _, j, v, hs, r => by
    simp only [opnD] at hs ⊢
    exact rep_dp _ hs r
  | k + 1, .str _, j, v, hs, r => by
    simp only [opnD] at hs ⊢
    exact rep_dp _ hs r
theorem opnD_dps (hk : φ.K = K) (h : HR G φ s H) : ∀ (k : Nat) (ds : List D) {j : Nat} {vs : List V}, shpL j (ds.map (opnD s k)) = true → RepL φ s H ds vs → DpAll K H vs (toPDs (ds.map (opnD s k)))
  | k, [], j, vs, _, r => by
    simp only [RepL] at r
    subst r
    simp only [List.map_nil, toPDs]
    exact .nil
  | k, d :: ds, j, vs, hs, r => by
    simp only [List.map_cons, shpL, Bool.and_eq_true] at hs
    simp only [RepL] at r
    obtain ⟨v, w, rfl, r1, r2⟩ := r
    simp only [List.map_cons, toPDs]
    exact .cons (opnD_dp hk h k d hs.1 r1) (opnD_dps hk h k ds hs.2 r2)
end
end
theorem shp_sh {d : D} (h : shp 60 d = true) : SeqAt.shaped (toPD d) = true := by
  obtain ⟨h1, h2⟩ := shp_shaped d h
  unfold SeqAt.shaped
  rw [h1, Bool.true_and]
  exact decide_eq_true (by omega)
section
variable {G : Glob} {φ : Mp} {s s' : S} {H : Hp} {a b : D} {x y : V} {K : PySem.W.Frag} {k : Bool}
theorem hv_of (hkk : φ.K = K) (h : HR G φ s H) {a : D} {x : V} (ra : Rep φ s H a x) (e : hvD s a = true) : Hvy K H x := by
  cases a with
  | tup xs =>
    simp only [Rep] at ra
    obtain ⟨p, vs, rfl, h1, _, _⟩ := ra
    exact .inr (.inl ⟨p, vs, rfl, SqT.of h1⟩)
  | lst xs =>
    simp only [Rep] at ra
    obtain ⟨p, vs, rfl, h1, _, _⟩ := ra
    exact .inl ⟨p, vs, rfl, SqL.of h1⟩
  | ref n =>
    simp only [Rep] at ra
    obtain ⟨p, rfl, hp⟩ := ra
    simp only [hvD] at e
    split at e
    · rename_i xs hn
      obtain ⟨b, hb, vs, h1, _⟩ := h.ob n _ hn
      rw [hp] at hb
      cases hb
      exact .inl ⟨p, vs, rfl, SqL.of h1⟩
    · rename_i kvs hn
      obtain ⟨b, hb, ks, h1, _⟩ := h.ob n _ hn
      rw [hp] at hb
      cases hb
      exact .inr (.inr ⟨p, ks, rfl, h1⟩)
    · cases e
  | _ => cases e
theorem ccont_of (hkk : φ.K = K) (h : HR G φ s H) {a : D} {x : V} {xs : List D} (ra : Rep φ s H a x) (e : ccont s a = some xs) : ∃ p vs, x = .ref p ∧ SqL K H p vs ∧ vs.length = xs.length := by
  cases a with
  | lst ys =>
    cases e
    simp only [Rep] at ra
    obtain ⟨p, vs, rfl, h1, _, h2⟩ := ra
    exact ⟨p, vs, rfl, SqL.of h1, h2.length⟩
  | ref n =>
    simp only [Rep] at ra
    obtain ⟨p, rfl, hp⟩ := ra
    simp only [ccont] at e
    split at e
    · rename_i ys hn
      cases e
      obtain ⟨b, hb, vs, h1, h2⟩ := h.ob n _ hn
      rw [hp] at hb
      cases hb
      exact ⟨p, vs, rfl, SqL.of h1, h2.length⟩
    · cases e
  | _ => cases e
theorem unS_ok (hkk : φ.K = K) (h : HR G φ s H) (ra : Rep φ s H a x) (rb : Rep φ s H b y) (e : unS s a b = some k) : Unl K H x y ∧ k = false := by
  unfold unS at e
  split at e
  · rename_i hc
    cases e
    refine ⟨?_, rfl⟩
    rw [Bool.or_eq_true, Bool.and_eq_true] at hc
    rcases hc with ⟨h1, h2⟩ | h1
    · refine .inl ⟨hv_of hkk h ra h1, ?_⟩
      cases b with
      | non =>
        simp only [Rep] at rb
        exact .inl rb
      | int i =>
        simp only [Rep] at rb
        exact .inr ⟨i, rb⟩
      | _ => cases h2
    · unfold lenU at h1
      split at h1
      · rename_i xs ys e1 e2
        obtain ⟨p, vs, rfl, q1, q2⟩ := ccont_of hkk h ra e1
        obtain ⟨q, ws, rfl, q3, q4⟩ := ccont_of hkk h rb e2
        have := of_decide_eq_true h1
        exact .inr ⟨p, q, vs, ws, rfl, rfl, q1, q3, by omega⟩
      · cases h1
  · cases e
/-- the answer as a value -/
theorem eqS_ok (hkk : φ.K = K) (h : HR G φ s H) (ra : Rep φ s H a x) (rb : Rep φ s H b y) (e : eqS s a b = some k) : (scal x y = true ∧ decide (x = y) = k) ∨ (∃ d e, Dp K H x d ∧ Dp K H y e ∧ SeqAt.shaped d = true ∧ SeqAt.shaped e = true ∧ PyData.eqv d e = k) ∨ (Unl K H x y ∧ k = false) := by
  unfold eqS at e
  split at e
  · simp only [Rep] at ra rb
    subst ra rb
    cases e
    refine .inl ⟨rfl, ?_⟩
    rw [dec_int, Bool.eq_iff_iff]
    simp
  · simp only [Rep] at ra rb
    subst ra rb
    cases e
    refine .inl ⟨rfl, ?_⟩
    rw [Bool.eq_iff_iff]
    simp
  · simp only [Rep] at ra rb
    subst ra rb
    cases e
    refine .inl ⟨rfl, ?_⟩
    rw [dec_bl, Bool.eq_iff_iff]
    simp
  · simp only [Rep] at ra rb
    subst ra rb
    cases e
    exact .inl ⟨rfl, by simp⟩
  · split at e
    · rename_i hc
      cases e
      rw [Bool.and_eq_true] at hc
      exact .inr (.inl ⟨_, _, opn_dp hkk h hc.1 ra, opn_dp hkk h hc.2 rb, shp_sh hc.1, shp_sh hc.2, eqv_eq _ _ hc.1 hc.2⟩)
    · split at e
      · rename_i hc
        cases e
        rw [Bool.and_eq_true] at hc
        exact .inr (.inl ⟨_, _, opnD_dp hkk h 20 _ hc.1 ra, opnD_dp hkk h 20 _ hc.2 rb, shp_sh hc.1, shp_sh hc.2, eqv_eq _ _ hc.1 hc.2⟩)
      · exact .inr (.inr (unS_ok hkk h ra rb e))
end
end Fl
namespace Fl
open PySem L2 PySem.Spec PyProof.Rows
section
variable {prog : Program} {w : World} {A : Around} {E : Value → Shared → Prop} {s : Shared}
theorem pick_rev (xs : Array Value) : ((List.range xs.size).filterMap fun (m : Nat) => xs[(((xs.size : Int) - 1) + (m : Int) * (-1)).toNat]?).toArray = xs.toList.reverse.toArray := by
  congr 1
  have cg : ∀ (l : List Nat) (f g : Nat → Option Value), (∀ m ∈ l, f m = g m) → l.filterMap f = l.filterMap g := by
    intro l f g
    induction l with
    | nil => exact fun _ => rfl
    | cons a l ih =>
      intro h
      rw [List.filterMap_cons, List.filterMap_cons, h a List.mem_cons_self, ih fun m hm => h m (List.mem_cons_of_mem _ hm)]
  have e : (List.range xs.size).filterMap (fun (m : Nat) => xs[(((xs.size : Int) - 1) + (m : Int) * (-1)).toNat]?) = ((List.range xs.size).map fun m => xs.size - 1 - m).filterMap (xs[·]?) := by
    rw [List.filterMap_map]
    refine cg _ _ _ fun m hm => ?_
    have hm' : m < xs.size := List.mem_range.mp hm
    have e1 : (((xs.size : Int) - 1) + (m : Int) * (-1)).toNat = xs.size - 1 - m := by omega
    rw [e1]
    rfl
  rw [e, PySem.W.krv_range, List.filterMap_reverse, PySem.W.krv_all]
theorem sliceApplied_rev {sl : Addr} {vs : Value} {n : Nat} {Q : Int × Int × Nat → Shared → Prop} (hs : s.heap.IsSliceOf sl .none .none vs) (ps : IsPart vs (some (-1)))
    (h : Q ((n : Int) - 1, -1, n) s) : wpAny (model prog w) A (Builtin.Slice.sliceApplied (.ref sl) (pure (n : Int))) Q E s := by
  obtain ⟨os, hos, hcs, hds⟩ := id hs
  unfold Builtin.Slice.sliceApplied Builtin.Slice.sliceFields
  refine wpAny_bind (wpAny_bind (wpAny_field hos hds (x := .none) rfl (wpAny_bind (wpAny_field hos hds (x := .none) rfl (wpAny_bind (wpAny_field hos hds (x := vs) rfl (wpAny_pure ?_)))))))
  refine wpAny_bind (HT.slicePart_ ps ?_)
  show wpAny _ _ (if ((-1 : Int) == 0) = true then _ else _) _ _ s
  rw [if_neg (by decide)]
  refine wpAny_bind (HT.slicePart_ .none (wpAny_bind (HT.slicePart_ .none (wpAny_bind (wpAny_pure ?_)))))
  have e : Builtin.Slice.sliceAdjust none none (-1) (n : Int) = ((n : Int) - 1, -1) := by
    unfold Builtin.Slice.sliceAdjust
    simp
  show wpAny _ _ (match Builtin.Slice.sliceAdjust none none (-1) (n : Int) with | (lo, hi) => pure (lo, (-1 : Int), Builtin.Slice.slicePlaces lo hi (-1))) _ _ s
  rw [e]
  have e2 : Builtin.Slice.slicePlaces ((n : Int) - 1) (-1) (-1) = n := by
    unfold Builtin.Slice.slicePlaces
    simp
    try omega
  show wpAny _ _ (pure ((n : Int) - 1, (-1 : Int), Builtin.Slice.slicePlaces ((n : Int) - 1) (-1) (-1))) _ _ s
  rw [e2]
  exact wpAny_pure h
theorem getItem_tuple_rev {t sl : Addr} {items : Array Value} {vs : Value} {Q : Value → Shared → Prop} (ht : IsTup s.heap t items) (hs : s.heap.IsSliceOf sl .none .none vs) (ps : IsPart vs (some (-1)))
    (h : Q (.ref s.heap.objs.size) { s with heap := s.heap.push { cls := .type "tuple", data := .seq items.toList.reverse.toArray } }) (hsz : items.size ≤ sizeLine) : wpAny (model prog w) A (getItem (.ref t) (.ref sl)) Q E s := by
  have hz : sizeOk (.seq items.toList.reverse.toArray) := by
    show items.toList.reverse.toArray.size ≤ sizeLine
    rw [List.size_toArray, List.length_reverse, Array.length_toList]
    exact hsz
  obtain ⟨os, hos, hcs, hds⟩ := id hs
  have hTs : s.TypeIs (.ref sl) "slice" := ⟨os, hos, hcs⟩
  unfold getItem
  try with_reducible refine wpAny_holding ?_
  first | refine wpAny_bind (wpAny_pure ?_) | skip
  refine wpAny_bind (wpAny_sequenceKey ht.typeIs (by decide) ?_)
  refine wpAny_bind (wpAny_callSpecial?_slot (name := Str.ofString "__getitem__") ht.typeIs slot_tuple_getitem (wpAny_call_entry slot_tuple_getitem ht.typeIs entry_tuple_getitem ?_ (args_tuple_getitem _ _)))
  show wpAny _ _ (Builtin.Tuple.tupleItemsOf (.ref t) >>= _) _ _ s
  refine wpAny_bind (tupleItemsOf_ ht (wpAny_bind (wpAny_typeOf hTs ?_)))
  rw [if_pos (by decide)]
  refine wpAny_bind (sliceApplied_rev hs ps ?_)
  have hno : ¬ ((((items.size : Int) - 1) == 0 && (-1 : Int) == 1 && items.size == items.size) = true) := by simp
  show wpAny _ _ (if (((items.size : Int) - 1) == 0 && (-1 : Int) == 1 && items.size == items.size) = true then _ else _) _ _ s
  rw [if_neg hno, pick_rev]
  first
    | exact wpAny_bind (m := Builtin.Tuple.tupleExact _) (wpAny_newObj_type (wpAny_pure ⟨_, rfl, wpAny_pure h⟩) hz)
    | exact wpAny_bind (m := Builtin.Tuple.tupleExact _) (wpAny_newObj_type (wpAny_bind (wpAny_pure (wpAny_pure ⟨_, rfl, wpAny_pure h⟩))) hz)
    | exact wpAny_bind (wpAny_bind (m := Builtin.Tuple.tupleExact _) (wpAny_newObj_type (wpAny_pure (wpAny_pure ⟨_, rfl, wpAny_pure h⟩)) hz))
    | exact wpAny_bind (wpAny_bind (m := Builtin.Tuple.tupleExact _) (wpAny_newObj_type (wpAny_pure ⟨_, rfl, wpAny_pure h⟩) hz))
end
section
variable {X : Cx} {e : Expr} {te : TE} {k : Nat} {p1 p2 p3 pos : Pos}
/-- the slice [::-1] is laid -/
theorem rev_slice {pins : List (Addr × Obj)} {σ : L2.St} {H : Hp} {s : Shared} {v : Value} {R : Value → Shared → Prop} (I : Inv X pins σ H s)
    (h : ∀ (s2 : Shared) (t : Tok), Inv X pins σ H { s2 with heap := s2.heap.push { cls := .type "slice", data := .fields #[.none, .none, .int (-1) t] } } → wpAny (model X.prog X.w) X.A (subscriptTail e (.Slice none none (some (.UnaryOp .USub (.Constant (.int 1) k p1) p2)) p3) v (.ref s2.heap.objs.size)) R X.xe { s2 with heap := s2.heap.push { cls := .type "slice", data := .fields #[.none, .none, .int (-1) t] } }) :
    wpAny (model X.prog X.w) X.A (eval (.Slice none none (some (.UnaryOp .USub (.Constant (.int 1) k p1) p2)) p3) X.env) (fun i s' => wpAny (model X.prog X.w) X.A (subscriptTail e (.Slice none none (some (.UnaryOp .USub (.Constant (.int 1) k p1) p2)) p3) v i) R X.xe s') X.xe s := by
  have hst : PO X (some (.UnaryOp .USub (.Constant (.int 1) k p1) p2)) (tPart (tUn (rU fun i => .int (-i)) (tC (.int 1)))) := po_some (pe_un un_neg pe_int)
  refine wpAny_Slice (thn (po_none.run pins s σ H (fun o H2 => o = none ∧ H2 = H) I ⟨rfl, rfl⟩) fun vl s2 ⟨l, H2, I2, pl, el, e2⟩ => ?_)
  subst el e2
  refine thn (po_none.run pins s2 σ H2 (fun o H3 => o = none ∧ H3 = H2) I2 ⟨rfl, rfl⟩) fun vu s3 ⟨u, H3, I3, pu, eu, e3⟩ => ?_
  subst eu e3
  refine thn (hst.run pins s3 σ H3 (fun o H4 => o = some (-1) ∧ H4 = H3) I3 ⟨1, rfl, -1, rfl, rfl, rfl⟩) fun vs s4 ⟨o, H4, I4, ps, eo, e4⟩ => ?_
  subst eo e4
  cases pl
  cases pu
  cases ps
  exact h s4 _ (I4.kept (t' := s4.toks) fun b ob q => Heap.get?_push_of_some _ q)
noncomputable def tRevT (K : PySem.W.Frag) (te : TE) : TE := fun σ H Q => te σ H fun x H1 => ∃ a xs, x = .ref a ∧ SqT K H1 a xs ∧ ∀ p, H1 p = none → Q (.ref p) (upd H1 p (.tup xs.reverse))
theorem pe_revT (he : PE X e te) : PE X (.Subscript e (.Slice none none (some (.UnaryOp .USub (.Constant (.int 1) k p1) p2)) p3) pos) (tRevT X.K te) := by
  refine ⟨fun pins s σ H Q I h => ?_⟩
  refine Subscript_ (thn (he.run pins s σ H _ I h) fun v s1 ⟨x, H1, I1, r1, q1⟩ => ?_)
  obtain ⟨a, xs, rfl, hx, q⟩ := q1
  cases r1
  refine rev_slice I1 fun s4 t I5 => ?_
  obtain ⟨its, r, ht, hz⟩ := I5.tuple hx
  have hlen := r.length
  refine tail_any (ops := [.ref a, .ref s4.heap.objs.size]) ht.typeIs slot_tuple_getitem.lookup ?_ (by with_unfolding_all rfl)
  refine getItem_tuple_rev ht (Heap.IsSliceOf.new _ _ _ _) (.int _ _) ?_ (by rw [List.size_toArray]; omega)
  refine ⟨.ref _, _, I5.laid (t' := s4.toks) (o := .tup xs.reverse) (fun b ob q => Heap.get?_push_of_some _ q) (Nat.le_refl _) ?_, rfl, q _ (I5.hok.fresh (Nat.le_refl _))⟩
  exact ⟨by rw [List.length_reverse]; exact hz, its.reverse, r.reverse, IsTup.new _ _⟩
noncomputable def tRevS (te : TE) : TE := fun σ H Q => te σ H fun x H1 => ∃ z : List Nat, x = .str ⟨z.toArray⟩ ∧ z.length ≤ sizeLine ∧ Q (.str ⟨z.reverse.toArray⟩) H1
theorem pick_revS (z : List Nat) (t : Tok) : ((slicePicked ⟨z.toArray⟩ none none (some (-1, t))).filterMap ((⟨z.toArray⟩ : Str).cps[·]?)) = z.reverse := by
  unfold slicePicked Builtin.Str.strSliceIndices
  show (sliceRange ((z.toArray.size : Int) - 1) (-1) (-1)).filterMap (z.toArray[·]?) = z.reverse
  rw [PySem.W.krv_sliceRange, PySem.W.krv_range, List.filterMap_reverse]
  have := PySem.W.krv_all z.toArray
  rw [this]
theorem pe_revS (he : PE X e te) : PE X (.Subscript e (.Slice none none (some (.UnaryOp .USub (.Constant (.int 1) k p1) p2)) p3) pos) (tRevS te) := by
  refine ⟨fun pins s σ H Q I h => ?_⟩
  refine Subscript_ (thn (he.run pins s σ H _ I h) fun v s1 ⟨x, H1, I1, r1, q1⟩ => ?_)
  obtain ⟨z, rfl, hz, q⟩ := q1
  obtain ⟨tk, rfl⟩ := r1
  refine rev_slice I1 fun s4 t I5 => ?_
  refine tail_any (ops := [.str ⟨z.toArray⟩ tk, .ref s4.heap.objs.size]) (typeIs_str _ _ _) PySem.F.slot_str_getitem.lookup ?_ (by with_unfolding_all rfl)
  refine wpAny_getItem_str_slice (l := none) (u := none) (st := some (-1, t)) (Heap.IsSliceOf.new _ _ _ _) rfl ?_
  unfold sliceMade
  rw [if_neg (by simp), pick_revS]
  refine ⟨?_, .str ⟨z.reverse.toArray⟩, H1, I5.tok _, ⟨_, rfl⟩, q⟩
  show z.reverse.toArray.size ≤ sizeLine
  rw [List.size_toArray, List.length_reverse]
  exact hz
end
end Fl
namespace Fl
open PySem L2 PySem.Spec PyProof.Rows
mutual
/-- what a thing shows: as Reads, with its dicts known to be no table of modules -/
inductive Sh (h : Heap) : Value → PyData → Prop
  | non : Sh h .none .none
  | bl (b : Bool) : Sh h (.bool b) (.bool b)
  | int (i : Int) (t : Tok) : Sh h (.int i t) (.int i)
  | str (x : Str) (t : Tok) : Sh h (.str x t) (.str x)
  | lst {a : Addr} {o : Obj} {vs : Array Value} {n : Nat} {xs : List PyData} : h.get? a = some o → o.cls = .type "list" → o.data = .seq vs n → ShL h vs.toList xs → Sh h (.ref a) (.list xs)
  | tup {a : Addr} {o : Obj} {vs : Array Value} {n : Nat} {xs : List PyData} : h.get? a = some o → o.cls = .type "tuple" → o.data = .seq vs n → ShL h vs.toList xs → Sh h (.ref a) (.tuple xs)
  | dct {a : Addr} {o : Obj} {es : Array DictEntry} {n : Nat} {kvs : List (PyData × PyData)} : h.get? a = some o → o.cls = .type "dict" → o.data = .dict es n → (a == sysModules) = false → ShL h (es.toList.map (·.key)) (kvs.map (·.1)) →
      ShL h (es.toList.map (·.val)) (kvs.map (·.2)) → Sh h (.ref a) (.dict kvs)
inductive ShL (h : Heap) : List Value → List PyData → Prop
  | nil : ShL h [] []
  | cons {v : Value} {vs : List Value} {d : PyData} {ds : List PyData} : Sh h v d → ShL h vs ds → ShL h (v :: vs) (d :: ds)
end
mutual
theorem Sh.reads {h : Heap} : ∀ {v : Value} {d : PyData}, Sh h v d → ∃ as, Reads h v d as
  | _, _, .non => ⟨_, .none⟩
  | _, _, .bl b => ⟨_, .bool b⟩
  | _, _, .int i t => ⟨_, .int i t⟩
  | _, _, .str x t => ⟨_, .str x t⟩
  | _, _, .lst h1 h2 h3 h4 => let ⟨_, r⟩ := ShL.reads h4; ⟨_, .list h1 h2 h3 r⟩
  | _, _, .tup h1 h2 h3 h4 => let ⟨_, r⟩ := ShL.reads h4; ⟨_, .tuple h1 h2 h3 r⟩
  | _, _, .dct h1 h2 h3 _ h4 h5 => let ⟨_, r⟩ := ShL.reads h4; let ⟨_, q⟩ := ShL.reads h5; ⟨_, .dict h1 h2 h3 r q⟩
theorem ShL.reads {h : Heap} : ∀ {v : List Value} {d : List PyData}, ShL h v d → ∃ as, ReadsAll h v d as
  | _, _, .nil => ⟨_, .nil⟩
  | _, _, .cons h1 h2 => let ⟨_, r⟩ := Sh.reads h1; let ⟨_, q⟩ := ShL.reads h2; ⟨_, .cons r q⟩
end
section
variable {P : Program} {w : World} {h : Heap}
mutual
theorem Sh.rk : ∀ {v : Value} {d : PyData}, Sh h v d → d.showable = true → d.shown.length ≤ sizeLine → ∃ bs, ReadAtMost h d.depth bs ∧ ReprK P w bs h d.depth v d.shown
  | _, _, .non, _, _ => ⟨[], fun _ z => (List.not_mem_nil z).elim, by simp only [PyData.shown]; exact .of_is ReprIs.none _ _ _⟩
  | _, _, .bl b, _, _ => ⟨[], fun _ z => (List.not_mem_nil z).elim, by simp only [PyData.shown]; exact .of_is (ReprIs.bool b) _ _ _⟩
  | _, _, .int i t, hs, _ => ⟨[], fun _ z => (List.not_mem_nil z).elim, by simp only [PyData.shown]; exact .of_is (ReprIs.int t (by simpa [PyData.showable] using hs)) _ _ _⟩
  | _, _, .str x t, _, hz => ⟨[], fun _ z => (List.not_mem_nil z).elim, by simp only [PyData.shown]; exact .of_is (ReprIs.str x t (by simpa only [PyData.shown] using hz)) _ _ _⟩
  | _, _, .lst (a := a) (vs := vs) (xs := xs) h1 h2 h3 h4, hs, hz => by
    have hz' : (listText (PyData.shownAll xs)).length ≤ sizeLine := by simpa only [PyData.shown] using hz
    obtain ⟨bs, hb, hk⟩ := ShL.rk h4 (by simpa [PyData.showable] using hs) fun t ht => Nat.le_trans (listText_mem_le ht) hz'
    obtain ⟨as, r⟩ := (Sh.lst h1 h2 h3 h4).reads
    have hna : a ∉ bs := not_mem_of_deeper r (by simp only [PyData.depth]; omega) hb
    refine ⟨a :: bs, ReadAtMost.cons r (by simp only [PyData.depth]; omega) hb, ?_⟩
    simp only [PyData.depth, PyData.shown]
    obtain ⟨l⟩ := vs
    cases l with
    | nil =>
      cases (show ShL h [] xs from h4)
      simp only [PyData.shownAll, listText_nil]
      exact ReprK.listEmpty h1 h2 h3
    | cons y l => exact ReprK.list h1 h2 h3 hna (by simpa using hk.length_eq) (fun i z e => hk.item i z (by simpa using e))
  | _, _, .tup (a := a) (xs := xs) h1 h2 h3 h4, hs, hz => by
    have hz' : (tupleText (PyData.shownAll xs)).length ≤ sizeLine := by simpa only [PyData.shown] using hz
    obtain ⟨bs, hb, hk⟩ := ShL.rk h4 (by simpa [PyData.showable] using hs) fun t ht => Nat.le_trans (tupleText_mem_le ht) hz'
    obtain ⟨as, r⟩ := (Sh.tup h1 h2 h3 h4).reads
    have hna : a ∉ bs := not_mem_of_deeper r (by simp only [PyData.depth]; omega) hb
    refine ⟨a :: bs, ReadAtMost.cons r (by simp only [PyData.depth]; omega) hb, ?_⟩
    simp only [PyData.depth, PyData.shown]
    exact ReprK.tuple h1 h2 h3 hna hk
  | _, _, .dct (a := a) (es := es) (kvs := kvs) h1 h2 h3 hy h4 h5, hs, hz => by
    have hz' : (dictText (PyData.shownKv kvs)).length ≤ sizeLine := by simpa only [PyData.shown] using hz
    obtain ⟨s1, s2⟩ := PyData.showableKv_split kvs (by simpa [PyData.showable] using hs)
    obtain ⟨b1, hb1, k1⟩ := ShL.rk h4 s1 fun t ht => let ⟨p, hp, hl⟩ := PyData.shownKv_key_le kvs t ht; Nat.le_trans hl (Nat.le_trans (dictText_mem_le hp) hz')
    obtain ⟨b2, hb2, k2⟩ := ShL.rk h5 s2 fun t ht => let ⟨p, hp, hl⟩ := PyData.shownKv_val_le kvs t ht; Nat.le_trans hl (Nat.le_trans (dictText_mem_le hp) hz')
    obtain ⟨as, r⟩ := (Sh.dct h1 h2 h3 hy h4 h5).reads
    have hb : ReadAtMost h (PyData.depthKv kvs) (b1 ++ b2) := (hb1.mono (PyData.depthAll_keys_le kvs)).append (hb2.mono (PyData.depthAll_vals_le kvs))
    have hna : a ∉ b1 ++ b2 := not_mem_of_deeper r (by simp only [PyData.depth]; omega) hb
    refine ⟨a :: (b1 ++ b2), ReadAtMost.cons r (by simp only [PyData.depth]; omega) hb, ?_⟩
    simp only [PyData.depth, PyData.shown, PyData.shownKv_eq]
    exact ReprK.dict h1 h2 h3 hy hna (ReprEntriesK.of_two es.toList _ _ (k1.more_le (fun b z => List.mem_append_left _ z) (PyData.depthAll_keys_le kvs)) (k2.more_le (fun b z => List.mem_append_right _ z) (PyData.depthAll_vals_le kvs)))
theorem ShL.rk : ∀ {vs : List Value} {ds : List PyData}, ShL h vs ds → PyData.showableAll ds = true → (∀ t ∈ PyData.shownAll ds, t.length ≤ sizeLine) →
    ∃ bs, ReadAtMost h (PyData.depthAll ds) bs ∧ ReprAllK P w bs h (PyData.depthAll ds) vs (PyData.shownAll ds)
  | _, _, .nil, _, _ => ⟨[], fun _ z => (List.not_mem_nil z).elim, by simp only [PyData.shownAll]; exact .nil⟩
  | _, _, .cons (d := d) (ds := ds) h1 h2, hs, hz => by
    obtain ⟨s1, s2⟩ : d.showable = true ∧ PyData.showableAll ds = true := by simpa [PyData.showableAll] using hs
    obtain ⟨b1, hb1, k1⟩ := Sh.rk h1 s1 (hz _ (by simp only [PyData.shownAll]; exact List.mem_cons_self ..))
    obtain ⟨b2, hb2, k2⟩ := ShL.rk h2 s2 fun t ht => hz t (by simp only [PyData.shownAll]; exact List.mem_cons_of_mem _ ht)
    have m1 : d.depth ≤ PyData.depthAll (d :: ds) := by simp only [PyData.depthAll]; omega
    have m2 : PyData.depthAll ds ≤ PyData.depthAll (d :: ds) := by simp only [PyData.depthAll]; omega
    refine ⟨b1 ++ b2, (hb1.mono m1).append (hb2.mono m2), ?_⟩
    simp only [PyData.shownAll]
    exact .cons ((k1.more fun b z => List.mem_append_left _ z).level_le m1) (k2.more_le (fun b z => List.mem_append_right _ z) m2)
end
end
mutual
inductive Dq (K : PySem.W.Frag) (H : Hp) : V → PyData → Prop
  | non : Dq K H .non .none
  | bl (b : Bool) : Dq K H (.bl b) (.bool b)
  | int (i : Int) : Dq K H (.int i) (.int i)
  | str (x : Str) : Dq K H (.str x) (.str x)
  | lst {a : Addr} {xs : List V} {ds : List PyData} : SqL K H a xs → DqL K H xs ds → Dq K H (.ref a) (.list ds)
  | tup {a : Addr} {xs : List V} {ds : List PyData} : SqT K H a xs → DqL K H xs ds → Dq K H (.ref a) (.tuple ds)
  | dct {a : Addr} {ks : List (Key × V)} {kvs : List (PyData × PyData)} : H a = some (.dK ks) → DqL K H (ks.map fun p => kV p.1) (kvs.map (·.1)) → DqL K H (ks.map (·.2)) (kvs.map (·.2)) → Dq K H (.ref a) (.dict kvs)
inductive DqL (K : PySem.W.Frag) (H : Hp) : List V → List PyData → Prop
  | nil : DqL K H [] []
  | cons {v : V} {vs : List V} {d : PyData} {ds : List PyData} : Dq K H v d → DqL K H vs ds → DqL K H (v :: vs) (d :: ds)
end
section
variable {X : Cx} {pins : List (Addr × Obj)} {σ : L2.St} {H : Hp} {s : Shared}
theorem prs_vals {P : Program} {w : World} : ∀ {es : List DictEntry} {vs : List (Key × Value)} {ks : List (Key × V)}, Pairs (mixKind P w) es vs → KV ks vs → Vals (ks.map fun p => kV p.1) (es.map (·.key)) ∧ Vals (ks.map (·.2)) (es.map (·.val)) := by
  intro es vs ks hp
  induction hp generalizing ks with
  | nil =>
    intro q
    cases q
    exact ⟨.nil, .nil⟩
  | cons h1 h2 h3 ih =>
    intro q
    cases q with
    | cons q r =>
      obtain ⟨i1, i2⟩ := ih r
      refine ⟨.cons (relV_key (by rw [q.1]; exact h1)) i1, .cons ?_ i2⟩
      have e := q.2
      rw [← h2] at e
      exact e
mutual
theorem Dq.sh (I : Inv X pins σ H s) : ∀ {v : V} {d : PyData} {u : Value}, Dq X.K H v d → RelV v u → Sh s.heap u d
  | _, _, _, .non, r => by cases r; exact .non
  | _, _, _, .bl b, r => by cases r; exact .bl b
  | _, _, _, .int i, r => by obtain ⟨t, rfl⟩ := r; exact .int i t
  | _, _, _, .str x, r => by obtain ⟨t, rfl⟩ := r; exact .str x t
  | _, _, _, .lst h1 h2, r => by
    cases r
    obtain ⟨its, rv, ⟨o, n, ho, hc, hd, hdt⟩, _⟩ := I.list h1
    exact .lst ho hc hdt (by simpa using DqL.sh I h2 rv)
  | _, _, _, .tup h1 h2, r => by
    cases r
    obtain ⟨its, rv, ⟨o, ho, hc, n, hdt⟩, _⟩ := I.tuple h1
    exact .tup ho hc hdt (by simpa using DqL.sh I h2 rv)
  | _, _, _, .dct h1 h2 h3, r => by
    cases r
    obtain ⟨_, hy, vs, kv, o, es, ep, ho, hx, hd, _, hp, _⟩ := I.hok _ _ h1
    obtain ⟨v1, v2⟩ := prs_vals hp kv
    exact .dct ho hx.1 hd hy (DqL.sh I h2 v1) (DqL.sh I h3 v2)
theorem DqL.sh (I : Inv X pins σ H s) : ∀ {v : List V} {d : List PyData} {u : List Value}, DqL X.K H v d → Vals v u → ShL s.heap u d
  | _, _, _, .nil, r => by cases r; exact .nil
  | _, _, _, .cons h1 h2, r => by cases r with | cons r1 r2 => exact .cons (Dq.sh I h1 r1) (DqL.sh I h2 r2)
end
end
noncomputable def rRepr (K : PySem.W.Frag) : List V → Hp → VK → Prop := fun xs H Q => ∃ x d, xs = [x] ∧ Dq K H x d ∧ d.showable = true ∧ d.depth ≤ 4000 ∧ d.shown.length ≤ sizeLine ∧ Q (.str d.shown) H
section
variable {G : Glob} {φ : Mp} {s : S} {H : Hp} {K : PySem.W.Frag}
mutual
theorem pdO_dq (hk : φ.K = K) (h : HR G φ s H) : ∀ (k : Nat) (x : D) {v : V} {d : PyData}, pdO s k x = some d → Rep φ s H x v → Dq K H v d
  | k, .non, v, d, e, r => by
    simp only [pdO] at e
    cases e
    simp only [Rep] at r
    subst r
    exact .non
  | k, .bl b, v, d, e, r => by
    simp only [pdO] at e
    cases e
    simp only [Rep] at r
    subst r
    exact .bl b
  | k, .int i, v, d, e, r => by
    simp only [pdO] at e
    cases e
    simp only [Rep] at r
    subst r
    exact .int i
  | k, .str x, v, d, e, r => by
    simp only [pdO] at e
    cases e
    simp only [Rep] at r
    subst r
    exact .str _
  | k + 1, .tup xs, v, d, e, r => by
    simp only [pdO, Option.map_eq_some_iff] at e
    obtain ⟨ds, e, rfl⟩ := e
    simp only [Rep] at r
    obtain ⟨a, vs, rfl, h1, _, h2⟩ := r
    exact .tup (SqT.of h1) (pdOs_dq hk h k xs e h2)
  | k + 1, .lst xs, v, d, e, r => by
    simp only [pdO, Option.map_eq_some_iff] at e
    obtain ⟨ds, e, rfl⟩ := e
    simp only [Rep] at r
    obtain ⟨a, vs, rfl, h1, _, h2⟩ := r
    exact .lst (SqL.of h1) (pdOs_dq hk h k xs e h2)
  | k + 1, .ref n, v, d, e, r => by
    simp only [pdO] at e
    simp only [Rep] at r
    obtain ⟨a, rfl, ha⟩ := r
    split at e
    · rename_i xs hn
      simp only [Option.map_eq_some_iff] at e
      obtain ⟨ds, e, rfl⟩ := e
      obtain ⟨b, hb, vs, h1, h2⟩ := h.ob n _ hn
      rw [ha] at hb
      cases hb
      exact .lst (SqL.of h1) (pdOs_dq hk h k xs e h2)
    · rename_i kvs hn
      simp only [Option.map_eq_some_iff] at e
      obtain ⟨ds, e, rfl⟩ := e
      obtain ⟨b, hb, ks, h1, h2⟩ := h.ob n _ hn
      rw [ha] at hb
      cases hb
      obtain ⟨i1, i2⟩ := pdOv_dq hk h k kvs e h2
      exact .dct h1 i1 i2
    · cases e
  | 0, .tup xs, v, d, e, r => by simp only [pdO] at e; cases e
  | 0, .lst xs, v, d, e, r => by simp only [pdO] at e; cases e
  | 0, .ref n, v, d, e, r => by simp only [pdO] at e; cases e
  | k, .scr xs, v, d, e, r => by simp only [pdO] at e; cases e
  termination_by k d => (k, sizeOf d)
theorem pdOs_dq (hk : φ.K = K) (h : HR G φ s H) : ∀ (k : Nat) (xs : List D) {vs : List V} {ds : List PyData}, pdOs s k xs = some ds → RepL φ s H xs vs → DqL K H vs ds
  | k, [], vs, ds, e, r => by
    simp only [pdOs] at e
    cases e
    simp only [RepL] at r
    subst r
    exact .nil
  | k, x :: xs, vs, ds, e, r => by
    simp only [pdOs, Option.bind_eq_some_iff, Option.map_eq_some_iff] at e
    obtain ⟨d, e1, ds, e2, rfl⟩ := e
    simp only [RepL] at r
    obtain ⟨v, w, rfl, r1, r2⟩ := r
    exact .cons (pdO_dq hk h k x e1 r1) (pdOs_dq hk h k xs e2 r2)
  termination_by k d => (k, sizeOf d)
theorem pdOv_dq (hk : φ.K = K) (h : HR G φ s H) : ∀ (k : Nat) (xs : List (DK × D)) {vs : List (Key × V)} {ds : List (PyData × PyData)}, pdOv s k xs = some ds → KR φ s H xs vs → DqL K H (vs.map fun p => kV p.1) (ds.map (·.1)) ∧ DqL K H (vs.map (·.2)) (ds.map (·.2))
  | k, [], vs, ds, e, r => by
    simp only [pdOv] at e
    cases e
    simp only [KRg] at r
    subst r
    exact ⟨.nil, .nil⟩
  | k, (q, x) :: xs, vs, ds, e, r => by
    simp only [pdOv, Option.bind_eq_some_iff, Option.map_eq_some_iff] at e
    obtain ⟨d, e1, ds, e2, rfl⟩ := e
    obtain ⟨v, w, rfl, r1, r2⟩ := r
    obtain ⟨i1, i2⟩ := pdOv_dq hk h k xs e2 r2
    refine ⟨.cons ?_ i1, .cons (pdO_dq hk h k x e1 r1) i2⟩
    cases q with
    | i i => exact .int i
    | s z => exact .str _
  termination_by k d => (k, sizeOf d)
end
end
end Fl
namespace Fl
open PySem L2 PySem.Spec PyProof.Rows
noncomputable def rLtD (K : PySem.W.Frag) : R2 := fun x y H Q => ∃ d1 d2, Dq K H x d1 ∧ Dq K H y d2 ∧ PySem.W.alike d1 d2 = true ∧ d1 ≠ .none ∧ d1.depth ≤ 100 ∧ Q (.bl (PySem.W.dataLt d1 d2)) H
theorem op_ltD {X : Cx} (hu : X.A.units + 200 < cLine) : OpR X (compareOp .Lt) (rLtD X.K) := by
  intro pins s σ H x y v u Q I rx ry h
  obtain ⟨d1, d2, q1, q2, al, nn, hd, q⟩ := h
  obtain ⟨as, r1⟩ := (q1.sh I rx).reads
  obtain ⟨bs, r2⟩ := (q2.sh I ry).reads
  have hm : X.A.units + min d1.depth d2.depth < cLine := by
    have := Nat.min_le_left d1.depth d2.depth
    omega
  exact PySem.W.rcLt_alike d1 d2 X.A s v u as bs r1 r2 al nn hm X.prog X.w _ _ ⟨.bl _, H, I, rfl, q⟩
section
variable {G : Glob} {φ : Mp} {s : S} {H : Hp} {a b : D} {x y : V} {Q : VK} {K : PySem.W.Frag} {k : Bool}
theorem ltS_ok (hkk : φ.K = K) (h : HR G φ s H) (ra : Rep φ s H a x) (rb : Rep φ s H b y) (e : ltS s a b = some k) (q : Q (.bl k) H) : rLtD K x y H Q := by
  unfold ltS at e
  split at e
  · rename_i d1 d2 h1 h2
    split at e
    · rename_i hc
      cases e
      simp only [Bool.and_eq_true, decide_eq_true_eq] at hc
      obtain ⟨⟨h3, h4⟩, h5⟩ := hc
      exact ⟨d1, d2, pdO_dq hkk h _ a h1 ra, pdO_dq hkk h _ b h2 rb, h3, fun z => (by rw [z] at h4; cases h4), h5, q⟩
    · cases e
  · cases e
end
end Fl
namespace Fl
open PySem L2
noncomputable def copOf : Cop → CmpOp
  | .eq => .Eq | .ne => .NotEq | .lt => .Lt | .le => .LtE | .gt => .Gt | .ge => .GtE | .is => .Is | .isn => .IsNot | .inn => .In | .nin => .NotIn
/-- y in d -/
noncomputable def rDIn : R2 := fun y x H Q => ∃ a o, x = .ref a ∧ DGet H a y o ∧ Q (.bl o.isSome) H
noncomputable def rDNin : R2 := fun y x H Q => ∃ a o, x = .ref a ∧ DGet H a y o ∧ Q (.bl (!o.isSome)) H
theorem op_din {X : Cx} (hu : X.A.units + 1 < cLine) : OpR X (compareOp .In) rDIn := by
  intro pins s σ H x y v u Q I rx ry h
  obtain ⟨a, o, rfl, g, q⟩ := h
  obtain rfl : u = Value.ref a := ry
  exact d_in hu I g rx fun s3 I3 => ⟨.bl o.isSome, H, I3, rfl, q⟩
theorem op_dnin {X : Cx} (hu : X.A.units + 1 < cLine) : OpR X (compareOp .NotIn) rDNin := by
  intro pins s σ H x y v u Q I rx ry h
  obtain ⟨a, o, rfl, g, q⟩ := h
  obtain rfl : u = Value.ref a := ry
  exact d_notIn hu I g rx fun s3 I3 => ⟨.bl (!o.isSome), H, I3, rfl, q⟩
/-- x in a tuple, of any depth -/
noncomputable def rInT (K : PySem.W.Frag) : R2 := fun x y H Q => ∃ d ds, Dp K H x d ∧ Dp K H y (.tuple ds) ∧ SeqAt.shaped d = true ∧ SeqAt.shaped (.tuple ds) = true ∧ Q (.bl (ds.any fun z => PyData.eqv z d)) H
noncomputable def rNotInT (K : PySem.W.Frag) : R2 := fun x y H Q => ∃ d ds, Dp K H x d ∧ Dp K H y (.tuple ds) ∧ SeqAt.shaped d = true ∧ SeqAt.shaped (.tuple ds) = true ∧ Q (.bl (!ds.any fun z => PyData.eqv z d)) H
theorem op_inT {X : Cx} (hu : X.A.units + 65 < cLine) : OpR X (compareOp .In) (rInT X.K) := by
  intro pins s σ H x y v u Q I rx ry h
  obtain ⟨d, ds, hd, he, sd, se, q⟩ := h
  obtain ⟨as, r1⟩ := Dp.reads I d x v hd rx
  obtain ⟨bs, r2⟩ := Dp.reads I (.tuple ds) y u he ry
  exact SeqAt.in_tuple_reads r2 r1 (SeqAt.canLay_of_shaped se) (SeqAt.canLay_of_shaped sd) (PyProof.Rows.room_in_shaped sd hu) ⟨.bl _, H, I, rfl, q⟩
theorem op_notInT {X : Cx} (hu : X.A.units + 65 < cLine) : OpR X (compareOp .NotIn) (rNotInT X.K) := by
  intro pins s σ H x y v u Q I rx ry h
  obtain ⟨d, ds, hd, he, sd, se, q⟩ := h
  obtain ⟨as, r1⟩ := Dp.reads I d x v hd rx
  obtain ⟨bs, r2⟩ := Dp.reads I (.tuple ds) y u he ry
  exact SeqAt.notIn_tuple_reads r2 r1 (SeqAt.canLay_of_shaped se) (SeqAt.canLay_of_shaped sd) (PyProof.Rows.room_in_shaped sd hu) ⟨.bl _, H, I, rfl, q⟩
/-- a comparison whose answer is k -/
noncomputable def rCmp (K : PySem.W.Frag) : Cop → R2
  | .eq => fun x y H Q => rEq x y H Q ∨ rEqD K x y H Q ∨ rEqN K x y H Q
  | .ne => fun x y H Q => rNe x y H Q ∨ rNeD K x y H Q ∨ rNeN K x y H Q
  | .lt => fun x y H Q => (∃ i j, x = .int i ∧ y = .int j ∧ Q (.bl (decide (i < j))) H) ∨ (∃ i j, x = .str i ∧ y = .str j ∧ Q (.bl (decide (i.cps.toList < j.cps.toList))) H) ∨ rLtD K x y H Q
  | .le => fun x y H Q => (∃ i j, x = .int i ∧ y = .int j ∧ Q (.bl (decide (i ≤ j))) H) ∨ ∃ i j, x = .str i ∧ y = .str j ∧ Q (.bl (!decide (j.cps.toList < i.cps.toList))) H
  | .gt => fun x y H Q => ∃ i j, x = .int i ∧ y = .int j ∧ Q (.bl (decide (j < i))) H
  | .ge => fun x y H Q => ∃ i j, x = .int i ∧ y = .int j ∧ Q (.bl (decide (j ≤ i))) H
  | .is => fun x y H Q => (y = .non ∧ Q (.bl (decide (x = .non))) H) ∨ rIsB x y H Q
  | .isn => fun x y H Q => (y = .non ∧ Q (.bl (!decide (x = .non))) H) ∨ rNotB x y H Q
  | .inn => fun x y H Q => (∃ (c : Nat) (z : Str), x = .str ⟨#[c]⟩ ∧ y = .str z ∧ Q (.bl (decide (c ∈ z.cps.toList))) H) ∨ rIn K false x y H Q ∨ rDIn x y H Q ∨ rInD K x y H Q ∨ rInT K x y H Q
  | .nin => fun x y H Q => (∃ (c : Nat) (z : Str), x = .str ⟨#[c]⟩ ∧ y = .str z ∧ Q (.bl (!decide (c ∈ z.cps.toList))) H) ∨ rIn K true x y H Q ∨ rDNin x y H Q ∨ rNotInD K x y H Q ∨ rNotInT K x y H Q
theorem op_cmp {X : Cx} (hu : X.A.units + 4499 < cLine) (o : Cop) : OpR X (compareOp (copOf o)) (rCmp X.K o) := by
  cases o with
  | eq => exact OpR.or op_eq (OpR.or (op_eqD (by omega)) (op_eqN (by omega)))
  | ne => exact OpR.or op_ne (OpR.or (op_neD (by omega)) (op_neN (by omega)))
  | lt => exact OpR.or op_lt (OpR.or op_lt_str (op_ltD (by omega)))
  | le => exact OpR.or op_le op_le_str
  | gt => exact op_gt
  | ge => exact op_ge
  | is => exact OpR.or op_isN op_isBl
  | isn => exact OpR.or op_notN op_notBl
  | inn => exact OpR.or op_in_sign (OpR.or op_in_seq (OpR.or (op_din (by omega)) (OpR.or (op_inD (by omega)) (op_inT (by omega)))))
  | nin => exact OpR.or op_notIn_sign (OpR.or op_notIn_seq (OpR.or (op_dnin (by omega)) (OpR.or (op_notInD (by omega)) (op_notInT (by omega)))))
section
variable {G : Glob} {φ : Mp} {s s' : S} {H : Hp} {a b d : D} {x y : V} {Q : VK} {K : PySem.W.Frag} {k : Bool}
theorem flat_V (f : flat a = true) (r : Rep φ s H a x) : flatV x = true := by
  cases a <;> first | (simp only [Rep] at r; subst r; rfl) | cases f
theorem eq_V (f : flat a = true) (f' : flat b = true) (r : Rep φ s H a x) (r' : Rep φ s H b y) : eqV x y = eqD a b := by
  cases a <;> cases b <;> first | (cases f; done) | (cases f'; done) | skip
  all_goals (simp only [Rep] at r r'; subst r; subst r')
  all_goals first | rfl | (simp only [eqV, eqD]; done) | (simp only [eqV, eqD]; exact beq_str _ _)
theorem flats_V : ∀ {ds : List D} {vs : List V}, ds.all flat = true → RepL φ s H ds vs → vs.all flatV = true
  | [], vs, _, r => by
    simp only [RepL] at r
    subst r
    rfl
  | d :: ds, vs, f, r => by
    simp only [RepL] at r
    obtain ⟨v, w, rfl, r1, r2⟩ := r
    rw [List.all_cons, Bool.and_eq_true] at f ⊢
    exact ⟨flat_V f.1 r1, flats_V f.2 r2⟩
theorem any_V : ∀ {ds : List D} {vs : List V}, flat a = true → Rep φ s H a x → ds.all flat = true → RepL φ s H ds vs → (vs.any fun z => eqV z x) = ds.any fun z => eqD z a
  | [], vs, _, _, _, r => by
    simp only [RepL] at r
    subst r
    rfl
  | d :: ds, vs, fa, ra, f, r => by
    simp only [RepL] at r
    obtain ⟨v, w, rfl, r1, r2⟩ := r
    rw [List.all_cons, Bool.and_eq_true] at f
    rw [List.any_cons, List.any_cons, eq_V f.1 fa r1 ra, any_V fa ra f.2 r2]
theorem isNon_V (r : Rep φ s H a x) : decide (x = .non) = isNon a := by
  cases a <;> simp only [Rep] at r
  · subst r; rfl
  · subst r; rfl
  · subst r; rfl
  · subst r; rfl
  · obtain ⟨_, _, rfl, _⟩ := r; rfl
  · obtain ⟨_, _, rfl, _⟩ := r; rfl
  · obtain ⟨_, rfl, _⟩ := r; rfl
  · obtain ⟨_, _, rfl, _⟩ := r; rfl
theorem seq_of (hk : φ.K = K) (h : HR G φ s H) {xs : List D} (r : Rep φ s H d y) (e : cont s d = some xs) : ∃ p vs, y = .ref p ∧ (SqL K H p vs ∨ SqT K H p vs) ∧ RepL φ s H xs vs := by
  obtain ⟨p, vs, rfl, h1, h2⟩ := r.cont h e
  rw [hk] at h1
  exact ⟨p, vs, rfl, h1, h2⟩
theorem key_ok {k : DK} {a : D} {x : V} (r : Rep φ s H a x) (e : keyOf a = some k) : x = kV (kyOf k) := by
  cases a with
  | int i =>
    cases e
    simp only [Rep] at r
    exact r
  | str z =>
    cases e
    simp only [Rep] at r
    exact r
  | _ => cases e
theorem ky_inj {a b : DK} : kyOf a = kyOf b ↔ a = b := by
  cases a with
  | i i =>
    cases b with
    | i j => simp [kyOf]
    | s y => simp [kyOf]
  | s x =>
    cases b with
    | i j => simp [kyOf]
    | s y => simp [kyOf]
theorem kyT_inj {a b : List DK} : a.map kyOf = b.map kyOf ↔ a = b :=
  ⟨fun h => List.map_inj_right (fun x y z => ky_inj.mp z) |>.mp h, fun h => by rw [h]⟩
section
variable {κ κ' : Type} [DecidableEq κ] [DecidableEq κ'] {g : κ → κ'} (hg : ∀ {a b}, g a = g b ↔ a = b)
include hg
theorem look_okG : ∀ {kvs : List (κ × D)} {ks : List (κ' × V)} (k : κ), KRg g φ s H kvs ks → (match dlook kvs k with | some d => ∃ v, valV ks (g k) = some v ∧ Rep φ s H d v | none => valV ks (g k) = none)
  | [], ks, k, h => by
    simp only [KRg] at h
    subst h
    rfl
  | (f, d) :: kvs, ks, k, h => by
    obtain ⟨v, r, rfl, h1, h2⟩ := h
    have ih := look_okG k h2
    by_cases q : f = k
    · subst q
      have e1 : dlook ((f, d) :: kvs) f = some d := by simp [dlook]
      rw [e1]
      exact ⟨v, valV_pos rfl, h1⟩
    · have e1 : dlook ((f, d) :: kvs) k = dlook kvs k := by simp [dlook, q]
      have e2 : valV ((g f, v) :: r) (g k) = valV r (g k) := valV_neg (fun z => q (hg.mp z))
      rw [e1, e2]
      exact ih
theorem look_someG {kvs : List (κ × D)} {ks : List (κ' × V)} {k : κ} {d : D} (h : KRg g φ s H kvs ks) (e : dlook kvs k = some d) : ∃ v, valV ks (g k) = some v ∧ Rep φ s H d v := by
  have := look_okG hg k h
  rw [e] at this
  exact this
theorem look_isG {kvs : List (κ × D)} {ks : List (κ' × V)} (k : κ) (h : KRg g φ s H kvs ks) : (valV ks (g k)).isSome = (dlook kvs k).isSome := by
  have := look_okG hg k h
  cases e : dlook kvs k with
  | none =>
    rw [e] at this
    rw [this]
    rfl
  | some d =>
    rw [e] at this
    obtain ⟨v, h1, _⟩ := this
    rw [h1]
    rfl
end
theorem look_some {kvs : List (DK × D)} {ks : List (Key × V)} {k : DK} {d : D} (h : KR φ s H kvs ks) (e : dlook kvs k = some d) : ∃ v, valV ks (kyOf k) = some v ∧ Rep φ s H d v := look_someG ky_inj h e
theorem look_is {kvs : List (DK × D)} {ks : List (Key × V)} (k : DK) (h : KR φ s H kvs ks) : (valV ks (kyOf k)).isSome = (dlook kvs k).isSome := look_isG ky_inj k h
theorem keyTs_ok : ∀ {ds : List D} {ks : List DK} {vs : List V}, RepL φ s H ds vs → keyTs ds = some ks → vs = (ks.map kyOf).map kV
  | [], ks, vs, r, e => by
    simp only [RepL] at r
    subst r
    cases e
    rfl
  | d :: ds, ks, vs, r, e => by
    simp only [RepL] at r
    obtain ⟨v, w, rfl, r1, r2⟩ := r
    simp only [keyTs, Option.bind_eq_some_iff, Option.map_eq_some_iff] at e
    obtain ⟨k, e1, q, e2, rfl⟩ := e
    rw [key_ok r1 e1, keyTs_ok r2 e2]
    rfl
theorem keyT_ok {k : List DK} {a : D} {x : V} (r : Rep φ s H a x) (e : keyT a = some k) : ∃ b, x = .ref b ∧ H b = some (.tup ((k.map kyOf).map kV)) := by
  cases a with
  | tup ds =>
    simp only [Rep] at r
    obtain ⟨b, vs, rfl, h1, _, h2⟩ := r
    rw [keyTs_ok h2 e] at h1
    exact ⟨b, rfl, h1⟩
  | _ => cases e
theorem dit_at (h : HR G φ s H) {kvs : List (List DK × D)} {d : D} {x : V} (r : Rep φ s H d x) (e : tcont s d = some kvs) : ∃ n p ks, d = .ref n ∧ x = .ref p ∧ s.m n = some (.dit kvs) ∧ φ n = some p ∧ H p = some (.dT ks) ∧ KRT φ s H kvs ks := by
  cases d with
  | ref n =>
    simp only [tcont] at e
    split at e
    · rename_i kvs' q
      cases e
      simp only [Rep] at r
      obtain ⟨p, rfl, hp⟩ := r
      obtain ⟨b, hb, ks, h1, h2⟩ := h.ob n _ q
      rw [hp] at hb
      cases hb
      exact ⟨n, p, ks, rfl, rfl, q, hp, h1, h2⟩
    · cases e
  | _ => cases e
theorem dic_at (h : HR G φ s H) {kvs : List (DK × D)} {d : D} {x : V} (r : Rep φ s H d x) (e : dcont s d = some kvs) : ∃ n p ks, d = .ref n ∧ x = .ref p ∧ s.m n = some (.dic kvs) ∧ φ n = some p ∧ H p = some (.dK ks) ∧ KR φ s H kvs ks := by
  cases d with
  | ref n =>
    simp only [dcont] at e
    split at e
    · rename_i kvs' q
      cases e
      simp only [Rep] at r
      obtain ⟨p, rfl, hp⟩ := r
      obtain ⟨b, hb, ks, h1, h2⟩ := h.ob n _ q
      rw [hp] at hb
      cases hb
      exact ⟨n, p, ks, rfl, rfl, q, hp, h1, h2⟩
    · cases e
  | _ => cases e
theorem anyD_eq {a : D} {j : Nat} (ha : shp j a = true) : ∀ (zs : List D) {k : Nat}, shpL k zs = true → ((toPDs zs).any fun z => PyData.eqv z (toPD a)) = zs.any fun z => eqD z a
  | [], _, _ => by simp only [toPDs, List.any_nil]
  | z :: zs, k, h => by
    simp only [shpL, Bool.and_eq_true] at h
    simp only [toPDs, List.any_cons, eqv_eq z a h.1 ha, anyD_eq ha zs h.2]
theorem deep_of {zs : List D} (hkk : φ.K = K) (h : HR G φ s H) (ra : Rep φ s H a x) (rb : Rep φ s H b y) (hz : opnD s 20 b = .lst zs) (h1 : shp 60 (opnD s 20 a) = true) (h2 : shp 60 (.lst zs) = true) :
    Dp K H x (toPD (opnD s 20 a)) ∧ Dp K H y (.list (toPDs zs)) ∧ SeqAt.shaped (toPD (opnD s 20 a)) = true ∧ SeqAt.shaped (.list (toPDs zs)) = true ∧ shpL 59 zs = true := by
  have e1 := opnD_dp hkk h 20 b (j := 60) (v := y) (by rw [hz]; exact h2) rb
  rw [hz] at e1
  have e2 := shp_sh h2
  simp only [toPD] at e1 e2
  exact ⟨opnD_dp hkk h 20 a h1 ra, e1, shp_sh h1, e2, by simpa only [shp] using h2⟩
theorem deep_ofT {zs : List D} (hkk : φ.K = K) (h : HR G φ s H) (ra : Rep φ s H a x) (rb : Rep φ s H b y) (hz : opnD s 20 b = .tup zs) (h1 : shp 60 (opnD s 20 a) = true) (h2 : shp 60 (.tup zs) = true) :
    Dp K H x (toPD (opnD s 20 a)) ∧ Dp K H y (.tuple (toPDs zs)) ∧ SeqAt.shaped (toPD (opnD s 20 a)) = true ∧ SeqAt.shaped (.tuple (toPDs zs)) = true ∧ shpL 59 zs = true := by
  have e1 := opnD_dp hkk h 20 b (j := 60) (v := y) (by rw [hz]; exact h2) rb
  rw [hz] at e1
  have e2 := shp_sh h2
  simp only [toPD] at e1 e2
  exact ⟨opnD_dp hkk h 20 a h1 ra, e1, shp_sh h1, e2, by simpa only [shp] using h2⟩
theorem inD_ok (hkk : φ.K = K) (h : HR G φ s H) (ra : Rep φ s H a x) (rb : Rep φ s H b y) (e : inD s a b = some k) :
    (∃ p vs, y = .ref p ∧ (SqL K H p vs ∨ SqT K H p vs) ∧ flatV x = true ∧ vs.all flatV = true ∧ (vs.any fun z => eqV z x) = k) ∨
    (∃ d ds, Dp K H x d ∧ Dp K H y (.list ds) ∧ SeqAt.shaped d = true ∧ SeqAt.shaped (.list ds) = true ∧ (ds.any fun z => PyData.eqv z d) = k) ∨
    ∃ d ds, Dp K H x d ∧ Dp K H y (.tuple ds) ∧ SeqAt.shaped d = true ∧ SeqAt.shaped (.tuple ds) = true ∧ (ds.any fun z => PyData.eqv z d) = k := by
  unfold inD at e
  cases hc : cont s b with
  | none =>
    rw [hc] at e
    cases e
  | some xs =>
    rw [hc] at e
    simp only [Option.bind_some] at e
    split at e
    · rename_i hf
      rw [Bool.and_eq_true] at hf
      cases e
      obtain ⟨p, vs, rfl, h1, h2⟩ := seq_of hkk h rb hc
      exact .inl ⟨p, vs, rfl, h1, flat_V hf.1 ra, flats_V hf.2 h2, any_V hf.1 ra hf.2 h2⟩
    · split at e
      · rename_i zs hz
        split at e
        · rename_i hs
          rw [Bool.and_eq_true] at hs
          cases e
          obtain ⟨d1, d2, d3, d4, d5⟩ := deep_of hkk h ra rb hz hs.1 hs.2
          exact .inr (.inl ⟨_, _, d1, d2, d3, d4, anyD_eq hs.1 zs d5⟩)
        · cases e
      · rename_i zs hz
        split at e
        · rename_i hs
          rw [Bool.and_eq_true] at hs
          cases e
          obtain ⟨d1, d2, d3, d4, d5⟩ := deep_ofT hkk h ra rb hz hs.1 hs.2
          exact .inr (.inr ⟨_, _, d1, d2, d3, d4, anyD_eq hs.1 zs d5⟩)
        · cases e
      · cases e
theorem cmp_ok {o : Cop} (hkk : φ.K = K) (h : HR G φ s H) (ra : Rep φ s H a x) (rb : Rep φ s H b y) (e : cmpD s o a b = some k) (q : Q (.bl k) H) : rCmp K o x y H Q := by
  unfold cmpD at e
  split at e
  · -- eq
    rcases eqS_ok hkk h ra rb e with ⟨h1, h2⟩ | ⟨d1, d2, h1, h2, h3, h4, h5⟩ | ⟨h1, h2⟩
    · exact .inl ⟨h1, by rw [h2]; exact q⟩
    · exact .inr (.inl ⟨d1, d2, h1, h2, h3, h4, by rw [h5]; exact q⟩)
    · subst h2
      exact .inr (.inr ⟨h1, q⟩)
  · -- ne
    cases hk : eqS s a b with
    | none =>
      rw [hk] at e
      cases e
    | some j =>
      rw [hk] at e
      cases e
      rcases eqS_ok hkk h ra rb hk with ⟨h1, h2⟩ | ⟨d1, d2, h1, h2, h3, h4, h5⟩ | ⟨h1, h2⟩
      · exact .inl ⟨h1, by rw [h2]; exact q⟩
      · exact .inr (.inl ⟨d1, d2, h1, h2, h3, h4, by rw [h5]; exact q⟩)
      · subst h2
        exact .inr (.inr ⟨h1, q⟩)
  · simp only [Rep] at ra rb; subst ra rb; cases e; exact .inl ⟨_, _, rfl, rfl, q⟩
  · simp only [Rep] at ra rb; subst ra rb; cases e; exact .inl ⟨_, _, rfl, rfl, q⟩
  · simp only [Rep] at ra rb; subst ra rb; cases e; exact ⟨_, _, rfl, rfl, q⟩
  · simp only [Rep] at ra rb; subst ra rb; cases e; exact ⟨_, _, rfl, rfl, q⟩
  · simp only [Rep] at ra rb; subst ra rb; cases e; exact .inr (.inl ⟨_, _, rfl, rfl, by rw [str_cps, str_cps]; exact q⟩)
  · simp only [Rep] at ra rb; subst ra rb; cases e; exact .inr ⟨_, _, rfl, rfl, by rw [str_cps, str_cps]; exact q⟩
  · exact .inr (.inr (ltS_ok hkk h ra rb e q))
  · -- is None
    have rb' : y = .non := by simpa only [Rep] using rb
    cases e
    exact .inl ⟨rb', by rw [isNon_V ra]; exact q⟩
  · have rb' : y = .non := by simpa only [Rep] using rb
    cases e
    exact .inl ⟨rb', by rw [isNon_V ra]; exact q⟩
  · rename_i i j
    simp only [Rep] at ra rb; subst ra rb; cases e
    exact .inr ⟨i, j, rfl, rfl, by rw [show decide (i = j) = (i == j) by cases i <;> cases j <;> rfl]; exact q⟩
  · rename_i i j
    simp only [Rep] at ra rb; subst ra rb; cases e
    exact .inr ⟨i, j, rfl, rfl, by rw [show decide (i = j) = (i == j) by cases i <;> cases j <;> rfl]; exact q⟩
  · simp only [Rep] at ra rb; subst ra rb; cases e
    exact .inl ⟨_, _, rfl, rfl, by rw [str_cps]; exact q⟩
  · simp only [Rep] at ra rb; subst ra rb; cases e
    exact .inl ⟨_, _, rfl, rfl, by rw [str_cps]; exact q⟩
  · -- in
    split at e
    · rename_i kvs hd
      cases hk : keyOf a with
      | none =>
        rw [hk] at e
        cases e
      | some kk =>
        rw [hk] at e
        cases e
        obtain ⟨n, p, ks, rfl, rfl, h0, h1, h2, h3⟩ := dic_at h rb hd
        have := key_ok ra hk
        subst this
        refine .inr (.inr (.inl ⟨p, _, rfl, DGet.k h2, ?_⟩))
        rw [look_is kk h3]
        exact q
    · split at e
      · rename_i kvs hd
        cases hk : keyT a with
        | none =>
          rw [hk] at e
          cases e
        | some kk =>
          rw [hk] at e
          cases e
          obtain ⟨n, p, ks, rfl, rfl, h0, h1, h2, h3⟩ := dit_at h rb hd
          obtain ⟨c, rfl, h4⟩ := keyT_ok ra hk
          refine .inr (.inr (.inl ⟨p, _, rfl, DGet.t h2 h4, ?_⟩))
          rw [look_isG kyT_inj kk h3]
          exact q
      · rcases inD_ok hkk h ra rb e with ⟨p, vs, rfl, h1, h2, h3, h4⟩ | ⟨d1, ds, h1, h2, h3, h4, h5⟩ | ⟨d1, ds, h1, h2, h3, h4, h5⟩
        · refine .inr (.inl ⟨p, vs, rfl, h1, h2, h3, ?_⟩)
          show Q (.bl (vs.any fun z => eqV z x)) H
          rw [h4]
          exact q
        · exact .inr (.inr (.inr (.inl ⟨d1, ds, h1, h2, h3, h4, by rw [h5]; exact q⟩)))
        · exact .inr (.inr (.inr (.inr ⟨d1, ds, h1, h2, h3, h4, by rw [h5]; exact q⟩)))
  · split at e
    · rename_i kvs hd
      cases hk : keyOf a with
      | none =>
        rw [hk] at e
        cases e
      | some kk =>
        rw [hk] at e
        cases e
        obtain ⟨n, p, ks, rfl, rfl, h0, h1, h2, h3⟩ := dic_at h rb hd
        have := key_ok ra hk
        subst this
        refine .inr (.inr (.inl ⟨p, _, rfl, DGet.k h2, ?_⟩))
        rw [look_is kk h3]
        exact q
    · split at e
      · rename_i kvs hd
        cases hk : keyT a with
        | none =>
          rw [hk] at e
          cases e
        | some kk =>
          rw [hk] at e
          cases e
          obtain ⟨n, p, ks, rfl, rfl, h0, h1, h2, h3⟩ := dit_at h rb hd
          obtain ⟨c, rfl, h4⟩ := keyT_ok ra hk
          refine .inr (.inr (.inl ⟨p, _, rfl, DGet.t h2 h4, ?_⟩))
          rw [look_isG kyT_inj kk h3]
          exact q
      · cases hi : inD s a b with
        | none =>
          rw [hi] at e
          cases e
        | some j =>
          rw [hi] at e
          cases e
          rcases inD_ok hkk h ra rb hi with ⟨p, vs, rfl, h1, h2, h3, h4⟩ | ⟨d1, ds, h1, h2, h3, h4, h5⟩ | ⟨d1, ds, h1, h2, h3, h4, h5⟩
          · refine .inr (.inl ⟨p, vs, rfl, h1, h2, h3, ?_⟩)
            show Q (.bl (!vs.any fun z => eqV z x)) H
            rw [h4]
            exact q
          · exact .inr (.inr (.inr (.inl ⟨d1, ds, h1, h2, h3, h4, by rw [h5]; exact q⟩)))
          · exact .inr (.inr (.inr (.inr ⟨d1, ds, h1, h2, h3, h4, by rw [h5]; exact q⟩)))
  · cases e
theorem truth_ok (hkk : φ.K = K) (h : HR G φ s H) (r : Rep φ s H a x) (e : truth s a = some k) : TruV K x H k := by
  cases a with
  | bl b => simp only [Rep] at r; subst r; cases e; exact rfl
  | non => simp only [Rep] at r; subst r; cases e; exact rfl
  | int i => simp only [Rep] at r; subst r; cases e; exact rfl
  | str z =>
    simp only [Rep] at r
    subst r
    have e' : (if z.length ≤ LIM then some (z.length != 0) else none) = some k := e
    split at e'
    · rename_i hz
      cases e'
      refine ⟨by rw [str_len, ← LIM_eq]; exact hz, ?_⟩
      rw [str_len, Bool.eq_iff_iff]
      simp
    · cases e'
  | tup xs =>
    simp only [Rep] at r
    obtain ⟨p, vs, rfl, h1, _, l⟩ := r
    cases e
    refine .inr (.inl ⟨vs, SqT.of h1, ?_⟩)
    have := l.length
    cases xs <;> cases vs <;> first | rfl | (simp at this)
  | lst xs =>
    cases hc : lcont s (.lst xs) with
    | none => cases hc
    | some ys =>
      obtain ⟨p, vs, rfl, h1, l⟩ := r.lcont h hc
      have e' : (lcont s (.lst xs)).map (fun xs => !xs.isEmpty) = some k := e
      rw [hc] at e'
      cases e'
      refine .inl ⟨vs, by rw [← hkk]; exact h1, ?_⟩
      have := l.length
      cases ys <;> cases vs <;> first | rfl | (simp at this)
  | scr xs =>
    cases hc : lcont s (.scr xs) with
    | none => cases hc
    | some ys =>
      obtain ⟨p, vs, rfl, h1, l⟩ := r.lcont h hc
      have e' : (lcont s (.scr xs)).map (fun xs => !xs.isEmpty) = some k := e
      rw [hc] at e'
      cases e'
      refine .inl ⟨vs, by rw [← hkk]; exact h1, ?_⟩
      have := l.length
      cases ys <;> cases vs <;> first | rfl | (simp at this)
  | ref n =>
    have e' : (lcont s (.ref n)).map (fun xs => !xs.isEmpty) = some k := e
    cases hc : lcont s (.ref n) with
    | none =>
      rw [hc] at e'
      cases e'
    | some ys =>
      obtain ⟨p, vs, rfl, h1, l⟩ := r.lcont h hc
      rw [hc] at e'
      cases e'
      refine .inl ⟨vs, by rw [← hkk]; exact h1, ?_⟩
      have := l.length
      cases ys <;> cases vs <;> first | rfl | (simp at this)
theorem at_rep {ds : List D} {vs : List V} {i : Int} (l : RepL φ s H ds vs) (e : atI ds i = some d) : ∃ v, L2.atI vs i = some v ∧ Rep φ s H d v := by
  unfold atI at e
  cases hi : ixN ds.length i with
  | none =>
    rw [hi] at e
    cases e
  | some j =>
    rw [hi] at e
    obtain ⟨v, h1, h2⟩ := l.get (show ds[j]? = some d from e)
    refine ⟨v, ?_, h2⟩
    unfold L2.atI
    rw [l.length]
    rw [show L2.ixN ds.length i = some j from hi]
    exact h1
theorem idx_ok (hkk : φ.K = K) (h : HR G φ s H) (ra : Rep φ s H a x) (rb : Rep φ s H b y) (e : idxL s a b = some d) (p : Post G φ s H s d Q) : rIxL K x y H Q ∨ rIxT K x y H Q ∨ rIxS x y H Q := by
  unfold idxL at e
  split at e
  · rename_i i
    simp only [Rep] at rb
    subst rb
    split at e
    · rename_i z
      simp only [Rep] at ra
      subst ra
      split at e
      · rename_i hz
        cases hc : atI z i with
        | none =>
          rw [hc] at e
          cases e
        | some c =>
          rw [hc] at e
          cases e
          refine .inr (.inr ⟨_, i, c, rfl, rfl, by rw [str_len, ← LIM_eq]; exact hz, by rw [str_cps]; exact hc, p.here h ?_⟩)
          simp only [Rep]
          all_goals rfl
      · cases e
    · rename_i a'
      cases hc : cont s a with
      | none =>
        rw [hc] at e
        cases e
      | some xs =>
        rw [hc] at e
        obtain ⟨q, vs, rfl, h1, h2⟩ := seq_of hkk h ra hc
        obtain ⟨v, hv, rv⟩ := at_rep h2 (show atI xs i = some d from e)
        rcases h1 with h1 | h1
        · exact .inl ⟨q, vs, i, v, rfl, rfl, h1, hv, p.here h rv⟩
        · exact .inr (.inl ⟨q, vs, i, v, rfl, rfl, h1, hv, p.here h rv⟩)
  · cases e
end
end Fl
namespace Fl
open PySem L2
section
variable {G : Glob} {φ : Mp} {s s' : S} {H : Hp} {a b d : D} {x y : V} {Q : VK} {K : PySem.W.Frag} {k : Bool}
noncomputable def rSlAll (K : PySem.W.Frag) : V → Option Int → Option Int → Hp → VK → Prop := fun x lo hi H Q => (rSlS x lo hi H Q ∨ rSlA K x lo hi H Q) ∨ rSlL K x lo hi H Q
theorem sl_all {X : Cx} : SlR X (rSlAll X.K) := SlR.or (SlR.or sl_str sl_tupA) sl_list
noncomputable def slD (s : S) (bx : Bool) (x : D) (l h : Option Int) : R D := match x with
  | .str z => if z.length ≤ LIM then some (.ok (.str (cut z l h)), s) else none
  | .tup zs => some (.ok (.tup (cut zs l h)), s)
  | x => match lcont s x with
    | some zs => mkL bx (cut zs l h) s
    | none => none
theorem cut_whole {α : Type} {xs : List α} {lo hi : Option Int} (h : sIx xs.length 0 lo = 0 ∧ sIx xs.length xs.length hi = xs.length) : cut xs lo hi = xs := by
  unfold cut
  rw [h.1, h.2]
  simp
theorem sl_lst {bx : Bool} {l u : Option Int} {zs : List D} (hkk : φ.K = K) (h : HR G φ s H) (ra : Rep φ s H a x) (hc : lcont s a = some zs) (e : mkL bx (cut zs l u) s = some (.ok d, s')) (p : Post G φ s H s' d Q) : rSlAll K x l u H Q := by
  obtain ⟨q, vs, rfl, h1, h2⟩ := ra.lcont h hc
  exact .inr ⟨q, vs, rfl, by rw [← hkk]; exact h1, p.lst h e (h2.cut l u)⟩
theorem sl_ok {bx : Bool} {l u : Option Int} (hkk : φ.K = K) (h : HR G φ s H) (ra : Rep φ s H a x) (e : slD s bx a l u = some (.ok d, s')) (p : Post G φ s H s' d Q) : rSlAll K x l u H Q := by
  unfold slD at e
  split at e
  · split at e
    · rename_i z hz
      cases e
      simp only [Rep] at ra
      subst ra
      refine .inl (.inl ⟨_, rfl, by rw [str_len, ← LIM_eq]; exact hz, p.here h ?_⟩)
      rw [cutS_eq]
      simp only [Rep]
    · cases e
  · rename_i zs
    cases e
    simp only [Rep] at ra
    obtain ⟨q, vs, rfl, h1, dd, h2⟩ := ra
    refine .inl (.inr ⟨q, vs, rfl, SqT.of h1, fun hw => p.here h ?_, fun _ => p.tup h (h2.cut l u)⟩)
    have hw' : sIx zs.length 0 l = 0 ∧ sIx zs.length zs.length u = zs.length := by
      rw [h2.length] at hw
      exact hw
    rw [cut_whole hw']
    simp only [Rep]
    exact ⟨q, vs, rfl, h1, dd, h2⟩
  · split at e
    · rename_i zs hc
      exact sl_lst hkk h ra hc e p
    · cases e
noncomputable def rLen (K : PySem.W.Frag) : List V → Hp → VK → Prop := fun xs H Q => ∃ x n, xs = [x] ∧ LenV K x H n ∧ Q (.int n) H
theorem KRg.length {κ κ' : Type} {g : κ → κ'} : ∀ {kvs : List (κ × D)} {ks : List (κ' × V)}, KRg g φ s H kvs ks → ks.length = kvs.length
  | [], ks, h => by
    simp only [KRg] at h
    subst h
    rfl
  | (f, d) :: kvs, ks, h => by
    obtain ⟨v, r, rfl, h1, h2⟩ := h
    simp [h2.length]
noncomputable def rLenD : List V → Hp → VK → Prop := fun xs H Q => ∃ a kvs, xs = [V.ref a] ∧ H a = some (.dK kvs) ∧ Q (.int kvs.length) H
theorem len_ok {ds : List D} {vs : List V} (hkk : φ.K = K) (h : HR G φ s H) (r : RepL φ s H ds vs) (e : lenD s ds = some (.ok d, s')) (p : Post G φ s H s' d Q) : rLen K vs H Q ∨ rLenD vs H Q := by
  unfold lenD at e
  split at e <;> first | (cases e; done) | skip
  · rename_i z
    split at e
    · rename_i hz
      cases e
      simp only [RepL] at r
      obtain ⟨v, w, rfl, r1, rfl⟩ := r
      simp only [Rep] at r1
      subst r1
      refine .inl ⟨_, z.length, rfl, ⟨by rw [str_len, ← LIM_eq]; exact hz, by rw [str_len]⟩, p.here h ?_⟩
      simp only [Rep]
    · cases e
  · rename_i d' _
    simp only [RepL] at r
    obtain ⟨v, w, rfl, r1, rfl⟩ := r
    split at e
    · rename_i kvs hd
      cases e
      obtain ⟨n, q, ks, rfl, rfl, h0, h1, h2, h3⟩ := dic_at h r1 hd
      exact .inr ⟨q, ks, rfl, h2, p.here h (by simp only [Rep]; rw [h3.length])⟩
    · obtain ⟨e, rfl⟩ := lft_inv e
      cases hc : cont s' d' with
      | none =>
        rw [hc] at e
        cases e
      | some xs =>
        rw [hc] at e
        cases e
        obtain ⟨q, vs, rfl, h1, h2⟩ := seq_of hkk h r1 hc
        refine .inl ⟨_, vs.length, rfl, ?_, p.here h (by simp only [Rep]; rw [h2.length])⟩
        rcases h1 with h1 | h1
        · exact .inl ⟨vs, h1, rfl⟩
        · exact .inr ⟨vs, h1, rfl⟩
theorem RepL.one_inv {ds : List D} {v : V} {vs : List V} (r : RepL φ s H [d] vs) : ∃ v, vs = [v] ∧ Rep φ s H d v := by
  simp only [RepL] at r
  obtain ⟨v, w, rfl, r1, rfl⟩ := r
  exact ⟨v, rfl, r1⟩
theorem RepL.two_inv {vs : List V} (r : RepL φ s H [a, b] vs) : ∃ v w, vs = [v, w] ∧ Rep φ s H a v ∧ Rep φ s H b w := by
  simp only [RepL] at r
  obtain ⟨v, _, rfl, r1, w, _, rfl, r2, rfl⟩ := r
  exact ⟨v, w, rfl, r1, r2⟩
noncomputable def rInt1 : List V → Hp → VK → Prop := fun xs H Q => (∃ i, xs = [.int i] ∧ Q (.int i) H) ∨ ∃ k, xs = [.bl k] ∧ Q (.int (if k then 1 else 0)) H
theorem int_ok {ds : List D} {vs : List V} (h : HR G φ s H) (r : RepL φ s H ds vs) (e : intD s ds = some (.ok d, s')) (p : Post G φ s H s' d Q) : rInt1 vs H Q := by
  unfold intD at e
  split at e <;> first | (cases e; done) | skip
  · cases e
    simp only [RepL] at r
    obtain ⟨v, w, rfl, r1, rfl⟩ := r
    simp only [Rep] at r1
    subst r1
    exact .inl ⟨_, rfl, p.here h (by simp only [Rep])⟩
  · cases e
    simp only [RepL] at r
    obtain ⟨v, w, rfl, r1, rfl⟩ := r
    simp only [Rep] at r1
    subst r1
    exact .inr ⟨_, rfl, p.here h (by simp only [Rep])⟩
noncomputable def rListOf (K : PySem.W.Frag) : List V → Hp → VK → Prop := fun xs H Q => ∃ p ys, xs = [.ref p] ∧ (SqL K H p ys ∨ SqT K H p ys) ∧ ∀ l, H l = none → Q (.ref l) (upd H l (.lst ys))
/-- list(x), tuple(x) of a text -/
noncomputable def sgV (x : Str) : List V := x.cps.toList.map fun c => V.str ⟨#[c]⟩
theorem sgn_vals {x : Str} {acc : Array Value} (h : ItemsOf (SignAt x) acc x.cps.size) : Vals (sgV x) acc.toList := by
  have hl : (sgV x).length = acc.toList.length := by
    unfold sgV
    rw [List.length_map, Array.length_toList, Array.length_toList, h.1]
  have go : ∀ (vs : List V) (us : List Value), vs.length = us.length → (∀ (j : Nat) (v : V) (u : Value), vs[j]? = some v → us[j]? = some u → RelV v u) → Vals vs us := by
    intro vs
    induction vs with
    | nil =>
      intro us h1 _
      cases us with
      | nil => exact .nil
      | cons _ _ => cases h1
    | cons v vs ih =>
      intro us h1 h2
      cases us with
      | nil => cases h1
      | cons u us => exact .cons (h2 0 v u rfl rfl) (ih us (by simpa using h1) fun j a b e1 e2 => h2 (j + 1) a b e1 e2)
  refine go _ _ hl fun j v u h1 h2 => ?_
  unfold sgV at h1
  rw [List.getElem?_map, Option.map_eq_some_iff] at h1
  obtain ⟨c, hc, rfl⟩ := h1
  obtain ⟨c', t, e1, rfl⟩ := h.2 j u (by rw [← Array.getElem?_toList]; exact h2)
  rw [Array.getElem?_toList, e1] at hc
  cases hc
  exact ⟨t, rfl⟩
noncomputable def rListStr : List V → Hp → VK → Prop := fun xs H Q => ∃ x : Str, xs = [.str x] ∧ x.cps.size ≤ sizeLine ∧ ∀ l, H l = none → Q (.ref l) (upd H l (.lst (sgV x)))
theorem call_listStr {X : Cx} (hc : X.calm = true) : CallR X (.type "list") rListStr := by
  intro pins s σ H xs us Q I r h
  obtain ⟨x, rfl, hz, q⟩ := h
  obtain ⟨u, rfl, t, rfl⟩ := vals1 r
  refine call_list_str (I.ok.hd hc) x t (hn := hz) fun h2 tk acc c2 hk hD hacc => ?_
  have hv := sgn_vals hacc
  have hl : (sgV x).length ≤ sizeLine := by
    unfold sgV
    rw [List.length_map, Array.length_toList]
    exact hz
  exact ⟨.ref s.heap.objs.size, upd H s.heap.objs.size (.lst (sgV x)), I.laid (t' := tk) hk (Nat.le_refl _) (show ObjOk X.prog X.w _ _ _ (.lst (sgV x)) from ⟨hl, acc.toList, c2, hv, by rw [Array.toArray_toList]; exact hD⟩), rfl, q _ (I.hok.fresh (Nat.le_refl _))⟩
noncomputable def rTupStr : List V → Hp → VK → Prop := fun xs H Q => ∃ x : Str, xs = [.str x] ∧ x.cps.size ≤ sizeLine ∧ ∀ l, H l = none → Q (.ref l) (upd H l (.tup (sgV x)))
theorem call_tupStr {X : Cx} (hc : X.calm = true) : CallR X (.type "tuple") rTupStr := by
  intro pins s σ H xs us Q I r h
  obtain ⟨x, rfl, hz, q⟩ := h
  obtain ⟨u, rfl, t, rfl⟩ := vals1 r
  refine call_tuple_str (I.ok.hd hc) x t (fun h2 tk acc hk hacc => ?_) hz
  have hv := sgn_vals hacc
  have hl : (sgV x).length ≤ sizeLine := by
    unfold sgV
    rw [List.length_map, Array.length_toList]
    exact hz
  have I1 : Inv X pins σ H { s with heap := h2 } := I.kept (t' := s.toks) hk
  have I2 : Inv X pins σ (upd H h2.objs.size (.tup (sgV x))) { s with heap := h2.push { cls := .type "tuple", data := .seq acc }, toks := tk } := I1.laid (t' := tk) (fun b o e => Heap.get?_push_of_some _ e) (Nat.le_refl _) (show ObjOk X.prog X.w _ _ _ (.tup (sgV x)) from ⟨hl, acc.toList, hv, by rw [Array.toArray_toList]; exact PyProof.Rows.IsTup.new _ _⟩)
  exact ⟨.ref h2.objs.size, _, I2, rfl, q _ (I1.hok.fresh (Nat.le_refl _))⟩
theorem sg_rep : ∀ (x : List Nat), RepL φ s H (x.map fun c => D.str [c]) (x.map fun c => V.str ⟨#[c]⟩)
  | [] => by simp only [List.map_nil, RepL]
  | c :: x => by
    simp only [List.map_cons, RepL]
    exact ⟨_, _, rfl, by simp only [Rep], sg_rep x⟩
theorem list_ok {bx : Bool} {ds : List D} {vs : List V} (hkk : φ.K = K) (h : HR G φ s H) (r : RepL φ s H ds vs) (e : listD s bx ds = some (.ok d, s')) (p : Post G φ s H s' d Q) : rListOf K vs H Q ∨ rListStr vs H Q := by
  unfold listD at e
  split at e <;> first | (cases e; done) | skip
  · rename_i x
    split at e
    · rename_i hz
      simp only [RepL, Rep] at r
      obtain ⟨v, w, rfl, rfl, rfl⟩ := r
      exact .inr ⟨_, rfl, by rw [List.size_toArray, ← LIM_eq]; exact hz, p.lst h e (sg_rep x)⟩
    · cases e
  · refine .inl ?_
    split at e
    · rename_i xs hc
      simp only [RepL] at r
      obtain ⟨v, w, rfl, r1, rfl⟩ := r
      obtain ⟨q, ws, rfl, h1, h2⟩ := seq_of hkk h r1 hc
      exact ⟨q, ws, rfl, h1, p.lst h e h2⟩
    · cases e
noncomputable def rTupOf (K : PySem.W.Frag) : List V → Hp → VK → Prop := fun xs H Q => ∃ p ys, xs = [.ref p] ∧ ((SqL K H p ys ∧ ∀ l, H l = none → Q (.ref l) (upd H l (.tup ys))) ∨ (SqT K H p ys ∧ Q (.ref p) H))
theorem tuple_ok {ds : List D} {vs : List V} (hkk : φ.K = K) (h : HR G φ s H) (r : RepL φ s H ds vs) (e : tupleD s ds = some (.ok d, s')) (p : Post G φ s H s' d Q) : rTupOf K vs H Q ∨ rTupStr vs H Q := by
  unfold tupleD at e
  split at e <;> first | (cases e; done) | skip
  · cases e
    refine .inl ?_
    simp only [RepL] at r
    obtain ⟨v, w, rfl, r1, rfl⟩ := r
    have r2 := r1
    simp only [Rep] at r2
    obtain ⟨q, vs, rfl, h1, dd, h2⟩ := r2
    exact ⟨q, vs, rfl, .inr ⟨SqT.of h1, p.here h r1⟩⟩
  · rename_i x
    split at e
    · rename_i hz
      cases e
      simp only [RepL, Rep] at r
      obtain ⟨v, w, rfl, rfl, rfl⟩ := r
      exact .inr ⟨_, rfl, by rw [List.size_toArray, ← LIM_eq]; exact hz, p.tup h (sg_rep x)⟩
    · cases e
  · rename_i d' _ _
    refine .inl ?_
    simp only [RepL] at r
    obtain ⟨v, w, rfl, r1, rfl⟩ := r
    obtain ⟨e, rfl⟩ := lft_inv e
    cases hc : lcont s' d' with
    | none =>
      rw [hc] at e
      cases e
    | some xs =>
      rw [hc] at e
      cases e
      obtain ⟨q, vs, rfl, h1, h2⟩ := r1.lcont h hc
      exact ⟨q, vs, rfl, .inl ⟨by rw [← hkk]; exact h1, p.tup h h2⟩⟩
theorem min_ok {ds : List D} {vs : List V} (h : HR G φ s H) (r : RepL φ s H ds vs) (e : minD s ds = some (.ok d, s')) (p : Post G φ s H s' d Q) : ∃ i j, vs = [.int i, .int j] ∧ Q (.int (if j < i then j else i)) H := by
  unfold minD at e
  split at e <;> first | (cases e; done) | skip
  · cases e
    obtain ⟨v, w, rfl, r1, r2⟩ := r.two_inv
    simp only [Rep] at r1 r2
    subst r1 r2
    exact ⟨_, _, rfl, p.here h (by simp only [Rep])⟩
theorem max_ok {ds : List D} {vs : List V} (h : HR G φ s H) (r : RepL φ s H ds vs) (e : maxD s ds = some (.ok d, s')) (p : Post G φ s H s' d Q) : ∃ i j, vs = [.int i, .int j] ∧ Q (.int (if j > i then j else i)) H := by
  unfold maxD at e
  split at e <;> first | (cases e; done) | skip
  · cases e
    obtain ⟨v, w, rfl, r1, r2⟩ := r.two_inv
    simp only [Rep] at r1 r2
    subst r1 r2
    exact ⟨_, _, rfl, p.here h (by simp only [Rep])⟩
theorem abs_ok {ds : List D} {vs : List V} (h : HR G φ s H) (r : RepL φ s H ds vs) (e : absD s ds = some (.ok d, s')) (p : Post G φ s H s' d Q) : ∃ i, vs = [.int i] ∧ Q (.int (if i < 0 then -i else i)) H := by
  unfold absD at e
  split at e <;> first | (cases e; done) | skip
  · cases e
    simp only [RepL] at r
    obtain ⟨v, w, rfl, r1, rfl⟩ := r
    simp only [Rep] at r1
    subst r1
    exact ⟨_, rfl, p.here h (by simp only [Rep])⟩
noncomputable def tyS : Ty → String
  | .int => "int" | .str => "str" | .bool => "bool" | .tuple => "tuple" | .list => "list" | .dict => "dict"
theorem ty_ok (hkk : φ.K = K) (h : HR G φ s H) (r : Rep φ s H a x) {u : Ty} (e : tyOf s a = some u) : TyX K H x (.type (tyS u)) := by
  cases a with
  | non => cases e
  | bl _ => simp only [Rep] at r; subst r; cases e; exact .base (.bl _)
  | int _ => simp only [Rep] at r; subst r; cases e; exact .base (.int _)
  | str _ => simp only [Rep] at r; subst r; cases e; exact .base (.str _)
  | tup _ =>
    simp only [Rep] at r
    obtain ⟨_, _, rfl, h1, _⟩ := r
    cases e
    exact .base (.tup h1)
  | lst _ =>
    simp only [Rep] at r
    obtain ⟨_, _, rfl, h1, _⟩ := r
    cases e
    exact .base (.lst h1)
  | scr _ =>
    simp only [Rep] at r
    obtain ⟨_, _, rfl, h1, _⟩ := r
    cases e
    rcases h1 with ⟨h1 | ⟨o, h1⟩, _⟩ | ⟨o, its, n, h1, h2, _⟩
    · exact .base (.lst h1)
    · exact .base (.frz h1)
    · exact .kList (by rw [← hkk]; exact h1) h2
  | ref n =>
    simp only [tyOf] at e
    split at e
    · rename_i xs q
      cases e
      simp only [Rep] at r
      obtain ⟨p, rfl, hp⟩ := r
      obtain ⟨b, hb, vs, h1, h2⟩ := h.ob n _ q
      rw [hp] at hb
      cases hb
      exact .base (.lst h1)
    · rename_i xs q
      cases e
      simp only [Rep] at r
      obtain ⟨p, rfl, hp⟩ := r
      obtain ⟨b, hb, vs, h1, h2⟩ := h.ob n _ q
      rw [hp] at hb
      cases hb
      exact .base (.dK h1)
    · rename_i xs q
      cases e
      simp only [Rep] at r
      obtain ⟨p, rfl, hp⟩ := r
      obtain ⟨b, hb, vs, h1, h2⟩ := h.ob n _ q
      rw [hp] at hb
      cases hb
      exact .base (.dT h1)
    · cases e
theorem kit_int_int : kitB "int" "int" = some true := by decide +kernel
theorem kit_int_str : kitB "int" "str" = some false := by decide +kernel
theorem kit_int_bool : kitB "int" "bool" = some false := by decide +kernel
theorem kit_int_tuple : kitB "int" "tuple" = some false := by decide +kernel
theorem kit_int_list : kitB "int" "list" = some false := by decide +kernel
theorem kit_int_dict : kitB "int" "dict" = some false := by decide +kernel
theorem kit_str_int : kitB "str" "int" = some false := by decide +kernel
theorem kit_str_str : kitB "str" "str" = some true := by decide +kernel
theorem kit_str_bool : kitB "str" "bool" = some false := by decide +kernel
theorem kit_str_tuple : kitB "str" "tuple" = some false := by decide +kernel
theorem kit_str_list : kitB "str" "list" = some false := by decide +kernel
theorem kit_str_dict : kitB "str" "dict" = some false := by decide +kernel
theorem kit_bool_int : kitB "bool" "int" = some true := by decide +kernel
theorem kit_bool_str : kitB "bool" "str" = some false := by decide +kernel
theorem kit_bool_bool : kitB "bool" "bool" = some true := by decide +kernel
theorem kit_bool_tuple : kitB "bool" "tuple" = some false := by decide +kernel
theorem kit_bool_list : kitB "bool" "list" = some false := by decide +kernel
theorem kit_bool_dict : kitB "bool" "dict" = some false := by decide +kernel
theorem kit_tuple_int : kitB "tuple" "int" = some false := by decide +kernel
theorem kit_tuple_str : kitB "tuple" "str" = some false := by decide +kernel
theorem kit_tuple_bool : kitB "tuple" "bool" = some false := by decide +kernel
theorem kit_tuple_tuple : kitB "tuple" "tuple" = some true := by decide +kernel
theorem kit_tuple_list : kitB "tuple" "list" = some false := by decide +kernel
theorem kit_tuple_dict : kitB "tuple" "dict" = some false := by decide +kernel
theorem kit_list_int : kitB "list" "int" = some false := by decide +kernel
theorem kit_list_str : kitB "list" "str" = some false := by decide +kernel
theorem kit_list_bool : kitB "list" "bool" = some false := by decide +kernel
theorem kit_list_tuple : kitB "list" "tuple" = some false := by decide +kernel
theorem kit_list_list : kitB "list" "list" = some true := by decide +kernel
theorem kit_list_dict : kitB "list" "dict" = some false := by decide +kernel
theorem kit_dict_int : kitB "dict" "int" = some false := by decide +kernel
theorem kit_dict_str : kitB "dict" "str" = some false := by decide +kernel
theorem kit_dict_bool : kitB "dict" "bool" = some false := by decide +kernel
theorem kit_dict_tuple : kitB "dict" "tuple" = some false := by decide +kernel
theorem kit_dict_list : kitB "dict" "list" = some false := by decide +kernel
theorem kit_dict_dict : kitB "dict" "dict" = some true := by decide +kernel
theorem kit_NoneType_int : kitB "NoneType" "int" = some false := by decide +kernel
theorem kit_NoneType_str : kitB "NoneType" "str" = some false := by decide +kernel
theorem kit_NoneType_bool : kitB "NoneType" "bool" = some false := by decide +kernel
theorem kit_NoneType_tuple : kitB "NoneType" "tuple" = some false := by decide +kernel
theorem kit_NoneType_list : kitB "NoneType" "list" = some false := by decide +kernel
theorem kit_NoneType_dict : kitB "NoneType" "dict" = some false := by decide +kernel
theorem kit_sub : ∀ (u t : Ty), kitB (tyS u) (tyS t) = some (subTy u t)
  | .int, .int => kit_int_int
  | .int, .str => kit_int_str
  | .int, .bool => kit_int_bool
  | .int, .tuple => kit_int_tuple
  | .int, .list => kit_int_list
  | .int, .dict => kit_int_dict
  | .str, .int => kit_str_int
  | .str, .str => kit_str_str
  | .str, .bool => kit_str_bool
  | .str, .tuple => kit_str_tuple
  | .str, .list => kit_str_list
  | .str, .dict => kit_str_dict
  | .bool, .int => kit_bool_int
  | .bool, .str => kit_bool_str
  | .bool, .bool => kit_bool_bool
  | .bool, .tuple => kit_bool_tuple
  | .bool, .list => kit_bool_list
  | .bool, .dict => kit_bool_dict
  | .tuple, .int => kit_tuple_int
  | .tuple, .str => kit_tuple_str
  | .tuple, .bool => kit_tuple_bool
  | .tuple, .tuple => kit_tuple_tuple
  | .tuple, .list => kit_tuple_list
  | .tuple, .dict => kit_tuple_dict
  | .list, .int => kit_list_int
  | .list, .str => kit_list_str
  | .list, .bool => kit_list_bool
  | .list, .tuple => kit_list_tuple
  | .list, .list => kit_list_list
  | .list, .dict => kit_list_dict
  | .dict, .int => kit_dict_int
  | .dict, .str => kit_dict_str
  | .dict, .bool => kit_dict_bool
  | .dict, .tuple => kit_dict_tuple
  | .dict, .list => kit_dict_list
  | .dict, .dict => kit_dict_dict
theorem kit_non : ∀ (t : Ty), kitB "NoneType" (tyS t) = some false
  | .int => kit_NoneType_int
  | .str => kit_NoneType_str
  | .bool => kit_NoneType_bool
  | .tuple => kit_NoneType_tuple
  | .list => kit_NoneType_list
  | .dict => kit_NoneType_dict
theorem isi_ok {t : Ty} (hkk : φ.K = K) (h : HR G φ s H) (r : Rep φ s H a x) (e : isiD s a t = some k) (q : Q (.bl k) H) : rIsi K [x, .ty (tyS t)] H Q := by
  by_cases hn : a = .non
  · subst hn
    simp only [Rep] at r
    subst r
    cases (show some false = some k from e)
    exact ⟨_, _, _, _, false, rfl, .ty _, .base .non, kit_ty (kit_non t), q⟩
  · have e' : (tyOf s a).map (fun u => subTy u t) = some k := by
      cases a <;> first | exact absurd rfl hn | exact e
    cases hu : tyOf s a with
    | none =>
      rw [hu] at e'
      cases e'
    | some u =>
      rw [hu] at e'
      cases e'
      exact ⟨_, _, _, _, _, rfl, .ty _, ty_ok hkk h r hu, kit_ty (kit_sub u t), q⟩
theorem box_at (h : HR G φ s H) {n : Nat} {xs : List D} (r : Rep φ s H (.ref n) x) (e : s.m n = some (.lst xs)) : ∃ p vs, x = .ref p ∧ φ n = some p ∧ H p = some (.lst vs) ∧ RepL φ s H xs vs := by
  simp only [Rep] at r
  obtain ⟨p, rfl, hp⟩ := r
  obtain ⟨b, hb, vs, h1, h2⟩ := h.ob n _ e
  rw [hp] at hb
  cases hb
  exact ⟨p, vs, rfl, hp, h1, h2⟩
/-- a list's box written -/
theorem Post.wr {n : Nat} {p : Addr} {xs ys : List D} {ws : List V} (h : HR G φ s H) (hn : s.m n = some (.lst xs)) (hp : φ n = some p) (P : Post G φ s H (s.put n (.lst ys)) d Q) {v : V} (rv : Rep φ s H d v) (l : RepL φ s H ys ws) : Q v (upd H p (.lst ws)) := by
  have g : Gr φ s H φ (s.put n (.lst ys)) (upd H p (.lst ws)) := Gr.write h hn hp
  exact P φ _ _ g (h.write hn hp ⟨ws, upd_same, RepL.mono g ys l⟩) (Rep.mono g d rv)
theorem append_ok {ds : List D} {vs : List V} (h : HR G φ s H) (ra : Rep φ s H a x) (r : RepL φ s H ds vs) (e : appD s a ds = some (.ok d, s')) (p : Post G φ s H s' d Q) : rAppend x vs H Q := by
  unfold appD at e
  split at e <;> first | (cases e; done) | skip
  · rename_i n z
    split at e
    · rename_i xs q
      split at e
      · rename_i hz
        cases e
        obtain ⟨v, rfl, r1⟩ := r.one_inv (ds := []) (v := .non)
        obtain ⟨b, ws, rfl, hb, h1, h2⟩ := box_at h ra q
        refine ⟨b, ws, v, rfl, rfl, h1, by rw [h2.length, ← LIM_eq]; exact hz, ?_⟩
        exact p.wr h q hb (by simp only [Rep]) (h2.app (RepL.one r1))
      · cases e
    · cases e
theorem extend_ok {ds : List D} {vs : List V} (h : HR G φ s H) (ra : Rep φ s H a x) (r : RepL φ s H ds vs) (e : extD s a ds = some (.ok d, s')) (p : Post G φ s H s' d Q) : rExtend x vs H Q := by
  unfold extD at e
  split at e <;> first | (cases e; done) | skip
  · rename_i n z
    split at e
    · rename_i xs q
      split at e
      · rename_i ys hy
        split at e
        · rename_i hz
          cases e
          obtain ⟨v, rfl, r1⟩ := r.one_inv (ds := []) (v := .non)
          obtain ⟨b, ws, rfl, hb, h1, h2⟩ := box_at h ra q
          obtain ⟨c, us, rfl, h3, h4⟩ := r1.ccont h hy
          refine ⟨b, c, ws, us, rfl, rfl, h1, h3, by rw [h2.length, h4.length, ← LIM_eq]; exact hz, ?_⟩
          exact p.wr h q hb (by simp only [Rep]) (h2.app h4)
        · cases e
      · cases e
    · cases e
theorem pop_ok {ds : List D} {vs : List V} (h : HR G φ s H) (ra : Rep φ s H a x) (r : RepL φ s H ds vs) (e : popD s a ds = some (.ok d, s')) (p : Post G φ s H s' d Q) : rPop x vs H Q := by
  unfold popD at e
  split at e <;> first | (cases e; done) | skip
  · rename_i n
    split at e
    · rename_i xs q
      split at e
      · rename_i y hy
        cases e
        simp only [RepL] at r
        subst r
        obtain ⟨b, ws, rfl, hb, h1, h2⟩ := box_at h ra q
        obtain ⟨v, hv, rv⟩ := h2.get hy
        refine ⟨b, ws, v, rfl, rfl, h1, by rw [h2.length]; exact hv, ?_⟩
        exact p.wr h q hb rv h2.dropLast
      · cases e
    · cases e
theorem clear_ok {ds : List D} {vs : List V} (h : HR G φ s H) (ra : Rep φ s H a x) (r : RepL φ s H ds vs) (e : clrD s a ds = some (.ok d, s')) (p : Post G φ s H s' d Q) : rClear x vs H Q := by
  unfold clrD at e
  split at e <;> first | (cases e; done) | skip
  · rename_i n
    split at e
    · rename_i xs q
      cases e
      simp only [RepL] at r
      subst r
      obtain ⟨b, ws, rfl, hb, h1, h2⟩ := box_at h ra q
      exact ⟨b, ws, rfl, rfl, h1, p.wr h q hb (by simp only [Rep]) RepL.nil⟩
    · cases e
theorem seqIx {n : Nat} {i : Int} {k : Nat} (h : ixN n i = some k) : seqIndex? i n = some k := by
  unfold ixN at h
  unfold seqIndex?
  dsimp only
  by_cases h0 : 0 ≤ i
  · rw [if_pos h0] at h
    rw [if_neg (show ¬ i < 0 by omega)]
    by_cases h1 : i < n
    · rw [if_pos h1] at h
      rw [if_pos (by simp only [Bool.and_eq_true, decide_eq_true_eq]; exact ⟨h0, h1⟩)]
      exact h
    · rw [if_neg h1] at h
      cases h
  · rw [if_neg h0] at h
    rw [if_pos (show i < 0 by omega)]
    by_cases h1 : -(n : Int) ≤ i
    · rw [if_pos h1] at h
      rw [if_pos (by simp only [Bool.and_eq_true, decide_eq_true_eq]; omega)]
      exact h
    · rw [if_neg h1] at h
      cases h
theorem popAt_ok {ds : List D} {vs : List V} (h : HR G φ s H) (ra : Rep φ s H a x) (r : RepL φ s H ds vs) (e : popAtD s a ds = some (.ok d, s')) (p : Post G φ s H s' d Q) : rPopAt x vs H Q := by
  unfold popAtD at e
  split at e <;> first | (cases e; done) | skip
  · rename_i n i
    split at e
    · rename_i xs q
      split at e
      · rename_i hz
        split at e
        · rename_i k hk
          split at e
          · rename_i y hy
            cases e
            obtain ⟨v, rfl, r1⟩ := r.one_inv (ds := []) (v := .non)
            simp only [Rep] at r1
            subst r1
            obtain ⟨b, ws, rfl, hb, h1, h2⟩ := box_at h ra q
            obtain ⟨w, hw, rw'⟩ := h2.get hy
            have s1 := seqIx hk
            refine ⟨b, ws, i, k, w, rfl, rfl, h1, by omega, by omega, by rw [h2.length]; exact s1, hw, ?_⟩
            exact p.wr h q hb rw' (h2.erase k)
          · cases e
        · cases e
      · cases e
    · cases e
theorem find_V : ∀ {ds : List D} {vs : List V} {y : D} {w : V} {j : Nat}, flat y = true → Rep φ s H y w → ds.all flat = true → RepL φ s H ds vs → (ds.findIdx? fun x => eqD x y) = some j →
    ∃ z, vs[j]? = some z ∧ eqV z w = true ∧ ∀ m z', m < j → vs[m]? = some z' → eqV z' w = false
  | [], vs, y, w, j, _, _, _, _, e => by cases e
  | d :: ds, vs, y, w, j, fy, ry, fs, r, e => by
    simp only [RepL] at r
    obtain ⟨v, u, rfl, r1, r2⟩ := r
    rw [List.all_cons, Bool.and_eq_true] at fs
    rw [List.findIdx?_cons] at e
    have q := eq_V fs.1 fy r1 ry
    by_cases h : eqD d y = true
    · rw [if_pos h] at e
      cases e
      exact ⟨v, rfl, by rw [q]; exact h, fun m z' hm _ => by omega⟩
    · rw [if_neg h] at e
      cases hj : ds.findIdx? fun x => eqD x y with
      | none =>
        rw [hj] at e
        cases e
      | some i =>
        rw [hj] at e
        cases e
        obtain ⟨z, h1, h2, h3⟩ := find_V fy ry fs.2 r2 hj
        refine ⟨z, h1, h2, fun m z' hm hz => ?_⟩
        cases m with
        | zero =>
          cases hz
          rw [q]
          exact eq_false_of_ne_true h
        | succ m => exact h3 m z' (Nat.lt_of_succ_lt_succ hm) hz
theorem pds_get : ∀ {zs : List D} {j : Nat} {z : PyData}, (toPDs zs)[j]? = some z → ∃ d, zs[j]? = some d ∧ z = toPD d
  | [], j, z, h => by simp [toPDs] at h
  | d :: zs, 0, z, h => by
    simp [toPDs] at h
    exact ⟨d, rfl, h.symm⟩
  | d :: zs, j + 1, z, h => by
    simp [toPDs] at h
    obtain ⟨e, h1, h2⟩ := pds_get h
    exact ⟨e, by simpa using h1, h2⟩
theorem pds_at : ∀ {zs : List D} {j : Nat} {d : D}, zs[j]? = some d → (toPDs zs)[j]? = some (toPD d)
  | [], j, z, h => by simp at h
  | d :: zs, 0, z, h => by
    simp at h
    simp [toPDs, h]
  | d :: zs, j + 1, z, h => by
    simp at h
    simpa [toPDs] using pds_at h
theorem shpL_at : ∀ {zs : List D} {k j : Nat} {d : D}, shpL k zs = true → zs[j]? = some d → shp k d = true
  | [], k, j, d, _, h => by simp at h
  | x :: zs, k, 0, d, hs, h => by
    simp only [shpL, Bool.and_eq_true] at hs
    simp at h
    rw [← h]
    exact hs.1
  | x :: zs, k, j + 1, d, hs, h => by
    simp only [shpL, Bool.and_eq_true] at hs
    simp at h
    exact shpL_at hs.2 h
noncomputable def rIndexA (K : PySem.W.Frag) : V → List V → Hp → VK → Prop := fun x xs H Q => rIndex K x xs H Q ∨ rIndexD K x xs H Q
theorem mt_indexA {X : Cx} (hu : X.A.units + 4499 < cLine) : MtR X "list.index" (rIndexA X.K) := by
  intro pins s σ H x xs v us Q I rx rxs h
  rcases h with h | h
  · exact mt_index pins s σ H x xs v us Q I rx rxs h
  · exact mt_indexD (by omega) pins s σ H x xs v us Q I rx rxs h
theorem index_ok {ds : List D} {vs : List V} (hkk : φ.K = K) (h : HR G φ s H) (ra : Rep φ s H a x) (r : RepL φ s H ds vs) (e : ixOfD s a ds = some (.ok d, s')) (p : Post G φ s H s' d Q) : rIndexA K x vs H Q := by
  unfold ixOfD at e
  split at e <;> first | (cases e; done) | skip
  · rename_i y
    split at e
    · rename_i xs hc
      split at e
      · rename_i hf
        rw [Bool.and_eq_true] at hf
        split at e
        · rename_i j hj
          cases e
          obtain ⟨v, rfl, r1⟩ := r.one_inv (ds := []) (v := .non)
          obtain ⟨q, ws, rfl, h1, h2⟩ := ra.lcont h hc
          obtain ⟨z, g1, g2, g3⟩ := find_V hf.1 r1 hf.2 h2 hj
          refine .inl ⟨q, ws, v, j, z, rfl, rfl, by rw [← hkk]; exact h1, flat_V hf.1 r1, flats_V hf.2 h2, g1, g2, g3, p.here h ?_⟩
          simp only [Rep]
        · cases e
      · split at e
        · rename_i zs hz
          split at e
          · rename_i hs
            rw [Bool.and_eq_true] at hs
            split at e
            · rename_i j hj
              cases e
              obtain ⟨v, rfl, r1⟩ := r.one_inv (ds := []) (v := .non)
              obtain ⟨d1, d2, d3, d4, d5⟩ := deep_of hkk h r1 ra hz hs.1 hs.2
              obtain ⟨q, ws, rfl, h1, h2⟩ := ra.lcont h hc
              obtain ⟨hj1, hj2, hj3⟩ := List.findIdx?_eq_some_iff_getElem.mp hj
              have ez : zs[j]? = some zs[j] := List.getElem?_eq_getElem hj1
              refine .inr ⟨q, v, _, _, j, toPD zs[j], rfl, rfl, d2, d1, d4, d3, pds_at ez, ?_, fun m z' hm hz' => ?_, p.here h ?_⟩
              · rw [eqv_eq _ _ (shpL_at d5 ez) hs.1]
                exact hj2
              · obtain ⟨d, hd, rfl⟩ := pds_get hz'
                have hm' : m < zs.length := by omega
                have e1 : zs[m]? = some zs[m] := List.getElem?_eq_getElem hm'
                rw [e1] at hd
                cases hd
                rw [eqv_eq _ _ (shpL_at d5 e1) hs.1]
                have := hj3 m hm
                simpa using this
              · simp only [Rep]
            · cases e
          · cases e
        · cases e
    · cases e
noncomputable def rCountF (K : PySem.W.Frag) : V → List V → Hp → VK → Prop := fun x xs H Q => ∃ (a : Addr) (ys : List V) (y : V), x = V.ref a ∧ xs = [y] ∧ SqL K H a ys ∧ flatV y = true ∧ ys.all flatV = true ∧ Q (.int ((ys.countP fun z => eqV z y : Nat) : Int)) H
theorem cntU {y : V} : ∀ {ys : List V} {us : List Value}, Vals ys us → ys.all flatV = true → us.countP (eqU y) = ys.countP fun z => eqV z y
  | _, _, .nil, _ => rfl
  | z :: zs, _ :: us, .cons r t, f => by
    rw [List.all_cons, Bool.and_eq_true] at f
    rw [List.countP_cons, List.countP_cons, cntU t f.2, eqU_of r f.1]
theorem mt_countF {X : Cx} : MtR X "list.count" (rCountF X.K) := by
  intro pins s σ H x xs v us Q I rx rxs h
  obtain ⟨a, ys, y, rfl, rfl, hs, fy, fys, q⟩ := h
  cases rx
  cases rxs with
  | cons ry rt =>
    rename_i u1 u2
    cases rt
    obtain ⟨ts, r9, ⟨⟨c9, d9, e9, l9⟩, n9, h9, h10, h11, h12⟩, h13⟩ := I.list hs
    simp only at h10 h12
    subst h10 h12
    refine call_meets PySem.F.slot_list_count ⟨_, h9, rfl⟩ PySem.F.entry_list_count (PySem.F.args_list_count_2 _ _) (SeqAt.list_countAt a ts.toArray n9 d9 l9 u1 (eqU y)) ⟨h9, fun w hw => mem_eqAt ry fy r9 fys w (by simpa using hw), ?_⟩
    have h14 : ts.toArray.toList.countP (eqU y) = ys.countP fun z => eqV z y := cntU r9 fys
    refine ⟨.int ((ys.countP fun z => eqV z y : Nat) : Int), H, I.tok _, ⟨s.toks, ?_⟩, q⟩
    show Value.int ((ts.toArray.toList.countP (eqU y) : Nat) : Int) s.toks = _
    rw [h14]
theorem cnt_V : ∀ {ds : List D} {vs : List V} {y : D} {w : V}, flat y = true → Rep φ s H y w → ds.all flat = true → RepL φ s H ds vs → (ds.countP fun x => eqD x y) = vs.countP fun z => eqV z w
  | [], vs, y, w, _, _, _, r => by
    simp only [RepL] at r
    subst r
    rfl
  | d :: ds, vs, y, w, fy, ry, fs, r => by
    simp only [RepL] at r
    obtain ⟨v, u, rfl, r1, r2⟩ := r
    rw [List.all_cons, Bool.and_eq_true] at fs
    rw [List.countP_cons, List.countP_cons, cnt_V fy ry fs.2 r2, eq_V fs.1 fy r1 ry]
theorem count_ok {ds : List D} {vs : List V} (hkk : φ.K = K) (h : HR G φ s H) (ra : Rep φ s H a x) (r : RepL φ s H ds vs) (e : cntD s a ds = some (.ok d, s')) (p : Post G φ s H s' d Q) : rCountF K x vs H Q := by
  unfold cntD at e
  split at e <;> first | (cases e; done) | skip
  · rename_i y
    split at e
    · rename_i xs hc
      split at e
      · rename_i hf
        rw [Bool.and_eq_true] at hf
        cases e
        obtain ⟨v, rfl, r1⟩ := r.one_inv (ds := []) (v := .non)
        obtain ⟨q, ws, rfl, h1, h2⟩ := ra.lcont h hc
        refine ⟨q, ws, v, rfl, rfl, by rw [← hkk]; exact h1, flat_V hf.1 r1, flats_V hf.2 h2, p.here h ?_⟩
        rw [← cnt_V hf.1 r1 hf.2 h2]
        simp only [Rep]
      · cases e
    · cases e
theorem upper_ok {ds : List D} {vs : List V} (r0 : Rep φ s H a x) (h : HR G φ s H) (r : RepL φ s H ds vs) (e : uprD s a ds = some (.ok d, s')) (p : Post G φ s H s' d Q) : ∃ b : Str, x = .str b ∧ vs = [] ∧ b.length ≤ 5592405 ∧ Q (.str (Txt.upper b)) H := by
  unfold uprD at e
  split at e <;> first | (cases e; done) | skip
  · rename_i z
    split at e
    · rename_i hz
      cases e
      simp only [RepL] at r
      simp only [Rep] at r0
      subst r r0
      refine ⟨_, rfl, rfl, ?_, ?_⟩
      · show z.toArray.size ≤ 5592405
        rw [List.size_toArray]
        omega
      · have := SX.upper_S hz.2
        have e2 : (⟨z.toArray⟩ : Str) = SX.S z := rfl
        rw [e2, this]
        exact p.here h (by simp only [Rep]; rfl)
    · cases e
noncomputable def rInsert : V → List V → Hp → VK → Prop := fun x vs H Q => ∃ (l : Addr) (xs : List V) (i : Int) (y : V), x = .ref l ∧ vs = [.int i, y] ∧ H l = some (.lst xs) ∧ xs.length < sizeLine ∧ 0 ≤ i ∧ i < 2 ^ 63 ∧
    Q .non (upd H l (.lst (xs.take i.toNat ++ [y] ++ xs.drop i.toNat)))
theorem insert_ok {ds : List D} {vs : List V} (h : HR G φ s H) (ra : Rep φ s H a x) (r : RepL φ s H ds vs) (e : insD s a ds = some (.ok d, s')) (p : Post G φ s H s' d Q) : rInsert x vs H Q := by
  unfold insD at e
  split at e <;> first | (cases e; done) | skip
  · rename_i n i z
    split at e
    · rename_i xs q
      split at e
      · rename_i hz
        cases e
        obtain ⟨v, w, rfl, r1, r2⟩ := r.two_inv
        simp only [Rep] at r1
        subst r1
        obtain ⟨b, ws, rfl, hb, h1, h2⟩ := box_at h ra q
        refine ⟨b, ws, i, w, rfl, rfl, h1, by rw [h2.length, ← LIM_eq]; exact hz.1, hz.2.1, by omega, ?_⟩
        refine p.wr h q hb (by simp only [Rep]) ?_
        rw [List.append_assoc]
        exact (h2.take _).app ((RepL.one r2).app (h2.drop _))
      · cases e
    · cases e
theorem txts_rep : ∀ {ds : List D} {vs : List V} {ys : List (List Nat)}, RepL φ s H ds vs → txts ds = some ys → vs = (ys.map fun z => (⟨z.toArray⟩ : Str)).map V.str
  | [], vs, ys, r, e => by
    simp only [RepL] at r
    cases e
    exact r
  | d :: ds, vs, ys, r, e => by
    simp only [RepL] at r
    obtain ⟨v, w, rfl, r1, r2⟩ := r
    simp only [txts] at e
    cases h1 : txtOf d with
    | none =>
      rw [h1] at e
      cases e
    | some z =>
      rw [h1] at e
      cases h2 : txts ds with
      | none =>
        rw [h2] at e
        cases e
      | some zs =>
        rw [h2] at e
        cases e
        have := txts_rep r2 h2
        cases d with
        | str y =>
          cases h1
          simp only [Rep] at r1
          subst r1
          rw [this]
          rfl
        | _ => cases h1
theorem sumLen_eq : ∀ ys : List (List Nat), ((ys.map fun z => (⟨z.toArray⟩ : Str)).map (·.length)).sum = sumLen ys
  | [] => rfl
  | y :: ys => by
    rw [List.map_cons, List.map_cons, List.sum_cons, sumLen_eq ys, str_len]
    rfl
theorem joinT_eq (sep : List Nat) : ∀ ys : List (List Nat), TL.joinL sep ys = joinT sep ys
  | [] => rfl
  | [_] => rfl
  | x :: y :: r => by
    show x ++ (sep ++ TL.joinL sep (y :: r)) = x ++ (sep ++ joinT sep (y :: r))
    rw [joinT_eq sep (y :: r)]
theorem tl_mk (ys : List (List Nat)) : (ys.map fun z => (⟨z.toArray⟩ : Str)).map TL.tl = ys := by
  rw [List.map_map]
  conv => rhs; rw [← List.map_id ys]
  refine List.map_congr_left fun z _ => ?_
  show (⟨z.toArray⟩ : Str).cps.toList = z
  simp
theorem join_txt (sep : List Nat) (ys : List (List Nat)) : Txt.join ⟨sep.toArray⟩ (ys.map fun z => (⟨z.toArray⟩ : Str)) = ⟨(joinT sep ys).toArray⟩ := by
  have e := TL.tl_join ⟨sep.toArray⟩ (ys.map fun z => (⟨z.toArray⟩ : Str))
  rw [tl_mk] at e
  refine TL.ext_tl ((congrArg TL.tl (TL.join_eq _ _)).trans (e.trans ?_))
  rw [show TL.tl (⟨sep.toArray⟩ : Str) = sep from str_cps sep, joinT_eq]
noncomputable def rJoin (K : PySem.W.Frag) : V → List V → Hp → VK → Prop := fun x xs H Q => ∃ a p, ∃ ys : List Str, x = .str a ∧ xs = [.ref p] ∧ (SqL K H p (ys.map V.str) ∨ SqT K H p (ys.map V.str)) ∧
    (ys.map (·.length)).sum + ys.length * a.length ≤ 16777216 ∧ Q (.str (Txt.join a ys)) H
theorem join_ok {ds : List D} {vs : List V} (hkk : φ.K = K) (h : HR G φ s H) (ra : Rep φ s H a x) (r : RepL φ s H ds vs) (e : joinD s a ds = some (.ok d, s')) (p : Post G φ s H s' d Q) : rJoin K x vs H Q := by
  unfold joinD at e
  split at e <;> first | (cases e; done) | skip
  · rename_i sep d'
    split at e
    · rename_i ys hy
      split at e
      · rename_i hz
        cases e
        simp only [Rep] at ra
        subst ra
        obtain ⟨v, rfl, r1⟩ := r.one_inv (ds := []) (v := .non)
        cases hc : cont s d' with
        | none =>
          rw [hc] at hy
          cases hy
        | some xs =>
          rw [hc] at hy
          obtain ⟨q, ws, rfl, h1, h2⟩ := seq_of hkk h r1 hc
          have e1 := txts_rep h2 (show txts xs = some ys from hy)
          subst e1
          refine ⟨_, q, ys.map fun z => (⟨z.toArray⟩ : Str), rfl, rfl, h1, ?_, ?_⟩
          · rw [sumLen_eq, List.length_map, str_len, Nat.mul_comm]
            exact hz
          · rw [join_txt]
            exact p.here h (by simp only [Rep])
      · cases e
    · cases e
end
end Fl
namespace Fl
open PySem L2
section
variable {G : Glob} {cf : CF} {X : Cx} {e a b c : Expr} {ca cb cc : E} {pos : Pos}
theorem At.step {φ φ1 : Mp} {s s1 : S} {H H1 : Hp} {r : Sl} {σ : L2.St} (A : At G φ s H r σ) (g : Gr φ s H φ1 s1 H1) (h : HR G φ1 s1 H1) : At G φ1 s1 H1 r σ := ⟨h, A.sr.mono g⟩
/-- behind growth -/
theorem Post.from {φ φ1 : Mp} {s s1 s' : S} {H H1 : Hp} {d : D} {Q : VK} (g : Gr φ s H φ1 s1 H1) (p : Post G φ s H s' d Q) : Post G φ1 s1 H1 s' d Q := fun φ' H' v g' h r => p φ' H' v (g.trans g') h r
theorem c_var {i : Nat} {x : Str} (hN : X.N[i]? = some x) (hv : Vis X.env.scope x) (hd : (x == ("__debug__" : Str)) = false) (hc : (x == ("__classdict__" : Str)) = false) : PE X (.Name x pos) (rE G cf (.var i)) := by
  refine PE.imp (pe_var hN hv hd hc) fun σ H Q h => ?_
  obtain ⟨φ, s, r, A, d, s', he, p⟩ := h
  simp only [ev] at he
  split at he
  · rename_i d' hr
    cases he
    obtain ⟨v, h1, h2⟩ := A.sr.get i d hr
    exact ⟨v, h1, p φ H v (Gr.refl _ _ _) A.hr h2⟩
  · cases he
theorem c_const {v : V} {d : D} {ce : E} (hp : PE X e (tC v)) (h : ∀ r s, ev cf ce r s = some (.ok d, s)) (hr : ∀ φ s H, Rep φ s H d v) : PE X e (rE G cf ce) := by
  refine PE.imp hp fun σ H Q h' => ?_
  obtain ⟨φ, s, r, A, d', s', he, p⟩ := h'
  rw [h] at he
  cases he
  exact p φ H v (Gr.refl _ _ _) A.hr (hr _ _ _)
theorem c_bin {o : Bop} (ha : PE X a (rE G cf ca)) (hb : PE X b (rE G cf cb)) : PE X (.BinOp a (bopOf o) b pos) (rE G cf (.bin o ca cb)) := by
  refine PE.imp (pe_op (op_bin o) ha hb) fun σ H Q h => ?_
  obtain ⟨φ, s, r, A, d, s', he, p⟩ := h
  simp only [ev] at he
  obtain ⟨x, s1, e1, he⟩ := bnd_inv he
  obtain ⟨y, s2, e2, he⟩ := bnd_inv he
  obtain ⟨e3, rfl⟩ := lft_inv he
  refine rd_step A e1 fun φ1 H1 v g1 A1 rv => ?_
  refine rd_step A1 e2 fun φ2 H2 w g2 A2 rw' => ?_
  exact bin_ok A2.hr (Rep.mono g2 x rv) rw' e3 (Post.from (g1.trans g2) p)
noncomputable def rCatS (K : PySem.W.Frag) : R2 := fun x y H Q => ∃ l b xs zs, x = .ref l ∧ y = .ref b ∧ SqL K H l xs ∧ SqL K H b zs ∧ xs.length + zs.length ≤ sizeLine ∧ ∀ p, H p = none → Q (.ref p) (L2.upd H p (.lst (xs ++ zs)))
theorem op_catS : OpR X (binaryOp .Add) (rCatS X.K) := by
  intro pins s σ H x y v u Q I rx ry h
  obtain ⟨l, b, xs, zs, rfl, rfl, hH, hB, hz, q⟩ := h
  cases rx
  cases ry
  obtain ⟨its, r, ⟨⟨cls, dd, data, sl⟩, n, ho, hc, -, hd⟩, z⟩ := I.list hH
  obtain ⟨its2, r2, ⟨⟨cls2, dd2, data2, sl2⟩, n2, ho2, hc2, -, hd2⟩, z2⟩ := I.list hB
  simp only at hc hd hc2 hd2
  subst hc hd hc2 hd2
  have e1 := r.length
  have e2 := r2.length
  have ea : its.toArray ++ its2.toArray = (its ++ its2).toArray := by simp
  refine concat_meets ⟨_, ho, rfl⟩ ⟨_, ho2, rfl⟩ noFill_list_add seq_list_add PySem.F.slot_list_add PySem.F.entry_list_add (PySem.F.args_list_add_2 _ _) (PyProof.Rows.list_addW l b its.toArray its2.toArray n n2 dd dd2 sl sl2 (by rw [List.size_toArray, List.size_toArray]; omega)) ⟨ho, ho2, ?_⟩
  rw [ea]
  exact ⟨.ref _, _, I.lnew (t' := s.toks) (r.append r2) (by rw [List.length_append]; omega), rfl, q _ I.fresh⟩
theorem c_cat {bx : Bool} (hK : X.K = G.K) (ha : PE X a (rE G cf ca)) (hb : PE X b (rE G cf cb)) : PE X (.BinOp a .Add b pos) (rE G cf (.cat bx ca cb)) := by
  refine PE.imp (pe_op op_catS ha hb) fun σ H Q h => ?_
  obtain ⟨φ, s, r, A, d, s', he, p⟩ := h
  simp only [ev] at he
  obtain ⟨x, s1, e1, he⟩ := bnd_inv he
  obtain ⟨y, s2, e2, he⟩ := bnd_inv he
  refine rd_step A e1 fun φ1 H1 v g1 A1 rv => ?_
  refine rd_step A1 e2 fun φ2 H2 w g2 A2 rw' => ?_
  split at he
  · rename_i xs ys h1 h2
    unfold mkLz at he
    split at he
    · rename_i hz
      obtain ⟨p1, vs, rfl, k1, l1⟩ := (Rep.mono g2 x rv).lcont A2.hr h1
      obtain ⟨p2, ws, rfl, k2, l2⟩ := rw'.lcont A2.hr h2
      rw [A2.hr.k.trans hK.symm] at k1 k2
      refine ⟨p1, p2, vs, ws, rfl, rfl, k1, k2, ?_, Post.lst A2.hr he (Post.from (g1.trans g2) p) (l1.app l2)⟩
      rw [l1.length, l2.length, ← LIM_eq, ← List.length_append]
      exact hz
    · cases he
  · cases he
theorem RepL.rep {φ : Mp} {s : S} {H : Hp} {ds : List D} {vs : List V} (r : RepL φ s H ds vs) : ∀ n : Nat, RepL φ s H (List.replicate n ds).flatten (List.replicate n vs).flatten
  | 0 => RepL.nil
  | n + 1 => by
    rw [List.replicate_succ, List.replicate_succ, List.flatten_cons, List.flatten_cons]
    exact r.app (r.rep n)
theorem c_rpt {bx : Bool} (ha : PE X a (rE G cf ca)) (hb : PE X b (rE G cf cb)) : PE X (.BinOp a .Mult b pos) (rE G cf (.rpt bx ca cb)) := by
  refine PE.imp (pe_op op_rep ha hb) fun σ H Q h => ?_
  obtain ⟨φ, s, r, A, d, s', he, p⟩ := h
  simp only [ev] at he
  obtain ⟨x, s1, e1, he⟩ := bnd_inv he
  obtain ⟨y, s2, e2, he⟩ := bnd_inv he
  refine rd_step A e1 fun φ1 H1 v g1 A1 rv => ?_
  refine rd_step A1 e2 fun φ2 H2 w g2 A2 rw' => ?_
  split at he
  · rename_i xs k hc
    split at he
    · rename_i hz
      obtain ⟨q, vs, rfl, h1, h2⟩ := (Rep.mono g2 x rv).ccont A2.hr hc
      simp only [Rep] at rw'
      exact ⟨q, k, vs, rfl, rw', h1, hz.1, hz.2.1, by rw [h2.length, ← LIM_eq]; exact hz.2.2, Post.lst A2.hr he (Post.from (g1.trans g2) p) (h2.rep _)⟩
    · cases he
  · cases he
theorem RepL.rev {φ : Mp} {s : S} {H : Hp} : ∀ {ds : List D} {vs : List V}, RepL φ s H ds vs → RepL φ s H ds.reverse vs.reverse
  | [], vs, r => by
    simp only [RepL] at r
    subst r
    exact RepL.nil
  | d :: ds, vs, r => by
    simp only [RepL] at r
    obtain ⟨v, w, rfl, h1, h2⟩ := r
    rw [List.reverse_cons, List.reverse_cons]
    exact (RepL.rev h2).app ⟨v, [], rfl, h1, rfl⟩
theorem c_rev {bx : Bool} {k : Nat} {p1 p2 p3 : Pos} (hK : X.K = G.K) (ha : PE X a (rE G cf ca)) : PE X (.Subscript a (.Slice none none (some (.UnaryOp .USub (.Constant (.int 1) k p1) p2)) p3) pos) (rE G cf (.rev bx ca)) := by
  refine ⟨fun pins s0 σ H Q I h => ?_⟩
  obtain ⟨φ, s, r, A, d, s', he, p⟩ := h
  simp only [ev] at he
  obtain ⟨x, s1, e1, he⟩ := bnd_inv he
  split at he
  · rename_i z
    split at he
    · rename_i hz
      cases he
      refine (pe_revS ha).run pins s0 σ H Q I (rd_step A e1 fun φ1 H1 v g1 A1 rv => ?_)
      simp only [Rep] at rv
      refine ⟨z, rv, by rw [← LIM_eq]; exact hz, Post.here A1.hr (Post.from g1 p) ?_⟩
      simp only [Rep]
    · cases he
  · rename_i zs
    cases he
    refine (pe_revT ha).run pins s0 σ H Q I (rd_step A e1 fun φ1 H1 v g1 A1 rv => ?_)
    simp only [Rep] at rv
    obtain ⟨q, vs, rfl, h1, _, h2⟩ := rv
    exact ⟨q, vs, rfl, SqT.of h1, Post.tup A1.hr (Post.from g1 p) h2.rev⟩
  · split at he
    · rename_i xs hc
      refine (pe_revL ha).run pins s0 σ H Q I (rd_step A e1 fun φ1 H1 v g1 A1 rv => ?_)
      obtain ⟨q, vs, rfl, h1, h2⟩ := rv.lcont A1.hr hc
      rw [A1.hr.k.trans hK.symm] at h1
      exact ⟨q, vs, rfl, h1, Post.lst A1.hr he (Post.from g1 p) h2.rev⟩
    · cases he
theorem c_neg (ha : PE X a (rE G cf ca)) : PE X (.UnaryOp .USub a pos) (rE G cf (.neg ca)) := by
  refine PE.imp (pe_un un_neg ha) fun σ H Q h => ?_
  obtain ⟨φ, s, r, A, d, s', he, p⟩ := h
  simp only [ev] at he
  obtain ⟨x, s1, e1, he⟩ := bnd_inv he
  refine rd_step A e1 fun φ1 H1 v g1 A1 rv => ?_
  split at he
  · cases he
    simp only [Rep] at rv
    subst rv
    exact ⟨_, rfl, Post.here A1.hr (Post.from g1 p) (by simp only [Rep])⟩
  · cases he
theorem c_not (hK : X.K = G.K) (ha : PE X a (rE G cf ca)) : PE X (.UnaryOp .Not a pos) (rE G cf (.not ca)) := by
  refine PE.imp (pe_notT ha) fun σ H Q h => ?_
  obtain ⟨φ, s, r, A, d, s', he, p⟩ := h
  simp only [ev] at he
  obtain ⟨x, s1, e1, he⟩ := bnd_inv he
  obtain ⟨e2, rfl⟩ := lft_inv he
  refine rd_step A e1 fun φ1 H1 v g1 A1 rv => ?_
  cases hk : truth s' x with
  | none =>
    rw [hk] at e2
    cases e2
  | some k =>
    rw [hk] at e2
    cases e2
    exact ⟨k, truth_ok (A1.hr.k.trans hK.symm) A1.hr rv hk, Post.here A1.hr (Post.from g1 p) (by simp only [Rep])⟩
theorem t_not (ha : PT X a (rT G cf ca)) : PT X (.UnaryOp .Not a pos) (rT G cf (.not ca)) := by
  refine PT.imp (pt_not ha) fun σ H Q h => ?_
  obtain ⟨φ, s, r, A, k, s', he, p⟩ := h
  unfold tst at he
  simp only [ev] at he
  obtain ⟨x, s1, e1, he⟩ := bnd_inv he
  obtain ⟨y, s0, e0, e1⟩ := bnd_inv e1
  obtain ⟨e2, rfl⟩ := lft_inv e1
  obtain ⟨e3, rfl⟩ := lft_inv he
  cases hk : truth s' y with
  | none =>
    rw [hk] at e2
    cases e2
  | some k' =>
    rw [hk] at e2
    cases e2
    cases (show some (!k') = some k from e3)
    refine ⟨φ, s, r, A, k', s', ?_, fun φ' H' b g h q => ?_⟩
    · unfold tst
      rw [e0]
      show lft (truth s' y) s' = _
      rw [hk]
      rfl
    · exact p φ' H' _ g h (by rw [q])
theorem c_cmp {o : Cop} (hK : X.K = G.K) (hu : X.A.units + 4499 < cLine) (ha : PE X a (rE G cf ca)) (hb : PE X b (rE G cf cb)) (hm : behindInMarks (copOf o) b = false) : PE X (.Compare a [copOf o] [b] pos) (rE G cf (.cmp o ca cb)) := by
  refine PE.imp (pe_cmpR (op_cmp hu o) ha hb hm) fun σ H Q h => ?_
  obtain ⟨φ, s, r, A, d, s', he, p⟩ := h
  simp only [ev] at he
  obtain ⟨x, s1, e1, he⟩ := bnd_inv he
  obtain ⟨y, s2, e2, he⟩ := bnd_inv he
  obtain ⟨e3, rfl⟩ := lft_inv he
  refine rd_step A e1 fun φ1 H1 v g1 A1 rv => ?_
  refine rd_step A1 e2 fun φ2 H2 w g2 A2 rw' => ?_
  cases hk : cmpD s' o x y with
  | none =>
    rw [hk] at e3
    cases e3
  | some k =>
    rw [hk] at e3
    cases e3
    exact cmp_ok (A2.hr.k.trans hK.symm) A2.hr (Rep.mono g2 x rv) rw' hk (Post.here A2.hr (Post.from (g1.trans g2) p) (by simp only [Rep]))
theorem t_cmp {o : Cop} (hK : X.K = G.K) (hu : X.A.units + 4499 < cLine) (ha : PE X a (rE G cf ca)) (hb : PE X b (rE G cf cb)) (hm : behindInMarks (copOf o) b = false) : PT X (.Compare a [copOf o] [b] pos) (rT G cf (.cmp o ca cb)) := by
  refine PT.imp (pt_cmpR (op_cmp hu o) ha hb hm) fun σ H Q h => ?_
  obtain ⟨φ, s, r, A, k, s', he, p⟩ := h
  unfold tst at he
  simp only [ev] at he
  obtain ⟨z, s3, e0, he⟩ := bnd_inv he
  obtain ⟨x, s1, e1, e0⟩ := bnd_inv e0
  obtain ⟨y, s2, e2, e0⟩ := bnd_inv e0
  obtain ⟨e3, rfl⟩ := lft_inv e0
  obtain ⟨e4, rfl⟩ := lft_inv he
  refine rd_step A e1 fun φ1 H1 v g1 A1 rv => ?_
  refine rd_step A1 e2 fun φ2 H2 w g2 A2 rw' => ?_
  cases hk : cmpD s' o x y with
  | none =>
    rw [hk] at e3
    cases e3
  | some k' =>
    rw [hk] at e3
    cases e3
    cases (show some k' = some k from e4)
    exact cmp_ok (A2.hr.k.trans hK.symm) A2.hr (Rep.mono g2 x rv) rw' hk ⟨k, rfl, p φ2 H2 k (g1.trans g2) A2.hr rfl⟩
theorem c_chn {o o' : Cop} (hK : X.K = G.K) (hu : X.A.units + 4499 < cLine) (ha : PE X a (rE G cf ca)) (hb : PE X b (rE G cf cb)) (hc : PE X c (rE G cf cc)) (hm : lastMarks [copOf o, copOf o'] [b, c] = false) :
    PE X (.Compare a [copOf o, copOf o'] [b, c] pos) (rE G cf (.chn o o' ca cb cc)) := by
  refine PE.imp (pe_chain (op_cmp hu o) (op_cmp hu o') ha hb hc hm) fun σ H Q h => ?_
  obtain ⟨φ, s, r, A, d, s', he, p⟩ := h
  simp only [ev] at he
  obtain ⟨x, s1, e1, he⟩ := bnd_inv he
  obtain ⟨y, s2, e2, he⟩ := bnd_inv he
  refine rd_step A e1 fun φ1 H1 v g1 A1 rv => ?_
  refine rd_step A1 e2 fun φ2 H2 w g2 A2 rw' => ?_
  split at he
  · rename_i hk
    obtain ⟨z, s3, e3, he⟩ := bnd_inv he
    obtain ⟨e4, rfl⟩ := lft_inv he
    refine cmp_ok (A2.hr.k.trans hK.symm) A2.hr (Rep.mono g2 x rv) rw' hk ⟨true, rfl, ?_⟩
    rw [if_pos rfl]
    refine rd_step A2 e3 fun φ3 H3 u g3 A3 ru => ?_
    cases hk' : cmpD s' o' y z with
    | none =>
      rw [hk'] at e4
      cases e4
    | some k =>
      rw [hk'] at e4
      cases e4
      exact cmp_ok (A3.hr.k.trans hK.symm) A3.hr (Rep.mono g3 y rw') ru hk' (Post.here A3.hr (Post.from ((g1.trans g2).trans g3) p) (by simp only [Rep]))
  · rename_i hk
    cases he
    refine cmp_ok (A2.hr.k.trans hK.symm) A2.hr (Rep.mono g2 x rv) rw' hk ⟨false, rfl, ?_⟩
    rw [if_neg Bool.false_ne_true]
    exact Post.here A2.hr (Post.from (g1.trans g2) p) (by simp only [Rep])
  · cases he
theorem t_chn {o o' : Cop} (hK : X.K = G.K) (hu : X.A.units + 4499 < cLine) (ha : PE X a (rE G cf ca)) (hb : PE X b (rE G cf cb)) (hc : PE X c (rE G cf cc)) (hm : lastMarks [copOf o, copOf o'] [b, c] = false) :
    PT X (.Compare a [copOf o, copOf o'] [b, c] pos) (rT G cf (.chn o o' ca cb cc)) := by
  refine PT.imp (pt_chain (op_cmp hu o) (op_cmp hu o') ha hb hc hm) fun σ H Q h => ?_
  obtain ⟨φ, s, r, A, k0, s', he, p⟩ := h
  unfold tst at he
  simp only [ev] at he
  obtain ⟨q, s0, e0, he⟩ := bnd_inv he
  obtain ⟨x, s1, e1, e0⟩ := bnd_inv e0
  obtain ⟨y, s2, e2, e0⟩ := bnd_inv e0
  obtain ⟨e5, rfl⟩ := lft_inv he
  refine rd_step A e1 fun φ1 H1 v g1 A1 rv => ?_
  refine rd_step A1 e2 fun φ2 H2 w g2 A2 rw' => ?_
  split at e0
  · rename_i hk
    obtain ⟨z, s3, e3, e0⟩ := bnd_inv e0
    obtain ⟨e4, rfl⟩ := lft_inv e0
    refine cmp_ok (A2.hr.k.trans hK.symm) A2.hr (Rep.mono g2 x rv) rw' hk ⟨true, rfl, ?_⟩
    rw [if_pos rfl]
    refine rd_step A2 e3 fun φ3 H3 u g3 A3 ru => ?_
    cases hk' : cmpD s' o' y z with
    | none =>
      rw [hk'] at e4
      cases e4
    | some k =>
      rw [hk'] at e4
      cases e4
      cases (show some k = some k0 from e5)
      exact cmp_ok (A3.hr.k.trans hK.symm) A3.hr (Rep.mono g3 y rw') ru hk' ⟨k0, rfl, p φ3 H3 k0 ((g1.trans g2).trans g3) A3.hr rfl⟩
  · rename_i hk
    cases e0
    cases (show some false = some k0 from e5)
    refine cmp_ok (A2.hr.k.trans hK.symm) A2.hr (Rep.mono g2 x rv) rw' hk ⟨false, rfl, ?_⟩
    rw [if_neg Bool.false_ne_true]
    exact ⟨false, rfl, p φ2 H2 false (g1.trans g2) A2.hr rfl⟩
  · cases e0
theorem c_ite (hc : PT X c (rT G cf cc)) (ha : PE X a (rE G cf ca)) (hb : PE X b (rE G cf cb)) : PE X (.IfExp c a b pos) (rE G cf (.ite cc ca cb)) := by
  refine PE.imp (pe_ifExp hc ha hb) fun σ H Q h => ?_
  obtain ⟨φ, s, r, A, d, s', he, p⟩ := h
  simp only [ev] at he
  obtain ⟨x, s1, e1, he⟩ := bnd_inv he
  have go : ∀ k, truth s1 x = some k → tst cf cc r s = some (.ok k, s1) := fun k hk => by
    unfold tst
    rw [e1]
    show lft (truth s1 x) s1 = _
    rw [hk]
    rfl
  split at he
  · rename_i hk
    refine rd_step A (go true hk) fun φ1 H1 v g1 A1 rv => ?_
    subst rv
    rw [if_pos rfl]
    exact ⟨φ1, s1, r, A1, d, s', he, fun φ' H' v g h q => p φ' H' v (g1.trans g) h q⟩
  · rename_i hk
    refine rd_step A (go false hk) fun φ1 H1 v g1 A1 rv => ?_
    subst rv
    rw [if_neg Bool.false_ne_true]
    exact ⟨φ1, s1, r, A1, d, s', he, fun φ' H' v g h q => p φ' H' v (g1.trans g) h q⟩
  · cases he
/-- any expression as a test -/
theorem t_gen (hK : X.K = G.K) (ha : PE X a (rE G cf ca)) (he : ∀ whole, isTrue a X.env whole = (do let v ← whole; standAt a.pos; holding [v] (truthy v))) : PT X a (rT G cf ca) := by
  refine PT.imp (pt_truth ha he) fun σ H Q h => ?_
  obtain ⟨φ, s, r, A, k, s', he, p⟩ := h
  unfold tst at he
  obtain ⟨x, s1, e1, he⟩ := bnd_inv he
  obtain ⟨e2, rfl⟩ := lft_inv he
  refine rd_step A e1 fun φ1 H1 v g1 A1 rv => ?_
  exact ⟨k, truth_ok (A1.hr.k.trans hK.symm) A1.hr rv e2, p φ1 H1 k g1 A1.hr rfl⟩
variable {es : List Expr} {ces : Es}
theorem c_nil : PA X [] (rA G cf .nil) := by
  refine PA.imp pa_nil fun σ H Q h => ?_
  obtain ⟨φ, s, r, A, d, s', he, p⟩ := h
  simp only [evs] at he
  cases he
  exact p φ H [] (Gr.refl _ _ _) A.hr RepL.nil
theorem c_cons (ha : PE X a (rE G cf ca)) (hb : PA X es (rA G cf ces)) (hs : starEach (a :: es) X.env = (false, eval a X.env) :: starEach es X.env) : PA X (a :: es) (rA G cf (.cons ca ces)) := by
  refine PA.imp (pa_cons ha hb hs) fun σ H Q h => ?_
  obtain ⟨φ, s, r, A, d, s', he, p⟩ := h
  simp only [evs] at he
  obtain ⟨x, s1, e1, he⟩ := bnd_inv he
  obtain ⟨xs, s2, e2, he⟩ := bnd_inv he
  cases he
  refine rd_step A e1 fun φ1 H1 v g1 A1 rv => ?_
  refine rd_step A1 e2 fun φ2 H2 vs g2 A2 rs => ?_
  refine p φ2 H2 (v :: vs) (g1.trans g2) A2.hr ?_
  simp only [RepL]
  exact ⟨v, vs, rfl, Rep.mono g2 x rv, rs⟩
theorem c_tup {k : Nat} (ha : PA X es (rA G cf ces)) : PE X (.Tuple es k pos) (rE G cf (.tup ces)) := by
  refine PE.imp (pe_tup ha) fun σ H Q h => ?_
  obtain ⟨φ, s, r, A, d, s', he, p⟩ := h
  simp only [ev] at he
  obtain ⟨xs, s1, e1, he⟩ := bnd_inv he
  split at he
  · rename_i hz
    cases he
    refine rd_step A e1 fun φ1 H1 vs g1 A1 rs => ?_
    exact ⟨by rw [rs.length, ← LIM_eq]; exact hz, Post.tup A1.hr (Post.from g1 p) rs⟩
  · cases he
theorem c_lst {bx : Bool} (ha : PA X es (rA G cf ces)) : PE X (.List es pos) (rE G cf (.lst bx ces)) := by
  refine PE.imp (pe_lst ha) fun σ H Q h => ?_
  obtain ⟨φ, s, r, A, d, s', he, p⟩ := h
  simp only [ev] at he
  obtain ⟨xs, s1, e1, he⟩ := bnd_inv he
  unfold mkLz at he
  split at he
  · rename_i hz
    refine rd_step A e1 fun φ1 H1 vs g1 A1 rs => ?_
    exact ⟨by rw [rs.length, ← LIM_eq]; exact hz, Post.lst A1.hr he (Post.from g1 p) rs⟩
  · cases he
theorem c_idx (hK : X.K = G.K) (hu : X.A.units + 4499 < cLine) (ha : PE X a (rE G cf ca)) (hb : PE X b (rE G cf cb)) (hs : PlainIx b) : PE X (.Subscript a b pos) (rE G cf (.idx ca cb)) := by
  refine ⟨fun pins s0 σ H Q I h => ?_⟩
  obtain ⟨φ, s, r, A, d, s', he, p⟩ := h
  simp only [ev] at he
  obtain ⟨x, s1, e1, he⟩ := bnd_inv he
  obtain ⟨y, s2, e2, he⟩ := bnd_inv he
  obtain ⟨e3, rfl⟩ := lft_inv he
  unfold idxD at e3
  split at e3
  · rename_i kvs hd
    refine (pe_dget (pos := pos) (by omega) ha hb hs).run pins s0 σ H Q I ?_
    refine rd_step A e1 fun φ1 H1 v g1 A1 rv => ?_
    refine rd_step A1 e2 fun φ2 H2 w g2 A2 rw' => ?_
    obtain ⟨n, q, ks, hn, rfl, h0, h1, h2, h3⟩ := dic_at A2.hr (Rep.mono g2 x rv) hd
    cases hk : keyOf y with
    | none =>
      rw [hk] at e3
      cases e3
    | some kk =>
      rw [hk] at e3
      have := key_ok rw' hk
      subst this
      obtain ⟨u, hv, ru⟩ := look_some h3 (show dlook kvs kk = some d from e3)
      exact ⟨q, u, rfl, by rw [← hv]; exact DGet.k h2, Post.here A2.hr (Post.from (g1.trans g2) p) ru⟩
  split at e3
  · rename_i kvs hd
    refine (pe_dget (pos := pos) (by omega) ha hb hs).run pins s0 σ H Q I ?_
    refine rd_step A e1 fun φ1 H1 v g1 A1 rv => ?_
    refine rd_step A1 e2 fun φ2 H2 w g2 A2 rw' => ?_
    obtain ⟨n, q, ks, hn, rfl, h0, h1, h2, h3⟩ := dit_at A2.hr (Rep.mono g2 x rv) hd
    cases hk : keyT y with
    | none =>
      rw [hk] at e3
      cases e3
    | some kk =>
      rw [hk] at e3
      obtain ⟨c, rfl, h4⟩ := keyT_ok rw' hk
      obtain ⟨u, hv, ru⟩ := look_someG kyT_inj h3 (show dlook kvs kk = some d from e3)
      exact ⟨q, u, rfl, by rw [← hv]; exact DGet.t h2 h4, Post.here A2.hr (Post.from (g1.trans g2) p) ru⟩
  · refine (pe_ix (pos := pos) ix_seq ha hb hs).run pins s0 σ H Q I ?_
    refine rd_step A e1 fun φ1 H1 v g1 A1 rv => ?_
    refine rd_step A1 e2 fun φ2 H2 w g2 A2 rw' => ?_
    exact idx_ok (A2.hr.k.trans hK.symm) A2.hr (Rep.mono g2 x rv) rw' e3 (Post.from (g1.trans g2) p)
/-- a slice's part -/
noncomputable abbrev rO (G : Glob) (cf : CF) (c : Oe) : TO := rd G (evO cf c) (fun _ _ _ a b => a = b)
theorem PO.imp {o : Option Expr} {t t' : TO} (h : PO X o t) (k : ∀ σ H Q, t' σ H Q → t σ H Q) : PO X o t' := ⟨fun pins s σ H Q I q => h.run pins s σ H Q I (k σ H Q q)⟩
theorem c_no : PO X none (rO G cf .no) := by
  refine PO.imp po_none fun σ H Q h => ?_
  obtain ⟨φ, s, r, A, d, s', he, p⟩ := h
  simp only [evO] at he
  cases he
  exact p φ H none (Gr.refl _ _ _) A.hr rfl
theorem c_so (ha : PE X a (rE G cf ca)) : PO X (some a) (rO G cf (.so ca)) := by
  refine PO.imp (po_some ha) fun σ H Q h => ?_
  obtain ⟨φ, s, r, A, d, s', he, p⟩ := h
  simp only [evO] at he
  obtain ⟨x, s1, e1, he⟩ := bnd_inv he
  split at he
  · cases he
    refine rd_step A e1 fun φ1 H1 v g1 A1 rv => ?_
    simp only [Rep] at rv
    exact ⟨_, rv, p φ1 H1 _ g1 A1.hr rfl⟩
  · cases he
theorem c_sl {bx : Bool} {lo hi : Option Expr} {clo chi : Oe} {p2 : Pos} (hK : X.K = G.K) (ha : PE X a (rE G cf ca)) (hl : PO X lo (rO G cf clo)) (hh : PO X hi (rO G cf chi)) : PE X (.Subscript a (.Slice lo hi none p2) pos) (rE G cf (.sl bx ca clo chi)) := by
  refine PE.imp (pe_slice sl_all ha hl hh) fun σ H Q h => ?_
  obtain ⟨φ, s, r, A, d, s', he, p⟩ := h
  simp only [ev] at he
  obtain ⟨x, s1, e1, he⟩ := bnd_inv he
  obtain ⟨l, s2, e2, he⟩ := bnd_inv he
  obtain ⟨u, s3, e3, he⟩ := bnd_inv he
  refine rd_step A e1 fun φ1 H1 v g1 A1 rv => ?_
  refine rd_step A1 e2 fun φ2 H2 l' g2 A2 rl => ?_
  refine rd_step A2 e3 fun φ3 H3 u' g3 A3 ru => ?_
  subst rl ru
  have he' : slD s3 bx x l u = some (.ok d, s') := by
    unfold slD
    exact he
  exact sl_ok (A3.hr.k.trans hK.symm) A3.hr (Rep.mono g3 x (Rep.mono g2 x rv)) he' (Post.from ((g1.trans g2).trans g3) p)
theorem c_frz (ha : PE X a (rE G cf ca)) : PE X a (rE G cf (.frz ca)) := by
  refine PE.imp ha fun σ H Q h => ?_
  obtain ⟨φ, s, r, A, d, s', he, p⟩ := h
  simp only [ev] at he
  obtain ⟨x, s1, e1, he⟩ := bnd_inv he
  refine rd_step A e1 fun φ1 H1 v g1 A1 rv => ?_
  unfold frzD at he
  split at he
  · rename_i n
    split at he
    · rename_i xs hn
      cases he
      obtain ⟨q, vs, rfl, hq, h1, h2⟩ := box_at A1.hr rv hn
      have g : Gr φ1 s1 H1 φ1 (s1.kill n) H1 := Gr.kill n
      refine p φ1 H1 _ (g1.trans g) (A1.hr.kill n) ?_
      simp only [Rep]
      refine ⟨q, vs, rfl, h1, ⟨A1.hr.np n q hq, fun m hm => ?_⟩, RepL.mono g xs h2⟩
      have := A1.hr.inj m n q hm hq
      subst this
      show (if m = m then none else s1.m m) = none
      rw [if_pos rfl]
    · cases he
  · cases he
    exact p φ1 H1 v g1 A1.hr rv
  · cases he
theorem c_one {op : BoolOp} (ha : PE X a (rE G cf ca)) : PE X (.BoolOp op [a] pos) (rE G cf ca) := pe_one ha
theorem c_andL (ha : PE X a (rE G cf ca)) {t : Es} (hb : PE X (.BoolOp .And (b :: es) pos) (rd G (evAnd cf (.cons cb t)) Rep)) : PE X (.BoolOp .And (a :: b :: es) pos) (rd G (evAnd cf (.cons ca (.cons cb t))) Rep) := by
  refine PE.imp (pe_and ha hb) fun σ H Q h => ?_
  obtain ⟨φ, s, r, A, d, s', he, p⟩ := h
  simp only [evAnd] at he
  obtain ⟨x, s1, e1, he⟩ := bnd_inv he
  refine rd_step A e1 fun φ1 H1 v g1 A1 rv => ?_
  split at he
  · simp only [Rep] at rv
    refine ⟨true, rv, ?_⟩
    rw [if_pos rfl]
    exact ⟨φ1, s1, r, A1, d, s', by simpa only [evAnd] using he, fun φ' H' w g h q => p φ' H' w (g1.trans g) h q⟩
  · cases he
    simp only [Rep] at rv
    refine ⟨false, rv, ?_⟩
    rw [if_neg Bool.false_ne_true]
    exact p φ1 H1 _ g1 A1.hr (by simp only [Rep])
  · cases he
theorem c_orL (ha : PE X a (rE G cf ca)) {t : Es} (hb : PE X (.BoolOp .Or (b :: es) pos) (rd G (evOr cf (.cons cb t)) Rep)) : PE X (.BoolOp .Or (a :: b :: es) pos) (rd G (evOr cf (.cons ca (.cons cb t))) Rep) := by
  refine PE.imp (pe_or ha hb) fun σ H Q h => ?_
  obtain ⟨φ, s, r, A, d, s', he, p⟩ := h
  simp only [evOr] at he
  obtain ⟨x, s1, e1, he⟩ := bnd_inv he
  refine rd_step A e1 fun φ1 H1 v g1 A1 rv => ?_
  split at he
  · cases he
    simp only [Rep] at rv
    refine ⟨true, rv, ?_⟩
    rw [if_pos rfl]
    exact p φ1 H1 _ g1 A1.hr (by simp only [Rep])
  · simp only [Rep] at rv
    refine ⟨false, rv, ?_⟩
    rw [if_neg Bool.false_ne_true]
    exact ⟨φ1, s1, r, A1, d, s', by simpa only [evOr] using he, fun φ' H' w g h q => p φ' H' w (g1.trans g) h q⟩
  · cases he
/-- a list of ands as a test -/
noncomputable def tstL (f : Sl → S → R D) : Sl → S → R Bool := fun r s => bnd (f r s) fun x s => lft (truth s x) s
noncomputable abbrev rTL (G : Glob) (f : Sl → S → R D) : TT := rd G (tstL f) (fun _ _ _ a b => a = b)
theorem tst_of {φ : Mp} {s s1 : S} {r : Sl} {k : Bool} {f : Sl → S → R D} {x : D} (e : f r s = some (.ok x, s1)) (hk : truth s1 x = some k) : tstL f r s = some (.ok k, s1) := by
  unfold tstL
  rw [e]
  show lft (truth s1 x) s1 = _
  rw [hk]
  rfl
theorem w_and1 (ha : PT X a (rT G cf ca)) : PW X (.BoolOp .And [a] pos) (rTL G (evAnd cf (.cons ca .nil))) := by
  refine PW.imp (pw_and1 ha) fun σ H Q h => ?_
  obtain ⟨φ, s, r, A, k, s', he, p⟩ := h
  exact ⟨φ, s, r, A, k, s', by unfold tstL at he; simp only [evAnd] at he; exact he, p⟩
theorem w_or1 (ha : PT X a (rT G cf ca)) : PW X (.BoolOp .Or [a] pos) (rTL G (evOr cf (.cons ca .nil))) := by
  refine PW.imp (pw_or1 ha) fun σ H Q h => ?_
  obtain ⟨φ, s, r, A, k, s', he, p⟩ := h
  exact ⟨φ, s, r, A, k, s', by unfold tstL at he; simp only [evOr] at he; exact he, p⟩
theorem w_and (ha : PT X a (rT G cf ca)) {t : Es} (hb : PW X (.BoolOp .And (b :: es) pos) (rTL G (evAnd cf (.cons cb t)))) : PW X (.BoolOp .And (a :: b :: es) pos) (rTL G (evAnd cf (.cons ca (.cons cb t)))) := by
  refine PW.imp (pw_and ha hb) fun σ H Q h => ?_
  obtain ⟨φ, s, r, A, k, s', he, p⟩ := h
  unfold tstL at he
  simp only [evAnd] at he
  obtain ⟨y, s2, e1, he⟩ := bnd_inv he
  obtain ⟨x, s1, e0, e1⟩ := bnd_inv e1
  obtain ⟨e2, rfl⟩ := lft_inv he
  split at e1
  · refine rd_step A (tst_of (φ := φ) e0 rfl) fun φ1 H1 v g1 A1 rv => ?_
    subst rv
    rw [if_pos rfl]
    exact ⟨φ1, s1, r, A1, k, s', tst_of (φ := φ) (by simpa only [evAnd] using e1) e2, fun φ' H' w g h q => p φ' H' w (g1.trans g) h q⟩
  · cases e1
    refine rd_step A (tst_of (φ := φ) e0 rfl) fun φ1 H1 v g1 A1 rv => ?_
    subst rv
    rw [if_neg Bool.false_ne_true]
    cases (show some false = some k from e2)
    exact p φ1 H1 _ g1 A1.hr rfl
  · cases e1
theorem w_or (ha : PT X a (rT G cf ca)) {t : Es} (hb : PW X (.BoolOp .Or (b :: es) pos) (rTL G (evOr cf (.cons cb t)))) : PW X (.BoolOp .Or (a :: b :: es) pos) (rTL G (evOr cf (.cons ca (.cons cb t)))) := by
  refine PW.imp (pw_or ha hb) fun σ H Q h => ?_
  obtain ⟨φ, s, r, A, k, s', he, p⟩ := h
  unfold tstL at he
  simp only [evOr] at he
  obtain ⟨y, s2, e1, he⟩ := bnd_inv he
  obtain ⟨x, s1, e0, e1⟩ := bnd_inv e1
  obtain ⟨e2, rfl⟩ := lft_inv he
  split at e1
  · cases e1
    refine rd_step A (tst_of (φ := φ) e0 rfl) fun φ1 H1 v g1 A1 rv => ?_
    subst rv
    rw [if_pos rfl]
    cases (show some true = some k from e2)
    exact p φ1 H1 _ g1 A1.hr rfl
  · refine rd_step A (tst_of (φ := φ) e0 rfl) fun φ1 H1 v g1 A1 rv => ?_
    subst rv
    rw [if_neg Bool.false_ne_true]
    exact ⟨φ1, s1, r, A1, k, s', tst_of (φ := φ) (by simpa only [evOr] using e1) e2, fun φ' H' w g h q => p φ' H' w (g1.trans g) h q⟩
  · cases e1
/-- a def's promise by a function of data and store -/
noncomputable def spF (G : Glob) (f : List D → S → R D) (n : Nat) : Sp := fun vs H Q _ => vs.length = n ∧ ∃ φ s ds, HR G φ s H ∧ RepL φ s H ds vs ∧ ∃ d s', f ds s = some (.ok d, s') ∧ Post G φ s H s' d Q
theorem spF_of {φ : Mp} {s s' : S} {H : Hp} {ds : List D} {vs : List V} {d : D} {Q : VK} {E : XK} {f : List D → S → R D} {n : Nat} (h : HR G φ s H) (r : RepL φ s H ds vs) (hn : ds.length = n) (e : f ds s = some (.ok d, s')) (p : Post G φ s H s' d Q) : spF G f n vs H Q E :=
  ⟨by rw [r.length]; exact hn, φ, s, ds, h, r, d, s', e, p⟩
/-- the def f stands, and keeps its promise -/
structure FnAt (G : Glob) (X : Cx) (x : Str) (f : List D → S → R D) (n : Nat) : Prop where
  at_ : ∃ (a : Addr) (fd : FuncData) (ps : List Str) (j : Nat), X.mg x = some (.ref a) ∧ PySem.W.keepIn X.K (.ref a) = true ∧ Binds X.K fd ps [] ∧ RmG j X.A ∧ ps.length = n ∧ FnG X.prog X.w X.K X.mg X.base CX0 j a fd ps (spF G f n)
  len : ∀ ds s d s', f ds s = some (.ok d, s') → ds.length = n
theorem c_call {x : Str} {p : Pos} {f : String} {n : Nat} (F : FnAt G X x (cf "" f) n) (hg : Gl X x) (ha : PA X (e :: es) (rA G cf ces)) (hdb : (x == ("__debug__" : Str)) = false) (he : starEach (e :: es) X.env = (false, eval e X.env) :: starEach es X.env)
    (hpl : (backTo pos (starEach es X.env)).any (·.1) = false) : PE X (.Call (.Name x p) (e :: es) [] pos) (rE G cf (.call f ces)) := by
  obtain ⟨⟨a, fd, ps, j, hm, hk, hb, hr, hn, ok⟩, hl⟩ := F
  refine PE.imp (pg_call (ok.runs (E := fun _ => E0) hr hb (fun _ => passAt0)) hg hm hk ha hdb he hpl) fun σ H Q h => ?_
  obtain ⟨φ, s, r, A, d, s', he, p⟩ := h
  simp only [ev] at he
  obtain ⟨xs, s1, e1, he⟩ := bnd_inv he
  refine rd_step A e1 fun φ1 H1 vs g1 A1 rs => ?_
  exact spF_of A1.hr rs (hl _ _ _ _ he) he (Post.from g1 p)
theorem c_call0 {x : Str} {p : Pos} {f : String} {n : Nat} (F : FnAt G X x (cf "" f) n) (hg : Gl X x) (hdb : (x == ("__debug__" : Str)) = false) : PE X (.Call (.Name x p) [] [] pos) (rE G cf (.call f .nil)) := by
  obtain ⟨⟨a, fd, ps, j, hm, hk, hb, hr, hn, ok⟩, hl⟩ := F
  refine PE.imp (pg_call0 (ok.runs (E := fun _ => E0) hr hb (fun _ => passAt0)) hg hm hk hdb) fun σ H Q h => ?_
  obtain ⟨φ, s, r, A, d, s', he, p⟩ := h
  simp only [ev, evs] at he
  obtain ⟨xs, s1, e1, he⟩ := bnd_inv he
  cases e1
  show spF G _ n [] H Q E0
  exact spF_of A.hr RepL.nil (hl _ _ _ _ he) he p
/-- a built-in by its name -/
theorem c_bi {x : Str} {p : Pos} {id : String} {bi : Bi} {rr : List V → Hp → VK → Prop} (hc : CallR X (.builtin id) rr) (hg : Gl X x) (hm : X.mg x = none) (hv : bootBuiltins x = some (.builtin id)) (ha : PA X (e :: es) (rA G cf ces)) (hn : x ≠ "__name__") (hdb : (x == ("__debug__" : Str)) = false)
    (he : starEach (e :: es) X.env = (false, eval e X.env) :: starEach es X.env) (hpl : (backTo pos (starEach es X.env)).any (·.1) = false)
    (ok : ∀ {φ : Mp} {s s' : S} {H : Hp} {ds : List D} {vs : List V} {d : D} {Q : VK}, HR G φ s H → RepL φ s H ds vs → biD s bi ds = some (.ok d, s') → Post G φ s H s' d Q → rr vs H Q) : PE X (.Call (.Name x p) (e :: es) [] pos) (rE G cf (.bi bi ces)) := by
  refine PE.imp (pe_callB hc hg hm hv ha hn hdb he hpl) fun σ H Q h => ?_
  obtain ⟨φ, s, r, A, d, s', he, p⟩ := h
  simp only [ev] at he
  obtain ⟨xs, s1, e1, he⟩ := bnd_inv he
  refine rd_step A e1 fun φ1 H1 vs g1 A1 rs => ?_
  exact ok A1.hr rs he (Post.from g1 p)
theorem c_ty {x : Str} {p : Pos} {T : String} {bi : Bi} {rr : List V → Hp → VK → Prop} (hc : CallR X (.type T) rr) (hg : Gl X x) (hm : X.mg x = none) (hv : bootBuiltins x = some (.type T)) (ha : PA X (e :: es) (rA G cf ces)) (hn : x ≠ "__name__") (hdb : (x == ("__debug__" : Str)) = false)
    (he : starEach (e :: es) X.env = (false, eval e X.env) :: starEach es X.env) (hpl : (backTo pos (starEach es X.env)).any (·.1) = false)
    (ok : ∀ {φ : Mp} {s s' : S} {H : Hp} {ds : List D} {vs : List V} {d : D} {Q : VK}, HR G φ s H → RepL φ s H ds vs → biD s bi ds = some (.ok d, s') → Post G φ s H s' d Q → rr vs H Q) : PE X (.Call (.Name x p) (e :: es) [] pos) (rE G cf (.bi bi ces)) := by
  refine PE.imp (pe_callTy hc hg hm hv ha hn hdb he hpl) fun σ H Q h => ?_
  obtain ⟨φ, s, r, A, d, s', he, p⟩ := h
  simp only [ev] at he
  obtain ⟨xs, s1, e1, he⟩ := bnd_inv he
  refine rd_step A e1 fun φ1 H1 vs g1 A1 rs => ?_
  exact ok A1.hr rs he (Post.from g1 p)
/-- isinstance(a, T) -/
theorem c_isi {p p2 : Pos} {t : Ty} {y : Str} (hK : X.K = G.K) (hg : Gl X "isinstance") (hm : X.mg "isinstance" = none) (ha : PE X a (rE G cf ca)) (hb : PE X b (tC (.ty (tyS t)))) (ns : starEach [a, b] X.env = (false, eval a X.env) :: starEach [b] X.env) (ns2 : starEach [b] X.env = (false, eval b X.env) :: starEach [] X.env)
    (hpl : (backTo pos (starEach [b] X.env)).any (·.1) = false) : PE X (.Call (.Name "isinstance" p) [a, b] [] pos) (rE G cf (.isi ca t)) := by
  refine PE.imp (pe_callB call_isi hg hm PyProof.Rows.boot_isinstance (pa_cons ha (pa_cons hb pa_nil ns2) ns) (by decide) (by decide) ns hpl) fun σ H Q h => ?_
  obtain ⟨φ, s, r, A, d, s', he, p⟩ := h
  simp only [ev] at he
  obtain ⟨x, s1, e1, he⟩ := bnd_inv he
  obtain ⟨e2, rfl⟩ := lft_inv he
  refine rd_step A e1 fun φ1 H1 v g1 A1 rv => ?_
  cases hk : isiD s' x t with
  | none =>
    rw [hk] at e2
    cases e2
  | some k =>
    rw [hk] at e2
    cases e2
    exact isi_ok (A1.hr.k.trans hK.symm) A1.hr rv hk (Post.here A1.hr (Post.from g1 p) (by simp only [Rep]))
/-- list(range(n)) -/
theorem c_lrng {bx : Bool} {p p2 pos2 : Pos} (hc : X.calm = true) (hgl : Gl X "list") (hml : X.mg "list" = none) (hgr : Gl X "range") (hmr : X.mg "range" = none) (ha : PE X a (rE G cf ca)) (na : starEach [a] X.env = (false, eval a X.env) :: starEach [] X.env) :
    PE X (.Call (.Name "list" p) [.Call (.Name "range" p2) [a] [] pos2] [] pos) (rE G cf (.lrng bx ca)) := by
  refine PE.imp (pe_listRg hc hgl hml (prg_1 hgr hmr ha na)) fun σ H Q h => ?_
  obtain ⟨φ, s, r, A, d, s', he, p⟩ := h
  simp only [ev] at he
  obtain ⟨x, s1, e1, he⟩ := bnd_inv he
  have he' : lrngD s1 bx [x] = some (.ok d, s') := he
  unfold lrngD at he'
  refine rd_step A e1 fun φ1 H1 v g1 A1 rv => ?_
  split at he'
  · rename_i n hx
    cases hx
    split at he'
    · rename_i hz
      simp only [Rep] at rv
      refine ⟨n, rv, ⟨by omega, by omega, by omega, by omega, by omega⟩, Post.lst A1.hr he' (Post.from g1 p) ?_⟩
      unfold rngL rgV
      have h0 : (n - 0).toNat = n.toNat := by omega
      rw [h0]
      have go : ∀ l : List Nat, RepL φ1 s1 H1 (l.map fun i => D.int (i : Nat)) (l.map fun i => V.int (0 + (i : Nat))) := fun l => by
        induction l with
        | nil => exact RepL.nil
        | cons i l ih =>
          rw [List.map_cons, List.map_cons]
          simp only [RepL]
          refine ⟨_, _, rfl, ?_, ih⟩
          simp only [Rep]
          rw [Int.zero_add]
      exact go _
    · cases he'
  · cases he'
/-- a built-in type's method -/
theorem c_met {T id : String} {name : Str} {apos cpos : Pos} {m : Mt} {rr : V → List V → Hp → VK → Prop} (pa : PlainAttrs T) (slot : Slot T name id) (hty : typeOf (.builtin id) = pure (.type "method_descriptor")) (hm : MtR X id rr) (ho : PE X a (rE G cf ca)) (ha : PA X (e :: es) (rA G cf ces))
    (hbase : attributeBase a name X.env (eval a X.env) = eval a X.env)
    (hfew : ((backTo cpos (starEach (e :: es) X.env)).all (fun x => !x.1) && (backToKw cpos (keywordEach [] X.env)).all (fun x => x.1.isSome)
      && decide ((e :: es).length + ([] : List Keyword).length + (if ([] : List Keyword).isEmpty then 0 else 1) < 30)) = true)
    (hline : (apos.endLine == cpos.line) = true) (hs : starEach (e :: es) X.env = (false, eval e X.env) :: starEach es X.env) (hplain : (backTo cpos (starEach es X.env)).any (·.1) = false)
    (ty : ∀ {φ : Mp} {s : S} {H : Hp} {x : D} {v : V}, HR G φ s H → Rep φ s H x v → mtOk s m x = true → tyV X.K T v H)
    (ok : ∀ {φ : Mp} {s s' : S} {H : Hp} {x : D} {ds : List D} {v : V} {vs : List V} {d : D} {Q : VK}, HR G φ s H → Rep φ s H x v → RepL φ s H ds vs → metD s m x ds = some (.ok d, s') → Post G φ s H s' d Q → rr v vs H Q) :
    PE X (.Call (.Attribute a name apos) (e :: es) [] cpos) (rE G cf (.met m ca ces)) := by
  refine PE.imp (pe_bm pa slot hty hm ho ha hbase hfew hline hs hplain) fun σ H Q h => ?_
  obtain ⟨φ, s, r, A, d, s', he, p⟩ := h
  simp only [ev] at he
  obtain ⟨x, s1, e1, he⟩ := bnd_inv he
  refine rd_step A e1 fun φ1 H1 v g1 A1 rv => ?_
  split at he
  · rename_i hk
    obtain ⟨xs, s2, e2, he⟩ := bnd_inv he
    refine ⟨ty A1.hr rv hk, ?_⟩
    refine rd_step A1 e2 fun φ2 H2 vs g2 A2 rs => ?_
    exact ok A2.hr (Rep.mono g2 x rv) rs he (Post.from (g1.trans g2) p)
  · cases he
theorem c_met0 {T id : String} {name : Str} {apos cpos : Pos} {m : Mt} {rr : V → List V → Hp → VK → Prop} (pa : PlainAttrs T) (slot : Slot T name id) (hty : typeOf (.builtin id) = pure (.type "method_descriptor")) (hm : MtR X id rr) (ho : PE X a (rE G cf ca))
    (hbase : attributeBase a name X.env (eval a X.env) = eval a X.env) (hline : (apos.endLine == cpos.line) = true)
    (ty : ∀ {φ : Mp} {s : S} {H : Hp} {x : D} {v : V}, HR G φ s H → Rep φ s H x v → mtOk s m x = true → tyV X.K T v H)
    (ok : ∀ {φ : Mp} {s s' : S} {H : Hp} {x : D} {ds : List D} {v : V} {vs : List V} {d : D} {Q : VK}, HR G φ s H → Rep φ s H x v → RepL φ s H ds vs → metD s m x ds = some (.ok d, s') → Post G φ s H s' d Q → rr v vs H Q) :
    PE X (.Call (.Attribute a name apos) [] [] cpos) (rE G cf (.met m ca .nil)) := by
  refine PE.imp (pe_bm0 pa slot hty hm ho hbase hline) fun σ H Q h => ?_
  obtain ⟨φ, s, r, A, d, s', he, p⟩ := h
  simp only [ev] at he
  obtain ⟨x, s1, e1, he⟩ := bnd_inv he
  refine rd_step A e1 fun φ1 H1 v g1 A1 rv => ?_
  split at he
  · rename_i hk
    simp only [evs] at he
    obtain ⟨xs, s2, e2, he⟩ := bnd_inv he
    cases e2
    exact ⟨ty A1.hr rv hk, ok A1.hr rv RepL.nil he (Post.from g1 p)⟩
  · cases he
theorem ty_list {φ : Mp} {s : S} {H : Hp} {x : D} {v : V} {K : PySem.W.Frag} (hkk : φ.K = K) (h : HR G φ s H) (r : Rep φ s H x v) (e : (lcont s x).isSome = true) : tyV K "list" v H := by
  obtain ⟨xs, hx⟩ := Option.isSome_iff_exists.mp e
  obtain ⟨p, vs, rfl, h1, _⟩ := r.lcont h hx
  exact .inl ⟨rfl, vs, by rw [← hkk]; exact h1⟩
theorem ty_strU {φ : Mp} {s : S} {H : Hp} {x : D} {v : V} {K : PySem.W.Frag} (r : Rep φ s H x v) (e : mtOk s .upper x = true) : tyV K "str" v H := by
  cases x with
  | str y =>
    simp only [Rep] at r
    subst r
    exact rfl
  | _ => cases e
theorem ty_str {φ : Mp} {s : S} {H : Hp} {x : D} {v : V} {K : PySem.W.Frag} (r : Rep φ s H x v) (e : mtOk s .join x = true) : tyV K "str" v H := by
  cases x with
  | str y =>
    simp only [Rep] at r
    subst r
    exact rfl
  | _ => cases e
/-- the method m of the class at C -/
structure MtAt (G : Glob) (X : Cx) (C : Addr) (m : Str) (f : List D → S → R D) (n : Nat) : Prop where
  at_ : ∃ (a : Addr) (fd : FuncData) (ps : List Str) (j : Nat), Meth X.K C m a ∧ Binds X.K fd ps [] ∧ RmG j X.A ∧ ps.length = n ∧ FnG X.prog X.w X.K X.mg X.base CX0 j a fd ps (spF G f n)
  len : ∀ ds s d s', f ds s = some (.ok d, s') → ds.length = n
/-- the class x is made -/
structure MkAt (G : Glob) (X : Cx) (x : Str) (C : Addr) (f : List D → S → R D) (n : Nat) : Prop where
  at_ : ∃ (a : Addr) (fd : FuncData) (ps : List Str) (j : Nat), Mk X.K C a ∧ X.mg x = some (.ref C) ∧ Binds X.K fd ps [] ∧ RmG (j + 1) X.A ∧ ps.length = n ∧ FnG X.prog X.w X.K X.mg X.base CX0 j a fd ps (spF G f n)
  len : ∀ ds s d s', f ds s = some (.ok d, s') → ds.length = n
/-- a new object -/
theorem HR.made {φ : Mp} {s : S} {H : Hp} (h : HR G φ s H) {c : String} {C x dx : Addr} (hC : G.cls c = some C) (hx : H x = none) (hd : H dx = none) (hne : dx ≠ x) :
    Gr φ s H (bx φ s.nx x) (s.new (.ins c [])) (upd (upd H dx (.own x)) x (.ins C dx [])) ∧ HR G (bx φ s.nx x) (s.new (.ins c [])) (upd (upd H dx (.own x)) x (.ins C dx [])) := by
  have h1 : HR G φ s (upd H dx (.own x)) := h.free hd
  have hx1 : (upd H dx (.own x)) x = none := by rw [upd_ne hne.symm]; exact hx
  exact ⟨(Gr.free h hd).trans (Gr.box h1 hx1), h1.box hx1 ⟨C, dx, [], upd_same, hC, rfl⟩⟩
end
end Fl
namespace Fl
open PySem L2
noncomputable def gsOf : List Nat → TGs
  | [] => gNil
  | i :: is => gCons (gName i) (gsOf is)
/-- a target that takes this or that -/
noncomputable def gEi (a b : TG) : TG := fun v σ H Q => a v σ H Q ∨ b v σ H Q
theorem pg_ei {X : Cx} {t : Expr} {a b : TG} (h : PG X t a) (g : PG X t b) : PG X t (gEi a b) :=
  ⟨fun pins s σ H v u Q I r q => q.elim (h.run pins s σ H v u Q I r) (g.run pins s σ H v u Q I r)⟩
noncomputable def gOf (K : PySem.W.Frag) : Tg → TG
  | .nm i => gName i
  | .tp is => gEi (gTup K is.length (gsOf is)) (gLst K is.length (gsOf is))
  | .nt i is => gTup K 2 (gCons (gName i) (gCons (gTup K is.length (gsOf is)) gNil))
noncomputable def slots : Tg → List Nat
  | .nm i => [i]
  | .tp is => is
  | .nt i is => i :: is
section
variable {G : Glob} {φ : Mp} {s : S} {H : Hp} {K : PySem.W.Frag}
theorem gs_ok : ∀ {is : List Nat} {ds : List D} {vs : List V} {r r' : Sl} {σ : L2.St} {Q : L2.St → Hp → Prop}, RepL φ s H ds vs → setAll is ds r = some r' → SR φ s H r σ →
    (∀ σ', SR φ s H r' σ' → σ'.length = σ.length → (∀ k, k ∉ is → σ'[k]? = σ[k]?) → Q σ' H) → gsOf is vs σ H Q
  | [], [], vs, r, r', σ, Q, l, e, sr, q => by
    simp only [RepL] at l
    cases e
    exact ⟨l, q σ sr rfl fun _ _ => rfl⟩
  | [], d :: ds, vs, r, r', σ, Q, l, e, sr, q => by cases e
  | i :: is, [], vs, r, r', σ, Q, l, e, sr, q => by cases e
  | i :: is, d :: ds, vs, r, r', σ, Q, l, e, sr, q => by
    simp only [RepL] at l
    obtain ⟨v, w, rfl, r1, r2⟩ := l
    refine ⟨v, w, rfl, ?_⟩
    refine gs_ok r2 (show setAll is ds (r.set i (some d)) = some r' from e) (sr.set i r1) fun σ' sr' hl hk => ?_
    refine q σ' sr' (by rw [hl, List.length_set]) fun k hn => ?_
    rw [List.mem_cons, not_or] at hn
    rw [hk k hn.2, List.getElem?_set_ne (fun z => hn.1 z.symm)]
theorem setAll_len : ∀ {is : List Nat} {ds : List D} {r r' : Sl}, setAll is ds r = some r' → ds.length = is.length
  | [], [], r, r', e => rfl
  | [], d :: ds, r, r', e => by cases e
  | i :: is, [], r, r', e => by cases e
  | i :: is, d :: ds, r, r', e => by
    have := setAll_len (show setAll is ds (r.set i (some d)) = some r' from e)
    simp [this]
theorem tg_ok {tg : Tg} {d : D} {v : V} {r r' : Sl} {σ : L2.St} {Q : L2.St → Hp → Prop} (rv : Rep φ s H d v) (e : tgSet s tg d r = some r') (sr : SR φ s H r σ)
    (q : ∀ σ', SR φ s H r' σ' → σ'.length = σ.length → (∀ k, k ∉ slots tg → σ'[k]? = σ[k]?) → Q σ' H) : gOf K tg v σ H Q := by
  cases tg with
  | nm i =>
    cases (show some (r.set i (some d)) = some r' from e)
    refine q _ (sr.set i rv) (by rw [List.length_set]) fun k hn => ?_
    rw [slots, List.mem_singleton] at hn
    rw [List.getElem?_set_ne (fun z => hn z.symm)]
  | tp is =>
    cases d with
    | tup ds =>
      simp only [Rep] at rv
      obtain ⟨a, vs, rfl, h1, _, l⟩ := rv
      have e' : setAll is ds r = some r' := e
      exact .inl ⟨a, vs, rfl, SqT.of h1, by rw [l.length]; exact setAll_len e', gs_ok l e' sr q⟩
    | lst ds =>
      simp only [Rep] at rv
      obtain ⟨a, vs, rfl, h1, _, l⟩ := rv
      have e' : setAll is ds r = some r' := e
      exact .inr ⟨a, vs, rfl, SqL.of h1, by rw [l.length]; exact setAll_len e', gs_ok l e' sr q⟩
    | _ => cases e
  | nt i is =>
    have go : ∃ d0 ds, d = .tup [d0, .tup ds] ∧ setAll is ds (r.set i (some d0)) = some r' := by
      obtain ⟨p, hp, e'⟩ := Option.bind_eq_some_iff.mp (show (ntD d).bind (fun p => setAll is p.2 (r.set i (some p.1))) = some r' from e)
      unfold ntD at hp
      split at hp
      · cases hp
        exact ⟨_, _, rfl, e'⟩
      · cases hp
    obtain ⟨d0, ds, rfl, e'⟩ := go
    simp only [Rep, RepL] at rv
    obtain ⟨a, vs, rfl, h1, _, v0, w0, rfl, r0, v1, w1, rfl, ⟨b, us, rfl, h2, _, l⟩, rfl⟩ := rv
    refine ⟨a, _, rfl, SqT.of h1, rfl, v0, _, rfl, .ref b, [], rfl, b, us, rfl, SqT.of h2, by rw [l.length]; exact setAll_len e', ?_⟩
    refine gs_ok l e' (sr.set i r0) fun σ' sr' hl hk => ⟨rfl, q σ' sr' (by rw [hl, List.length_set]) fun k hn => ?_⟩
    have hn' : k ≠ i ∧ k ∉ is := by
      rw [slots, List.mem_cons, not_or] at hn
      exact hn
    rw [hk k hn'.2, List.getElem?_set_ne (fun z => hn'.1 z.symm)]
end
theorem wipe_in {σ : L2.St} {i : Nat} : ∀ {vs : List Nat}, i ∈ vs → (wipe σ vs)[i]? = if i < σ.length then some none else none
  | [], h => by cases h
  | v :: vs, h => by
    unfold wipe
    by_cases hi : v = i
    · subst hi
      by_cases hl : v < σ.length
      · rw [List.getElem?_set_self (by rw [wipe_length]; exact hl), if_pos hl]
      · rw [if_neg hl]
        exact List.getElem?_eq_none (by rw [List.length_set, wipe_length]; omega)
    · rw [List.getElem?_set_ne hi]
      refine wipe_in ?_
      rcases List.mem_cons.mp h with z | z
      · exact absurd z.symm hi
      · exact z
theorem wipe_eq {σ σ' : L2.St} {vs : List Nat} (hl : σ'.length = σ.length) (h : ∀ k, k ∉ vs → σ'[k]? = σ[k]?) : wipe σ' vs = wipe σ vs := by
  refine List.ext_getElem? fun k => ?_
  by_cases hk : k ∈ vs
  · rw [wipe_in hk, wipe_in hk, hl]
  · rw [wipe_out hk, wipe_out hk]
    exact h k hk
theorem wipe_wipe {σ : L2.St} {vs : List Nat} : wipe (wipe σ vs) vs = wipe σ vs := wipe_eq (wipe_length _ _) fun k hk => wipe_out hk
noncomputable def JOk (G : Glob) (φ1 : Mp) (s1 : S) (H1 : Hp) (iv : Iv) (J : L2.It) : Prop := ∀ φ s H, Gr φ1 s1 H1 φ s H → HR G φ s H → ∀ n i, ivLen s iv = some n →
  (i < n → ∀ x, ivGet s i iv = some x → J.go i H ∧ ∀ v H', J.yld i H v H' → Gr φ s H φ s H' ∧ HR G φ s H' ∧ Rep φ s H' x v) ∧ (n ≤ i → J.stop i H)
noncomputable abbrev rI (G : Glob) (cf : CF) (it : It) : TI := rd G (evI cf it) (JOk G)
theorem PI.imp {X : Cx} {tg e : Expr} {t t' : TI} (h : PI X tg e t) (k : ∀ σ H Q, t' σ H Q → t σ H Q) : PI X tg e t' := ⟨fun pins s σ H Q I q => h.run pins s σ H Q I (k σ H Q q)⟩
section
variable {G : Glob} {cf : CF} {X : Cx} {tg e a b : Expr} {ca cb : E} {pos : Pos}
theorem seq_lc {s s1 : S} {d : D} {n : Nat} {xs : List D} (h : lcont s1 d = some xs) (e : ivLen s (.seq d) = some n) : ∃ ys, lcont s d = some ys ∧ n = ys.length := by
  cases d with
  | lst ys => cases e; exact ⟨_, rfl, rfl⟩
  | scr ys => cases e; exact ⟨_, rfl, rfl⟩
  | ref m =>
    have e' : (lcont s (.ref m)).map (·.length) = some n := e
    cases hc : lcont s (.ref m) with
    | none =>
      rw [hc] at e'
      cases e'
    | some ys =>
      rw [hc] at e'
      cases e'
      exact ⟨_, rfl, rfl⟩
  | _ => cases h
theorem seq_get {s : S} {d x : D} {i : Nat} {xs : List D} (h : lcont s d = some xs) (e : ivGet s i (.seq d) = some x) : xs[i]? = some x := by
  cases d with
  | lst ys => cases h; exact e
  | scr ys => cases h; exact e
  | ref m =>
    have e' : (cont s (.ref m)).bind (·[i]?) = some x := e
    rw [show cont s (.ref m) = lcont s (.ref m) from rfl, h] at e'
    exact e'
  | _ => cases h
theorem j_list (hK : X.K = G.K) {φ1 : Mp} {s1 : S} {H1 : Hp} {d : D} {p : Addr} {xs : List D} (hx : lcont s1 d = some xs) (r : Rep φ1 s1 H1 d (.ref p)) : JOk G φ1 s1 H1 (.seq d) (Itl X.K p) := by
  intro φ s H g h n i hn
  obtain ⟨ys, hy, rfl⟩ := seq_lc hx hn
  obtain ⟨q, vs, e, h1, l⟩ := (Rep.mono g d r).lcont h hy
  rw [h.k.trans hK.symm] at h1
  cases e
  refine ⟨fun hi x he => ?_, fun hi => ⟨vs, h1, by rw [l.length]; exact hi⟩⟩
  obtain ⟨v, hv, rv⟩ := l.get (seq_get hy he)
  refine ⟨⟨vs, v, h1, hv⟩, fun w H' y => ?_⟩
  obtain ⟨rfl, y⟩ := y
  have := y vs h1
  rw [hv] at this
  cases this
  exact ⟨Gr.refl _ _ _, h, rv⟩
theorem i_seq (hK : X.K = G.K) (ha : PE X a (rE G cf ca)) : PI X tg a (rI G cf (.seq ca)) := by
  refine PI.imp (pi_list ha) fun σ H R h => ?_
  obtain ⟨φ, s, r, A, iv, s', he, p⟩ := h
  simp only [evI] at he
  obtain ⟨x, s1, e1, he⟩ := bnd_inv he
  refine rd_step A e1 fun φ1 H1 v g1 A1 rv => ?_
  split at he
  · rename_i xs hx
    cases he
    obtain ⟨q, vs, rfl, h1, l⟩ := rv.lcont A1.hr hx
    exact ⟨q, rfl, ⟨vs, by rw [← A1.hr.k.trans hK.symm]; exact h1⟩, p φ1 H1 _ g1 A1.hr (j_list hK hx rv)⟩
  · cases he
theorem i_tup (ha : PE X a (rE G cf ca)) : PI X tg a (rI G cf (.tup ca)) := by
  refine PI.imp (pi_tup ha) fun σ H R h => ?_
  obtain ⟨φ, s, r, A, iv, s', he, p⟩ := h
  simp only [evI] at he
  obtain ⟨x, s1, e1, he⟩ := bnd_inv he
  refine rd_step A e1 fun φ1 H1 v g1 A1 rv => ?_
  split at he
  · rename_i xs
    cases he
    have rv' := rv
    simp only [Rep] at rv'
    obtain ⟨q, vs, rfl, h1, dd, l⟩ := rv'
    refine ⟨q, rfl, ⟨vs, SqT.of h1⟩, p φ1 H1 _ g1 A1.hr ?_⟩
    intro φ2 s2 H2 g h n i hn
    have rv2 := Rep.mono g _ rv
    simp only [Rep] at rv2
    obtain ⟨q', vs', e', h1', _, l'⟩ := rv2
    cases e'
    cases (show some xs.length = some n from hn)
    refine ⟨fun hi x he => ?_, fun hi => ⟨vs', SqT.of h1', by rw [l'.length]; exact hi⟩⟩
    obtain ⟨v, hv, rv⟩ := l'.get (show xs[i]? = some x from he)
    refine ⟨⟨vs', v, SqT.of h1', hv⟩, fun w H' y => ?_⟩
    obtain ⟨rfl, y⟩ := y
    have := y vs' (SqT.of h1')
    rw [hv] at this
    cases this
    exact ⟨Gr.refl _ _ _, h, rv⟩
  · cases he
theorem i_any (hK : X.K = G.K) (ha : PE X a (rE G cf ca)) : PI X tg a (rI G cf (.any ca)) := by
  refine ⟨fun pins s σ H Q I q => ?_⟩
  obtain ⟨φ, s0, r, A, iv, s', he, p⟩ := q
  have key : evI cf (.tup ca) r s0 = some (.ok iv, s') ∨ evI cf (.seq ca) r s0 = some (.ok iv, s') := by
    simp only [evI] at he ⊢
    obtain ⟨x, s1, e1, he⟩ := bnd_inv he
    rw [e1]
    cases x with
    | tup xs => exact .inl he
    | _ => exact .inr he
  rcases key with h | h
  · exact (i_tup ha).run pins s σ H Q I ⟨φ, s0, r, A, iv, s', h, p⟩
  · exact (i_seq hK ha).run pins s σ H Q I ⟨φ, s0, r, A, iv, s', h, p⟩
theorem i_str (ha : PE X a (rE G cf ca)) : PI X tg a (rI G cf (.str ca)) := by
  refine PI.imp (pi_str ha) fun σ H R h => ?_
  obtain ⟨φ, s, r, A, iv, s', he, p⟩ := h
  simp only [evI] at he
  obtain ⟨x, s1, e1, he⟩ := bnd_inv he
  refine rd_step A e1 fun φ1 H1 v g1 A1 rv => ?_
  split at he
  · rename_i xs
    cases he
    simp only [Rep] at rv
    refine ⟨_, rv, p φ1 H1 _ g1 A1.hr ?_⟩
    intro φ2 s2 H2 g h n i hn
    cases (show some xs.length = some n from hn)
    refine ⟨fun hi x he => ⟨by show i < xs.toArray.size; simpa using hi, fun w H' y => ?_⟩, fun hi => by show xs.toArray.size ≤ i; simpa using hi⟩
    obtain ⟨rfl, c, hc, rfl⟩ := y
    refine ⟨Gr.refl _ _ _, h, ?_⟩
    have he' : (xs[i]?).map (fun c => D.str [c]) = some x := he
    have hc' : xs[i]? = some c := by simpa using hc
    rw [hc'] at he'
    cases he'
    simp only [Rep]
    all_goals rfl
  · cases he
theorem j_rng {φ1 : Mp} {s1 : S} {H1 : Hp} {lo : Int} {n : Nat} : JOk G φ1 s1 H1 (.rng lo n) (Itr lo n) := by
  intro φ s H g h m i hn
  cases (show some n = some m from hn)
  refine ⟨fun hi x he => ⟨hi, fun w H' y => ?_⟩, fun hi => hi⟩
  obtain ⟨rfl, rfl⟩ := y
  cases (show some (D.int (lo + i)) = some x from he)
  exact ⟨Gr.refl _ _ _, h, by simp only [Rep]⟩
theorem i_rng {p : Pos} (hg : Gl X "range") (hm : X.mg "range" = none) (ha : PE X a (rE G cf ca)) (hs : starEach [a] X.env = [(false, eval a X.env)]) : PI X tg (.Call (.Name "range" p) [a] [] pos) (rI G cf (.rng ca)) := by
  refine PI.imp (pi_range1 hg hm (pa_cons ha pa_nil hs) hs) fun σ H R h => ?_
  obtain ⟨φ, s, r, A, iv, s', he, p⟩ := h
  simp only [evI] at he
  obtain ⟨x, s1, e1, he⟩ := bnd_inv he
  refine rd_step A e1 fun φ1 H1 v g1 A1 rv => ?_
  split at he
  · rename_i j
    split at he
    · rename_i hz
      cases he
      simp only [Rep] at rv
      exact ⟨j, by rw [rv], hz.2, hz.1, p φ1 H1 _ g1 A1.hr j_rng⟩
    · cases he
  · cases he
theorem i_rng2 {p : Pos} (hg : Gl X "range") (hm : X.mg "range" = none) (ha : PE X a (rE G cf ca)) (hb : PE X b (rE G cf cb)) (hs : starEach [a, b] X.env = [(false, eval a X.env), (false, eval b X.env)]) (hs2 : starEach [b] X.env = [(false, eval b X.env)]) :
    PI X tg (.Call (.Name "range" p) [a, b] [] pos) (rI G cf (.rng2 ca cb)) := by
  refine PI.imp (pi_range2 hg hm (pa_cons ha (pa_cons hb pa_nil hs2) (by rw [hs, hs2])) hs hs2) fun σ H R h => ?_
  obtain ⟨φ, s, r, A, iv, s', he, p⟩ := h
  simp only [evI] at he
  obtain ⟨x, s1, e1, he⟩ := bnd_inv he
  obtain ⟨y, s2, e2, he⟩ := bnd_inv he
  refine rd_step A e1 fun φ1 H1 v g1 A1 rv => ?_
  refine rd_step A1 e2 fun φ2 H2 w g2 A2 rw' => ?_
  split at he
  · rename_i i j _
    split at he
    · rename_i hz
      cases he
      simp only [Rep] at rv rw'
      exact ⟨i, j, by rw [rv, rw'], ⟨hz.2.1, hz.1, hz.2.2.2, hz.2.2.1⟩, p φ2 H2 _ (g1.trans g2) A2.hr j_rng⟩
    · cases he
  · cases he
theorem i_zip {p tpos : Pos} {elts : List Expr} {kk : Nat} (hK : X.K = G.K) (hg : Gl X "zip") (hm : X.mg "zip" = none) (ha : PE X a (rE G cf ca)) (hb : PE X b (rE G cf cb)) (hs : starEach [a, b] X.env = (false, eval a X.env) :: starEach [b] X.env) (hs2 : starEach [b] X.env = [(false, eval b X.env)])
    (hpl : (backTo pos (starEach [b] X.env)).any (·.1) = false) : PI X (.Tuple elts kk tpos) (.Call (.Name "zip" p) [a, b] [] pos) (rI G cf (.zip ca cb)) := by
  refine PI.imp (pi_zip hg hm (pa_cons ha (pa_cons hb pa_nil hs2) hs) hs hpl) fun σ H R h => ?_
  obtain ⟨φ, s, r, A, iv, s', he, p⟩ := h
  simp only [evI] at he
  obtain ⟨x, s1, e1, he⟩ := bnd_inv he
  obtain ⟨y, s2, e2, he⟩ := bnd_inv he
  refine rd_step A e1 fun φ1 H1 v g1 A1 rv => ?_
  refine rd_step A1 e2 fun φ2 H2 w g2 A2 rw' => ?_
  split at he
  · rename_i xs ys hx hy
    cases he
    have rv1 := Rep.mono g2 x rv
    obtain ⟨q, vs, rfl, h1, l⟩ := rv1.lcont A2.hr hx
    obtain ⟨q2, ws, rfl, h2, l2⟩ := rw'.lcont A2.hr hy
    rw [A2.hr.k.trans hK.symm] at h1 h2
    refine ⟨q, q2, vs, ws, rfl, h1, h2, p φ2 H2 _ (g1.trans g2) A2.hr ?_⟩
    intro φ3 s3 H3 g h n i hn
    have hn0 : (lcont s3 x).bind (fun xs => (lcont s3 y).map fun ys => min xs.length ys.length) = some n := hn
    cases hx3 : lcont s3 x with
    | none =>
      rw [hx3] at hn0
      cases hn0
    | some xs3 =>
      cases hy3 : lcont s3 y with
      | none =>
        rw [hx3, hy3] at hn0
        cases hn0
      | some ys3 =>
        rw [hx3, hy3] at hn0
        cases hn0
        obtain ⟨_, vs', e', h1', l'⟩ := (Rep.mono g x rv1).lcont h hx3
        cases e'
        obtain ⟨_, ws', e', h2', l2'⟩ := (Rep.mono g y rw').lcont h hy3
        cases e'
        rw [h.k.trans hK.symm] at h1' h2'
        refine ⟨fun hi z he => ?_, fun hi => ⟨vs', ws', h1', h2', by have hi2 : min xs3.length ys3.length ≤ i := hi; rw [l'.length, l2'.length]; omega⟩⟩
        have he' : (lcont s3 x).bind (fun xs => (lcont s3 y).bind fun ys => (xs[i]?).bind fun x => (ys[i]?).map fun y => D.tup [x, y]) = some z := he
        rw [hx3, hy3] at he'
        cases hi' : xs3[i]? with
        | none =>
          simp only [Option.bind_some, hi'] at he'
          cases he'
        | some u =>
          cases hj' : ys3[i]? with
          | none =>
            simp only [Option.bind_some, hi', hj'] at he'
            cases he'
          | some t =>
            simp only [Option.bind_some, hi', hj'] at he'
            cases he'
            obtain ⟨v, hv, rv'⟩ := l'.get hi'
            obtain ⟨w, hw, rw2⟩ := l2'.get hj'
            refine ⟨⟨vs', ws', v, w, h1', h2', hv, hw⟩, fun w0 H' y => ?_⟩
            obtain ⟨T, v2, w2, rfl, hT, rfl, hv2, hw2⟩ := y
            have e2 := hv2 vs' h1'
            rw [hv] at e2
            cases e2
            have e3 := hw2 ws' h2'
            rw [hw] at e3
            cases e3
            have g' : Gr φ3 s3 H3 φ3 s3 (upd H3 T (.tup [v, w])) := Gr.free h hT
            refine ⟨g', h.free hT, ?_⟩
            simp only [Rep, RepL]
            exact ⟨T, _, rfl, upd_same, h.fresh hT, _, _, rfl, Rep.mono g' u rv', _, _, rfl, Rep.mono g' t rw2, rfl⟩
  · cases he
end
/-- an address made private, public again -/
noncomputable def pvt (φ : Mp) (q : Addr) : Mp := ⟨φ.f, fun a => φ.pv a ∨ a = q, φ.K⟩
section
variable {G : Glob} {φ φ' : Mp} {s s' : S} {H H' : Hp}
theorem HR.pvt (h : HR G φ s H) {q : Addr} {o : HO} (hq : H q = none) (ht : ∀ vs, o ≠ .tup vs := by intro _ z; cases z) : HR G (pvt φ q) s (upd H q o) := by
  have nb : ∀ n a, φ n = some a → a ≠ q := fun n a e z => h.nofresh hq n (z ▸ e)
  have g : Gr φ s H (Fl.pvt φ q) s (upd H q o) := ⟨fun _ _ e => e, fun a u e d => ⟨by rw [upd_ne (ne_of_none e hq)]; exact e, fun z => z.elim d.1 (ne_of_none e hq), d.2⟩, fun a u e d => ⟨by rw [upd_ne (ne_of_none e hq)]; exact e, .inl d⟩, rfl⟩
  refine ⟨fun n u e => ?_, h.inj, fun n a e => ?_, fun a e => ?_, fun n a e z => ?_, h.k⟩
  · obtain ⟨a, ha, hb⟩ := h.ob n u e
    exact ⟨a, ha, hb.mono g (upd_ne (nb n a ha))⟩
  · obtain ⟨h1, o', ho⟩ := h.dom n a e
    exact ⟨h1, o', by rw [upd_ne (nb n a e)]; exact ho⟩
  · rcases e with e | e
    · obtain ⟨o', ho, ht'⟩ := h.pvd a e
      exact ⟨o', by rw [upd_ne (ne_of_none ho hq)]; exact ho, ht'⟩
    · exact ⟨o, by rw [e]; exact upd_same, ht⟩
  · rcases z with z | z
    · exact h.np n a e z
    · exact nb n a e z
theorem Gr.pvt (h : HR G φ s H) {q : Addr} {o : HO} (hq : H q = none) : Gr φ s H (pvt φ q) s (upd H q o) :=
  ⟨fun _ _ e => e, fun a u e d => ⟨by rw [upd_ne (ne_of_none e hq)]; exact e, fun z => z.elim d.1 (ne_of_none e hq), d.2⟩, fun a u e d => ⟨by rw [upd_ne (ne_of_none e hq)]; exact e, .inl d⟩, rfl⟩
/-- a private thing is written -/
theorem Gr.pw {q : Addr} {o : HO} (hp : φ.pv q) {φ0 : Mp} {s0 : S} {H0 : Hp} (h0 : H0 q = none) (g : Gr φ0 s0 H0 φ s H) : Gr φ0 s0 H0 φ s (upd H q o) :=
  ⟨g.mp, fun a u e d => ⟨by rw [upd_ne (ne_of_none e h0)]; exact (g.kp a u e d).1, (g.kp a u e d).2⟩, fun a u e d => ⟨by rw [upd_ne (ne_of_none e h0)]; exact (g.pk a u e d).1, (g.pk a u e d).2⟩, g.ke⟩
mutual
theorem Rep.pw {q : Addr} {o : HO} (hp : φ.pv q) : ∀ (d : D) {v : V}, Rep φ s H d v → Rep φ s (upd H q o) d v
  | .non, v, h => by simpa only [Rep] using h
  | .bl b, v, h => by simpa only [Rep] using h
  | .int i, v, h => by simpa only [Rep] using h
  | .str x, v, h => by simpa only [Rep] using h
  | .ref n, v, h => by simpa only [Rep] using h
  | .tup ds, v, h => by
    simp only [Rep] at h ⊢
    obtain ⟨a, vs, e, ha, hd, hl⟩ := h
    have na : a ≠ q := fun z => hd.1 (z ▸ hp)
    exact ⟨a, vs, e, by rw [upd_ne na]; exact ha, hd, RepL.pw hp ds hl⟩
  | .lst ds, v, h => by
    simp only [Rep] at h ⊢
    obtain ⟨a, vs, e, ha, hd, hl⟩ := h
    have na : a ≠ q := fun z => hd.1 (z ▸ hp)
    exact ⟨a, vs, e, by rw [upd_ne na]; exact ha, hd, RepL.pw hp ds hl⟩
  | .scr ds, v, h => by
    simp only [Rep] at h ⊢
    obtain ⟨a, vs, e, ha, hl⟩ := h
    refine ⟨a, vs, e, ?_, RepL.pw hp ds hl⟩
    rcases ha with ⟨ha | ⟨o, ha⟩, hd⟩ | ha
    · exact .inl ⟨.inl (by rw [upd_ne (show a ≠ q from fun z => hd.1 (z ▸ hp))]; exact ha), hd⟩
    · exact .inl ⟨.inr ⟨o, by rw [upd_ne (show a ≠ q from fun z => hd.1 (z ▸ hp))]; exact ha⟩, hd⟩
    · exact .inr ha
theorem RepL.pw {q : Addr} {o : HO} (hp : φ.pv q) : ∀ (ds : List D) {vs : List V}, RepL φ s H ds vs → RepL φ s (upd H q o) ds vs
  | [], vs, h => by simpa only [RepL] using h
  | d :: ds, vs, h => by
    simp only [RepL] at h ⊢
    obtain ⟨v, r, e, h1, h2⟩ := h
    exact ⟨v, r, e, Rep.pw hp d h1, RepL.pw hp ds h2⟩
end
theorem FR.pw {q : Addr} {o : HO} (hp : φ.pv q) : ∀ {fs : List (String × D)} {gs : List (Str × V)}, FR φ s H fs gs → FR φ s (upd H q o) fs gs
  | [], gs, h => h
  | (f, d) :: fs, gs, h => by
    obtain ⟨v, r, e, h1, h2⟩ := h
    exact ⟨v, r, e, Rep.pw hp d h1, FR.pw hp h2⟩
theorem KRg.pw {κ κ' : Type} {k : κ → κ'} {q : Addr} {o : HO} (hp : φ.pv q) : ∀ {fs : List (κ × D)} {gs : List (κ' × V)}, KRg k φ s H fs gs → KRg k φ s (upd H q o) fs gs
  | [], gs, h => h
  | (f, d) :: fs, gs, h => by
    obtain ⟨v, r, e, h1, h2⟩ := h
    exact ⟨v, r, e, Rep.pw hp d h1, KRg.pw hp h2⟩
theorem NkD.pw {q a : Addr} {o : HO} {kk : List (List Key)} (hp : φ.pv q) (x : NkD φ s H a kk) : NkD φ s (upd H q o) a kk := by
  have ne : ∀ b, Dead φ s b → b ≠ q := fun b d z => d.1 (z ▸ hp)
  obtain ⟨ps, h1, h2⟩ := x
  exact ⟨ps, ⟨by rw [upd_ne (ne _ h1.2)]; exact h1.1, h1.2⟩, Paired.mapP h2 fun _ p z => ⟨by rw [upd_ne (ne _ z.2)]; exact z.1, z.2⟩⟩
theorem ObR.pw {q a : Addr} {o : HO} (hp : φ.pv q) (na : a ≠ q) {u : Ob} (h : ObR G φ s H a u) : ObR G φ s (upd H q o) a u := by
  cases u with
  | lst ds =>
    obtain ⟨vs, h1, h2⟩ := h
    exact ⟨vs, by rw [upd_ne na]; exact h1, RepL.pw hp ds h2⟩
  | ins c fs =>
    obtain ⟨C, dx, gs, h1, h2, h3⟩ := h
    exact ⟨C, dx, gs, by rw [upd_ne na]; exact h1, h2, h3.pw hp⟩
  | dic kvs =>
    obtain ⟨ks, h1, h2⟩ := h
    exact ⟨ks, by rw [upd_ne na]; exact h1, h2.pw hp⟩
  | exc c =>
    obtain ⟨h0, C, h1, h2⟩ := h
    exact ⟨h0, C, h1, by rw [upd_ne na]; exact h2⟩
  | dit kvs =>
    obtain ⟨ks, h1, h2⟩ := h
    exact ⟨ks, by rw [upd_ne na]; exact h1, h2.pw hp⟩
  | dnn ks =>
    obtain ⟨xs, h1, h2⟩ := h
    exact ⟨xs, by rw [upd_ne na]; exact h1, Paired.mapP h2 fun _ _ z => ⟨z.1, z.2.1, z.2.2.pw hp⟩⟩
theorem HR.pw {q : Addr} {o : HO} (h : HR G φ s H) (hp : φ.pv q) (ht : ∀ vs, o ≠ .tup vs := by intro _ z; cases z) : HR G φ s (upd H q o) := by
  have nb : ∀ n a, φ n = some a → a ≠ q := fun n a e z => h.np n a e (z ▸ hp)
  refine ⟨fun n u e => ?_, h.inj, fun n a e => ?_, fun a e => ?_, h.np, h.k⟩
  · obtain ⟨a, ha, hb⟩ := h.ob n u e
    exact ⟨a, ha, hb.pw hp (nb n a ha)⟩
  · obtain ⟨h1, o', ho⟩ := h.dom n a e
    exact ⟨h1, o', by rw [upd_ne (nb n a e)]; exact ho⟩
  · by_cases ha : a = q
    · subst ha
      exact ⟨o, upd_same, ht⟩
    · obtain ⟨o', ho, ht'⟩ := h.pvd a e
      exact ⟨o', by rw [upd_ne ha]; exact ho, ht'⟩
theorem SR.pw {q : Addr} {o : HO} {r : Sl} {σ : L2.St} (h : SR φ s H r σ) (hp : φ.pv q) : SR φ s (upd H q o) r σ := ⟨h.len, fun i d e => let ⟨v, h1, h2⟩ := h.get i d e; ⟨v, h1, Rep.pw hp d h2⟩⟩
/-- growth, whatever becomes of what is private -/
structure Gw (φ : Mp) (s : S) (H : Hp) (φ' : Mp) (s' : S) (H' : Hp) : Prop where
  mp : ∀ n a, φ n = some a → φ' n = some a
  kp : ∀ a o, H a = some o → Dead φ s a → H' a = some o ∧ Dead φ' s' a
  ke : φ'.K = φ.K
mutual
theorem Rep.mw (g : Gw φ s H φ' s' H') : ∀ (d : D) {v : V}, Rep φ s H d v → Rep φ' s' H' d v
  | .non, v, h => by simpa only [Rep] using h
  | .bl b, v, h => by simpa only [Rep] using h
  | .int i, v, h => by simpa only [Rep] using h
  | .str x, v, h => by simpa only [Rep] using h
  | .tup ds, v, h => by
    simp only [Rep] at h ⊢
    obtain ⟨a, vs, e, ha, hd, hl⟩ := h
    obtain ⟨h1, h2⟩ := g.kp a _ ha hd
    exact ⟨a, vs, e, h1, h2, RepL.mw g ds hl⟩
  | .lst ds, v, h => by
    simp only [Rep] at h ⊢
    obtain ⟨a, vs, e, ha, hd, hl⟩ := h
    obtain ⟨h1, h2⟩ := g.kp a _ ha hd
    exact ⟨a, vs, e, h1, h2, RepL.mw g ds hl⟩
  | .scr ds, v, h => by
    simp only [Rep] at h ⊢
    obtain ⟨a, vs, e, ha, hl⟩ := h
    refine ⟨a, vs, e, ?_, RepL.mw g ds hl⟩
    rcases ha with ⟨ha | ⟨o, ha⟩, hd⟩ | ha
    · obtain ⟨h1, h2⟩ := g.kp a _ ha hd
      exact .inl ⟨.inl h1, h2⟩
    · obtain ⟨h1, h2⟩ := g.kp a _ ha hd
      exact .inl ⟨.inr ⟨o, h1⟩, h2⟩
    · exact .inr (by rw [g.ke]; exact ha)
  | .ref n, v, h => by
    simp only [Rep] at h ⊢
    obtain ⟨a, e, h⟩ := h
    exact ⟨a, e, g.mp n a h⟩
theorem RepL.mw (g : Gw φ s H φ' s' H') : ∀ (ds : List D) {vs : List V}, RepL φ s H ds vs → RepL φ' s' H' ds vs
  | [], vs, h => by simpa only [RepL] using h
  | d :: ds, vs, h => by
    simp only [RepL] at h ⊢
    obtain ⟨v, r, e, h1, h2⟩ := h
    exact ⟨v, r, e, Rep.mw g d h1, RepL.mw g ds h2⟩
end
theorem FR.mw (g : Gw φ s H φ' s' H') : ∀ {fs : List (String × D)} {gs : List (Str × V)}, FR φ s H fs gs → FR φ' s' H' fs gs
  | [], gs, h => h
  | (f, d) :: fs, gs, h => by
    obtain ⟨v, r, e, h1, h2⟩ := h
    exact ⟨v, r, e, Rep.mw g d h1, FR.mw g h2⟩
theorem KRg.mw {κ κ' : Type} {k : κ → κ'} (g : Gw φ s H φ' s' H') : ∀ {fs : List (κ × D)} {gs : List (κ' × V)}, KRg k φ s H fs gs → KRg k φ' s' H' fs gs
  | [], gs, h => h
  | (f, d) :: fs, gs, h => by
    obtain ⟨v, r, e, h1, h2⟩ := h
    exact ⟨v, r, e, Rep.mw g d h1, KRg.mw g h2⟩
theorem NkD.mw (g : Gw φ s H φ' s' H') {q : Addr} {kk : List (List Key)} (x : NkD φ s H q kk) : NkD φ' s' H' q kk :=
  let ⟨ps, h1, h2⟩ := x; ⟨ps, g.kp _ _ h1.1 h1.2, Paired.mapP h2 fun _ _ z => g.kp _ _ z.1 z.2⟩
theorem ObR.mw {a : Addr} {u : Ob} (g : Gw φ s H φ' s' H') (e : H' a = H a) (h : ObR G φ s H a u) : ObR G φ' s' H' a u := by
  cases u with
  | lst ds =>
    obtain ⟨vs, h1, h2⟩ := h
    exact ⟨vs, by rw [e]; exact h1, RepL.mw g ds h2⟩
  | ins c fs =>
    obtain ⟨C, dx, gs, h1, h2, h3⟩ := h
    exact ⟨C, dx, gs, by rw [e]; exact h1, h2, h3.mw g⟩
  | dic kvs =>
    obtain ⟨ks, h1, h2⟩ := h
    exact ⟨ks, by rw [e]; exact h1, h2.mw g⟩
  | exc c =>
    obtain ⟨h0, C, h1, h2⟩ := h
    exact ⟨h0, C, h1, by rw [e]; exact h2⟩
  | dit kvs =>
    obtain ⟨ks, h1, h2⟩ := h
    exact ⟨ks, by rw [e]; exact h1, h2.mw g⟩
  | dnn ks =>
    obtain ⟨xs, h1, h2⟩ := h
    exact ⟨xs, by rw [e]; exact h1, Paired.mapP h2 fun _ _ z => ⟨z.1, z.2.1, z.2.2.mw g⟩⟩
/-- the private list q becomes public: frozen or boxed -/
theorem unpv {q : Addr} {φ0 : Mp} {s0 : S} {H0 : Hp} {vs : List V} {xs : List D} {bx : Bool} {d : D} {Q : VK} (h : HR G φ s H) (hq : φ.pv q) (h0 : H0 q = none) (g : Gr φ0 s0 H0 φ s H) (hl : H q = some (.lst vs)) (r : RepL φ s H xs vs)
    (e : mkL bx xs s = some (.ok d, s')) (p : Post G φ0 s0 H0 s' d Q) : Q (.ref q) H := by
  have nq : ∀ n, φ n ≠ some q := fun n z => h.np n q z hq
  have dq : ∀ a, Dead φ s a → a ≠ q := fun a d z => d.1 (z ▸ hq)
  unfold mkL at e
  cases bx with
  | false =>
    rw [if_neg Bool.false_ne_true] at e
    cases e
    have gw : Gw φ s H ⟨φ.f, fun a => φ.pv a ∧ a ≠ q, φ.K⟩ s H := ⟨fun _ _ e => e, fun a o e d => ⟨e, fun z => d.1 z.1, d.2⟩, rfl⟩
    refine p ⟨φ.f, fun a => φ.pv a ∧ a ≠ q, φ.K⟩ H _ ⟨g.mp, fun a o e d => ?_, fun a o e d => ?_, g.ke⟩ ⟨fun n u e => ?_, h.inj, h.dom, fun a e => h.pvd a e.1, fun n a e z => h.np n a e z.1, h.k⟩ ?_
    · obtain ⟨h1, h2⟩ := g.kp a o e d
      exact ⟨h1, fun z => h2.1 z.1, h2.2⟩
    · obtain ⟨h1, h2⟩ := g.pk a o e d
      exact ⟨h1, h2, ne_of_none e h0⟩
    · obtain ⟨a, ha, hb⟩ := h.ob n u e
      exact ⟨a, ha, hb.mw gw rfl⟩
    · simp only [Rep]
      exact ⟨q, vs, rfl, hl, ⟨fun z => z.2 rfl, fun n z => absurd z (nq n)⟩, RepL.mw gw xs r⟩
  | true =>
    rw [if_pos rfl] at e
    cases e
    have dd : ∀ a, Dead φ s a → Dead (⟨fun k => if k = s.nx then some q else φ k, fun a => φ.pv a ∧ a ≠ q, φ.K⟩ : Mp) (s.new (.lst xs)) a := fun a d => by
      refine ⟨fun z => d.1 z.1, fun n z => ?_⟩
      replace z : (if n = s.nx then some q else φ n) = some a := z
      show (if n = s.nx then some (Ob.lst xs) else s.m n) = none
      by_cases hn : n = s.nx
      · rw [if_pos hn] at z
        exact absurd (Option.some.inj z).symm (dq a d)
      · rw [if_neg hn] at z ⊢
        exact d.2 n z
    have mp : ∀ n a, φ n = some a → (⟨fun k => if k = s.nx then some q else φ k, fun a => φ.pv a ∧ a ≠ q, φ.K⟩ : Mp) n = some a := fun n a e => by
      have := (h.dom n a e).1
      show (if n = s.nx then some q else φ n) = some a
      rw [if_neg (by omega)]
      exact e
    have gw : Gw φ s H ⟨fun k => if k = s.nx then some q else φ k, fun a => φ.pv a ∧ a ≠ q, φ.K⟩ (s.new (.lst xs)) H := ⟨mp, fun a o e d => ⟨e, dd a d⟩, rfl⟩
    refine p ⟨fun k => if k = s.nx then some q else φ k, fun a => φ.pv a ∧ a ≠ q, φ.K⟩ H _ ⟨fun n a e => mp n a (g.mp n a e), fun a o e d => ?_, fun a o e d => ?_, g.ke⟩ ⟨fun n u e => ?_, fun n m a e1 e2 => ?_, fun n a e => ?_, fun a e => h.pvd a e.1, fun n a e z => ?_, h.k⟩ ?_
    · obtain ⟨h1, h2⟩ := g.kp a o e d
      exact ⟨h1, dd a h2⟩
    · obtain ⟨h1, h2⟩ := g.pk a o e d
      exact ⟨h1, h2, ne_of_none e h0⟩
    · replace e : (if n = s.nx then some (Ob.lst xs) else s.m n) = some u := e
      by_cases hn : n = s.nx
      · rw [if_pos hn] at e
        cases e
        exact ⟨q, by show (if n = s.nx then some q else φ n) = some q; rw [if_pos hn], vs, hl, RepL.mw gw xs r⟩
      · rw [if_neg hn] at e
        obtain ⟨a, ha, hb⟩ := h.ob n u e
        exact ⟨a, mp n a ha, hb.mw gw rfl⟩
    · replace e1 : (if n = s.nx then some q else φ n) = some a := e1
      replace e2 : (if m = s.nx then some q else φ m) = some a := e2
      by_cases hn : n = s.nx
      · by_cases hm : m = s.nx
        · rw [hn, hm]
        · rw [if_pos hn] at e1
          rw [if_neg hm] at e2
          cases e1
          exact absurd e2 (nq m)
      · rw [if_neg hn] at e1
        by_cases hm : m = s.nx
        · rw [if_pos hm] at e2
          cases e2
          exact absurd e1 (nq n)
        · rw [if_neg hm] at e2
          exact h.inj n m a e1 e2
    · replace e : (if n = s.nx then some q else φ n) = some a := e
      by_cases hn : n = s.nx
      · rw [if_pos hn] at e
        cases e
        exact ⟨by show n < s.nx + 1; omega, _, hl⟩
      · rw [if_neg hn] at e
        obtain ⟨h1, h2⟩ := h.dom n a e
        exact ⟨by show n < s.nx + 1; omega, h2⟩
    · replace e : (if n = s.nx then some q else φ n) = some a := e
      by_cases hn : n = s.nx
      · rw [if_pos hn] at e
        cases e
        exact z.2 rfl
      · rw [if_neg hn] at e
        exact h.np n a e z.1
    · have hb : (⟨fun k => if k = s.nx then some q else φ k, fun a => φ.pv a ∧ a ≠ q, φ.K⟩ : Mp) s.nx = some q := by
        show (if s.nx = s.nx then some q else φ s.nx) = some q
        rw [if_pos rfl]
      unfold Rep
      exact ⟨q, rfl, hb⟩
end
theorem setAll_agree : ∀ {is : List Nat} {ds : List D} {r1 r2 : Sl}, r1.length = r2.length → (∀ k, k ∉ is → r1[k]? = r2[k]?) → setAll is ds r1 = setAll is ds r2
  | [], [], r1, r2, hl, h => by
    show some r1 = some r2
    rw [List.ext_getElem? fun k => h k (by simp)]
  | [], d :: ds, r1, r2, hl, h => rfl
  | i :: is, [], r1, r2, hl, h => rfl
  | i :: is, d :: ds, r1, r2, hl, h => by
    show setAll is ds (r1.set i (some d)) = setAll is ds (r2.set i (some d))
    refine setAll_agree (by rw [List.length_set, List.length_set]; exact hl) fun k hk => ?_
    by_cases hi : i = k
    · subst hi
      rw [List.getElem?_set, List.getElem?_set, if_pos rfl, if_pos rfl, hl]
    · rw [List.getElem?_set_ne hi, List.getElem?_set_ne hi]
      exact h k (by rw [List.mem_cons, not_or]; exact ⟨fun z => hi z.symm, hk⟩)
noncomputable def wipeR (r : Sl) : List Nat → Sl
  | [] => r
  | v :: vs => (wipeR r vs).set v none
theorem wipeR_length (r : Sl) : ∀ vs : List Nat, (wipeR r vs).length = r.length
  | [] => rfl
  | v :: vs => by unfold wipeR; rw [List.length_set, wipeR_length r vs]
theorem wipeR_out {r : Sl} {i : Nat} : ∀ {vs : List Nat}, i ∉ vs → (wipeR r vs)[i]? = r[i]?
  | [], h => rfl
  | v :: vs, h => by
    unfold wipeR
    rw [List.mem_cons, not_or] at h
    rw [List.getElem?_set_ne (fun z => h.1 z.symm)]
    exact wipeR_out h.2
theorem wipeR_some {r : Sl} {i : Nat} {x : D} : ∀ {vs : List Nat}, (wipeR r vs)[i]? = some (some x) → r[i]? = some (some x) ∧ i ∉ vs
  | [], h => ⟨h, by simp⟩
  | v :: vs, h => by
    unfold wipeR at h
    by_cases hi : v = i
    · subst hi
      by_cases hv : v < (wipeR r vs).length
      · rw [List.getElem?_set_self hv] at h; cases h
      · rw [List.getElem?_eq_none (by simpa using hv)] at h; cases h
    · rw [List.getElem?_set_ne hi] at h
      obtain ⟨h1, h2⟩ := wipeR_some h
      exact ⟨h1, by simp only [List.mem_cons, not_or]; exact ⟨fun e => hi e.symm, h2⟩⟩
theorem tgSet_wipe {s : S} {tg : Tg} {d : D} {r : Sl} : tgSet s tg d (wipeR r (slots tg)) = tgSet s tg d r := by
  cases tg with
  | nm i =>
    show some ((r.set i none).set i (some d)) = some (r.set i (some d))
    rw [List.set_set]
  | tp is =>
    cases d with
    | tup ds => exact setAll_agree (wipeR_length r is) fun k hk => wipeR_out hk
    | lst ds => exact setAll_agree (wipeR_length r is) fun k hk => wipeR_out hk
    | _ => rfl
  | nt i is =>
    have key : ∀ d0 ds, setAll is ds ((wipeR r (i :: is)).set i (some d0)) = setAll is ds (r.set i (some d0)) := fun d0 ds => by
      have e1 : (wipeR r (i :: is)).set i (some d0) = (wipeR r is).set i (some d0) := by
        show ((wipeR r is).set i none).set i (some d0) = _
        rw [List.set_set]
      rw [e1]
      refine setAll_agree (by rw [List.length_set, List.length_set, wipeR_length]) fun k hk => ?_
      by_cases hki : i = k
      · subst hki
        rw [List.getElem?_set, List.getElem?_set, wipeR_length, if_pos rfl, if_pos rfl]
      · rw [List.getElem?_set_ne hki, List.getElem?_set_ne hki, wipeR_out hk]
    show (ntD d).bind (fun p => setAll is p.2 ((wipeR r (i :: is)).set i (some p.1))) = (ntD d).bind fun p => setAll is p.2 (r.set i (some p.1))
    congr 1
    funext p
    exact key p.1 p.2
theorem SR.wipe {φ : Mp} {s : S} {H : Hp} {r : Sl} {σ : L2.St} (h : SR φ s H r σ) (vs : List Nat) : SR φ s H (wipeR r vs) (L2.wipe σ vs) := by
  refine ⟨by rw [wipe_length, wipeR_length]; exact h.len, fun i d e => ?_⟩
  obtain ⟨h1, h2⟩ := wipeR_some e
  obtain ⟨v, h3, h4⟩ := h.get i d h1
  exact ⟨v, by rw [wipe_out h2]; exact h3, h4⟩
noncomputable abbrev rC (G : Glob) (cf : CF) (c : Oe) : TT := rd G (evT cf c) (fun _ _ _ a b => a = b)
section
variable {G : Glob} {cf : CF} {X : Cx}
theorem c_lcR {ce : E} {tg : Tg} {it : It} {cnd : Oe} {bx : Bool} (σ : L2.St) (H : Hp) (Q : VK) (h : rE G cf (.lc bx ce tg it cnd) σ H Q) : tLc (rI G cf it) (gOf X.K tg) (rC G cf cnd) (rE G cf ce) (slots tg) σ H Q := by
  obtain ⟨φ, s, r, A, d, s', hev, p⟩ := h
  simp only [ev] at hev
  obtain ⟨iv, s1, e1, hev⟩ := bnd_inv hev
  refine rd_step A e1 fun φ1 H1 J g1 A1 jok => ?_
  intro q hq
  split at hev
  · cases hev
  · rename_i n hn
    obtain ⟨xs, s2, e2, hev⟩ := bnd_inv hev
    refine ⟨fun i m H' => ∃ φ' s' acc vs, φ'.pv q ∧ Gr φ1 s1 H1 φ' s' H' ∧ HR G φ' s' H' ∧ H' q = some (.lst vs) ∧ RepL φ' s' H' acc vs ∧ lcN tg iv (evT cf cnd) (ev cf ce) r m i acc s' = some (.ok xs, s2),
      ⟨n + 1, pvt φ1 q, s1, [], [], .inr rfl, Gr.pvt A1.hr hq, A1.hr.pvt hq, upd_same, RepL.nil, e2⟩, ?_⟩
    rintro i m H' ⟨φ', s3, acc, vs, hp, g, hr, hl, ra, ee⟩
    cases m with
    | zero =>
      unfold lcN at ee
      cases ee
    | succ m =>
      unfold lcN at ee
      split at ee
      · cases ee
      · rename_i n' hn'
        obtain ⟨j1, j2⟩ := jok φ' s3 H' g hr n' i hn'
        split at ee
        · rename_i hi
          split at ee
          · cases ee
          · rename_i x hx
            split at ee
            · cases ee
            · rename_i r' hr'
              obtain ⟨go, yl⟩ := j1 hi x hx
              refine .inr ⟨go, _, fun _ z => z, fun xv H2 y => ?_⟩
              obtain ⟨g2, hr2, rx⟩ := yl xv H2 y
              rw [← tgSet_wipe] at hr'
              refine tg_ok rx hr' (((A1.sr.mono g).mono g2).wipe (slots tg)) fun σ2 sr2 hl2 hk2 => ?_
              refine ⟨?_, ?_⟩
              · rw [wipe_eq hl2 hk2, wipe_wipe]
              obtain ⟨b, s4, e4, ee⟩ := bnd_inv ee
              refine rd_step ⟨hr2, sr2⟩ e4 fun φ4 H4 b' g4 A4 rb => ?_
              subst rb
              obtain ⟨hl2', hp2⟩ := g2.pk q _ hl hp
              obtain ⟨hl4, hp4⟩ := g4.pk q _ hl2' hp
              cases b with
              | false =>
                rw [if_neg Bool.false_ne_true] at ee ⊢
                exact ⟨m, Nat.lt_succ_self m, φ4, s4, acc, vs, hp4, (g.trans g2).trans g4, A4.hr, hl4, RepL.mono g4 acc (RepL.mono g2 acc ra), ee⟩
              | true =>
                rw [if_pos rfl] at ee ⊢
                obtain ⟨y', s5, e5, ee⟩ := bnd_inv ee
                refine rd_step A4 e5 fun φ5 H5 yv g5 A5 ry => ?_
                obtain ⟨hl5, hp5⟩ := g5.pk q _ hl4 hp4
                split at ee
                · rename_i hz
                  refine ⟨vs, hl5, by rw [ra.length, ← LIM_eq]; exact hz, m, Nat.lt_succ_self m, φ5, s5, acc ++ [y'], vs ++ [yv], hp5, ?_, A5.hr.pw hp5, upd_same, ?_, ee⟩
                  · exact Gr.pw hp5 hq (((g.trans g2).trans g4).trans g5)
                  · exact RepL.pw hp5 _ ((RepL.mono g5 acc (RepL.mono g4 acc (RepL.mono g2 acc ra))).app (RepL.one ry))
                · cases ee
        · rename_i hi
          cases ee
          exact .inl ⟨j2 (by omega), unpv hr hp hq g hl ra hev (Post.from g1 p)⟩
end
section
variable {G : Glob} {φ : Mp} {s : S} {H : Hp}
section
variable {κ κ' : Type} [DecidableEq κ] [DecidableEq κ'] {g : κ → κ'} (hg : ∀ {a b}, g a = g b ↔ a = b)
include hg
theorem KRg.any : ∀ {kvs : List (κ × D)} {ks : List (κ' × V)} (k : κ), KRg g φ s H kvs ks → (ks.any fun kv => decide (kv.1 = g k)) = (kvs.any fun kv => decide (kv.1 = k))
  | [], ks, k, h => by
    simp only [KRg] at h
    subst h
    rfl
  | (f, d) :: kvs, ks, k, h => by
    obtain ⟨v, r, rfl, h1, h2⟩ := h
    rw [List.any_cons, List.any_cons, KRg.any k h2]
    congr 1
    exact decide_eq_decide.mpr hg
theorem KRg.map {k : κ} {d : D} {v : V} (rv : Rep φ s H d v) : ∀ {kvs : List (κ × D)} {ks : List (κ' × V)}, KRg g φ s H kvs ks → KRg g φ s H (kvs.map fun kv => if kv.1 = k then (kv.1, d) else kv) (ks.map fun kv => if kv.1 = g k then (kv.1, v) else kv)
  | [], ks, h => by
    simp only [KRg] at h
    subst h
    rfl
  | (f, x) :: kvs, ks, h => by
    obtain ⟨u, r, rfl, h1, h2⟩ := h
    rw [List.map_cons, List.map_cons]
    by_cases hf : f = k
    · subst hf
      rw [if_pos rfl, if_pos rfl]
      exact ⟨v, _, rfl, rv, KRg.map rv h2⟩
    · rw [if_neg hf, if_neg (fun z => hf (hg.mp z))]
      exact ⟨u, _, rfl, h1, KRg.map rv h2⟩
omit hg in
theorem KRg.snoc {k : κ} {d : D} {v : V} (rv : Rep φ s H d v) : ∀ {kvs : List (κ × D)} {ks : List (κ' × V)}, KRg g φ s H kvs ks → KRg g φ s H (kvs ++ [(k, d)]) (ks ++ [(g k, v)])
  | [], ks, h => by
    simp only [KRg] at h
    subst h
    exact ⟨v, [], rfl, rv, rfl⟩
  | (f, x) :: kvs, ks, h => by
    obtain ⟨u, r, rfl, h1, h2⟩ := h
    exact ⟨u, _, rfl, h1, KRg.snoc rv h2⟩
theorem KRg.put {k : κ} {d : D} {v : V} (rv : Rep φ s H d v) {kvs : List (κ × D)} {ks : List (κ' × V)} (h : KRg g φ s H kvs ks) : KRg g φ s H (dput kvs k d) (putK ks (g k) v) := by
  unfold dput putK
  rw [KRg.any hg k h]
  split
  · exact KRg.map hg rv h
  · exact KRg.snoc rv h
end
theorem KRg.dmk : ∀ {ks : List (List Nat)} {xs : List D} {vs : List V} {kvs : List (DK × D)} {kv : List (Key × V)}, RepL φ s H xs vs → KR φ s H kvs kv →
    KR φ s H ((ks.zip xs).foldl (fun acc kv => dput acc (.s kv.1) kv.2) kvs) (mergeK kv ((ks.map fun z => kyOf (.s z)).zip vs))
  | [], xs, vs, kvs, kv, r, h => h
  | k :: ks, [], vs, kvs, kv, r, h => by
    simp only [RepL] at r
    subst r
    exact h
  | k :: ks, x :: xs, vs, kvs, kv, r, h => by
    simp only [RepL] at r
    obtain ⟨v, w, rfl, r1, r2⟩ := r
    exact KRg.dmk (ks := ks) r2 (KRg.put ky_inj r1 h)
variable {cf : CF} {X : Cx}
noncomputable def trsOf (G : Glob) (cf : CF) : List (List Nat) → Es → List (TE × TE)
  | k :: ks, .cons e r => (tC (.str ⟨k.toArray⟩), rE G cf e) :: trsOf G cf ks r
  | _, _ => []
end
end Fl
namespace Fl
open PySem L2
section
variable {X : Cx} {pins : List (Addr × Obj)} {σ : L2.St} {H : Hp} {s : Shared}
end
noncomputable def uE (K : PySem.W.Frag) (t : String) : Value := if t = "ValueError" then .type "ValueError" else match eclK K t with
  | some C => .ref C
  | none => .type ""
/-- what the text says of its errors -/
structure XFacts (lc et : List String) (K : PySem.W.Frag) (mg : Str → Option Value) : Prop where
  tg : ∀ t ∈ et, t = "ValueError" ∨ ∃ T, eclK K t = some T ∧ mg (Str.ofString t) = some (.ref T)
  vm : "ValueError" ∈ et → mg "ValueError" = none
  ec : ∀ c ∈ lc, ∃ C, eclK K c = some C ∧ mg (Str.ofString c) = some (.ref C) ∧ PySem.W.excIn K C HandSPX.veTail "ValueError.__new__" = true ∧ PySem.W.keepIn K (.ref C) = true ∧ PySem.W.subIn K (.ref C) (.type "BaseException") = some true ∧ PySem.W.typeIn K (.ref C) = some (.type "type") ∧ ExcC K C
  kt : ∀ c ∈ lc, ∀ t ∈ et, ∀ C, eclK K c = some C → PySem.W.kitOne K (.ref C) (uE K t) = some (subE c t) ∧ PySem.W.exmOne K (.ref C) (uE K t) = some (subE c t)
section
variable {G : Glob} {cf : CF} {X : Cx} {a b e o : Expr} {es : List Expr} {ca : E} {ces : Es} {pos apos : Pos} {et : List String}
noncomputable abbrev WZ := String → L2.St → Hp → Prop
/-- what a body's exceptions come to -/
noncomputable def wz (G : Glob) (W : WZ) : WX := fun cls d σ H => ∃ c C, c ∈ G.ec ∧ eclK G.K c = some C ∧ cls = .ref C ∧ d = none ∧ W c σ H
noncomputable def spX (G : Glob) (f : List D → S → R D) (n : Nat) : Sp := fun vs H Q E => vs.length = n ∧ ∃ φ s ds, HR G φ s H ∧ RepL φ s H ds vs ∧ ((∃ d s', f ds s = some (.ok d, s') ∧ Post G φ s H s' d Q) ∨
  (∃ c s', f ds s = some (.er c, s') ∧ ∀ φ' H' C, Gr φ s H φ' s' H' → HR G φ' s' H' → c ∈ G.ec → eclK G.K c = some C → E (.ref C) none H'))
theorem spX_of {vs : List V} {H : Hp} {Q : VK} {E E' : XK} {f : List D → S → R D} {n : Nat} (h : spF G f n vs H Q E) : spX G f n vs H Q E' := by
  obtain ⟨h1, φ, s, ds, h2, h3, d, s', h4, h5⟩ := h
  exact ⟨h1, φ, s, ds, h2, h3, .inl ⟨d, s', h4, h5⟩⟩
theorem toCX0 {P : Program} {w : World} {K : PySem.W.Frag} {mg : Str → Option Value} {base : Heap} {k n : Nat} {f : Addr} {fd : FuncData} {ps : List Str} {g : List D → S → R D} (F : FnG P w K mg base (L2.CX P w) k f fd ps (spX G g n)) : FnG P w K mg base CX0 k f fd ps (spF G g n) := by
  refine ⟨fun vs H Q E h => F.len vs H Q (fun _ _ _ => False) (spX_of h), fun A outer s H args us vs Q E hr he hb hv hs => ?_⟩
  refine codeAny_mono (F.go A outer s H args us vs Q (fun _ _ _ => False) hr he hb hv (spX_of hs)) fun r s' hq => ?_
  cases r with
  | ok fl => cases fl <;> exact hq
  | error e =>
    obtain ⟨_, _, _, _, _, _, _, _, _, _, _, _, z⟩ := hq
    exact z.elim
structure FnAtX (G : Glob) (X : Cx) (x : Str) (f : List D → S → R D) (n : Nat) : Prop where
  at_ : ∃ (a : Addr) (fd : FuncData) (ps : List Str) (j : Nat), X.mg x = some (.ref a) ∧ PySem.W.keepIn X.K (.ref a) = true ∧ Binds X.K fd ps [] ∧ RmG j X.A ∧ ps.length = n ∧ FnG X.prog X.w X.K X.mg X.base (L2.CX X.prog X.w) j a fd ps (spX G f n)
  len : ∀ ds s q, f ds s = some q → ds.length = n
structure MtAtX (G : Glob) (X : Cx) (C : Addr) (m : Str) (f : List D → S → R D) (n : Nat) : Prop where
  at_ : ∃ (a : Addr) (fd : FuncData) (ps : List Str) (j : Nat), Meth X.K C m a ∧ Binds X.K fd ps [] ∧ RmG j X.A ∧ ps.length = n ∧ FnG X.prog X.w X.K X.mg X.base (L2.CX X.prog X.w) j a fd ps (spX G f n)
  len : ∀ ds s q, f ds s = some q → ds.length = n
theorem FnAtX.plain {x : Str} {f : List D → S → R D} {n : Nat} (F : FnAtX G X x f n) : FnAt G X x f n := by
  obtain ⟨⟨a, fd, ps, j, h1, h2, h3, h4, h5, h6⟩, h7⟩ := F
  exact ⟨⟨a, fd, ps, j, h1, h2, h3, h4, h5, toCX0 h6⟩, fun ds s d s' e => h7 ds s _ e⟩
theorem MtAtX.plain {C : Addr} {x : Str} {f : List D → S → R D} {n : Nat} (F : MtAtX G X C x f n) : MtAt G X C x f n := by
  obtain ⟨⟨a, fd, ps, j, h1, h2, h3, h4, h5⟩, h7⟩ := F
  exact ⟨⟨a, fd, ps, j, h1, h2, h3, h4, toCX0 h5⟩, fun ds s d s' e => h7 ds s _ e⟩
end
end Fl
namespace Fl
open PySem L2
noncomputable def EndOk (W : WZ) (φ : Mp) (s : S) (H : Hp) (Dn : Ends) (σ : L2.St) : Fw → Prop
  | .nx => Dn.nx σ H
  | .bk => Dn.bk σ H
  | .ct => Dn.ct σ H
  | .rt d => ∀ v, Rep φ s H d v → Dn.rt v H
  | .rz c => W c σ H
noncomputable def rX (G : Glob) (W : WZ) (f : Sl → S → XR) : TS := fun Dn σ H => ∃ φ s r, At G φ s H r σ ∧ ∃ fl r' s', f r s = some (.ok (fl, r'), s') ∧ ∀ φ' H' σ', Gr φ s H φ' s' H' → HR G φ' s' H' → SR φ' s' H' r' σ' → EndOk W φ' s' H' Dn σ' fl
noncomputable abbrev rS (G : Glob) (W : WZ) (cf : CF) (c : C) : TS := rX G W (ex cf c)
noncomputable abbrev rSs (G : Glob) (W : WZ) (cf : CF) (c : Cs) : TS := rX G W (exs cf c)
section
variable {G : Glob} {W : WZ} {cf : CF} {X : Cx} {a b e : Expr} {ca cb ce : E} {pos : Pos}
theorem x_nil : PSs X [] (rSs G W cf .nil) := by
  refine PSs.imp pss_nil fun Dn σ H h => ?_
  obtain ⟨φ, s, r, A, fl, r', s', he, p⟩ := h
  simp only [exs] at he
  cases he
  exact p φ H σ (Gr.refl _ _ _) A.hr A.sr
theorem x_cons {st : Stmt} {rest : List Stmt} {c : C} {cs : Cs} (h1 : PS X st (rS G W cf c)) (h2 : PSs X rest (rSs G W cf cs)) : PSs X (st :: rest) (rSs G W cf (.cons c cs)) := by
  refine PSs.imp (pss_cons h1 h2) fun Dn σ H h => ?_
  obtain ⟨φ, s, r, A, fl, r', s', he, p⟩ := h
  simp only [exs] at he
  obtain ⟨⟨f1, r1⟩, s1, e1, he⟩ := bnd_inv he
  refine ⟨φ, s, r, A, f1, r1, s1, e1, fun φ1 H1 σ1 g1 hr1 sr1 => ?_⟩
  cases f1 with
  | nx => exact ⟨φ1, s1, r1, ⟨hr1, sr1⟩, fl, r', s', he, fun φ' H' σ' g hr sr => p φ' H' σ' (g1.trans g) hr sr⟩
  | bk => cases he; exact p φ1 H1 σ1 g1 hr1 sr1
  | ct => cases he; exact p φ1 H1 σ1 g1 hr1 sr1
  | rt d => cases he; exact p φ1 H1 σ1 g1 hr1 sr1
  | rz c => cases he; exact p φ1 H1 σ1 g1 hr1 sr1
theorem x_brk : PS X (.Break pos) (rS G W cf .brk) := by
  refine PS.imp ps_break fun Dn σ H h => ?_
  obtain ⟨φ, s, r, A, fl, r', s', he, p⟩ := h
  simp only [ex] at he
  cases he
  exact p φ H σ (Gr.refl _ _ _) A.hr A.sr
theorem x_rse {st : Stmt} {c : String} : PS X st (rS G W cf (.rse c)) := by
  refine PS.imp ps_never fun Dn σ H h => ?_
  obtain ⟨φ, s, r, A, fl, r', s', he, p⟩ := h
  simp only [ex] at he
  cases he
theorem x_ret (ha : PE X a (rE G cf ca)) : PS X (.Return (some a) pos) (rS G W cf (.ret ca)) := by
  refine PS.imp (ps_ret ha) fun Dn σ H h => ?_
  obtain ⟨φ, s, r, A, fl, r', s', he, p⟩ := h
  simp only [ex] at he
  obtain ⟨x, s1, e1, he⟩ := bnd_inv he
  cases he
  refine rd_step A e1 fun φ1 H1 v g1 A1 rv => ?_
  exact p φ1 H1 σ g1 A1.hr A1.sr v rv
theorem x_exp (ha : PE X a (rE G cf ca)) (hs : swapsWith a none pos.line X.env = pure false) : PS X (.Expr a pos) (rS G W cf (.exp ca)) := by
  refine PS.imp (ps_expr ha hs) fun Dn σ H h => ?_
  obtain ⟨φ, s, r, A, fl, r', s', he, p⟩ := h
  simp only [ex] at he
  obtain ⟨x, s1, e1, he⟩ := bnd_inv he
  cases he
  refine rd_step A e1 fun φ1 H1 v g1 A1 rv => ?_
  exact p φ1 H1 σ g1 A1.hr A1.sr
theorem asgR {i : Nat} (Dn : Ends) (σ : L2.St) (H : Hp) (h : rS G W cf (.asg i ca) Dn σ H) : tAsg (rE G cf ca) (gName i) Dn σ H := by
  obtain ⟨φ, s, r, A, fl, r', s', he, p⟩ := h
  simp only [ex] at he
  obtain ⟨x, s1, e1, he⟩ := bnd_inv he
  cases he
  refine rd_step A e1 fun φ1 H1 v g1 A1 rv => ?_
  exact p φ1 H1 _ g1 A1.hr (A1.sr.set i rv)
theorem x_asg {i : Nat} {x : Str} {pos' : Pos} (hN : X.N.Nodup) (hi : X.N[i]? = some x) (hx : Loc X.env.scope x) (he : PE X e (rE G cf ce)) (hs : swapsWith e (some (.Name x pos')) pos.line X.env = pure false) (hf : X.fn x = true ∨ X.env.scope.names.lookup x = some .local) :
    PS X (.Assign [.Name x pos'] e pos) (rS G W cf (.asg i ce)) := PS.imp (ps_set hN hi hx he hs hf) asgR
theorem x_ite {c : Expr} {sa sb : List Stmt} {cc : E} {cA cB : Cs} (hc : PT X c (rT G cf cc)) (ha : PSs X sa (rSs G W cf cA)) (hb : PSs X sb (rSs G W cf cB)) : PS X (.If c sa sb pos) (rS G W cf (.ite cc cA cB)) := by
  refine PS.imp (ps_if hc ha hb) fun Dn σ H h => ?_
  obtain ⟨φ, s, r, A, fl, r', s', he, p⟩ := h
  simp only [ex] at he
  obtain ⟨x, s1, e1, he⟩ := bnd_inv he
  have go : ∀ k, truth s1 x = some k → tst cf cc r s = some (.ok k, s1) := fun k hk => tst_of (φ := φ) e1 hk
  split at he
  · rename_i hk
    refine rd_step A (go true hk) fun φ1 H1 v g1 A1 rv => ?_
    subst rv
    rw [if_pos rfl]
    exact ⟨φ1, s1, r, A1, fl, r', s', he, fun φ' H' σ' g hr sr => p φ' H' σ' (g1.trans g) hr sr⟩
  · rename_i hk
    refine rd_step A (go false hk) fun φ1 H1 v g1 A1 rv => ?_
    subst rv
    rw [if_neg Bool.false_ne_true]
    exact ⟨φ1, s1, r, A1, fl, r', s', he, fun φ' H' σ' g hr sr => p φ' H' σ' (g1.trans g) hr sr⟩
  · cases he
/-- a, b = e -/
theorem x_tpa {is : List Nat} {tgt : Expr} (he : PE X e (rE G cf ce)) (hg : PG X tgt (gOf X.K (.tp is))) (hs : swapsWithSole [tgt] e pos.line X.env = pure false) (hw : swappedStores [tgt] e X.env = pure none) (h1 : (assignEach [tgt] X.env).map (·.2) = [assign tgt X.env]) :
    PS X (.Assign [tgt] e pos) (rS G W cf (.tpa is ce)) := by
  refine PS.imp (ps_asg he hg hs hw h1) fun Dn σ H h => ?_
  obtain ⟨φ, s, r, A, fl, r', s', he, p⟩ := h
  simp only [ex] at he
  obtain ⟨x, s1, e1, he⟩ := bnd_inv he
  refine rd_step A e1 fun φ1 H1 v g1 A1 rv => ?_
  split at he
  · rename_i xs
    split at he
    · rename_i r1 hr1
      cases he
      exact tg_ok (tg := .tp is) rv hr1 A1.sr fun σ' sr' _ _ => p φ1 H1 σ' g1 A1.hr sr'
    · cases he
  · cases he
noncomputable def augOk : Bop → Bool
  | .add => true
  | .sub => true
  | _ => false
theorem x_aug {i : Nat} {x : Str} {o : Bop} {pos' : Pos} (ho : augOk o = true) (hN : X.N.Nodup) (hi : X.N[i]? = some x) (hx : Loc X.env.scope x) (he : PE X e (rE G cf ce)) (hf : X.fn x = true ∨ X.env.scope.names.lookup x = some .local) :
    PS X (.AugAssign (.Name x pos') (bopOf o) e pos) (rS G W cf (.aug i o ce)) := by
  have go : ∀ (f : Int → Int → Int), (∀ r s v, ex cf (.aug i o ce) r s = some (.ok v, s) → True) → (∀ (r : Sl) (s : S) (a b : Int) (s1 : S), r[i]? = some (some (.int a)) → ev cf ce r s = some (.ok (.int b), s1) → ex cf (.aug i o ce) r s = some (.ok (.nx, r.set i (some (.int (f a b)))), s1)) →
      ∀ Dn σ H, rS G W cf (.aug i o ce) Dn σ H → tAug i (rE G cf ce) (ipI f) Dn σ H := by
    intro f _ hf Dn σ H h
    obtain ⟨φ, s, r, A, fl, r', s', he, p⟩ := h
    have he0 := he
    simp only [ex] at he
    split at he
    · rename_i a hr
      obtain ⟨v, hv, rv⟩ := A.sr.get i _ hr
      simp only [Rep] at rv
      subst rv
      obtain ⟨y, s1, e1, he⟩ := bnd_inv he
      split at he
      · rename_i b
        have e2 := hf r s a b s1 hr e1
        rw [he0] at e2
        cases e2
        refine ⟨_, hv, ?_⟩
        refine rd_step A e1 fun φ1 H1 w g1 A1 rw' => ?_
        simp only [Rep] at rw'
        refine ⟨a, b, rfl, rw', p φ1 H1 _ g1 A1.hr (A1.sr.set i (by simp only [Rep]))⟩
      · cases he
    · cases he
  cases o with
  | add => exact PS.imp (ps_aug hN hi hx he ip_add hf) (go (fun i j => i + j) (fun _ _ _ _ => trivial) fun r s a b s1 hr e1 => by simp only [ex, hr, e1, bnd])
  | sub => exact PS.imp (ps_aug hN hi hx he ip_sub hf) (go (fun i j => i - j) (fun _ _ _ _ => trivial) fun r s a b s1 hr e1 => by simp only [ex, hr, e1, bnd])
  | _ => cases ho
/-- o[i] = e -/
theorem x_seti {o i : Expr} {co ci : E} {tpos : Pos} (hu : X.A.units + 4499 < cLine) (ho : PE X o (rE G cf co)) (hi : PE X i (rE G cf ci)) (he : PE X e (rE G cf ce)) (hs : swapsWithSole [.Subscript o i tpos] e pos.line X.env = pure false) (hw : swappedStores [.Subscript o i tpos] e X.env = pure none)
    (h1 : (assignEach [.Subscript o i tpos] X.env).map (·.2) = [assign (.Subscript o i tpos) X.env])
    (ha : ∀ v, assign (.Subscript o i tpos) X.env v = (do
      let ov ← holding [v] (eval o X.env)
      let iv ← holding [v, ov] (eval i X.env)
      standAt tpos
      holding [v, ov, iv] (setItem ov iv v)
      release [v, ov, iv] [])) : PS X (.Assign [.Subscript o i tpos] e pos) (rS G W cf (.seti co ci ce)) := by
  refine ⟨fun pins s0 σ H Dn I h => ?_⟩
  obtain ⟨φ, s, r, A, fl, r', s', hev, p⟩ := h
  simp only [ex] at hev
  obtain ⟨v, s1, e1, hev1⟩ := bnd_inv hev
  obtain ⟨x, s2, e2, hev2⟩ := bnd_inv hev1
  obtain ⟨k, s3, e3, hev3⟩ := bnd_inv hev2
  split at hev3
  · rename_i n
    split at hev3
    · rename_i xs hn
      split at hev3
      · rename_i k
        split at hev3
        · rename_i j hj
          cases hev3
          refine (ps_asg (pos := pos) he (pg_sub ho hi set_list ha) hs hw h1).run pins s0 σ H Dn I ?_
          refine rd_step A e1 fun φ1 H1 vv g1 A1 rv => ?_
          refine rd_step A1 e2 fun φ2 H2 xv g2 A2 rx => ?_
          refine rd_step A2 e3 fun φ3 H3 kv g3 A3 rk => ?_
          obtain ⟨q, vs, rfl, hq, h1, h2⟩ := box_at A3.hr (Rep.mono g3 _ rx) hn
          simp only [Rep] at rk
          have l2 := h2.set j (Rep.mono g3 v (Rep.mono g2 v rv))
          have g : Gr φ3 s3 H3 φ3 (s3.put n (.lst (xs.set j v))) (upd H3 q (.lst (vs.set j vv))) := Gr.write A3.hr hn hq
          refine ⟨q, vs, k, j, rfl, rk, h1, by rw [h2.length]; exact hj, ?_⟩
          exact p φ3 _ σ (((g1.trans g2).trans g3).trans g) (A3.hr.write hn hq ⟨_, upd_same, RepL.mono g _ l2⟩) (A3.sr.mono g)
        · cases hev3
      · cases hev3
    · rename_i kvs hn
      split at hev3
      · rename_i kk hkk
        split at hev3
        · rename_i hz
          cases hev3
          refine (ps_dput (pos := pos) (by omega) ho hi he hs).run pins s0 σ H Dn I ?_
          refine rd_step A e1 fun φ1 H1 vv g1 A1 rv => ?_
          refine rd_step A1 e2 fun φ2 H2 xv g2 A2 rx => ?_
          refine rd_step A2 e3 fun φ3 H3 kv g3 A3 rk => ?_
          obtain ⟨n', q, ks, hn', rfl, h0, hq, h1, h2⟩ := dic_at (kvs := kvs) A3.hr (Rep.mono g3 _ rx) (by simp only [dcont, hn])
          cases hn'
          have hk := key_ok rk hkk
          subst hk
          have l2 := KRg.put ky_inj (k := kk) (Rep.mono g3 v (Rep.mono g2 v rv)) h2
          have g : Gr φ3 s3 H3 φ3 (s3.put n (.dic (dput kvs kk v))) (upd H3 q (.dK (putK ks (kyOf kk) vv))) := Gr.write A3.hr hn hq
          refine ⟨q, _, rfl, DPut.k h1 (by rw [h2.length, ← LIM_eq]; exact hz), ?_⟩
          exact p φ3 _ σ (((g1.trans g2).trans g3).trans g) (A3.hr.write hn hq ⟨_, upd_same, l2.mono g⟩) (A3.sr.mono g)
        · cases hev3
      · cases hev3
    · rename_i kvs hn
      split at hev3
      · rename_i kk hkk
        split at hev3
        · rename_i hz
          cases hev3
          refine (ps_dput (pos := pos) (by omega) ho hi he hs).run pins s0 σ H Dn I ?_
          refine rd_step A e1 fun φ1 H1 vv g1 A1 rv => ?_
          refine rd_step A1 e2 fun φ2 H2 xv g2 A2 rx => ?_
          refine rd_step A2 e3 fun φ3 H3 kv g3 A3 rk => ?_
          obtain ⟨n', q, ks, hn', rfl, h0, hq, h1, h2⟩ := dit_at (kvs := kvs) A3.hr (Rep.mono g3 _ rx) (by simp only [tcont, hn])
          cases hn'
          obtain ⟨c, rfl, h4⟩ := keyT_ok rk hkk
          have l2 := KRg.put kyT_inj (k := kk) (Rep.mono g3 v (Rep.mono g2 v rv)) h2
          have g : Gr φ3 s3 H3 φ3 (s3.put n (.dit (dput kvs kk v))) (upd H3 q (.dT (putK ks (kk.map kyOf) vv))) := Gr.write A3.hr hn hq
          refine ⟨q, _, rfl, DPut.t h1 h4 (by rw [h2.length, ← LIM_eq]; exact hz), ?_⟩
          exact p φ3 _ σ (((g1.trans g2).trans g3).trans g) (A3.hr.write hn hq ⟨_, upd_same, l2.mono g⟩) (A3.sr.mono g)
        · cases hev3
      · cases hev3
    · cases hev3
  · cases hev3
theorem x_for {tgt iter : Expr} {body : List Stmt} {tg : Tg} {it : It} {cs : Cs} (hp : PassesOwn (model X.prog X.w) X.A X.env X.xe) (hc : X.calm = true) (hi : PI X tgt iter (rI G cf it)) (hg : PG X tgt (gOf X.K tg)) (hb : PSs X body (rSs G W cf cs))
    (hs : ∀ x, foldedSetIterable iter X.env x = pure x) : PS X (.For tgt iter body [] pos) (rS G W cf (.for tg it cs)) := by
  refine PS.imp (ps_for hp hc hi hg hb hs) fun Dn σ H h => ?_
  obtain ⟨φ, s, r, A, fl, r', s', he, p⟩ := h
  simp only [ex] at he
  obtain ⟨iv, s1, e1, he⟩ := bnd_inv he
  refine rd_step A e1 fun φ1 H1 J g1 A1 jok => ?_
  split at he
  · cases he
  · rename_i n hn
    refine ⟨fun i m σ H => ∃ φ s r, At G φ s H r σ ∧ Gr φ1 s1 H1 φ s H ∧ forN tg iv (exs cf cs) m i r s = some (.ok (fl, r'), s'), ⟨n + 1, φ1, s1, r, A1, Gr.refl _ _ _, he⟩, ?_⟩
    rintro i m σ2 H2 ⟨φ2, s2, r2, A2, g2, ee⟩
    cases m with
    | zero =>
      unfold forN at ee
      cases ee
    | succ m =>
      unfold forN at ee
      split at ee
      · cases ee
      · rename_i n' hn'
        obtain ⟨j1, j2⟩ := jok φ2 s2 H2 g2 A2.hr n' i hn'
        split at ee
        · rename_i hi
          split at ee
          · cases ee
          · rename_i x hx
            split at ee
            · cases ee
            · rename_i r3 hr3
              obtain ⟨go, yl⟩ := j1 hi x hx
              refine .inr ⟨go, _, fun _ _ z => z, fun xv H3 y => ?_⟩
              obtain ⟨g3, hr4, rx⟩ := yl xv H3 y
              refine tg_ok rx hr3 (A2.sr.mono g3) fun σ3 sr3 _ _ => ?_
              obtain ⟨⟨f4, r4⟩, s4, e4, ee⟩ := bnd_inv ee
              refine ⟨φ2, s2, r3, ⟨hr4, sr3⟩, f4, r4, s4, e4, fun φ5 H5 σ5 g5 hr5 sr5 => ?_⟩
              have g6 : Gr φ1 s1 H1 φ5 s4 H5 := (g2.trans g3).trans g5
              cases f4 with
              | nx => exact ⟨m, Nat.lt_succ_self m, φ5, s4, r4, ⟨hr5, sr5⟩, g6, ee⟩
              | ct => exact ⟨m, Nat.lt_succ_self m, φ5, s4, r4, ⟨hr5, sr5⟩, g6, ee⟩
              | bk => cases ee; exact p φ5 H5 σ5 (g1.trans g6) hr5 sr5
              | rt d => cases ee; exact p φ5 H5 σ5 (g1.trans g6) hr5 sr5
              | rz c => cases ee; exact p φ5 H5 σ5 (g1.trans g6) hr5 sr5
        · rename_i hi
          cases ee
          exact .inl ⟨j2 (by omega), p φ2 H2 σ2 (g1.trans g2) A2.hr A2.sr⟩
theorem x_whl {c : Expr} {body : List Stmt} {cc : E} {cs : Cs} (hp : PassesOwn (model X.prog X.w) X.A X.env X.xe) (hc : PT X c (rT G cf cc)) (hb : PSs X body (rSs G W cf cs)) : PS X (.While c body [] pos) (rS G W cf (.whl cc cs)) := by
  refine PS.imp (ps_while hp hc hb) fun Dn σ H h => ?_
  obtain ⟨φ, s, r, A, fl, r', s', he, p⟩ := h
  simp only [ex] at he
  refine ⟨fun m σ2 H2 => ∃ φ2 s2 r2, At G φ2 s2 H2 r2 σ2 ∧ Gr φ s H φ2 s2 H2 ∧ whlN (ev cf cc) (exs cf cs) m r2 s2 = some (.ok (fl, r'), s'), ⟨WF, φ, s, r, A, Gr.refl _ _ _, he⟩, ?_⟩
  rintro m σ2 H2 ⟨φ2, s2, r2, A2, g2, ee⟩
  cases m with
  | zero =>
    unfold whlN at ee
    cases ee
  | succ m =>
    unfold whlN at ee
    obtain ⟨x, s3, e3, ee⟩ := bnd_inv ee
    have go : ∀ k, truth s3 x = some k → tst cf cc r2 s2 = some (.ok k, s3) := fun k hk => tst_of (φ := φ) e3 hk
    split at ee
    · rename_i hk
      refine rd_step A2 (go true hk) fun φ3 H3 v g3 A3 rv => ?_
      subst rv
      rw [if_pos rfl]
      refine ⟨_, fun _ _ z => z, ?_⟩
      obtain ⟨⟨f4, r4⟩, s4, e4, ee⟩ := bnd_inv ee
      refine ⟨φ3, s3, r2, A3, f4, r4, s4, e4, fun φ5 H5 σ5 g5 hr5 sr5 => ?_⟩
      have g6 : Gr φ s H φ5 s4 H5 := (g2.trans g3).trans g5
      cases f4 with
      | nx => exact ⟨m, Nat.lt_succ_self m, φ5, s4, r4, ⟨hr5, sr5⟩, g6, ee⟩
      | ct => exact ⟨m, Nat.lt_succ_self m, φ5, s4, r4, ⟨hr5, sr5⟩, g6, ee⟩
      | bk => cases ee; exact p φ5 H5 σ5 g6 hr5 sr5
      | rt d => cases ee; exact p φ5 H5 σ5 g6 hr5 sr5
      | rz c => cases ee; exact p φ5 H5 σ5 g6 hr5 sr5
    · rename_i hk
      refine rd_step A2 (go false hk) fun φ3 H3 v g3 A3 rv => ?_
      subst rv
      rw [if_neg Bool.false_ne_true]
      cases ee
      exact p φ3 H3 σ2 (g2.trans g3) A3.hr A3.sr
    · cases ee
end
end Fl
namespace Fl
open PySem PySem.Calls PyProof.Rows PyProof.V PySem.Spec PySem.W
structure EnG (its : Array Value) (lo : Addr) (h : Heap) (as : List Addr) : Prop where
  rise : as.Pairwise (· < ·)
  above : ∀ a ∈ as, lo < a
  pairs : ∀ (j : Nat) (a : Addr), as[j]? = some a → ∃ (hj : j < its.size) (t : Tok), h.get? a = some { cls := .type "tuple", data := .seq #[.int (j : Nat) t, its[j]] }
theorem EnG.there {its : Array Value} {lo : Addr} {h : Heap} {as : List Addr} (g : EnG its lo h as) {a : Addr} (ha : a ∈ as) : a < h.objs.size := by
  obtain ⟨j, hj⟩ := List.mem_iff_getElem?.mp ha
  obtain ⟨_, _, e⟩ := g.pairs j a hj
  exact Heap.lt_size e
noncomputable def EnSt (h : Heap) (e it l S : Addr) (i : Nat) (its : Array Value) : Prop := h.IsListIter it l i ∧ h.IsList l its ∧
  ((∃ old, IsEnum h e it (i : Nat) old) ∨ ∃ old T f oT, IsEnumHeld h e it (i : Nat) old T f ∧ h.get? T = some oT ∧ T ≠ e ∧ T ≠ it ∧ T ≠ S)
section
variable {prog : Program} {w : World} {A : Around} {E : Value → Shared → Prop} {s : Shared} {e it l S : Addr} {its : Array Value}
theorem en_item {i : Nat} {Q : Option Value → Shared → Prop} (hei : e ≠ it) (hle : l ≠ e) (hli : l ≠ it) (hst : EnSt s.heap e it l S i its) (hS : S < s.heap.objs.size) (hlt : i < its.size)
    (hQ : ∀ h' tk, EnSt h' e it l S (i + 1) its → (∃ t, h'.get? s.heap.objs.size = some { cls := .type "tuple", data := .seq #[.int (i : Nat) t, its[i]] }) → h'.objs.size = s.heap.objs.size + 1 →
      (∀ b o, b ≠ e → b ≠ it → s.heap.get? b = some o → h'.get? b = some o) → Q (some (.ref s.heap.objs.size)) { s with heap := h', toks := tk }) :
    wpAny (model prog w) A (pyNext (.ref e)) Q E s := by
  obtain ⟨h1, h2, h3⟩ := hst
  have ex := Array.getElem?_eq_getElem hlt
  have hil : it < s.heap.objs.size := by obtain ⟨_, q, _⟩ := h1; exact Heap.lt_size q
  rcases h3 with ⟨old, he⟩ | ⟨old, T, f, oT, he, hT, r1, r2, r3⟩
  · refine wpAny_pyNext_enum_item he h1 h2 ex hei fun h' a1 a2 a3 a4 hk => ?_
    exact hQ h' _ ⟨a2, h2.at fun o y => hk _ o hle hli y, .inr ⟨_, s.heap.objs.size, false, _, a1, a3, Nat.ne_of_gt (Heap.lt_size he), Nat.ne_of_gt hil, Nat.ne_of_gt hS⟩⟩ ⟨_, a3⟩ a4 hk
  · refine wpAny_pyNext_enum_item_held he hT r1 r2 h1 h2 ex hei fun h' a1 a2 a3 a4 hk => ?_
    exact hQ h' _ ⟨a2, h2.at fun o y => hk _ o hle hli y, .inr ⟨_, T, true, oT, a1, hk _ _ r1 r2 hT, r1, r2, r3⟩⟩ ⟨_, a3⟩ a4 hk
theorem en_done {i : Nat} {Q : Option Value → Shared → Prop} (hh : A.handled = none) (hst : EnSt s.heap e it l S i its) (hge : its.size ≤ i)
    (hQ : ∀ h', Heap.ExtBut it s.heap h' → Q none { s with heap := h' }) : wpAny (model prog w) A (pyNext (.ref e)) Q E s := by
  obtain ⟨h1, h2, h3⟩ := hst
  rcases h3 with ⟨old, he⟩ | ⟨old, T, f, oT, he, hT, r1, r2, r3⟩
  · exact wpAny_pyNext_enum_end hh he h1 h2 (Array.getElem?_eq_none hge) hQ
  · exact wpAny_pyNext_enum_end_held hh he h1 h2 (Array.getElem?_eq_none hge) hQ
end
theorem EnSt.keep {h h' : Heap} {e it l S : Addr} {i : Nat} {its : Array Value} (st : EnSt h e it l S i its) (k : ∀ b o, b ≠ S → h.get? b = some o → h'.get? b = some o) (h1 : e ≠ S) (h2 : it ≠ S) (h3 : l ≠ S) : EnSt h' e it l S i its := by
  obtain ⟨a, b, c⟩ := st
  refine ⟨a.at fun o y => k _ o h2 y, b.at fun o y => k _ o h3 y, ?_⟩
  rcases c with ⟨old, he⟩ | ⟨old, T, f, oT, he, hT, r1, r2, r3⟩
  · exact .inl ⟨old, k _ _ h1 he⟩
  · exact .inr ⟨old, T, f, oT, k _ _ h1 he, k _ _ r3 hT, r1, r2, r3⟩
section
variable {prog : Program} {w : World} {A : Around} {s : Shared} {R : Result → Shared → Prop} {its : Array Value}
theorem en_loop {S e it l : Addr} (hh : A.handled = none) (hei : e ≠ it) (hle : l ≠ e) (hli : l ≠ it) (heS : e < S) (hiS : it < S) (hlS : l < S) (hn : its.size ≤ sizeLine) (res : Value) {h₁ : Heap}
    (hR : ∀ h' tk acc c as, (∀ b o, b ≠ S → b ≠ e → b ≠ it → h₁.get? b = some o → h'.get? b = some o) → h'.get? S = some { cls := .type "list", dict := none, data := .seq acc c, slots := #[] } → as.length = its.size → EnG its S h' as →
      acc.toList = as.map Value.ref → R (.ok (.ret res)) { s with heap := h', toks := tk }) :
    ∀ (k i : Nat) (h : Heap) (tk c : Nat) (acc : Array Value) (as : List Addr), its.size - i = k → i ≤ its.size → EnSt h e it l S i its → (∀ b o, b ≠ S → b ≠ e → b ≠ it → h₁.get? b = some o → h.get? b = some o) →
      h.get? S = some { cls := .type "list", dict := none, data := .seq acc c, slots := #[] } → acc.toList = as.map Value.ref → as.length = i → EnG its S h as →
      codeAny (model prog w) A (.builtin "list.extend.loop" ⟨[.ref S, .ref e, res], []⟩) R { s with heap := h, toks := tk } := by
  have hne : S ≠ e := Nat.ne_of_gt heS
  have hni : S ≠ it := Nat.ne_of_gt hiS
  have hnl : S ≠ l := Nat.ne_of_gt hlS
  intro k
  induction k with
  | zero =>
    intro i h tk c acc as hk hi hst hkeep hS hacc hal hG
    have hin : i = its.size := by omega
    refine codeAny_builtin PySem.F.entry_extend_loop ?_
    rw [Around.under_plainId PySem.F.plain_extend_loop _]
    show wpAny _ A.in1 (pyNext (.ref e) >>= _) _ _ _
    refine wpAny_bind (en_done (s := { s with heap := h, toks := tk }) (A := A.in1) hh hst (by omega) fun h' he => ?_)
    refine wpAny_pure (hR h' tk acc c as (fun b o h1 h2 h3 e => he b o h3 (hkeep b o h1 h2 h3 e)) (he S _ hni hS) (by omega) ⟨hG.rise, hG.above, fun j a hj => ?_⟩ hacc)
    obtain ⟨hj', t, e3⟩ := hG.pairs j a hj
    exact ⟨hj', t, he a _ (Nat.ne_of_gt (Nat.lt_trans hiS (hG.above a (List.mem_of_getElem? hj)))) e3⟩
  | succ k ih =>
    intro i h tk c acc as hk hi hst hkeep hS hacc hal hG
    have hlt : i < its.size := by omega
    have hsz : acc.size = i := by rw [← Array.length_toList, hacc, List.length_map, hal]
    refine codeAny_builtin PySem.F.entry_extend_loop ?_
    rw [Around.under_plainId PySem.F.plain_extend_loop _]
    show wpAny _ A.in1 (pyNext (.ref e) >>= _) _ _ _
    refine wpAny_bind (en_item (s := { s with heap := h, toks := tk }) (S := S) hei hle hli hst (Heap.lt_size hS) hlt fun h' tk' hst' ht hz hkp => ?_)
    dsimp only at ht hz hkp ⊢
    have hS' := hkp S _ hne hni hS
    have up : ∀ b o, b ≠ S → h'.get? b = some o → (h'.update S (Obj.mapSeq (·.push (Value.ref h.objs.size)))).get? b = some o := fun b o hb e => (Heap.get?_update_other _ _ (Ne.symm hb)).trans e
    have hSl : S < h.objs.size := Heap.lt_size hS
    show wpAny _ A.in1 (updateSeq S (·.push (Value.ref h.objs.size)) >>= _) _ _ _
    refine wpAny_bind ?_
    refine wpAny_updateSeq hS' rfl (wpAny_pure ⟨plainId_quiet PySem.F.plain_extend_loop _, ih (i + 1) _ tk' _ (acc.push (Value.ref h.objs.size)) (as ++ [h.objs.size]) (by omega) hlt (hst'.keep up (Ne.symm hne) (Ne.symm hni) (Ne.symm hnl))
      (fun b o h1 h2 h3 e => up b o h1 (hkp b o h2 h3 (hkeep b o h1 h2 h3 e))) (Heap.get?_update_self _ hS' rfl) (by rw [Array.toList_push, hacc, List.map_append]; rfl) (by rw [List.length_append, hal]; rfl) ⟨?_, ?_, ?_⟩⟩) (by rw [hsz]; omega) (by show (acc.push (Value.ref h.objs.size)).size ≤ sizeLine + 1; rw [Array.size_push, hsz]; omega)
    · refine List.pairwise_append.mpr ⟨hG.rise, List.pairwise_singleton _ _, fun a ha b hb => ?_⟩
      rw [List.mem_singleton.mp hb]
      exact hG.there ha
    · intro a ha
      rcases List.mem_append.mp ha with ha | ha
      · exact hG.above a ha
      · rw [List.mem_singleton.mp ha]; exact hSl
    · intro j b hj
      rcases Nat.lt_trichotomy j as.length with h1 | h1 | h1
      · rw [List.getElem?_append_left h1] at hj
        obtain ⟨hj', t, e3⟩ := hG.pairs j b hj
        have hb := hG.above b (List.mem_of_getElem? hj)
        exact ⟨hj', t, up b _ (Nat.ne_of_gt hb) (hkp b _ (Nat.ne_of_gt (Nat.lt_trans heS hb)) (Nat.ne_of_gt (Nat.lt_trans hiS hb)) e3)⟩
      · subst h1
        have hb : h.objs.size = b := by simpa using hj
        subst hb
        obtain ⟨t, ht⟩ := ht
        exact ⟨by omega, t, by subst hal; exact up _ _ (Nat.ne_of_gt hSl) ht⟩
      · have hnone : (as ++ [h.objs.size])[j]? = none := List.getElem?_eq_none (by rw [List.length_append, List.length_singleton]; omega)
        rw [hnone] at hj; cases hj
end
theorem en_nolen : typeLookup (.type "enumerate") "__len__" = pure none := by rw [typeLookup_type, builtinLookup_eq_fast]; kernel_rfl
theorem en_nohint : typeLookup (.type "enumerate") "__length_hint__" = pure none := by rw [typeLookup_type, builtinLookup_eq_fast]; kernel_rfl
section
variable {prog : Program} {w : World} {A : Around} {E : Value → Shared → Prop} {s : Shared} {e it l : Addr} {its : Array Value}
theorem en_hint (hT : s.TypeIs (.ref e) "enumerate") {Q : Bool → Shared → Prop} (h : Q true s) : wpAny (model prog w) A (Builtin.List.listLengthHint (.ref e)) Q E s := by
  unfold Builtin.List.listLengthHint
  refine wpAny_bind (wpAny_specialOf hT en_nolen ?_)
  show wpAny _ A (specialOf (Value.ref e) (Str.ofString "__length_hint__") >>= _) _ _ _
  refine wpAny_bind (wpAny_specialOf hT en_nohint ?_)
  exact wpAny_pure h
theorem en_extend {R : Result → Shared → Prop} {S : Addr} (hh : A.handled = none) (hei : e ≠ it) (hle : l ≠ e) (hli : l ≠ it) (heS : e < S) (hiS : it < S) (hlS : l < S) (he : IsEnum s.heap e it 0 .none) (hit : s.heap.IsListIter it l 0) (hl : s.heap.IsList l its)
    (res : Value) (c₀ : Nat) (hS : s.heap.get? S = some { cls := .type "list", data := .seq #[] c₀ })
    (hR : ∀ h' tk acc c as, (∀ b o, b ≠ S → b ≠ e → b ≠ it → s.heap.get? b = some o → h'.get? b = some o) → h'.get? S = some { cls := .type "list", dict := none, data := .seq acc c, slots := #[] } → as.length = its.size → EnG its S h' as →
      acc.toList = as.map Value.ref → R (.ok (.ret res)) { s with heap := h', toks := tk }) (hn : its.size ≤ sizeLine) :
    wpAny (model prog w) A.in1 (Builtin.List.listExtendWith (.ref S) (.ref e) res)
      (fun fin s' => match fin with | .done f => R (.ok f) s' | .again c' => c'.quiet = true ∧ codeAny (model prog w) A c' R s') (fun e s' => R (.error e) s') s := by
  have hTy : s.TypeIs (.ref e) "enumerate" := ⟨_, he, rfl⟩
  unfold Builtin.List.listExtendWith
  refine wpAny_bind (wpAny_typeOf (T := "enumerate") hTy ?_)
  have h1 : Builtin.List.listSameRef (.ref S) (.ref e) = false := by simp [Builtin.List.listSameRef, Nat.ne_of_gt heS]
  have h2 : (Value.type "enumerate" == Value.type "list") = false := by decide
  have h3 : (Value.type "enumerate" == Value.type "tuple") = false := by decide
  simp only [h1, h2, h3, Bool.or_false, Bool.false_eq_true, if_false]
  refine wpAny_bind (wpAny_pyIter_enum he ?_)
  refine wpAny_bind (wpAny_holding (en_hint hTy ?_))
  show wpAny _ A.in1 (rule "list.extend.makes-room" >>= fun _ => Builtin.List.listTouch (.ref S) >>= fun _ => again (.builtin "list.extend.loop" ⟨[.ref S, .ref e, res], []⟩)) _ _ _
  refine wpAny_bind (wpAny_rule ?_)
  refine wpAny_bind ?_
  show wpAny _ _ (updateSeq S (·.push .none) >>= fun _ => updateSeq S (·.pop)) _ _ _
  refine wpAny_bind (wpAny_updateSeq hS rfl ?_)
  have hS₂ := Heap.get?_update_self (Obj.mapSeq (·.push Value.none)) hS rfl
  refine wpAny_updateSeq (hz := by seq_fits) hS₂ rfl ?_
  have hS₃ := Heap.get?_update_self (Obj.mapSeq (·.pop)) hS₂ rfl
  have oth : ∀ b o, b ≠ S → s.heap.get? b = some o → ((s.heap.update S (Obj.mapSeq (·.push Value.none))).update S (Obj.mapSeq (·.pop))).get? b = some o :=
    fun b o hb e => (Heap.get?_update_other _ _ (Ne.symm hb)).trans ((Heap.get?_update_other _ _ (Ne.symm hb)).trans e)
  refine wpAny_pure ⟨plainId_quiet PySem.F.plain_extend_loop _, ?_⟩
  exact en_loop (s := s) (h₁ := s.heap) hh hei hle hli heS hiS hlS hn res hR its.size 0 _ s.toks _ #[] [] (Nat.sub_zero _) (Nat.zero_le _)
    (EnSt.keep (h := s.heap) ⟨hit, hl, .inl ⟨_, he⟩⟩ oth (Nat.ne_of_lt heS) (Nat.ne_of_lt hiS) (Nat.ne_of_lt hlS)) (fun b o h1 _ _ x => oth b o h1 x) hS₃ rfl rfl ⟨List.Pairwise.nil, (fun _ ha => nomatch ha), (fun j a hj => by simp at hj)⟩
theorem en_call {Q : Value → Shared → Prop} (hh : A.handled = none) (hei : e ≠ it) (hle : l ≠ e) (hli : l ≠ it) (he : IsEnum s.heap e it 0 .none) (hit : s.heap.IsListIter it l 0) (hl : s.heap.IsList l its) (hn : its.size ≤ sizeLine)
    (hQ : ∀ h' tk acc c as, (∀ b o, b ≠ e → b ≠ it → s.heap.get? b = some o → h'.get? b = some o) → h'.get? s.heap.objs.size = some { cls := .type "list", dict := none, data := .seq acc c, slots := #[] } → as.length = its.size → EnG its s.heap.objs.size h' as →
      acc.toList = as.map Value.ref → Q (.ref s.heap.objs.size) { s with heap := h', toks := tk }) :
    wpAny (model prog w) A (call (.type "list") [.ref e]) Q E s := by
  refine callType_codes (Q₁ := fun obj s₁ => obj = .ref s.heap.objs.size ∧ s₁ = { s with heap := s.heap.push { cls := .type "list", data := .seq #[] } }) PySem.F.called_list (PySem.F.typeCall_list_1 _) PySem.F.entry_list_init
    (code_list_new _ ⟨rfl, rfl⟩) fun obj s₁ h₁ => ?_
  obtain ⟨rfl, rfl⟩ := h₁
  have hS : (s.heap.push { cls := .type "list", data := .seq #[] }).get? s.heap.objs.size = some { cls := .type "list", data := .seq #[] } := Heap.get?_push_size _ rfl
  have he' : e < s.heap.objs.size := Heap.lt_size he
  have hi' : it < s.heap.objs.size := let ⟨_, ho, _⟩ := hit; Heap.lt_size ho
  have hl' : l < s.heap.objs.size := let ⟨_, ho, _⟩ := hl; Heap.lt_size ho
  refine ⟨⟨_, hS, rfl⟩, PySem.F.args_list_init_2 _ _, ?_⟩
  show wpAny _ _ (do let old ← Builtin.List.listItems (.ref s.heap.objs.size); Builtin.List.listUpdate (.ref s.heap.objs.size) (fun _ => #[]); letGo old.toList.reverse; Builtin.List.listExtendWith (.ref s.heap.objs.size) (.ref e) .none) _ _ _
  refine wpAny_bind ?_
  unfold Builtin.List.listItems
  refine wpAny_bind (wpAny_seqItems hS rfl (wpAny_pure ?_))
  show wpAny _ _ (updateSeq s.heap.objs.size (fun _ => #[]) >>= fun _ => letGo (#[] : Array Value).toList.reverse >>= fun _ => Builtin.List.listExtendWith (.ref s.heap.objs.size) (.ref e) .none) _ _ _
  refine wpAny_bind (wpAny_updateSeq hS rfl ?_)
  have hS₂ := Heap.get?_update_self (Obj.mapSeq (fun _ => (#[] : Array Value))) hS rfl
  have oth : ∀ b o, b ≠ s.heap.objs.size → s.heap.get? b = some o → ((s.heap.push { cls := .type "list", data := .seq #[] }).update s.heap.objs.size (Obj.mapSeq (fun _ => (#[] : Array Value)))).get? b = some o :=
    fun b o hb e => (Heap.get?_update_other _ _ (Ne.symm hb)).trans (Heap.get?_push_of_some _ e)
  refine wpAny_bind (wpAny_letGo ?_)
  refine en_extend (A := A.in1) hh hei hle hli he' hi' hl' (oth _ _ (Nat.ne_of_lt he') he) (hit.at fun o x => oth _ o (Nat.ne_of_lt hi') x) (hl.at fun o x => oth _ o (Nat.ne_of_lt hl') x) .none _ hS₂ (fun h' tk acc c as hk hS' hl hG hacc => ?_) hn
  exact ⟨rfl, hQ h' tk acc c as (fun b o h1 h2 x => hk b o (Nat.ne_of_lt (Heap.lt_size x)) h1 h2 (oth b o (Nat.ne_of_lt (Heap.lt_size x)) x)) hS' hl hG hacc⟩
end
section
open L2
/-- the tuples' parts -/
noncomputable def kvE : Nat → List V → List (Key × V)
  | _, [] => []
  | i, x :: xs => (.inl (i : Nat), x) :: kvE (i + 1) xs
theorem kvE_len : ∀ (i : Nat) (xs : List V), (kvE i xs).length = xs.length
  | _, [] => rfl
  | i, x :: xs => by show (kvE (i + 1) xs).length + 1 = xs.length + 1; rw [kvE_len]
theorem kvE_get : ∀ (xs : List V) (i j : Nat), (kvE i xs)[j]? = (xs[j]?).map fun x => (.inl ((i + j : Nat) : Int), x)
  | [], i, j => by simp [kvE]
  | x :: xs, i, 0 => by simp [kvE]
  | x :: xs, i, j + 1 => by
    show (kvE (i + 1) xs)[j]? = _
    rw [kvE_get xs (i + 1) j]
    simp only [List.getElem?_cons_succ]
    congr 1
    funext y
    have : i + 1 + j = i + (j + 1) := by omega
    rw [this]
variable {X : Cx}
theorem en_laid {pins : List (Addr × Obj)} {σ : L2.St} {H : Hp} {s : Shared} {h' : Heap} {tk : Nat} {xs : List V} {its : List Value} {acc : Array Value} {c : Nat} {as : List Addr} {S : Addr} (I : Inv X pins σ H s) (hz : xs.length ≤ sizeLine) (rv : Vals xs its)
    (hk : ∀ b o, s.heap.get? b = some o → h'.get? b = some o) (hSz : s.heap.objs.size ≤ S) (hS : h'.get? S = some { cls := .type "list", dict := none, data := .seq acc c, slots := #[] }) (hl : as.length = its.toArray.size) (hG : EnG its.toArray S h' as) (hacc : acc.toList = as.map Value.ref) :
    (∀ t ∈ as, H t = none) ∧ as.Nodup ∧ (LiI.putT H as (kvE 0 xs)) S = none ∧ Inv X pins σ (upd (LiI.putT H as (kvE 0 xs)) S (.lst (as.map V.ref))) { s with heap := h', toks := tk } := by
  have lk : xs.length = its.length := rv.length
  have la : as.length = xs.length := by rw [hl, lk, List.size_toArray]
  have hSn : S ∉ as := fun z => Nat.lt_irrefl _ (hG.above _ z)
  have nd : as.Nodup := List.Pairwise.imp (fun {a b} (h : a < b) => Nat.ne_of_lt h) hG.rise
  have new : ∀ t ∈ as, H t = none := fun t ht => I.hok.fresh (Nat.le_trans hSz (Nat.le_of_lt (hG.above t ht)))
  have newS : H S = none := I.hok.fresh hSz
  have atP := LiI.putT_at as (kvE 0 xs) H (by rw [kvE_len]; exact la) nd
  have offp : ∀ b, b ∉ as → LiI.putT H as (kvE 0 xs) b = H b := fun b h1 => LiI.putT_off as (kvE 0 xs) _ h1
  have off : ∀ b, b ∉ as → b ≠ S → upd (LiI.putT H as (kvE 0 xs)) S (.lst (as.map V.ref)) b = H b := fun b h1 h2 => by rw [upd_ne h2, offp b h1]
  have low : ∀ b o, s.heap.get? b = some o → b ∉ as ∧ b ≠ S := fun b o e => ⟨fun z => absurd (Heap.lt_size e) (Nat.not_lt.mpr (Nat.le_trans hSz (Nat.le_of_lt (hG.above b z)))), Nat.ne_of_lt (Nat.lt_of_lt_of_le (Heap.lt_size e) hSz)⟩
  have kp : ∀ b u, H b = some u → (upd (LiI.putT H as (kvE 0 xs)) S (.lst (as.map V.ref))) b = some u := fun b u e => by
    rw [off b (fun z => by rw [new b z] at e; cases e) (fun z => by rw [z, newS] at e; cases e)]
    exact e
  refine ⟨new, nd, by rw [offp S hSn, newS], ?_⟩
  refine I.call' (ch := []) rfl ⟨fun b o q _ _ _ => hk b o q, fun b o q _ _ _ => ⟨o.slots, hk b o q⟩, fun b o q n _ => ?_, fun b o q _ => ⟨o, hk b o q⟩, fun b xs q => kp b _ q, fun b o u q => kp b _ q, fun b ps q => ⟨#[], by rw [kp b _ q]; simp⟩⟩ (fun b u q => ?_) I.bare fun b z => by simp at z
  · obtain ⟨z1, z2⟩ := low b o q
    rw [off b z1 z2]
    exact n
  · by_cases hb2 : b = S
    · rw [hb2] at q ⊢
      rw [upd_same] at q
      cases q
      refine ⟨by rw [List.length_map, la]; exact hz, acc.toList, c, by rw [hacc]; exact LiI.vals_refs as, ?_⟩
      rw [Array.toArray_toList]
      exact hS
    · by_cases hb : b ∈ as
      · obtain ⟨j, pk, e1, e2, e3⟩ := LiI.paired_ix atP hb
        rw [upd_ne hb2, e3] at q
        cases q
        obtain ⟨hj, t, f3⟩ := hG.pairs j b e1
        rw [kvE_get] at e2
        obtain ⟨x, g1, g2⟩ := Option.map_eq_some_iff.mp e2
        subst g2
        obtain ⟨u, g3, g4⟩ := rv.get g1
        have f4 : its.toArray[j] = u := by
          have : its[j]? = some its.toArray[j] := by simp
          rw [g3] at this
          exact (Option.some.inj this).symm
        rw [f4] at f3
        refine ⟨by show 2 ≤ sizeLine; decide, [.int (j : Nat) t, u], .cons ⟨t, by simp⟩ (.cons g4 .nil), ⟨_, f3, rfl, _, rfl⟩⟩
      · rw [off b hb hb2] at q
        exact (I.hok b u q).stay (fun d v _ y => hk d v y) (fun d y => kp d _ y) fun d xs y => kp d _ y
/-- list(enumerate(e)) -/
noncomputable def tLenm (K : PySem.W.Frag) (te : TE) : TE := fun σ H Q => te σ H fun x H1 => ∃ (a : Addr) (xs : List V), x = .ref a ∧ SqL K H1 a xs ∧
  ∀ (ts : List Addr), (∀ t ∈ ts, H1 t = none) → ts.Nodup → ts.length = xs.length → ∀ p, (LiI.putT H1 ts (kvE 0 xs)) p = none → Q (.ref p) (upd (LiI.putT H1 ts (kvE 0 xs)) p (.lst (ts.map V.ref)))
theorem pe_lenm {e : Expr} {te : TE} {p p2 pos pos2 : Pos} (hc : X.calm = true) (he : PE X e te) (hgl : Gl X "list") (hml : X.mg "list" = none) (hge : Gl X "enumerate") (hme : X.mg "enumerate" = none) (na : starEach [e] X.env = (false, eval e X.env) :: starEach [] X.env) :
    PE X (.Call (.Name "list" p) [.Call (.Name "enumerate" p2) [e] [] pos2] [] pos) (tLenm X.K te) := by
  refine ⟨fun pins s σ H Q I hq => ?_⟩
  have na2 : starEach [.Call (.Name "enumerate" p2) [e] [] pos2] X.env = (false, eval (.Call (.Name "enumerate" p2) [e] [] pos2) X.env) :: starEach [] X.env := rfl
  refine PyProof.Rows.Call_ (ld_blt I hgl hml PyProof.Rows.boot_list (PyProof.Rows.callWith_type1 (PyProof.Rows.args_cons ?_ na2) na2 rfl))
  refine PyProof.Rows.Call_ (ld_blt I hge hme PyProof.Rows.boot_enumerate ?_)
  refine PyProof.Rows.callWith_type1 (PyProof.Rows.args_cons (thn (he.run pins s σ H _ I hq) fun v s1 ⟨x, H1, I1, r1, q1⟩ => PyProof.Rows.args_nil ?_) na) na rfl
  obtain ⟨a, xs, rfl, hsq, q⟩ := q1
  cases r1
  obtain ⟨its, rv, p', hz⟩ := I1.list hsq
  refine call_enumerate_list p'.isList fun h2 he2 hit hsz hk => PyProof.Rows.args_nil ?_
  have ha : a < s1.heap.objs.size := let ⟨_, ho, _⟩ := p'.isList; Heap.lt_size ho
  refine en_call (s := { s1 with heap := h2 }) (A := X.A) (I1.ok.hd hc) (Nat.succ_ne_self _) (Nat.ne_of_lt (Nat.lt_succ_of_lt ha)) (Nat.ne_of_lt ha) he2 hit (p'.isList.at fun o y => hk _ o y) (by rw [List.size_toArray, ← rv.length]; exact hz) fun h' tk acc c as hk' hS hl hG hacc => ?_
  have hkk : ∀ b o, s1.heap.get? b = some o → h'.get? b = some o := fun b o y => hk' b o (Nat.ne_of_lt (Nat.lt_succ_of_lt (Heap.lt_size y))) (Nat.ne_of_lt (Heap.lt_size y)) (hk b o y)
  obtain ⟨k1, k2, k3, J⟩ := en_laid (tk := tk) (S := h2.objs.size) I1 hz rv hkk (by rw [hsz]; omega) hS hl hG hacc
  exact ⟨.ref _, _, J, rfl, q as k1 k2 (by rw [hl, List.size_toArray, rv.length]) _ k3⟩
noncomputable def Ites (x : Str) : L2.It :=
  ⟨fun i H => i < x.cps.size, fun i H v H' => ∃ T c, v = .ref T ∧ H T = none ∧ H' = upd H T (.tup [.int (i : Nat), .str ⟨#[c]⟩]) ∧ x.cps[i]? = some c, fun i H => x.cps.size ≤ i⟩
theorem ens_end {prog : Program} {w : World} {A : Around} {E : Value → Shared → Prop} {s : Shared} {e it : Addr} {x : Str} {t : Tok} {i : Nat} {j : Int} {old : Value} {Q : Option Value → Shared → Prop} (hh : A.handled = none)
    (he : IsEnum s.heap e it j old) (hst : s.heap.IsStrIter it (strIterType x) x t i) (hi : x.cps.size ≤ i)
    (hQ : ∀ h', Heap.ExtBut it s.heap h' → Q none { s with heap := h' }) : wpAny (model prog w) A (pyNext (.ref e)) Q E s := by
  have hT : s.TypeIs (.ref e) "enumerate" := ⟨_, he, rfl⟩
  have hx : x.cps[i]? = none := Array.getElem?_eq_none hi
  unfold pyNext
  refine wpAny_bind (wpAny_attempt (wpAny_callSpecial?_slot (name := Str.ofString "__next__") hT F.slot_enumerate_next
    (wpAny_call_entry F.slot_enumerate_next hT F.entry_enumerate_next ?_ (F.args_enumerate_next_1 _))))
  show wpAny _ _ (field (.ref e) 2 >>= _) _ _ _
  refine wpAny_bind (wpAny_field he rfl (x := .ref it) rfl ?_)
  cases ha : x.cps.all (· < 128)
  · simp only [strIterType, ha, Bool.false_eq_true, if_false] at hst
    refine wpAny_bind (wpAny_nextOf_wide_end hh hst hx fun h' x he' hx' => ?_)
    obtain ⟨o, ho, hc⟩ := hx'
    refine wpAny_bind (wpAny_isInstance (T := "StopIteration") (b := true) ⟨o, ho, hc⟩ isSubtype_stop ?_)
    exact wpAny_pure (hQ _ he')
  · simp only [strIterType, ha, if_true] at hst
    refine wpAny_bind (wpAny_nextOf_ascii_end hh hst hx fun h' x he' hx' => ?_)
    obtain ⟨o, ho, hc⟩ := hx'
    refine wpAny_bind (wpAny_isInstance (T := "StopIteration") (b := true) ⟨o, ho, hc⟩ isSubtype_stop ?_)
    exact wpAny_pure (hQ _ he')
theorem turn_ens {P : Program} {w : World} {K : PySem.W.Frag} {elts : List Expr} {kk : Nat} {tpos : Pos} (e it : Addr) (x : Str) (t : Tok) :
    Turn P w K (.Tuple elts kk tpos) (Ites x) [e, it] e (fun i h => (∃ old, IsEnum h e it ((i : Nat) : Int) old) ∧ h.IsStrIter it (strIterType x) x t i ∧ e ≠ it) where
  mem := by simp
  obj := fun i h st b hb => by
    obtain ⟨⟨old, he⟩, ⟨o, ho, hc, hd⟩, _⟩ := st
    have e' : b = e ∨ b = it := by simpa using hb
    rcases e' with z | z
    · rw [z]; exact ⟨_, he, fun v q => nomatch q⟩
    · rw [z]; exact ⟨o, ho, fun v q => by rw [hd] at q; cases q⟩
  keep := fun i h h' st k => let ⟨⟨old, he⟩, ⟨o, ho, r⟩, hne⟩ := st; ⟨⟨old, k e (by simp) _ he⟩, ⟨o, k it (by simp) o ho, r⟩, hne⟩
  item := by
    intro X hP hw hK hc i pins s σ H E I hf st hg
    subst hP hw hK
    obtain ⟨⟨old, he⟩, hit, hne⟩ := st
    have hel : e < s.heap.objs.size := Heap.lt_size he
    have hil : it < s.heap.objs.size := by obtain ⟨_, q, _⟩ := hit; exact Heap.lt_size q
    refine wpAny_pyNext_enum_itemD (Draws.text (A := X.A.in1) (I.ok.hd hc) it x t) he hit hg hne (by simp [hne]) fun u h' tk hu ho hit' hT hsz hk => ?_
    obtain ⟨c, u', hcx, rfl⟩ := hu
    refine ⟨_, rfl, wpAny_letOwnedTupleGo_enum (s := { s with heap := h', toks := tk + 1 }) ho fun h'' he' sb => ?_⟩
    have hT2 : h''.get? s.heap.objs.size = some { cls := .type "tuple", data := .seq #[.int i tk, .str ⟨#[c]⟩ u'] } := (sb.2 _ (Nat.ne_of_gt hel)).trans hT
    have new : ObjOk X.prog X.w (upd H s.heap.objs.size (.tup [.int (i : Nat), .str ⟨#[c]⟩])) h'' s.heap.objs.size (.tup [.int (i : Nat), .str ⟨#[c]⟩]) :=
      ⟨by show 2 ≤ sizeLine; decide, [.int i tk, .str ⟨#[c]⟩ u'], .cons ⟨_, rfl⟩ (.cons ⟨_, rfl⟩ .nil), ⟨_, hT2, rfl, _, rfl⟩⟩
    have I1 : Inv X pins σ (upd H s.heap.objs.size (.tup [.int (i : Nat), .str ⟨#[c]⟩])) { s with heap := h'', toks := tk + 1 } :=
      I.turnedNew (ch := [e, it]) (fun b ob hb q => (sb.2 b (fun z => hb (by simp [z]))).trans (hk b ob (fun z => hb (by simp [z])) (fun z => hb (by simp [z])) q)) hf (Nat.le_refl _) new
    refine ⟨.ref s.heap.objs.size, _, I1, rfl, ⟨_, c, rfl, I.hok.fresh (Nat.le_refl _), rfl, hcx⟩, ⟨⟨.str ⟨#[c]⟩ u', ?_⟩, ?_, hne⟩, fun b hb => ?_⟩
    · have e1 : ((i + 1 : Nat) : Int) = (i : Int) + 1 := by omega
      rw [e1]; exact he'
    · obtain ⟨o, ho2, r⟩ := hit'
      exact ⟨o, (sb.2 it (Ne.symm hne)).trans ho2, r⟩
    · have hb' : b < s.heap.objs.size := by
        have e' : b = e ∨ b = it := by simpa using hb
        rcases e' with z | z
        · rw [z]; exact hel
        · rw [z]; exact hil
      rw [upd_ne (Nat.ne_of_lt hb')]
      exact (hf b hb).1
  done := by
    intro X hP hw hK hc i pins s σ H E I hf st hg
    subst hP hw hK
    obtain ⟨⟨old, he⟩, hit, hne⟩ := st
    obtain ⟨f0, f1, f2, f3, f4, f5⟩ := hf it (by simp)
    exact ens_end (I.ok.hd hc) he hit hg fun h' eb => ⟨rfl, I.turned (t' := s.toks) (fun b o hb q => eb b o hb q) f0 f1 f3 f4 f5⟩
  self := fun A i s Q E st h => let ⟨⟨_, he⟩, _⟩ := st; wpAny_pyIter_enum he h
noncomputable def iEns (te : TE) : TI := fun σ H R => te σ H fun v H1 => ∃ x, v = .str x ∧ R (Ites x) H1
theorem pi_ens {e : Expr} {te : TE} {p pos tpos : Pos} {elts : List Expr} {kk : Nat} (hg : Gl X "enumerate") (hm : X.mg "enumerate" = none) (he : PE X e te) (na : starEach [e] X.env = (false, eval e X.env) :: starEach [] X.env) :
    PI X (.Tuple elts kk tpos) (.Call (.Name "enumerate" p) [e] [] pos) (iEns te) := by
  refine ⟨fun pins s σ H R I h => ?_⟩
  refine PyProof.Rows.Call_ (ld_blt I hg hm boot_enumerate (PyProof.Rows.callWith_type1 (PyProof.Rows.args_cons (thn (he.run pins s σ H _ I h) fun v s1 ⟨y, H1, I1, r1, x, ex, q⟩ => PyProof.Rows.args_nil ?_) na) na rfl))
  subst ex
  obtain ⟨t, rfl⟩ := r1
  refine call_enumerate_str fun h' he hit hsz hk => wpAny_pyIter_enum he ?_
  have I2 : Inv X pins σ H1 { s1 with heap := h' } := I1.kept (t' := s1.toks) hk
  refine ⟨s1.heap.objs.size + 1, [s1.heap.objs.size + 1, s1.heap.objs.size], _, _, H1, rfl, I2, turn_ens (s1.heap.objs.size + 1) s1.heap.objs.size x t, ⟨⟨.none, he⟩, hit, Nat.succ_ne_self _⟩, fun b hb => ?_, q⟩
  have e' : b = s1.heap.objs.size + 1 ∨ b = s1.heap.objs.size := by simpa using hb
  have hle : s1.heap.objs.size ≤ b := by
    rcases e' with z | z
    · rw [z]; exact Nat.le_add_right _ _
    · rw [z]; exact Nat.le_refl _
  exact I1.fpOk hle (I1.hok.fresh hle)
end
end Fl
namespace Fl
open PySem L2
section
variable {G : Glob} {φ : Mp} {s s' : S} {H : Hp} {d : D} {Q : VK} {K : PySem.W.Frag}
theorem RepL.intsR : ∀ {ds : List D} {vs : List V} {ns : List Int}, RepL φ s H ds vs → intsD ds = some ns → vs = ns.map V.int
  | [], vs, ns, r, e => by
    simp only [RepL] at r
    subst r
    cases e
    rfl
  | .int i :: ds, vs, ns, r, e => by
    simp only [RepL, Rep] at r
    obtain ⟨v, w, rfl, rfl, r2⟩ := r
    have e' : (intsD ds).map (fun q => i :: q) = some ns := e
    obtain ⟨q, h1, rfl⟩ := Option.map_eq_some_iff.mp e'
    rw [r2.intsR h1]
    rfl
  | .non :: ds, vs, ns, r, e => by cases e
  | .bl _ :: ds, vs, ns, r, e => by cases e
  | .str _ :: ds, vs, ns, r, e => by cases e
  | .tup _ :: ds, vs, ns, r, e => by cases e
  | .lst _ :: ds, vs, ns, r, e => by cases e
  | .ref _ :: ds, vs, ns, r, e => by cases e
  | .scr _ :: ds, vs, ns, r, e => by cases e
theorem sum_ok {ds : List D} {vs : List V} (hkk : φ.K = K) (h : HR G φ s H) (r : RepL φ s H ds vs) (e : sumD s ds = some (.ok d, s')) (p : Post G φ s H s' d Q) : rSum K vs H Q := by
  unfold sumD at e
  split at e
  · obtain ⟨e1, rfl⟩ := lft_inv e
    obtain ⟨ns, e2, rfl⟩ := Option.map_eq_some_iff.mp e1
    obtain ⟨xs, e3, e4⟩ := Option.bind_eq_some_iff.mp e2
    simp only [RepL] at r
    obtain ⟨v, w, rfl, r1, rfl⟩ := r
    obtain ⟨a, vs, rfl, h1, h2⟩ := r1.lcont h e3
    rw [h2.intsR e4] at h1
    exact ⟨a, ns, rfl, by rw [← hkk]; exact h1, p.here h (by simp only [Rep])⟩
  · cases e
theorem minI_of : ∀ {ns : List Int} {m : Int}, minI ns = some m → m ∈ ns ∧ ∀ y ∈ ns, m ≤ y
  | [], m, e => by cases e
  | [i], m, e => by
    cases e
    simp
  | i :: j :: r, m, e => by
    have e' : (minI (j :: r)).map (min i) = some m := e
    obtain ⟨q, h1, h2⟩ := Option.map_eq_some_iff.mp e'
    obtain ⟨h3, h4⟩ := minI_of h1
    subst h2
    refine ⟨?_, fun y hy => ?_⟩
    · by_cases h : i ≤ q
      · rw [Int.min_eq_left h]
        exact List.mem_cons_self
      · rw [Int.min_eq_right (by omega)]
        exact List.mem_cons_of_mem _ h3
    · rcases List.mem_cons.mp hy with z | z
      · subst z
        exact Int.min_le_left _ _
      · exact Int.le_trans (Int.min_le_right _ _) (h4 y z)
theorem minL_ok {ds : List D} {vs : List V} (hkk : φ.K = K) (h : HR G φ s H) (r : RepL φ s H ds vs) (e : minLD s ds = some (.ok d, s')) (p : Post G φ s H s' d Q) : rMin K vs H Q := by
  unfold minLD at e
  split at e
  · obtain ⟨e1, rfl⟩ := lft_inv e
    obtain ⟨m, e2, rfl⟩ := Option.map_eq_some_iff.mp e1
    obtain ⟨ns, e3, e5⟩ := Option.bind_eq_some_iff.mp e2
    obtain ⟨xs, e3, e4⟩ := Option.bind_eq_some_iff.mp e3
    simp only [RepL] at r
    obtain ⟨v, w, rfl, r1, rfl⟩ := r
    obtain ⟨a, vs, rfl, h1, h2⟩ := r1.lcont h e3
    rw [h2.intsR e4] at h1
    obtain ⟨k1, k2⟩ := minI_of e5
    refine ⟨a, ns, rfl, by rw [← hkk]; exact h1, List.length_pos_of_mem k1, fun m' h3 h4 => ?_⟩
    have : m' = m := Int.le_antisymm (h4 m k1) (k2 m' h3)
    subst this
    exact p.here h (by simp only [Rep])
  · cases e
theorem min3_ok {ds : List D} {vs : List V} (h : HR G φ s H) (r : RepL φ s H ds vs) (e : min3D s ds = some (.ok d, s')) (p : Post G φ s H s' d Q) : rNuC3 nuMin3 vs H Q := by
  unfold min3D at e
  split at e
  · rename_i i j k
    cases e
    simp only [RepL, Rep] at r
    obtain ⟨v, w, rfl, rfl, v2, w2, rfl, rfl, v3, w3, rfl, rfl, rfl⟩ := r
    refine ⟨_, _, _, .int (min (min i j) k), rfl, ?_, p.here h (by simp only [Rep])⟩
    have hm : ∀ a b : Int, nuMin2 (.int a) (.int b) = some (.int (min a b)) := fun a b => by
      have e1 : nuMin2 (.int a) (.int b) = some (if decide (b < a) = true then V.int b else V.int a) := rfl
      rw [e1]
      by_cases hb : b < a
      · rw [if_pos (decide_eq_true hb), Int.min_eq_right (by omega)]
      · rw [if_neg (by simpa using hb), Int.min_eq_left (by omega)]
    show (nuMin2 (.int i) (.int j)).bind (fun m => nuMin2 m (.int k)) = _
    rw [hm]
    exact hm _ _
  · cases e
/-- str of a whole number alone -/
noncomputable def strD0 (s : S) : List D → R D
  | [.int i] => if i.natAbs < 2 ^ 1900 then some (.ok (.str (PySem.PyData.int i).shown.cps.toList), s) else none
  | _ => none
theorem str_ok {ds : List D} {vs : List V} (h : HR G φ s H) (r : RepL φ s H ds vs) (e : strD0 s ds = some (.ok d, s')) (p : Post G φ s H s' d Q) : ∃ i, vs = [.int i] ∧ i.natAbs.log2 < 1920 ∧ Q (.str (toString i)) H := by
  unfold strD0 at e
  split at e
  · rename_i i
    split at e
    · rename_i hz
      cases e
      simp only [RepL, Rep] at r
      obtain ⟨v, w, rfl, rfl, rfl⟩ := r
      refine ⟨i, rfl, ?_, p.here h ?_⟩
      · by_cases h0 : i.natAbs = 0
        · rw [h0]
          decide
        · exact Nat.lt_of_lt_of_le ((Nat.log2_lt h0).mpr hz) (by decide)
      · simp only [Rep, PyData.shown]
        try rw [Array.toArray_toList]
    · cases e
  · cases e
end
section
variable {G : Glob} {cf : CF} {X : Cx} {tg e a b : Expr} {ca cb : E} {pos : Pos}
theorem lay_put {φ : Mp} {s : S} : ∀ (ts : List Addr) (xs : List D) (vs : List V) (i : Nat) (H : Hp), HR G φ s H → RepL φ s H xs vs → (∀ t ∈ ts, H t = none) → ts.Nodup → ts.length = vs.length →
    Gr φ s H φ s (LiI.putT H ts (kvE i vs)) ∧ HR G φ s (LiI.putT H ts (kvE i vs)) ∧ RepL φ s (LiI.putT H ts (kvE i vs)) (enumL i xs) (ts.map V.ref)
  | [], xs, vs, i, H, h, r, _, _, hl => by
    have hv : vs = [] := List.length_eq_zero_iff.mp hl.symm
    subst hv
    have hx : xs = [] := List.length_eq_zero_iff.mp (by have := r.length; simpa using this.symm)
    subst hx
    exact ⟨Gr.refl _ _ _, h, RepL.nil⟩
  | t :: ts, xs, vs, i, H, h, r, hf, hn, hl => by
    cases vs with
    | nil => cases hl
    | cons v vs =>
      cases xs with
      | nil =>
        simp only [RepL] at r
        cases r
      | cons x xs =>
        have hn' := List.nodup_cons.mp hn
        simp only [RepL] at r
        obtain ⟨v', w', e', r1, r2⟩ := r
        cases e'
        have ht : H t = none := hf t List.mem_cons_self
        have g : Gr φ s H φ s (upd H t (.tup [.int (i : Nat), v])) := Gr.free h ht
        have h' := h.free (o := .tup [.int (i : Nat), v]) ht
        obtain ⟨k1, k2, k3⟩ := lay_put ts xs vs (i + 1) _ h' (RepL.mono g xs r2) (fun u hu => by
          have hne : u ≠ t := fun z => hn'.1 (by rw [← z]; exact hu)
          rw [upd_ne hne]; exact hf u (List.mem_cons_of_mem _ hu)) hn'.2 (Nat.succ.inj hl)
        refine ⟨g.trans k1, k2, ?_⟩
        have rx : Rep φ s (upd H t (.tup [.int (i : Nat), v])) (.tup [.int (i : Nat), x]) (.ref t) := by
          simp only [Rep, RepL]
          exact ⟨t, _, rfl, upd_same, h.fresh ht, _, _, rfl, rfl, _, _, rfl, Rep.mono g x r1, rfl⟩
        show RepL φ s _ (.tup [.int (i : Nat), x] :: enumL (i + 1) xs) (.ref t :: ts.map V.ref)
        simp only [RepL]
        exact ⟨_, _, rfl, Rep.mono k1 _ rx, k3⟩
theorem c_lenm {bx : Bool} {p p2 pos2 : Pos} (hK : X.K = G.K) (hc : X.calm = true) (hgl : Gl X "list") (hml : X.mg "list" = none) (hge : Gl X "enumerate") (hme : X.mg "enumerate" = none) (ha : PE X a (rE G cf ca)) (na : starEach [a] X.env = (false, eval a X.env) :: starEach [] X.env) :
    PE X (.Call (.Name "list" p) [.Call (.Name "enumerate" p2) [a] [] pos2] [] pos) (rE G cf (.lenm bx ca)) := by
  refine PE.imp (pe_lenm hc ha hgl hml hge hme na) fun σ H Q h => ?_
  obtain ⟨φ, s, r, A, d, s', he, p⟩ := h
  simp only [ev] at he
  obtain ⟨x, s1, e1, he⟩ := bnd_inv he
  refine rd_step A e1 fun φ1 H1 v g1 A1 rv => ?_
  split at he
  · rename_i xs hx
    obtain ⟨q, vs, rfl, h1, l⟩ := rv.lcont A1.hr hx
    rw [A1.hr.k.trans hK.symm] at h1
    refine ⟨q, vs, rfl, h1, fun ts hf hn hl => ?_⟩
    obtain ⟨k1, k2, k3⟩ := lay_put ts xs vs 0 H1 A1.hr l hf hn hl
    exact Post.lst k2 he (Post.from (g1.trans k1) p) k3
  · cases he
theorem i_ens {p tpos : Pos} {elts : List Expr} {kk : Nat} (hg : Gl X "enumerate") (hm : X.mg "enumerate" = none) (ha : PE X a (rE G cf ca)) (na : starEach [a] X.env = (false, eval a X.env) :: starEach [] X.env) :
    PI X (.Tuple elts kk tpos) (.Call (.Name "enumerate" p) [a] [] pos) (rI G cf (.ens ca)) := by
  refine PI.imp (pi_ens hg hm ha na) fun σ H R h => ?_
  obtain ⟨φ, s, r, A, iv, s', he, p⟩ := h
  simp only [evI] at he
  obtain ⟨x, s1, e1, he⟩ := bnd_inv he
  refine rd_step A e1 fun φ1 H1 v g1 A1 rv => ?_
  split at he
  · rename_i z
    cases he
    simp only [Rep] at rv
    refine ⟨_, rv, p φ1 H1 _ g1 A1.hr ?_⟩
    intro φ2 s2 H2 g h n i hn
    cases (show some z.length = some n from hn)
    have hsz : z.toArray.size = z.length := by simp
    refine ⟨fun hi y he => ⟨by show i < z.toArray.size; omega, fun w H' q => ?_⟩, fun hi => ?_⟩
    · obtain ⟨T, c, rfl, hT, rfl, hc⟩ := q
      have he' : (z[i]?).map (fun c => D.tup [.int i, .str [c]]) = some y := he
      have hc' : z[i]? = some c := by simpa using hc
      rw [hc'] at he'
      cases he'
      have g' : Gr φ2 s2 H2 φ2 s2 (upd H2 T (.tup [.int (i : Nat), .str ⟨#[c]⟩])) := Gr.free h hT
      refine ⟨g', h.free hT, ?_⟩
      simp only [Rep, RepL]
      exact ⟨T, _, rfl, upd_same, h.fresh hT, _, _, rfl, rfl, _, _, rfl, rfl, rfl⟩
    · show z.toArray.size ≤ i
      omega
  · cases he
theorem RepL.pairsR (hkk : φ.K = K) : ∀ {ds : List D} {vs : List V} {kvs : List (DK × D)}, RepL φ s H ds vs → pairsD ds = some kvs →
    ∃ (ps : List Addr) (ks : List (Key × V)), vs = ps.map V.ref ∧ Paired (fun p kv => SqT K H p [kV kv.1, kv.2]) ps ks ∧ KR φ s H kvs ks
  | [], vs, kvs, r, e => by
    simp only [RepL] at r
    subst r
    cases e
    exact ⟨[], [], rfl, .nil, rfl⟩
  | .tup [a, v] :: ds, vs, kvs, r, e => by
    have e' : ((keyOf a).bind fun k => (pairsD ds).map fun q => (k, v) :: q) = some kvs := e
    obtain ⟨k, hk, e2⟩ := Option.bind_eq_some_iff.mp e'
    obtain ⟨q, hq, rfl⟩ := Option.map_eq_some_iff.mp e2
    simp only [RepL] at r
    obtain ⟨w, ws, rfl, rw1, r2⟩ := r
    simp only [Rep, RepL] at rw1
    obtain ⟨t, us, rfl, ht, -, x, u1, rfl, rx, y, u2, rfl, ry, rfl⟩ := rw1
    obtain ⟨ps, ks, rfl, hp, hr⟩ := r2.pairsR hkk hq
    have hx := key_ok rx hk
    subst hx
    exact ⟨t :: ps, (kyOf k, y) :: ks, rfl, .cons (.inl (.inl ht)) hp, ⟨y, ks, rfl, ry, hr⟩⟩
  | .non :: ds, vs, ns, r, e => by cases e
  | .bl _ :: ds, vs, ns, r, e => by cases e
  | .int _ :: ds, vs, ns, r, e => by cases e
  | .str _ :: ds, vs, ns, r, e => by cases e
  | .lst _ :: ds, vs, ns, r, e => by cases e
  | .ref _ :: ds, vs, ns, r, e => by cases e
  | .scr _ :: ds, vs, ns, r, e => by cases e
  | .tup [] :: ds, vs, ns, r, e => by cases e
  | .tup [_] :: ds, vs, ns, r, e => by simp [pairsD] at e
  | .tup (_ :: _ :: _ :: _) :: ds, vs, ns, r, e => by simp [pairsD] at e
theorem KRg.fold : ∀ {kvs : List (DK × D)} {ks : List (Key × V)} {acc : List (DK × D)} {ac : List (Key × V)}, KR φ s H kvs ks → KR φ s H acc ac → KR φ s H (kvs.foldl (fun acc kv => dput acc kv.1 kv.2) acc) (mergeK ac ks)
  | [], ks, acc, ac, h, h0 => by
    have h' : ks = [] := h
    subst h'
    exact h0
  | (k, d) :: kvs, ks, acc, ac, h, h0 => by
    obtain ⟨v, r, rfl, h1, h2⟩ := h
    exact KRg.fold (kvs := kvs) (ks := r) h2 (KRg.put ky_inj h1 h0)
noncomputable def rDict (K : PySem.W.Frag) : List V → Hp → VK → Prop := fun xs H Q => ∃ (a : Addr) (ps : List Addr) (kvs : List (Key × V)), xs = [.ref a] ∧ SqL K H a (ps.map V.ref) ∧ Paired (fun p kv => SqT K H p [kV kv.1, kv.2]) ps kvs ∧
    ∀ p, H p = none → Q (.ref p) (upd H p (.dK (mergeK [] kvs)))
theorem dict_ok {ds : List D} {vs : List V} (hkk : φ.K = K) (h : HR G φ s H) (r : RepL φ s H ds vs) (e : dictD s ds = some (.ok d, s')) (p : Post G φ s H s' d Q) : rDict K vs H Q := by
  unfold dictD at e
  split at e
  · split at e
    · rename_i kvs hk
      cases e
      obtain ⟨xs, h1, h2⟩ := Option.bind_eq_some_iff.mp hk
      simp only [RepL] at r
      obtain ⟨v, w, rfl, r1, rfl⟩ := r
      obtain ⟨a, ws, rfl, hs, hr⟩ := r1.lcont h h1
      rw [hkk] at hs
      obtain ⟨ps, ks, rfl, hp, hkr⟩ := hr.pairsR hkk h2
      refine ⟨a, ps, ks, rfl, hs, hp, fun q hq => ?_⟩
      have hf : KR φ s H (kvs.foldl (fun acc kv => dput acc kv.1 kv.2) []) (mergeK [] ks) := KRg.fold hkr (show KR φ s H [] [] from rfl)
      have g : Gr φ s H (Fl.bx φ s.nx q) (s.new (.dic (kvs.foldl (fun acc kv => dput acc kv.1 kv.2) []))) (upd H q (.dK (mergeK [] ks))) := Gr.box h hq
      refine p _ _ _ g (h.box hq ⟨_, upd_same, KRg.mono g hf⟩) ?_
      simp only [Rep]
      exact ⟨q, rfl, by show (if s.nx = s.nx then some q else φ s.nx) = some q; rw [if_pos rfl]⟩
    · cases e
  · cases e
end
end Fl
namespace Fl
open PySem PySem.Calls PyProof.Rows PyProof.V PySem.Spec PySem.W L2
noncomputable def tkey (e : Int × Value) : Str := match e.2 with | .str k _ => k | _ => Str.empty
noncomputable def TGd (w : World) (e : Int × Value) : Prop := ∃ k tk, e.2 = Value.str k tk ∧ e.1 = hashStr w k
/-- a set of texts with its table -/
structure TSt (w : World) (h : Heap) (a : Addr) (S : Str → Prop) (n : Nat) : Prop where
  ex : ∃ (o : Obj) (es : Array (Int × Value)) (ep : Nat) (t : SetTable), (h.get? a = some o ∧ o.ExactSet ∧ o.data = .set es ep t) ∧ (∀ e ∈ es.toList, TGd w e) ∧ (es.toList.map tkey).Nodup ∧ (∀ k, S k ↔ k ∈ es.toList.map tkey) ∧
    (es.size < scanBound ∧ t.fits es.size = true ∧ es.size = n) ∧ Ris t.place.toList ∧ (w.params.followText "set-order" = true ∨ t.led = true)
section
variable {P : Program} {w : World} {h h' : Heap} {a : Addr} {S S' : Str → Prop} {n : Nat}
theorem TSt.keep (R : TSt w h a S n) (k : ∀ o, h.get? a = some o → h'.get? a = some o) : TSt w h' a S n := by
  obtain ⟨o, es, ep, t, ⟨ho, q⟩, r⟩ := R.ex
  exact ⟨o, es, ep, t, ⟨k o ho, q⟩, r⟩
theorem TSt.iff (R : TSt w h a S n) (e : ∀ k, S' k ↔ S k) : TSt w h a S' n := by
  obtain ⟨o, es, ep, t, r1, r2, r3, r4, r5⟩ := R.ex
  exact ⟨o, es, ep, t, r1, r2, r3, fun k => (e k).trans (r4 k), r5⟩
theorem tgd_els {l : List (Int × Value)} (g : ∀ e ∈ l, TGd w e) : ElemsOf (PySem.strKind P w) l := fun e he => by
  obtain ⟨k, tk, h1, h2⟩ := g e he
  exact ⟨⟨k, by rw [h1]; exact strKind_is P w k tk, h2⟩, by rw [h1]; rfl⟩
theorem tgd_is {e : Int × Value} (g : TGd w e) (k : Str) : (PySem.strKind P w).is k e.2 = true ↔ tkey e = k := by
  obtain ⟨k0, tk, h1, _⟩ := g
  unfold tkey
  rw [h1]
  constructor
  · intro z
    have z2 : Value.isStrOf k (.str k0 tk) = true := z
    obtain ⟨t, q⟩ := Value.isStrOf_shape z2
    cases q
    rfl
  · intro z
    dsimp only at z
    rw [z]
    exact strKind_is P w k tk
theorem tgd_mem {l : List (Int × Value)} (g : ∀ e ∈ l, TGd w e) (k : Str) : k ∈ l.map tkey ↔ ∃ e ∈ l, (PySem.strKind P w).is k e.2 = true := by
  rw [List.mem_map]
  exact ⟨fun ⟨e, he, q⟩ => ⟨e, he, (tgd_is (g e he) k).2 q⟩, fun ⟨e, he, q⟩ => ⟨e, he, (tgd_is (g e he) k).1 q⟩⟩
end
section
variable {P : Program} {w : World} {A : Around} {E : Value → Shared → Prop} {s : Shared} {a : Addr} {S : Str → Prop} {n : Nat}
theorem tst_tail {g : Bool → Sem Unit} (hg : ∀ (b : Bool) (u : Shared) (Z : Unit → Shared → Prop), Z () u → wpAny (model P w) A (g b) Z E u)
    {o : Obj} {es : Array (Int × Value)} {ep : Nat} {t : SetTable} (ho : s.heap.get? a = some o) (hx : o.ExactSet) (hd : o.data = .set es ep t)
    {es1 : Array (Int × Value)} {t2 : SetTable} {S' : Str → Prop} (c1 : ∀ e ∈ es1.toList, TGd w e) (c2 : (es1.toList.map tkey).Nodup) (c3 : ∀ k, S' k ↔ k ∈ es1.toList.map tkey)
    (c4 : es1.size < scanBound) (c5 : t2.fits es1.size = true) (c6 : Ris t2.place.toList) (c7 : w.params.followText "set-order" = true ∨ t2.led = true) {du : Bool} {R : Option Bool → Shared → Prop}
    (hR : ∀ hp, Heap.SameBut a s.heap hp → TSt w hp a S' es1.size → R (some true) { s with heap := hp }) :
    wpAny (model P w) A (do
        storeSet a es1 t2
        if (!du && t2.tooFull) = true then do
            g (relayAll t2 es1 (SetTable.grown es1.size)).2.2
            storeSet a (relayAll t2 es1 (SetTable.grown es1.size)).1 (relayAll t2 es1 (SetTable.grown es1.size)).2.1
            pure (some true)
          else pure (some true)) R E s := by
  refine wpAny_bind (wpAny_storeSet_of ho hd ?_ (fits_of_scanBound c4))
  have ho1 := store_at (es' := es1) (t' := t2) ho hd
  have sb := Heap.SameBut.update s.heap a (Obj.putSet es1 t2)
  split
  · have z1 := relayAll_perm t2 es1 (SetTable.grown es1.size)
    have z2 := relayAll_fits t2 es1 (SetTable.grown es1.size)
    have z3 := relayAll_ris t2 es1 (SetTable.grown es1.size)
    have z4 := relayAll_led t2 es1 (SetTable.grown es1.size)
    generalize relayAll t2 es1 (SetTable.grown es1.size) = Z at z1 z2 z3 z4 ⊢
    obtain ⟨es2, t3, gv⟩ := Z
    dsimp only at z1 z2 z3 z4 ⊢
    have hz : es2.size = es1.size := by rw [← Array.length_toList, z1.length_eq, Array.length_toList]
    have hz2 : es2.size < scanBound := by rw [hz]; exact c4
    refine wpAny_bind (hg _ _ _ ?_)
    refine wpAny_bind (wpAny_storeSet_of ho1 rfl ?_ (fits_of_scanBound hz2))
    have ho2 := store_at (es' := es2) (t' := t3) ho1 rfl
    exact wpAny_pure (hR _ (sb.trans (Heap.SameBut.update _ a _)) ⟨_, es2, _, t3, ⟨ho2, hx, rfl⟩, fun e he => c1 e (z1.mem_iff.mp he), (z1.map tkey).nodup_iff.mpr c2, fun k => (c3 k).trans (z1.map tkey).mem_iff.symm, ⟨hz2, z2, hz⟩, z3,
      c7.imp id fun q => z4.trans q⟩)
  · exact wpAny_pure (hR _ sb ⟨_, es1, _, t2, ⟨ho1, hx, rfl⟩, c1, c2, c3, ⟨c4, c5, rfl⟩, c6, c7⟩)
theorem tst_add {k : Str} {tk : Tok} {Q : Bool → Shared → Prop} (R : TSt w s.heap a S n) (room : n + 1 < scanBound)
    (hQ : ∀ hp m, Heap.SameBut a s.heap hp → m ≤ n + 1 → TSt w hp a (fun j => S j ∨ j = k) m → ∀ b, Q b { s with heap := hp }) :
    wpAny (model P w) A (setAddHashed a (.str k tk) ((PySem.strKind P w).hash k)) Q E s := by
  obtain ⟨o, es, ep, t, ⟨ho, hx, hd⟩, g, nd, hm, ⟨hb, hf, hn⟩, hr, hl⟩ := R.ex
  have hkey : (PySem.strKind P w).is k (.str k tk) = true := strKind_is P w k tk
  have hsc : (Value.str k tk).scannable = true := rfl
  have hel : ElemsOf (PySem.strKind P w) es.toList := tgd_els g
  unfold setAddHashed setAddHashedIn
  refine wpAny_holding (wpAny_bind (wpAny_setState_of ho hd hf ?_))
  dsimp only
  rw [byScan_of hsc hb hel]
  simp only [↓reduceIte]
  unfold setAddByScan
  refine wpAny_bind (wpAny_bind (wpAny_rule (wpAny_bind (wpAny_setScan_of hkey ho hd hf hel ?_))))
  cases hfi : List.findIdx? (fun e => (PySem.strKind P w).is k e.2) es.toList with
  | some j =>
    dsimp only
    obtain ⟨hj, pj, _⟩ := List.findIdx?_eq_some_iff_getElem.mp hfi
    have hSk : S k := (hm k).2 ((tgd_mem (P := P) (w := w) g k).2 ⟨es.toList[j], List.getElem_mem hj, pj⟩)
    refine wpAny_pure (wpAny_pure ?_)
    exact hQ s.heap n (Heap.SameBut.refl a s.heap) (Nat.le_succ _) ⟨o, es, ep, t, ⟨ho, hx, hd⟩, g, nd, fun i => ⟨fun z => (hm i).1 (z.elim id fun e => e ▸ hSk), fun z => .inl ((hm i).2 z)⟩, ⟨hb, hf, hn⟩, hr, hl⟩ _
  | none =>
    dsimp only
    have hnk : k ∉ es.toList.map tkey := fun z => by
      obtain ⟨e, he, q⟩ := (tgd_mem (P := P) (w := w) g k).1 z
      have c := List.findIdx?_eq_none_iff.mp hfi e he
      rw [q] at c
      cases c
    have hgw : ∀ (b : Bool) {u : Shared} {Z : Unit → Shared → Prop}, Z () u → wpAny (model P w) A (match b with | true => rule "set.scan.the-table-gave-way" | false => pure ()) Z E u :=
      fun b u Z q => by cases b <;> first | exact wpAny_pure q | exact wpAny_rule q
    have z1 := layNew_perm t es ((PySem.strKind P w).hash k) (.str k tk)
    have z2 := layNew_fits t es ((PySem.strKind P w).hash k) (.str k tk)
    have z3 := layNew_ris t es ((PySem.strKind P w).hash k) (.str k tk) hr
    have z4 := layNew_led t es ((PySem.strKind P w).hash k) (.str k tk)
    generalize layNew t es ((PySem.strKind P w).hash k) (.str k tk) = Z at z1 z2 z3 z4 ⊢
    obtain ⟨es1, t1, du, gv⟩ := Z
    dsimp only at z1 z2 z3 z4 ⊢
    rw [Array.toList_push] at z1
    have pc : es1.toList.Perm (((PySem.strKind P w).hash k, Value.str k tk) :: es.toList) := z1.trans (List.perm_append_singleton _ _)
    have pk : (es1.toList.map tkey).Perm (k :: es.toList.map tkey) := pc.map tkey
    have c1 : ∀ e ∈ es1.toList, TGd w e := fun e he => by
      rcases List.mem_cons.mp (pc.mem_iff.mp he) with z | z
      · rw [z]; exact ⟨k, tk, rfl, rfl⟩
      · exact g e z
    have c2 : (es1.toList.map tkey).Nodup := pk.nodup_iff.mpr (List.nodup_cons.mpr ⟨hnk, nd⟩)
    have c3 : ∀ i, (S i ∨ i = k) ↔ i ∈ es1.toList.map tkey := fun i => by
      rw [hm i, pk.mem_iff, List.mem_cons]
      exact Or.comm
    have hz : es1.size = n + 1 := by rw [← Array.length_toList, pc.length_eq, List.length_cons, Array.length_toList, hn]
    have c4 : es1.size < scanBound := by rw [hz]; exact room
    have c7 : w.params.followText "set-order" = true ∨ t1.led = true := hl.imp id fun q => z4.trans q
    have fin : ∀ hp, Heap.SameBut a s.heap hp → TSt w hp a (fun j => S j ∨ j = k) es1.size → Q true { s with heap := hp } := fun hp sb r => hQ hp es1.size sb (by omega) r true
    refine wpAny_bind (hgw _ ?_)
    split
    · refine wpAny_bind ?_
      rw [hashByValue_scannable 8 hsc]
      refine wpAny_pure ?_
      refine tst_tail ?_ ho hx hd c1 c2 c3 c4 ?_ ?_ ?_ ?_
      · intro b u Z q; cases b <;> first | exact wpAny_pure q | exact wpAny_rule q
      · first | (split <;> first | exact z2 | exact SetTable.fits_plain_off z2) | exact z2
      · first | (split <;> exact z3) | exact z3
      · first | (split <;> exact c7) | exact c7
      · intro hp sb r; dsimp only; exact wpAny_pure (fin hp sb r)
    · refine wpAny_bind (wpAny_pure ?_)
      simp only [↓reduceIte]
      refine tst_tail ?_ ho hx hd c1 c2 c3 c4 z2 z3 c7 ?_
      · intro b u Z q; cases b <;> first | exact wpAny_pure q | exact wpAny_rule q
      · intro hp sb r; dsimp only; exact wpAny_pure (fin hp sb r)
theorem tst_new {h : Heap} (ho : h.get? a = some { cls := .type "set", dict := none, data := .set #[] 0 (.fresh 0 0 (!w.params.followText "set-order")) }) : TSt w h a (fun _ => False) 0 :=
  ⟨_, #[], 0, _, ⟨ho, ⟨rfl, rfl, rfl⟩, rfl⟩, (fun e he => by simp at he), (by simp), (fun k => by simp), ⟨by decide, by rfl, rfl⟩, List.Pairwise.nil, by
    show _ ∨ (!w.params.followText "set-order") = true
    cases w.params.followText "set-order"
    · exact .inr rfl
    · exact .inl rfl⟩
theorem tst_loop {x : Str} {I : Addr} {fp wr : List Addr} {G : Array GenState → Array GenState → Prop} {St : Nat → Shared → Prop} {R : Result → Shared → Prop}
    {Pv : Nat → Value → Prop} (W : WalksS P w A.in1 I fp wr G x.cps.size Pv St) (hP : ∀ i v, Pv i v → SignAt x i v) (T : Addr) (hT : T ∉ fp) (hb : x.cps.size + 1 < scanBound) :
    ∀ (k i : Nat) (s : Shared), x.cps.size - i = k → i ≤ x.cps.size → St i s → (∃ c, c ≤ i ∧ TSt w s.heap T (fun j => ∃ m, m < i ∧ ∃ c, x.cps[m]? = some c ∧ j = ⟨#[c]⟩) c) →
      (∀ u c, Moved (T :: wr) G s u → c ≤ x.cps.size → TSt w u.heap T (fun j => ∃ m, m < x.cps.size ∧ ∃ c, x.cps[m]? = some c ∧ j = ⟨#[c]⟩) c → R (.ok (.ret .none)) u) →
      codeAny (model P w) A (.builtin "set.update.loop" ⟨[.ref T, .ref I], []⟩) R s := by
  have hTw : T ∉ wr := fun h => hT (W.sub _ h)
  have hsub : ∀ b ∈ wr, b ∈ T :: wr := fun b hb => List.mem_cons_of_mem _ hb
  intro k
  induction k with
  | zero =>
    intro i s hk hi hst ⟨c, hc, hS⟩ hR
    have hin : i = x.cps.size := by omega
    subst hin
    refine codeAny_builtin PyProof.Rows.F.entry_set_update_loop ?_
    rw [Around.under_plainId PyProof.Rows.F.plain_set_update_loop _]
    show wpAny _ A.in1 (pyNext (.ref I) >>= _) _ _ s
    refine wpAny_bind (W.done s _ _ hst fun u hm => ?_)
    show wpAny _ A.in1 (ret Value.none) _ _ u
    exact wpAny_pure (hR u c (hm.mono hsub) hc (hS.keep fun o e => hm.heap T o hTw e))
  | succ k ih =>
    intro i s hk hi hst ⟨c, hc, hS⟩ hR
    have hlt : i < x.cps.size := by omega
    refine codeAny_builtin PyProof.Rows.F.entry_set_update_loop ?_
    rw [Around.under_plainId PyProof.Rows.F.plain_set_update_loop _]
    show wpAny _ A.in1 (pyNext (.ref I) >>= _) _ _ s
    refine wpAny_bind (W.item i s _ _ hlt hst fun v u hv hst' hm => ?_)
    obtain ⟨z, tz, hz, rfl⟩ := hP i v hv
    have hS' := hS.keep (h' := u.heap) fun o e => hm.heap T o hTw e
    show wpAny _ A.in1 (holding [Value.str ⟨#[z]⟩ tz] (setAdd T (.str ⟨#[z]⟩ tz)) >>= _) _ _ u
    refine wpAny_bind (wpAny_holding ?_)
    unfold setAdd
    refine wpAny_holding ?_
    refine wpAny_bind ((PySem.strKind P w).pyHash (k := ⟨#[z]⟩) (strKind_is _ _ _ _) ?_)
    refine tst_add (s := { u with toks := u.toks + 1 }) hS' (by omega) fun hp m hsb hm2 hS2 b => ?_
    have hS3 : TSt w hp T (fun j => ∃ m, m < i + 1 ∧ ∃ c, x.cps[m]? = some c ∧ j = ⟨#[c]⟩) m := hS2.iff fun j => by
      constructor
      · rintro ⟨m, h1, c, h2, h3⟩
        by_cases e : m = i
        · subst e
          rw [hz] at h2
          cases h2
          exact .inr h3
        · exact .inl ⟨m, by omega, c, h2, h3⟩
      · rintro (⟨m, h1, c, h2, h3⟩ | h3)
        · exact ⟨m, by omega, c, h2, h3⟩
        · exact ⟨i, by omega, z, hz, h3⟩
    refine wpAny_pure ⟨plainId_quiet PyProof.Rows.F.plain_set_update_loop _, ih (i + 1) _ (by omega) hlt (W.frame _ u _ _ hst' (Nat.le_succ _) fun b hb o e => ?_) ⟨_, by omega, hS3⟩ fun v c2 hmv hcv hSv => ?_⟩
    · rw [hsb.2 b (fun h : b = T => hT (by rw [← h]; exact hb))]; exact e
    · refine hR v c2 (Moved.trans W.gtrans ((hm.mono hsub).then_heap (Nat.le_succ _) fun b o hb e => ?_) hmv) hcv hSv
      rw [hsb.2 b (fun h : b = T => hb (by rw [h]; exact List.mem_cons_self))]; exact e
end
section
variable {P : Program} {w : World} {A : Around} {E : Value → Shared → Prop} {s : Shared}
theorem tst_call {x : Str} {tx : Tok} {Q : Value → Shared → Prop} (hh : A.handled = none) (hb : x.cps.size + 1 < scanBound)
    (h : ∀ (hp : Heap) (tk c : Nat), TSt w hp s.heap.objs.size (fun j => ∃ m, m < x.cps.size ∧ ∃ c, x.cps[m]? = some c ∧ j = ⟨#[c]⟩) c → c ≤ x.cps.size → (∀ b o, s.heap.get? b = some o → hp.get? b = some o) → Q (.ref s.heap.objs.size) { s with heap := hp, toks := tk }) :
    wpAny (model P w) A (call (.type "set") [.str x tx]) Q E s := by
  obtain ⟨c, tl, hmro⟩ := PySem.F.called_set.mro
  have hmade := PySem.F.called_set.made
  have hsub := PySem.F.called_set.sub
  refine wpAny_call (codeAny_of_tree ?_)
  show wpAny _ _ (callAny (.type "set") _) _ _ _
  refine wpAny_pure ⟨Code.quiet_builtin _ (by decide +kernel), codeAny_builtin PySem.F.entry_type_call ?_⟩
  rw [Around.under_plain (weight_type_call_type "set" [.str x tx] []) rfl]
  have h1 := PySem.F.called_set.notType
  have h2 := PySem.F.called_set.canCreate
  have hct := PySem.F.typeCall_set_1 (.str x tx)
  repeat (any_goals (first | assumption | wp_step))
  refine codeAny_mono (code_set_led1 (.str x tx) (E := E) (Q₁ := fun obj u => obj = .ref s.heap.objs.size ∧ u = { s with heap := s.heap.push ({ cls := .type "set", dict := none, data := .set #[] 0 (.fresh 0 0 (!w.params.followText "set-order")) } : Obj) }) ⟨rfl, rfl⟩) fun r u hr => ?_
  cases r with
  | error e => exact hr
  | ok fl =>
    cases fl with
    | ret obj =>
      obtain ⟨rfl, rfl⟩ := hr
      have hS : (s.heap.push ({ cls := .type "set", dict := none, data := .set #[] 0 (.fresh 0 0 (!w.params.followText "set-order")) } : Obj)).get? s.heap.objs.size = some ({ cls := .type "set", dict := none, data := .set #[] 0 (.fresh 0 0 (!w.params.followText "set-order")) } : Obj) := Heap.get?_push_size _ rfl
      have hT : Shared.TypeIs { s with heap := s.heap.push ({ cls := .type "set", dict := none, data := .set #[] 0 (.fresh 0 0 (!w.params.followText "set-order")) } : Obj) } (.ref s.heap.objs.size) "set" := ⟨_, hS, rfl⟩
      have hli := PySem.F.called_set.init.lookup
      have hbi := PySem.F.called_set.init.bind (.ref s.heap.objs.size)
      repeat (any_goals (first | assumption | wp_step))
      refine codeAny_mono (codeAny_call_builtin (R := wants (fun r v => r = .none ∧ ∃ hp tk c, v = { s with heap := hp, toks := tk } ∧ TSt w hp s.heap.objs.size (fun j => ∃ m, m < x.cps.size ∧ ∃ c, x.cps[m]? = some c ∧ j = ⟨#[c]⟩) c ∧ c ≤ x.cps.size ∧
          (∀ b o, s.heap.get? b = some o → hp.get? b = some o)) E) PySem.F.called_set.init.plain PySem.F.entry_set_init (check_set_init_1 hT ?_)) fun r₂ v hr₂ => ?_
      · have hsls := PySem.F.sub_str_set
        have hslf := PySem.F.sub_str_frozenset
        have hne : (Value.type "str" == Value.type "dict") = false := by decide
        unfold Builtin.«set.__init__» noKeywords Builtin.Frozenset.updateFrom
        generalize hPI : pyIter = PI
        wp_walk
        subst hPI
        refine wpAny_pyIter_str fun o St W hst => ?_
        refine wpAny_bind (wpAny_runValue ?_)
        have hh3 : A.in1.in1.in1.handled = none := by simp [hh]
        have hz1 : (s.heap.push ({ cls := .type "set", dict := none, data := .set #[] 0 (.fresh 0 0 (!w.params.followText "set-order")) } : Obj)).objs.size = s.heap.objs.size + 1 := Heap.size_push ..
        have hSf : s.heap.objs.size ∉ [(s.heap.push ({ cls := .type "set", dict := none, data := .set #[] 0 (.fresh 0 0 (!w.params.followText "set-order")) } : Obj)).objs.size] := by
          rw [Heap.size_push]; simp
        have hget : ((s.heap.push ({ cls := .type "set", dict := none, data := .set #[] 0 (.fresh 0 0 (!w.params.followText "set-order")) } : Obj)).push o).get? s.heap.objs.size = some ({ cls := .type "set", dict := none, data := .set #[] 0 (.fresh 0 0 (!w.params.followText "set-order")) } : Obj) := Heap.get?_push_of_some _ hS
        refine tst_loop (W _ hh3).toS (fun _ _ h => h) s.heap.objs.size hSf hb (x.cps.size - 0) 0 _ (by omega) (Nat.zero_le _) ?hSt ⟨0, Nat.le_refl 0, ?hS0⟩ ?hR
        case hSt => exact hst
        case hS0 =>
          exact (tst_new hget).iff fun j => ⟨fun ⟨m, h1, _⟩ => absurd h1 (Nat.not_lt_zero m), False.elim⟩
        case hR =>
          intro u c hm hc hSu
          obtain ⟨hp, g2, d2, tk2, os2⟩ := u
          have eg : g2 = s.gens := hm.gens
          have ed : d2 = s.drawn := hm.drawn
          have eo : os2 = s.os := hm.os
          subst eg; subst ed; subst eo
          show wpAny _ _ _ _ _ _
          refine wpAny_pure ?_
          show wpAny _ _ (ret Value.none) _ _ _
          refine wpAny_pure ⟨rfl, hp, tk2, c, rfl, hSu, hc, fun b o e => ?_⟩
          have hb0 : b < s.heap.objs.size := Heap.lt_size e
          have hb1 : b ≠ s.heap.objs.size := Nat.ne_of_lt hb0
          have hb2 : b ≠ s.heap.objs.size + 1 := Nat.ne_of_lt (Nat.lt_succ_of_lt hb0)
          exact hm.heap b o (by simp only [List.mem_cons, List.mem_singleton, List.not_mem_nil, or_false, not_or]; rw [hz1]; exact ⟨hb1, hb2⟩) (Heap.get?_push_of_some _ (Heap.get?_push_of_some _ e))
      · cases r₂ with
        | error e => exact hr₂
        | ok fl₂ =>
          cases fl₂ with
          | ret r =>
            obtain ⟨rfl, hp, tk, c, rfl, hSp, hc, hk⟩ := hr₂
            repeat (any_goals (first | assumption | wp_step))
            exact h _ _ _ hSp hc hk
          | _ => exact hr₂.elim
    | _ => exact hr.elim
/-- texts by their points -/
noncomputable def strPt (v : Value) : Str := match v with | .str k _ => k | _ => Str.empty
theorem strs_of : ∀ (l : List Value), (∀ v ∈ l, ∃ k tk, v = Value.str k tk) → StrsAre l (l.map strPt)
  | [], _ => .nil
  | v :: l, h => by
    obtain ⟨k, tk, rfl⟩ := h v List.mem_cons_self
    exact .cons k tk (strs_of l fun u hu => h u (List.mem_cons_of_mem _ hu))
/-- an address that is new -/
noncomputable def NwA (h : Heap) (p : Addr) : Prop := h.get? p = none ∧ ∃ h1 : Heap, (∀ b o, h.get? b = some o → h1.get? b = some o) ∧ h1.objs.size ≤ p
/-- sorted, of what collects to texts -/
theorem sorted_col {v : Value} {ss : List Str} {Q : Value → Shared → Prop} (h64 : ss.length < 64)
    (hcol : ∀ (Z : List Value → Shared → Prop), (∀ u vs, (∀ b o, s.heap.get? b = some o → u.heap.get? b = some o) → u.gens = s.gens → u.os = s.os → (∃ ss', StrsAre vs ss' ∧ ss'.Perm ss) → Z vs u) → wpAny (model P w) A.in1 (collect v) Z E s)
    (hQ : ∀ u p (out : Array Value) (c : Nat) (ns : List Str), (∀ b o, s.heap.get? b = some o → u.heap.get? b = some o) → u.gens = s.gens → u.os = s.os → NwA s.heap p → u.heap.get? p = some (seqObj "list" out c) → StrsAre out.toList ns → ns.Perm ss → sortedS ns = true → Q (.ref p) u) :
    wpAny (model P w) A (call (.builtin "sorted") [v]) Q E s := by
  refine Calls.call_function_entry kind_sorted plain_sorted entry_sorted (args_sorted1 _) ?_
  unfold Builtin.«sorted»
  refine wpAny_bind (m := checkCount "sorted" 1 1 _) (wpAny_pure ?_)
  refine wpAny_bind (hcol _ fun u vs k1 g1 o1 ⟨ss', hI, hp⟩ => ?_)
  have hz : NwA s.heap u.heap.objs.size := by
    refine ⟨?_, u.heap, k1, Nat.le_refl _⟩
    cases e : s.heap.get? u.heap.objs.size with
    | none => rfl
    | some o => exact absurd (Heap.lt_size (k1 _ _ e)) (Nat.lt_irrefl _)
  have hvl : vs.length < 64 := by
    rw [hI.len_eq, hp.length_eq]
    exact h64
  refine wpAny_bind (wpAny_newList ?_ (by rw [sizeLine_eq]; omega))
  have hoL : (u.heap.push (seqObj "list" vs.toArray 0)).get? u.heap.objs.size = some (seqObj "list" vs.toArray 0) := Heap.get?_push_size _ rfl
  refine wpAny_bind (wpAny_holding (wpAny_call_entry slot_list_sort ⟨_, hoL, rfl⟩ entry_list_sort (list_sort_treeK PyProof.Rows.strKind_oneLt hoL hI.keysOf (fun v₁ v₂ rest e => keyKind_strs (by rw [← e]; exact hI)) hvl fun st' a1 a2 => ⟨_, rfl, ?_⟩) (args_list_sort _)))
  obtain ⟨ns, b1, b2, b3⟩ := sorted_out_str hI a1 a2
  obtain ⟨c, hc⟩ := sortedHeap_at (vs := vs) (out := (arrOf st').map (·.2)) hoL
  refine wpAny_pure ⟨_, rfl, hQ _ u.heap.objs.size _ c ns (fun b o e => ?_) g1 o1 hz hc b1 (b2.trans hp) b3⟩
  have q := k1 b o e
  have hlt := Heap.lt_size q
  show (sortedHeap (u.heap.push (seqObj "list" vs.toArray 0)) u.heap.objs.size vs _).get? b = some o
  rw [sortedHeap_old (Nat.ne_of_lt hlt) (by rw [size_push']; exact Nat.lt_succ_of_lt hlt)]
  exact Heap.get?_push_of_some _ q
theorem items_strs {x : Str} {acc : Array Value} (h : ItemsOf (SignAt x) acc x.cps.size) : StrsAre acc.toList (x.cps.toList.map fun c => ⟨#[c]⟩) := by
  obtain ⟨h1, h2⟩ := h
  have go : ∀ (vs : List Value) (cs : List Nat), vs.length = cs.length → (∀ (j : Nat) (v : Value), vs[j]? = some v → ∃ c u, cs[j]? = some c ∧ v = .str ⟨#[c]⟩ u) → StrsAre vs (cs.map fun c => ⟨#[c]⟩) := by
    intro vs
    induction vs with
    | nil =>
      intro cs hl _
      have : cs = [] := List.length_eq_zero_iff.mp hl.symm
      subst this
      exact .nil
    | cons v vs ih =>
      intro cs hl hj
      cases cs with
      | nil => cases hl
      | cons c cs =>
        obtain ⟨c', u, e1, e2⟩ := hj 0 v rfl
        cases e1
        subst e2
        exact .cons _ u (ih cs (Nat.succ.inj hl) fun j w hw => hj (j + 1) w hw)
  refine go _ _ (by rw [Array.length_toList, Array.length_toList]; exact h1) fun j v hv => ?_
  obtain ⟨c, u, e1, e2⟩ := h2 j v (by rw [← Array.getElem?_toList]; exact hv)
  exact ⟨c, u, by rw [Array.getElem?_toList]; exact e1, e2⟩
/-- sorted(x), x a text -/
theorem sorted_txt {x : Str} {tx : Tok} {Q : Value → Shared → Prop} (hh : A.handled = none) (h64 : x.cps.size < 64)
    (hQ : ∀ u p (out : Array Value) (c : Nat) (ns : List Str), (∀ b o, s.heap.get? b = some o → u.heap.get? b = some o) → u.gens = s.gens → u.os = s.os → NwA s.heap p → u.heap.get? p = some (seqObj "list" out c) → StrsAre out.toList ns → ns.Perm (x.cps.toList.map fun c => ⟨#[c]⟩) → sortedS ns = true → Q (.ref p) u) :
    wpAny (model P w) A (call (.builtin "sorted") [.str x tx]) Q E s := by
  refine sorted_col (ss := x.cps.toList.map fun c => ⟨#[c]⟩) (by rw [List.length_map, Array.length_toList]; exact h64) (fun Z hZ => ?_) hQ
  refine wpAny_collect_str (A := A.in1) hh x tx (fun u acc k1 g1 d1 o1 hI => hZ u acc.toList k1 g1 o1 ⟨_, items_strs hI, List.Perm.refl _⟩) (by rw [sizeLine_eq]; omega)
/-- sorted(set), a set of texts -/
theorem sorted_tst {a : Addr} {S : Str → Prop} {n : Nat} {Q : Value → Shared → Prop} (R : TSt w s.heap a S n) (hh : A.handled = none) (h64 : n < 64)
    (hQ : ∀ u p (out : Array Value) (c : Nat) (ns : List Str), (∀ b o, s.heap.get? b = some o → u.heap.get? b = some o) → u.gens = s.gens → u.os = s.os → NwA s.heap p → u.heap.get? p = some (seqObj "list" out c) → StrsAre out.toList ns → ns.Nodup → (∀ k, k ∈ ns ↔ S k) → sortedS ns = true → Q (.ref p) u) :
    wpAny (model P w) A (call (.builtin "sorted") [.ref a]) Q E s := by
  obtain ⟨o, es, ep, t, ⟨ho, hx, hd⟩, g, nd, hm, ⟨hb, hf, hn⟩, hr, hl⟩ := R.ex
  have hlen : (es.toList.map tkey).length = n := by rw [List.length_map, Array.length_toList]; exact hn
  refine sorted_col (ss := es.toList.map tkey) (by rw [hlen]; exact h64) (fun Z hZ => ?_) fun u p out c ns k1 g1 o1 hp hc b1 b2 b3 => hQ u p out c ns k1 g1 o1 hp hc b1 (b2.nodup_iff.mpr nd) (fun k => (b2.mem_iff).trans (hm k).symm) b3
  refine collect_set (A := A.in1) hh ⟨o, ho, hx.1, hd⟩ hf hb hr hl fun u vs k1 hz g1 o1 pm => ?_
  have hI : StrsAre vs (vs.map strPt) := strs_of vs fun v hv => by
    obtain ⟨e, he, q⟩ := List.mem_map.mp (pm.mem_iff.mp hv)
    obtain ⟨k, tk, h1, _⟩ := g e he
    exact ⟨k, tk, by rw [← q]; exact h1⟩
  refine hZ u vs k1 g1 o1 ⟨_, hI, ?_⟩
  have q := pm.map strPt
  rw [List.map_map] at q
  exact q
end
end Fl
namespace Fl
theorem insU_mem (c x : Nat) : ∀ l : List Nat, x ∈ insU c l ↔ x = c ∨ x ∈ l
  | [] => by simp [insU]
  | d :: r => by
    unfold insU
    split
    · simp
    · split
      · rename_i h; subst h; simp
      · simp only [List.mem_cons, insU_mem c x r]
        constructor
        · rintro (h | h | h) <;> simp [h]
        · rintro (h | h | h) <;> simp [h]
theorem insU_up (c : Nat) : ∀ l : List Nat, l.Pairwise (· < ·) → (insU c l).Pairwise (· < ·)
  | [], _ => List.pairwise_singleton _ _
  | d :: r, h => by
    obtain ⟨h1, h2⟩ := List.pairwise_cons.mp h
    unfold insU
    split
    · rename_i hc
      refine List.pairwise_cons.mpr ⟨fun x hx => ?_, h⟩
      rcases List.mem_cons.mp hx with rfl | hx
      · exact hc
      · exact Nat.lt_trans hc (h1 x hx)
    · split
      · exact h
      · rename_i a b
        refine List.pairwise_cons.mpr ⟨fun x hx => ?_, insU_up c r h2⟩
        rcases (insU_mem c x r).mp hx with rfl | hx
        · omega
        · exact h1 x hx
theorem sortU_mem (x : Nat) : ∀ l : List Nat, x ∈ sortU l ↔ x ∈ l
  | [] => by simp [sortU]
  | c :: l => by
    show x ∈ insU c (sortU l) ↔ _
    rw [insU_mem, sortU_mem x l, List.mem_cons]
theorem sortU_up : ∀ l : List Nat, (sortU l).Pairwise (· < ·)
  | [] => List.Pairwise.nil
  | c :: l => insU_up c _ (sortU_up l)
theorem insU_len (c : Nat) : ∀ l : List Nat, (insU c l).length ≤ l.length + 1
  | [] => Nat.le_refl _
  | d :: r => by
    have := insU_len c r
    unfold insU
    split
    · simp
    · split
      · simp
      · simp only [List.length_cons]; omega
theorem sortU_len : ∀ l : List Nat, (sortU l).length ≤ l.length
  | [] => Nat.le_refl _
  | c :: l => by
    have := sortU_len l
    have := insU_len c (sortU l)
    show (insU c (sortU l)).length ≤ _
    rw [List.length_cons]
    omega
theorem up_uniq : ∀ {a b : List Nat}, a.Pairwise (· < ·) → b.Pairwise (· < ·) → (∀ x, x ∈ a ↔ x ∈ b) → a = b
  | [], [], _, _, _ => rfl
  | [], y :: b, _, _, h => absurd ((h y).mpr List.mem_cons_self) (by simp)
  | x :: a, [], _, _, h => absurd ((h x).mp List.mem_cons_self) (by simp)
  | x :: a, y :: b, ha, hb, h => by
    obtain ⟨a1, a2⟩ := List.pairwise_cons.mp ha
    obtain ⟨b1, b2⟩ := List.pairwise_cons.mp hb
    have e : x = y := by
      rcases List.mem_cons.mp ((h x).mp List.mem_cons_self) with z | z
      · exact z
      · rcases List.mem_cons.mp ((h y).mpr List.mem_cons_self) with w | w
        · exact w.symm
        · have := a1 y w; have := b1 x z; omega
    subst e
    congr 1
    refine up_uniq a2 b2 fun z => ⟨fun hz => ?_, fun hz => ?_⟩
    · rcases List.mem_cons.mp ((h z).mp (List.mem_cons_of_mem _ hz)) with w | w
      · have := a1 z hz; omega
      · exact w
    · rcases List.mem_cons.mp ((h z).mpr (List.mem_cons_of_mem _ hz)) with w | w
      · have := b1 z hz; omega
      · exact w
theorem insM_perm (c : Nat) : ∀ l : List Nat, (insM c l).Perm (c :: l)
  | [] => List.Perm.refl _
  | d :: r => by
    unfold insM
    split
    · exact List.Perm.refl _
    · exact ((insM_perm c r).cons d).trans (List.Perm.swap c d r)
theorem sortM_perm : ∀ l : List Nat, (sortM l).Perm l
  | [] => List.Perm.refl _
  | c :: l => (insM_perm c _).trans ((sortM_perm l).cons c)
theorem insM_up (c : Nat) : ∀ l : List Nat, l.Pairwise (· ≤ ·) → (insM c l).Pairwise (· ≤ ·)
  | [], _ => List.pairwise_singleton _ _
  | d :: r, h => by
    obtain ⟨h1, h2⟩ := List.pairwise_cons.mp h
    unfold insM
    split
    · rename_i hc
      refine List.pairwise_cons.mpr ⟨fun x hx => ?_, h⟩
      rcases List.mem_cons.mp hx with rfl | hx
      · exact hc
      · exact Nat.le_trans hc (h1 x hx)
    · refine List.pairwise_cons.mpr ⟨fun x hx => ?_, insM_up c r h2⟩
      rcases List.mem_cons.mp ((insM_perm c r).mem_iff.mp hx) with rfl | hx
      · omega
      · exact h1 x hx
theorem sortM_up : ∀ l : List Nat, (sortM l).Pairwise (· ≤ ·)
  | [] => List.Pairwise.nil
  | c :: l => insM_up c _ (sortM_up l)
theorem le_uniq : ∀ {a b : List Nat}, a.Pairwise (· ≤ ·) → b.Pairwise (· ≤ ·) → a.Perm b → a = b
  | [], b, _, _, h => (List.Perm.eq_nil (h.symm)).symm
  | x :: a, [], _, _, h => absurd (List.Perm.eq_nil h) (by simp)
  | x :: a, y :: b, ha, hb, h => by
    obtain ⟨a1, a2⟩ := List.pairwise_cons.mp ha
    obtain ⟨b1, b2⟩ := List.pairwise_cons.mp hb
    have e : x = y := by
      rcases List.mem_cons.mp (h.mem_iff.mp List.mem_cons_self) with z | z
      · exact z
      · rcases List.mem_cons.mp (h.mem_iff.mpr List.mem_cons_self) with w | w
        · exact w.symm
        · have := a1 y w; have := b1 x z; omega
    subst e
    rw [le_uniq a2 b2 ((List.perm_cons x).mp h)]
open PySem PySem.Calls PyProof.Rows PyProof.V PySem.Spec PySem.W L2
noncomputable abbrev sing (c : Nat) : Str := ⟨#[c]⟩
theorem rising_up : ∀ (p : Nat) (l : List Nat), risingS (sing p) (l.map sing) = true → (p :: l).Pairwise (· ≤ ·)
  | p, [], _ => List.pairwise_singleton _ _
  | p, x :: r, h => by
    have h' : (!ltCps (sing x).cps.toList (sing p).cps.toList && risingS (sing x) (r.map sing)) = true := h
    rw [Bool.and_eq_true] at h'
    have ih := rising_up x r h'.2
    have hle : p ≤ x := by
      have e := h'.1
      rw [ltCps_eq] at e
      have e2 : ¬ ([x] < [p]) := by simpa using e
      by_cases z : x < p
      · exact absurd (List.Lex.rel z) e2
      · omega
    refine List.pairwise_cons.mpr ⟨fun y hy => ?_, ih⟩
    rcases List.mem_cons.mp hy with rfl | hy
    · exact hle
    · exact Nat.le_trans hle ((List.pairwise_cons.mp ih).1 y hy)
theorem sorted_up (l : List Nat) (h : sortedS (l.map sing) = true) : l.Pairwise (· ≤ ·) := by
  cases l with
  | nil => exact List.Pairwise.nil
  | cons x r => exact rising_up x r h
theorem sing_inj {a b : Nat} (h : sing a = sing b) : a = b := by
  have := congrArg (fun x : Str => x.cps.toList) h
  simpa using this
theorem sings_of : ∀ (ns : List Str), (∀ k ∈ ns, ∃ c, k = sing c) → ∃ l : List Nat, ns = l.map sing
  | [], _ => ⟨[], rfl⟩
  | k :: ns, h => by
    obtain ⟨c, rfl⟩ := h k List.mem_cons_self
    obtain ⟨l, rfl⟩ := sings_of ns fun x hx => h x (List.mem_cons_of_mem _ hx)
    exact ⟨c :: l, rfl⟩
/-- a set of texts at a -/
noncomputable def TStO (w : World) (a : Addr) (S : Str → Prop) (n : Nat) : HO := .ext fun h => TSt w h a S n
section
variable {X : Cx}
theorem tstO_new {w : World} {P : Program} {H : Hp} {h : Heap} {a : Addr} {S : Str → Prop} {n : Nat} (R : TSt w h a S n) : ObjOk P w H h a (TStO w a S n) := by
  have ⟨o, _, _, _, ⟨ho, _⟩, _⟩ := R.ex
  exact ⟨R, ⟨o, ho⟩, fun h1 h2 p k => TSt.keep p k⟩
theorem tstO_get {pins : List (Addr × Obj)} {σ : L2.St} {H : Hp} {s : Shared} {a : Addr} {S : Str → Prop} {n : Nat} (I : Inv X pins σ H s) (ha : H a = some (TStO X.w a S n)) : TSt X.w s.heap a S n := (I.hok a _ ha).1
/-- set(x) of a text -/
noncomputable def rSetTx (w : World) : List V → Hp → VK → Prop := fun vs H Q => ∃ z : Str, vs = [.str z] ∧ z.cps.size < 64 ∧ ∀ p n, H p = none → n ≤ z.cps.size → Q (.ref p) (upd H p (TStO w p (fun j => ∃ m, m < z.cps.size ∧ ∃ c, z.cps[m]? = some c ∧ j = ⟨#[c]⟩) n))
theorem call_setTx (hc : X.calm = true) : CallR X (.type "set") (rSetTx X.w) := by
  intro pins s σ H vs us Q I r h
  obtain ⟨z, rfl, h64, q⟩ := h
  cases r with
  | cons ry rt =>
    cases rt
    obtain ⟨tk, rfl⟩ := ry
    refine tst_call (I.ok.hd hc) (by unfold scanBound; omega) fun hp tk2 c hS hcle k => ?_
    exact ⟨.ref _, upd H s.heap.objs.size (TStO X.w s.heap.objs.size _ c), I.laid (t' := tk2) k (Nat.le_refl _) (tstO_new hS), rfl, q _ _ (I.hok.fresh (Nat.le_refl _)) hcle⟩
theorem sort_end {pins : List (Addr × Obj)} {σ : L2.St} {H : Hp} {s u : Shared} {p : Addr} {out : Array Value} {c : Nat} {ns : List Str} {Q : VK} (I : Inv X pins σ H s) (k : ∀ b o, s.heap.get? b = some o → u.heap.get? b = some o) (g : u.gens = s.gens) (o : u.os = s.os) (hp : NwA s.heap p) (hg : u.heap.get? p = some (seqObj "list" out c))
    (hi : StrsAre out.toList ns) (hl : ns.length < 64) (q : H p = none → Q (.ref p) (upd H p (.lst (ns.map V.str)))) : EP X pins σ Q (.ref p) u := by
  have hlen : (ns.map V.str).length ≤ sizeLine := by rw [List.length_map, sizeLine_eq]; omega
  obtain ⟨hp, h1, k1, hz⟩ := hp
  have hn : H p = none := (I.hok.kept k1).fresh hz
  have J : Inv X pins σ (upd H p (.lst (ns.map V.str))) { s with heap := u.heap, gens := u.gens, drawn := u.drawn, toks := u.toks } :=
    I.call (ch := []) (Un.laidN k hp hn) (I.hok.laidN k hn ⟨hlen, out.toList, c, vals_of_strs hi, hg⟩) (by rw [g]; exact I.bare) (fun _ z => nomatch z)
  have e : u = { s with heap := u.heap, gens := u.gens, drawn := u.drawn, toks := u.toks } := by
    cases u
    cases s
    cases o
    rfl
  rw [e]
  exact ⟨.ref p, _, J, rfl, q hn⟩
/-- sorted(x) of a text -/
noncomputable def rSortTx : List V → Hp → VK → Prop := fun vs H Q => ∃ z : Str, vs = [.str z] ∧ z.cps.size < 64 ∧ ∀ p, H p = none → Q (.ref p) (upd H p (.lst ((sortM z.cps.toList).map fun c => V.str (sing c))))
theorem call_sortTx (hc : X.calm = true) : CallR X (.builtin "sorted") rSortTx := by
  intro pins s σ H vs us Q I r h
  obtain ⟨z, rfl, h64, q⟩ := h
  cases r with
  | cons ry rt =>
    cases rt
    obtain ⟨tk, rfl⟩ := ry
    refine sorted_txt (I.ok.hd hc) h64 fun u p out c ns k g o hp hg hi hpm hs => ?_
    obtain ⟨l, rfl⟩ := sings_of ns fun k hk => by
      obtain ⟨c, _, e⟩ := List.mem_map.mp (hpm.mem_iff.mp hk)
      exact ⟨c, e.symm⟩
    have hl : l.Perm z.cps.toList := by
      have := hpm.map (fun k : Str => k.cps.toList.headD 0)
      rw [List.map_map, List.map_map] at this
      simpa [Function.comp_def] using this
    have e : l = sortM z.cps.toList := le_uniq (sorted_up l hs) (sortM_up _) (hl.trans (sortM_perm _).symm)
    refine sort_end I k g o hp hg hi (by rw [List.length_map, hl.length_eq, Array.length_toList]; exact h64) fun hn => ?_
    have := q p hn
    rw [← e] at this
    rw [List.map_map]
    exact this
/-- sorted of a set of texts -/
noncomputable def rSortSt (w : World) : List V → Hp → VK → Prop := fun vs H Q => ∃ (a : Addr) (z : Str) (n : Nat), vs = [.ref a] ∧ H a = some (TStO w a (fun j => ∃ m, m < z.cps.size ∧ ∃ c, z.cps[m]? = some c ∧ j = ⟨#[c]⟩) n) ∧ n < 64 ∧ z.cps.size < 64 ∧
  ∀ p, H p = none → Q (.ref p) (upd H p (.lst ((sortU z.cps.toList).map fun c => V.str (sing c))))
theorem call_sortSt (hc : X.calm = true) : CallR X (.builtin "sorted") (rSortSt X.w) := by
  intro pins s σ H vs us Q I r h
  obtain ⟨a, z, n, rfl, ha, h64, hz, q⟩ := h
  rw [Vals.ref1 r]
  refine sorted_tst (tstO_get I ha) (I.ok.hd hc) h64 fun u p out c ns k g o hp hg hi hnd hm hs => ?_
  obtain ⟨l, rfl⟩ := sings_of ns fun k hk => by
    obtain ⟨m, _, c, _, e⟩ := (hm k).mp hk
    exact ⟨c, e⟩
  have hlm : ∀ x, x ∈ l ↔ x ∈ z.cps.toList := fun x => by
    constructor
    · intro hx
      obtain ⟨m, h1, c, h2, h3⟩ := (hm (sing x)).mp (List.mem_map_of_mem hx)
      rw [sing_inj h3]
      rw [← Array.getElem?_toList] at h2
      exact List.mem_of_getElem? h2
    · intro hx
      obtain ⟨m, h1⟩ := List.mem_iff_getElem?.mp hx
      have hm1 : m < z.cps.size := by rw [← Array.length_toList]; exact (List.getElem?_eq_some_iff.mp h1).1
      have := (hm (sing x)).mpr ⟨m, hm1, x, by rw [← Array.getElem?_toList]; exact h1, rfl⟩
      obtain ⟨y, hy, e⟩ := List.mem_map.mp this
      rw [← sing_inj e]
      exact hy
  have hlt : l.Pairwise (· < ·) := by
    have h1 := sorted_up l hs
    have h2 : l.Pairwise (· ≠ ·) := by
      have := List.nodup_iff_pairwise_ne.mp hnd
      rw [List.pairwise_map] at this
      exact this.imp fun h e => h (by rw [e])
    exact (h1.and h2).imp fun ⟨a, b⟩ => by omega
  have e : l = sortU z.cps.toList := up_uniq hlt (sortU_up _) fun x => (hlm x).trans (sortU_mem x _).symm
  refine sort_end I k g o hp hg hi ?_ fun hn => ?_
  · rw [List.length_map, e]
    have h1 := sortU_len z.cps.toList
    have h2 : z.cps.toList.length = z.cps.size := Array.length_toList
    rw [h2] at h1
    exact Nat.lt_of_le_of_lt h1 hz
  · have := q p hn
    rw [← e] at this
    rw [List.map_map]
    exact this
end
section
variable {G : Glob} {φ : Mp} {s s' : S} {H : Hp} {d : D} {Q : VK} {K : PySem.W.Frag} {cf : CF} {X : Cx} {a : Expr} {ca : E} {pos : Pos}
theorem rep_sings {φ : Mp} {s : S} {H : Hp} : ∀ l : List Nat, RepL φ s H (l.map fun c => D.str [c]) (l.map fun c => V.str (sing c))
  | [] => RepL.nil
  | c :: l => by
    rw [List.map_cons, List.map_cons]
    simp only [RepL, Rep]
    exact ⟨_, _, rfl, rfl, rep_sings l⟩
end
end Fl
namespace SrtO
open PySem PySem.W PySem.Calls PyProof.Rows Srt
section
variable {prog : Program} {w : World} {A : Around} {E : Value → Shared → Prop} {s : Shared}
/-- v is a tuple of the word and a number -/
noncomputable def IsTp (h : Heap) (v : Value) (z : PySem.Str) (x : Int) : Prop := ∃ a o t u n, v = .ref a ∧ h.get? a = some o ∧ o.cls = .type "tuple" ∧ o.data = .seq #[.str z t, .int x u] n
theorem IsTp.keeps {h h' : Heap} {v : Value} {z : PySem.Str} {x : Int} (p : IsTp h v z x) (k : ∀ b o, h.get? b = some o → o.cls = .type "tuple" → h'.get? b = some o) : IsTp h' v z x := by
  obtain ⟨a, o, t, u, n, e, ho, hc, hd⟩ := p
  exact ⟨a, o, t, u, n, e, k _ _ ho hc, hc, hd⟩
theorem swo_int (k : Value → Int) : Swo fun v u => decide (k v < k u) := by
  refine ⟨fun x y h => ?_, fun x y z h1 h2 => ?_⟩
  · have a := of_decide_eq_true h
    exact decide_eq_false (by omega)
  · have a := of_decide_eq_false h1
    have b := of_decide_eq_false h2
    exact decide_eq_false (by omega)
theorem tp_cmp {vs : List Value} {z : PySem.Str} {k : Value → Int} (hp : ∀ v ∈ vs, IsTp s.heap v z (k v)) : Cmp prog w A s (tuples' true) (fun p => p.1 ∈ vs) (lt2 fun v u => decide (k v < k u)) := by
  intro p q hm hm'
  have h1 := hp _ hm
  have h2 := hp _ hm'
  show wpAny (model prog w) A (keyLt' (tuples' true) p.1 q.1) (fun r s' => s' = s ∧ r = decide (k p.1 < k q.1)) (fun _ _ => False) s
  generalize k p.1 = x at h1 ⊢
  generalize k q.1 = x' at h2 ⊢
  obtain ⟨a, o, t, u, n, e, ho, hc, hd⟩ := h1
  obtain ⟨a', o', t', u', n', e', ho', hc', hd'⟩ := h2
  rw [e, e']
  refine PySem.W.kat_lt ho hd ho' hd' ?_
  show PySem.W.KatLex prog w A true (decide (2 < 2)) _ [(.str z t, .str z t'), (.int x u, .int x' u')] 0 s
  refine PySem.W.kat_cons (SeqAt.EqAt.str_str z t z t' prog w _ _ ?_)
  refine PySem.W.kat_go (fun _ => ?_) (fun e1 => ?_)
  · refine PySem.W.kat_yes (PySem.W.kat_cons (SeqAt.EqAt.int_int x u x' u' prog w _ _ ?_))
    refine PySem.W.kat_go (fun e2 => ?_) (fun e2 => ?_)
    · have ex : x = x' := by simpa using e2
      have e3 : decide (x < x') = false := by
        rw [ex]
        exact decide_eq_false (Int.lt_irrefl _)
      exact PySem.W.kat_yes (PySem.W.kat_nil ⟨rfl, e3.symm⟩)
    · exact PySem.W.kat_no (PySem.W.kat_one _ _ (PyProof.Rows.lt_int (show s = s ∧ decide (x < x') = decide (x < x') from ⟨rfl, rfl⟩)))
  · exact absurd e1 (by simp)
theorem firsts_tp {h : Heap} {z : PySem.Str} : ∀ {vs : List Value}, (∀ v ∈ vs, ∃ x, IsTp h v z x) → ∃ fs : List Value, PySem.W.KatTups h vs fs ∧ fs.length = vs.length ∧ ∀ f ∈ fs, ∃ t, f = Value.str z t
  | [], _ => ⟨[], PySem.W.KatTups.nil, rfl, fun _ hm => by simp at hm⟩
  | v :: vs, hp => by
    obtain ⟨fs, h1, h2, h3⟩ := firsts_tp (vs := vs) fun v' hm => hp v' (List.mem_cons_of_mem _ hm)
    obtain ⟨x, a, o, t, u, n, e, ho, hc, hd⟩ := hp v (List.mem_cons_self ..)
    subst e
    refine ⟨.str z t :: fs, PySem.W.KatTups.cons ho hc hd rfl h1, by rw [List.length_cons, List.length_cons, h2], fun f hm => ?_⟩
    rcases List.mem_cons.mp hm with rfl | hm
    · exact ⟨t, rfl⟩
    · exact h3 f hm
theorem tps_sortableO {a : Addr} {vs : List Value} {z : PySem.Str} {k : Value → Int} (h0 : 0 < vs.length) (hp : ∀ v ∈ vs, IsTp s.heap v z (k v)) (ha : ∀ o, s.heap.get? a = some o → o.cls ≠ .type "tuple") : SortableO prog w A s a vs fun v u => decide (k v < k u) := by
  intro h' keep
  have hp' : ∀ v ∈ vs, IsTp h' v z (k v) := fun v hm => (hp v hm).keeps fun b o e c => keep b o (fun z => by subst z; exact ha o e c) e
  obtain ⟨fs, h1, h2, h3⟩ := firsts_tp fun v hm => ⟨_, hp' v hm⟩
  refine ⟨tuples' true, fun Q E hq => ?_, tp_cmp hp'⟩
  refine PySem.W.kat_kind (T := .type "str") h1 (by omega) (fun f hm => ?_) (by rfl) ?_
  · obtain ⟨t, rfl⟩ := h3 f hm
    exact PySem.W.Looks.now
  · have e : (Value.type "str" != Value.type "tuple") = true := by first | decide +kernel | rfl | decide
    rw [e]
    exact hq
/-- sorted(l) of tuples of one word and a number: by the number, stable -/
theorem sorted_tpsO {l : Addr} {vs : List Value} {z : PySem.Str} {k : Value → Int} {Q : Value → Shared → Prop} (hl : s.heap.IsList l vs.toArray) (hz : vs.length ≤ sizeLine) (hp : ∀ v ∈ vs, IsTp s.heap v z (k v))
    (h : ∀ (h' : Heap) (d : Addr) (out : List Value), Srtd (fun v u => decide (k v < k u)) out → Stb (fun v u => decide (k v < k u)) out vs → (∀ b o, s.heap.get? b = some o → h'.get? b = some o) → s.heap.objs.size ≤ d → (∃ n, h'.get? d = some (seqObj "list" out.toArray n)) → Q (.ref d) { s with heap := h' }) :
    wpAny (model prog w) A (call (.builtin "sorted") [.ref l]) Q E s := by
  refine sorted_ord (swo_int k) hl hz (fun h2 h₁ a ha kk => ?_) fun out hs hb => ?_
  · refine tps_sortableO (s := { s with heap := h₁ }) (by omega) (fun v hm => (hp v hm).keeps fun b o e _ => (kk b o e).2) fun o e => ?_
    have e' : some o = some (seqObj "list" vs.toArray 0) := e.symm.trans ha
    cases e'
    intro c
    exact absurd (Value.type.inj c) (by decide)
  · exact h _ _ out hs hb (fun b o e => sortedAll_old e) (Nat.le_succ _) (sortedAll_at s.heap vs out.toArray)
end
end SrtO
namespace L2
open PySem PySem.Spec PyProof.Rows
noncomputable abbrev ltK (k : V → Int) (x y : V) : Bool := decide (k x < k y)
theorem ltK_swo (k : V → Int) : SrtO.Swo (ltK k) := by
  refine ⟨fun x y h => ?_, fun x y z h1 h2 => ?_⟩
  · have a := of_decide_eq_true h
    exact decide_eq_false (by omega)
  · have a := of_decide_eq_false h1
    have b := of_decide_eq_false h2
    exact decide_eq_false (by omega)
/-- sorted(xs), xs a list of tuples of one word and a number (k says which) -/
noncomputable def rSortTp (K : PySem.W.Frag) : List V → Hp → VK → Prop := fun vs H Q => ∃ (a : Addr) (xs : List V) (z : PySem.Str) (k : V → Int), vs = [V.ref a] ∧ SqL K H a xs ∧ (∀ x ∈ xs, ∃ t, x = V.ref t ∧ H t = some (.tup [.str z, .int (k x)])) ∧
  ∀ ys p, SrtO.Srtd (ltK k) ys → SrtO.Stb (ltK k) ys xs → H p = none → Q (.ref p) (upd H p (.lst ys))
section
variable {X : Cx}
theorem call_sortTp : CallR X (.builtin "sorted") (rSortTp X.K) := by
  intro pins s σ H vs us Q I r h
  obtain ⟨a, xs, z, k, rfl, hs, hx, q⟩ := h
  obtain ⟨its, rv, hl, hz⟩ := I.list hs
  obtain ⟨u, rfl, ru⟩ := vals1 r
  obtain rfl : u = Value.ref a := ru
  obtain ⟨e1, e2⟩ := refs_back rv fun x m => by
    obtain ⟨t, e, _⟩ := hx x m
    exact ⟨t, e⟩
  refine SrtO.sorted_tpsO (z := z) (k := fun u => k (backV u)) hl.isList (by rw [← rv.length]; exact hz) (fun v hv => ?_) fun h' d out h1 h2 kp hd hn => ?_
  · obtain ⟨t, rfl⟩ := e2 v hv
    have hm : V.ref t ∈ xs := by rw [e1]; exact List.mem_map.mpr ⟨_, hv, rfl⟩
    obtain ⟨t', e, ht⟩ := hx _ hm
    cases e
    obtain ⟨_, its2, r2, o, ho, hc, n, hd⟩ := I.hok _ _ ht
    obtain ⟨u1, u2, rfl, ri, rj⟩ := vals2 r2
    obtain ⟨t1, rfl⟩ := ri
    obtain ⟨t2, rfl⟩ := rj
    exact ⟨t, o, t1, t2, n, rfl, ho, hc, hd⟩
  · have h3 : ∀ u ∈ out, ∃ a, u = Value.ref a := fun u hu => e2 u (h2.perm.mem_iff.mp hu)
    obtain ⟨n, hn⟩ := hn
    have hb : SrtO.Stb (ltK k) (out.map backV) xs := by
      rw [e1]
      exact SrtO.Stb.map (ltK_swo k) backV h2
    refine ⟨.ref d, upd H d (.lst (out.map backV)), I.laid (t' := s.toks) kp hd ⟨?_, out, n, vals_back h3, hn⟩, rfl, q _ d (SrtO.srtd_map h1) hb (I.hok.fresh hd)⟩
    rw [hb.len]
    exact hz
end
end L2
namespace Fl
open PySem L2
section
variable {G : Glob} {φ : Mp} {s s' : S} {H : Hp} {d : D} {Q : VK} {K : PySem.W.Frag}
theorem RepL.onesR : ∀ {ds : List D} {vs : List V} {l : List Nat}, RepL φ s H ds vs → onesD ds = some l → vs = (l.map sing).map V.str
  | [], vs, l, r, e => by
    simp only [RepL] at r
    subst r
    cases e
    rfl
  | .str [c] :: ds, vs, l, r, e => by
    simp only [RepL, Rep] at r
    obtain ⟨v, w, rfl, rfl, r2⟩ := r
    have e' : (onesD ds).map (fun q => c :: q) = some l := e
    obtain ⟨q, h1, rfl⟩ := Option.map_eq_some_iff.mp e'
    rw [r2.onesR h1]
    rfl
  | .str [] :: ds, vs, l, r, e => by cases e
  | .str (_ :: _ :: _) :: ds, vs, l, r, e => by cases e
  | .non :: ds, vs, ns, r, e => by cases e
  | .bl _ :: ds, vs, ns, r, e => by cases e
  | .int _ :: ds, vs, ns, r, e => by cases e
  | .tup _ :: ds, vs, ns, r, e => by cases e
  | .lst _ :: ds, vs, ns, r, e => by cases e
  | .ref _ :: ds, vs, ns, r, e => by cases e
  | .scr _ :: ds, vs, ns, r, e => by cases e
/-- the number of a tuple of two -/
noncomputable def kTp (H : Hp) : V → Int
  | .ref a => match H a with
    | some (.tup [_, .int i]) => i
    | _ => 0
  | _ => 0
theorem RepL.wnR {z : List Nat} : ∀ {ds : List D} {vs : List V} {ks : List Int}, RepL φ s H ds vs → wnD z ds = some ks →
    (∀ x ∈ vs, ∃ t, x = V.ref t ∧ H t = some (.tup [.str ⟨z.toArray⟩, .int (kTp H x)])) ∧ vs.map (kTp H) = ks
  | [], vs, l, r, e => by
    simp only [RepL] at r
    subst r
    cases e
    exact ⟨fun _ h => (nomatch h), rfl⟩
  | .tup [.str x, .int i] :: ds, vs, l, r, e => by
    have e' : (if x = z then (wnD z ds).map (fun q => i :: q) else none) = some l := e
    split at e'
    · rename_i hx
      subst hx
      obtain ⟨q, h1, rfl⟩ := Option.map_eq_some_iff.mp e'
      simp only [RepL] at r
      obtain ⟨v, w, rfl, rv, r2⟩ := r
      simp only [Rep, RepL] at rv
      obtain ⟨a, us, rfl, ha, -, u1, w1, rfl, rfl, u2, w2, rfl, rfl, rfl⟩ := rv
      obtain ⟨g1, g2⟩ := r2.wnR h1
      have hk : kTp H (.ref a) = i := by simp only [kTp, ha]
      refine ⟨fun y hy => ?_, ?_⟩
      · rcases List.mem_cons.mp hy with rfl | hy
        · exact ⟨a, rfl, by rw [hk]; exact ha⟩
        · exact g1 y hy
      · rw [List.map_cons, hk, g2]
    · cases e'
  | .non :: ds, vs, ns, r, e => by cases e
  | .bl _ :: ds, vs, ns, r, e => by cases e
  | .int _ :: ds, vs, ns, r, e => by cases e
  | .str _ :: ds, vs, ns, r, e => by cases e
  | .lst _ :: ds, vs, ns, r, e => by cases e
  | .ref _ :: ds, vs, ns, r, e => by cases e
  | .scr _ :: ds, vs, ns, r, e => by cases e
  | .tup [] :: ds, vs, ns, r, e => by cases e
  | .tup [_] :: ds, vs, ns, r, e => by simp [wnD] at e
  | .tup (_ :: _ :: _ :: _) :: ds, vs, ns, r, e => by simp [wnD] at e
  | .tup [.non, _] :: ds, vs, ns, r, e => by simp [wnD] at e
  | .tup [.bl _, _] :: ds, vs, ns, r, e => by simp [wnD] at e
  | .tup [.int _, _] :: ds, vs, ns, r, e => by simp [wnD] at e
  | .tup [.tup _, _] :: ds, vs, ns, r, e => by simp [wnD] at e
  | .tup [.lst _, _] :: ds, vs, ns, r, e => by simp [wnD] at e
  | .tup [.ref _, _] :: ds, vs, ns, r, e => by simp [wnD] at e
  | .tup [.scr _, _] :: ds, vs, ns, r, e => by simp [wnD] at e
  | .tup [.str _, .non] :: ds, vs, ns, r, e => by simp [wnD] at e
  | .tup [.str _, .bl _] :: ds, vs, ns, r, e => by simp [wnD] at e
  | .tup [.str _, .str _] :: ds, vs, ns, r, e => by simp [wnD] at e
  | .tup [.str _, .tup _] :: ds, vs, ns, r, e => by simp [wnD] at e
  | .tup [.str _, .lst _] :: ds, vs, ns, r, e => by simp [wnD] at e
  | .tup [.str _, .ref _] :: ds, vs, ns, r, e => by simp [wnD] at e
  | .tup [.str _, .scr _] :: ds, vs, ns, r, e => by simp [wnD] at e
theorem ordI_up : ∀ {l : List Int}, ordI l = true → l.Pairwise (· ≤ ·)
  | [], _ => List.Pairwise.nil
  | i :: r, h => by
    have h' : (r.all (fun j => decide (i ≤ j)) && ordI r) = true := h
    rw [Bool.and_eq_true] at h'
    exact List.pairwise_cons.mpr ⟨fun y hy => by simpa using List.all_eq_true.mp h'.1 y hy, ordI_up h'.2⟩
noncomputable abbrev rSortAll (K : PySem.W.Frag) : List V → Hp → VK → Prop := fun vs H Q => (rSortTx vs H Q ∨ rSortedS K vs H Q) ∨ rSortTp K vs H Q
theorem call_sortAll {X : Cx} (hc : X.calm = true) : CallR X (.builtin "sorted") (rSortAll X.K) := CallR.or (CallR.or (call_sortTx hc) cr_sortedS) call_sortTp
theorem sort_ok {ds : List D} {vs : List V} {bx : Bool} (hkk : φ.K = K) (h : HR G φ s H) (r : RepL φ s H ds vs) (e : sortD s bx ds = some (.ok d, s')) (p : Post G φ s H s' d Q) : rSortAll K vs H Q := by
  unfold sortD at e
  split at e
  · rename_i x
    split at e
    · rename_i hz
      simp only [RepL, Rep] at r
      obtain ⟨v, w, rfl, rfl, rfl⟩ := r
      refine .inl (.inl ⟨_, rfl, by simpa using hz, fun q hq => ?_⟩)
      exact Post.lst h e p (by simpa using rep_sings (sortM x)) q hq
    · cases e
  · split at e
    · rename_i xs hxs
      simp only [RepL] at r
      obtain ⟨v, w, rfl, r1, rfl⟩ := r
      obtain ⟨a, ws, rfl, h1, h2⟩ := r1.lcont h hxs
      rw [hkk] at h1
      unfold sortL at e
      split at e
      · rename_i l hl
        split at e
        · rename_i hz
          rw [h2.onesR hl] at h1
          refine .inl (.inr ⟨a, l.map sing, rfl, h1, by rw [List.length_map]; exact hz, fun ys q hpm hs hq => ?_⟩)
          obtain ⟨m, rfl⟩ := sings_of ys fun k hk => by
            obtain ⟨c, _, e⟩ := List.mem_map.mp (hpm.mem_iff.mp hk)
            exact ⟨c, e.symm⟩
          have hm : m.Perm l := by
            have := hpm.map (fun k : Str => k.cps.toList.headD 0)
            rw [List.map_map, List.map_map] at this
            simpa [Function.comp_def] using this
          have em : m = sortM l := le_uniq (sorted_up m hs) (sortM_up _) (hm.trans (sortM_perm _).symm)
          rw [em, List.map_map]
          exact Post.lst h e p (rep_sings (sortM l)) q hq
        · cases e
      · split at e
        · rename_i ks hks
          split at e
          · rename_i ho
            obtain ⟨g1, g2⟩ := h2.wnR hks
            refine .inr ⟨a, ws, _, kTp H, rfl, h1, g1, fun ys q hs hb hq => ?_⟩
            have hsr : SrtO.Srtd (ltK (kTp H)) ws := by
              have := ordI_up ho
              rw [← g2, List.pairwise_map] at this
              exact this.imp fun hh => decide_eq_false (by omega)
            have ey : ys = ws := SrtO.stb_uniq (ltK_swo _) hs hsr hb
            rw [ey]
            exact Post.lst h e p h2 q hq
          · cases e
        · cases e
    · cases e
  · cases e
end
end Fl
namespace Fl
open PySem PySem.Calls PyProof.Rows PyProof.V PySem.Spec PySem.W L2
section
variable {P : Program} {w : World} {A : Around} {E : Value → Shared → Prop} {s : Shared}
noncomputable abbrev newSetO (w : World) : Obj := { cls := .type "set", dict := none, data := .set #[] 0 (.fresh 0 0 (!w.params.followText "set-order")) }
noncomputable abbrev newIterO (l : Addr) : Obj := { cls := .type "list_iterator", data := .fields #[.ref l, .int 0 0] }
/-- set(xs) of a list, by what its loop leaves -/
theorem set_lst {l : Addr} {items : Array Value} {Fin : Heap → Nat → Prop} {Q : Value → Shared → Prop} (hh : A.handled = none) (hl : s.heap.IsList l items)
    (loop : ∀ (B : Around) (R : Result → Shared → Prop), B.in1.handled = none → ((s.heap.push (newSetO w)).push (newIterO l)).IsList l items → l < s.heap.objs.size →
      ((s.heap.push (newSetO w)).push (newIterO l)).get? s.heap.objs.size = some (newSetO w) →
      ((s.heap.push (newSetO w)).push (newIterO l)).IsListIter (s.heap.push (newSetO w)).objs.size l 0 →
      (∀ (hp : Heap) (tk c : Nat), Fin hp c → (∀ b o, s.heap.get? b = some o → hp.get? b = some o) → R (.ok (.ret .none)) { s with heap := hp, toks := tk }) →
      codeAny (model P w) B (.builtin "set.update.loop" ⟨[.ref s.heap.objs.size, .ref (s.heap.push (newSetO w)).objs.size], []⟩) R { s with heap := (s.heap.push (newSetO w)).push (newIterO l) })
    (h : ∀ (hp : Heap) (tk c : Nat), Fin hp c → (∀ b o, s.heap.get? b = some o → hp.get? b = some o) → Q (.ref s.heap.objs.size) { s with heap := hp, toks := tk }) :
    wpAny (model P w) A (call (.type "set") [.ref l]) Q E s := by
  obtain ⟨c0, tl0, hmro⟩ := PySem.F.called_set.mro
  have hmade := PySem.F.called_set.made
  have hsub := PySem.F.called_set.sub
  refine wpAny_call (codeAny_of_tree ?_)
  show wpAny _ _ (callAny (.type "set") _) _ _ _
  refine wpAny_pure ⟨Code.quiet_builtin _ (by decide +kernel), codeAny_builtin PySem.F.entry_type_call ?_⟩
  rw [Around.under_plain (weight_type_call_type "set" [.ref l] []) rfl]
  have h1 := PySem.F.called_set.notType
  have h2 := PySem.F.called_set.canCreate
  have hct := PySem.F.typeCall_set_1 (.ref l)
  repeat (any_goals (first | assumption | wp_step))
  refine codeAny_mono (code_set_led1 (.ref l) (E := E) (Q₁ := fun obj u => obj = .ref s.heap.objs.size ∧ u = { s with heap := s.heap.push (newSetO w) }) ⟨rfl, rfl⟩) fun r u hr => ?_
  cases r with
  | error e => exact hr
  | ok fl =>
    cases fl with
    | ret obj =>
      obtain ⟨rfl, rfl⟩ := hr
      have hS : (s.heap.push (newSetO w)).get? s.heap.objs.size = some (newSetO w) := Heap.get?_push_size _ rfl
      have hT : Shared.TypeIs { s with heap := s.heap.push (newSetO w) } (.ref s.heap.objs.size) "set" := ⟨_, hS, rfl⟩
      have hli := PySem.F.called_set.init.lookup
      have hbi := PySem.F.called_set.init.bind (.ref s.heap.objs.size)
      repeat (any_goals (first | assumption | wp_step))
      refine codeAny_mono (codeAny_call_builtin (R := wants (fun r v => r = .none ∧ ∃ hp tk c, v = { s with heap := hp, toks := tk } ∧ Fin hp c ∧
          (∀ b o, s.heap.get? b = some o → hp.get? b = some o)) E) PySem.F.called_set.init.plain PySem.F.entry_set_init (check_set_init_1 hT ?_)) fun r₂ v hr₂ => ?_
      · obtain ⟨ol, hol, hcl, nl, hdl⟩ := hl
        obtain ⟨ocls, odict, odata, oslots⟩ := ol
        simp only at hcl hdl
        subst hcl; subst hdl
        have hol' : (s.heap.push (newSetO w)).get? l = some { cls := .type "list", dict := odict, data := .seq items nl, slots := oslots } := Heap.get?_push_of_some _ hol
        have hsls := PySem.F.sub_list_set
        have hslf := PySem.F.sub_list_frozenset
        have hne : (Value.type "list" == Value.type "dict") = false := by decide
        have hl1 : (s.heap.push (newSetO w)).IsList l items := ⟨_, hol', rfl, nl, rfl⟩
        unfold Builtin.«set.__init__» noKeywords Builtin.Frozenset.updateFrom
        generalize hPI : pyIter = PI
        wp_walk
        subst hPI
        refine wpAny_pyIter_list hl1 ?_
        refine wpAny_bind (wpAny_runValue ?_)
        have hh3 : A.in1.in1.in1.handled = none := by simp [hh]
        refine loop _ _ hh3 (hl1.push _) (Heap.lt_size hol) (Heap.get?_push_of_some _ hS) ⟨_, Heap.get?_push_size _ rfl, rfl, rfl⟩ fun hp tk c hF hk => ?_
        show wpAny _ _ _ _ _ _
        refine wpAny_pure ?_
        show wpAny _ _ (ret Value.none) _ _ _
        exact wpAny_pure ⟨rfl, hp, tk, c, rfl, hF, hk⟩
      · cases r₂ with
        | error e => exact hr₂
        | ok fl₂ =>
          cases fl₂ with
          | ret r =>
            obtain ⟨rfl, hp, tk, c, rfl, hF, hk⟩ := hr₂
            repeat (any_goals (first | assumption | wp_step))
            exact h _ _ _ hF hk
          | _ => exact hr₂.elim
    | _ => exact hr.elim
theorem push_ne {h : Heap} {l : Addr} {o : Obj} (hl : l < h.objs.size) : l ≠ (h.push o).objs.size := by
  rw [Heap.size_push]
  exact Nat.ne_of_lt (Nat.lt_succ_of_lt hl)
theorem push_nin {h : Heap} {l : Addr} {o : Obj} (hl : l < h.objs.size) : h.objs.size ∉ [(h.push o).objs.size, l] := by
  rw [Heap.size_push]
  simp only [List.mem_cons, List.mem_singleton, List.not_mem_nil, or_false, not_or]
  exact ⟨Nat.ne_of_lt (Nat.lt_succ_self _), Nat.ne_of_gt hl⟩
/-- what was there stays -/
theorem moved_keeps {l : Addr} {G : Array GenState → Array GenState → Prop} {u : Shared} (hm : Moved (s.heap.objs.size :: [(s.heap.push (newSetO w)).objs.size]) G { s with heap := (s.heap.push (newSetO w)).push (newIterO l) } u) :
    ∀ b o, s.heap.get? b = some o → u.heap.get? b = some o := fun b o e => by
  have hb0 : b < s.heap.objs.size := Heap.lt_size e
  have hb1 : b ≠ s.heap.objs.size := Nat.ne_of_lt hb0
  have hb2 : b ≠ (s.heap.push (newSetO w)).objs.size := push_ne hb0
  exact hm.heap b o (by simp only [List.mem_cons, List.mem_singleton, List.not_mem_nil, or_false, not_or]; exact ⟨hb1, hb2⟩) (Heap.get?_push_of_some _ (Heap.get?_push_of_some _ e))
theorem tst_callL {l : Addr} {items : Array Value} {x : Str} {Q : Value → Shared → Prop} (hh : A.handled = none) (hl : s.heap.IsList l items) (hz : items.size = x.cps.size) (hi : ∀ (i : Nat) v, items[i]? = some v → SignAt x i v) (hb : x.cps.size + 1 < scanBound)
    (h : ∀ (hp : Heap) (tk c : Nat), TSt w hp s.heap.objs.size (fun j => ∃ m, m < x.cps.size ∧ ∃ c, x.cps[m]? = some c ∧ j = ⟨#[c]⟩) c → c ≤ x.cps.size → (∀ b o, s.heap.get? b = some o → hp.get? b = some o) → Q (.ref s.heap.objs.size) { s with heap := hp, toks := tk }) :
    wpAny (model P w) A (call (.type "set") [.ref l]) Q E s := by
  refine set_lst (Fin := fun hp c => TSt w hp s.heap.objs.size (fun j => ∃ m, m < x.cps.size ∧ ∃ c, x.cps[m]? = some c ∧ j = ⟨#[c]⟩) c ∧ c ≤ x.cps.size) hh hl (fun B R hB hl2 hlt hS hI hR => ?_) fun hp tk c hF hk => h hp tk c hF.1 hF.2 hk
  have W := (Walks.list (prog := P) (w := w) hB (s.heap.push (newSetO w)).objs.size l (push_ne hlt) items).toS
  rw [hz] at W
  refine tst_loop W hi s.heap.objs.size (push_nin hlt) hb (x.cps.size - 0) 0 _ (by omega) (Nat.zero_le _) ⟨hI, hl2⟩ ⟨0, Nat.le_refl 0, (tst_new hS).iff fun j => ⟨fun ⟨m, h1, _⟩ => absurd h1 (Nat.not_lt_zero m), False.elim⟩⟩ fun u c hm hc hSu => ?_
  have kk := moved_keeps hm
  obtain ⟨hp, g2, d2, tk2, os2⟩ := u
  have eg : g2 = s.gens := hm.gens
  have ed : d2 = s.drawn := hm.drawn
  have eo : os2 = s.os := hm.os
  subst eg; subst ed; subst eo
  exact hR hp tk2 c ⟨hSu, hc⟩ kk
theorem setI_callL {l : Addr} {items : Array Value} {ns : List Int} {Q : Value → Shared → Prop} (hh : A.handled = none) (hl : s.heap.IsList l items) (hi : IntsAre items.toList ns) (hb : ns.length + 1 < scanBound)
    (h : ∀ (hp : Heap) (tk c : Nat), SetR w hp s.heap.objs.size (fun j => decide (j ∈ ns)) c → c ≤ ns.length → (∀ b o, s.heap.get? b = some o → hp.get? b = some o) → Q (.ref s.heap.objs.size) { s with heap := hp, toks := tk }) :
    wpAny (model P w) A (call (.type "set") [.ref l]) Q E s := by
  have hz : items.size = ns.length := by
    have q := IntsAre.length hi
    rw [Array.length_toList] at q
    exact q
  refine set_lst (Fin := fun hp c => SetR w hp s.heap.objs.size (fun j => decide (j ∈ ns)) c ∧ c ≤ ns.length) hh hl (fun B R hB hl2 hlt hS hI hR => ?_) fun hp tk c hF hk => h hp tk c hF.1 hF.2 hk
  have W := (Walks.list (prog := P) (w := w) hB (s.heap.push (newSetO w)).objs.size l (push_ne hlt) items).toS
  refine set_update_ints W s.heap.objs.size (push_nin hlt) ns hz hb (fun i v hv => ?_) (items.size - 0) 0 _ (by omega) (Nat.zero_le _) ⟨hI, hl2⟩ ⟨0, Nat.le_refl 0, setR_new_at hS⟩ fun u c hm hc hSu => ?_
  · have hi' : i < ns.length := by rw [← hz]; exact (Array.getElem?_eq_some_iff.mp hv).1
    obtain ⟨t, e⟩ := PyProof.Rows.IntsAre.int_at hi i v (by rw [Array.getElem?_toList]; exact hv)
    refine ⟨ns[i], t, List.getElem?_eq_getElem hi', ?_⟩
    rw [e, List.getD_eq_getElem?_getD, List.getElem?_eq_getElem hi'] <;> rfl
  have kk := moved_keeps hm
  obtain ⟨hp, g2, d2, tk2, os2⟩ := u
  have eg : g2 = s.gens := hm.gens
  have ed : d2 = s.drawn := hm.drawn
  have eo : os2 = s.os := hm.os
  subst eg; subst ed; subst eo
  rw [hz] at hc
  exact hR hp tk2 c ⟨hSu, hc⟩ kk
end
section
variable {X : Cx}
theorem sign_vals : ∀ {ks : List Nat} {us : List Value}, Vals (ks.map fun c => V.str (sing c)) us → ∀ (i : Nat) v, us[i]? = some v → ∃ z tz, ks[i]? = some z ∧ v = Value.str ⟨#[z]⟩ tz
  | [], _, .nil, i, v, h => by simp at h
  | k :: ks, _, .cons r t, i, v, h => by
    cases i with
    | zero =>
      obtain ⟨tk, rfl⟩ := r
      simp only [List.getElem?_cons_zero, Option.some.injEq] at h
      exact ⟨k, tk, rfl, h.symm⟩
    | succ i =>
      rw [List.getElem?_cons_succ] at h ⊢
      exact sign_vals t i v h
/-- set(xs) of a list of texts of one sign -/
noncomputable def rSetLs (K : PySem.W.Frag) (w : World) : List V → Hp → VK → Prop := fun vs H Q => ∃ (l : Addr) (x : Str), vs = [.ref l] ∧ SqL K H l (x.cps.toList.map fun c => V.str (sing c)) ∧ x.cps.size < 64 ∧ ∀ p n, H p = none → n ≤ x.cps.size → Q (.ref p) (upd H p (TStO w p (fun j => ∃ m, m < x.cps.size ∧ ∃ c, x.cps[m]? = some c ∧ j = ⟨#[c]⟩) n))
theorem call_setLs (hc : X.calm = true) : CallR X (.type "set") (rSetLs X.K X.w) := by
  intro pins s σ H vs us Q I r h
  obtain ⟨l, x, rfl, hq, h64, q⟩ := h
  rw [Vals.ref1 r]
  obtain ⟨ts, rv, pl, hz⟩ := I.list hq
  refine tst_callL (x := x) (I.ok.hd hc) pl.isList (by rw [List.size_toArray, ← rv.length, List.length_map, Array.length_toList]) (fun i v hv => ?_) (by unfold scanBound; omega) fun hp tk2 c hS hcle k => ?_
  · rw [List.getElem?_toArray] at hv
    obtain ⟨z, tz, h1, h2⟩ := sign_vals rv i v hv
    exact ⟨z, tz, by rw [← Array.getElem?_toList]; exact h1, h2⟩
  · exact ⟨.ref _, upd H s.heap.objs.size (TStO X.w s.heap.objs.size _ c), I.laid (t' := tk2) k (Nat.le_refl _) (tstO_new hS), rfl, q _ _ (I.hok.fresh (Nat.le_refl _)) hcle⟩
/-- set(xs) of a list of whole numbers -/
noncomputable def rSetLi (K : PySem.W.Frag) (w : World) : List V → Hp → VK → Prop := fun vs H Q => ∃ (l : Addr) (ns : List Int), vs = [.ref l] ∧ SqL K H l (ns.map V.int) ∧ ns.length < 64 ∧ ∀ p n, H p = none → n ≤ ns.length → Q (.ref p) (upd H p (SetO w p (fun j => decide (j ∈ ns)) n))
theorem call_setLi (hc : X.calm = true) : CallR X (.type "set") (rSetLi X.K X.w) := by
  intro pins s σ H vs us Q I r h
  obtain ⟨l, ns, rfl, hq, h64, q⟩ := h
  rw [Vals.ref1 r]
  obtain ⟨ts, rv, pl, hz⟩ := I.list hq
  refine setI_callL (ns := ns) (I.ok.hd hc) pl.isList (by simpa using rv.ints) (by unfold scanBound; omega) fun hp tk2 c hS hcle k => ?_
  exact ⟨.ref _, upd H s.heap.objs.size (SetO X.w s.heap.objs.size _ c), I.laid (t' := tk2) k (Nat.le_refl _) (setO_new hS), rfl, q _ _ (I.hok.fresh (Nat.le_refl _)) hcle⟩
end
section
variable {G : Glob} {φ : Mp} {s s' : S} {H : Hp} {d : D} {Q : VK} {K : PySem.W.Frag} {cf : CF} {X : Cx} {a : Expr} {ca : E} {pos : Pos}
theorem risI_up : ∀ {l : List Int}, risI l = true → l.Pairwise (· < ·)
  | [], _ => List.Pairwise.nil
  | i :: r, h => by
    have h' : (r.all (fun j => decide (i < j)) && risI r) = true := h
    rw [Bool.and_eq_true] at h'
    exact List.pairwise_cons.mpr ⟨fun y hy => by simpa using List.all_eq_true.mp h'.1 y hy, risI_up h'.2⟩
theorem upI_uniq : ∀ {a b : List Int}, a.Pairwise (· < ·) → b.Pairwise (· < ·) → (∀ x, x ∈ a ↔ x ∈ b) → a = b
  | [], [], _, _, _ => rfl
  | [], y :: b, _, _, h => by have := (h y).mpr List.mem_cons_self; cases this
  | x :: a, [], _, _, h => by have := (h x).mp List.mem_cons_self; cases this
  | x :: a, y :: b, ha, hb, h => by
    obtain ⟨a1, a2⟩ := List.pairwise_cons.mp ha
    obtain ⟨b1, b2⟩ := List.pairwise_cons.mp hb
    have e : x = y := by
      rcases List.mem_cons.mp ((h x).mp List.mem_cons_self) with z | z
      · exact z
      · rcases List.mem_cons.mp ((h y).mpr List.mem_cons_self) with z' | z'
        · exact z'.symm
        · have := b1 x z; have := a1 y z'; omega
    subst e
    refine congrArg (x :: ·) (upI_uniq a2 b2 fun z => ⟨fun hz => ?_, fun hz => ?_⟩)
    · rcases List.mem_cons.mp ((h z).mp (List.mem_cons_of_mem _ hz)) with e | e
      · have := a1 z hz; omega
      · exact e
    · rcases List.mem_cons.mp ((h z).mpr (List.mem_cons_of_mem _ hz)) with e | e
      · have := b1 z hz; omega
      · exact e
theorem c_sset {bx : Bool} {p p2 pos2 : Pos} (hK : X.K = G.K) (hc : X.calm = true) (hgl : Gl X "sorted") (hml : X.mg "sorted" = none) (hge : Gl X "set") (hme : X.mg "set" = none) (ha : PE X a (rE G cf ca)) (na : starEach [a] X.env = (false, eval a X.env) :: starEach [] X.env)
    (na2 : starEach [.Call (.Name "set" p2) [a] [] pos2] X.env = (false, eval (.Call (.Name "set" p2) [a] [] pos2) X.env) :: starEach [] X.env) :
    PE X (.Call (.Name "sorted" p) [.Call (.Name "set" p2) [a] [] pos2] [] pos) (rE G cf (.sset bx ca)) := by
  refine PE.imp (pe_callB (CallR.or (call_sortSt hc) (cr_sortedSet hc)) hgl hml boot_sorted (pa_cons (pe_callTy (CallR.or (call_setTx hc) (CallR.or (call_setLs hc) (call_setLi hc))) hge hme boot_set (pa_cons ha pa_nil na) (by decide) (by decide) na rfl) pa_nil na2) (by decide) (by decide) na2 rfl) fun σ H Q h => ?_
  obtain ⟨φ, s, r, A, d, s', he, p⟩ := h
  simp only [ev] at he
  obtain ⟨x, s1, e1, he⟩ := bnd_inv he
  refine rd_step A e1 fun φ1 H1 v g1 A1 rv => ?_
  split at he
  · rename_i z
    split at he
    · rename_i hz
      simp only [Rep] at rv
      subst rv
      refine .inl ⟨_, rfl, by simpa using hz, fun t n ht hn => ?_⟩
      have hn' : n < 64 := by simp at hn; omega
      refine .inl ⟨t, _, n, rfl, upd_same, hn', by simpa using hz, fun q hq => ?_⟩
      have g2 : Gr φ1 s1 H1 φ1 s1 (upd H1 t (TStO X.w t (fun j => ∃ m, m < (⟨z.toArray⟩ : Str).cps.size ∧ ∃ c, (⟨z.toArray⟩ : Str).cps[m]? = some c ∧ j = ⟨#[c]⟩) n)) := Gr.free A1.hr ht
      have h2 := A1.hr.free (o := TStO X.w t (fun j => ∃ m, m < (⟨z.toArray⟩ : Str).cps.size ∧ ∃ c, (⟨z.toArray⟩ : Str).cps[m]? = some c ∧ j = ⟨#[c]⟩) n) ht
      exact Post.lst h2 he (Post.from (g1.trans g2) p) (by simpa using rep_sings (sortU z)) q hq
    · cases he
  · split at he
    · rename_i xs hxs
      obtain ⟨a, ws, rfl, h1, h2⟩ := rv.lcont A1.hr hxs
      rw [A1.hr.k.trans hK.symm] at h1
      unfold ssetL at he
      split at he
      · rename_i l hl
        split at he
        · rename_i hz
          rw [h2.onesR hl] at h1
          refine .inr (.inl ⟨a, ⟨l.toArray⟩, rfl, by rw [List.map_map] at h1; simpa [Function.comp_def] using h1, by simpa using hz, fun t n ht hn => ?_⟩)
          have hn' : n < 64 := by simp at hn; omega
          refine .inl ⟨t, _, n, rfl, upd_same, hn', by simpa using hz, fun q hq => ?_⟩
          have g2 : Gr φ1 s1 H1 φ1 s1 (upd H1 t (TStO X.w t (fun j => ∃ m, m < (⟨l.toArray⟩ : Str).cps.size ∧ ∃ c, (⟨l.toArray⟩ : Str).cps[m]? = some c ∧ j = ⟨#[c]⟩) n)) := Gr.free A1.hr ht
          have h3 := A1.hr.free (o := TStO X.w t (fun j => ∃ m, m < (⟨l.toArray⟩ : Str).cps.size ∧ ∃ c, (⟨l.toArray⟩ : Str).cps[m]? = some c ∧ j = ⟨#[c]⟩) n) ht
          exact Post.lst h3 he (Post.from (g1.trans g2) p) (by simpa using rep_sings (sortU l)) q hq
        · cases he
      · split at he
        · rename_i ks hks
          split at he
          · rename_i hz
            rw [Bool.and_eq_true, decide_eq_true_eq] at hz
            have ev := h2.intsR hks
            rw [ev] at h1
            refine .inr (.inr ⟨a, ks, rfl, h1, hz.1, fun t n ht hn => ?_⟩)
            have hn' : n < 64 := by omega
            refine .inr ⟨t, _, n, rfl, upd_same, hn', fun ns q hp hm _ hq => ?_⟩
            have g2 : Gr φ1 s1 H1 φ1 s1 (upd H1 t (SetO X.w t (fun j => decide (j ∈ ks)) n)) := Gr.free A1.hr ht
            have h3 := A1.hr.free (o := SetO X.w t (fun j => decide (j ∈ ks)) n) ht
            have en : ns = ks := upI_uniq hp (risI_up hz.2) fun x => (hm x).trans (by simp)
            rw [en]
            exact Post.lst h3 he (Post.from (g1.trans g2) p) (ev ▸ h2.mono g2) q hq
          · cases he
        · cases he
    · cases he
end
end Fl
namespace MinT
open PySem PySem.Spec PyProof.Rows L2 Ob
section
open PySem.SeqAt
open PySem.AutoSeq1 (wpAny_loadPart')
open PySem.MeetsSeq PySem.MeetsSeq2 PySem.MeetsSeq3
theorem tup_lt_at (l b : Addr) (items items2 : Array Value) (n n2 : Nat) (dd dd2 : Option Addr) (sl sl2 : Array (Option Value)) (m : Nat) (c : Bool) :
    Meets (Builtin.«tuple.__lt__» ⟨[.ref l, .ref b], []⟩)
      (fun A R s => s.heap.get? l = some { cls := .type "tuple", dict := dd, data := .seq items n, slots := sl } ∧ s.heap.get? b = some { cls := .type "tuple", dict := dd2, data := .seq items2 n2, slots := sl2 } ∧
        (m < items.size ∧ m < items2.size) ∧ (∀ j (h1 : j < items.size) (h2 : j < items2.size), j < m → EqAt A.in1 s items[j] items2[j] true) ∧
        (∀ (h1 : m < items.size) (h2 : m < items2.size), EqAt A.in1 s items[m] items2[m] false ∧ Ob.RcOp .Lt A.in1 s items[m] items2[m] c) ∧
        R (.ok (.ret (.bool c))) s) :=
  .of_wp fun prog w A R s h => by
    obtain ⟨hp, g, d, tk, os⟩ := s; obtain ⟨hl, hb, hm, he, hr, h⟩ := h
    have f2 := AutoSeq1.sub_tuple_tuple
    have hZ : (items.toList.zip items2.toList).length = min items.size items2.size := by simp
    wp_walk using wpAny_loadPart' hl, wpAny_loadPart' hb, wpAny_forIn_list _ (fun rest b s' => b.1 = none ∧ s' = ⟨hp, g, d, tk, os⟩ ∧ ∃ i, i ≤ m ∧ rest = (items.toList.zip items2.toList).drop i) _
    case turn =>
      rintro ⟨y, x⟩ rest b s' ⟨hb', rfl, i, him, hz⟩
      have h1 : i < items.size := by omega
      have h2 : i < items2.size := by omega
      have hlt : i < (items.toList.zip items2.toList).length := by rw [hZ]; omega
      rw [List.drop_eq_getElem_cons hlt] at hz
      injection hz with hyx hrest
      have hy : y = items[i] := by have := congrArg Prod.fst hyx; simpa using this
      have hx : x = items2[i] := by have := congrArg Prod.snd hyx; simpa using this
      subst hy hx
      by_cases hi : i < m
      · refine wpAny_bind (he i h1 h2 hi prog w _ _ ?_)
        wp_walk
        exact ⟨rfl, rfl, i + 1, hi, hrest⟩
      · have him' : i = m := by omega
        subst him'
        obtain ⟨q1, q2⟩ := hr h1 h2
        refine wpAny_bind (q1 prog w _ _ ?_)
        have hri := q2 prog w
        wp_walk using hri
        exact ⟨_, rfl, by simpa using h⟩
    case fin =>
      rintro ⟨b1, b2⟩ s' ⟨hb', rfl, i, him, hz⟩
      exfalso
      have hlt : i < (items.toList.zip items2.toList).length := by rw [hZ]; omega
      rw [List.drop_eq_getElem_cons hlt] at hz
      cases hz
    case h =>
      exact ⟨rfl, rfl, 0, Nat.zero_le _, rfl⟩
end
theorem rc_at {A : Around} {s : Shared} {l b : Addr} {items items2 : Array Value} {m : Nat} {c : Bool} (hl : s.heap.IsTuple l items) (hb : s.heap.IsTuple b items2) (hu : A.units < cLine) (hm : m < items.size ∧ m < items2.size)
    (he : ∀ j (h1 : j < items.size) (h2 : j < items2.size), j < m → SeqAt.EqAt A.in1 s items[j] items2[j] true)
    (hr : ∀ (h1 : m < items.size) (h2 : m < items2.size), SeqAt.EqAt A.in1 s items[m] items2[m] false ∧ Ob.RcOp .Lt A.in1 s items[m] items2[m] c) :
    Ob.RcOp .Lt A s (.ref l) (.ref b) c := fun prog w E Q h => by
  obtain ⟨⟨cls, dd, data, sl⟩, ho, hc, n, hd⟩ := id hl
  obtain ⟨⟨cls2, dd2, data2, sl2⟩, ho2, hc2, n2, hd2⟩ := id hb
  simp only at hc hd hc2 hd2
  subst hc hd hc2 hd2
  exact richCompare_meets_room (op := .Lt) ⟨_, ho, rfl⟩ ⟨_, ho2, rfl⟩ F.slot_tuple_lt F.entry_tuple_lt (F.args_tuple_lt_2 _ _) (tup_lt_at l b items items2 n n2 dd dd2 sl sl2 m c)
    ⟨ho, ho2, hm, he, hr, ⟨(fun x => nomatch x), h⟩⟩ hu
theorem rc_str {A : Around} {s : Shared} (x y : Str) (t u : Tok) : Ob.RcOp .Lt A s (.str x t) (.str y u) (decide (x.cps.toList < y.cps.toList)) := fun prog w E Q h => lt_str h
/-- the order of two such tuples -/
noncomputable def lt2 (a : Str) (i : Int) (b : Str) (j : Int) : Bool := if a = b then decide (i < j) else decide (a.cps.toList < b.cps.toList)
theorem rc_ev {A : Around} {s : Shared} {l b : Addr} {x y : Str} {i j : Int} {t u t' u' : Tok} {r1 r2 : List Value} (hl : s.heap.IsTuple l (.str x t :: .int i u :: r1).toArray) (hb : s.heap.IsTuple b (.str y t' :: .int j u' :: r2).toArray) (hu : A.units < cLine) (hne : x = y → i ≠ j) :
    Ob.RcOp .Lt A s (.ref l) (.ref b) (lt2 x i y j) := by
  by_cases c : x = y
  · subst c
    have hij := hne rfl
    have e : lt2 x i x j = decide (i < j) := if_pos rfl
    rw [e]
    refine rc_at (m := 1) hl hb hu ⟨by simp, by simp⟩ (fun k h1 h2 hk => ?_) fun h1 h2 => ?_
    · have : k = 0 := by omega
      subst this
      have := SeqAt.EqAt.str_str (A := A.in1) (s := s) x t x t'
      simpa using this
    · constructor
      · have := SeqAt.EqAt.int_int (A := A.in1) (s := s) i u j u'
        have z : (i == j) = false := beq_eq_false_iff_ne.mpr hij
        rw [z] at this
        simpa using this
      · have := Ob.RcOp.lt_int (A := A.in1) (s := s) i j u u'
        simpa using this
  · have e : lt2 x i y j = decide (x.cps.toList < y.cps.toList) := if_neg c
    rw [e]
    refine rc_at (m := 0) hl hb hu ⟨by simp, by simp⟩ (fun k h1 h2 hk => absurd hk (Nat.not_lt_zero _)) fun h1 h2 => ?_
    constructor
    · have := SeqAt.EqAt.str_str (A := A.in1) (s := s) x t y t'
      have z : (x == y) = false := beq_eq_false_iff_ne.mpr c
      rw [z] at this
      simpa using this
    · have := rc_str (A := A.in1) (s := s) x y t t'
      simpa using this
theorem rc_same {A : Around} {s : Shared} {l : Addr} {its : Array Value} (hl : s.heap.IsTuple l its) (hu : A.units < cLine) : Ob.RcOp .Lt A s (.ref l) (.ref l) false := by
  have := Ob.RcOp.tuples_lt (A := A) (s := s) (e := fun _ => true) (r := fun _ => false) hl hl hu (fun j h1 h2 => SeqAt.EqAt.same _) (fun j h1 h2 h => by cases h)
  have e : ∀ (k i : Nat), lexAt (fun _ => true) (fun _ => false) (decide (its.size < its.size)) i k = false := by
    intro k
    induction k with
    | zero => intro i; rw [lexAt_zero]; exact decide_eq_false (Nat.lt_irrefl _)
    | succ k ih => intro i; rw [lexAt_succ, if_pos rfl]; exact ih _
  rw [e] at this
  exact this
section
variable {X : Cx}
/-- min(xs) of one or two such tuples -/
noncomputable def rMinT (K : PySem.W.Frag) : List V → Hp → VK → Prop := fun vs H Q => ∃ (a : Addr), vs = [V.ref a] ∧ ((∃ (p : Addr) (ps : List V), SqL K H a [V.ref p] ∧ SqT K H p ps ∧ Q (.ref p) H) ∨
  (∃ (p q : Addr) (x y : Str) (i j : Int) (r1 r2 : List V), SqL K H a [V.ref p, V.ref q] ∧ SqT K H p (.str x :: .int i :: r1) ∧ SqT K H q (.str y :: .int j :: r2) ∧ (y = x → j ≠ i) ∧ Q (if lt2 y j x i = true then .ref q else .ref p) H))
theorem tup_keeps {h h' : Heap} {a : Addr} {its : Array Value} (p : h.IsTuple a its) (k : ∀ b o, h.get? b = some o → h'.get? b = some o) : h'.IsTuple a its := by
  obtain ⟨o, ho, r⟩ := p
  exact ⟨o, k _ _ ho, r⟩
theorem vals_ev {x : Str} {i : Int} {r : List V} {us : List Value} (h : Vals (.str x :: .int i :: r) us) : ∃ t u r', us = .str x t :: .int i u :: r' := by
  cases h with
  | cons h1 h2 =>
    cases h2 with
    | cons h3 h4 =>
      obtain ⟨t, rfl⟩ := h1
      obtain ⟨u, rfl⟩ := h3
      exact ⟨t, u, _, rfl⟩
theorem cr_minT (hc : X.calm = true) (hu : X.A.in1.units < cLine) : CallR X (.builtin "min") (rMinT X.K) := by
  intro pins s σ H vs us Q I r h
  obtain ⟨a, rfl, h⟩ := h
  rw [Vals.ref1 r]
  rcases h with ⟨p, ps, hs, ht, q⟩ | ⟨p, q, x, y, i, j, r1, r2, hs, hp, hq, hne, qq⟩
  · obtain ⟨its, rv, hl, _⟩ := I.list hs
    obtain ⟨pits, -, pt, -⟩ := I.tuple ht
    obtain ⟨u, rfl, ru⟩ := vals1 rv
    cases ru
    refine call_min_walkH (PySem.W.iter_listW (A := X.A.in1) (I.ok.hd hc) hl.isList fun s₂ e W st hfp hw hk => ?_)
    refine ⟨_, _, _, _, _, _, _, s.heap, fun _ _ => false, rfl, W, st, hfp, by simp, hw, hk, ?_, fun v s' hP m => ?_⟩
    · intro k1 k2 v1 v2 s' Q' E' keep e1 e2 hq
      have z1 : v1 = .ref p := by
        match k1, e1 with
        | 0, e1 => simpa using e1.symm
        | k + 1, e1 => simp at e1
      have z2 : v2 = .ref p := by
        match k2, e2 with
        | 0, e2 => simpa using e2.symm
        | k + 1, e2 => simp at e2
      subst z1 z2
      exact rc_same (tup_keeps pt keep) hu _ _ _ _ hq
    · obtain ⟨h', tk, rfl, hk'⟩ := PySem.W.moved_old e rfl m
      have hv : v = .ref p := by simpa [argBest] using hP.symm
      subst hv
      exact ⟨V.ref p, H, I.kept hk', rfl, q⟩
  · obtain ⟨its, rv, hl, _⟩ := I.list hs
    obtain ⟨u, w, rfl, ru, rw'⟩ := vals2 rv
    cases ru
    cases rw'
    obtain ⟨its1, v1, t1, -⟩ := I.tuple hp
    obtain ⟨its2, v2, t2, -⟩ := I.tuple hq
    obtain ⟨a1, a2, a3, rfl⟩ := vals_ev v1
    obtain ⟨b1, b2, b3, rfl⟩ := vals_ev v2
    refine call_min_walkH (PySem.W.iter_listW (A := X.A.in1) (I.ok.hd hc) hl.isList fun s₂ e W st hfp hw hk => ?_)
    refine ⟨_, _, _, _, _, _, _, s.heap, (fun k1 k2 => if k1 = k2 then false else if k1 = 0 then lt2 x i y j else lt2 y j x i), rfl, W, st, hfp, by simp, hw, hk, ?_, fun v s' hP m => ?_⟩
    · intro k1 k2 v1' v2' s' Q' E' keep e1 e2 hq
      have at_ : ∀ (k : Nat) (v : Value), #[Value.ref p, Value.ref q][k]? = some v → (k = 0 ∧ v = .ref p) ∨ (k = 1 ∧ v = .ref q) := fun k v e => by
        match k, e with
        | 0, e => exact .inl ⟨rfl, by simpa using e.symm⟩
        | 1, e => exact .inr ⟨rfl, by simpa using e.symm⟩
        | k + 2, e => simp at e
      have T1 := tup_keeps t1 keep
      have T2 := tup_keeps t2 keep
      rcases at_ k1 v1' (by simpa using e1) with ⟨rfl, rfl⟩ | ⟨rfl, rfl⟩ <;> rcases at_ k2 v2' (by simpa using e2) with ⟨rfl, rfl⟩ | ⟨rfl, rfl⟩
      · exact rc_same T1 hu _ _ _ _ hq
      · exact rc_ev T1 T2 hu (fun e => Ne.symm (hne e.symm)) _ _ _ _ hq
      · exact rc_ev T2 T1 hu hne _ _ _ _ hq
      · exact rc_same T2 hu _ _ _ _ hq
    · obtain ⟨h', tk, rfl, hk'⟩ := PySem.W.moved_old e rfl m
      have hv : v = if lt2 y j x i = true then .ref q else .ref p := by
        by_cases c : lt2 y j x i = true
        · rw [if_pos c]
          have e0 : argBest (fun k1 k2 => if k1 = k2 then false else if k1 = 0 then lt2 x i y j else lt2 y j x i) 1 = 1 := by
            simp [argBest, c]
          have hP' : #[Value.ref p, Value.ref q][1]? = some v := by rw [← e0]; exact hP
          simpa using hP'.symm
        · rw [if_neg c]
          have e0 : argBest (fun k1 k2 => if k1 = k2 then false else if k1 = 0 then lt2 x i y j else lt2 y j x i) 1 = 0 := by
            simp [argBest, c]
          have hP' : #[Value.ref p, Value.ref q][0]? = some v := by rw [← e0]; exact hP
          simpa using hP'.symm
      subst hv
      refine ⟨_, H, I.kept hk', ?_, qq⟩
      by_cases c : lt2 y j x i = true
      · rw [if_pos c, if_pos c]
        rfl
      · rw [if_neg c, if_neg c]
        rfl
end
end MinT
namespace Fl
open PySem L2
section
variable {G : Glob} {φ : Mp} {s s' : S} {H : Hp} {d : D} {Q : VK} {K : PySem.W.Frag}
theorem rep_tup {x : List D} {v : V} (r : Rep φ s H (.tup x) v) : ∃ p vs, v = .ref p ∧ SqT K H p vs ∧ RepL φ s H x vs := by
  simp only [Rep] at r
  obtain ⟨a, vs, rfl, h1, -, h3⟩ := r
  exact ⟨a, vs, rfl, .inl (Rd.of h1), h3⟩
theorem rep_ev {a : List Nat} {i : Int} {r : List D} {vs : List V} (h : RepL φ s H (.str a :: .int i :: r) vs) : ∃ r', vs = .str ⟨a.toArray⟩ :: .int i :: r' := by
  simp only [RepL, Rep] at h
  obtain ⟨v, vs', rfl, rfl, w, vs'', rfl, rfl, -⟩ := h
  exact ⟨vs'', rfl⟩
theorem minT_ok {ds : List D} {vs : List V} (hkk : φ.K = K) (h : HR G φ s H) (r : RepL φ s H ds vs) (e : minTD s ds = some (.ok d, s')) (p : Post G φ s H s' d Q) : MinT.rMinT K vs H Q := by
  unfold minTD at e
  split at e
  · obtain ⟨e1, rfl⟩ := lft_inv e
    obtain ⟨xs, e3, e4⟩ := Option.bind_eq_some_iff.mp e1
    simp only [RepL] at r
    obtain ⟨v, w, rfl, r1, rfl⟩ := r
    obtain ⟨a, vs, rfl, h1, h2⟩ := r1.lcont h e3
    rw [hkk] at h1
    unfold minTL at e4
    split at e4
    · rename_i x
      cases e4
      simp only [RepL] at h2
      obtain ⟨v, w, rfl, r2, rfl⟩ := h2
      obtain ⟨q, ws, rfl, k1, k2⟩ := rep_tup (K := K) r2
      exact ⟨a, rfl, .inl ⟨q, ws, h1, k1, p.here h r2⟩⟩
    · rename_i x y
      obtain ⟨b, e5, e6⟩ := Option.map_eq_some_iff.mp e4
      unfold ltEv at e5
      split at e5
      · rename_i a1 i1 t1 a2 i2 t2
        simp only [RepL] at h2
        obtain ⟨v, w, rfl, r2, v2, w2, rfl, r3, rfl⟩ := h2
        obtain ⟨q, ws, rfl, k1, k2⟩ := rep_tup (K := K) r2
        obtain ⟨q', ws', rfl, k1', k2'⟩ := rep_tup (K := K) r3
        obtain ⟨z, rfl⟩ := rep_ev k2
        obtain ⟨z', rfl⟩ := rep_ev k2'
        have inj : (⟨a1.toArray⟩ : Str) = ⟨a2.toArray⟩ ↔ a1 = a2 := by
          constructor
          · intro q
            have := congrArg (fun x : Str => x.cps.toList) q
            simpa using this
          · rintro rfl
            rfl
        refine ⟨a, rfl, .inr ⟨q, q', _, _, i2, i1, z, z', h1, k1, k1', ?_, ?_⟩⟩
        · intro q0 q1
          have := inj.mp q0
          subst this
          subst q1
          rw [if_pos rfl, if_pos rfl] at e5
          cases e5
        · have eb : MinT.lt2 ⟨a1.toArray⟩ i1 ⟨a2.toArray⟩ i2 = b := by
            unfold MinT.lt2
            by_cases c : a1 = a2
            · rw [if_pos (inj.mpr c)]
              rw [if_pos c] at e5
              split at e5
              · cases e5
              · cases e5
                rfl
            · rw [if_neg (fun q => c (inj.mp q))]
              rw [if_neg c] at e5
              cases e5
              simp
          rw [eb]
          subst e6
          cases b
          · exact p.here h r2
          · exact p.here h r3
      · cases e5
    · cases e4
  · cases e
end
end Fl
namespace Fl
open PySem L2 PySem.Spec PyProof.Rows
theorem bestD_eq (f : Nat → Nat → Bool) : ∀ n, bestD f n = argBest f n
  | 0 => rfl
  | n + 1 => by
    show (if f (n + 1) (bestD f n) = true then n + 1 else bestD f n) = _
    rw [bestD_eq f n]
    rfl
noncomputable def rMinE (K : PySem.W.Frag) : List V → Hp → VK → Prop := fun xs H Q => ∃ (a : Addr) (vs : List V) (ds : List PyData) (v : V), xs = [.ref a] ∧ SqL K H a vs ∧ DqL K H vs ds ∧ PySem.W.AlikeAll ds ∧ PyData.depthAll ds ≤ 100 ∧
  vs[argBest (fun i j => PySem.W.dataLt (ds.getD i .none) (ds.getD j .none)) (ds.length - 1)]? = some v ∧ Q v H
theorem cr_minE {X : Cx} (hc : X.calm = true) (hu : X.A.units + 200 < cLine) : CallR X (.builtin "min") (rMinE X.K) := by
  intro pins s σ H xs us Q I r h
  obtain ⟨a, vs, ds, v, rfl, hs, hd, ha, hz, hv, q⟩ := h
  rw [Vals.ref1 r]
  obtain ⟨its, rv, hl, _⟩ := I.list hs
  obtain ⟨as, rd⟩ := (DqL.sh I hd rv).reads
  have hn : its.length = ds.length := PySem.W.readsAll_len (by simpa using rd)
  have hlen := rv.length
  refine PySem.call_min_walkH (PySem.W.iter_listW (A := X.A.in1) (I.ok.hd hc) hl.isList fun s₂ e W st hfp hw hk => ?_)
  refine ⟨_, _, _, _, _, _, _, s.heap, _, rfl, W, st, hfp, ?_, hw, hk, PySem.W.cmpIn_lt (A := X.A.in1) (xs := ds) (by simpa using rd) ha (by show X.A.units + 1 + _ < _; omega), fun u s' hP m => ?_⟩
  · cases hvv : vs with
    | nil => rw [hvv] at hv; simp at hv
    | cons y ys => rw [hvv] at hlen; simp at hlen ⊢; omega
  · obtain ⟨h', tk, rfl, hk'⟩ := PySem.W.moved_old e rfl m
    obtain ⟨u', e1, r1⟩ := rv.get hv
    have e2 : its.toArray.size - 1 = ds.length - 1 := by simp [hn]
    rw [e2] at hP
    have hP' : its[argBest (fun i j => PySem.W.dataLt (ds.getD i .none) (ds.getD j .none)) (ds.length - 1)]? = some u := by simpa using hP
    rw [e1] at hP'
    cases hP'
    exact ⟨v, H, I.kept hk', r1, q⟩
/-- what shows it -/
theorem showsBy_sh {prog : Program} {w : World} {h₀ : Heap} {a : Addr} {d : PyData} (r : Sh h₀ (.ref a) d) (hs : d.showable = true) (hz : d.shown.length ≤ sizeLine) : ∃ T idr, ShowsBy prog w h₀ a d T idr := by
  cases r with
  | lst h1 h2 h3 h4 =>
    rename_i o vs n xs
    have hz' : (listText (PyData.shownAll xs)).length ≤ sizeLine := by simpa only [PyData.shown] using hz
    obtain ⟨as, rr⟩ := (Sh.lst h1 h2 h3 h4).reads
    obtain ⟨bs, hb, hk⟩ := ShL.rk (P := prog) (w := w) h4 (by simpa [PyData.showable] using hs) fun t ht => Nat.le_trans (listText_mem_le ht) hz'
    have hna : a ∉ bs := not_mem_of_deeper rr (by simp only [PyData.depth]; omega) hb
    refine ⟨"list", "list.__repr__", F.slot_list_repr.toG, F.slot_list_str, F.slot_list_format, fun s hk0 => ⟨o, hk0 _ _ h1, h2⟩, fun A E s Q hg hu hk0 hQ => ?_⟩
    simp only [PyData.depth] at hu
    simp only [PyData.shown] at hQ
    obtain ⟨l⟩ := vs
    cases l with
    | nil =>
      cases (show ShL h₀ [] xs from h4)
      simp only [PyData.shownAll, listText_nil] at hQ
      exact call_list_repr_empty ⟨o, hk0 _ _ h1, h2⟩ (hk0 _ _ h1) h3 (hQ s.heap _ _ fun _ _ e => e)
    | cons x l => exact call_list_reprK h1 h2 h3 hna (by simpa using hk.length_eq) (fun i y e => hk.item i y (by simpa using e)) hg (fun b _ => Clear.nil b) hu hk0 hQ hz'
  | tup h1 h2 h3 h4 =>
    rename_i o vs n xs
    have hz' : (tupleText (PyData.shownAll xs)).length ≤ sizeLine := by simpa only [PyData.shown] using hz
    obtain ⟨as, rr⟩ := (Sh.tup h1 h2 h3 h4).reads
    obtain ⟨bs, hb, hk⟩ := ShL.rk (P := prog) (w := w) h4 (by simpa [PyData.showable] using hs) fun t ht => Nat.le_trans (tupleText_mem_le ht) hz'
    have hna : a ∉ bs := not_mem_of_deeper rr (by simp only [PyData.depth]; omega) hb
    refine ⟨"tuple", "tuple.__repr__", F.slot_tuple_repr, F.slot_tuple_str, F.slot_tuple_format, fun s hk0 => ⟨o, hk0 _ _ h1, h2⟩, fun A E s Q hg hu hk0 hQ => ?_⟩
    simp only [PyData.depth] at hu
    simp only [PyData.shown] at hQ
    exact call_tuple_reprK h1 h2 h3 hna hk hg (fun b _ => Clear.nil b) hu hk0 hQ hz'
  | dct h1 h2 h3 hy h4 h5 =>
    rename_i o es n kvs
    have hz' : (dictText (PyData.shownKv kvs)).length ≤ sizeLine := by simpa only [PyData.shown] using hz
    obtain ⟨s1, s2⟩ := PyData.showableKv_split kvs (by simpa [PyData.showable] using hs)
    obtain ⟨b1, hb1, k1⟩ := ShL.rk (P := prog) (w := w) h4 s1 fun t ht => let ⟨p, hp, hl⟩ := PyData.shownKv_key_le kvs t ht; Nat.le_trans hl (Nat.le_trans (dictText_mem_le hp) hz')
    obtain ⟨b2, hb2, k2⟩ := ShL.rk (P := prog) (w := w) h5 s2 fun t ht => let ⟨p, hp, hl⟩ := PyData.shownKv_val_le kvs t ht; Nat.le_trans hl (Nat.le_trans (dictText_mem_le hp) hz')
    obtain ⟨as, rr⟩ := (Sh.dct h1 h2 h3 hy h4 h5).reads
    have hb : ReadAtMost h₀ (PyData.depthKv kvs) (b1 ++ b2) := (hb1.mono (PyData.depthAll_keys_le kvs)).append (hb2.mono (PyData.depthAll_vals_le kvs))
    have hna : a ∉ b1 ++ b2 := not_mem_of_deeper rr (by simp only [PyData.depth]; omega) hb
    refine ⟨"dict", "dict.__repr__", F.slot_dict_repr, F.slot_dict_str, F.slot_dict_format, fun s hk0 => ⟨o, hk0 _ _ h1, h2⟩, fun A E s Q hg hu hk0 hQ => ?_⟩
    simp only [PyData.depth] at hu
    simp only [PyData.shown, PyData.shownKv_eq] at hQ
    exact call_dict_reprK h1 h2 h3 hy hna (ReprEntriesK.of_two es.toList _ _ (k1.more_le (fun b z => List.mem_append_left _ z) (PyData.depthAll_keys_le kvs)) (k2.more_le (fun b z => List.mem_append_right _ z) (PyData.depthAll_vals_le kvs)))
      hg (fun b _ => Clear.nil b) hu hk0 hQ (by rw [← PyData.shownKv_eq]; exact hz')
/-- str of a thing on the heap -/
theorem str_ref {P : Program} {w : World} {A : Around} {E : Value → Shared → Prop} {s : Shared} {a : Addr} {d : PyData} {Q : Value → Shared → Prop} (r : Sh s.heap (.ref a) d) (hs : d.showable = true) (hg : A.guards = some []) (hu : A.units + (d.depth + 3) < cLine)
    (hQ : ∀ h' u tk, (∀ b o, s.heap.get? b = some o → h'.get? b = some o) → Q (.str d.shown u) { s with heap := h', toks := tk }) (hz : d.shown.length ≤ sizeLine) : wpAny (model P w) A (call (.type "str") [.ref a]) Q E s := by
  refine callType_new F.called_str (by decide) (F.typeCall_str_1 _) (F.newCall_str_1 _) (fun obj => F.args_object_init_2 obj _) F.entry_str_new
    (meets_str_new (S := fun A' R s' => A'.guards = some [] ∧ A'.units + (d.depth + 2) < cLine ∧ (∀ b o, s.heap.get? b = some o → s'.heap.get? b = some o) ∧
        ∀ h' u tk, (∀ b o, s'.heap.get? b = some o → h'.get? b = some o) → R (.ok (.ret (.str d.shown u))) { s' with heap := h', toks := tk })
      fun prog' w' A' R s' h => ?_)
    ⟨hg, by show A.units + 1 + (d.depth + 2) < cLine; omega, fun _ _ e => e, fun h' u tk hk => ⟨typeIs_str _ _ _, hQ h' u tk hk⟩⟩
  obtain ⟨T, idr, S⟩ := showsBy_sh (prog := prog') (w := w') r hs hz
  have h2 := h.2.1
  exact wpAny_strOf_slot rfl (by show A'.units + 1 + 1 < cLine; omega) (S.typeIs s' h.2.2.1) S.slotStr S.slotRepr (S.call A'.in1.in1 _ s' _ h.1 (by show A'.units + 1 + 1 + d.depth < cLine; omega) h.2.2.1 fun h' u tk hk => ⟨_, _, rfl, h.2.2.2 h' u tk hk⟩)
noncomputable def rStr (K : PySem.W.Frag) : List V → Hp → VK → Prop := fun xs H Q => (∃ z, xs = [.str z] ∧ Q (.str z) H) ∨ ((∀ z, xs ≠ [.str z]) ∧ rRepr K xs H Q)
theorem call_str {X : Cx} (hu : X.A.units + 4499 < cLine) (hg : X.A.guards = some []) : CallR X (.type "str") (rStr X.K) := by
  intro pins s σ H xs us Q I r h
  rcases h with ⟨z, rfl, q⟩ | ⟨hne, x, d, rfl, hd, hs, hk, hz, q⟩
  · obtain ⟨u, rfl, t, rfl⟩ := vals1 r
    exact PySem.P.str_of_str ⟨.str z, H, I, ⟨t, rfl⟩, q⟩
  obtain ⟨u, rfl, ru⟩ := vals1 r
  have sh := Dq.sh I hd ru
  cases hd with
  | non =>
    cases ru
    simp only [PyData.shown] at q
    exact PySem.P.str_of_none ⟨.str _, H, I.tok _, ⟨_, rfl⟩, q⟩
  | bl b =>
    cases ru
    simp only [PyData.shown] at q
    exact PySem.P.str_of_bool ⟨.str _, H, I.tok _, ⟨_, rfl⟩, q⟩
  | int i =>
    obtain ⟨t, rfl⟩ := ru
    simp only [PyData.shown] at q
    exact PySem.P.str_of_int (by simpa [PyData.showable] using hs) ⟨.str _, H, I.tok _, ⟨_, rfl⟩, q⟩
  | str z => exact absurd rfl (hne z)
  | lst h1 h2 =>
    cases ru
    exact str_ref sh hs hg (by omega) (fun h' u tk k => ⟨.str _, H, I.kept (t' := tk) k, ⟨_, rfl⟩, q⟩) hz
  | tup h1 h2 =>
    cases ru
    exact str_ref sh hs hg (by omega) (fun h' u tk k => ⟨.str _, H, I.kept (t' := tk) k, ⟨_, rfl⟩, q⟩) hz
  | dct h1 h2 h3 =>
    cases ru
    exact str_ref sh hs hg (by omega) (fun h' u tk k => ⟨.str _, H, I.kept (t' := tk) k, ⟨_, rfl⟩, q⟩) hz
section
variable {G : Glob} {φ : Mp} {s s' : S} {H : Hp} {d : D} {Q : VK} {K : PySem.W.Frag}
theorem strA_ok {ds : List D} {vs : List V} (hkk : φ.K = K) (h : HR G φ s H) (r : RepL φ s H ds vs) (e : strD s ds = some (.ok d, s')) (p : Post G φ s H s' d Q) : (∃ i, vs = [.int i] ∧ i.natAbs.log2 < 1920 ∧ Q (.str (toString i)) H) ∨ rStr K vs H Q := by
  unfold strD at e
  split at e
  · rename_i i
    split at e
    · rename_i hz
      exact .inl (str_ok (ds := [.int i]) h r (by show (if i.natAbs < 2 ^ 1900 then _ else _) = _; rw [if_pos hz]; exact e) p)
    · cases e
  · rename_i x
    cases e
    simp only [RepL, Rep] at r
    obtain ⟨v, w, rfl, rfl, rfl⟩ := r
    exact .inr (.inl ⟨_, rfl, p.here h (by simp only [Rep])⟩)
  · rename_i x h1 h2
    obtain ⟨e2, rfl⟩ := lft_inv e
    unfold reprD at e2
    obtain ⟨z, e3, e2⟩ := Option.bind_eq_some_iff.mp e2
    split at e2
    · rename_i hz
      cases e2
      unfold rpOk at hz
      simp only [Bool.and_eq_true, decide_eq_true_eq] at hz
      obtain ⟨⟨⟨k1, k2⟩, k3⟩, k4⟩ := hz
      simp only [RepL] at r
      obtain ⟨v, w, rfl, r1, rfl⟩ := r
      refine .inr (.inr ⟨fun z q => ?_, v, z, rfl, pdO_dq hkk h _ x e3 r1, k1, k3, ?_, p.here h ?_⟩)
      · cases q
        cases x with
        | str y => exact h2 y rfl
        | _ => simp [Rep] at r1
      · have := PyData.shown_le 120 (by decide) z k2
        rw [sizeLine_eq]
        omega
      · simp only [Rep]
    · cases e2
  · cases e
theorem minE_ok {ds : List D} {vs : List V} (hkk : φ.K = K) (h : HR G φ s H) (r : RepL φ s H ds vs) (e : minED s ds = some (.ok d, s')) (p : Post G φ s H s' d Q) : rMinE K vs H Q := by
  unfold minED at e
  split at e
  · split at e
    · rename_i xs hx
      split at e
      · rename_i zs hz
        split at e
        · rename_i hc
          obtain ⟨e2, rfl⟩ := lft_inv e
          simp only [RepL] at r
          obtain ⟨v, w, rfl, r1, rfl⟩ := r
          obtain ⟨a, ws, rfl, hs, hr⟩ := r1.lcont h hx
          rw [hkk] at hs
          obtain ⟨u, e3, ru⟩ := hr.get e2
          simp only [Bool.and_eq_true, decide_eq_true_eq, List.all_eq_true] at hc
          obtain ⟨h1, h2⟩ := hc
          refine ⟨a, ws, zs, u, rfl, hs, pdOs_dq hkk h _ xs hz hr, ⟨fun x hx y hy => (h1 x hx).2 y hy, fun x hx q => ?_⟩, h2, by rw [← bestD_eq]; exact e3, p.here h ru⟩
          have := (h1 x hx).1
          rw [q] at this
          cases this
        · cases e
      · cases e
    · cases e
  · cases e
end
section
variable {X : Cx}
end
section
variable {G : Glob} {cf : CF} {X : Cx} {a : Expr} {ca : E} {pos : Pos}
end
section
variable {G : Glob} {cf : CF} {X : Cx} {a b : Expr} {ca cb : E} {pos : Pos}
end
end Fl
namespace Fl
open PySem L2 PySem.Spec PyProof.Rows
section
variable {G : Glob} {φ : Mp} {s s' : S} {H : Hp} {d x : D} {v : V} {Q : VK} {K : PySem.W.Frag}
theorem intT_ok {ds : List D} {vs : List V} (h : HR G φ s H) (r : RepL φ s H ds vs) (e : intTD s ds = some (.ok d, s')) (p : Post G φ s H s' d Q) : ∃ a n, vs = [.str a] ∧ PySem.intText? a = some n ∧ a.length ≤ 640 ∧ Q (.int n) H := by
  unfold intTD at e
  split at e
  · rename_i x
    split at e
    · rename_i hz
      obtain ⟨e2, rfl⟩ := lft_inv e
      obtain ⟨n, hn, rfl⟩ := Option.map_eq_some_iff.mp e2
      simp only [RepL, Rep] at r
      obtain ⟨v, w, rfl, rfl, rfl⟩ := r
      exact ⟨_, n, rfl, hn, hz, p.here h (by simp only [Rep])⟩
    · cases e
  · cases e
theorem repL_strs : ∀ ys : List Str, RepL φ s H (ys.map fun z => .str z.cps.toList) (ys.map V.str)
  | [] => by simp only [List.map_nil, RepL]
  | y :: ys => by
    simp only [List.map_cons, RepL, Rep]
    exact ⟨.str y, ys.map V.str, rfl, rfl, repL_strs ys⟩
theorem split_ok {bx : Bool} {ds : List D} {vs : List V} (h : HR G φ s H) (r0 : Rep φ s H x v) (r : RepL φ s H ds vs) (e : splD s bx x ds = some (.ok d, s')) (p : Post G φ s H s' d Q) : ∃ a b, v = .str a ∧ vs = [.str b] ∧ (b.length == 0) = false ∧ a.length + 2 ≤ sizeLine ∧ rNewStrs (Txt.split a b) H Q := by
  unfold splD at e
  split at e
  · rename_i a b
    split at e
    · rename_i hz
      simp only [RepL, Rep] at r r0
      obtain ⟨v, w, rfl, rfl, rfl⟩ := r
      subst r0
      refine ⟨⟨a.toArray⟩, ⟨b.toArray⟩, rfl, rfl, ?_, ?_, fun q hq => Post.lst h e p (repL_strs _) q hq⟩
      · have : b.length ≠ 0 := fun z => hz.1 (List.length_eq_zero_iff.mp z)
        show (b.toArray.size == 0) = false
        rw [List.size_toArray]
        simpa using this
      · have h2 := hz.2
        rw [sizeLine_eq]
        show a.toArray.size + 2 ≤ 16777216
        rw [List.size_toArray]
        omega
    · cases e
  · cases e
theorem ty_strS {bx : Bool} (r : Rep φ s H x v) (e : mtOk s (.split bx) x = true) : tyV K "str" v H := by
  cases x with
  | str y =>
    simp only [Rep] at r
    subst r
    exact rfl
  | _ => cases e
end
section
variable {G : Glob} {cf : CF} {X : Cx}
noncomputable def esT (G : Glob) (cf : CF) : Es → List TE
  | .nil => []
  | .cons e es => (match e with | .str x => rE G cf (.str x) | e => tFmt (rE G cf e)) :: esT G cf es
end
section
variable {G : Glob} {cf : CF} {X : Cx} {a o : Expr} {ta to : TE} {y z : Str} {j k : Nat} {c0 c1 apos cpos pos : Pos}
end
end Fl
namespace Fl
open PySem L2 PySem.Spec PyProof.Rows
section
variable {X : Cx}
theorem pairsT_of {pins : List (Addr × Obj)} {σ : L2.St} {H : Hp} {s : Shared} (I : Inv X pins σ H s) : ∀ {ps : List Addr} {kvs : List (List Key × V)}, Paired (fun p kv => ∃ b, SqT X.K H p [.ref b, kv.2] ∧ H b = some (.tup (kv.1.map kV))) ps kvs →
    ∃ prs : List (List Key × Addr × Value), KT H kvs prs ∧ prs.length = ps.length ∧ ∀ (j : Nat) (q : List Key × Addr × Value), prs[j]? = some q → ∃ b : Addr, ps[j]? = some b ∧ IsTup s.heap b #[.ref q.2.1, q.2.2]
  | _, _, .nil => ⟨[], .nil, rfl, fun j q e => by simp at e⟩
  | _, _, .cons (a := p) (b := kv) h t => by
    obtain ⟨prs, r, hl, hp⟩ := pairsT_of I t
    obtain ⟨b, h, hb⟩ := h
    obtain ⟨its, rv, ht, _⟩ := I.tuple h
    obtain ⟨u, y, ei, ru, ry⟩ := vals2 rv
    subst ei
    obtain rfl : u = Value.ref b := ru
    refine ⟨(kv.1, b, y) :: prs, .cons ⟨rfl, hb, ry⟩ r, by rw [List.length_cons, List.length_cons, hl], fun j q e => ?_⟩
    cases j with
    | zero =>
      have e' : (kv.1, b, y) = q := Option.some.inj e
      subst e'
      exact ⟨p, rfl, ht⟩
    | succ j =>
      obtain ⟨b', e1, e2⟩ := hp j q (by simpa using e)
      exact ⟨b', by simpa using e1, e2⟩
/-- the entries behind puts one by one -/
noncomputable def mergeT (acc kvs : List (List Key × V)) : List (List Key × V) := kvs.foldl (fun acc kv => putK acc kv.1 kv.2) acc
theorem KT.fold {H : Hp} : ∀ {kvs : List (List Key × V)} {prs acc' : List (List Key × Addr × Value)} {acc : List (List Key × V)}, KT H kvs prs → KT H acc acc' → KT H (mergeT acc kvs) (storedAllH acc' prs)
  | _, _, _, _, .nil, h => h
  | kv :: kvs, q :: prs, acc', acc, .cons h t, h0 => by
    obtain ⟨h1, h2, h3⟩ := h
    show KT H (mergeT (putK acc kv.1 kv.2) kvs) (storedAllH (storedH acc' q.1 q.2.1 q.2.2) prs)
    refine KT.fold t ?_
    rw [← h1]
    exact KT.put h0 kv.1 h2 h3
theorem call_dictT (hcalm : X.calm = true) (hu : X.A.units + 4 < cLine) : CallR X (.type "dict") (fun xs H Q => ∃ (a : Addr) (ps : List Addr) (kvs : List (List Key × V)), xs = [.ref a] ∧ SqL X.K H a (ps.map V.ref) ∧ Paired (fun p kv => ∃ b, SqT X.K H p [.ref b, kv.2] ∧ H b = some (.tup (kv.1.map kV))) ps kvs ∧
    ∀ p, H p = none → Q (.ref p) (upd H p (.dT (mergeT [] kvs)))) := by
  intro pins s σ H xs us Q I r q
  obtain ⟨a, ps, kvs, ex, hq, hp, q⟩ := q
  subst ex
  obtain ⟨u, eu, rx⟩ := vals1 r
  subst eu
  cases rx
  obtain ⟨its, rv, pl, hz⟩ := I.list hq
  have ei := refs_at rv
  subst ei
  rw [List.length_map] at hz
  obtain ⟨prs, rel, hl, hpr⟩ := pairsT_of I hp
  obtain ⟨o, n, ho, hc, hd, hdat⟩ := pl
  have hkey : ∀ (h' : Heap), (∀ b o, b ≠ s.heap.objs.size → b ∉ ([] : List Addr) → s.heap.get? b = some o → h'.get? b = some o) → ∀ x ∈ prs, (tupleKind (mixKind X.prog X.w)).is h' x.1 x.2.1 := by
    intro h' hk x hx
    have all : ∀ {l : List (List Key × V)} {m : List (List Key × Addr × Value)}, KT H l m → ∀ x ∈ m, H x.2.1 = some (.tup (x.1.map kV)) := by
      intro l m q
      induction q with
      | nil => intro x hx; exact nomatch hx
      | @cons p q ps qs hq t ih =>
        intro x hx
        rcases List.mem_cons.mp hx with e | hx
        · subst e
          rw [← hq.1]; exact hq.2.1
        · exact ih x hx
    have hx' := all rel x hx
    obtain ⟨o', its', n', k1, k2, k3, k4⟩ := key_of (P := X.prog) (w := X.w) I.hok hx'
    exact ⟨o', its', n', hk _ _ (Nat.ne_of_lt (Heap.lt_size k1)) (fun z => nomatch z) k1, k2, k3, k4⟩
  have okP : PlainSeq "list" s.heap a (ps.map Value.ref).toArray ∧ PairItems s.heap (ps.map Value.ref).toArray (fun j => ps.getD j 0) (prs.map fun q => (Value.ref q.2.1, q.2.2)) := by
    refine ⟨⟨o, n, ho, hc, hd, hdat⟩, by simp [hl], fun j k v e => ?_⟩
    rw [List.getElem?_map] at e
    obtain ⟨q', hq', e'⟩ := Option.map_eq_some_iff.mp e
    cases e'
    obtain ⟨b, e1, e2⟩ := hpr j q' hq'
    have eb : ps.getD j 0 = b := by rw [List.getD_eq_getElem?_getD, e1]; rfl
    refine ⟨by simp [e1, eb], ?_⟩
    show PairAt s.heap (ps.getD j 0) _ _
    rw [eb]
    exact .inl e2
  refine call_dict_pairsH (ps := prs) (PairArg.list a (ps.map Value.ref).toArray (fun j => ps.getD j 0) (prs.map fun q => (Value.ref q.2.1, q.2.2))) (I.ok.hd hcalm) (tupleKind_room_in1 (A := X.A.in1) (by show X.A.units + 1 + 1 < cLine; omega)) okP ⟨by simp, fun i key v e => ?_⟩ (fun h' hk x hx => hkey h' hk x hx) (by simp only [List.length_map]; rw [hl]; exact hz) fun h' tk hd' k => ?_
  · have e0 : (prs.map fun q => (Value.ref q.2.1, q.2.2))[i]? = some (key, v) := e
    rw [List.getElem?_map] at e0
    obtain ⟨q', hq', e'⟩ := Option.map_eq_some_iff.mp e0
    cases e'
    exact ⟨q'.1, q'.2.1, hq', rfl⟩
  · have hm : (s.heap.objs.size == sysModules) = false := beq_eq_false_iff_ne.mpr (Nat.ne_of_gt I.big)
    have kt : KT H (mergeT [] kvs) (storedAllH [] prs) := KT.fold rel .nil
    have hlen : (mergeT [] kvs).length ≤ sizeLine := by
      have e1 : (mergeT [] kvs).length = (storedAllH [] prs).length := Paired.length kt
      rw [e1]
      have := storedAllH_length prs []
      rw [List.length_nil, Nat.zero_add] at this
      omega
    obtain ⟨o', es, ep, g1, g2, g3, g4, g5, g6⟩ := hd'
    have hn := I.hok.fresh (Nat.le_refl s.heap.objs.size)
    exact ⟨.ref s.heap.objs.size, upd H s.heap.objs.size (.dT (mergeT [] kvs)), I.laid (t' := tk) (fun b o e => k b o (fun z => nomatch z) e) (Nat.le_refl _) (show ObjOk X.prog X.w _ _ _ (.dT (mergeT [] kvs)) from ⟨hlen, hm, storedAllH [] prs, kt.keeps fun b ys e => by rw [upd_ne (ne_of_none e hn)]; exact e, o', es, ep, g1, g2, g3, g4, g6⟩), rfl, q _ hn⟩
end
section
variable {G : Glob} {φ : Mp} {s s' : S} {H : Hp} {d : D} {Q : VK} {K : PySem.W.Frag}
theorem RepL.pairsTR (hkk : φ.K = K) : ∀ {ds : List D} {vs : List V} {kvs : List (List DK × D)}, RepL φ s H ds vs → pairsTD ds = some kvs →
    ∃ (ps : List Addr) (ks : List (List Key × V)), vs = ps.map V.ref ∧ Paired (fun p kv => ∃ b, SqT K H p [.ref b, kv.2] ∧ H b = some (.tup (kv.1.map kV))) ps ks ∧ KRT φ s H kvs ks
  | [], vs, kvs, r, e => by
    simp only [RepL] at r
    subst r
    cases e
    exact ⟨[], [], rfl, .nil, rfl⟩
  | .tup [a, v] :: ds, vs, kvs, r, e => by
    have e' : ((keyT a).bind fun k => (pairsTD ds).map fun q => (k, v) :: q) = some kvs := e
    obtain ⟨k, hk, e2⟩ := Option.bind_eq_some_iff.mp e'
    obtain ⟨q, hq, rfl⟩ := Option.map_eq_some_iff.mp e2
    simp only [RepL] at r
    obtain ⟨w, ws, rfl, rw1, r2⟩ := r
    simp only [Rep, RepL] at rw1
    obtain ⟨t, us, rfl, ht, -, x, u1, rfl, rx, y, u2, rfl, ry, rfl⟩ := rw1
    obtain ⟨ps, ks, rfl, hp, hr⟩ := r2.pairsTR hkk hq
    obtain ⟨c, rfl, h4⟩ := keyT_ok rx hk
    exact ⟨t :: ps, (k.map kyOf, y) :: ks, rfl, .cons ⟨c, .inl (.inl ht), h4⟩ hp, ⟨y, ks, rfl, ry, hr⟩⟩
  | .non :: ds, vs, ns, r, e => by cases e
  | .bl _ :: ds, vs, ns, r, e => by cases e
  | .int _ :: ds, vs, ns, r, e => by cases e
  | .str _ :: ds, vs, ns, r, e => by cases e
  | .lst _ :: ds, vs, ns, r, e => by cases e
  | .ref _ :: ds, vs, ns, r, e => by cases e
  | .scr _ :: ds, vs, ns, r, e => by cases e
  | .tup [] :: ds, vs, ns, r, e => by cases e
  | .tup [_] :: ds, vs, ns, r, e => by simp [pairsTD] at e
  | .tup (_ :: _ :: _ :: _) :: ds, vs, ns, r, e => by simp [pairsTD] at e
theorem KRg.foldT : ∀ {kvs : List (List DK × D)} {ks : List (List Key × V)} {acc : List (List DK × D)} {ac : List (List Key × V)}, KRT φ s H kvs ks → KRT φ s H acc ac → KRT φ s H (kvs.foldl (fun acc kv => dput acc kv.1 kv.2) acc) (mergeT ac ks)
  | [], ks, acc, ac, h, h0 => by
    have h' : ks = [] := h
    subst h'
    exact h0
  | (k, d) :: kvs, ks, acc, ac, h, h0 => by
    obtain ⟨v, r, rfl, h1, h2⟩ := h
    exact KRg.foldT (kvs := kvs) (ks := r) h2 (KRg.put kyT_inj h1 h0)
noncomputable def rDictT (K : PySem.W.Frag) : List V → Hp → VK → Prop := fun xs H Q => ∃ (a : Addr) (ps : List Addr) (kvs : List (List Key × V)), xs = [.ref a] ∧ SqL K H a (ps.map V.ref) ∧ Paired (fun p kv => ∃ b, SqT K H p [.ref b, kv.2] ∧ H b = some (.tup (kv.1.map kV))) ps kvs ∧
    ∀ p, H p = none → Q (.ref p) (upd H p (.dT (mergeT [] kvs)))
theorem dictT_ok {ds : List D} {vs : List V} (hkk : φ.K = K) (h : HR G φ s H) (r : RepL φ s H ds vs) (e : dictTD s ds = some (.ok d, s')) (p : Post G φ s H s' d Q) : rDictT K vs H Q := by
  unfold dictTD at e
  split at e
  · split at e
    · rename_i kvs hk
      cases e
      obtain ⟨xs, h1, h2⟩ := Option.bind_eq_some_iff.mp hk
      simp only [RepL] at r
      obtain ⟨v, w, rfl, r1, rfl⟩ := r
      obtain ⟨a, ws, rfl, hs, hr⟩ := r1.lcont h h1
      rw [hkk] at hs
      obtain ⟨ps, ks, rfl, hp, hkr⟩ := hr.pairsTR hkk h2
      refine ⟨a, ps, ks, rfl, hs, hp, fun q hq => ?_⟩
      have hf : KRT φ s H (kvs.foldl (fun acc kv => dput acc kv.1 kv.2) []) (mergeT [] ks) := KRg.foldT hkr (show KRT φ s H [] [] from rfl)
      have g : Gr φ s H (Fl.bx φ s.nx q) (s.new (.dit (kvs.foldl (fun acc kv => dput acc kv.1 kv.2) []))) (upd H q (.dT (mergeT [] ks))) := Gr.box h hq
      refine p _ _ _ g (h.box hq ⟨_, upd_same, KRg.mono g hf⟩) ?_
      simp only [Rep]
      exact ⟨q, rfl, by show (if s.nx = s.nx then some q else φ s.nx) = some q; rw [if_pos rfl]⟩
    · cases e
  · cases e
end
/-- what stays when a locked dict is opened again -/
noncomputable def Gd (φ : Mp) (s : S) (H : Hp) (s' : S) (H' : Hp) : Prop := ∀ b o, H b = some o → (∀ q u, o ≠ .frz q (.dT u)) → Dead φ s b → H' b = some o ∧ Dead φ s' b
section
variable {G : Glob} {φ : Mp} {s s' : S} {H H' : Hp}
theorem KRg.at {κ κ' : Type} {k : κ → κ'} : ∀ {fs : List (κ × D)} {gs : List (κ' × V)} {i : Nat} {p : κ × D}, KRg k φ s H fs gs → fs[i]? = some p → ∃ v, gs[i]? = some (k p.1, v)
  | [], gs, i, p, h, e => by simp at e
  | (f, d) :: fs, gs, 0, p, h, e => by
    obtain ⟨v, r, rfl, h1, h2⟩ := h
    simp at e
    subst e
    exact ⟨v, rfl⟩
  | (f, d) :: fs, gs, i + 1, p, h, e => by
    obtain ⟨v, r, rfl, h1, h2⟩ := h
    obtain ⟨w, hw⟩ := KRg.at (i := i) h2 (by simpa using e)
    exact ⟨w, by simpa using hw⟩
end
section
variable {G : Glob} {W : WZ} {cf : CF} {X : Cx}
end
section
variable {G : Glob} {cf : CF} {X : Cx} {a b : Expr} {ca cb : E} {pos : Pos}
end
theorem atKey_any {K : Type} [DecidableEq K] (xs : List (K × Addr × Value)) (k : K) : (atKey xs k).isSome = xs.any fun z => decide (z.1 = k) := by
  induction xs with
  | nil => rfl
  | cons x xs ih =>
    unfold atKey at ih ⊢
    rw [List.find?_cons, List.any_cons]
    by_cases e : x.1 = k
    · simp [e]
    · simp only [e, decide_false, Bool.false_or]
      exact ih
noncomputable def NkAll (H : Hp) (xs : List (NestedKey × Addr × Value)) : Prop := ∀ x ∈ xs, ∃ k2, x.1 = nkK k2 ∧ NkH H x.2.1 k2
theorem nkV_inj : ∀ {a b : List Key}, a.map nkV = b.map nkV → a = b
  | [], [], _ => rfl
  | [], _ :: _, e => by simp at e
  | _ :: _, [], e => by simp at e
  | x :: xs, y :: ys, e => by
    rw [List.map_cons, List.map_cons] at e
    injection e with e1 e2
    rw [nkV_inj e2]
    cases x <;> cases y <;> first | (injection e1 with e1; rw [e1]) | cases e1
theorem nkK_inj {a b : List (List Key)} (e : nkK a = nkK b) : a = b := by
  injection e with e
  have key : ∀ {a b : List (List Key)}, (a.map fun k => NestedKey.tup (k.map nkV)) = (b.map fun k => NestedKey.tup (k.map nkV)) → a = b := by
    intro a
    induction a with
    | nil => intro b e; cases b with
      | nil => rfl
      | cons _ _ => simp at e
    | cons x xs ih =>
      intro b e
      cases b with
      | nil => simp at e
      | cons y ys =>
        rw [List.map_cons, List.map_cons] at e
        injection e with e1 e2
        injection e1 with e1
        rw [nkV_inj e1, ih e2]
  exact key e
theorem kyL_inj : ∀ {a b : List (List DK)}, a.map (List.map kyOf) = b.map (List.map kyOf) → a = b
  | [], [], _ => rfl
  | [], _ :: _, e => by simp at e
  | _ :: _, [], e => by simp at e
  | x :: xs, y :: ys, e => by
    rw [List.map_cons, List.map_cons] at e
    injection e with e1 e2
    rw [kyL_inj e2, kyT_inj.mp e1]
section
variable {G : Glob} {φ φ' : Mp} {s s' : S} {H H' : Hp} {K : PySem.W.Frag}
noncomputable abbrev NnR (φ : Mp) (s : S) (H : Hp) : List (List (List DK)) → List (NestedKey × Addr × Value) → Prop := Paired fun k x => x.1 = nkK (k.map (List.map kyOf)) ∧ x.2.2 = .bool true ∧ NkD φ s H x.2.1 (k.map (List.map kyOf))
theorem NnR.all : ∀ {ks : List (List (List DK))} {xs : List (NestedKey × Addr × Value)}, NnR φ s H ks xs → NkAll H xs
  | _, _, .nil => fun x hx => nomatch hx
  | _, _, .cons h t => fun x hx => by
    rcases List.mem_cons.mp hx with rfl | hx
    · exact ⟨_, h.1, h.2.2.h⟩
    · exact NnR.all t x hx
theorem NnR.any {k : List (List DK)} : ∀ {ks : List (List (List DK))} {xs : List (NestedKey × Addr × Value)}, NnR φ s H ks xs → (xs.any fun z => decide (z.1 = nkK (k.map (List.map kyOf)))) = decide (k ∈ ks)
  | _, _, .nil => by simp
  | k1 :: ks, x :: xs, .cons h t => by
    rw [List.any_cons, NnR.any t, h.1, Bool.eq_iff_iff]
    simp only [Bool.or_eq_true, decide_eq_true_eq, List.mem_cons]
    constructor
    · rintro (e | e)
      · exact .inl (kyL_inj (nkK_inj e)).symm
      · exact .inr e
    · rintro (e | e)
      · exact .inl (by rw [e])
      · exact .inr e
theorem NnR.put {k : List (List DK)} {q : Addr} (hq : NkD φ s H q (k.map (List.map kyOf))) {ks : List (List (List DK))} {xs : List (NestedKey × Addr × Value)} (r : NnR φ s H ks xs) : NnR φ s H (nnPut ks k) (storedH xs (nkK (k.map (List.map kyOf))) q (.bool true)) := by
  unfold nnPut storedH
  rw [atKey_any, NnR.any r]
  by_cases c : k ∈ ks
  · rw [if_pos c, if_pos (decide_eq_true c)]
    clear c
    induction r with
    | nil => exact .nil
    | @cons k1 x ks xs h t ih =>
      rw [List.map_cons]
      refine .cons ?_ ih
      unfold putAt
      split
      · exact ⟨h.1, rfl, h.2.2⟩
      · exact h
  · rw [if_neg c, if_neg (by simpa using c)]
    exact Paired.snoc r ⟨rfl, rfl, hq⟩
end
section
variable {G : Glob} {W : WZ} {cf : CF} {X : Cx} {a d : Expr} {ca cd : E} {pos : Pos}
end
end Fl
namespace Fl
open PySem L2 PySem.Spec PyProof.Rows
section
variable {X : Cx}
open PySem.Builtin.Str in
theorem meets_splitM_not_found (x y : Str) (k : Int) (t u v : Tok) (hk : (decide (k < -(2 ^ 63 : Int)) || decide (k ≥ 2 ^ 63)) = false) (h1 : (decide (x.length < y.length) || decide (strKind x < strKind y)) = false) (hy : (y.length == 0) = false)
    (hf : (occurrences x y 0 x.length (limitOf x k)).isEmpty = true) : Meets (PySem.Builtin.«str.split» ⟨[.str x t, .str y u, .int k v], []⟩) (listOfItself x t) := by
  obtain ⟨raising, htree⟩ := split_sep_max_tree x y k t u v hk
  refine .of_wp fun prog w A R s h => ?_
  rw [htree, h1, hy, hf]
  show wpAny _ _ (do rule "str.split.same-object"; ret (← newList [.str x t])) _ _ s
  exact wpAny_bind (wpAny_rule (wpAny_bind (wpAny_newList (wpAny_pure ⟨_, rfl, h⟩) (by show 1 ≤ sizeLine; decide))))
open PySem.Builtin.Str in
theorem meets_splitM_cannot (x y : Str) (k : Int) (t u v : Tok) (hk : (decide (k < -(2 ^ 63 : Int)) || decide (k ≥ 2 ^ 63)) = false) (h1 : (decide (x.length < y.length) || decide (strKind x < strKind y)) = true) : Meets (PySem.Builtin.«str.split» ⟨[.str x t, .str y u, .int k v], []⟩) (listOfItself x t) := by
  obtain ⟨raising, htree⟩ := split_sep_max_tree x y k t u v hk
  refine .of_wp fun prog w A R s h => ?_
  rw [htree, h1]
  show wpAny _ _ (do rule "str.split.sep-cannot-occur"; ret (← newList [.str x t])) _ _ s
  exact wpAny_bind (wpAny_rule (wpAny_bind (wpAny_newList (wpAny_pure ⟨_, rfl, h⟩) (by show 1 ≤ sizeLine; decide))))
open PySem.Builtin.Str in
/-- x.split(sep, k) -/
theorem mt_splitM : MtR X "str.split" (fun x xs H Q => ∃ (a b : Str) (k : Nat), x = .str a ∧ xs = [.str b, .int (k : Int)] ∧ (b.length == 0) = false ∧ a.length + 2 ≤ sizeLine ∧ k < 1000000 ∧ rNewStrs (splitM a b k) H Q) := by
  intro pins s σ H x xs v us Q I rx rs h
  obtain ⟨a, b, k, rfl, rfl, hb, hz, hk, h⟩ := h
  obtain ⟨t, rfl⟩ := rx
  cases rs with
  | cons r1 rs =>
    cases rs with
    | cons r2 rs =>
      cases rs
      obtain ⟨u, rfl⟩ := r1
      obtain ⟨w, rfl⟩ := r2
      have lim : limitOf a (k : Int) = k := by
        unfold limitOf
        rw [if_neg (by omega), Int.toNat_natCast]
      have hkb : (decide ((k : Int) < -(2 ^ 63 : Int)) || decide ((k : Int) ≥ 2 ^ 63)) = false := by
        rw [Bool.or_eq_false_iff]
        exact ⟨decide_eq_false (by omega), decide_eq_false (by omega)⟩
      have hn : (partsBetween a (occurrences a b 0 a.length k) b.length).length ≤ sizeLine := by
        have e1 := StrLaws.occ_length_le a b 0 a.length k
        have e9 := sizeLine_eq
        rw [length_partsBetween]; omega
      have hl : (splitM a b k).length ≤ sizeLine := by
        unfold splitM
        split
        · show 1 ≤ sizeLine; decide
        · split
          · show 1 ≤ sizeLine; decide
          · exact hn
      cases h1 : (decide (a.length < b.length) || decide (strKind a < strKind b))
      · cases hf : (occurrences a b 0 a.length k).isEmpty
        · refine call_meets F.slot_str_split (typeIs_str _ _ _) F.entry_str_split (F.args_str_split_3 _ _ _) (meets_str_split_sep_max a b k t u w hkb h1 hb (by rw [lim]; exact hf) (by omega) (by rw [lim]; exact hn)) ?_
          rw [lim]
          show EP X pins σ Q (.ref s.heap.objs.size) { s with toks := _, heap := s.heap.push { cls := .type "list", data := .seq (strsFrom s.toks (partsBetween a (occurrences a b 0 a.length k) b.length)).toArray } }
          rw [strsFrom_eq]
          exact laid_strs (ys := splitM a b k) I ((numbered_texts _ _).trans ((if_neg (ne_true_of_eq_false h1)).trans (if_neg (ne_true_of_eq_false hf))).symm) hl h
        · refine call_meets F.slot_str_split (typeIs_str _ _ _) F.entry_str_split (F.args_str_split_3 _ _ _) (meets_splitM_not_found a b k t u w hkb h1 hb (by rw [lim]; exact hf)) ?_
          exact laid_strs (l := [(a, t)]) (ys := splitM a b k) (k := s.toks) I ((if_neg (ne_true_of_eq_false h1)).trans (if_pos hf)).symm hl h
      · refine call_meets F.slot_str_split (typeIs_str _ _ _) F.entry_str_split (F.args_str_split_3 _ _ _) (meets_splitM_cannot a b k t u w hkb h1) ?_
        exact laid_strs (l := [(a, t)]) (ys := splitM a b k) (k := s.toks) I (if_pos h1).symm hl h
end
section
variable {G : Glob} {φ : Mp} {s s' : S} {H : Hp} {x d : D} {v : V} {Q : VK} {K : PySem.W.Frag}
theorem splitN_ok {bx : Bool} {ds : List D} {vs : List V} (h : HR G φ s H) (r0 : Rep φ s H x v) (r : RepL φ s H ds vs) (e : splND s bx x ds = some (.ok d, s')) (p : Post G φ s H s' d Q) : ∃ (a b : Str) (k : Nat), v = .str a ∧ vs = [.str b, .int (k : Int)] ∧ (b.length == 0) = false ∧ a.length + 2 ≤ sizeLine ∧ k < 1000000 ∧ rNewStrs (splitM a b k) H Q := by
  unfold splND at e
  split at e
  · rename_i a b k
    split at e
    · rename_i hz
      simp only [RepL, Rep] at r r0
      obtain ⟨v, w, rfl, rfl, v2, w2, rfl, rfl, rfl⟩ := r
      subst r0
      refine ⟨⟨a.toArray⟩, ⟨b.toArray⟩, k.toNat, rfl, ?_, ?_, ?_, by omega, fun q hq => Post.lst h e p (repL_strs _) q hq⟩
      · rw [Int.toNat_of_nonneg hz.2.2.1]
      · have : b.length ≠ 0 := fun z => hz.1 (List.length_eq_zero_iff.mp z)
        show (b.toArray.size == 0) = false
        rw [List.size_toArray]
        simpa using this
      · have h2 := hz.2.1
        rw [sizeLine_eq]
        show a.toArray.size + 2 ≤ 16777216
        rw [List.size_toArray]
        omega
    · cases e
  · cases e
theorem ty_strSN {bx : Bool} (r : Rep φ s H x v) (e : mtOk s (.splitN bx) x = true) : tyV K "str" v H := by
  cases x with
  | str y =>
    simp only [Rep] at r
    subst r
    exact rfl
  | _ => cases e
end
section
variable {G : Glob} {W : WZ} {cf : CF} {X : Cx} {a b e o : Expr} {ca cb ce co : E} {pos : Pos}
/-- a store of what wants a token -/
theorem pst_set {te : TE} {i : Nat} {x : Str} {pos' : Pos} (hN : X.N.Nodup) (hi : X.N[i]? = some x) (hx : Loc X.env.scope x) (he : PET X e te) (hs : swapsWith e (some (.Name x pos')) pos.line X.env = pure false) (hf : X.fn x = true ∨ X.env.scope.names.lookup x = some .local) : PST X (.Assign [.Name x pos'] e pos) (tAsg te (gName i)) := by
  intro pins s σ H D h0 I h
  refine wpAny_Assign_Name (thn (he pins s σ H _ h0 I h) fun v s1 ⟨y, H1, I1, r1, q1⟩ => ?_) hs
  exact store_ok I1 hN hi hx r1 (fun s2 I2 => ⟨_, H1, I2, q1⟩) hf
theorem x_doc {doc : Str} {jd : Nat} {pd pd' : Pos} {rest : List Stmt} {d : List Nat} {cs : Cs} (h : PSsT X rest (rSs G W cf cs)) : PSs X (.Expr (.Constant (.str doc) jd pd) pd' :: rest) (rSs G W cf (.cons (.exp (.str d)) cs)) := by
  refine PSs.imp (CwR.pss_docT h) fun Dn σ H h => ?_
  obtain ⟨φ, s, r, A, fl, r', s', he, p⟩ := h
  have e0 : exs cf (.cons (.exp (.str d)) cs) r s = exs cf cs r s := by
    simp only [exs, ex, ev]
    rfl
  rw [e0] at he
  exact ⟨φ, s, r, A, fl, r', s', he, p⟩
theorem PSsT.imp {ss : List Stmt} {t t' : TS} (h : PSsT X ss t) (k : ∀ D σ H, t' D σ H → t D σ H) : PSsT X ss t' := fun pins s σ H D h0 I q => h pins s σ H D h0 I (k D σ H q)
theorem x_rpd {i : Nat} {x : Str} {pos' apos cpos c0 c1 : Pos} {j k : Nat} {y z : List Nat} {rest : List Stmt} {cs : Cs} (hN : X.N.Nodup) (hi : X.N[i]? = some x) (hx : Loc X.env.scope x) (hf : X.fn x = true ∨ X.env.scope.names.lookup x = some .local) (ho : PE X o (rE G cf co)) (hyz : ((⟨y.toArray⟩ : Str) == ⟨z.toArray⟩) = false)
    (hbase : attributeBase o "replace" X.env (eval o X.env) = eval o X.env) (hline : (apos.endLine == cpos.line) = true) (hr : PSs X rest (rSs G W cf cs)) :
    PSsT X (.Assign [.Name x pos'] (.Call (.Attribute o "replace" apos) [.Constant (.str ⟨y.toArray⟩) j c0, .Constant (.str ⟨z.toArray⟩) k c1] [] cpos) pos :: rest) (rSs G W cf (.cons (.rpd i co y z) cs)) := by
  refine PSsT.imp (psst_cons (pst_set hN hi hx (CwR.pet_replC ho hyz rfl hbase hline) rfl hf) (PSsT.of hr)) fun Dn σ H h => ?_
  obtain ⟨φ, s, r, A, fl, r', s', he, p⟩ := h
  simp only [exs, ex] at he
  obtain ⟨⟨f1, r1⟩, s1, e1, he⟩ := bnd_inv he
  obtain ⟨w, s2, e2, e1⟩ := bnd_inv e1
  refine rd_step A e2 fun φ1 H1 v g1 A1 rv => ?_
  split at e1
  · rename_i w
    split at e1
    · rename_i hz
      cases e1
      simp only [Rep] at rv
      subst rv
      refine ⟨⟨w.toArray⟩, rfl, ?_, ?_⟩
      · show w.toArray.size + (w.toArray.size + 1) * z.toArray.size ≤ 16777216
        rw [List.size_toArray, List.size_toArray]
        exact hz
      · exact ⟨φ1, _, _, ⟨A1.hr, A1.sr.set i (by simp only [Rep])⟩, fl, r', s', he, fun φ' H' σ' g hr sr => p φ' H' σ' (g1.trans g) hr sr⟩
    · cases e1
  · cases e1
end
/-- a tuple of texts of the module -/
noncomputable def TxAt (K : PySem.W.Frag) (mg : Str → Option Value) (f : String) (ts : List (List Nat)) : Prop :=
  ∃ (q : Addr) (ob : Obj) (its : Array Value) (n : Nat), mg (Str.ofString f) = some (.ref q) ∧ K.lookup q = some ob ∧ ob.cls = .type "tuple" ∧ ob.data = .seq its n ∧ its.size ≤ sizeLine ∧ Vals (ts.map fun z => V.str ⟨z.toArray⟩) its.toList
/-- a def's promise by its body, a token is out when it begins -/
theorem fn_gT {CX : CXT} {P : Program} {w : World} {K : PySem.W.Frag} {mg : Str → Option Value} {base : Heap} {x qual : Str} {st : Stmt} {f : Addr} {fd : FuncData} {N ps : List Str} {k : Nat} {sp : Sp} (F : Fun K x qual st f fd) (S : FnScope N ps (defScope st))
    (hnc : ∀ y ∈ (defScope st).names, y.2 ≠ .cell) (hps : 1 ≤ ps.length) (len : ∀ vs H Q E, sp vs H Q E → vs.length = ps.length)
    (hbody : ∀ (cd : Value) (A : Around) (fr : List Env) (s : Shared) (H : Hp) (vs : List V) (Q : VK) (E : XK), RmG k (A.deeper (envOfC qual (defScope st) s.heap.objs.size f cd)) → sp vs H Q E →
      ∃ t, PSsT (cxOf CX P w K mg base N qual (defScope st) f cd A fr s H E) (defBody st) t ∧ t { nx := fun _ H' => Q .non H', rt := Q } (start N vs) H) : FnG P w K mg base CX (k + 1) f fd ps sp := by
  obtain ⟨oc, od, kV, doc, pm, an, cd, ct, osl, rfl, lk, hcd⟩ := F.ex
  refine ⟨len, fun A fr s H ar us vs Q E hr e0 hb rv hsp => ?_⟩
  have old : ∀ b o, base.get? b = some o → s.heap.get? b = some o := fun b o e => (e0.bs b o e).1
  have KX : K.In s.heap := e0.mod.kin.keeps old
  have hl := len _ _ _ _ hsp
  have hul : us.length = ps.length := by rw [← rv.length, hl]
  have hloc : ∀ y ∈ ps.zip us, (defScope st).names.lookup y.1 = some .local := fun ⟨n, v⟩ hy => by
    rcases S.par n (List.of_mem_zip hy).1 with q | q
    · exact q
    · exact absurd rfl (hnc _ (PySem.mem_of_lookup q))
  refine codeAny_call_function hr.rm.depth (KX _ _ lk) rfl S.co S.gen rfl (PySem.W.codeRec_of KX hcd) (hb _ _ _ _ ?_)
  refine wpAny_newFunctionEnv hnc hloc (fun h1 hns hsb => ?_) S.kind
  have hz : (ps.zip us).length = ps.length := by rw [List.length_zip, hul, Nat.min_self]
  have keep : ∀ b o, s.heap.get? b = some o → h1.get? b = some o := fun b o e => hsb.extBut b o (Nat.ne_of_lt (Heap.lt_size e)) (Heap.get?_push_of_some _ e)
  have hcl : cellsFrom (s.heap.objs.size + 1) (defScope st).names [] = [] := cells_none _ _ _ hnc
  have hkl : ∀ y ∈ ps.zip us, (envOfC qual (defScope st) s.heap.objs.size f cd).kindOf y.1 = some .local := fun y hy => by
    first
    | exact hloc y hy
    | (simp only [Env.kindOf]; exact hloc y hy)
    | (unfold Env.kindOf; rw [if_pos S.kind]; exact hloc y hy)
    | simpa [Env.kindOf, envOfC, newEnv, S.kind] using hloc y hy
  have hm : (bindL (envOfC qual (defScope st) s.heap.objs.size f cd).kindOf (ps.zip us) fun _ => none) = fun x => (ps.zip us).reverse.lookup x := by
    funext y
    rw [bindL_loc _ _ hkl y]
    cases (ps.zip us).reverse.lookup y <;> rfl
  have ic : InCallC s s.heap.objs.size (bindL (envOfC qual (defScope st) s.heap.objs.size f cd).kindOf (ps.zip us) fun _ => none) (cellsFrom (s.heap.objs.size + 1) (defScope st).names [])
      (bindC (envOfC qual (defScope st) s.heap.objs.size f cd).kindOf (ps.zip us) fun _ => none) ({ s with heap := h1, toks := s.toks + (ps.zip us).length } : Shared) := by
    rw [hm, hcl]
    exact ⟨⟨⟨_, _, rfl⟩, hns, keep, Nat.le_refl _⟩, fun n c hc => absurd hc (by simp), .nil, fun n c hc => absurd hc (by simp)⟩
  have henv : newEnv (defScope st) s.heap.objs.size mainGlobals [] (qual ++ ".<locals>.") (some f) cd none builtinsNs = envOfC qual (defScope st) s.heap.objs.size f cd := by
    unfold envOfC
    rw [hcl] <;> rfl
  have hto : 1 ≤ ({ s with heap := h1, toks := s.toks + (ps.zip us).length } : Shared).toks := by
    show 1 ≤ s.toks + (ps.zip us).length
    omega
  obtain ⟨t, ht, hq⟩ := hbody cd A fr s H vs Q E (hr.deeper _) hsp
  show ({ s with heap := h1, toks := s.toks + (ps.zip us).length } : Shared).heap.NoLimit ∧ codeAny (model P w) A (.func (defBody st) (newEnv (defScope st) s.heap.objs.size mainGlobals [] (qual ++ ".<locals>.") (some f) cd none builtinsNs)) _ ({ s with heap := h1, toks := s.toks + (ps.zip us).length } : Shared)
  rw [henv]
  generalize ({ s with heap := h1, toks := s.toks + (ps.zip us).length } : Shared) = s1 at ic hto ⊢
  refine ⟨(e0.mod.nolimit.keeps old).keeps ic.toInCall.keep, codeAny_func (wpAny_mono (ht [] s1 (start N vs) H _ hto (inv_start S hr.rm.hd e0 hl rv ic) hq) (fun fl s' hs => ?_) fun e s' hs => hs)⟩
  match fl, hs with
  | .ret u, ⟨v, _, H', J, rv', q⟩ => exact ⟨v, H', J.os, J.bare, J.base, J.hok, rv', q⟩
  | .next, ⟨_, H', J, q⟩ => exact ⟨.non, H', J.os, J.bare, J.base, J.hok, rfl, q⟩
  | .brk, ⟨_, _, _, q⟩ => exact q.elim
  | .cont, ⟨_, _, _, q⟩ => exact q.elim
end Fl
namespace Fl
open PySem PySem.Calls PyProof.Rows PyProof.V PySem.Spec PySem.W L2
section
variable {P : Program} {w : World} {A : Around} {E : Value → Shared → Prop} {s : Shared}
/-- as many members as texts, none twice -/
theorem TSt.count {h : Heap} {a : Addr} {xs : List Str} {n : Nat} (R : TSt w h a (fun j => j ∈ xs) n) (nd : xs.Nodup) : n = xs.length := by
  obtain ⟨o, es, ep, t, -, -, r3, r4, ⟨-, -, r5⟩, -⟩ := R.ex
  have hp : (es.toList.map tkey).Perm xs := (List.perm_ext_iff_of_nodup r3 nd).mpr fun k => (r4 k).symm
  have := hp.length_eq
  rw [List.length_map, Array.length_toList] at this
  omega
end
section
variable {G : Glob} {cf : CF} {X : Cx} {a b : Expr} {ca cb : E} {pos : Pos}
end
section
open L2
variable {X : Cx} {pins : List (Addr × Obj)} {σ : L2.St} {H : Hp} {s : Shared} {a : Addr} {u r : Value} {d : V} {k : Key} {A : Around} {E : Value → Shared → Prop}
end
section
variable {G : Glob} {cf : CF} {X : Cx} {a b : Expr} {ca cb : E} {pos : Pos}
end
end Fl
namespace Fl
open PySem PySem.Calls PyProof.Rows PyProof.V PySem.Spec PySem.W
section
variable {prog : Program} {w : World} {A : Around} {E : Value → Shared → Prop} {s : Shared} {z TI TO T i1 i2 : Addr} {fp1 fp2 : List Addr} {n1 n2 i : Nat} {P1 P2 : Nat → Value → Prop} {St1 St2 : Nat → Heap → Prop} {f : Bool} {oT : Obj}
end
/-- what stands behind the tuples made -/
structure ZsG (its : Array Value) (x : Str) (lo : Addr) (h : Heap) (as : List Addr) : Prop where
  rise : as.Pairwise (· < ·)
  above : ∀ a ∈ as, lo < a
  pairs : ∀ (j : Nat) (a : Addr), as[j]? = some a → ∃ (v : Value) (c : Nat) (t : Tok), its[j]? = some v ∧ x.cps[j]? = some c ∧ h.get? a = some { cls := .type "tuple", data := .seq #[v, .str ⟨#[c]⟩ t] }
theorem ZsG.there {its : Array Value} {x : Str} {lo : Addr} {h : Heap} {as : List Addr} (g : ZsG its x lo h as) {a : Addr} (ha : a ∈ as) : a < h.objs.size := by
  obtain ⟨j, hj⟩ := List.mem_iff_getElem?.mp ha
  obtain ⟨_, _, _, _, _, e⟩ := g.pairs j a hj
  exact Heap.lt_size e
noncomputable def ZsSt (h : Heap) (z TI TO i1 i2 l S : Addr) (i : Nat) (its : Array Value) (x : Str) (t : Tok) : Prop :=
  IsTupOf2 h TI (.ref i1) (.ref i2) ∧ h.IsListIter i1 l i ∧ h.IsList l its ∧ h.IsStrIter i2 (strIterType x) x t i ∧
  ((IsZip h z TI TO .none ∧ ∃ a b, IsTupOf2 h TO a b) ∨ ∃ T f oT, IsZipHeld h z TI TO T f ∧ h.get? T = some oT ∧ T ≠ z ∧ T ≠ i1 ∧ T ≠ i2 ∧ T ≠ S)
section
variable {prog : Program} {w : World} {A : Around} {E : Value → Shared → Prop} {s : Shared} {z TI TO i1 i2 l S : Addr} {its : Array Value} {x : Str} {t : Tok}
end
theorem ZsSt.keep {h h' : Heap} {z TI TO i1 i2 l S : Addr} {i : Nat} {its : Array Value} {x : Str} {t : Tok} (st : ZsSt h z TI TO i1 i2 l S i its x t) (k : ∀ b o, b ≠ S → h.get? b = some o → h'.get? b = some o) (h0 : z ≠ S) (h1 : TI ≠ S) (h2 : TO ≠ S) (h3 : i1 ≠ S) (h4 : i2 ≠ S) (h5 : l ≠ S) : ZsSt h' z TI TO i1 i2 l S i its x t := by
  obtain ⟨q1, q2, q3, q4, q5⟩ := st
  refine ⟨k _ _ h1 q1, q2.at fun o y => k _ o h3 y, q3.at fun o y => k _ o h5 y, ?_, ?_⟩
  · obtain ⟨o, e, r⟩ := q4
    exact ⟨o, k _ _ h4 e, r⟩
  · rcases q5 with ⟨hz, a, b, hTO⟩ | ⟨T, f, oT, hz, hT, r1, r2, r3, r4⟩
    · exact .inl ⟨k _ _ h0 hz, a, b, k _ _ h2 hTO⟩
    · exact .inr ⟨T, f, oT, k _ _ h0 hz, k _ _ r4 hT, r1, r2, r3, r4⟩
section
variable {prog : Program} {w : World} {A : Around} {s : Shared} {R : Result → Shared → Prop} {its : Array Value} {x : Str} {t : Tok}
end
section
variable {prog : Program} {w : World} {A : Around} {E : Value → Shared → Prop} {s : Shared} {z TI TO i1 i2 l : Addr} {its : Array Value} {x : Str} {t : Tok}
end
section
open L2
variable {X : Cx}
end
section
variable {G : Glob} {cf : CF} {X : Cx} {a b : Expr} {ca cb : E} {pos : Pos}
open L2
end
end Fl
namespace Fl
open PySem L2
structure Sig where
  gs : List (String × List Nat)
  fn : List (String × String × Nat)
  ds : List (String × List (List Nat × Int))
  fl : List String
  cl : List String
  ec : List String
  et : List String
  gi : List (String × Int) := []
  gt : List (String × List (List Nat)) := []
noncomputable def visB (sc : Scope) (x : Str) : Bool := match sc.names.lookup x with
  | some .local => true
  | some .cell => true
  | some .free => true
  | _ => false
noncomputable def locB (sc : Scope) (x : Str) : Bool := match sc.names.lookup x with
  | some .local => true
  | some .cell => true
  | _ => false
noncomputable def isLc (sc : Scope) (x : Str) : Bool := match sc.names.lookup x with
  | some .local => true
  | _ => false
noncomputable def isCl (sc : Scope) (x : Str) : Bool := match sc.names.lookup x with
  | some .cell => true
  | _ => false
noncomputable def glbB (sc : Scope) (x : Str) : Bool := match sc.names.lookup x with
  | some .globalImplicit => true
  | _ => false
noncomputable def nodb (x : Str) : Bool := !(x == ("__debug__" : Str)) && !(x == ("__classdict__" : Str)) && !decide (x = ("__name__" : Str))
noncomputable def notStar : Expr → Bool
  | .Starred .. => false
  | _ => true
noncomputable def recvOk : Expr → Bool
  | .Name .. => true
  | .Attribute .. => true
  | .Subscript .. => true
  | .Constant .. => true
  | .Dict .. => true
  | .ListComp .. => true
  | .Call (.Attribute ..) .. => true
  | .Call (.Name ..) (_ :: _) .. => true
  | _ => false
noncomputable def notSlice : Expr → Bool
  | .Slice .. => false
  | _ => true
noncomputable def notComp : Expr → Bool
  | .ListComp .. => false
  | .SetComp .. => false
  | .DictComp .. => false
  | _ => true
noncomputable def notTup : Expr → Bool
  | .Tuple .. => false
  | _ => true
noncomputable def notSet : Expr → Bool
  | .Set .. => false
  | _ => true
/-- may stand as a test -/
noncomputable def tOk : E → Bool
  | .frz _ => false
  | .ite _ _ _ => false
  | .irp _ _ _ _ => false
  | _ => true
noncomputable def biN : Bi → String
  | .len => "len" | .int => "int" | .list _ => "list" | .tuple => "tuple" | .min2 => "min" | .max2 => "max" | .abs => "abs" | .sum => "sum" | .min3 => "min" | .minL => "min" | .minT => "min" | .str => "str" | .sorted _ => "sorted" | .dict => "dict" | .minE => "min" | .intT => "int" | .dictT => "dict"
noncomputable def mtN : Mt → String
  | .append => "append" | .pop => "pop" | .popAt => "pop" | .insert => "insert" | .join => "join" | .index => "index" | .clear => "clear" | .count => "count" | .upper => "upper" | .extend => "extend" | .split _ => "split" | .splitN _ => "split"
noncomputable def mtArgs : Mt → Nat
  | .append => 1 | .pop => 0 | .popAt => 1 | .insert => 2 | .join => 1 | .index => 1 | .clear => 0 | .count => 1 | .upper => 0 | .extend => 1 | .split _ => 1 | .splitN _ => 2
noncomputable def opB (o : Bop) (p : Operator) : Bool := decide (bopOf o = p)
noncomputable def opC (o : Cop) (p : CmpOp) : Bool := decide (copOf o = p)
/-- texts as keys -/
noncomputable def mK : List (List Nat) → List (Option Expr) → Bool
  | [], [] => true
  | k :: ks, some (.Constant (.str y) _ _) :: r => decide ((⟨k.toArray⟩ : Str) = y) && mK ks r
  | _, _ => false
/-- a comprehension's target: the block's own names -/
noncomputable def mTgB (N : List Str) (sc scope : Scope) : Tg → Expr → Option (List (Str × Nat))
  | .nm i, .Name x _ => if (decide (N[i]? = some x) && (isLc (relS scope sc) x || (isCl (relS scope sc) x && isCl scope x))) = true then some [(x, i)] else none
  | .tp is, .Tuple es _ _ => go is es
  | _, _ => none
where go : List Nat → List Expr → Option (List (Str × Nat))
  | [], [] => some []
  | i :: is, .Name x _ :: es => if (decide (N[i]? = some x) && (isLc (relS scope sc) x || (isCl (relS scope sc) x && isCl scope x))) = true then (go is es).map fun l => (x, i) :: l else none
  | _, _ => none
/-- a written text -/
noncomputable def strOf : E → Option (List Nat)
  | .str x => some x
  | _ => none
mutual
noncomputable def mE (sg : Sig) (N : List Str) : Scope → E → Expr → Bool
  | sc, .var i, e => match e with
    | .Name x _ => decide (N[i]? = some x) && visB sc x && nodb x
    | _ => false
  | _, .non, _ => false
  | _, .bl b, e => match e with
    | .Constant (.bool c) _ _ => decide (b = c)
    | _ => false
  | _, .int i, e => match e with
    | .Constant (.int j) _ _ => decide (i = j)
    | _ => false
  | _, .str x, e => match e with
    | .Constant (.str y) _ _ => decide ((⟨x.toArray⟩ : Str) = y)
    | _ => false
  | sc, .gs f v, e => match e with
    | .Name x _ => decide (x = Str.ofString f) && glbB sc x && nodb x && decide ((f, v) ∈ sg.gs)
    | _ => false
  | _, .gi _ _, _ => false
  | sc, .bin o a b, e => match e with
    | .BinOp l p r _ => opB o p && mE sg N sc a l && mE sg N sc b r
    | _ => false
  | sc, .neg a, e => match e with
    | .UnaryOp .USub x _ => mE sg N sc a x
    | _ => false
  | sc, .not a, e => match e with
    | .UnaryOp .Not x _ => mE sg N sc a x && tOk a
    | _ => false
  | sc, .and es, e => match e with
    | .BoolOp .And (x :: xs) _ => mEs sg N sc es (x :: xs) && tOkL es
    | _ => false
  | sc, .or es, e => match e with
    | .BoolOp .Or (x :: xs) _ => mEs sg N sc es (x :: xs) && tOkL es
    | _ => false
  | _, .dnn, _ => false
  | _, .inn2 _ _, _ => false
  | sc, .cmp o a b, e => match e with
    | .Compare l [p] [r] _ => opC o p && notSet r && mE sg N sc a l && mE sg N sc b r
    | _ => false
  | sc, .chn o o' a b c, e => match e with
    | .Compare l [p, p'] [m, r] _ => opC o p && opC o' p' && notSet m && notSet r && mE sg N sc a l && mE sg N sc b m && mE sg N sc c r
    | _ => false
  | sc, .ite c a b, e => match e with
    | .IfExp t l r _ => mE sg N sc c t && tOk c && mE sg N sc a l && mE sg N sc b r
    | _ => false
  | sc, .tup es, e => match e with
    | .Tuple xs _ _ => mEs sg N sc es xs
    | _ => false
  | sc, .lst _ es, e => match e with
    | .List xs _ => mEs sg N sc es xs
    | _ => false
  | sc, .cat _ a b, e => match e with
    | .BinOp l .Add r _ => mE sg N sc a l && mE sg N sc b r
    | _ => false
  | sc, .idx a b, e => match e with
    | .Subscript l r _ => notSlice r && mE sg N sc a l && mE sg N sc b r
    | _ => false
  | sc, .sl _ a lo hi, e => match e with
    | .Subscript l (.Slice x y none _) _ => mE sg N sc a l && mO sg N sc lo x && mO sg N sc hi y
    | _ => false
  | sc, .call f es, e => match e with
    | .Call (.Name x _) xs [] _ => decide (x = Str.ofString f) && glbB sc x && nodb x && (sg.fn.any fun p => decide (p.1 = "") && decide (p.2.1 = f)) && mEs sg N sc es xs
    | _ => false
  | sc, .lrng _ c, e => match e with
    | .Call (.Name x _) [.Call (.Name y _) [z] [] _] [] _ => decide (x = Str.ofString "list") && glbB sc x && decide (y = Str.ofString "range") && glbB sc y && mE sg N sc c z && notStar z
    | _ => false
  | sc, .bi b es, e => match e with
    | .Call (.Name x _) (y :: ys) [] _ => decide (x = Str.ofString (biN b)) && glbB sc x && mEs sg N sc es (y :: ys)
    | _ => false
  | sc, .isi a t, e => match e with
    | .Call (.Name x _) [y, .Name z _] [] _ => decide (x = Str.ofString "isinstance") && glbB sc x && decide (z = Str.ofString (tyS t)) && glbB sc z && mE sg N sc a y && notStar y
    | _ => false
  | sc, .met m o es, e => match e with
    | .Call (.Attribute r x ap) xs [] cp => decide (x = Str.ofString (mtN m)) && recvOk r && decide (ap.endLine = cp.line) && decide (xs.length = mtArgs m) && mE sg N sc o r && mEs sg N sc es xs
    | _ => false
  | sc, .dget f tab k d, e => match e with
    | .Call (.Attribute (.Name x q) m ap) [a, b] [] cp => decide (x = Str.ofString f) && glbB sc x && nodb x && decide ((f, tab) ∈ sg.ds) && decide (m = Str.ofString "get") && decide (ap.endLine = cp.line) && notStar a && notStar b && recvOk (.Name x q) && mE sg N sc k a && mE sg N sc d b
    | _ => false
  | _, .fld _ _, _ => false
  | _, .own _ _ _, _ => false
  | _, .mak _ _, _ => false
  | _, .dsp _ _, _ => false
  | sc, .rpt _ a b, e => match e with
    | .BinOp l .Mult r _ => mE sg N sc a l && mE sg N sc b r
    | _ => false
  | sc, .rev _ a, e => match e with
    | .Subscript l (.Slice none none (some (.UnaryOp .USub (.Constant (.int 1) _ _) _)) _) _ => mE sg N sc a l
    | _ => false
  | _, .dnt, _ => false
  | sc, .lenm _ c, e => match e with
    | .Call (.Name x _) [.Call (.Name y _) [z] [] _] [] _ => decide (x = Str.ofString "list") && glbB sc x && decide (y = Str.ofString "enumerate") && glbB sc y && mE sg N sc c z && notStar z
    | _ => false
  | _, .dst _ _, _ => false
  | _, .denm _, _ => false
  | _, .fst _, _ => false
  | _, .rpl _ _ _ _, _ => false
  | _, .nint _ _ _, _ => false
  | _, .irp _ _ _ _, _ => false
  | _, .lzip _ _ _, _ => false
  | _, .sdf _ _ _, _ => false
  | _, .ltx _, _ => false
  | sc, .sset _ c, e => match e with
    | .Call (.Name x _) [.Call (.Name y p2) [z] [] pos2] [] _ => decide (x = Str.ofString "sorted") && glbB sc x && decide (y = Str.ofString "set") && glbB sc y && mE sg N sc c z && notStar z && notStar (.Call (.Name y p2) [z] [] pos2)
    | _ => false
  | _, .rps _ _, _ => false
  | _, .dsi _ _, _ => false
  | _, .dgv _ _ _, _ => false
  | _, .rpr _, _ => false
  | _, .dsv _ _, _ => false
  | _, .lset _, _ => false
  | _, .isit _ _, _ => false
  | _, .isx _ _, _ => false
  | _, .isxt _ _, _ => false
  | sc, .lc _ c tg it cnd, e => match e with
    | .ListComp elt [⟨t, iter, ifs, 0⟩] scope _ => (match mTgB N sc scope tg t with
      | some own => blkC N sc scope own && decide (own.map (·.2) = slots tg)
      | none => false) && notSet iter && mI sg N sc it t iter && mC sg N (relS scope sc) cnd ifs && mE sg N (relS scope sc) c elt
    | _ => false
  | sc, .frz a, e => mE sg N sc a e
noncomputable def tOkL : Es → Bool
  | .nil => true
  | .cons e r => tOk e && tOkL r
noncomputable def mEs (sg : Sig) (N : List Str) : Scope → Es → List Expr → Bool
  | _, .nil, [] => true
  | sc, .cons c r, x :: xs => notStar x && mE sg N sc c x && mEs sg N sc r xs
  | _, _, _ => false
noncomputable def mFs (sg : Sig) (N : List Str) : Scope → Es → List Expr → Bool
  | _, .nil, [] => true
  | sc, .cons c r, v :: vs => (match strOf c with
    | some x => (match v with
      | .Constant (.str y) _ _ => decide ((⟨x.toArray⟩ : Str) = y)
      | _ => false)
    | none => (match v with
      | .FormattedValue w k none _ => decide (k = -1) && mE sg N sc c w
      | _ => false)) && mFs sg N sc r vs
  | _, _, _ => false
noncomputable def mO (sg : Sig) (N : List Str) : Scope → Oe → Option Expr → Bool
  | _, .no, none => true
  | sc, .so c, some x => mE sg N sc c x
  | _, _, _ => false
noncomputable def mC (sg : Sig) (N : List Str) : Scope → Oe → List Expr → Bool
  | _, .no, [] => true
  | sc, .so c, [x] => mE sg N sc c x && tOk c
  | _, _, _ => false
noncomputable def mI (sg : Sig) (N : List Str) : Scope → It → Expr → Expr → Bool
  | sc, .seq c, _, x => mE sg N sc c x
  | sc, .any c, _, x => mE sg N sc c x
  | sc, .tup c, _, x => mE sg N sc c x
  | sc, .str c, _, x => mE sg N sc c x
  | sc, .rng c, _, e => match e with
    | .Call (.Name x _) [y] [] _ => decide (x = Str.ofString "range") && glbB sc x && mE sg N sc c y && notStar y
    | _ => false
  | sc, .rng2 a b, _, e => match e with
    | .Call (.Name x _) [y, z] [] _ => decide (x = Str.ofString "range") && glbB sc x && mE sg N sc a y && notStar y && mE sg N sc b z && notStar z
    | _ => false
  | _, .enm _, _, _ => false
  | sc, .ens c, t, e => match t, e with
    | .Tuple .., .Call (.Name x _) [y] [] _ => decide (x = Str.ofString "enumerate") && glbB sc x && mE sg N sc c y && notStar y
    | _, _ => false
  | sc, .zip a b, t, e => match t, e with
    | .Tuple .., .Call (.Name x _) [y, z] [] _ => decide (x = Str.ofString "zip") && glbB sc x && mE sg N sc a y && notStar y && mE sg N sc b z && notStar z
    | _, _ => false
  | _, .zips _ _, _, _ => false
end
noncomputable def bnames : List String := ["len", "int", "list", "tuple", "min", "max", "abs", "isinstance", "range", "enumerate", "zip", "str", "bool", "dict", "set", "repr", "sum", "sorted"]
/-- a dict's entries: texts and numbers -/
noncomputable def entR : List DictEntry → List (List Nat × Int) → Prop
  | [], [] => True
  | e :: r, (z, i) :: q => ((∃ t, e.key = .str ⟨z.toArray⟩ t) ∧ ∃ t, e.val = .int i t) ∧ entR r q
  | _, _ => False
noncomputable def DsAt (K : PySem.W.Frag) (w : World) (mg : Str → Option Value) (f : String) (t : List (List Nat × Int)) : Prop :=
  ∃ (a : Addr) (es : Array DictEntry) (n : Nat), mg (Str.ofString f) = some (.ref a) ∧ KDict K w a es n ∧ entR es.toList t
structure Ok (sg : Sig) (G : Glob) (cf : CF) (N : List Str) (sc : Scope) (X : Cx) : Prop where
  n : X.N = N
  nd : N.Nodup
  sc : X.env.scope = sc
  k : X.K = G.K
  calm : X.calm = true
  units : X.A.units + 4499 < cLine
  gd : X.A.guards = some []
  gs : ∀ f v, (f, v) ∈ sg.gs → ∃ t, X.mg (Str.ofString f) = some (.str ⟨v.toArray⟩ t)
  gi : ∀ f v, (f, v) ∈ sg.gi → ∃ t, X.mg (Str.ofString f) = some (.int v t)
  bl : ∀ x ∈ bnames, X.mg (Str.ofString x) = none
  ds : ∀ f t, (f, t) ∈ sg.ds → DsAt X.K X.w X.mg f t
  fn : ∀ f n, ("", f, n) ∈ sg.fn → FnAt G X (Str.ofString f) (cf "" f) n
  ms : ∀ c m, c ≠ "" → ∀ ds s q, cf c m ds s = some q → ∃ C n, G.cls c = some C ∧ Cls X.K C ∧ MtAt G X C (Str.ofString m) (cf c m) n
  cl : ∀ c C, G.cls c = some C → Cls X.K C ∧ ∀ f ∈ sg.fl, NoAttr X.K C (Str.ofString f)
  mkk : ∀ c ∈ sg.cl, ∃ C n, G.cls c = some C ∧ MkAt G X (Str.ofString c) C (cf c "__init__") n
  gec : G.ec = sg.ec
  xf : XFacts sg.ec sg.et X.K X.mg
  gw : G.w = X.w
  gx : ∀ f ts, (f, ts) ∈ sg.gt → TxAt X.K X.mg f ts
section
variable {sg : Sig} {G : Glob} {cf : CF} {N : List Str} {sc : Scope} {X : Cx} {e : Expr} {es : List Expr} {pos : Pos}
theorem Ok.blk (ok : Ok sg G cf N sc X) (s : Shared) (H : Hp) (scope : Scope) (C : Addr) (cl : List (Str × Addr)) (fp : List Addr) : Ok sg G cf N (relS scope sc) (X.blk s H scope (compEnvC scope cl C X.env) fp) := by
  refine ⟨ok.n, ok.nd, ?_, ok.k, ok.calm, ok.units, ok.gd, ok.gs, ok.gi, ok.bl, ok.ds, fun f n h => ?_, fun c m hc ds s q e => ?_, ok.cl, fun c hc => ?_, ok.gec, ok.xf, ok.gw, ok.gx⟩
  · rw [← ok.sc]
    rfl
  · obtain ⟨⟨a, fd, ps, j, h1, h2, h3, h4, h5, h6⟩, h7⟩ := ok.fn f n h
    exact ⟨⟨a, fd, ps, j, h1, h2, h3, h4, h5, h6⟩, h7⟩
  · obtain ⟨C, n, h1, h2, ⟨a, fd, ps, j, k1, k2, k3, k4, k5⟩, h7⟩ := ok.ms c m hc ds s q e
    exact ⟨C, n, h1, h2, ⟨a, fd, ps, j, k1, k2, k3, k4, k5⟩, h7⟩
  · obtain ⟨C, n, h1, ⟨a, fd, ps, j, k1, k2, k3, k4, k5, k6⟩, h7⟩ := ok.mkk c hc
    exact ⟨C, n, h1, ⟨a, fd, ps, j, k1, k2, k3, k4, k5, k6⟩, h7⟩
theorem vis_of {x : Str} (h : visB sc x = true) : Vis sc x := by
  unfold visB at h
  split at h
  · exact .inl (by assumption)
  · exact .inr (.inl (by assumption))
  · exact .inr (.inr (by assumption))
  · cases h
theorem loc_of {x : Str} (h : locB sc x = true) : Loc sc x := by
  unfold locB at h
  split at h
  · exact .inl (by assumption)
  · exact .inr (by assumption)
  · cases h
theorem isLc_of {x : Str} (h : isLc sc x = true) : sc.names.lookup x = some .local := by
  unfold isLc at h
  split at h
  · assumption
  · cases h
theorem isCl_of {x : Str} (h : isCl sc x = true) : sc.names.lookup x = some .cell := by
  unfold isCl at h
  split at h
  · assumption
  · cases h
theorem glb_of (ok : Ok sg G cf N sc X) {x : Str} (h : glbB sc x = true) : Gl X x := by
  show X.env.scope.names.lookup x = some .globalImplicit
  rw [ok.sc]
  unfold glbB at h
  split at h
  · assumption
  · cases h
theorem nodb_of {x : Str} (h : nodb x = true) : (x == ("__debug__" : Str)) = false ∧ (x == ("__classdict__" : Str)) = false ∧ x ≠ ("__name__" : Str) := by
  unfold nodb at h
  simp only [Bool.and_eq_true, Bool.not_eq_true', decide_eq_false_iff_not] at h
  exact ⟨h.1.1, h.1.2, h.2⟩
theorem star1 {env : Env} (h : notStar e = true) : starEach (e :: es) env = (false, eval e env) :: starEach es env := by
  cases e <;> first | rfl | cases h
theorem starN {env : Env} : ∀ {es : List Expr}, es.all notStar = true → (backTo pos (starEach es env)).any (·.1) = false
  | [], _ => rfl
  | e :: es, h => by
    rw [List.all_cons, Bool.and_eq_true] at h
    rw [star1 h.1]
    show (false || (backTo pos (starEach es env)).any (·.1)) = false
    rw [starN h.2]
    rfl
theorem starA {env : Env} : ∀ {es : List Expr}, es.all notStar = true → (backTo pos (starEach es env)).all (fun x => !x.1) = true
  | [], _ => rfl
  | e :: es, h => by
    rw [List.all_cons, Bool.and_eq_true] at h
    rw [star1 h.1]
    show (true && (backTo pos (starEach es env)).all (fun x => !x.1)) = true
    rw [starA h.2]
    rfl
theorem mEs_star : ∀ {c : Es} {es : List Expr}, mEs sg N sc c es = true → es.all notStar = true
  | .nil, [], _ => rfl
  | .nil, _ :: _, h => by simp only [mEs] at h; cases h
  | .cons _ _, [], h => by simp only [mEs] at h; cases h
  | .cons c r, x :: xs, h => by
    simp only [mEs, Bool.and_eq_true] at h
    rw [List.all_cons, h.1.1, mEs_star h.2]
    rfl
theorem plain_ix (h : notSlice e = true) : PlainIx e := by
  intro o i
  cases e <;> first | rfl | cases h
theorem base_ok {name : Str} {env : Env} (h : recvOk e = true) : attributeBase e name env (eval e env) = eval e env := by
  cases e with
  | Call f as ks p =>
    cases f with
    | Attribute _ _ _ => rfl
    | Name _ _ =>
      cases as with
      | nil => cases h
      | cons a t => rfl
    | _ => cases h
  | _ => first | rfl | cases h
theorem sw_no {t : Option Expr} {l : Nat} {env : Env} (h : notComp e = true) : swapsWith e t l env = pure false := by
  cases e <;> first | rfl | cases h
theorem set_no {env : Env} (h : notSet e = true) : ∀ x, foldedSetIterable e env x = pure x := by
  intro x
  cases e <;> first | rfl | cases h
theorem bh_no {op : CmpOp} (h : notSet e = true) : behindInMarks op e = false := by
  cases e <;> first | rfl | cases h
theorem last_no {op op' : CmpOp} {e' : Expr} (h' : notSet e' = true) : lastMarks [op, op'] [e, e'] = false := by
  show behindInMarks op' e' = false
  exact bh_no h'
theorem boot_tyS : ∀ t : Ty, bootBuiltins (Str.ofString (tyS t)) = some (.type (tyS t))
  | .int => by decide +kernel
  | .str => by decide +kernel
  | .bool => by decide +kernel
  | .tuple => by decide +kernel
  | .list => by decide +kernel
  | .dict => by decide +kernel
theorem tyS_bn : ∀ t : Ty, tyS t ∈ bnames
  | .int => by decide
  | .str => by decide
  | .bool => by decide
  | .tuple => by decide
  | .list => by decide
  | .dict => by decide
theorem tyS_nm : ∀ t : Ty, Str.ofString (tyS t) ≠ ("__name__" : Str) ∧ (Str.ofString (tyS t) == ("__debug__" : Str)) = false
  | .int => by decide +kernel
  | .str => by decide +kernel
  | .bool => by decide +kernel
  | .tuple => by decide +kernel
  | .list => by decide +kernel
  | .dict => by decide +kernel
noncomputable def NmOk (X : Cx) (i : Nat) (x : Str) : Prop := X.N[i]? = some x ∧ Loc X.env.scope x ∧ (X.fn x = true ∨ X.env.scope.names.lookup x = some .local)
theorem g_names (hN : X.N.Nodup) : ∀ {is : List Nat} {es : List Expr} {l : List (Str × Nat)}, (∀ p ∈ l, NmOk X p.2 p.1) → l.map (·.2) = is → (∃ ps : List Pos, es = (l.zip ps).map fun q => Expr.Name q.1.1 q.2) → es.length = l.length → PGs X es (gsOf is)
  | is, es, [], h, e1, e2, e3 => by
    subst e1
    have : es = [] := List.length_eq_zero_iff.mp e3
    subst this
    exact pgs_nil
  | is, es, (x, i) :: l, h, e1, ⟨ps, e2⟩, e3 => by
    subst e1
    cases ps with
    | nil =>
      rw [List.zip_nil_right] at e2
      subst e2
      cases e3
    | cons p ps =>
      rw [List.zip_cons_cons, List.map_cons] at e2
      subst e2
      obtain ⟨h1, h2, h3⟩ := h (x, i) List.mem_cons_self
      refine pgs_cons (pg_name hN h1 h2 h3) (g_names hN (l := l) (fun q hq => h q (List.mem_cons_of_mem _ hq)) rfl ⟨ps, rfl⟩ ?_) rfl
      simpa using e3
theorem assign_names {env : Env} : ∀ {es : List Expr}, (∀ e ∈ es, ∃ x p, e = Expr.Name x p) → (assignEach es env).length = es.length ∧ (assignEach es env).findIdx? (·.1) = none
  | [], _ => ⟨rfl, rfl⟩
  | e :: es, h => by
    obtain ⟨x, p, rfl⟩ := h e List.mem_cons_self
    obtain ⟨h1, h2⟩ := assign_names (env := env) fun e he => h e (List.mem_cons_of_mem _ he)
    refine ⟨?_, ?_⟩
    · show (assignEach es env).length + 1 = _
      rw [h1]
      rfl
    · show List.findIdx? (·.1) ((false, assign (.Name x p) env) :: assignEach es env) = none
      rw [List.findIdx?_cons, h2]
      rfl
theorem tgB_go : ∀ {is : List Nat} {es : List Expr} {own : List (Str × Nat)} {scope : Scope}, mTgB.go N sc scope is es = some own →
    own.map (·.2) = is ∧ es.length = own.length ∧ (∃ ps : List Pos, es = (own.zip ps).map fun q => Expr.Name q.1.1 q.2) ∧ ∀ p ∈ own, N[p.2]? = some p.1 ∧ (isLc (relS scope sc) p.1 = true ∨ (isCl (relS scope sc) p.1 = true ∧ isCl scope p.1 = true))
  | [], [], own, scope, h => by
    cases h
    exact ⟨rfl, rfl, ⟨[], rfl⟩, fun p hp => by cases hp⟩
  | [], _ :: _, own, scope, h => by cases h
  | i :: is, [], own, scope, h => by cases h
  | i :: is, e :: es, own, scope, h => by
    unfold mTgB.go at h
    split at h
    · cases ‹_ :: _ = []›
    · rename_i i' is' x p es' h1 h2
      cases h1
      cases h2
      split at h
      · rename_i hc
        rw [Bool.and_eq_true, decide_eq_true_eq, Bool.or_eq_true, Bool.and_eq_true] at hc
        cases hg : mTgB.go N sc scope is es with
        | none =>
          rw [hg] at h
          cases h
        | some l =>
          rw [hg] at h
          cases h
          obtain ⟨e1, e2, ⟨ps, e3⟩, e4⟩ := tgB_go hg
          refine ⟨by rw [List.map_cons, e1], by simp [e2], ⟨p :: ps, by rw [List.zip_cons_cons, List.map_cons, ← e3]⟩, fun q hq => ?_⟩
          rcases List.mem_cons.mp hq with z | z
          · subst z
            exact hc
          · exact e4 q z
      · cases h
    · cases h
theorem nm_blk (ok : Ok sg G cf N sc X) (s : Shared) (H : Hp) (scope : Scope) (C : Addr) (cl : List (Str × Addr)) (fp : List Addr) {i : Nat} {x : Str} (h1 : N[i]? = some x) (h2 : isLc (relS scope sc) x = true ∨ (isCl (relS scope sc) x = true ∧ isCl scope x = true)) :
    NmOk (X.blk s H scope (compEnvC scope cl C X.env) fp) i x := by
  have hs : (X.blk s H scope (compEnvC scope cl C X.env) fp).env.scope = relS scope sc := (ok.blk s H scope C cl fp).sc
  refine ⟨by show X.N[i]? = some x; rw [ok.n]; exact h1, ?_, ?_⟩
  · rw [hs]
    rcases h2 with h2 | ⟨h2, _⟩
    · exact .inl (isLc_of h2)
    · exact .inr (isCl_of h2)
  · rcases h2 with h2 | ⟨_, h2⟩
    · exact .inr (by rw [hs]; exact isLc_of h2)
    · refine .inl ?_
      show (scope.names.lookup x == some .cell) = true
      rw [isCl_of h2]
      rfl
theorem pg_blk (ok : Ok sg G cf N sc X) {scope : Scope} {tg : Tg} {t : Expr} {own : List (Str × Nat)} (h : mTgB N sc scope tg t = some own) (s : Shared) (H : Hp) (C : Addr) (cl : List (Str × Addr)) (fp : List Addr) :
    PG (X.blk s H scope (compEnvC scope cl C X.env) fp) t (gOf X.K tg) := by
  have hN : (X.blk s H scope (compEnvC scope cl C X.env) fp).N.Nodup := by
    show X.N.Nodup
    rw [ok.n]
    exact ok.nd
  cases tg with
  | nm i =>
    cases t with
    | Name x p =>
      have h' : (if (decide (N[i]? = some x) && (isLc (relS scope sc) x || (isCl (relS scope sc) x && isCl scope x))) = true then some [(x, i)] else none) = some own := h
      split at h'
      · rename_i hc
        rw [Bool.and_eq_true, decide_eq_true_eq, Bool.or_eq_true, Bool.and_eq_true] at hc
        obtain ⟨k1, k2, k3⟩ := nm_blk ok s H scope C cl fp hc.1 hc.2
        exact pg_name hN k1 k2 k3
      · cases h'
    | _ => cases h
  | tp is =>
    cases t with
    | Tuple es k p =>
      obtain ⟨e1, e2, e3, e4⟩ := tgB_go (show mTgB.go N sc scope is es = some own from h)
      have hnm : ∀ e ∈ es, ∃ x p, e = Expr.Name x p := fun e he => by
        obtain ⟨ps, e3⟩ := e3
        rw [e3] at he
        obtain ⟨q, _, rfl⟩ := List.mem_map.mp he
        exact ⟨_, _, rfl⟩
      obtain ⟨a1, a2⟩ := assign_names (env := (X.blk s H scope (compEnvC scope cl C X.env) fp).env) hnm
      have gn := g_names (X := X.blk s H scope (compEnvC scope cl C X.env) fp) hN (l := own) (fun q hq => nm_blk ok s H scope C cl fp (e4 q hq).1 (e4 q hq).2) e1 e3 e2
      have ln : (assignEach es (X.blk s H scope (compEnvC scope cl C X.env) fp).env).length = is.length := by rw [a1, e2, ← e1, List.length_map]
      exact pg_ei (pg_tup (X := X.blk s H scope (compEnvC scope cl C X.env) fp) ok.calm gn ln a2) (pg_lst (X := X.blk s H scope (compEnvC scope cl C X.env) fp) ok.calm gn ln a2)
    | _ => cases h
  | nt i is => cases t <;> cases h
end
end Fl
namespace Fl
open PySem L2
section
variable {sg : Sig} {G : Glob} {cf : CF} {N : List Str}
theorem opB_of {o : Bop} {p : Operator} (h : opB o p = true) : p = bopOf o := (of_decide_eq_true h).symm
theorem opC_of {o : Cop} {p : CmpOp} (h : opC o p = true) : p = copOf o := (of_decide_eq_true h).symm
/-- a value, and a test where it may be one -/
noncomputable def SE (G : Glob) (cf : CF) (X : Cx) (c : E) (e : Expr) : Prop := PE X e (rE G cf c) ∧ (tOk c = true → PT X e (rT G cf c))
theorem SE.gen {X : Cx} (hK : X.K = G.K) {c : E} {e : Expr} (h : PE X e (rE G cf c)) (he : ∀ whole, isTrue e X.env whole = (do let v ← whole; standAt e.pos; holding [v] (truthy v))) : SE G cf X c e := ⟨h, fun _ => t_gen hK h he⟩
/-- what a list of expressions is good for -/
structure SL (G : Glob) (cf : CF) (X : Cx) (c : Es) (es : List Expr) : Prop where
  pa : PA X es (rA G cf c)
  an : ∀ pos, es ≠ [] → PE X (.BoolOp .And es pos) (rd G (evAnd cf c) Rep)
  orr : ∀ pos, es ≠ [] → PE X (.BoolOp .Or es pos) (rd G (evOr cf c) Rep)
  wa : ∀ pos, es ≠ [] → tOkL c = true → PW X (.BoolOp .And es pos) (rTL G (evAnd cf c))
  wo : ∀ pos, es ≠ [] → tOkL c = true → PW X (.BoolOp .Or es pos) (rTL G (evOr cf c))
  pp : ∀ pos ks keys, mK ks keys = true → keys.length = es.length → PPs X pos keys es (trsOf G cf ks c)
theorem rd_congr {α β : Type} {f g : Sl → S → R α} {rp : Mp → S → Hp → α → β → Prop} (h : f = g) : rd G f rp = rd G g rp := by rw [h]
theorem pp_cons {X : Cx} {c : E} {r : Es} {x : Expr} {xs : List Expr} (h1 : SE G cf X c x) (h2 : ∀ pos ks keys, mK ks keys = true → keys.length = xs.length → PPs X pos keys xs (trsOf G cf ks r)) (pos : Pos) (ks : List (List Nat)) (keys : List (Option Expr)) (hm : mK ks keys = true) (hl : keys.length = (x :: xs).length) :
    PPs X pos keys (x :: xs) (trsOf G cf ks (.cons c r)) := by
  cases keys with
  | nil => cases hl
  | cons k keys =>
    cases ks with
    | nil => cases k <;> cases hm
    | cons z ks =>
      cases k with
      | none => cases hm
      | some k =>
        cases k with
        | Constant y p q =>
          cases y with
          | str y =>
            have hm' : (decide ((⟨z.toArray⟩ : Str) = y) && mK ks keys) = true := hm
            rw [Bool.and_eq_true, decide_eq_true_eq] at hm'
            obtain ⟨rfl, hm2⟩ := hm'
            exact pps_cons pe_str h1.1 (h2 pos ks keys hm2 (by simpa using hl))
          | _ => cases hm
        | _ => cases hm
theorem SL.cons {X : Cx} {c : E} {r : Es} {x : Expr} {xs : List Expr} (h1 : SE G cf X c x) (h2 : SL G cf X r xs) (hs : notStar x = true) (hl : r = .nil ↔ xs = []) : SL G cf X (.cons c r) (x :: xs) := by
  cases r with
  | nil =>
    have hx : xs = [] := hl.mp rfl
    subst hx
    have ea : evAnd cf (.cons c .nil) = ev cf c := by funext r s; simp only [evAnd]
    have eo : evOr cf (.cons c .nil) = ev cf c := by funext r s; simp only [evOr]
    refine ⟨c_cons h1.1 h2.pa (star1 hs), fun pos _ => ?_, fun pos _ => ?_, fun pos _ ht => ?_, fun pos _ ht => ?_, pp_cons h1 h2.pp⟩
    · rw [rd_congr ea]
      exact c_one h1.1
    · rw [rd_congr eo]
      exact c_one h1.1
    · simp only [tOkL, Bool.and_eq_true] at ht
      exact w_and1 (h1.2 ht.1)
    · simp only [tOkL, Bool.and_eq_true] at ht
      exact w_or1 (h1.2 ht.1)
  | cons c' r' =>
    cases xs with
    | nil => exact absurd (hl.mpr rfl) (fun z => nomatch z)
    | cons x' xs' =>
      refine ⟨c_cons h1.1 h2.pa (star1 hs), fun pos _ => c_andL h1.1 (h2.an pos (by simp)), fun pos _ => c_orL h1.1 (h2.orr pos (by simp)), fun pos _ ht => ?_, fun pos _ ht => ?_, pp_cons h1 h2.pp⟩
      · simp only [tOkL, Bool.and_eq_true] at ht
        exact w_and (h1.2 ht.1) (h2.wa pos (by simp) (by simp only [tOkL, Bool.and_eq_true]; exact ht.2))
      · simp only [tOkL, Bool.and_eq_true] at ht
        exact w_or (h1.2 ht.1) (h2.wo pos (by simp) (by simp only [tOkL, Bool.and_eq_true]; exact ht.2))
theorem mEs_nil {sc : Scope} {r : Es} {xs : List Expr} (h : mEs sg N sc r xs = true) : r = .nil ↔ xs = [] := by
  cases r <;> cases xs <;> simp only [mEs] at h <;> first | (cases h; done) | simp
/-- a test's clause -/
theorem pts_no {X : Cx} : PTs X [] (rC G cf .no) := ⟨fun pins s σ H Q I h => pts_nil.run pins s σ H Q I (by
  obtain ⟨φ, s, r, A, d, s', he, p⟩ := h
  simp only [evT] at he
  cases he
  exact p φ H true (Gr.refl _ _ _) A.hr rfl)⟩
theorem pts_so {X : Cx} {e : Expr} {c : E} (h : PT X e (rT G cf c)) : PTs X [e] (rC G cf (.so c)) := ⟨fun pins s σ H Q I q => (pts_one h).run pins s σ H Q I (by
  obtain ⟨φ, s, r, A, d, s', he, p⟩ := q
  simp only [evT] at he
  exact ⟨φ, s, r, A, d, s', he, p⟩)⟩
/-- the built-in functions -/
theorem bi_case {sc : Scope} {X : Cx} (ok : Ok sg G cf N sc X) {b : Bi} {es : Es} {x : Str} {p pos : Pos} {y : Expr} {ys : List Expr} (hx : x = Str.ofString (biN b)) (hg : glbB sc x = true) (hm : mEs sg N sc es (y :: ys) = true) (ha : PA X (y :: ys) (rA G cf es)) :
    PE X (.Call (.Name x p) (y :: ys) [] pos) (rE G cf (.bi b es)) := by
  subst hx
  have hs := mEs_star hm
  rw [List.all_cons, Bool.and_eq_true] at hs
  have he : starEach (y :: ys) X.env = (false, eval y X.env) :: starEach ys X.env := star1 hs.1
  have hpl : (backTo pos (starEach ys X.env)).any (·.1) = false := starN hs.2
  have gl := glb_of ok hg
  cases b with
  | len => exact c_bi (rr := fun xs H Q => rLen X.K xs H Q ∨ rLenD xs H Q) (CallR.or call_len call_lenD) gl (ok.bl _ (by decide)) PySem.boot_len ha (by decide) (by decide) he hpl fun h r e p => len_ok (h.k.trans ok.k.symm) h r e p
  | int => exact c_ty (rr := rInt1) call_int1 gl (ok.bl _ (by decide)) PyProof.Rows.boot_int ha (by decide) (by decide) he hpl fun h r e p => int_ok h r e p
  | list bx => exact c_ty (x := Str.ofString "list") (rr := fun xs H Q => rListOf X.K xs H Q ∨ rListStr xs H Q) (CallR.or call_list_of (call_listStr ok.calm)) gl (ok.bl "list" (by decide)) PyProof.Rows.boot_list ha (by decide) (by decide) he hpl fun h r e p => list_ok (h.k.trans ok.k.symm) h r e p
  | tuple => exact c_ty (rr := fun xs H Q => rTupOf X.K xs H Q ∨ rTupStr xs H Q) (CallR.or call_tuple_of (call_tupStr ok.calm)) gl (ok.bl _ (by decide)) PyProof.Rows.boot_tuple ha (by decide) (by decide) he hpl fun h r e p => tuple_ok (h.k.trans ok.k.symm) h r e p
  | min2 => exact c_bi (call_min2 ok.calm) gl (ok.bl _ (by decide)) PyProof.Rows.boot_min ha (by decide) (by decide) he hpl fun h r e p => min_ok h r e p
  | max2 => exact c_bi (call_max2 ok.calm) gl (ok.bl _ (by decide)) PyProof.Rows.boot_max ha (by decide) (by decide) he hpl fun h r e p => max_ok h r e p
  | sum => exact c_bi (cr_sum ok.calm) gl (ok.bl _ (by decide)) PyProof.Rows.boot_sum ha (by decide) (by decide) he hpl fun h r e p => sum_ok (h.k.trans ok.k.symm) h r e p
  | min3 => exact c_bi (call_min3Nu ok.calm) gl (ok.bl _ (by decide)) PyProof.Rows.boot_min ha (by decide) (by decide) he hpl fun h r e p => min3_ok h r e p
  | minL => exact c_bi (cr_min ok.calm) gl (ok.bl _ (by decide)) PyProof.Rows.boot_min ha (by decide) (by decide) he hpl fun h r e p => minL_ok (h.k.trans ok.k.symm) h r e p
  | minT => exact c_bi (MinT.cr_minT ok.calm (by have := ok.units; show X.A.units + 1 < cLine; omega)) gl (ok.bl _ (by decide)) PyProof.Rows.boot_min ha (by decide) (by decide) he hpl fun h r e p => minT_ok (h.k.trans ok.k.symm) h r e p
  | sorted bx => exact c_bi (x := Str.ofString "sorted") (call_sortAll ok.calm) gl (ok.bl "sorted" (by decide)) PyProof.Rows.boot_sorted ha (by decide) (by decide) he hpl fun h r e p => sort_ok (h.k.trans ok.k.symm) h r e p
  | dict => exact c_ty (x := Str.ofString "dict") (rr := rDict X.K) (call_dictP ok.calm) gl (ok.bl "dict" (by decide)) PyProof.Rows.boot_dict ha (by decide) (by decide) he hpl fun h r e p => dict_ok (h.k.trans ok.k.symm) h r e p
  | dictT => exact c_ty (x := Str.ofString "dict") (rr := rDictT X.K) (call_dictT ok.calm (by have := ok.units; omega)) gl (ok.bl "dict" (by decide)) PyProof.Rows.boot_dict ha (by decide) (by decide) he hpl fun h r e p => dictT_ok (h.k.trans ok.k.symm) h r e p
  | str => exact c_ty (rr := fun xs H Q => (∃ i, xs = [.int i] ∧ i.natAbs.log2 < 1920 ∧ Q (.str (toString i)) H) ∨ rStr X.K xs H Q) (CallR.or call_str_int (call_str ok.units ok.gd)) gl (ok.bl _ (by decide)) PyProof.Rows.boot_str ha (by decide) (by decide) he hpl fun h r e p => strA_ok (h.k.trans ok.k.symm) h r e p
  | intT => exact c_ty call_int_str gl (ok.bl _ (by decide)) PyProof.Rows.boot_int ha (by decide) (by decide) he hpl fun h r e p => intT_ok h r e p
  | minE => exact c_bi (cr_minE ok.calm (by have := ok.units; omega)) gl (ok.bl _ (by decide)) PyProof.Rows.boot_min ha (by decide) (by decide) he hpl fun h r e p => minE_ok (h.k.trans ok.k.symm) h r e p
  | abs => exact c_bi call_abs gl (ok.bl _ (by decide)) PyProof.Rows.boot_abs ha (by decide) (by decide) he hpl fun h r e p => abs_ok h r e p
/-- the methods -/
theorem met_case {sc : Scope} {X : Cx} (hK : X.K = G.K) (hu : X.A.units + 4499 < cLine) {m : Mt} {c : E} {es : Es} {r : Expr} {x : Str} {ap cp : Pos} {xs : List Expr} (hx : x = Str.ofString (mtN m)) (hr : recvOk r = true) (hl : ap.endLine = cp.line) (hn : xs.length = mtArgs m) (ho : PE X r (rE G cf c)) (hm : mEs sg N sc es xs = true) (ha : PA X xs (rA G cf es)) :
    PE X (.Call (.Attribute r x ap) xs [] cp) (rE G cf (.met m c es)) := by
  subst hx
  have hs := mEs_star hm
  have hln : (ap.endLine == cp.line) = true := by rw [hl]; exact beq_self_eq_true _
  cases xs with
  | nil =>
    cases es with
    | cons _ _ => simp only [mEs] at hm; cases hm
    | nil =>
      cases m with
      | clear => exact c_met0 PySem.F.plainAttrs_list PySem.F.slot_list_clear PySem.F.type_list_clear mt_clear ho (base_ok hr) hln (fun h r e => ty_list (h.k.trans hK.symm) h r e) fun h r l e p => clear_ok h r l e p
      | upper => exact c_met0 PySem.F.plainAttrs_str PySem.F.slot_str_upper PySem.F.type_str_upper mt_upper ho (base_ok hr) hln (fun h r e => ty_strU r e) fun h r l e p => upper_ok r h l e p
      | pop => exact c_met0 PySem.F.plainAttrs_list PySem.F.slot_list_pop PySem.F.type_list_pop mt_pop ho (base_ok hr) hln (fun h r e => ty_list (h.k.trans hK.symm) h r e) fun h r l e p => pop_ok h r l e p
      | _ => cases hn
  | cons y ys =>
    rw [List.all_cons, Bool.and_eq_true] at hs
    have he : starEach (y :: ys) X.env = (false, eval y X.env) :: starEach ys X.env := star1 hs.1
    have hpl : (backTo cp (starEach ys X.env)).any (·.1) = false := starN hs.2
    have hfew : ∀ k, (y :: ys).length = k → k < 30 → ((backTo cp (starEach (y :: ys) X.env)).all (fun x => !x.1) && (backToKw cp (keywordEach [] X.env)).all (fun x => x.1.isSome)
      && decide ((y :: ys).length + ([] : List Keyword).length + (if ([] : List Keyword).isEmpty then 0 else 1) < 30)) = true := fun k h1 h2 => by
      rw [starA (by rw [List.all_cons, hs.1, hs.2]; rfl)]
      rw [h1]
      show (true && true && decide (k + 0 + 0 < 30)) = true
      simp
      exact h2
    cases m with
    | append => exact c_met PySem.F.plainAttrs_list PySem.F.slot_list_append PySem.F.type_list_append mt_append ho ha (base_ok hr) (hfew _ hn (by decide)) hln he hpl (fun h r e => ty_list (h.k.trans hK.symm) h r e) fun h r l e p => append_ok h r l e p
    | extend => exact c_met PySem.F.plainAttrs_list PySem.F.slot_list_extend PySem.F.type_list_extend mt_extend ho ha (base_ok hr) (hfew _ hn (by decide)) hln he hpl (fun h r e => ty_list (h.k.trans hK.symm) h r e) fun h r l e p => extend_ok h r l e p
    | pop => cases hn
    | clear => cases hn
    | split bx => exact c_met PySem.F.plainAttrs_str PySem.F.slot_str_split PySem.F.type_str_split mt_split ho ha (base_ok hr) (hfew _ hn (by show (1 : Nat) < 30; decide)) hln he hpl (fun h r e => ty_strS r e) fun h r l e p => split_ok h r l e p
    | splitN bx => exact c_met PySem.F.plainAttrs_str PySem.F.slot_str_split PySem.F.type_str_split mt_splitM ho ha (base_ok hr) (hfew _ hn (by show (2 : Nat) < 30; decide)) hln he hpl (fun h r e => ty_strSN r e) fun h r l e p => splitN_ok h r l e p
    | upper => cases hn
    | count => exact c_met (rr := rCountF X.K) PySem.F.plainAttrs_list PySem.F.slot_list_count PySem.F.type_list_count mt_countF ho ha (base_ok hr) (hfew _ hn (by decide)) hln he hpl (fun h r e => ty_list (h.k.trans hK.symm) h r e) fun h r l e p => count_ok (h.k.trans hK.symm) h r l e p
    | popAt => exact c_met PySem.F.plainAttrs_list PySem.F.slot_list_pop PySem.F.type_list_pop mt_popAt ho ha (base_ok hr) (hfew _ hn (by decide)) hln he hpl (fun h r e => ty_list (h.k.trans hK.symm) h r e) fun h r l e p => popAt_ok h r l e p
    | insert => exact c_met (rr := rInsert) PySem.F.plainAttrs_list PySem.F.slot_list_insert PySem.F.type_list_insert mt_insert ho ha (base_ok hr) (hfew _ hn (by decide)) hln he hpl (fun h r e => ty_list (h.k.trans hK.symm) h r e) fun h r l e p => insert_ok h r l e p
    | index => exact c_met (rr := rIndexA X.K) PySem.F.plainAttrs_list PySem.F.slot_list_index PySem.F.type_list_index (mt_indexA hu) ho ha (base_ok hr) (hfew _ hn (by decide)) hln he hpl (fun h r e => ty_list (h.k.trans hK.symm) h r e) fun h r l e p => index_ok (h.k.trans hK.symm) h r l e p
    | join => exact c_met (rr := rJoin X.K) PySem.F.plainAttrs_str PySem.F.slot_str_join PySem.F.type_str_join mt_join ho ha (base_ok hr) (hfew _ hn (by decide)) hln he hpl (fun h r e => ty_str r e) fun h r l e p => join_ok (h.k.trans hK.symm) h r l e p
/-- the find in a dict of the text -/
theorem find_ent : ∀ {es : List DictEntry} {tab : List (List Nat × Int)} (z : List Nat), entR es tab → (match tab.find? fun p => p.1 == z with | some p => ∃ t, ((es.find? fun e => Value.isStrOf ⟨z.toArray⟩ e.key).map (·.val)) = some (.int p.2 t) | none => ((es.find? fun e => Value.isStrOf ⟨z.toArray⟩ e.key).map (·.val)) = none)
  | [], [], z, _ => rfl
  | [], _ :: _, z, h => False.elim h
  | _ :: _, [], z, h => False.elim h
  | e :: es, (x, i) :: tab, z, h => by
    obtain ⟨⟨⟨t, h1⟩, u, h2⟩, h3⟩ := h
    have ih := find_ent z h3
    rw [List.find?_cons, List.find?_cons, h1]
    by_cases q : x = z
    · subst q
      have e1 : Value.isStrOf ⟨x.toArray⟩ (.str ⟨x.toArray⟩ t) = true := by simp [Value.isStrOf]
      simp only [beq_self_eq_true, e1]
      exact ⟨u, by rw [Option.map_some, h2]⟩
    · have e1 : Value.isStrOf ⟨z.toArray⟩ (.str ⟨x.toArray⟩ t) = false := by
        simp only [Value.isStrOf, beq_eq_false_iff_ne, ne_eq, Str.mk.injEq]
        intro w
        exact q (by simpa using congrArg Array.toList w)
      have e2 : (x == z) = false := by simpa using q
      simp only [e1, e2]
      exact ih
noncomputable def tKGet2 (tab : List (List Nat × Int)) (ta tb : TE) : TE := fun σ H Q => ta σ H fun y H2 => tb σ H2 fun z H3 => ∃ zs : List Nat, y = .str ⟨zs.toArray⟩ ∧ Q (match tab.find? fun p => p.1 == zs with | some p => .int p.2 | none => z) H3
theorem pe_kdget2 {X : Cx} {d : Addr} {es : Array DictEntry} {n : Nat} {tab : List (List Nat × Int)} {o a b : Expr} {ta tb : TE} {ap cp : Pos} (D : KDict X.K X.w d es n) (he : entR es.toList tab) (ho : PE X o (tC (.ref d))) (ha : PE X a ta) (hb : PE X b tb)
    (m : M2 X o "get" ap a b cp) : PE X (.Call (.Attribute o "get" ap) [a, b] [] cp) (tKGet2 tab ta tb) := by
  refine ⟨fun pins s σ H Q I h => ?_⟩
  refine wpAny_Call_method m.base m.few m.line PySem.F.plainAttrs_dict PySem.F.slot_dict_get PySem.F.type_dict_get (thn (ho.run pins s σ H (fun x H1 => x = .ref d ∧ H1 = H) I ⟨rfl, rfl⟩) fun u s1 ⟨x, H1, I1, rx, ex, eH⟩ => ?_)
  subst ex eH
  obtain rfl : u = Value.ref d := rx
  have hmap := PySem.W.mapOf_K (prog := X.prog) (w := X.w) I1.kIn D.at_ D.lit
  refine ⟨hmap.typeIs, fun b' q => ?_, ?_⟩
  · cases q
    exact ⟨_, I1.kIn _ _ D.at_, rfl⟩
  rw [m.trees]
  refine Calls.callWith_builtin rfl (Calls.evalArgs_plain (Calls.spliced_cons (thn (ha.run pins s1 σ _ _ I1 h) fun iv s2 ⟨y, H2, I2, ry, q2⟩ =>
    Calls.spliced_cons (thn (hb.run pins s2 σ H2 _ I2 q2) fun fv s3 ⟨z, H3, I3, rz, zs, ez, q3⟩ => Calls.spliced_nil ?_))))
  subst ez
  obtain ⟨t, rfl⟩ := ry
  have hmap3 := PySem.W.mapOf_K (prog := X.prog) (w := X.w) I3.kIn D.at_ D.lit
  refine call_meetsIn PySem.F.slot_dict_get hmap3.typeIs PySem.F.entry_dict_get (PySem.F.args_dict_get_3 _ _ _) (meets_dict_get_default (strKind X.prog X.w) d (PySem.strKind_is X.prog X.w ⟨zs.toArray⟩ t) D.low fv) ⟨_, hmap3, ?_⟩
  have hf := find_ent zs he
  obtain ⟨l⟩ := es
  have e0 : findBy Value.isStrOf ⟨l⟩ ⟨zs.toArray⟩ = ((l.find? fun e => Value.isStrOf ⟨zs.toArray⟩ e.key).map (·.val)) := by
    simp only [findBy, List.find?_toArray]
  cases ht : tab.find? fun p => p.1 == zs with
  | some p =>
    rw [ht] at hf q3
    obtain ⟨t', hf⟩ := hf
    refine ⟨_, H3, I3.tok _, ?_, q3⟩
    rw [e0, hf]
    exact ⟨t', rfl⟩
  | none =>
    rw [ht] at hf q3
    refine ⟨_, H3, I3.tok _, ?_, q3⟩
    rw [e0, hf]
    exact rz
theorem c_dget {X : Cx} {d : Addr} {es : Array DictEntry} {n : Nat} {tab : List (List Nat × Int)} {f : String} {o a b : Expr} {ca cb : E} {ap cp : Pos} (D : KDict X.K X.w d es n) (he : entR es.toList tab) (ho : PE X o (tC (.ref d))) (ha : PE X a (rE G cf ca)) (hb : PE X b (rE G cf cb))
    (m : M2 X o "get" ap a b cp) : PE X (.Call (.Attribute o "get" ap) [a, b] [] cp) (rE G cf (.dget f tab ca cb)) := by
  refine PE.imp (pe_kdget2 D he ho ha hb m) fun σ H Q h => ?_
  obtain ⟨φ, s, r, A, d', s', he', p⟩ := h
  simp only [ev] at he'
  obtain ⟨x, s1, e1, he'⟩ := bnd_inv he'
  obtain ⟨y, s2, e2, he'⟩ := bnd_inv he'
  refine rd_step A e1 fun φ1 H1 v g1 A1 rv => ?_
  refine rd_step A1 e2 fun φ2 H2 w g2 A2 rw' => ?_
  cases x with
  | str z =>
    simp only [dgetD, Option.some.injEq, Prod.mk.injEq, Rs.ok.injEq] at he'
    obtain ⟨hd, hs⟩ := he'
    subst hs
    simp only [Rep] at rv
    refine ⟨z, rv, ?_⟩
    refine p φ2 H2 _ (g1.trans g2) A2.hr ?_
    rw [← hd]
    cases tab.find? fun p => p.1 == z with
    | some q => simp only [Rep]
    | none => exact rw'
  | _ => cases he'
theorem fn_mem {f : String} (h : (sg.fn.any fun p => decide (p.1 = "") && decide (p.2.1 = f)) = true) : ∃ n, ("", f, n) ∈ sg.fn := by
  obtain ⟨⟨c, g, n⟩, h1, h2⟩ := List.any_eq_true.mp h
  simp only [Bool.and_eq_true, decide_eq_true_eq] at h2
  obtain ⟨rfl, rfl⟩ := h2
  exact ⟨n, h1⟩
mutual
theorem sE : ∀ (c : E) (sc : Scope) (X : Cx) (e : Expr), Ok sg G cf N sc X → mE sg N sc c e = true → SE G cf X c e
  | .var i, sc, X, e, ok, h => by
    simp only [mE] at h
    split at h
    · rename_i x p
      simp only [Bool.and_eq_true, decide_eq_true_eq] at h
      obtain ⟨n1, n2, n3⟩ := nodb_of h.2
      exact SE.gen ok.k (c_var (by rw [ok.n]; exact h.1.1) (by rw [ok.sc]; exact vis_of h.1.2) n1 n2) fun _ => rfl
    · cases h
  | .non, sc, X, e, ok, h => by
    simp only [mE] at h
    cases h
  | .bl b, sc, X, e, ok, h => by
    simp only [mE] at h
    split at h
    · rw [decide_eq_true_eq] at h
      subst h
      exact SE.gen ok.k (c_const (v := .bl b) (d := .bl b) pe_bl (fun _ _ => by simp only [ev]) fun _ _ _ => by simp only [Rep]) fun _ => rfl
    · cases h
  | .int i, sc, X, e, ok, h => by
    simp only [mE] at h
    split at h
    · rw [decide_eq_true_eq] at h
      subst h
      exact SE.gen ok.k (c_const (v := .int i) (d := .int i) pe_int (fun _ _ => by simp only [ev]) fun _ _ _ => by simp only [Rep]) fun _ => rfl
    · cases h
  | .str x, sc, X, e, ok, h => by
    simp only [mE] at h
    split at h
    · rw [decide_eq_true_eq] at h
      subst h
      exact SE.gen ok.k (c_const (v := .str _) (d := .str x) pe_str (fun _ _ => by simp only [ev]) fun _ _ _ => by simp only [Rep]) fun _ => rfl
    · cases h
  | .gs f v, sc, X, e, ok, h => by
    simp only [mE] at h
    split at h
    · simp only [Bool.and_eq_true, decide_eq_true_eq] at h
      obtain ⟨⟨⟨h1, h2⟩, h3⟩, h4⟩ := h
      obtain ⟨n1, n2, n3⟩ := nodb_of h3
      obtain ⟨t, ht⟩ := ok.gs f v h4
      subst h1
      exact SE.gen ok.k (c_const (v := .str ⟨v.toArray⟩) (d := .str v) (pe_glob (glb_of ok h2) ht ⟨t, rfl⟩ n1) (fun _ _ => by simp only [ev]) fun _ _ _ => by simp only [Rep]) fun _ => rfl
    · cases h
  | .gi _ _, sc, X, e, ok, h => by
    simp only [mE] at h
    cases h
  | .bin o a b, sc, X, e, ok, h => by
    simp only [mE] at h
    split at h
    · simp only [Bool.and_eq_true] at h
      obtain ⟨⟨h1, h2⟩, h3⟩ := h
      have := opB_of h1
      subst this
      exact SE.gen ok.k (c_bin (sE a sc X _ ok h2).1 (sE b sc X _ ok h3).1) fun _ => rfl
    · cases h
  | .neg a, sc, X, e, ok, h => by
    simp only [mE] at h
    split at h
    · exact SE.gen ok.k (c_neg (sE a sc X _ ok h).1) fun _ => rfl
    · cases h
  | .not a, sc, X, e, ok, h => by
    simp only [mE] at h
    split at h
    · simp only [Bool.and_eq_true] at h
      have ih := sE a sc X _ ok h.1
      exact ⟨c_not ok.k ih.1, fun _ => t_not (ih.2 h.2)⟩
    · cases h
  | .and es, sc, X, e, ok, h => by
    simp only [mE] at h
    split at h
    · simp only [Bool.and_eq_true] at h
      have ih := sL es sc X _ ok h.1
      have e1 : ev cf (.and es) = evAnd cf es := by funext r s; simp only [ev]
      refine ⟨?_, fun _ => ?_⟩
      · rw [rE, rd_congr e1]
        exact ih.an _ (by simp)
      · have e2 : tst cf (.and es) = tstL (evAnd cf es) := by funext r s; unfold tst tstL; simp only [ev]
        rw [rT, rd_congr e2]
        exact (ih.wa _ (by simp) h.2).pt
    · cases h
  | .or es, sc, X, e, ok, h => by
    simp only [mE] at h
    split at h
    · simp only [Bool.and_eq_true] at h
      have ih := sL es sc X _ ok h.1
      have e1 : ev cf (.or es) = evOr cf es := by funext r s; simp only [ev]
      refine ⟨?_, fun _ => ?_⟩
      · rw [rE, rd_congr e1]
        exact ih.orr _ (by simp)
      · have e2 : tst cf (.or es) = tstL (evOr cf es) := by funext r s; unfold tst tstL; simp only [ev]
        rw [rT, rd_congr e2]
        exact (ih.wo _ (by simp) h.2).pt
    · cases h
  | .dnn, sc, X, e, ok, h => by
    simp only [mE] at h
    cases h
  | .inn2 _ _, sc, X, e, ok, h => by
    simp only [mE] at h
    cases h
  | .cmp o a b, sc, X, e, ok, h => by
    simp only [mE] at h
    split at h
    · simp only [Bool.and_eq_true] at h
      obtain ⟨⟨⟨h1, h2⟩, h3⟩, h4⟩ := h
      have := opC_of h1
      subst this
      have ia := (sE a sc X _ ok h3).1
      have ib := (sE b sc X _ ok h4).1
      exact ⟨c_cmp ok.k ok.units ia ib (bh_no h2), fun _ => t_cmp ok.k ok.units ia ib (bh_no h2)⟩
    · cases h
  | .chn o o' a b c, sc, X, e, ok, h => by
    simp only [mE] at h
    split at h
    · simp only [Bool.and_eq_true] at h
      obtain ⟨⟨⟨⟨⟨⟨h1, h2⟩, h3⟩, h4⟩, h5⟩, h6⟩, h7⟩ := h
      have := opC_of h1
      subst this
      have := opC_of h2
      subst this
      have ia := (sE a sc X _ ok h5).1
      have ib := (sE b sc X _ ok h6).1
      have ic := (sE c sc X _ ok h7).1
      exact ⟨c_chn ok.k ok.units ia ib ic (last_no h4), fun _ => t_chn ok.k ok.units ia ib ic (last_no h4)⟩
    · cases h
  | .ite c a b, sc, X, e, ok, h => by
    simp only [mE] at h
    split at h
    · simp only [Bool.and_eq_true] at h
      obtain ⟨⟨⟨h1, h2⟩, h3⟩, h4⟩ := h
      exact ⟨c_ite ((sE c sc X _ ok h1).2 h2) (sE a sc X _ ok h3).1 (sE b sc X _ ok h4).1, fun z => by cases z⟩
    · cases h
  | .tup es, sc, X, e, ok, h => by
    simp only [mE] at h
    split at h
    · exact SE.gen ok.k (c_tup (sL es sc X _ ok h).pa) fun _ => rfl
    · cases h
  | .lst bx es, sc, X, e, ok, h => by
    simp only [mE] at h
    split at h
    · exact SE.gen ok.k (c_lst (sL es sc X _ ok h).pa) fun _ => rfl
    · cases h
  | .cat bx a b, sc, X, e, ok, h => by
    simp only [mE] at h
    split at h
    · simp only [Bool.and_eq_true] at h
      exact SE.gen ok.k (c_cat ok.k (sE a sc X _ ok h.1).1 (sE b sc X _ ok h.2).1) fun _ => rfl
    · cases h
  | .idx a b, sc, X, e, ok, h => by
    simp only [mE] at h
    split at h
    · simp only [Bool.and_eq_true] at h
      exact SE.gen ok.k (c_idx ok.k ok.units (sE a sc X _ ok h.1.2).1 (sE b sc X _ ok h.2).1 (plain_ix h.1.1)) fun _ => rfl
    · cases h
  | .sl bx a lo hi, sc, X, e, ok, h => by
    simp only [mE] at h
    split at h
    · simp only [Bool.and_eq_true] at h
      exact SE.gen ok.k (c_sl ok.k (sE a sc X _ ok h.1.1).1 (sO lo sc X _ ok h.1.2) (sO hi sc X _ ok h.2)) fun _ => rfl
    · cases h
  | .call f es, sc, X, e, ok, h => by
    simp only [mE] at h
    split at h
    · rename_i x p xs pos
      simp only [Bool.and_eq_true, decide_eq_true_eq] at h
      obtain ⟨⟨⟨⟨h1, h2⟩, h3⟩, h4⟩, h5⟩ := h
      obtain ⟨n1, n2, n3⟩ := nodb_of h3
      obtain ⟨n, hn⟩ := fn_mem h4
      have F := ok.fn f n hn
      subst h1
      have hs := mEs_star h5
      have il := sL es sc X _ ok h5
      cases xs with
      | nil =>
        have := (mEs_nil h5).mpr rfl
        subst this
        exact SE.gen ok.k (c_call0 F (glb_of ok h2) n1) fun _ => rfl
      | cons y ys =>
        rw [List.all_cons, Bool.and_eq_true] at hs
        exact SE.gen ok.k (c_call F (glb_of ok h2) il.pa n1 (star1 hs.1) (starN hs.2)) fun _ => rfl
    · cases h
  | .lrng bx c, sc, X, e, ok, h => by
    simp only [mE] at h
    split at h
    · simp only [Bool.and_eq_true, decide_eq_true_eq] at h
      obtain ⟨⟨⟨⟨⟨h1, h2⟩, h3⟩, h4⟩, h5⟩, h6⟩ := h
      subst h1
      subst h3
      exact SE.gen ok.k (c_lrng ok.calm (glb_of ok h2) (ok.bl _ (by decide)) (glb_of ok h4) (ok.bl _ (by decide)) (sE c sc X _ ok h5).1 (star1 h6)) fun _ => rfl
    · cases h
  | .bi b es, sc, X, e, ok, h => by
    simp only [mE] at h
    split at h
    · simp only [Bool.and_eq_true, decide_eq_true_eq] at h
      obtain ⟨⟨h1, h2⟩, h3⟩ := h
      exact SE.gen ok.k (bi_case ok h1 h2 h3 (sL es sc X _ ok h3).pa) fun _ => rfl
    · cases h
  | .isi a t, sc, X, e, ok, h => by
    simp only [mE] at h
    split at h
    · simp only [Bool.and_eq_true, decide_eq_true_eq] at h
      obtain ⟨⟨⟨⟨⟨h1, h2⟩, h3⟩, h4⟩, h5⟩, h6⟩ := h
      subst h1
      subst h3
      exact SE.gen ok.k (c_isi (hK := ok.k) (p2 := ⟨0, 0, 0, 0⟩) (y := "") (glb_of ok h2) (ok.bl _ (by decide)) (sE a sc X _ ok h5).1 (pe_bltn (glb_of ok h4) (ok.bl _ (tyS_bn t)) (boot_tyS t) rfl (tyS_nm t).1 (tyS_nm t).2) (star1 h6) rfl rfl) fun _ => rfl
    · cases h
  | .met m o es, sc, X, e, ok, h => by
    simp only [mE] at h
    split at h
    · simp only [Bool.and_eq_true, decide_eq_true_eq] at h
      obtain ⟨⟨⟨⟨⟨h1, h2⟩, h3⟩, h4⟩, h5⟩, h6⟩ := h
      exact SE.gen ok.k (met_case (sc := sc) ok.k ok.units h1 h2 h3 h4 (sE o sc X _ ok h5).1 h6 (sL es sc X _ ok h6).pa) fun _ => rfl
    · cases h
  | .dget f tab k d, sc, X, e, ok, h => by
    simp only [mE] at h
    split at h
    · rename_i x q m ap a b cp
      simp only [Bool.and_eq_true, decide_eq_true_eq] at h
      obtain ⟨⟨⟨⟨⟨⟨⟨⟨⟨⟨h1, h2⟩, h3⟩, h4⟩, h5⟩, h6⟩, h7⟩, h8⟩, h9⟩, h10⟩, h11⟩ := h
      obtain ⟨n1, n2, n3⟩ := nodb_of h3
      obtain ⟨da, es, n, hm, D, hE⟩ := ok.ds f tab h4
      subst h1 h5
      have hs : [a, b].all notStar = true := by rw [List.all_cons, List.all_cons, h7, h8]; rfl
      refine SE.gen ok.k (c_dget D hE (pe_glob (glb_of ok h2) hm rfl n1) (sE k sc X _ ok h10).1 (sE d sc X _ ok h11).1 ⟨base_ok h9, ?_, by rw [h6]; exact beq_self_eq_true _, ?_⟩) fun _ => rfl
      · rw [starA hs]
        rfl
      · rw [star1 h7, star1 h8]
        rfl
    · cases h
  | .fld _ _, sc, X, e, ok, h => by
    simp only [mE] at h
    cases h
  | .own _ _ _, sc, X, e, ok, h => by
    simp only [mE] at h
    cases h
  | .mak _ _, sc, X, e, ok, h => by
    simp only [mE] at h
    cases h
  | .dsp _ _, sc, X, e, ok, h => by
    simp only [mE] at h
    cases h
  | .rpt bx a b, sc, X, e, ok, h => by
    simp only [mE] at h
    split at h
    · simp only [Bool.and_eq_true] at h
      exact SE.gen ok.k (c_rpt (sE a sc X _ ok h.1).1 (sE b sc X _ ok h.2).1) fun _ => rfl
    · cases h
  | .rev bx a, sc, X, e, ok, h => by
    simp only [mE] at h
    split at h
    · exact SE.gen ok.k (c_rev ok.k (sE a sc X _ ok h).1) fun _ => rfl
    · cases h
  | .dnt, sc, X, e, ok, h => by
    simp only [mE] at h
    cases h
  | .lenm bx c, sc, X, e, ok, h => by
    simp only [mE] at h
    split at h
    · simp only [Bool.and_eq_true, decide_eq_true_eq] at h
      obtain ⟨⟨⟨⟨⟨h1, h2⟩, h3⟩, h4⟩, h5⟩, h6⟩ := h
      subst h1
      subst h3
      exact SE.gen ok.k (c_lenm ok.k ok.calm (glb_of ok h2) (ok.bl _ (by decide)) (glb_of ok h4) (ok.bl _ (by decide)) (sE c sc X _ ok h5).1 (star1 h6)) fun _ => rfl
    · cases h
  | .dst _ _, sc, X, e, ok, h => by
    simp only [mE] at h
    cases h
  | .denm _, sc, X, e, ok, h => by
    simp only [mE] at h
    cases h
  | .fst _, sc, X, e, ok, h => by
    simp only [mE] at h
    cases h
  | .rpl _ _ _ _, sc, X, e, ok, h => by
    simp only [mE] at h
    cases h
  | .nint _ _ _, sc, X, e, ok, h => by
    simp only [mE] at h
    cases h
  | .irp _ _ _ _, sc, X, e, ok, h => by
    simp only [mE] at h
    cases h
  | .lzip _ _ _, sc, X, e, ok, h => by
    simp only [mE] at h
    cases h
  | .sdf _ _ _, sc, X, e, ok, h => by
    simp only [mE] at h
    cases h
  | .ltx _, sc, X, e, ok, h => by
    simp only [mE] at h
    cases h
  | .sset bx c, sc, X, e, ok, h => by
    simp only [mE] at h
    split at h
    · simp only [Bool.and_eq_true, decide_eq_true_eq] at h
      obtain ⟨⟨⟨⟨⟨⟨h1, h2⟩, h3⟩, h4⟩, h5⟩, h6⟩, h7⟩ := h
      subst h1
      subst h3
      exact SE.gen ok.k (c_sset ok.k ok.calm (glb_of ok h2) (ok.bl _ (by decide)) (glb_of ok h4) (ok.bl _ (by decide)) (sE c sc X _ ok h5).1 (star1 h6) (star1 h7)) fun _ => rfl
    · cases h
  | .rps _ _, sc, X, e, ok, h => by
    simp only [mE] at h
    cases h
  | .dsi _ _, sc, X, e, ok, h => by
    simp only [mE] at h
    cases h
  | .dgv _ _ _, sc, X, e, ok, h => by
    simp only [mE] at h
    cases h
  | .rpr _, sc, X, e, ok, h => by
    simp only [mE] at h
    cases h
  | .dsv _ _, sc, X, e, ok, h => by
    simp only [mE] at h
    cases h
  | .lset _, sc, X, e, ok, h => by
    simp only [mE] at h
    cases h
  | .isit _ _, sc, X, e, ok, h => by
    simp only [mE] at h
    cases h
  | .isx _ _, sc, X, e, ok, h => by
    simp only [mE] at h
    cases h
  | .isxt _ _, sc, X, e, ok, h => by
    simp only [mE] at h
    cases h
  | .lc bx c tg it cnd, sc, X, e, ok, h => by
    simp only [mE] at h
    split at h
    · rename_i elt t iter ifs scope pos
      simp only [Bool.and_eq_true] at h
      obtain ⟨⟨⟨⟨h1, h2⟩, h3⟩, h4⟩, h5⟩ := h
      split at h1
      · rename_i own hown
        simp only [Bool.and_eq_true, decide_eq_true_eq] at h1
        have hb : BlkOk X.N X.env.scope scope own := by
          rw [ok.n, ok.sc]
          exact blkOk_by h1.1
        have hp := pe_lc (X := X) (pos := pos) ok.calm (by rw [ok.n]; exact ok.nd) (sI it sc X t iter ok h3) hb (fun s H C cl fp => pg_blk ok hown s H C cl fp) (fun s H C cl fp => sC cnd (relS scope sc) _ ifs (ok.blk s H scope C cl fp) h4)
          (fun s H C cl fp => (sE c (relS scope sc) _ elt (ok.blk s H scope C cl fp) h5).1) (set_no h2)
        rw [h1.2] at hp
        exact SE.gen ok.k (PE.imp hp c_lcR) fun _ => rfl
      · cases h1
    · cases h
  | .frz a, sc, X, e, ok, h => by
    simp only [mE] at h
    exact ⟨c_frz (sE a sc X _ ok h).1, fun z => by cases z⟩
theorem sL : ∀ (c : Es) (sc : Scope) (X : Cx) (es : List Expr), Ok sg G cf N sc X → mEs sg N sc c es = true → SL G cf X c es
  | .nil, sc, X, [], ok, h => ⟨c_nil, fun _ z => absurd rfl z, fun _ z => absurd rfl z, fun _ z => absurd rfl z, fun _ z => absurd rfl z, fun pos ks keys hm hl => by
      have : keys = [] := List.length_eq_zero_iff.mp hl
      subst this
      cases ks with
      | nil => exact pps_nil
      | cons k ks => cases hm⟩
  | .nil, sc, X, _ :: _, ok, h => by simp only [mEs] at h; cases h
  | .cons c r, sc, X, [], ok, h => by simp only [mEs] at h; cases h
  | .cons c r, sc, X, x :: xs, ok, h => by
    simp only [mEs, Bool.and_eq_true] at h
    exact SL.cons (sE c sc X x ok h.1.2) (sL r sc X xs ok h.2) h.1.1 (mEs_nil h.2)
theorem sF : ∀ (c : Es) (sc : Scope) (X : Cx) (es : List Expr), Ok sg G cf N sc X → mFs sg N sc c es = true → PJ X es (esT G cf c)
  | .nil, sc, X, [], ok, h => .nil
  | .nil, sc, X, _ :: _, ok, h => by simp only [mFs] at h; cases h
  | .cons c r, sc, X, [], ok, h => by simp only [mFs] at h; cases h
  | .cons c r, sc, X, v :: vs, ok, h => by
    simp only [mFs, Bool.and_eq_true] at h
    obtain ⟨h1, h2⟩ := h
    have ih := sF r sc X vs ok h2
    have hc := fun w => sE c sc X w ok
    cases c with
    | str x =>
      simp only [strOf] at h1
      split at h1
      · rename_i y j p
        rw [decide_eq_true_eq] at h1
        subst h1
        exact .cons (c_const (v := .str _) (d := .str x) pe_str (fun _ _ => by simp only [ev]) fun _ _ _ => by simp only [Rep]) ih
      · cases h1
    | _ =>
      simp only [strOf] at h1
      split at h1
      · rename_i w k p
        simp only [Bool.and_eq_true, decide_eq_true_eq] at h1
        obtain ⟨h3, h4⟩ := h1
        subst h3
        exact .cons (pe_fmt (hc w h4).1) ih
      · cases h1
theorem sO : ∀ (c : Oe) (sc : Scope) (X : Cx) (o : Option Expr), Ok sg G cf N sc X → mO sg N sc c o = true → PO X o (rO G cf c)
  | .no, sc, X, none, ok, h => c_no
  | .no, sc, X, some _, ok, h => by simp only [mO] at h; cases h
  | .so c, sc, X, none, ok, h => by simp only [mO] at h; cases h
  | .so c, sc, X, some e, ok, h => by
    simp only [mO] at h
    exact c_so (sE c sc X e ok h).1
theorem sC : ∀ (c : Oe) (sc : Scope) (X : Cx) (ifs : List Expr), Ok sg G cf N sc X → mC sg N sc c ifs = true → PTs X ifs (rC G cf c)
  | .no, sc, X, [], ok, h => pts_no
  | .no, sc, X, _ :: _, ok, h => by simp only [mC] at h; cases h
  | .so c, sc, X, [], ok, h => by simp only [mC] at h; cases h
  | .so c, sc, X, _ :: _ :: _, ok, h => by simp only [mC] at h; cases h
  | .so c, sc, X, [e], ok, h => by
    simp only [mC, Bool.and_eq_true] at h
    exact pts_so ((sE c sc X e ok h.1).2 h.2)
theorem sI : ∀ (c : It) (sc : Scope) (X : Cx) (t e : Expr), Ok sg G cf N sc X → mI sg N sc c t e = true → PI X t e (rI G cf c)
  | .seq c, sc, X, t, e, ok, h => by
    simp only [mI] at h
    exact i_seq ok.k (sE c sc X e ok h).1
  | .any c, sc, X, t, e, ok, h => by
    simp only [mI] at h
    exact i_any ok.k (sE c sc X e ok h).1
  | .tup c, sc, X, t, e, ok, h => by
    simp only [mI] at h
    exact i_tup (sE c sc X e ok h).1
  | .str c, sc, X, t, e, ok, h => by
    simp only [mI] at h
    exact i_str (sE c sc X e ok h).1
  | .rng c, sc, X, t, e, ok, h => by
    simp only [mI] at h
    split at h
    · simp only [Bool.and_eq_true, decide_eq_true_eq] at h
      obtain ⟨⟨⟨h1, h2⟩, h3⟩, h4⟩ := h
      subst h1
      exact i_rng (glb_of ok h2) (ok.bl _ (by decide)) (sE c sc X _ ok h3).1 (star1 h4)
    · cases h
  | .rng2 a b, sc, X, t, e, ok, h => by
    simp only [mI] at h
    split at h
    · simp only [Bool.and_eq_true, decide_eq_true_eq] at h
      obtain ⟨⟨⟨⟨⟨h1, h2⟩, h3⟩, h4⟩, h5⟩, h6⟩ := h
      subst h1
      exact i_rng2 (glb_of ok h2) (ok.bl _ (by decide)) (sE a sc X _ ok h3).1 (sE b sc X _ ok h5).1 (by rw [star1 h4, star1 h6]; rfl) (star1 h6)
    · cases h
  | .enm _, sc, X, t, e, ok, h => by
    simp only [mI] at h
    cases h
  | .ens c, sc, X, t, e, ok, h => by
    simp only [mI] at h
    split at h
    · simp only [Bool.and_eq_true, decide_eq_true_eq] at h
      obtain ⟨⟨⟨h1, h2⟩, h3⟩, h4⟩ := h
      subst h1
      exact i_ens (glb_of ok h2) (ok.bl _ (by decide)) (sE c sc X _ ok h3).1 (star1 h4)
    · cases h
  | .zip a b, sc, X, t, e, ok, h => by
    simp only [mI] at h
    split at h
    · simp only [Bool.and_eq_true, decide_eq_true_eq] at h
      obtain ⟨⟨⟨⟨⟨h1, h2⟩, h3⟩, h4⟩, h5⟩, h6⟩ := h
      subst h1
      exact i_zip ok.k (glb_of ok h2) (ok.bl _ (by decide)) (sE a sc X _ ok h3).1 (sE b sc X _ ok h5).1 (star1 h4) (star1 h6) (by rw [star1 h6]; rfl)
    · cases h
  | .zips _ _, sc, X, t, e, ok, h => by
    simp only [mI] at h
    cases h
end
end
end Fl
namespace Fl
open PySem L2
section
variable {sg : Sig} {G : Glob} {cf : CF} {N : List Str} {sc : Scope} {X : Cx}
end
end Fl
namespace Fl
open PySem L2 PySem.Spec PyProof.Rows
section
variable {X : Cx}
end
section
variable {G : Glob} {W : WZ} {X : Cx} {cf : CF} {pos : Pos}
end
end Fl
namespace Fl
open PySem L2
section
variable {G : Glob} {W : WZ} {X : Cx} {cf : CF} {pos : Pos}
end
end Fl
namespace Fl
open PySem L2
section
variable {G : Glob} {W : WZ} {X : Cx} {cf : CF} {pos : Pos}
end
end Fl
namespace Fl
open PySem L2
noncomputable def mTg (N : List Str) (sc : Scope) : Tg → Expr → Bool
  | .nm i, .Name x _ => decide (N[i]? = some x) && locB sc x
  | .tp is, .Tuple es _ _ => go is es
  | .nt i is, .Tuple [.Name x _, .Tuple es _ _] _ _ => decide (N[i]? = some x) && locB sc x && go is es
  | _, _ => false
where go : List Nat → List Expr → Bool
  | [], [] => true
  | i :: is, .Name x _ :: es => decide (N[i]? = some x) && locB sc x && go is es
  | _, _ => false
/-- name = [.. for ..]: stored within the comprehension, or behind it -/
noncomputable def swB (sc : Scope) (x : Str) (py : Pos) : Expr → Option Bool
  | .ListComp _ _ scope pos => if isLc sc x then (if (py.line == pos.line) && !(scope.names.any fun p => p.1 == x && (p.2 == .local || p.2 == .cell)) then some true else none) else if isCl sc x then some false else none
  | _ => none
noncomputable def kindF (sc : Scope) : Bool := match sc.kind with
  | .function => true
  | _ => false
/-- a written text that stands alone -/
noncomputable def docB (c : C) (s : Stmt) : Bool := match c, s with
  | .exp (.str _), .Expr (.Constant (.str _) _ _) _ => true
  | _, _ => false
/-- x = o.replace(..) behind it -/
noncomputable def mR (sg : Sig) (N : List Str) (sc : Scope) (c : C) (s : Stmt) : Bool := match c, s with
  | .rpd i o y z, .Assign [.Name x _] (.Call (.Attribute q m ap) [.Constant (.str y') _ _, .Constant (.str z') _ _] [] cp) _ => decide (N[i]? = some x) && locB sc x && mE sg N sc o q && decide (m = Str.ofString "replace") && recvOk q && decide (ap.endLine = cp.line) && decide ((⟨y.toArray⟩ : Str) = y') && decide ((⟨z.toArray⟩ : Str) = z') && !(y' == z')
  | _, _ => false
mutual
noncomputable def mS (sg : Sig) (N : List Str) (sc : Scope) : C → Stmt → Bool
  | .asg i c, st => match st with
    | .Assign [.Name x py] e _ => decide (N[i]? = some x) && locB sc x && mE sg N sc c e && (notComp e || (kindF sc && match c, swB sc x py e with
      | .lc _ _ _ _ _, some true => true
      | _, some false => true
      | _, _ => false))
    | _ => false
  | .tpa is c, st => match st with
    | .Assign [.Tuple es _ _] e _ => mTg.go N sc is es && notComp e && notTup e && mE sg N sc c e
    | _ => false
  | .tpl _ _, _ => false
  | .par _ _ _ _, _ => false
  | .par3 _ _ _ _ _ _, _ => false
  | .augi _ _ _ _, _ => false
  | .aug i o c, st => match st with
    | .AugAssign (.Name x _) p e _ => opB o p && augOk o && decide (N[i]? = some x) && locB sc x && mE sg N sc c e
    | _ => false
  | .seti o i c, st => match st with
    | .Assign [.Subscript p q _] e _ => notSlice q && mE sg N sc o p && mE sg N sc i q && mE sg N sc c e
    | _ => false
  | .setf _ _ _, _ => false
  | .augf _ _ _ _, _ => false
  | .exp c, st => match st with
    | .Expr e _ => notComp e && mE sg N sc c e
    | _ => false
  | .ret c, st => match st with
    | .Return (some e) _ => mE sg N sc c e
    | _ => false
  | .retn, _ => false
  | .ite c a b, st => match st with
    | .If t x y _ => mE sg N sc c t && tOk c && mSt sg N sc false a x && mSt sg N sc false b y
    | _ => false
  | .for tg it b, st => match st with
    | .For t iter body [] _ => mTg N sc tg t && notSet iter && mI sg N sc it t iter && mSt sg N sc false b body
    | _ => false
  | .whl c b, st => match st with
    | .While t body [] _ => mE sg N sc c t && tOk c && mSt sg N sc false b body
    | _ => false
  | .brk, st => match st with
    | .Break _ => true
    | _ => false
  | .cnt, _ => false
  | .pas, _ => false
  | .rse _, _ => true
  | .rz _, _ => false
  | .xexp _, _ => false
  | .xasg _ _, _ => false
  | .xret _, _ => false
  | .xsetf _ _ _, _ => false
  | .tryc _ _ _ _, _ => false
  | .tryk _ _ _, _ => false
  | .tryh _ _ _ _, _ => false
  | .setn _ _, _ => false
  | .tryn _ _, _ => false
  | .try2 _ _ _ _ _ _, _ => false
  | .rpd _ _ _ _, _ => false
  | .ford _ _ _, _ => false
noncomputable def mSt (sg : Sig) (N : List Str) (sc : Scope) : Bool → Cs → List Stmt → Bool
  | _, .nil, [] => true
  | t, .cons c r, s :: ss => (mS sg N sc c s || (t && mR sg N sc c s)) && mSt sg N sc (docB c s) r ss
  | _, _, _ => false
end
noncomputable abbrev mSs (sg : Sig) (N : List Str) (sc : Scope) (c : Cs) (ss : List Stmt) : Bool := mSt sg N sc false c ss
structure OkS (sg : Sig) (G : Glob) (cf : CF) (N : List Str) (sc : Scope) (W : WZ) (X : Cx) : Prop where
  ok : Ok sg G cf N sc X
  hp : PassesOwn (model X.prog X.w) X.A X.env X.xe
  f1 : ∀ x, X.fn x = true
  tk : Takes X (wz G W)
  hs : X.stack = X.env :: X.outer
  hf : X.env.frame = some X.env.locals
  hex : X.ex = []
  fx : ∀ f n, ("", f, n) ∈ sg.fn → FnAtX G X (Str.ofString f) (cf "" f) n
  mx : ∀ c m, c ≠ "" → ∀ ds s q, cf c m ds s = some q → ∃ C n, G.cls c = some C ∧ Cls X.K C ∧ MtAtX G X C (Str.ofString m) (cf c m) n
section
variable {sg : Sig} {G : Glob} {cf : CF} {N : List Str} {sc : Scope} {W : WZ} {X : Cx}
theorem sw_subs {e o i : Expr} {p : Pos} {l : Nat} {env : Env} : swapsWithSole [.Subscript o i p] e l env = pure false := by
  show swapsWith e (some (.Subscript o i p)) l env = pure false
  cases e <;> rfl
theorem sw_sole {t e : Expr} {l : Nat} {env : Env} (h : notComp e = true) : swapsWithSole [t] e l env = pure false := by
  show swapsWith e (some t) l env = pure false
  exact sw_no h
theorem tg_go (ok : OkS sg G cf N sc W X) : ∀ {is : List Nat} {es : List Expr}, mTg.go N sc is es = true → PGs X es (gsOf is) ∧ es.length = is.length ∧ ∀ e ∈ es, ∃ x p, e = Expr.Name x p
  | [], [], _ => ⟨pgs_nil, rfl, fun _ h => by cases h⟩
  | [], _ :: _, h => by cases h
  | i :: is, [], h => by cases h
  | i :: is, e :: es, h => by
    unfold mTg.go at h
    split at h
    · cases ‹_ :: _ = []›
    · rename_i i' is' x p es' h1 h2
      cases h1
      cases h2
      simp only [Bool.and_eq_true, decide_eq_true_eq] at h
      obtain ⟨h1, h2, h3⟩ := tg_go ok h.2
      refine ⟨pgs_cons (pg_name (by rw [ok.ok.n]; exact ok.ok.nd) (by rw [ok.ok.n]; exact h.1.1) (by rw [ok.ok.sc]; exact loc_of h.1.2) (.inl (ok.f1 x))) h1 rfl, by simp [h2], fun e he => ?_⟩
      rcases List.mem_cons.mp he with z | z
      · exact ⟨_, _, z⟩
      · exact h3 e z
    · cases h
theorem pg_tt (ok : OkS sg G cf N sc W X) {is : List Nat} {es : List Expr} {k : Nat} {p : Pos} (h : mTg.go N sc is es = true) : PG X (.Tuple es k p) (gTup X.K is.length (gsOf is)) := by
  obtain ⟨h1, h2, h3⟩ := tg_go ok h
  obtain ⟨a1, a2⟩ := assign_names (env := X.env) h3
  exact pg_tup ok.ok.calm h1 (by rw [a1, h2]) a2
theorem pg_tl (ok : OkS sg G cf N sc W X) {is : List Nat} {es : List Expr} {k : Nat} {p : Pos} (h : mTg.go N sc is es = true) : PG X (.Tuple es k p) (gLst X.K is.length (gsOf is)) := by
  obtain ⟨h1, h2, h3⟩ := tg_go ok h
  obtain ⟨a1, a2⟩ := assign_names (env := X.env) h3
  exact pg_lst ok.ok.calm h1 (by rw [a1, h2]) a2
theorem pg_tp (ok : OkS sg G cf N sc W X) {is : List Nat} {es : List Expr} {k : Nat} {p : Pos} (h : mTg.go N sc is es = true) : PG X (.Tuple es k p) (gOf X.K (.tp is)) := pg_ei (pg_tt ok h) (pg_tl ok h)
theorem pg_tg (ok : OkS sg G cf N sc W X) {tg : Tg} {t : Expr} (h : mTg N sc tg t = true) : PG X t (gOf X.K tg) := by
  cases tg with
  | nm i =>
    cases t with
    | Name x p =>
      have h' : (decide (N[i]? = some x) && locB sc x) = true := h
      simp only [Bool.and_eq_true, decide_eq_true_eq] at h'
      exact pg_name (by rw [ok.ok.n]; exact ok.ok.nd) (by rw [ok.ok.n]; exact h'.1) (by rw [ok.ok.sc]; exact loc_of h'.2) (.inl (ok.f1 x))
    | _ => cases h
  | tp is =>
    cases t with
    | Tuple es k p => exact pg_tp ok h
    | _ => cases h
  | nt i is =>
    unfold mTg at h
    split at h
    · rename_i h2; cases h2
    · rename_i h2; cases h2
    · rename_i i' is' x px es k2 p2 k p h1
      cases h1
      simp only [Bool.and_eq_true, decide_eq_true_eq] at h
      have hn : PG X (.Name x px) (gName i) := pg_name (by rw [ok.ok.n]; exact ok.ok.nd) (by rw [ok.ok.n]; exact h.1.1) (by rw [ok.ok.sc]; exact loc_of h.1.2) (.inl (ok.f1 x))
      exact pg_tup ok.ok.calm (pgs_cons hn (pgs_cons (pg_tt ok h.2) pgs_nil rfl) rfl) rfl rfl
    · cases h
theorem sw_false {x : Str} {py : Pos} {l : Nat} {e : Expr} (h : swB sc x py e = some false) (hs : X.env.scope = sc) : swapsWith e (some (.Name x py)) l X.env = pure false := by
  cases e with
  | ListComp elt gs scope pos =>
    have h' : (if isLc sc x = true then (if ((py.line == pos.line) && !(scope.names.any fun p => p.1 == x && (p.2 == .local || p.2 == .cell))) = true then some true else none) else if isCl sc x = true then some false else none) = some false := h
    by_cases h1 : isLc sc x = true
    · rw [if_pos h1] at h'
      split at h' <;> cases h'
    · rw [if_neg h1] at h'
      by_cases hc : isCl sc x = true
      · have ky : X.env.kindOf x = some .cell := by
          show X.env.scope.names.lookup x = some .cell
          rw [hs]
          exact isCl_of hc
        unfold swapsWith
        simp only [ky]
        have e1 : (some NameKind.cell == some NameKind.local) = false := rfl
        rw [e1, Bool.and_false, Bool.false_and, Bool.false_and]
      · rw [if_neg hc] at h'
        cases h'
  | _ => cases h
mutual
theorem sS : ∀ (c : C) (W : WZ) (X : Cx) (st : Stmt), OkS sg G cf N sc W X → mS sg N sc c st = true → PS X st (rS G W cf c)
  | .asg i c, W, X, st, ok, h => by
    simp only [mS] at h
    split at h
    · rename_i x py e pos
      simp only [Bool.and_eq_true, decide_eq_true_eq, Bool.or_eq_true] at h
      obtain ⟨⟨⟨h1, h2⟩, h3⟩, h4⟩ := h
      have hN : X.N.Nodup := by rw [ok.ok.n]; exact ok.ok.nd
      have hi : X.N[i]? = some x := by rw [ok.ok.n]; exact h1
      have hx : Loc X.env.scope x := by rw [ok.ok.sc]; exact loc_of h2
      have ie := (sE c sc X e ok.ok h3).1
      rcases h4 with h4 | ⟨h5, h4⟩
      · exact x_asg hN hi hx ie (sw_no h4) (.inl (ok.f1 x))
      · split at h4
        · rename_i bx ce tg it cnd hw
          simp only [mE] at h3
          split at h3
          · rename_i elt t iter ifs scope pos'
            simp only [Bool.and_eq_true] at h3
            obtain ⟨⟨⟨⟨k1, k2⟩, k3⟩, k4⟩, k5⟩ := h3
            split at k1
            · rename_i own hown
              simp only [Bool.and_eq_true, decide_eq_true_eq] at k1
              have hb : BlkOk X.N X.env.scope scope own := by
                rw [ok.ok.n, ok.ok.sc]
                exact blkOk_by k1.1
              have hw' : (if isLc sc x = true then (if ((py.line == pos'.line) && !(scope.names.any fun p => p.1 == x && (p.2 == .local || p.2 == .cell))) = true then some true else none) else if isCl sc x = true then some false else none) = some true := hw
              by_cases hlc : isLc sc x = true
              · rw [if_pos hlc] at hw'
                by_cases hcond : ((py.line == pos'.line) && !(scope.names.any fun p => p.1 == x && (p.2 == .local || p.2 == .cell))) = true
                · rw [Bool.and_eq_true, Bool.not_eq_true'] at hcond
                  have hlx : X.env.scope.names.lookup x = some .local := by rw [ok.ok.sc]; exact isLc_of hlc
                  have hkf : X.env.scope.kind = .function := by
                    rw [ok.ok.sc]
                    unfold kindF at h5
                    split at h5
                    · assumption
                    · cases h5
                  have hp := ps_setLc (X := X) (i := i) (y := x) (py := py) (pos := pos') (spos := pos) ok.ok.calm hN hi hlx (sw_true hkf hlx hcond.1 hcond.2) (sI it sc X t iter ok.ok k3) hb (fun s H C cl fp => pg_blk ok.ok hown s H C cl fp)
                    (fun s H C cl fp => sC cnd (relS scope sc) _ ifs (ok.ok.blk s H scope C cl fp) k4) (fun s H C cl fp => (sE ce (relS scope sc) _ elt (ok.ok.blk s H scope C cl fp) k5).1) (set_no k2)
                  rw [k1.2] at hp
                  refine PS.imp hp fun Dn σ H q => ?_
                  have q1 : tAsg (rE G cf (.lc bx ce tg it cnd)) (gName i) Dn σ H := asgR Dn σ H q
                  exact c_lcR σ H _ q1
                · rw [if_neg hcond] at hw'
                  cases hw'
              · rw [if_neg hlc] at hw'
                split at hw' <;> cases hw'
            · cases k1
          · cases h3
        · rename_i hw
          exact x_asg hN hi hx ie (sw_false hw ok.ok.sc) (.inl (ok.f1 x))
        · cases h4
    · cases h
  | .tpa is c, W, X, st, ok, h => by
    simp only [mS] at h
    split at h
    · rename_i es k p e pos
      simp only [Bool.and_eq_true] at h
      obtain ⟨⟨⟨h1, h2⟩, h3⟩, h4⟩ := h
      refine x_tpa (sE c sc X e ok.ok h4).1 (pg_tp ok h1) (sw_sole h2) ?_ rfl
      cases e <;> first | rfl | cases h3
    · cases h
  | .tpl _ _, W, X, st, ok, h => by
    simp only [mS] at h
    cases h
  | .par _ _ _ _, W, X, st, ok, h => by
    simp only [mS] at h
    cases h
  | .par3 _ _ _ _ _ _, W, X, st, ok, h => by
    simp only [mS] at h
    cases h
  | .augi _ _ _ _, W, X, st, ok, h => by
    simp only [mS] at h
    cases h
  | .aug i o c, W, X, st, ok, h => by
    simp only [mS] at h
    split at h
    · rename_i x p' p e pos
      simp only [Bool.and_eq_true, decide_eq_true_eq] at h
      obtain ⟨⟨⟨⟨h1, h2⟩, h3⟩, h4⟩, h5⟩ := h
      have := opB_of h1
      subst this
      exact x_aug h2 (by rw [ok.ok.n]; exact ok.ok.nd) (by rw [ok.ok.n]; exact h3) (by rw [ok.ok.sc]; exact loc_of h4) (sE c sc X e ok.ok h5).1 (.inl (ok.f1 x))
    · cases h
  | .seti o i c, W, X, st, ok, h => by
    simp only [mS] at h
    split at h
    · rename_i p q p' e pos
      simp only [Bool.and_eq_true] at h
      obtain ⟨⟨⟨h1, h3⟩, h4⟩, h5⟩ := h
      exact x_seti ok.ok.units (sE o sc X p ok.ok h3).1 (sE i sc X q ok.ok h4).1 (sE c sc X e ok.ok h5).1 sw_subs rfl rfl (fun v => by cases q <;> first | rfl | cases h1)
    · cases h
  | .setf _ _ _, W, X, st, ok, h => by
    simp only [mS] at h
    cases h
  | .augf _ _ _ _, W, X, st, ok, h => by
    simp only [mS] at h
    cases h
  | .exp c, W, X, st, ok, h => by
    simp only [mS] at h
    split at h
    · simp only [Bool.and_eq_true] at h
      exact x_exp (sE c sc X _ ok.ok h.2).1 (sw_no h.1)
    · cases h
  | .ret c, W, X, st, ok, h => by
    simp only [mS] at h
    split at h
    · exact x_ret (sE c sc X _ ok.ok h).1
    · cases h
  | .retn, W, X, st, ok, h => by
    simp only [mS] at h
    cases h
  | .ite c a b, W, X, st, ok, h => by
    simp only [mS] at h
    split at h
    · simp only [Bool.and_eq_true] at h
      obtain ⟨⟨⟨h1, h2⟩, h3⟩, h4⟩ := h
      exact x_ite ((sE c sc X _ ok.ok h1).2 h2) ((sSt a false W X _ ok h3).1 rfl) ((sSt b false W X _ ok h4).1 rfl)
    · cases h
  | .for tg it b, W, X, st, ok, h => by
    simp only [mS] at h
    split at h
    · simp only [Bool.and_eq_true] at h
      obtain ⟨⟨⟨h1, h2⟩, h3⟩, h4⟩ := h
      exact x_for ok.hp ok.ok.calm (sI it sc X _ _ ok.ok h3) (pg_tg ok h1) ((sSt b false W X _ ok h4).1 rfl) (set_no h2)
    · cases h
  | .setn _ _, W, X, st, ok, h => by
    simp only [mS] at h
    cases h
  | .tryn _ _, W, X, st, ok, h => by
    simp only [mS] at h
    cases h
  | .try2 _ _ _ _ _ _, W, X, st, ok, h => by
    simp only [mS] at h
    cases h
  | .rpd _ _ _ _, W, X, st, ok, h => by simp only [mS] at h; cases h
  | .ford _ _ _, W, X, st, ok, h => by
    simp only [mS] at h
    cases h
  | .whl c b, W, X, st, ok, h => by
    simp only [mS] at h
    split at h
    · simp only [Bool.and_eq_true] at h
      obtain ⟨⟨h1, h2⟩, h3⟩ := h
      exact x_whl ok.hp ((sE c sc X _ ok.ok h1).2 h2) ((sSt b false W X _ ok h3).1 rfl)
    · cases h
  | .brk, W, X, st, ok, h => by
    simp only [mS] at h
    split at h
    · exact x_brk
    · cases h
  | .cnt, W, X, st, ok, h => by
    simp only [mS] at h
    cases h
  | .pas, W, X, st, ok, h => by
    simp only [mS] at h
    cases h
  | .rse _, W, X, st, ok, h => x_rse
  | .rz _, W, X, st, ok, h => by
    simp only [mS] at h
    cases h
  | .xexp _, W, X, st, ok, h => by
    simp only [mS] at h
    cases h
  | .xasg _ _, W, X, st, ok, h => by
    simp only [mS] at h
    cases h
  | .xret _, W, X, st, ok, h => by
    simp only [mS] at h
    cases h
  | .xsetf _ _ _, W, X, st, ok, h => by
    simp only [mS] at h
    cases h
  | .tryc _ _ _ _, W, X, st, ok, h => by
    simp only [mS] at h
    cases h
  | .tryk _ _ _, W, X, st, ok, h => by
    simp only [mS] at h
    cases h
  | .tryh _ _ _ _, W, X, st, ok, h => by
    simp only [mS] at h
    cases h
theorem sSt : ∀ (c : Cs) (t : Bool) (W : WZ) (X : Cx) (ss : List Stmt), OkS sg G cf N sc W X → mSt sg N sc t c ss = true → (t = false → PSs X ss (rSs G W cf c)) ∧ (t = true → PSsT X ss (rSs G W cf c))
  | .nil, t, W, X, [], ok, h => ⟨fun _ => x_nil, fun _ => PSsT.of x_nil⟩
  | .nil, t, W, X, _ :: _, ok, h => by simp only [mSt] at h; cases h
  | .cons c r, t, W, X, [], ok, h => by simp only [mSt] at h; cases h
  | .cons c r, t, W, X, s :: ss, ok, h => by
    simp only [mSt, Bool.and_eq_true, Bool.or_eq_true] at h
    obtain ⟨h, hr⟩ := h
    have ih := sSt r (docB c s) W X ss ok hr
    have A : mS sg N sc c s = true → PSs X (s :: ss) (rSs G W cf (.cons c r)) := fun h1 => by
      cases hd : docB c s with
      | false => exact x_cons (sS c W X s ok h1) (ih.1 hd)
      | true =>
        have i2 := ih.2 hd
        unfold docB at hd
        split at hd
        · exact x_doc i2
        · cases hd
    rcases h with h | h
    · exact ⟨fun _ => A h, fun _ => PSsT.of (A h)⟩
    · obtain ⟨rfl, h⟩ := h
      refine ⟨fun z => (by cases z), fun _ => ?_⟩
      unfold mR at h
      split at h
      · rename_i i o y z x px q m ap y' j c0 z' k c1 cp pos
        simp only [Bool.and_eq_true, decide_eq_true_eq, Bool.not_eq_true'] at h
        obtain ⟨⟨⟨⟨⟨⟨⟨⟨h1, h2⟩, h3⟩, h4⟩, h5⟩, h6⟩, h7⟩, h8⟩, h9⟩ := h
        subst h4
        subst h7
        subst h8
        exact x_rpd (by rw [ok.ok.n]; exact ok.ok.nd) (by rw [ok.ok.n]; exact h1) (by rw [ok.ok.sc]; exact loc_of h2) (.inl (ok.f1 _)) (sE o sc X q ok.ok h3).1 h9 (base_ok h5) (by rw [h6]; exact beq_self_eq_true _) (ih.1 rfl)
      · cases h
end
end
theorem start_sr {φ : Mp} {s : S} {H : Hp} {ds : List D} {vs : List V} {N : List Str} {np : Nat} (r : RepL φ s H ds vs) (hn : ds.length = np) (hl : np ≤ N.length) : SR φ s H (ds.map some ++ List.replicate (N.length - np) none) (L2.start N vs) := by
  have hv := r.length
  refine ⟨?_, fun i d e => ?_⟩
  · unfold L2.start
    rw [List.length_append, List.length_append, List.length_map, List.length_map, List.length_replicate, List.length_replicate]
    omega
  · by_cases hi : i < ds.length
    · rw [List.getElem?_append_left (by simpa using hi), List.getElem?_map] at e
      cases hd : ds[i]? with
      | none =>
        rw [hd] at e
        cases e
      | some x =>
        rw [hd] at e
        cases e
        obtain ⟨v, h1, h2⟩ := r.get hd
        refine ⟨v, ?_, h2⟩
        unfold L2.start
        rw [List.getElem?_append_left (by rw [List.length_map]; omega), List.getElem?_map, h1]
        rfl
    · rw [List.getElem?_append_right (by simpa using hi), List.getElem?_replicate] at e
      split at e <;> cases e
theorem callF_len {Pg : Prg} {k : Nat} {c f : String} {F : Fn} (h : Pg c f = some F) {ds : List D} {s : S} {q : Rs D × S} (e : callF Pg k c f ds s = some q) : ds.length = F.np := by
  cases k with
  | zero => cases e
  | succ k =>
    simp only [callF, h] at e
    unfold fnRun at e
    split at e
    · assumption
    · cases e
noncomputable def qual (c f : String) : String := if c = "" then f else c ++ "." ++ f
/-- where a def or a method stands -/
noncomputable def AtF (K : PySem.W.Frag) (mg : Str → Option Value) (cls : String → Option Addr) (c f : String) (a : Addr) : Prop :=
  (c = "" ∧ mg (Str.ofString f) = some (.ref a)) ∨ (c ≠ "" ∧ ∃ C, cls c = some C ∧ Cls K C ∧ Meth K C (Str.ofString f) a)
/-- a def of the text and its core -/
noncomputable def noCell (sc : Scope) : Bool := sc.names.all fun y => match y.2 with
  | .cell => false
  | _ => true
/-- a def's body: behind its parameters a token is out -/
noncomputable def mSd (sg : Sig) (N : List Str) (np : Nat) (sc : Scope) (c : Cs) (ss : List Stmt) : Bool := mSs sg N sc c ss || (decide (1 ≤ np) && noCell sc && mSt sg N sc true c ss)
theorem noCell_of {sc : Scope} (h : noCell sc = true) : ∀ y ∈ sc.names, y.2 ≠ .cell := fun y hy z => by
  have := List.all_eq_true.mp h y hy
  rw [z] at this
  cases this
structure FT (sg : Sig) (Pg : Prg) (K : PySem.W.Frag) (mg : Str → Option Value) (cls : String → Option Addr) (c f : String) (np : Nat) : Prop where
  ex : ∃ (a : Addr) (fd : FuncData) (ps N : List Str) (st : Stmt) (F : Fn), AtF K mg cls c f a ∧ (∃ nm ql : Str, Fun K nm ql st a fd) ∧ Binds K fd ps [] ∧ FnScope N ps (defScope st) ∧
    ps.length = np ∧ Pg c f = some F ∧ F.np = np ∧ F.ns = N.length ∧ np ≤ N.length ∧ mSd sg N np (defScope st) F.body (defBody st) = true
/-- what the head must show of the text -/
structure TF (sg : Sig) (Pg : Prg) (w : World) (K : PySem.W.Frag) (mg : Str → Option Value) (cls : String → Option Addr) (fa : Addr) : Prop where
  fn : ∀ c f n, (c, f, n) ∈ sg.fn → FT sg Pg K mg cls c f n
  gs : ∀ f v, (f, v) ∈ sg.gs → ∃ t, mg (Str.ofString f) = some (.str ⟨v.toArray⟩ t)
  gi : ∀ f v, (f, v) ∈ sg.gi → ∃ t, mg (Str.ofString f) = some (.int v t)
  gt : ∀ f ts, (f, ts) ∈ sg.gt → TxAt K mg f ts
  bl : ∀ x ∈ bnames, mg (Str.ofString x) = none
  ds : ∀ f t, (f, t) ∈ sg.ds → DsAt K w mg f t
  pg : ∀ c m F, Pg c m = some F → (c, m, F.np) ∈ sg.fn
  cl : ∀ c C, cls c = some C → Cls K C ∧ ∀ f ∈ sg.fl, NoAttr K C (Str.ofString f)
  mkk : ∀ c ∈ sg.cl, ∃ C n, cls c = some C ∧ mg (Str.ofString c) = some (.ref C) ∧ PySem.W.makesIn K C = true ∧ PySem.W.keepIn K (.ref C) = true ∧ c ≠ "" ∧ (c, "__init__", n) ∈ sg.fn
  xf : XFacts sg.ec sg.et K mg
  law : ∃ (fd : FuncData) (N : List Str) (st : Stmt) (F : Fn), Fun K "law" "law" st fa fd ∧ FnScope N ["script"] (defScope st) ∧ Pg "" "law" = some F ∧ F.np = 1 ∧ F.ns = N.length ∧ 1 ≤ N.length ∧ mSd sg N 1 (defScope st) F.body (defBody st) = true ∧
    ∀ u : Value, bindArgs fd ⟨[u], []⟩ = pure [(("script" : Str), u)]
section
variable {P : Program} {w : World} {K : PySem.W.Frag} {mg : Str → Option Value} {base : Heap} {sg : Sig} {Pg : Prg} {cls : String → Option Addr} {fa : Addr}
theorem fn_ok {nm ql : Str} {c f : String} {np k : Nat} {a : Addr} {fd : FuncData} {ps N : List Str} {st : Stmt} {F : Fn} (T : TF sg Pg w K mg cls fa)
    (hF : Fun K nm ql st a fd) (S : FnScope N ps (defScope st)) (hps : ps.length = np) (hPg : Pg c f = some F) (hnp : F.np = np) (hns : F.ns = N.length) (hle : np ≤ N.length) (hm : mSd sg N np (defScope st) F.body (defBody st) = true)
    (ih : ∀ c g n, (c, g, n) ∈ sg.fn → ∃ (a : Addr) (fd : FuncData) (ps : List Str), AtF K mg cls c g a ∧ PySem.W.keepIn K (.ref a) = true ∧ Binds K fd ps [] ∧ ps.length = n ∧ FnG P w K mg base (L2.CX P w) (2 * k) a fd ps (spX ⟨K, cls, sg.ec, w⟩ (callF Pg k c g) n)) :
    FnG P w K mg base (L2.CX P w) (2 * (k + 1)) a fd ps (spX ⟨K, cls, sg.ec, w⟩ (callF Pg (k + 1) c f) np) := by
  have hlen : ∀ c g n, (c, g, n) ∈ sg.fn → ∀ ds s q, callF Pg k c g ds s = some q → ds.length = n := fun c g n hg ds s q e => by
    obtain ⟨_, _, _, _, _, F', _, _, _, _, _, e1, e2, _⟩ := (T.fn c g n hg).ex
    rw [← e2]
    exact callF_len e1 e
  have main : ∀ (cdv : Value) (A : Around) (outer : List Env) (s : Shared) (H : Hp) (vs : List V) (Q : VK) (E : XK), RmG (2 * k + 1) (A.deeper (PyProof.Rows.envOfC ql (defScope st) s.heap.objs.size a cdv)) → (spX ⟨K, cls, sg.ec, w⟩ (callF Pg (k + 1) c f) np) vs H Q E →
      ∃ t, (∀ b, mSt sg N (defScope st) b F.body (defBody st) = true → (b = false → PSs (cxOf (L2.CX P w) P w K mg base N ql (defScope st) a cdv A outer s H E) (defBody st) t) ∧ (b = true → PSsT (cxOf (L2.CX P w) P w K mg base N ql (defScope st) a cdv A outer s H E) (defBody st) t)) ∧ t { nx := fun _ H' => Q .non H', rt := Q } (start N vs) H := fun cdv A outer s H vs Q E hr h => by
    have hr0 : RmG (2 * k) _ := hr.mono (Nat.le_succ _)
    have fx : ∀ g n, ("", g, n) ∈ sg.fn → FnAtX ⟨K, cls, sg.ec, w⟩ (cxOf (L2.CX P w) P w K mg base N ql (defScope st) a cdv A outer s H E) (Str.ofString g) (callF Pg k "" g) n := fun g n hgn => by
      obtain ⟨a, fd, ps, h1, h2, h3, h4, h5⟩ := ih "" g n hgn
      rcases h1 with ⟨_, h1⟩ | ⟨h1, _⟩
      · exact ⟨⟨a, fd, ps, 2 * k, h1, h2, h3, hr0, h4, h5⟩, hlen "" g n hgn⟩
      · exact absurd rfl h1
    have mx : ∀ c m, c ≠ "" → ∀ ds s1 q, callF Pg k c m ds s1 = some q → ∃ C n, cls c = some C ∧ Cls K C ∧ MtAtX ⟨K, cls, sg.ec, w⟩ (cxOf (L2.CX P w) P w K mg base N ql (defScope st) a cdv A outer s H E) C (Str.ofString m) (callF Pg k c m) n := fun c m hc ds s1 q e => by
      have hF' : ∃ F', Pg c m = some F' := by
        cases hk : Pg c m with
        | some F' => exact ⟨F', rfl⟩
        | none =>
          cases k with
          | zero => cases e
          | succ k =>
            simp only [callF, hk] at e
            cases e
      obtain ⟨F', hF'⟩ := hF'
      have hg := T.pg c m F' hF'
      obtain ⟨a, fd, ps, h1, h2, h3, h4, h5⟩ := ih c m _ hg
      rcases h1 with ⟨h1, _⟩ | ⟨_, C, k1, k2, k3⟩
      · exact absurd h1 hc
      · exact ⟨C, _, k1, k2, ⟨a, fd, ps, 2 * k, k3, h3, hr0, h4, h5⟩, hlen c m _ hg⟩
    refine ⟨rSs ⟨K, cls, sg.ec, w⟩ (fun c _ H' => ∀ C, c ∈ sg.ec → eclK K c = some C → E (.ref C) none H') (callF Pg k) F.body, fun b hb => sSt (sg := sg) (N := N) (sc := defScope st) F.body b _ _ (defBody st) ⟨⟨rfl, S.nd, rfl, rfl, rfl, hr.un, hr.gd, T.gs, T.gi, T.bl, T.ds, fun g n hgn => (fx g n hgn).plain, fun c m hc ds s q e => ?_, T.cl, fun c hc => ?_, rfl, T.xf, rfl, T.gt⟩, passes_of rfl, fun _ => rfl, (takes_of rfl rfl rfl rfl).imp fun cls' d σ' H' hw => ?_, rfl, rfl, rfl, fx, mx⟩ hb, ?_⟩
    · obtain ⟨C, n, k1, k2, k3⟩ := mx c m hc ds s q e
      exact ⟨C, n, k1, k2, k3.plain⟩
    · obtain ⟨C, n, k1, k2, k3, k4, k5, k6⟩ := T.mkk c hc
      obtain ⟨a, fd, ps, h1, h2, h3, h4, h5⟩ := ih c "__init__" n k6
      rcases h1 with ⟨h1, _⟩ | ⟨_, C', j1, j2, j3⟩
      · exact absurd h1 k5
      · rw [k1] at j1
        cases j1
        exact ⟨C, n, k1, ⟨a, fd, ps, 2 * k, ⟨k3, j3.at_, j3.fn, k4⟩, k2, h3, hr, h4, toCX0 h5⟩, fun ds s d s' e => hlen c "__init__" n k6 ds s _ e⟩
    · obtain ⟨c, C, h1, h2, rfl, rfl, h3⟩ := hw
      exact h3 C h1 h2
    · obtain ⟨hl, φ, s0, ds, hH, rl, h⟩ := h
      have hlen := rl.length
      have run : ∀ q, callF Pg (k + 1) c f ds s0 = some q → ∃ fl r' s1, exs (callF Pg k) F.body (ds.map some ++ List.replicate (N.length - np) none) s0 = some (.ok (fl, r'), s1) ∧ (match fl with
          | .rt d => some (Rs.ok d, s1)
          | .nx => some (Rs.ok .non, s1)
          | .rz c => some (Rs.er c, s1)
          | _ => none) = some q := fun q e => by
        simp only [callF, hPg] at e
        unfold fnRun at e
        rw [if_pos (by rw [hnp]; omega)] at e
        obtain ⟨⟨fl, r'⟩, s1, e1, e⟩ := bnn_inv e
        rw [hns, hnp] at e1
        refine ⟨fl, r', s1, e1, ?_⟩
        cases fl <;> exact e
      rcases h with ⟨d, s', e, p⟩ | ⟨cn, s', e, p⟩
      · obtain ⟨fl, r', s1, e1, e⟩ := run _ e
        refine ⟨φ, s0, _, ⟨hH, start_sr rl (by omega) hle⟩, fl, r', s1, e1, fun φ' H' σ' g hr' sr' => ?_⟩
        cases fl with
        | nx =>
          cases e
          exact p φ' H' _ g hr' (by simp only [Rep])
        | rt v =>
          cases e
          exact fun u ru => p φ' H' u g hr' ru
        | bk => cases e
        | ct => cases e
        | rz c => cases e
      · obtain ⟨fl, r', s1, e1, e⟩ := run _ e
        refine ⟨φ, s0, _, ⟨hH, start_sr rl (by omega) hle⟩, fl, r', s1, e1, fun φ' H' σ' g hr' sr' => ?_⟩
        cases fl with
        | nx => cases e
        | rt v => cases e
        | bk => cases e
        | ct => cases e
        | rz c =>
          cases e
          exact fun C hc hC => p φ' H' C g hr' hc hC
  have ln : ∀ (vs : List V) (H : Hp) (Q : VK) (E : XK), (spX ⟨K, cls, sg.ec, w⟩ (callF Pg (k + 1) c f) np) vs H Q E → vs.length = ps.length := fun vs H Q E h => by rw [hps]; exact h.1
  rcases (Bool.or_eq_true _ _).mp hm with hm | hm
  · exact fn_g hF S (k := 2 * k + 1) ln fun cdv A outer s H vs Q E hr h => by
      obtain ⟨t, h1, h2⟩ := main cdv A outer s H vs Q E hr h
      exact ⟨t, (h1 false hm).1 rfl, h2⟩
  · simp only [Bool.and_eq_true, decide_eq_true_eq] at hm
    obtain ⟨⟨hm1, hm2⟩, hm3⟩ := hm
    exact fn_gT hF S (k := 2 * k + 1) (noCell_of hm2) (by omega) ln fun cdv A outer s H vs Q E hr h => by
      obtain ⟨t, h1, h2⟩ := main cdv A outer s H vs Q E hr h
      exact ⟨t, (h1 true hm3).2 rfl, h2⟩
theorem all_ok (T : TF sg Pg w K mg cls fa) :
    ∀ (k : Nat) (c f : String) (n : Nat), (c, f, n) ∈ sg.fn → ∃ (a : Addr) (fd : FuncData) (ps : List Str), AtF K mg cls c f a ∧ PySem.W.keepIn K (.ref a) = true ∧ Binds K fd ps [] ∧ ps.length = n ∧ FnG P w K mg base (L2.CX P w) (2 * k) a fd ps (spX ⟨K, cls, sg.ec, w⟩ (callF Pg k c f) n)
  | 0, c, f, n, h => by
    obtain ⟨a, fd, ps, N, st, F, h1, ⟨nm, ql, h2⟩, h3, h4, h5, h6, h7, h8, h9, h10⟩ := (T.fn c f n h).ex
    refine ⟨a, fd, ps, h1, h2.kp, h3, h5, fun vs H Q E q => by rw [h5]; exact q.1, fun A outer s H args us vs Q E _ _ _ _ q => ?_⟩
    obtain ⟨_, _, _, _, _, _, ⟨_, _, e, _⟩ | ⟨_, _, e, _⟩⟩ := q
    · cases e
    · cases e
  | k + 1, c, f, n, h => by
    obtain ⟨a, fd, ps, N, st, F, h1, ⟨nm, ql, h2⟩, h3, h4, h5, h6, h7, h8, h9, h10⟩ := (T.fn c f n h).ex
    exact ⟨a, fd, ps, h1, h2.kp, h3, h5, fn_ok T h2 h4 h5 h6 h7 h8 h9 h10 fun c g m hg => all_ok T k c g m hg⟩
/-- the law's promise -/
noncomputable def spL (K : PySem.W.Frag) : Sp := fun vs H Q _ => ∃ (a : Addr) (ns : List Int), vs = [.ref a] ∧ ns.length ≤ 63 ∧ SqL K H a (ns.map V.int) ∧ ∀ H', Q (.bl true) H'
/-- at the law's entry -/
theorem sp_law {f : List D → S → R D} (hf : ∀ ns : List Int, ns.length ≤ 63 → ∃ s', f [.scr (ns.map D.int)] ⟨fun _ => none, 0⟩ = some (.ok (.bl true), s')) {vs : List V} {H : Hp} {Q : VK} {E : XK} (h : spL K vs H Q E) : spF ⟨K, cls, sg.ec, w⟩ f 1 vs H Q E := by
  obtain ⟨a, ns, rfl, hn, hS, q⟩ := h
  obtain ⟨s', hf⟩ := hf ns hn
  refine ⟨rfl, ⟨fun _ => none, fun _ => False, K⟩, ⟨fun _ => none, 0⟩, [.scr (ns.map D.int)], ⟨fun n o e => (by cases e), fun n m a e => (by cases e), fun n a e => (by cases e), fun a e => False.elim e, fun n a e => (by cases e), rfl⟩, ?_, .bl true, s', hf, fun φ' H' v g h r => ?_⟩
  · refine RepL.one ?_
    simp only [Rep]
    refine ⟨a, ns.map V.int, rfl, ?_, ?_⟩
    · rcases hS with hS | hS
      · exact .inl ⟨hS, fun z => False.elim z, fun n e => (by cases e)⟩
      · exact .inr hS
    · have go : ∀ l : List Int, RepL ⟨fun _ => none, fun _ => False, K⟩ ⟨fun _ => none, 0⟩ H (l.map D.int) (l.map V.int) := fun l => by
        induction l with
        | nil => exact RepL.nil
        | cons n l ih =>
          rw [List.map_cons, List.map_cons]
          simp only [RepL]
          exact ⟨_, _, rfl, by simp only [Rep], ih⟩
      exact go ns
  · simp only [Rep] at r
    subst r
    exact q H'
/-- THE END -/
theorem walk_law {l : PySem.W.OpenLaw} {q : Program} {loose : List Str} {XP : (Str → Option Value) → Heap → Prop} {YP : World → Heap → Prop} {d : DefRec} {K : Params → PySem.W.Frag} (sg : Sig) (Pg : Prg) (k : Nat) (hk : k < 30) (hn : l.most = some 63) (hdf : d.params.defaults = [])
    (hY : ∀ (w : World) (h : Heap), YP w h → (K w.params).In h)
    (T : ∀ (w : World) (mg : Str → Option Value) (fa : Addr) (h : Heap), (K w.params).In h → h.Ns mainGlobals mg → mg d.name = some (.ref fa) → ∃ cls, TF sg Pg w (K w.params) mg cls fa)
    (hlaw : ∀ ns : List Int, ns.length ≤ 63 → ∃ s', callF Pg (k + 1) "" "law" [.scr (ns.map D.int)] ⟨fun _ => none, 0⟩ = some (.ok (.bl true), s')) :
    PySem.W.WalkO q loose XP YP l.row.toRowW d [] (fun f vs => PySem.call f vs) := by
  refine walk_g (n := 63) (k := 2 * (k + 1)) (x := "script") (CX := CX0) (sp := spL) hn (by decide) hdf ⟨⟨rfl, ?_, ?_⟩, rfl, ?_⟩ hY (fun w mg fa h KX G hmg => ?_) (fun w H a ns hl hS => ⟨a, ns, rfl, hl, hS, fun _ => rfl⟩) fun _ _ _ _ z => z
  · have e : callerA.depth + 300 < recursionLimit := by decide
    omega
  · have e : callerA.units + 1500 < cLine := by decide
    omega
  · have e : callerA.units + 6000 < cLine := by decide
    omega
  · obtain ⟨cls, TT⟩ := T w mg fa h KX G hmg
    obtain ⟨fd, N, st, F, h1, h2, h3, h4, h5, h6, h7, h8⟩ := TT.law
    refine ⟨fd, fun s u => .of_eq (h8 u), fun base => ?_⟩
    exact (toCX0 (fn_ok (c := "") (f := "law") TT h1 h2 rfl h3 h4 h5 h6 h7 fun c g n hg => all_ok TT k c g n hg)).imp fun vs H Q E z => sp_law hlaw z
end
/-- a def that the head has found -/
structure Fx (K : PySem.W.Frag) (f g : Str) (st : Stmt) (a : Addr) : Prop where
  ex : ∃ (oc : Value) (od an : Option Addr) (sl : Array (Option Value)) (kV dc pm cd ct : Value), PySem.W.nsIn K mainGlobals f = some (some (.ref a)) ∧ K.lookup a = some ⟨oc, od, .func (PySem.W.fnOf g g (defArgs st) (defBody st) (defScope st) .none kV dc pm an cd ct), sl⟩ ∧ PySem.W.codeIn K cd g = true ∧ PySem.W.keepIn K (.ref a) = true
theorem fx_mk {K : PySem.W.Frag} {f g : Str} {st : Stmt} {a : Addr} {oc : Value} {od an : Option Addr} {sl : Array (Option Value)} {kV dc pm cd ct : Value} (h1 : PySem.W.nsIn K mainGlobals f = some (some (.ref a))) (h2 : K.lookup a = some ⟨oc, od, .func (PySem.W.fnOf g g (defArgs st) (defBody st) (defScope st) .none kV dc pm an cd ct), sl⟩)
    (h3 : PySem.W.codeIn K cd g = true) (h4 : PySem.W.keepIn K (.ref a) = true) : Fx K f g st a := ⟨⟨oc, od, an, sl, kV, dc, pm, cd, ct, h1, h2, h3, h4⟩⟩
theorem fx_k {K : PySem.W.Frag} {h : Heap} {f g : Str} {st : Stmt} {a : Addr} {oc : Value} {od an : Option Addr} {sl : Array (Option Value)} {kV dc pm cd ct : Value} {Goal : Prop} (_ : K.In h) (h1 : PySem.W.nsIn K mainGlobals f = some (some (.ref a))) (h2 : K.lookup a = some ⟨oc, od, .func (PySem.W.fnOf g g (defArgs st) (defBody st) (defScope st) .none kV dc pm an cd ct), sl⟩)
    (h3 : PySem.W.codeIn K cd g = true) (h4 : PySem.W.keepIn K (.ref a) = true) (k : ∀ a, Fx K f g st a → Goal) : Goal := k a (fx_mk h1 h2 h3 h4)
theorem gs_k {K : PySem.W.Frag} {h : Heap} {f v : Str} {t : Tok} {Goal : Prop} (_ : K.In h) (h1 : PySem.W.nsIn K mainGlobals f = some (some (.str v t))) (k : ∀ t, PySem.W.nsIn K mainGlobals f = some (some (.str v t)) → Goal) : Goal := k t h1
/-- a tuple of texts of the text that the head has found -/
structure Gx (K : PySem.W.Frag) (f : Str) (ts : List (List Nat)) (q : Addr) : Prop where
  ex : ∃ (ob : Obj) (its : Array Value) (n : Nat), PySem.W.nsIn K mainGlobals f = some (some (.ref q)) ∧ K.lookup q = some ob ∧ ob.cls = .type "tuple" ∧ ob.data = .seq its n ∧ its.size ≤ sizeLine ∧ Vals (ts.map fun z => V.str ⟨z.toArray⟩) its.toList
/-- a dict of the text that the head has found -/
structure Dx (K : PySem.W.Frag) (w : World) (f : Str) (t : List (List Nat × Int)) (a : Addr) : Prop where
  ex : ∃ (es : Array DictEntry) (n : Nat), PySem.W.nsIn K mainGlobals f = some (some (.ref a)) ∧ KDict K w a es n ∧ entR es.toList t
theorem ds_k {K : PySem.W.Frag} {h : Heap} {w : World} {f : Str} {a : Addr} {es : List DictEntry} {n : Nat} {t : List (List Nat × Int)} {Goal : Prop} (_ : K.In h) (h1 : PySem.W.nsIn K mainGlobals f = some (some (.ref a))) (h2 : K.lookup a = some ⟨.type "dict", none, .dict es.toArray n, #[]⟩)
    (h3 : PySem.W.KeysLit w.params es) (h4 : (a == sysModules) = false) (h5 : entR es t) (k : ∀ a, Dx K w f t a → Goal) : Goal := k a ⟨⟨es.toArray, n, h1, ⟨h2, by rw [List.toList_toArray]; exact h3, h4⟩, by rw [List.toList_toArray]; exact h5⟩⟩
/-- a class that the head has found -/
structure Cx1 (K : PySem.W.Frag) (c : Str) (C : Addr) : Prop where
  at_ : PySem.W.nsIn K mainGlobals c = some (some (.ref C))
  cl : Cls K C
  mks : PySem.W.makesIn K C = true
  kp : PySem.W.keepIn K (.ref C) = true
/-- a method that the head has found -/
structure Mx (K : PySem.W.Frag) (C : Addr) (f q : Str) (st : Stmt) (a : Addr) : Prop where
  ex : ∃ (oc : Value) (od an : Option Addr) (sl : Array (Option Value)) (kV dc pm cd ct : Value), Meth K C f a ∧ K.lookup a = some ⟨oc, od, .func (PySem.W.fnOf f q (defArgs st) (defBody st) (defScope st) .none kV dc pm an cd ct), sl⟩ ∧ PySem.W.codeIn K cd q = true
theorem look_mem {α β : Type} [BEq α] [LawfulBEq α] {a : α} {b : β} : ∀ {l : List (α × β)}, l.lookup a = some b → (a, b) ∈ l
  | [], h => by cases h
  | (x, y) :: l, h => by
    rw [List.lookup_cons] at h
    cases hb : (a == x) with
    | true =>
      rw [hb] at h
      cases h
      have := beq_iff_eq.mp hb
      subst this
      exact List.mem_cons_self
    | false =>
      rw [hb] at h
      exact List.mem_cons_of_mem _ (look_mem h)
theorem pg_of {tbl : List ((String × String) × Fn)} {fn : List (String × String × Nat)} (h : (tbl.all fun p => fn.contains (p.1.1, p.1.2, p.2.np)) = true) : ∀ c m F, tbl.lookup (c, m) = some F → (c, m, F.np) ∈ fn := fun c m F e => by
  have := List.all_eq_true.mp h _ (look_mem e)
  exact List.contains_iff_mem.mp this
structure Ex1 (K : PySem.W.Frag) (c : Str) (C : Addr) : Prop where
  at_ : PySem.W.nsIn K mainGlobals c = some (some (.ref C))
  ex : PySem.W.excIn K C HandSPX.veTail "ValueError.__new__" = true
  kp : PySem.W.keepIn K (.ref C) = true
  sb : PySem.W.subIn K (.ref C) (.type "BaseException") = some true
  ty : PySem.W.typeIn K (.ref C) = some (.type "type")
  xc : ExcC K C
/-- a class that a test names -/
structure Et1 (K : PySem.W.Frag) (c : Str) (C : Addr) : Prop where
  at_ : PySem.W.nsIn K mainGlobals c = some (some (.ref C))
  ic : PySem.W.isClsIn K C = true
  ty : PySem.W.typeIn K (.ref C) = some (.type "type")
  sb : PySem.W.subIn K (.ref C) (.type "BaseException") = some true
end Fl
namespace Fl
section
variable {cf : CF} {r : Sl} {s : S}
noncomputable def kVar (s : S) : Option (Option D) → R D
  | some (some d) => some (.ok d, s)
  | _ => none
theorem kVar_ok (d : D) : kVar s (some (some d)) = some (.ok d, s) := (rfl)
theorem e_var (i : Nat) : ev cf (.var i) r s = kVar s r[i]? := by
  simp only [ev]
  unfold kVar
  rfl
theorem e_non : ev cf .non r s = some (.ok .non, s) := by simp only [ev]
theorem e_bl (b : Bool) : ev cf (.bl b) r s = some (.ok (.bl b), s) := by simp only [ev]
theorem e_int (i : Int) : ev cf (.int i) r s = some (.ok (.int i), s) := by simp only [ev]
theorem e_str (x : List Nat) : ev cf (.str x) r s = some (.ok (.str x), s) := by simp only [ev]
theorem e_gs (f : String) (x : List Nat) : ev cf (.gs f x) r s = some (.ok (.str x), s) := by simp only [ev]
noncomputable def kBin2 (o : Bop) (x : D) (q : R D) : R D := bnd q fun y s => lft (binD o x y) s
noncomputable def kBin1 (cf : CF) (o : Bop) (b : E) (r : Sl) (q : R D) : R D := bnd q fun x s => kBin2 o x (ev cf b r s)
theorem e_bin (o : Bop) (a b : E) : ev cf (.bin o a b) r s = kBin1 cf o b r (ev cf a r s) := by simp only [ev]; rfl
theorem kBin1_ok (o : Bop) (b : E) (x : D) : kBin1 cf o b r (some (.ok x, s)) = kBin2 o x (ev cf b r s) := (rfl)
theorem kBin2_ok (o : Bop) (x y : D) : kBin2 o x (some (.ok y, s)) = lft (binD o x y) s := (rfl)
noncomputable def kNeg (q : R D) : R D := bnd q fun x s => match x with
  | .int i => some (.ok (.int (-i)), s)
  | _ => none
theorem e_neg (a : E) : ev cf (.neg a) r s = kNeg (ev cf a r s) := by simp only [ev]; rfl
theorem kNeg_ok (i : Int) : kNeg (some (.ok (.int i), s)) = some (.ok (.int (-i)), s) := (rfl)
noncomputable def kNot (q : R D) : R D := bnd q fun x s => lft ((truth s x).map fun b => .bl (!b)) s
theorem e_not (a : E) : ev cf (.not a) r s = kNot (ev cf a r s) := by simp only [ev]; rfl
theorem kNot_ok (b : Bool) : kNot (some (.ok (.bl b), s)) = some (.ok (.bl (!b)), s) := (rfl)
noncomputable def kAnd (cf : CF) (es : Es) (r : Sl) (q : R D) : R D := bnd q fun x s => match x with
  | .bl true => evAnd cf es r s
  | .bl false => some (.ok (.bl false), s)
  | _ => none
noncomputable def kOr (cf : CF) (es : Es) (r : Sl) (q : R D) : R D := bnd q fun x s => match x with
  | .bl true => some (.ok (.bl true), s)
  | .bl false => evOr cf es r s
  | _ => none
theorem e_and (es : Es) : ev cf (.and es) r s = evAnd cf es r s := by simp only [ev]
theorem e_or (es : Es) : ev cf (.or es) r s = evOr cf es r s := by simp only [ev]
theorem a_one (e : E) : evAnd cf (.cons e .nil) r s = ev cf e r s := by simp only [evAnd]
theorem a_more (e e' : E) (t : Es) : evAnd cf (.cons e (.cons e' t)) r s = kAnd cf (.cons e' t) r (ev cf e r s) := by simp only [evAnd]; rfl
theorem o_one (e : E) : evOr cf (.cons e .nil) r s = ev cf e r s := by simp only [evOr]
theorem o_more (e e' : E) (t : Es) : evOr cf (.cons e (.cons e' t)) r s = kOr cf (.cons e' t) r (ev cf e r s) := by simp only [evOr]; rfl
theorem kAnd_t (es : Es) : kAnd cf es r (some (.ok (.bl true), s)) = evAnd cf es r s := (rfl)
theorem kAnd_f (es : Es) : kAnd cf es r (some (.ok (.bl false), s)) = some (.ok (.bl false), s) := (rfl)
theorem kOr_t (es : Es) : kOr cf es r (some (.ok (.bl true), s)) = some (.ok (.bl true), s) := (rfl)
theorem kOr_f (es : Es) : kOr cf es r (some (.ok (.bl false), s)) = evOr cf es r s := (rfl)
theorem kAnd_b (es : Es) (b : Bool) : kAnd cf es r (some (.ok (.bl b), s)) = if b = true then evAnd cf es r s else some (.ok (.bl false), s) := by cases b <;> rfl
theorem kOr_b (es : Es) (b : Bool) : kOr cf es r (some (.ok (.bl b), s)) = if b = true then some (.ok (.bl true), s) else evOr cf es r s := by cases b <;> rfl
noncomputable def kCmp2 (o : Cop) (x : D) (q : R D) : R D := bnd q fun y s => lft ((cmpD s o x y).map .bl) s
noncomputable def kCmp1 (cf : CF) (o : Cop) (b : E) (r : Sl) (q : R D) : R D := bnd q fun x s => kCmp2 o x (ev cf b r s)
theorem e_cmp (o : Cop) (a b : E) : ev cf (.cmp o a b) r s = kCmp1 cf o b r (ev cf a r s) := by simp only [ev]; rfl
theorem kCmp1_ok (o : Cop) (b : E) (x : D) : kCmp1 cf o b r (some (.ok x, s)) = kCmp2 o x (ev cf b r s) := (rfl)
theorem kCmp2_ok (o : Cop) (x y : D) : kCmp2 o x (some (.ok y, s)) = lft ((cmpD s o x y).map .bl) s := (rfl)
noncomputable def kChn2 (cf : CF) (o p : Cop) (c : E) (r : Sl) (x : D) (q : R D) : R D := bnd q fun y s => match cmpD s o x y with
  | some true => kCmp2 p y (ev cf c r s)
  | some false => some (.ok (.bl false), s)
  | none => none
noncomputable def kChn1 (cf : CF) (o p : Cop) (b c : E) (r : Sl) (q : R D) : R D := bnd q fun x s => kChn2 cf o p c r x (ev cf b r s)
theorem e_chn (o p : Cop) (a b c : E) : ev cf (.chn o p a b c) r s = kChn1 cf o p b c r (ev cf a r s) := by simp only [ev]; rfl
theorem kChn1_ok (o p : Cop) (b c : E) (x : D) : kChn1 cf o p b c r (some (.ok x, s)) = kChn2 cf o p c r x (ev cf b r s) := (rfl)
theorem kChn2_ok (o p : Cop) (c : E) (x y : D) : kChn2 cf o p c r x (some (.ok y, s)) = match cmpD s o x y with
  | some true => kCmp2 p y (ev cf c r s)
  | some false => some (.ok (.bl false), s)
  | none => none := (rfl)
theorem c_lt (i j : Int) : cmpD s .lt (.int i) (.int j) = some (decide (i < j)) := (rfl)
theorem c_le (i j : Int) : cmpD s .le (.int i) (.int j) = some (decide (i ≤ j)) := (rfl)
theorem c_gt (i j : Int) : cmpD s .gt (.int i) (.int j) = some (decide (j < i)) := (rfl)
theorem c_ge (i j : Int) : cmpD s .ge (.int i) (.int j) = some (decide (j ≤ i)) := (rfl)
theorem c_eq (x y : D) : cmpD s .eq x y = eqS s x y := by unfold cmpD; rfl
theorem c_ne (x y : D) : cmpD s .ne x y = (eqS s x y).map (!·) := by unfold cmpD; rfl
theorem q_int (i j : Int) : eqS s (.int i) (.int j) = some (decide (i = j)) := (rfl)
theorem q_str (x y : List Nat) : eqS s (.str x) (.str y) = some (decide (x = y)) := (rfl)
theorem q_bl (x y : Bool) : eqS s (.bl x) (.bl y) = some (decide (x = y)) := (rfl)
theorem q_lst (xs ys : List D) (h : (shp 60 (.lst xs) && shp 60 (.lst ys)) = true) : eqS s (.lst xs) (.lst ys) = some (eqD (.lst xs) (.lst ys)) := by
  show (if (shp 60 (.lst xs) && shp 60 (.lst ys)) = true then some (eqD (.lst xs) (.lst ys)) else _) = _
  rw [if_pos h]
theorem c_isN (x : D) : cmpD s .is x .non = some (isNon x) := by cases x <;> rfl
theorem c_isnN (x : D) : cmpD s .isn x .non = some (!isNon x) := by cases x <;> rfl
theorem c_isB (a b : Bool) : cmpD s .is (.bl a) (.bl b) = some (a == b) := (rfl)
theorem c_in1 (c : Nat) (y : List Nat) : cmpD s .inn (.str [c]) (.str y) = some (decide (c ∈ y)) := (rfl)
theorem map_some {α β : Type} (f : α → β) (a : α) : Option.map f (some a) = some (f a) := (rfl)
noncomputable def kIte (cf : CF) (a b : E) (r : Sl) (q : R D) : R D := bnd q fun x s => match truth s x with
  | some true => ev cf a r s
  | some false => ev cf b r s
  | none => none
theorem e_ite (c a b : E) : ev cf (.ite c a b) r s = kIte cf a b r (ev cf c r s) := by simp only [ev]; rfl
theorem kIte_b (a b : E) (c : Bool) : kIte cf a b r (some (.ok (.bl c), s)) = if c = true then ev cf a r s else ev cf b r s := by cases c <;> rfl
noncomputable def kEs2 (x : D) (q : R (List D)) : R (List D) := bnd q fun xs s => some (.ok (x :: xs), s)
noncomputable def kEs1 (cf : CF) (t : Es) (r : Sl) (q : R D) : R (List D) := bnd q fun x s => kEs2 x (evs cf t r s)
theorem es_nil : evs cf .nil r s = some (.ok [], s) := by simp only [evs]
theorem es_cons (e : E) (t : Es) : evs cf (.cons e t) r s = kEs1 cf t r (ev cf e r s) := by simp only [evs]; rfl
theorem kEs1_ok (t : Es) (x : D) : kEs1 cf t r (some (.ok x, s)) = kEs2 x (evs cf t r s) := (rfl)
theorem kEs2_ok (x : D) (xs : List D) : kEs2 x (some (.ok xs, s)) = some (.ok (x :: xs), s) := (rfl)
noncomputable def kTup (q : R (List D)) : R D := bnd q fun xs s => if xs.length ≤ LIM then some (.ok (.tup xs), s) else none
theorem e_tup (es : Es) : ev cf (.tup es) r s = kTup (evs cf es r s) := by simp only [ev]; rfl
theorem kTup_0 : kTup (some (.ok [], s)) = some (.ok (.tup []), s) := (rfl)
theorem kTup_1 (a : D) : kTup (some (.ok [a], s)) = some (.ok (.tup [a]), s) := (rfl)
theorem kTup_2 (a b : D) : kTup (some (.ok [a, b], s)) = some (.ok (.tup [a, b]), s) := (rfl)
theorem kTup_3 (a b c : D) : kTup (some (.ok [a, b, c], s)) = some (.ok (.tup [a, b, c]), s) := (rfl)
theorem kTup_4 (a b c d : D) : kTup (some (.ok [a, b, c, d], s)) = some (.ok (.tup [a, b, c, d]), s) := (rfl)
noncomputable def kLst (bx : Bool) (q : R (List D)) : R D := bnd q fun xs s => mkLz bx xs s
theorem e_lst (bx : Bool) (es : Es) : ev cf (.lst bx es) r s = kLst bx (evs cf es r s) := by simp only [ev]; rfl
noncomputable def kCat2 (bx : Bool) (x : D) (q : R D) : R D := bnd q fun y s => match lcont s x, lcont s y with
  | some xs, some ys => mkLz bx (xs ++ ys) s
  | _, _ => none
noncomputable def kCat1 (cf : CF) (bx : Bool) (b : E) (r : Sl) (q : R D) : R D := bnd q fun x s => kCat2 bx x (ev cf b r s)
theorem e_cat (bx : Bool) (a b : E) : ev cf (.cat bx a b) r s = kCat1 cf bx b r (ev cf a r s) := by simp only [ev]; rfl
theorem kCat1_ok (bx : Bool) (b : E) (x : D) : kCat1 cf bx b r (some (.ok x, s)) = kCat2 bx x (ev cf b r s) := (rfl)
theorem kCat2_f (xs ys : List D) (h : xs.length + ys.length ≤ LIM) : kCat2 false (.lst xs) (some (.ok (.lst ys), s)) = some (.ok (.lst (xs ++ ys)), s) := by
  show (if (xs ++ ys).length ≤ LIM then mkL false (xs ++ ys) s else none) = _
  rw [if_pos (by rw [List.length_append]; exact h)]
  rfl
noncomputable def kIdx2 (x : D) (q : R D) : R D := bnd q fun y s => lft (idxD s x y) s
noncomputable def kIdx1 (cf : CF) (b : E) (r : Sl) (q : R D) : R D := bnd q fun x s => kIdx2 x (ev cf b r s)
theorem e_idx (a b : E) : ev cf (.idx a b) r s = kIdx1 cf b r (ev cf a r s) := by simp only [ev]; rfl
theorem kIdx1_ok (b : E) (x : D) : kIdx1 cf b r (some (.ok x, s)) = kIdx2 x (ev cf b r s) := (rfl)
theorem kIdx2_ok (x y : D) : kIdx2 x (some (.ok y, s)) = lft (idxD s x y) s := (rfl)
theorem i_tup' (xs : List D) (i : Int) : idxD s (.tup xs) (.int i) = atI xs i := (rfl)
theorem i_lst' (xs : List D) (i : Int) : idxD s (.lst xs) (.int i) = atI xs i := (rfl)
theorem i_scr (xs : List D) (i : Int) : idxD s (.scr xs) (.int i) = atI xs i := (rfl)
theorem i_str' (x : List Nat) (i : Int) : idxD s (.str x) (.int i) = if x.length ≤ LIM then (atI x i).map fun c => .str [c] else none := (rfl)
theorem i_ref (n : Nat) (i : Int) (xs : List D) (h : s.m n = some (.lst xs)) : idxD s (.ref n) (.int i) = atI xs i := by
  have h1 : dcont s (.ref n) = none := by simp only [dcont, h]
  have h3 : tcont s (.ref n) = none := by simp only [tcont, h]
  have h2 : cont s (.ref n) = some xs := by simp only [cont, lcont, h]
  simp only [idxD, h1, h3, idxL, h2, Option.bind_some]
theorem at_0 {α : Type} (a : α) (l : List α) : atI (a :: l) 0 = some a := by
  unfold atI ixN
  rw [if_pos (by omega), if_pos (by simp only [List.length_cons]; omega)]
  rfl
theorem at_1 {α : Type} (a b : α) (l : List α) : atI (a :: b :: l) 1 = some b := by
  unfold atI ixN
  rw [if_pos (by omega), if_pos (by simp only [List.length_cons]; omega)]
  rfl
theorem at_2 {α : Type} (a b c : α) (l : List α) : atI (a :: b :: c :: l) 2 = some c := by
  unfold atI ixN
  rw [if_pos (by omega), if_pos (by simp only [List.length_cons]; omega)]
  rfl
theorem at_3 {α : Type} (a b c d : α) (l : List α) : atI (a :: b :: c :: d :: l) 3 = some d := by
  unfold atI ixN
  rw [if_pos (by omega), if_pos (by simp only [List.length_cons]; omega)]
  rfl
theorem at_nat {α : Type} (l : List α) (i : Nat) : atI l (i : Int) = l[i]? := by
  unfold atI ixN
  rw [if_pos (by omega)]
  by_cases h : (i : Int) < l.length
  · rw [if_pos h]
    simp
  · rw [if_neg h]
    exact (List.getElem?_eq_none (by omega)).symm
theorem at_get {α : Type} (l : List α) (i : Int) (h0 : 0 ≤ i) (h1 : i < l.length) : ∃ a, atI l i = some a ∧ a ∈ l := by
  obtain ⟨n, rfl⟩ := Int.eq_ofNat_of_zero_le h0
  rw [at_nat]
  have hn : n < l.length := by omega
  exact ⟨l[n], by rw [List.getElem?_eq_getElem hn], List.getElem_mem hn⟩
noncomputable def kO (q : R D) : R (Option Int) := bnd q fun x s => match x with
  | .int i => some (.ok (some i), s)
  | _ => none
theorem o_no : evO cf .no r s = some (.ok none, s) := by simp only [evO]
theorem o_so (e : E) : evO cf (.so e) r s = kO (ev cf e r s) := by simp only [evO]; rfl
theorem kO_ok (i : Int) : kO (some (.ok (.int i), s)) = some (.ok (some i), s) := (rfl)
noncomputable def sliD (s : S) (bx : Bool) (x : D) (l h : Option Int) : R D := match x with
  | .str z => if z.length ≤ LIM then some (.ok (.str (cut z l h)), s) else none
  | .tup zs => some (.ok (.tup (cut zs l h)), s)
  | x => match lcont s x with
    | some zs => mkL bx (cut zs l h) s
    | none => none
noncomputable def kSl3 (bx : Bool) (x : D) (l : Option Int) (q : R (Option Int)) : R D := bnd q fun h s => sliD s bx x l h
noncomputable def kSl2 (cf : CF) (bx : Bool) (hi : Oe) (r : Sl) (x : D) (q : R (Option Int)) : R D := bnd q fun l s => kSl3 bx x l (evO cf hi r s)
noncomputable def kSl1 (cf : CF) (bx : Bool) (lo hi : Oe) (r : Sl) (q : R D) : R D := bnd q fun x s => kSl2 cf bx hi r x (evO cf lo r s)
theorem e_sl (bx : Bool) (a : E) (lo hi : Oe) : ev cf (.sl bx a lo hi) r s = kSl1 cf bx lo hi r (ev cf a r s) := by
  simp only [ev]
  unfold kSl1 kSl2 kSl3 sliD
  rfl
theorem kSl1_ok (bx : Bool) (lo hi : Oe) (x : D) : kSl1 cf bx lo hi r (some (.ok x, s)) = kSl2 cf bx hi r x (evO cf lo r s) := (rfl)
theorem kSl2_ok (bx : Bool) (hi : Oe) (x : D) (l : Option Int) : kSl2 cf bx hi r x (some (.ok l, s)) = kSl3 bx x l (evO cf hi r s) := (rfl)
theorem kSl3_ok (bx : Bool) (x : D) (l h : Option Int) : kSl3 bx x l (some (.ok h, s)) = sliD s bx x l h := (rfl)
theorem sl_tup' (bx : Bool) (xs : List D) (l h : Option Int) : sliD s bx (.tup xs) l h = some (.ok (.tup (cut xs l h)), s) := (rfl)
theorem sl_scr (xs : List D) (l h : Option Int) : sliD s false (.scr xs) l h = some (.ok (.lst (cut xs l h)), s) := (rfl)
theorem sl_lst' (xs : List D) (l h : Option Int) : sliD s false (.lst xs) l h = some (.ok (.lst (cut xs l h)), s) := (rfl)
noncomputable def kCall (cf : CF) (f : String) (q : R (List D)) : R D := bnd q fun xs s => cf "" f xs s
theorem e_call (f : String) (es : Es) : ev cf (.call f es) r s = kCall cf f (evs cf es r s) := by simp only [ev]; rfl
theorem kCall_ok (f : String) (xs : List D) : kCall cf f (some (.ok xs, s)) = cf "" f xs s := (rfl)
noncomputable def kBi (b : Bi) (q : R (List D)) : R D := bnd q fun xs s => biD s b xs
theorem e_bi (b : Bi) (es : Es) : ev cf (.bi b es) r s = kBi b (evs cf es r s) := by simp only [ev]; rfl
theorem kBi_ok (b : Bi) (xs : List D) : kBi b (some (.ok xs, s)) = biD s b xs := (rfl)
theorem b_intI (i : Int) : biD s .int [.int i] = some (.ok (.int i), s) := (rfl)
theorem b_intB (b : Bool) : biD s .int [.bl b] = some (.ok (.int (if b = true then 1 else 0)), s) := (rfl)
theorem b_min (i j : Int) : biD s .min2 [.int i, .int j] = some (.ok (.int (if j < i then j else i)), s) := (rfl)
theorem b_max (i j : Int) : biD s .max2 [.int i, .int j] = some (.ok (.int (if j > i then j else i)), s) := (rfl)
theorem b_abs (i : Int) : biD s .abs [.int i] = some (.ok (.int (if i < 0 then -i else i)), s) := (rfl)
theorem b_lenT (xs : List D) : biD s .len [.tup xs] = some (.ok (.int xs.length), s) := (rfl)
theorem b_lenL (xs : List D) : biD s .len [.lst xs] = some (.ok (.int xs.length), s) := (rfl)
theorem b_lenC (xs : List D) : biD s .len [.scr xs] = some (.ok (.int xs.length), s) := (rfl)
theorem b_lenS (x : List Nat) : biD s .len [.str x] = if x.length ≤ LIM then some (.ok (.int x.length), s) else none := (rfl)
theorem b_listL (xs : List D) : biD s (.list false) [.lst xs] = some (.ok (.lst xs), s) := (rfl)
theorem b_listT (xs : List D) : biD s (.list false) [.tup xs] = some (.ok (.lst xs), s) := (rfl)
theorem b_listLb (xs : List D) : biD s (.list true) [.lst xs] = some (.ok (.ref s.nx), s.new (.lst xs)) := (rfl)
noncomputable def kIsi (t : Ty) (q : R D) : R D := bnd q fun x s => lft ((isiD s x t).map .bl) s
theorem e_isi (a : E) (t : Ty) : ev cf (.isi a t) r s = kIsi t (ev cf a r s) := by simp only [ev]; rfl
theorem kIsi_ok (t : Ty) (x : D) : kIsi t (some (.ok x, s)) = lft ((isiD s x t).map .bl) s := (rfl)
theorem n_int (i : Int) (t : Ty) : isiD s (.int i) t = some (subTy .int t) := (rfl)
theorem n_str (i : List Nat) (t : Ty) : isiD s (.str i) t = some (subTy .str t) := (rfl)
theorem n_bl (i : Bool) (t : Ty) : isiD s (.bl i) t = some (subTy .bool t) := (rfl)
theorem n_tup (i : List D) (t : Ty) : isiD s (.tup i) t = some (subTy .tuple t) := (rfl)
theorem n_lst (i : List D) (t : Ty) : isiD s (.lst i) t = some (subTy .list t) := (rfl)
theorem n_non (t : Ty) : isiD s .non t = some false := (rfl)
noncomputable def kLr (bx : Bool) (q : R D) : R D := bnd q fun x s => lrngD s bx [x]
theorem e_lrng (bx : Bool) (a : E) : ev cf (.lrng bx a) r s = kLr bx (ev cf a r s) := by simp only [ev]; rfl
theorem kLr_ok (bx : Bool) (x : D) : kLr bx (some (.ok x, s)) = lrngD s bx [x] := (rfl)
noncomputable def kMet2 (m : Mt) (x : D) (q : R (List D)) : R D := bnd q fun xs s => metD s m x xs
noncomputable def kMet1 (cf : CF) (m : Mt) (es : Es) (r : Sl) (q : R D) : R D := bnd q fun x s => if mtOk s m x then kMet2 m x (evs cf es r s) else none
theorem e_met (m : Mt) (o : E) (es : Es) : ev cf (.met m o es) r s = kMet1 cf m es r (ev cf o r s) := by simp only [ev]; rfl
theorem kMet1_ok (m : Mt) (es : Es) (x : D) : kMet1 cf m es r (some (.ok x, s)) = if mtOk s m x = true then kMet2 m x (evs cf es r s) else none := (rfl)
theorem kMet2_ok (m : Mt) (x : D) (xs : List D) : kMet2 m x (some (.ok xs, s)) = metD s m x xs := (rfl)
noncomputable def kFrz (q : R D) : R D := bnd q fun x s => frzD s x
theorem e_frz (a : E) : ev cf (.frz a) r s = kFrz (ev cf a r s) := by simp only [ev]; rfl
theorem kFrz_ok (x : D) : kFrz (some (.ok x, s)) = frzD s x := (rfl)
noncomputable def lcI (cf : CF) (bx : Bool) (e : E) (tg : Tg) (c : Oe) (r : Sl) (s : S) (iv : Iv) : R D := match ivLen s iv with
  | none => none
  | some n => bnd (lcN tg iv (evT cf c) (ev cf e) r (n + 1) 0 [] s) fun xs s => mkL bx xs s
noncomputable def kLc (cf : CF) (bx : Bool) (e : E) (tg : Tg) (c : Oe) (r : Sl) (q : R Iv) : R D := bnd q fun iv s => lcI cf bx e tg c r s iv
theorem e_lc (bx : Bool) (e : E) (tg : Tg) (it : It) (c : Oe) : ev cf (.lc bx e tg it c) r s = kLc cf bx e tg c r (evI cf it r s) := by simp only [ev]; rfl
theorem kLc_ok (bx : Bool) (e : E) (tg : Tg) (c : Oe) (iv : Iv) : kLc cf bx e tg c r (some (.ok iv, s)) = lcI cf bx e tg c r s iv := (rfl)
noncomputable def kSeq' (q : R D) : R Iv := bnd q fun x s => match lcont s x with
  | some _ => some (.ok (.seq x), s)
  | none => none
theorem t_seq (e : E) : evI cf (.seq e) r s = kSeq' (ev cf e r s) := by simp only [evI]; rfl
theorem kSeq'_l (xs : List D) : kSeq' (some (.ok (.lst xs), s)) = some (.ok (.seq (.lst xs)), s) := (rfl)
theorem kSeq'_c (xs : List D) : kSeq' (some (.ok (.scr xs), s)) = some (.ok (.seq (.scr xs)), s) := (rfl)
noncomputable def kTupI (q : R D) : R Iv := bnd q fun x s => match x with
  | .tup xs => some (.ok (.seq (.tup xs)), s)
  | _ => none
theorem t_tup (e : E) : evI cf (.tup e) r s = kTupI (ev cf e r s) := by simp only [evI]; rfl
theorem kTupI_ok (xs : List D) : kTupI (some (.ok (.tup xs), s)) = some (.ok (.seq (.tup xs)), s) := (rfl)
noncomputable def kStrI (q : R D) : R Iv := bnd q fun x s => match x with
  | .str xs => some (.ok (.seq (.str xs)), s)
  | _ => none
theorem t_str (e : E) : evI cf (.str e) r s = kStrI (ev cf e r s) := by simp only [evI]; rfl
theorem kStrI_ok (xs : List Nat) : kStrI (some (.ok (.str xs), s)) = some (.ok (.seq (.str xs)), s) := (rfl)
noncomputable def kRng (q : R D) : R Iv := bnd q fun x s => match x with
  | .int j => if j < 2 ^ 62 ∧ -(2 ^ 62) ≤ j then some (.ok (.rng 0 j.toNat), s) else none
  | _ => none
theorem t_rng (e : E) : evI cf (.rng e) r s = kRng (ev cf e r s) := by simp only [evI]; rfl
theorem kRng_ok (j : Int) (h : j < 2 ^ 62 ∧ -(2 ^ 62) ≤ j) : kRng (some (.ok (.int j), s)) = some (.ok (.rng 0 j.toNat), s) := by
  show (if j < 2 ^ 62 ∧ -(2 ^ 62) ≤ j then _ else none) = _
  rw [if_pos h]
noncomputable def kEnm (q : R D) : R Iv := bnd q fun x s => match lcont s x with
  | some _ => some (.ok (.enm x), s)
  | none => none
theorem t_enm (e : E) : evI cf (.enm e) r s = kEnm (ev cf e r s) := by simp only [evI]; rfl
theorem kEnm_l (xs : List D) : kEnm (some (.ok (.lst xs), s)) = some (.ok (.enm (.lst xs)), s) := (rfl)
noncomputable def kSeq (cf : CF) (t : Cs) (q : XR) : XR := bnd q fun p s => match p with
  | (.nx, r) => exs cf t r s
  | (.bk, r) => some (.ok (.bk, r), s)
  | (.ct, r) => some (.ok (.ct, r), s)
  | (.rt d, r) => some (.ok (.rt d, r), s)
  | (.rz c, r) => some (.ok (.rz c, r), s)
theorem kSeq_rz (t : Cs) (c : String) : kSeq cf t (some (.ok (.rz c, r), s)) = some (.ok (.rz c, r), s) := (rfl)
theorem s_nil : exs cf .nil r s = some (.ok (.nx, r), s) := by simp only [exs]
theorem s_cons (c : C) (t : Cs) : exs cf (.cons c t) r s = kSeq cf t (ex cf c r s) := by simp only [exs]; rfl
theorem kSeq_nx (t : Cs) : kSeq cf t (some (.ok (.nx, r), s)) = exs cf t r s := (rfl)
theorem kSeq_rt (t : Cs) (d : D) : kSeq cf t (some (.ok (.rt d, r), s)) = some (.ok (.rt d, r), s) := (rfl)
theorem kSeq_bk (t : Cs) : kSeq cf t (some (.ok (.bk, r), s)) = some (.ok (.bk, r), s) := (rfl)
theorem kSeq_ct (t : Cs) : kSeq cf t (some (.ok (.ct, r), s)) = some (.ok (.ct, r), s) := (rfl)
noncomputable def kAsg (i : Nat) (r : Sl) (q : R D) : XR := bnd q fun x s => some (.ok (.nx, r.set i (some x)), s)
theorem s_asg (i : Nat) (e : E) : ex cf (.asg i e) r s = kAsg i r (ev cf e r s) := by simp only [ex]; rfl
theorem kAsg_ok (i : Nat) (x : D) : kAsg i r (some (.ok x, s)) = some (.ok (.nx, r.set i (some x)), s) := (rfl)
noncomputable def kTpa (is : List Nat) (r : Sl) (q : R D) : XR := bnd q fun x s => match x with
  | .tup xs => match setAll is xs r with
    | some r' => some (.ok (.nx, r'), s)
    | none => none
  | _ => none
noncomputable def kTpl (is : List Nat) (r : Sl) (q : R D) : XR := bnd q fun x s => match lcont s x with
    | some xs => match setAll is xs r with
      | some r' => some (.ok (.nx, r'), s)
      | none => none
    | none => none
theorem s_tpl (is : List Nat) (e : E) : ex cf (.tpl is e) r s = kTpl is r (ev cf e r s) := by simp only [ex]; rfl
theorem kTpl_2 (i j : Nat) (x y : D) : kTpl [i, j] r (some (.ok (.lst [x, y]), s)) = some (.ok (.nx, (r.set i (some x)).set j (some y)), s) := (rfl)
theorem s_tpa (is : List Nat) (e : E) : ex cf (.tpa is e) r s = kTpa is r (ev cf e r s) := by simp only [ex]; rfl
theorem kTpa_2 (i j : Nat) (x y : D) : kTpa [i, j] r (some (.ok (.tup [x, y]), s)) = some (.ok (.nx, (r.set i (some x)).set j (some y)), s) := (rfl)
theorem kTpa_3 (i j k : Nat) (x y z : D) : kTpa [i, j, k] r (some (.ok (.tup [x, y, z]), s)) = some (.ok (.nx, ((r.set i (some x)).set j (some y)).set k (some z)), s) := (rfl)
noncomputable def kAug (i : Nat) (o : Bop) (r : Sl) (a : Int) (q : R D) : XR := bnd q fun y s => match y with
  | .int b => match o with
    | .add => some (.ok (.nx, r.set i (some (.int (a + b)))), s)
    | .sub => some (.ok (.nx, r.set i (some (.int (a - b)))), s)
    | _ => none
  | _ => none
noncomputable def kAug0 (cf : CF) (i : Nat) (o : Bop) (e : E) (r : Sl) (s : S) : Option (Option D) → XR
  | some (some (.int a)) => kAug i o r a (ev cf e r s)
  | _ => none
theorem s_aug (i : Nat) (o : Bop) (e : E) : ex cf (.aug i o e) r s = kAug0 cf i o e r s r[i]? := by
  simp only [ex]
  unfold kAug0
  rfl
theorem kAug0_ok (i : Nat) (o : Bop) (e : E) (a : Int) : kAug0 cf i o e r s (some (some (.int a))) = kAug i o r a (ev cf e r s) := (rfl)
theorem kAug_add (i : Nat) (a b : Int) : kAug i .add r a (some (.ok (.int b), s)) = some (.ok (.nx, r.set i (some (.int (a + b)))), s) := (rfl)
theorem kAug_sub (i : Nat) (a b : Int) : kAug i .sub r a (some (.ok (.int b), s)) = some (.ok (.nx, r.set i (some (.int (a - b)))), s) := (rfl)
noncomputable def stoD (r : Sl) (v x k : D) (s : S) : XR := match x with
    | .ref n => match s.m n with
      | some (.lst xs) => match k with
        | .int k => match ixN xs.length k with
          | some j => some (.ok (.nx, r), s.put n (.lst (xs.set j v)))
          | none => none
        | _ => none
      | some (.dic kvs) => match keyOf k with
        | some k => if kvs.length < LIM then some (.ok (.nx, r), s.put n (.dic (dput kvs k v))) else none
        | none => none
      | some (.dit kvs) => match keyT k with
        | some k => if kvs.length < LIM then some (.ok (.nx, r), s.put n (.dit (dput kvs k v))) else none
        | none => none
      | _ => none
    | _ => none
noncomputable def kSt3 (r : Sl) (v x : D) (q : R D) : XR := bnd q fun k s => stoD r v x k s
noncomputable def kSt2 (cf : CF) (i : E) (r : Sl) (v : D) (q : R D) : XR := bnd q fun x s => kSt3 r v x (ev cf i r s)
noncomputable def kSt1 (cf : CF) (o i : E) (r : Sl) (q : R D) : XR := bnd q fun v s => kSt2 cf i r v (ev cf o r s)
theorem s_seti (o i e : E) : ex cf (.seti o i e) r s = kSt1 cf o i r (ev cf e r s) := by simp only [ex]; rfl
theorem kSt1_ok (o i : E) (v : D) : kSt1 cf o i r (some (.ok v, s)) = kSt2 cf i r v (ev cf o r s) := (rfl)
theorem kSt2_ok (i : E) (v x : D) : kSt2 cf i r v (some (.ok x, s)) = kSt3 r v x (ev cf i r s) := (rfl)
theorem kSt3_ok (v x k : D) : kSt3 r v x (some (.ok k, s)) = stoD r v x k s := (rfl)
theorem sto_ok (n : Nat) (k : Int) (j : Nat) (v : D) (xs : List D) (h : s.m n = some (.lst xs)) (hj : ixN xs.length k = some j) : stoD r v (.ref n) (.int k) s = some (.ok (.nx, r), s.put n (.lst (xs.set j v))) := by
  simp only [stoD, h, hj]
noncomputable def kExp (r : Sl) (q : R D) : XR := bnd q fun _ s => some (.ok (.nx, r), s)
theorem s_exp (e : E) : ex cf (.exp e) r s = kExp r (ev cf e r s) := by simp only [ex]; rfl
theorem kExp_ok (x : D) : kExp r (some (.ok x, s)) = some (.ok (.nx, r), s) := (rfl)
noncomputable def kRt (r : Sl) (q : R D) : XR := bnd q fun x s => some (.ok (.rt x, r), s)
theorem s_ret (e : E) : ex cf (.ret e) r s = kRt r (ev cf e r s) := by simp only [ex]; rfl
theorem kRt_ok (x : D) : kRt r (some (.ok x, s)) = some (.ok (.rt x, r), s) := (rfl)
theorem s_retn : ex cf .retn r s = some (.ok (.rt .non, r), s) := by simp only [ex]
noncomputable def kIf (cf : CF) (a b : Cs) (r : Sl) (q : R D) : XR := bnd q fun x s => match truth s x with
  | some true => exs cf a r s
  | some false => exs cf b r s
  | none => none
theorem s_ite (c : E) (a b : Cs) : ex cf (.ite c a b) r s = kIf cf a b r (ev cf c r s) := by simp only [ex]; rfl
theorem kIf_b (a b : Cs) (c : Bool) : kIf cf a b r (some (.ok (.bl c), s)) = if c = true then exs cf a r s else exs cf b r s := by cases c <;> rfl
noncomputable def forI (cf : CF) (tg : Tg) (b : Cs) (r : Sl) (s : S) (iv : Iv) : XR := match ivLen s iv with
  | none => none
  | some n => forN tg iv (exs cf b) (n + 1) 0 r s
noncomputable def kFor (cf : CF) (tg : Tg) (b : Cs) (r : Sl) (q : R Iv) : XR := bnd q fun iv s => forI cf tg b r s iv
theorem s_for (tg : Tg) (it : It) (b : Cs) : ex cf (.for tg it b) r s = kFor cf tg b r (evI cf it r s) := by simp only [ex]; rfl
theorem kFor_ok (tg : Tg) (b : Cs) (iv : Iv) : kFor cf tg b r (some (.ok iv, s)) = forI cf tg b r s iv := (rfl)
theorem s_whl (c : E) (b : Cs) : ex cf (.whl c b) r s = whlN (ev cf c) (exs cf b) WF r s := by simp only [ex]
theorem s_pas : ex cf .pas r s = some (.ok (.nx, r), s) := by simp only [ex]
theorem s_brk : ex cf .brk r s = some (.ok (.bk, r), s) := by simp only [ex]
theorem s_rz (c : String) : ex cf (.rz c) r s = some (.ok (.rz c, r), s) := by simp only [ex]
noncomputable def kXexp (r : Sl) (q : R D) : XR := bnr q r fun _ s => some (.ok (.nx, r), s)
theorem s_xexp (x : Xe) : ex cf (.xexp x) r s = kXexp r (evx cf x r s) := by simp only [ex]; rfl
theorem kXexp_ok (d : D) : kXexp r (some (.ok d, s)) = some (.ok (.nx, r), s) := (rfl)
theorem kXexp_er (c : String) : kXexp r (some (.er c, s)) = some (.ok (.rz c, r), s) := (rfl)
noncomputable def kXasg (i : Nat) (r : Sl) (q : R D) : XR := bnr q r fun d s => some (.ok (.nx, r.set i (some d)), s)
theorem s_xasg (i : Nat) (x : Xe) : ex cf (.xasg i x) r s = kXasg i r (evx cf x r s) := by simp only [ex]; rfl
theorem kXasg_ok (i : Nat) (d : D) : kXasg i r (some (.ok d, s)) = some (.ok (.nx, r.set i (some d)), s) := (rfl)
theorem kXasg_er (i : Nat) (c : String) : kXasg i r (some (.er c, s)) = some (.ok (.rz c, r), s) := (rfl)
noncomputable def kXret (r : Sl) (q : R D) : XR := bnr q r fun d s => some (.ok (.rt d, r), s)
theorem s_xret (x : Xe) : ex cf (.xret x) r s = kXret r (evx cf x r s) := by simp only [ex]; rfl
theorem kXret_ok (d : D) : kXret r (some (.ok d, s)) = some (.ok (.rt d, r), s) := (rfl)
theorem kXret_er (c : String) : kXret r (some (.er c, s)) = some (.ok (.rz c, r), s) := (rfl)
noncomputable def kXc (cf : CF) (f : String) (q : R (List D)) : R D := bnn q fun xs s => cf "" f xs s
theorem x_call (f : String) (es : Es) : evx cf (.call f es) r s = kXc cf f (evs cf es r s) := by simp only [evx]; rfl
theorem kXc_ok (f : String) (xs : List D) : kXc cf f (some (.ok xs, s)) = cf "" f xs s := (rfl)
noncomputable def kXo2 (cf : CF) (c m : String) (x : D) (q : R (List D)) : R D := bnn q fun xs s => cf c m (x :: xs) s
theorem kXo2_ok (c m : String) (x : D) (xs : List D) : kXo2 cf c m x (some (.ok xs, s)) = cf c m (x :: xs) s := (rfl)
noncomputable def kXo (cf : CF) (m : String) (es : Es) (r : Sl) (q : R D) : R D := bnn q fun x s => ownX s m x fun c => kXo2 cf c m x (evs cf es r s)
theorem x_own (o : E) (m : String) (es : Es) : evx cf (.own o m es) r s = kXo cf m es r (ev cf o r s) := by simp only [evx]; rfl
noncomputable def kTry (c : String) (i j : Nat) (q : XR) : XR := bnd q fun p s => match p with
    | (.rz k, r') => if subE k c then some (.ok (.nx, ((r'.set i (some (.ref s.nx))).set j (some (.ref s.nx))).set i none), s.new (.exc k)) else some (.ok (.rz k, r'), s)
    | p => some (.ok p, s)
theorem s_tryc (b : Cs) (c : String) (i j : Nat) : ex cf (.tryc b c i j) r s = kTry c i j (exs cf b r s) := by simp only [ex]; rfl
noncomputable def kTryk (c : String) (j : Nat) (q : XR) : XR := bnd q fun p s => match p with
    | (.rz k, r') => if subE k c then some (.ok (.nx, r'.set j (some (.bl true))), s) else some (.ok (.rz k, r'), s)
    | p => some (.ok p, s)
theorem s_tryk (b : Cs) (c : String) (j : Nat) : ex cf (.tryk b c j) r s = kTryk c j (exs cf b r s) := by simp only [ex]; rfl
noncomputable def kTryh (c : String) (i : Nat) (hs : List (Nat × Hx)) (q : XR) : XR := bnd q fun p s => match p with
    | (.rz k, r') => if subE k c then (match hxAll k hs (r'.set i none) with
      | some r2 => if i < r'.length then some (.ok (.nx, r2.set i none), s) else none
      | none => none) else some (.ok (.rz k, r'), s)
    | p => some (.ok p, s)
theorem s_tryh (b : Cs) (c : String) (i : Nat) (hs : List (Nat × Hx)) : ex cf (.tryh b c i hs) r s = kTryh c i hs (exs cf b r s) := by simp only [ex]; rfl
theorem kTryh_nx (c : String) (i : Nat) (hs : List (Nat × Hx)) : kTryh c i hs (some (.ok (.nx, r), s)) = some (.ok (.nx, r), s) := (rfl)
theorem kTryk_nx (c : String) (j : Nat) : kTryk c j (some (.ok (.nx, r), s)) = some (.ok (.nx, r), s) := (rfl)
theorem kTry_nx (c : String) (i j : Nat) : kTry c i j (some (.ok (.nx, r), s)) = some (.ok (.nx, r), s) := (rfl)
noncomputable def kIsx (cs : List String) (q : R D) : R D := bnd q fun x s => lft ((isxD s x cs).map D.bl) s
theorem e_isx (a : E) (c : String) : ev cf (.isx a c) r s = kIsx [c] (ev cf a r s) := by simp only [ev]; rfl
theorem e_isxt (a : E) (cs : List String) : ev cf (.isxt a cs) r s = kIsx cs (ev cf a r s) := by simp only [ev]; rfl
noncomputable def kRet (q : XR) : R D := bnn q fun p s => match p with
  | (.rt d, _) => some (.ok d, s)
  | (.nx, _) => some (.ok .non, s)
  | (.rz c, _) => some (.er c, s)
  | _ => none
theorem kRet_rz (c : String) : kRet (some (.ok (.rz c, r), s)) = some (.er c, s) := (rfl)
theorem kRet_rt (d : D) : kRet (some (.ok (.rt d, r), s)) = some (.ok d, s) := (rfl)
theorem kRet_nx : kRet (some (.ok (.nx, r), s)) = some (.ok .non, s) := (rfl)
theorem call_run {Pg : Prg} {F : Fn} {k : Nat} {c f : String} {ds : List D} (h : Pg c f = some F) (hn : ds.length = F.np) : callF Pg (k + 1) c f ds s = kRet (exs (callF Pg k) F.body (ds.map some ++ List.replicate (F.ns - F.np) none) s) := by
  simp only [callF, h]
  unfold fnRun
  rw [if_pos hn]
  rfl
theorem bi_add (i j : Int) : binD .add (.int i) (.int j) = some (.int (i + j)) := (rfl)
theorem bi_sub (i j : Int) : binD .sub (.int i) (.int j) = some (.int (i - j)) := (rfl)
theorem bi_mul (i j : Int) (h : (sm64 i || sm64 j) = true) : binD .mul (.int i) (.int j) = some (.int (i * j)) := by
  show ((if ((sm64 i || sm64 j) || wd i j) = true then some (i * j) else none).map D.int) = _
  rw [if_pos (by rw [h]; rfl)]
  rfl
theorem bi_fdiv (i j : Int) (h : 0 < j ∧ j < 10000000000000000000000000000000000000000) : binD .fdiv (.int i) (.int j) = some (.int (i / j)) := by
  show ((if j ≠ 0 ∧ j.natAbs < 10000000000000000000000000000000000000000 then some (i.fdiv j) else none).map D.int) = _
  rw [if_pos (by omega), Int.fdiv_eq_ediv_of_nonneg i (by omega)]
  rfl
theorem bi_mod (i j : Int) (h : 0 < j) : binD .mod (.int i) (.int j) = some (.int (i % j)) := by
  show ((if j ≠ 0 then some (i.fmod j) else none).map D.int) = _
  rw [if_pos (by omega), Int.fmod_eq_emod_of_nonneg i (by omega)]
  rfl
theorem bi_pow (i j : Int) (h : 0 ≤ j ∧ j ≤ 1000000 ∧ i.natAbs < 2 ^ 64) : binD .pow (.int i) (.int j) = some (.int (i ^ j.toNat)) := by
  show ((if 0 ≤ j ∧ j ≤ 1000000 ∧ i.natAbs < 2 ^ 64 then some (i ^ j.toNat) else none).map D.int) = _
  rw [if_pos h]
  rfl
theorem bi_str (x y : List Nat) (h : x.length + y.length ≤ LIM) : binD .add (.str x) (.str y) = some (.str (x ++ y)) := by
  show (if x.length + y.length ≤ LIM then some (D.str (x ++ y)) else none) = _
  rw [if_pos h]
theorem sm_l (i j : Int) (h : -(2 ^ 64) < i ∧ i < 2 ^ 64) : (sm64 i || sm64 j) = true := by
  rw [Bool.or_eq_true]
  left
  unfold sm64
  rw [Bool.and_eq_true, decide_eq_true_eq, decide_eq_true_eq]
  exact h
theorem sm_r (i j : Int) (h : -(2 ^ 64) < j ∧ j < 2 ^ 64) : (sm64 i || sm64 j) = true := by
  rw [Bool.or_eq_true]
  right
  unfold sm64
  rw [Bool.and_eq_true, decide_eq_true_eq, decide_eq_true_eq]
  exact h
theorem put_same (n : Nat) (o : Ob) : (s.put n o).m n = some o := by simp [S.put]
theorem put_ne (n k : Nat) (o : Ob) (h : k ≠ n) : (s.put n o).m k = s.m k := by simp [S.put, h]
theorem put_nx (n : Nat) (o : Ob) : (s.put n o).nx = s.nx := (rfl)
theorem new_same (o : Ob) : (s.new o).m s.nx = some o := by simp [S.new]
theorem new_ne (k : Nat) (o : Ob) (h : k ≠ s.nx) : (s.new o).m k = s.m k := by simp [S.new, h]
end
end Fl
namespace Fl
/-- a loop whose body goes on, or gives back -/
theorem forN_inv {tg : Tg} {iv : Iv} {body : Sl → S → XR} (n : Nat) (P : Nat → Sl → S → Prop)
    (hl : ∀ i r s, P i r s → i ≤ n → ivLen s iv = some n)
    (hb : ∀ i r s, P i r s → i < n → ∃ x r1 r' s' w, ivGet s i iv = some x ∧ tgSet s tg x r = some r1 ∧ body r1 s = some (.ok (w, r'), s') ∧ (w = .nx ∨ w = .ct) ∧ P (i + 1) r' s') :
    ∀ m i r s, P i r s → i ≤ n → n + 1 ≤ m + i → ∃ r' s', forN tg iv body m i r s = some (.ok (.nx, r'), s') ∧ P n r' s' := by
  intro m
  induction m with
  | zero => intro i r s _ h h'; omega
  | succ m ih =>
    intro i r s hp hi hm
    rw [forN, hl i r s hp hi]
    dsimp only
    by_cases h : i < n
    · rw [if_pos h]
      obtain ⟨x, r1, r', s', w, h1, h2, h3, h4, h5⟩ := hb i r s hp h
      rw [h1]
      dsimp only
      rw [h2]
      dsimp only
      rw [h3, bnd_ok]
      rcases h4 with rfl | rfl
      · exact ih (i + 1) r' s' h5 (by omega) (by omega)
      · exact ih (i + 1) r' s' h5 (by omega) (by omega)
    · rw [if_neg h]
      have : i = n := by omega
      subst this
      exact ⟨r, s, rfl, hp⟩
theorem for_inv {cf : CF} {tg : Tg} {b : Cs} {iv : Iv} {r : Sl} {s : S} (n : Nat) (P : Nat → Sl → S → Prop) (h0 : P 0 r s)
    (hl : ∀ i r s, P i r s → i ≤ n → ivLen s iv = some n)
    (hb : ∀ i r s, P i r s → i < n → ∃ x r1 r' s' w, ivGet s i iv = some x ∧ tgSet s tg x r = some r1 ∧ exs cf b r1 s = some (.ok (w, r'), s') ∧ (w = .nx ∨ w = .ct) ∧ P (i + 1) r' s') :
    ∃ r' s', forI cf tg b r s iv = some (.ok (.nx, r'), s') ∧ P n r' s' := by
  unfold forI
  rw [hl 0 r s h0 (Nat.zero_le _)]
  exact forN_inv n P hl hb (n + 1) 0 r s h0 (Nat.zero_le _) (by omega)
/-- over a list that stays -/
theorem for_lst {cf : CF} {t : Nat} {b : Cs} {xs : List D} {r : Sl} {s : S} (P : Nat → Sl → S → Prop) (h0 : P 0 r s)
    (hb : ∀ i r s x, P i r s → xs[i]? = some x → ∃ r' s', exs cf b (r.set t (some x)) s = some (.ok (.nx, r'), s') ∧ P (i + 1) r' s') :
    ∃ r' s', forI cf (.nm t) b r s (.seq (.lst xs)) = some (.ok (.nx, r'), s') ∧ P xs.length r' s' :=
  for_inv xs.length P h0 (fun _ _ _ _ _ => rfl) fun i r s hp hi => by
    obtain ⟨r', s', h1, h2⟩ := hb i r s xs[i] hp (List.getElem?_eq_getElem hi)
    exact ⟨xs[i], _, r', s', .nx, List.getElem?_eq_getElem hi, rfl, h1, .inl rfl, h2⟩
theorem for_rng {cf : CF} {t : Nat} {b : Cs} {n : Nat} {r : Sl} {s : S} (P : Nat → Sl → S → Prop) (h0 : P 0 r s)
    (hb : ∀ (i : Nat) r s, P i r s → i < n → ∃ r' s', exs cf b (r.set t (some (.int (i : Nat)))) s = some (.ok (.nx, r'), s') ∧ P (i + 1) r' s') :
    ∃ r' s', forI cf (.nm t) b r s (.rng 0 n) = some (.ok (.nx, r'), s') ∧ P n r' s' :=
  for_inv n P h0 (fun _ _ _ _ _ => rfl) fun i r s hp hi => by
    obtain ⟨r', s', h1, h2⟩ := hb i r s hp hi
    exact ⟨_, _, r', s', .nx, (by show some (D.int (0 + (i : Int))) = some (D.int (i : Int)); rw [Int.zero_add]), rfl, h1, .inl rfl, h2⟩
/-- a comprehension without a test whose store stays as P says -/
theorem lcN_inv {tg : Tg} {iv : Iv} {elt : Sl → S → R D} {r : Sl} (cf : CF) (n : Nat) (hn : n ≤ LIM) (P : List D → S → Prop)
    (hl : ∀ xs s, P xs s → ivLen s iv = some n)
    (hb : ∀ i xs s, P xs s → xs.length = i → i < n → ∃ x r1 d s', ivGet s i iv = some x ∧ tgSet s tg x r = some r1 ∧ elt r1 s = some (.ok d, s') ∧ P (xs ++ [d]) s') :
    ∀ m i acc s, P acc s → acc.length = i → i ≤ n → n + 1 ≤ m + i → ∃ xs s', lcN tg iv (evT cf .no) elt r m i acc s = some (.ok xs, s') ∧ P xs s' ∧ xs.length = n := by
  intro m
  induction m with
  | zero => intro i r s _ _ h h'; omega
  | succ m ih =>
    intro i acc s hp hi hin hm
    rw [lcN, hl acc s hp]
    dsimp only
    by_cases h : i < n
    · rw [if_pos h]
      obtain ⟨x, r1, d, s', h1, h2, h3, h4⟩ := hb i acc s hp hi h
      rw [h1]
      dsimp only
      rw [h2]
      simp only [evT, bnd_ok, if_true, h3]
      rw [if_pos (by omega)]
      exact ih (i + 1) _ s' h4 (by rw [List.length_append, hi]; rfl) (by omega) (by omega)
    · rw [if_neg h]
      have : i = n := by omega
      subst this
      exact ⟨acc, s, rfl, hp, hi⟩
theorem lc_inv {cf : CF} {tg : Tg} {iv : Iv} {e : E} {r : Sl} {s : S} (n : Nat) (hn : n ≤ LIM) (P : List D → S → Prop) (h0 : P [] s)
    (hl : ∀ xs s, P xs s → ivLen s iv = some n)
    (hb : ∀ i xs s, P xs s → xs.length = i → i < n → ∃ x r1 d s', ivGet s i iv = some x ∧ tgSet s tg x r = some r1 ∧ ev cf e r1 s = some (.ok d, s') ∧ P (xs ++ [d]) s') :
    ∃ xs s', lcI cf false e tg .no r s iv = some (.ok (.lst xs), s') ∧ P xs s' ∧ xs.length = n := by
  obtain ⟨xs, s', h1, h2, h3⟩ := lcN_inv cf n hn P hl hb (n + 1) 0 [] s h0 rfl (Nat.zero_le _) (by omega)
  refine ⟨xs, s', ?_, h2, h3⟩
  unfold lcI
  rw [hl [] s h0]
  dsimp only
  rw [h1]
  rfl
theorem lc_rng {cf : CF} {t : Nat} {e : E} {r : Sl} {s : S} (n : Nat) (hn : n ≤ LIM) (P : List D → S → Prop) (h0 : P [] s)
    (hb : ∀ (i : Nat) xs s, P xs s → xs.length = i → i < n → ∃ d s', ev cf e (r.set t (some (.int (i : Nat)))) s = some (.ok d, s') ∧ P (xs ++ [d]) s') :
    ∃ xs s', lcI cf false e (.nm t) .no r s (.rng 0 n) = some (.ok (.lst xs), s') ∧ P xs s' ∧ xs.length = n :=
  lc_inv n hn P h0 (fun _ _ _ => rfl) fun i xs s hp hx hi => by
    obtain ⟨d, s', h1, h2⟩ := hb i xs s hp hx hi
    exact ⟨_, _, d, s', (by show some (D.int (0 + (i : Int))) = some (D.int (i : Int)); rw [Int.zero_add]), rfl, h1, h2⟩
theorem kLst_0f {s : S} : kLst false (some (.ok [], s)) = some (.ok (.lst []), s) := (rfl)
theorem kLst_0t {s : S} : kLst true (some (.ok [], s)) = some (.ok (.ref s.nx), s.new (.lst [])) := (rfl)
theorem kLst_1f {s : S} (a : D) : kLst false (some (.ok [a], s)) = some (.ok (.lst [a]), s) := (rfl)
theorem kLst_1t {s : S} (a : D) : kLst true (some (.ok [a], s)) = some (.ok (.ref s.nx), s.new (.lst [a])) := (rfl)
theorem kLst_2f {s : S} (a b : D) : kLst false (some (.ok [a, b], s)) = some (.ok (.lst [a, b]), s) := (rfl)
theorem kLst_2t {s : S} (a b : D) : kLst true (some (.ok [a, b], s)) = some (.ok (.ref s.nx), s.new (.lst [a, b])) := (rfl)
theorem kLst_3f {s : S} (a b c : D) : kLst false (some (.ok [a, b, c], s)) = some (.ok (.lst [a, b, c]), s) := (rfl)
theorem kLst_3t {s : S} (a b c : D) : kLst true (some (.ok [a, b, c], s)) = some (.ok (.ref s.nx), s.new (.lst [a, b, c])) := (rfl)
theorem kLst_4f {s : S} (a b c d : D) : kLst false (some (.ok [a, b, c, d], s)) = some (.ok (.lst [a, b, c, d]), s) := (rfl)
theorem kLst_4t {s : S} (a b c d : D) : kLst true (some (.ok [a, b, c, d], s)) = some (.ok (.ref s.nx), s.new (.lst [a, b, c, d])) := (rfl)
theorem kLst_5f {s : S} (a b c d e : D) : kLst false (some (.ok [a, b, c, d, e], s)) = some (.ok (.lst [a, b, c, d, e]), s) := (rfl)
theorem kLst_6f {s : S} (a b c d e f : D) : kLst false (some (.ok [a, b, c, d, e, f], s)) = some (.ok (.lst [a, b, c, d, e, f]), s) := (rfl)
theorem kLst_7f {s : S} (a b c d e f g : D) : kLst false (some (.ok [a, b, c, d, e, f, g], s)) = some (.ok (.lst [a, b, c, d, e, f, g]), s) := (rfl)
theorem kLst_8f {s : S} (a b c d e f g h : D) : kLst false (some (.ok [a, b, c, d, e, f, g, h], s)) = some (.ok (.lst [a, b, c, d, e, f, g, h]), s) := (rfl)
theorem at_4 {α : Type} (a b c d e : α) (t : List α) : atI (a :: b :: c :: d :: e :: t) 4 = some e := by
  unfold atI ixN
  rw [if_pos (by omega), if_pos (by simp only [List.length_cons]; omega)]
  rfl
theorem at_5 {α : Type} (a b c d e f : α) (t : List α) : atI (a :: b :: c :: d :: e :: f :: t) 5 = some f := by
  unfold atI ixN
  rw [if_pos (by omega), if_pos (by simp only [List.length_cons]; omega)]
  rfl
theorem at_6 {α : Type} (a b c d e f g : α) (t : List α) : atI (a :: b :: c :: d :: e :: f :: g :: t) 6 = some g := by
  unfold atI ixN
  rw [if_pos (by omega), if_pos (by simp only [List.length_cons]; omega)]
  rfl
theorem at_7 {α : Type} (a b c d e f g h : α) (t : List α) : atI (a :: b :: c :: d :: e :: f :: g :: h :: t) 7 = some h := by
  unfold atI ixN
  rw [if_pos (by omega), if_pos (by simp only [List.length_cons]; omega)]
  rfl
theorem at_8 {α : Type} (a b c d e f g h i : α) (t : List α) : atI (a :: b :: c :: d :: e :: f :: g :: h :: i :: t) 8 = some i := by
  unfold atI ixN
  rw [if_pos (by omega), if_pos (by simp only [List.length_cons]; omega)]
  rfl
theorem ix_str (x : List Nat) (i : Int) {s : S} (hx : x.length ≤ LIM) (h0 : 0 ≤ i) (h1 : i < x.length) : ∃ c, idxD s (.str x) (.int i) = some (.str [c]) ∧ c ∈ x := by
  obtain ⟨c, h, hc⟩ := at_get x i h0 h1
  refine ⟨c, ?_, hc⟩
  rw [i_str', if_pos hx, h]
  rfl
theorem lt_5 {v : Int} (h0 : 0 ≤ v) (h : v < 5) : v = 0 ∨ v = 1 ∨ v = 2 ∨ v = 3 ∨ v = 4 := by omega
theorem len0 {q : Sl} (h : q.length = 0) : q = [] := List.length_eq_zero_iff.mp h
theorem lenS {q : Sl} {n : Nat} (h : q.length = n + 1) : ∃ w p, q = w :: p ∧ p.length = n := by
  cases q with
  | nil => cases h
  | cons w p => exact ⟨w, p, rfl, by simpa using h⟩
theorem len1 {q : Sl} (h : q.length = 1) : ∃ w1, q = [w1] := by
  obtain ⟨w, p, rfl, g⟩ := lenS h
  cases len0 g
  exact ⟨_, rfl⟩
theorem len2 {q : Sl} (h : q.length = 2) : ∃ w1 w2, q = [w1, w2] := by
  obtain ⟨w, p, rfl, g⟩ := lenS h
  obtain ⟨w1, rfl⟩ := len1 g
  exact ⟨_, _, rfl⟩
theorem len3 {q : Sl} (h : q.length = 3) : ∃ w1 w2 w3, q = [w1, w2, w3] := by
  obtain ⟨w, p, rfl, g⟩ := lenS h
  obtain ⟨w1, w2, rfl⟩ := len2 g
  exact ⟨_, _, _, rfl⟩
theorem len4 {q : Sl} (h : q.length = 4) : ∃ w1 w2 w3 w4, q = [w1, w2, w3, w4] := by
  obtain ⟨w, p, rfl, g⟩ := lenS h
  obtain ⟨w1, w2, w3, rfl⟩ := len3 g
  exact ⟨_, _, _, _, rfl⟩
theorem len5 {q : Sl} (h : q.length = 5) : ∃ w1 w2 w3 w4 w5, q = [w1, w2, w3, w4, w5] := by
  obtain ⟨w, p, rfl, g⟩ := lenS h
  obtain ⟨w1, w2, w3, w4, rfl⟩ := len4 g
  exact ⟨_, _, _, _, _, rfl⟩
/-- a box of ints, and what else stays -/
noncomputable def Keep (s s' : S) (n : Nat) : Prop := s'.nx = s.nx ∧ ∀ k, k ≠ n → s'.m k = s.m k
theorem ix_0 {α : Type} (a : α) (l : List α) : ixN (a :: l).length 0 = some 0 := by
  unfold ixN
  rw [if_pos (by omega), if_pos (by simp only [List.length_cons]; omega)]
  rfl
theorem ix_1 {α : Type} (a b : α) (l : List α) : ixN (a :: b :: l).length 1 = some 1 := by
  unfold ixN
  rw [if_pos (by omega), if_pos (by simp only [List.length_cons]; omega)]
  rfl
end Fl
namespace Fl
mutual
theorem eqD_refl : ∀ (k : Nat) (d : D), shp k d = true → eqD d d = true
  | _, .non, _ => by simp only [eqD]
  | _, .bl b, _ => by simp [eqD]
  | _, .int i, _ => by simp [eqD]
  | _, .str x, _ => by simp [eqD]
  | 0, .tup xs, h => by simp [shp] at h
  | 0, .lst xs, h => by simp [shp] at h
  | k + 1, .tup xs, h => by
    simp only [shp] at h
    simp only [eqD]
    exact eqL_refl k xs h
  | k + 1, .lst xs, h => by
    simp only [shp] at h
    simp only [eqD]
    exact eqL_refl k xs h
  | 0, .ref _, h => by simp [shp] at h
  | k + 1, .ref _, h => by simp [shp] at h
  | 0, .scr _, h => by simp [shp] at h
  | k + 1, .scr _, h => by simp [shp] at h
theorem eqL_refl : ∀ (k : Nat) (xs : List D), shpL k xs = true → eqL xs xs = true
  | _, [], _ => by simp only [eqL]
  | k, x :: xs, h => by
    simp only [shpL, Bool.and_eq_true] at h
    simp only [eqL, Bool.and_eq_true]
    exact ⟨eqD_refl k x h.1, eqL_refl k xs h.2⟩
end
theorem q_reflL {s : S} {xs : List D} (h : shp 60 (.lst xs) = true) : eqS s (.lst xs) (.lst xs) = some true := by
  rw [q_lst _ _ (by rw [h]; rfl), eqD_refl 60 _ h]
/-- deeds -/
inductive Dd where
  | put (p : Int) (c : Nat)
  | cut (p : Int)
  | non
noncomputable def Dd.d : Dd → D
  | .put p c => .tup [.str [112, 117, 116], .int p, .str [c]]
  | .cut p => .tup [.str [99, 117, 116], .int p]
  | .non => .tup [.str [110, 111, 110, 101]]
noncomputable def Dd.ok : Dd → Prop
  | .put _ c => c < 1114112
  | _ => True
theorem Dd.shp {d : Dd} (h : d.ok) : shp 60 d.d = true := by
  cases d with
  | put p c =>
    have : c < 1114112 := h
    simp [Dd.d, Fl.shp, Fl.shpL, this]
  | cut p => simp [Dd.d, Fl.shp, Fl.shpL]
  | non => simp [Dd.d, Fl.shp, Fl.shpL]
noncomputable def mv : Dd → Dd → Bool → Dd
  | .put p c, .put q _, f => if q < p ∨ (q = p ∧ f = false) then .put (p + 1) c else .put p c
  | .cut p, .put q _, _ => if q ≤ p then .cut (p + 1) else .cut p
  | .put p c, .cut q, _ => if q < p then .put (p - 1) c else .put p c
  | .cut p, .cut q, _ => if q < p then .cut (p - 1) else if q = p then .non else .cut p
  | d, .non, _ => d
  | .non, _, _ => .non
end Fl
namespace Fl
theorem t_no {cf : CF} {r : Sl} {s : S} : evT cf .no r s = some (.ok true, s) := by simp only [evT]
noncomputable def kT (q : R D) : R Bool := bnd q fun x s => lft (truth s x) s
theorem t_so {cf : CF} {r : Sl} {s : S} (e : E) : evT cf (.so e) r s = kT (ev cf e r s) := by simp only [evT]; rfl
theorem kT_b {s : S} (b : Bool) : kT (some (.ok (.bl b), s)) = some (.ok b, s) := (rfl)
theorem mt_ref {s : S} {n : Nat} {xs : List D} (h : s.m n = some (.lst xs)) (m : Mt) (hm : m = .append ∨ m = .pop ∨ m = .popAt ∨ m = .insert) : mtOk s m (.ref n) = true := by
  have : lcont s (.ref n) = some xs := by simp only [lcont, h]
  rcases hm with rfl | rfl | rfl | rfl <;> simp only [mtOk, this, Option.isSome]
theorem m_append {s : S} {n : Nat} {xs : List D} {y : D} (h : s.m n = some (.lst xs)) (hx : xs.length < LIM) : metD s .append (.ref n) [y] = some (.ok .non, s.put n (.lst (xs ++ [y]))) := by
  show appD s (.ref n) [y] = _
  simp only [appD, h]
  rw [if_pos hx]
theorem lr_f {s : S} (n : Int) (h : 0 ≤ n ∧ n ≤ 1000000) : lrngD s false [.int n] = some (.ok (.lst (rngL n)), s) := by
  show (if n ≤ 1000000 ∧ -1000000 ≤ n then mkL false (rngL n) s else none) = _
  rw [if_pos (by omega)]
  rfl
noncomputable def kDg2 (tab : List (List Nat × Int)) (x : D) (q : R D) : R D := bnd q fun y s => dgetD tab x y s
noncomputable def kDg1 (cf : CF) (tab : List (List Nat × Int)) (d : E) (r : Sl) (q : R D) : R D := bnd q fun x s => kDg2 tab x (ev cf d r s)
theorem e_dget {cf : CF} {r : Sl} {s : S} (f : String) (tab : List (List Nat × Int)) (k d : E) : ev cf (.dget f tab k d) r s = kDg1 cf tab d r (ev cf k r s) := by simp only [ev]; rfl
theorem kDg1_ok {cf : CF} {r : Sl} {s : S} (tab : List (List Nat × Int)) (d : E) (x : D) : kDg1 cf tab d r (some (.ok x, s)) = kDg2 tab x (ev cf d r s) := (rfl)
theorem kDg2_ok {s : S} (tab : List (List Nat × Int)) (z : List Nat) (y : D) : kDg2 tab (.str z) (some (.ok y, s)) = some (.ok (match tab.find? fun p => p.1 == z with | some p => .int p.2 | none => y), s) := (rfl)
/-- older boxes stay -/
noncomputable def Old (s s' : S) : Prop := s.nx ≤ s'.nx ∧ ∀ j, j < s.nx → s'.m j = s.m j
theorem Old.rfl {s : S} : Old s s := ⟨Nat.le_refl _, fun _ _ => Eq.refl _⟩
theorem Old.trans {s t u : S} (h : Old s t) (g : Old t u) : Old s u := ⟨Nat.le_trans h.1 g.1, fun j hj => (g.2 j (Nat.lt_of_lt_of_le hj h.1)).trans (h.2 j hj)⟩
theorem Old.new {s : S} (o : Ob) : Old s (s.new o) := ⟨Nat.le_succ _, fun j hj => new_ne j o (Nat.ne_of_lt hj)⟩
theorem Old.put {s t : S} {n : Nat} (o : Ob) (h : Old s t) (hn : s.nx ≤ n) : Old s (t.put n o) := ⟨h.1, fun j hj => (put_ne n j o (by omega)).trans (h.2 j hj)⟩
theorem Old.kill {s t : S} {n : Nat} (h : Old s t) (hn : s.nx ≤ n) : Old s (t.kill n) := ⟨h.1, fun j hj => by
  have : j ≠ n := by omega
  simp only [S.kill, this, if_false]
  exact h.2 j hj⟩
end Fl
namespace Fl
theorem b_len1 {s : S} (c : Nat) : biD s .len [.str [c]] = some (.ok (.int 1), s) := (rfl)
theorem b_lenStr {s : S} {x : List Nat} (h : x.length ≤ LIM) : biD s .len [.str x] = some (.ok (.int x.length), s) := by
  rw [b_lenS, if_pos h]
theorem cut_to {α : Type} (x : List α) (p : Nat) : cut x none (some (p : Int)) = x.take p := by
  unfold cut sIx
  dsimp only
  rw [if_neg (by omega), List.drop_zero, Nat.sub_zero, Int.toNat_natCast]
  rcases Nat.le_total p x.length with h1 | h1
  · rw [Nat.min_eq_left h1]
  · rw [Nat.min_eq_right h1, List.take_of_length_le (Nat.le_refl _), List.take_of_length_le h1]
theorem cut_from {α : Type} (x : List α) (p : Nat) : cut x (some (p : Int)) none = x.drop p := by
  unfold cut sIx
  dsimp only
  rw [if_neg (by omega), Int.toNat_natCast]
  rcases Nat.le_total p x.length with h1 | h1
  · rw [Nat.min_eq_left h1, List.take_of_length_le (by rw [List.length_drop]; omega)]
  · rw [Nat.min_eq_right h1, List.drop_eq_nil_of_le (Nat.le_refl _), List.drop_eq_nil_of_le h1]
    simp
theorem sl_str {s : S} {bx : Bool} {x : List Nat} {l h : Option Int} (hx : x.length ≤ LIM) : sliD s bx (.str x) l h = some (.ok (.str (cut x l h)), s) := by
  show (if x.length ≤ LIM then some (Rs.ok (D.str (cut x l h)), s) else none) = _
  rw [if_pos hx]
end Fl
namespace Fl
theorem txts_map : ∀ cs : List Nat, txts (cs.map fun c => D.str [c]) = some (cs.map fun c => [c])
  | [] => rfl
  | c :: cs => by
    rw [List.map_cons, List.map_cons]
    simp only [txts, txtOf, txts_map cs]
    rfl
theorem join_map : ∀ cs : List Nat, joinT [] (cs.map fun c => [c]) = cs
  | [] => rfl
  | [c] => rfl
  | c :: d :: cs => by
    have ih := join_map (d :: cs)
    rw [List.map_cons] at ih
    rw [List.map_cons, List.map_cons]
    simp only [joinT, List.nil_append]
    rw [ih]
    rfl
theorem sum_map : ∀ cs : List Nat, sumLen (cs.map fun c => [c]) = cs.length
  | [] => rfl
  | c :: cs => by
    rw [List.map_cons]
    simp only [sumLen, sum_map cs, List.length_cons, List.length_nil]
    omega
theorem m_join {s : S} (cs : List Nat) (h : cs.length ≤ 1000000) : metD s .join (.str []) [.lst (cs.map fun c => D.str [c])] = some (.ok (.str cs), s) := by
  show joinD s (.str []) [.lst (cs.map fun c => D.str [c])] = _
  simp only [joinD, cont, lcont, Option.bind_some, txts_map]
  rw [if_pos (by rw [sum_map]; simp only [List.length_nil, Nat.zero_mul, Nat.add_zero]; unfold LIM; omega), join_map]
theorem mt_join {s : S} (x : List Nat) : mtOk s .join (.str x) = true := by
  simp only [mtOk]
end Fl
namespace Fl
section
variable {cf : CF} {r : Sl} {s : S}
noncomputable def fldD (s : S) (f : String) (x : D) : R D := match x with
    | .ref n => match s.m n with
      | some (.ins _ fs) => lft (fs.lookup f) s
      | _ => none
    | _ => none
noncomputable def kFld (f : String) (q : R D) : R D := bnd q fun x s => fldD s f x
theorem e_fld (o : E) (f : String) : ev cf (.fld o f) r s = kFld f (ev cf o r s) := by simp only [ev]; rfl
theorem kFld_ok (f : String) (x : D) : kFld f (some (.ok x, s)) = fldD s f x := (rfl)
noncomputable def kOwn2 (cf : CF) (c m : String) (x : D) (q : R (List D)) : R D := bnd q fun xs s => if c = "" then none else cf c m (x :: xs) s
noncomputable def kOwn (cf : CF) (m : String) (es : Es) (r : Sl) (q : R D) : R D := bnd q fun x s => match x with
    | .ref n => match s.m n with
      | some (.ins c fs) => match fs.lookup m with
        | none => kOwn2 cf c m x (evs cf es r s)
        | some _ => none
      | _ => none
    | _ => none
theorem e_own (o : E) (m : String) (es : Es) : ev cf (.own o m es) r s = kOwn cf m es r (ev cf o r s) := by simp only [ev]; rfl
theorem kOwn2_ok (c m : String) (x : D) (xs : List D) (hc : c ≠ "") : kOwn2 cf c m x (some (.ok xs, s)) = cf c m (x :: xs) s := by
  show (if c = "" then none else cf c m (x :: xs) s) = _
  rw [if_neg hc]
noncomputable def kMak2 (n : Nat) (q : R D) : R D := bnd q fun v s => match v with
    | .non => some (.ok (.ref n), s)
    | _ => none
noncomputable def kMak (cf : CF) (c : String) (q : R (List D)) : R D := bnd q fun xs s => kMak2 s.nx (cf c "__init__" (.ref s.nx :: xs) (s.new (.ins c [])))
theorem e_mak (c : String) (es : Es) : ev cf (.mak c es) r s = kMak cf c (evs cf es r s) := by simp only [ev]; rfl
theorem kMak_ok (c : String) (xs : List D) : kMak cf c (some (.ok xs, s)) = kMak2 s.nx (cf c "__init__" (.ref s.nx :: xs) (s.new (.ins c []))) := (rfl)
theorem kMak2_ok (n : Nat) : kMak2 n (some (.ok .non, s)) = some (.ok (.ref n), s) := (rfl)
noncomputable def setfD (r : Sl) (f : String) (v x : D) (s : S) : XR := match x with
    | .ref n => match s.m n with
      | some (.ins c fs) => if fs.length < 900 then some (.ok (.nx, r), s.put n (.ins c (setF f v fs))) else none
      | _ => none
    | _ => none
noncomputable def kSf2 (f : String) (r : Sl) (v : D) (q : R D) : XR := bnd q fun x s => setfD r f v x s
noncomputable def kSf (cf : CF) (o : E) (f : String) (r : Sl) (q : R D) : XR := bnd q fun v s => kSf2 f r v (ev cf o r s)
theorem s_setf (o : E) (f : String) (e : E) : ex cf (.setf o f e) r s = kSf cf o f r (ev cf e r s) := by simp only [ex]; rfl
theorem kSf_ok (o : E) (f : String) (v : D) : kSf cf o f r (some (.ok v, s)) = kSf2 f r v (ev cf o r s) := (rfl)
theorem kSf2_ok (f : String) (v x : D) : kSf2 f r v (some (.ok x, s)) = setfD r f v x s := (rfl)
noncomputable def kAf2 (r : Sl) (n : Nat) (c0 f : String) (p : Bop) (a : Int) (q : R D) : XR := bnd q fun y s => match y with
          | .int b => match s.m n with
            | some (.ins c fs) => if c = c0 ∧ fs.length < 900 then match p with
              | .add => some (.ok (.nx, r), s.put n (.ins c (setF f (.int (a + b)) fs)))
              | .sub => some (.ok (.nx, r), s.put n (.ins c (setF f (.int (a - b)) fs)))
              | _ => none
              else none
            | _ => none
          | _ => none
noncomputable def kAf (cf : CF) (f : String) (p : Bop) (e : E) (r : Sl) (q : R D) : XR := bnd q fun x s => match x with
    | .ref n => match s.m n with
      | some (.ins c0 fs) => match fs.lookup f with
        | some (.int a) => kAf2 r n c0 f p a (ev cf e r s)
        | _ => none
      | _ => none
    | _ => none
theorem s_augf (o : E) (f : String) (p : Bop) (e : E) : ex cf (.augf o f p e) r s = kAf cf f p e r (ev cf o r s) := by simp only [ex]; rfl
noncomputable def kPar2 (i j : Nat) (r : Sl) (x : D) (q : R D) : XR := bnd q fun y s => some (.ok (.nx, (r.set i (some x)).set j (some y)), s)
noncomputable def kPar (cf : CF) (i j : Nat) (b : E) (r : Sl) (q : R D) : XR := bnd q fun x s => kPar2 i j r x (ev cf b r s)
theorem s_par (i j : Nat) (a b : E) : ex cf (.par i j a b) r s = kPar cf i j b r (ev cf a r s) := by simp only [ex]; rfl
theorem kPar_ok (i j : Nat) (b : E) (x : D) : kPar cf i j b r (some (.ok x, s)) = kPar2 i j r x (ev cf b r s) := (rfl)
theorem kPar2_ok (i j : Nat) (x y : D) : kPar2 i j r x (some (.ok y, s)) = some (.ok (.nx, (r.set i (some x)).set j (some y)), s) := (rfl)
noncomputable def kDsp (ks : List (List Nat)) (q : R (List D)) : R D := bnd q fun xs s => if xs.length = ks.length ∧ ks.length ≤ 15 then some (.ok (.ref s.nx), s.new (.dic (dmk ks xs))) else none
theorem e_dsp (ks : List (List Nat)) (vs : Es) : ev cf (.dsp ks vs) r s = kDsp ks (evs cf vs r s) := by simp only [ev]; rfl
noncomputable def kRpt2 (bx : Bool) (x : D) (q : R D) : R D := bnd q fun y s => match ccont s x, y with
    | some xs, .int k => if -(2 ^ 63) ≤ k ∧ k < 2 ^ 63 ∧ xs.length * k.toNat ≤ LIM then mkL bx (List.replicate k.toNat xs).flatten s else none
    | _, _ => none
noncomputable def kRpt (cf : CF) (bx : Bool) (b : E) (r : Sl) (q : R D) : R D := bnd q fun x s => kRpt2 bx x (ev cf b r s)
noncomputable def kRev (bx : Bool) (q : R D) : R D := bnd q fun x s => match x with
    | .str z => if z.length ≤ LIM then some (.ok (.str z.reverse), s) else none
    | .tup zs => some (.ok (.tup zs.reverse), s)
    | x => match lcont s x with
      | some xs => mkL bx xs.reverse s
      | none => none
theorem e_rev (bx : Bool) (a : E) : ev cf (.rev bx a) r s = kRev bx (ev cf a r s) := by simp only [ev]; rfl
theorem kRev_t (bx : Bool) (xs : List D) : kRev bx (some (.ok (.tup xs), s)) = some (.ok (.tup xs.reverse), s) := (rfl)
theorem kRev_s (bx : Bool) (x : List Nat) : kRev bx (some (.ok (.str x), s)) = if x.length ≤ LIM then some (.ok (.str x.reverse), s) else none := (rfl)
theorem e_dnt : ev cf .dnt r s = some (.ok (.ref s.nx), s.new (.dit [])) := by simp only [ev]
noncomputable def kRpr (q : R D) : R D := bnd q fun x s => lft (reprD s x) s
theorem e_rpr (a : E) : ev cf (.rpr a) r s = kRpr (ev cf a r s) := by simp only [ev]; rfl
theorem kRpr_ok (x : D) : kRpr (some (.ok x, s)) = lft (reprD s x) s := (rfl)
noncomputable def kDv3 (x y : D) (q : R D) : R D := bnd q fun z s => dgvD s x y z
noncomputable def kDv2 (cf : CF) (d : E) (r : Sl) (x : D) (q : R D) : R D := bnd q fun y s => kDv3 x y (ev cf d r s)
noncomputable def kDv1 (cf : CF) (k d : E) (r : Sl) (q : R D) : R D := bnd q fun x s => if (dcont s x).isSome || (tcont s x).isSome then kDv2 cf d r x (ev cf k r s) else none
theorem e_dgv (o k d : E) : ev cf (.dgv o k d) r s = kDv1 cf k d r (ev cf o r s) := by simp only [ev]; rfl
theorem kDv2_ok (d : E) (x y : D) : kDv2 cf d r x (some (.ok y, s)) = kDv3 x y (ev cf d r s) := (rfl)
theorem kRev_f (xs : List D) : kRev false (some (.ok (.lst xs), s)) = some (.ok (.lst xs.reverse), s) := (rfl)
noncomputable def kDsv2 (x : D) (q : R D) : R D := bnd q fun y s => match x with
    | .str z => some (.ok (.ref s.nx), s.new (.dic (dmk [z] [y])))
    | _ => none
noncomputable def kDsv (cf : CF) (b : E) (r : Sl) (q : R D) : R D := bnd q fun x s => kDsv2 x (ev cf b r s)
theorem e_dsv (a b : E) : ev cf (.dsv a b) r s = kDsv cf b r (ev cf a r s) := by simp only [ev]; rfl
theorem kDsv_ok (b : E) (x : D) : kDsv cf b r (some (.ok x, s)) = kDsv2 x (ev cf b r s) := (rfl)
theorem kDsv2_ok (z : List Nat) (y : D) : kDsv2 (.str z) (some (.ok y, s)) = some (.ok (.ref s.nx), s.new (.dic (dmk [z] [y]))) := (rfl)
noncomputable def kLset (q : R D) : R D := bnd q fun x s => lft ((lcont s x).bind lsetD) s
theorem e_lset (a : E) : ev cf (.lset a) r s = kLset (ev cf a r s) := by simp only [ev]; rfl
theorem kLset_l (xs : List D) : kLset (some (.ok (.lst xs), s)) = lft (lsetD xs) s := (rfl)
theorem e_rpt (bx : Bool) (a b : E) : ev cf (.rpt bx a b) r s = kRpt cf bx b r (ev cf a r s) := by simp only [ev]; rfl
theorem kRpt_ok (bx : Bool) (b : E) (x : D) : kRpt cf bx b r (some (.ok x, s)) = kRpt2 bx x (ev cf b r s) := (rfl)
theorem kRpt2_f (xs : List D) (k : Nat) (h : xs.length * k ≤ 1000000 ∧ k ≤ 1000000) : kRpt2 false (.lst xs) (some (.ok (.int (k : Nat)), s)) = some (.ok (.lst (List.replicate k xs).flatten), s) := by
  have hc : ccont s (.lst xs) = some xs := by simp only [ccont]
  unfold kRpt2
  rw [bnd_ok, hc]
  dsimp only
  rw [Int.toNat_natCast, if_pos ⟨by omega, by omega, by unfold LIM; omega⟩]
  simp only [mkL]
  rfl
noncomputable def kIsit (ts : List Ty) (q : R D) : R D := bnd q fun x s => lft ((isiTD s x ts).map .bl) s
theorem e_isit (a : E) (ts : List Ty) : ev cf (.isit a ts) r s = kIsit ts (ev cf a r s) := by simp only [ev]; rfl
theorem kIsit_ok (ts : List Ty) (x : D) : kIsit ts (some (.ok x, s)) = lft ((isiTD s x ts).map .bl) s := (rfl)
theorem nt_int (i : Int) (ts : List Ty) : isiTD s (.int i) ts = some (ts.any fun t => subTy .int t) := (rfl)
theorem nt_str (i : List Nat) (ts : List Ty) : isiTD s (.str i) ts = some (ts.any fun t => subTy .str t) := (rfl)
theorem nt_bl (i : Bool) (ts : List Ty) : isiTD s (.bl i) ts = some (ts.any fun t => subTy .bool t) := (rfl)
theorem nt_tup (i : List D) (ts : List Ty) : isiTD s (.tup i) ts = some (ts.any fun t => subTy .tuple t) := (rfl)
theorem nt_lst (i : List D) (ts : List Ty) : isiTD s (.lst i) ts = some (ts.any fun t => subTy .list t) := (rfl)
theorem nt_non (ts : List Ty) : isiTD s .non ts = some false := (rfl)
end
noncomputable def kZip2 (x : D) (q : R D) : R Iv := bnd q fun y s => match lcont s x, lcont s y with
    | some _, some _ => some (.ok (.zip x y), s)
    | _, _ => none
noncomputable def kZip (cf : CF) (b : E) (r : Sl) (q : R D) : R Iv := bnd q fun x s => kZip2 x (ev cf b r s)
theorem t_zip {cf : CF} {r : Sl} {s : S} (a b : E) : evI cf (.zip a b) r s = kZip cf b r (ev cf a r s) := by simp only [evI]; rfl
theorem kZip_ok {cf : CF} {r : Sl} {s : S} (b : E) (x : D) : kZip cf b r (some (.ok x, s)) = kZip2 x (ev cf b r s) := (rfl)
theorem kZip2_l {s : S} (xs ys : List D) : kZip2 (.lst xs) (some (.ok (.lst ys), s)) = some (.ok (.zip (.lst xs) (.lst ys)), s) := (rfl)
end Fl
namespace Fl
section
variable {cf : CF} {r : Sl} {s : S}
noncomputable def idxO (k : D) : Option Ob → Option D
  | some (.lst xs) => match k with
    | .int i => atI xs i
    | _ => none
  | some (.dic kvs) => (keyOf k).bind (dlook kvs)
  | some (.dit kvs) => (keyT k).bind (dlook kvs)
  | _ => none
theorem idxO_dit (k : D) (kvs : List (List DK × D)) : idxO k (some (.dit kvs)) = (keyT k).bind (dlook kvs) := (rfl)
noncomputable def kXsf (cf : CF) (o : E) (f : String) (r : Sl) (q : R D) : XR := bnr q r fun v s => kSf2 f r v (ev cf o r s)
theorem s_xsetf (o : E) (f : String) (x : Xe) : ex cf (.xsetf o f x) r s = kXsf cf o f r (evx cf x r s) := by simp only [ex]; rfl
theorem kXsf_ok (o : E) (f : String) (v : D) : kXsf cf o f r (some (.ok v, s)) = kSf2 f r v (ev cf o r s) := (rfl)
theorem kXsf_er (o : E) (f : String) (c : String) : kXsf cf o f r (some (.er c, s)) = some (.ok (.rz c, r), s) := (rfl)
theorem eq_nil {n : Nat} {xs : List D} (h : s.m n = some (.lst xs)) (hs : shpL 59 xs = true) : eqS s (.ref n) (.lst []) = some xs.isEmpty := by
  have h1 : opn s (.ref n) = .lst xs := by simp only [opn, h]
  have h2 : shp 60 (.lst xs) = true := by simp only [shp]; exact hs
  have h3 : shp 60 (.lst []) = true := by decide
  show (if (shp 60 (opn s (.ref n)) && shp 60 (opn s (.lst []))) = true then some (eqD (opn s (.ref n)) (opn s (.lst []))) else _) = _
  have h4 : opn s (.lst []) = .lst [] := rfl
  rw [h1, h4, h2, h3]
  simp only [Bool.and_self, if_true]
  cases xs <;> simp only [eqD, eqL, List.isEmpty]
end
/-- what may have changed -/
noncomputable def Fr (s s' : S) (M : List Nat) : Prop := s.nx ≤ s'.nx ∧ ∀ j, j < s.nx → j ∉ M → s'.m j = s.m j
theorem Fr.rfl {s : S} {M : List Nat} : Fr s s M := ⟨Nat.le_refl _, fun _ _ _ => Eq.refl _⟩
theorem Fr.trans {s t u : S} {M : List Nat} (h : Fr s t M) (g : Fr t u M) : Fr s u M := ⟨Nat.le_trans h.1 g.1, fun j hj hm => (g.2 j (Nat.lt_of_lt_of_le hj h.1) hm).trans (h.2 j hj hm)⟩
theorem Fr.mono {s t : S} {M N : List Nat} (h : Fr s t M) (g : ∀ j ∈ M, j ∈ N) : Fr s t N := ⟨h.1, fun j hj hm => h.2 j hj fun z => hm (g j z)⟩
theorem Fr.put {s t : S} {M : List Nat} {n : Nat} (o : Ob) (h : Fr s t M) (hn : n ∈ M ∨ s.nx ≤ n) : Fr s (t.put n o) M := ⟨h.1, fun j hj hm => (put_ne n j o (by
  rintro rfl
  rcases hn with hn | hn
  · exact hm hn
  · omega)).trans (h.2 j hj hm)⟩
theorem Fr.new {s t : S} {M : List Nat} (o : Ob) (h : Fr s t M) : Fr s (t.new o) M := ⟨Nat.le_succ_of_le h.1, fun j hj hm => (new_ne j o (by have := h.1; omega)).trans (h.2 j hj hm)⟩
theorem Fr.old {s t : S} (h : Old s t) (M : List Nat) : Fr s t M := ⟨h.1, fun j hj _ => h.2 j hj⟩
theorem Fr.keep {s t : S} {n : Nat} (h : t.nx = s.nx ∧ ∀ j, j ≠ n → t.m j = s.m j) : Fr s t [n] := ⟨Nat.le_of_eq h.1.symm, fun j _ hm => h.2 j (by simpa using hm)⟩
theorem Keep.trans {s t u : S} {n : Nat} (h : Keep s t n) (g : Keep t u n) : Keep s u n := ⟨g.1.trans h.1, fun j hj => (g.2 j hj).trans (h.2 j hj)⟩
theorem kTpa_4 {r : Sl} {s : S} (i j k l : Nat) (x y z w : D) : kTpa [i, j, k, l] r (some (.ok (.tup [x, y, z, w]), s)) = some (.ok (.nx, (((r.set i (some x)).set j (some y)).set k (some z)).set l (some w)), s) := (rfl)
theorem whl_by {cf : CF} {c : E} {b : Cs} (P : Nat → Sl → S → Prop) (h0 : ∀ r s, P 0 r s → ev cf c r s = some (.ok (.bl false), s))
    (h1 : ∀ n r s, P (n + 1) r s → ev cf c r s = some (.ok (.bl true), s) ∧ ∃ r' s', exs cf b r s = some (.ok (.nx, r'), s') ∧ P n r' s') :
    ∀ n m r s, P n r s → n < m → ∃ r' s', whlN (ev cf c) (exs cf b) m r s = some (.ok (.nx, r'), s') ∧ P 0 r' s'
  | 0, 0, r, s, hp, hm => by omega
  | 0, m + 1, r, s, hp, hm => by
    refine ⟨r, s, ?_, hp⟩
    rw [whlN, h0 r s hp]
    rfl
  | n + 1, 0, r, s, hp, hm => by omega
  | n + 1, m + 1, r, s, hp, hm => by
    obtain ⟨e1, r', s', e2, hp'⟩ := h1 n r s hp
    obtain ⟨r2, s2, e3, hp2⟩ := whl_by P h0 h1 n m r' s' hp' (by omega)
    refine ⟨r2, s2, ?_, hp2⟩
    rw [whlN, e1]
    show bnd (exs cf b r s) _ = _
    rw [e2]
    exact e3
end Fl
namespace Fl
section
variable {cf : CF} {r : Sl} {s : S}
noncomputable def kAny (q : R D) : R Iv := bnd q fun x s => match x with
  | .tup xs => some (.ok (.seq (.tup xs)), s)
  | x => match lcont s x with
    | some _ => some (.ok (.seq x), s)
    | none => none
theorem t_any (e : E) : evI cf (.any e) r s = kAny (ev cf e r s) := by simp only [evI] <;> rfl
theorem kAny_t (xs : List D) : kAny (some (.ok (.tup xs), s)) = some (.ok (.seq (.tup xs)), s) := (rfl)
theorem kAny_l (xs : List D) : kAny (some (.ok (.lst xs), s)) = some (.ok (.seq (.lst xs)), s) := (rfl)
noncomputable def kPar3c (i j l : Nat) (r : Sl) (x y : D) (q : R D) : XR := bnd q fun z s => some (.ok (.nx, ((r.set i (some x)).set j (some y)).set l (some z)), s)
noncomputable def kPar3b (cf : CF) (i j l : Nat) (c : E) (r : Sl) (x : D) (q : R D) : XR := bnd q fun y s => kPar3c i j l r x y (ev cf c r s)
noncomputable def kPar3a (cf : CF) (i j l : Nat) (b c : E) (r : Sl) (q : R D) : XR := bnd q fun x s => kPar3b cf i j l c r x (ev cf b r s)
theorem s_par3 (i j l : Nat) (a b c : E) : ex cf (.par3 i j l a b c) r s = kPar3a cf i j l b c r (ev cf a r s) := by simp only [ex] <;> rfl
theorem kPar3a_ok (i j l : Nat) (b c : E) (x : D) : kPar3a cf i j l b c r (some (.ok x, s)) = kPar3b cf i j l c r x (ev cf b r s) := (rfl)
theorem kPar3b_ok (i j l : Nat) (c : E) (x y : D) : kPar3b cf i j l c r x (some (.ok y, s)) = kPar3c i j l r x y (ev cf c r s) := (rfl)
theorem kPar3c_ok (i j l : Nat) (x y z : D) : kPar3c i j l r x y (some (.ok z, s)) = some (.ok (.nx, ((r.set i (some x)).set j (some y)).set l (some z)), s) := (rfl)
end
theorem shp_ints (n : Nat) : ∀ xs : List Int, shpL n (xs.map D.int) = true
  | [] => rfl
  | x :: xs => by
    rw [List.map_cons]
    simp only [shpL, shp, shp_ints n xs, Bool.and_self]
end Fl
namespace Fl
open PySem (PyData)
mutual
noncomputable def rkD (ok : Nat → Bool) : D → Bool
  | .non => true
  | .bl _ => true
  | .int i => decide (i.natAbs < 10 ^ 100)
  | .str x => x.all (· < 1114112)
  | .tup xs => rkL ok xs
  | .lst xs => rkL ok xs
  | .ref n => ok n
  | .scr _ => false
noncomputable def rkL (ok : Nat → Bool) : List D → Bool
  | [] => true
  | x :: xs => rkD ok x && rkL ok xs
end
mutual
noncomputable def wtD : D → Nat
  | .int _ => 400
  | .str x => x.length
  | .tup xs => wtL xs
  | .lst xs => wtL xs
  | _ => 0
noncomputable def wtL : List D → Nat
  | [] => 0
  | x :: xs => wtD x + 1 + wtL xs
end
mutual
noncomputable def dpD : D → Nat
  | .tup xs => dpL xs + 1
  | .lst xs => dpL xs + 1
  | .ref _ => 1
  | _ => 0
noncomputable def dpL : List D → Nat
  | [] => 0
  | x :: xs => max (dpD x) (dpL xs)
end
theorem wtL_app : ∀ xs ys : List D, wtL (xs ++ ys) = wtL xs + wtL ys
  | [], ys => by simp [wtL]
  | x :: xs, ys => by
    rw [List.cons_append, wtL, wtL, wtL_app xs ys]
    omega
theorem rkL_app (ok : Nat → Bool) : ∀ xs ys : List D, rkL ok (xs ++ ys) = (rkL ok xs && rkL ok ys)
  | [], ys => by simp [rkL]
  | x :: xs, ys => by rw [List.cons_append, rkL, rkL, rkL_app ok xs ys, Bool.and_assoc]
theorem dpL_app : ∀ xs ys : List D, dpL (xs ++ ys) = max (dpL xs) (dpL ys)
  | [], ys => by simp [dpL]
  | x :: xs, ys => by
    rw [List.cons_append, dpL, dpL, dpL_app xs ys]
    omega
theorem dpL_le {m : Nat} : ∀ {xs : List D}, (∀ x ∈ xs, dpD x ≤ m) → dpL xs ≤ m
  | [], _ => by simp [dpL]
  | x :: xs, h => by
    have h1 := h x List.mem_cons_self
    have h2 := dpL_le fun y hy => h y (List.mem_cons_of_mem _ hy)
    rw [dpL]
    omega
theorem rkL_all {ok : Nat → Bool} : ∀ {xs : List D}, (∀ x ∈ xs, rkD ok x = true) → rkL ok xs = true
  | [], _ => by simp [rkL]
  | x :: xs, h => by
    rw [rkL, h x List.mem_cons_self, rkL_all fun y hy => h y (List.mem_cons_of_mem _ hy)]
    rfl
theorem rkL_mem {ok : Nat → Bool} : ∀ {xs : List D}, rkL ok xs = true → ∀ x ∈ xs, rkD ok x = true
  | [], _, x, h => (List.not_mem_nil h).elim
  | y :: xs, h, x, hx => by
    rw [rkL, Bool.and_eq_true] at h
    rcases List.mem_cons.mp hx with rfl | hx
    · exact h.1
    · exact rkL_mem h.2 x hx
mutual
theorem rkD_mono {ok ok' : Nat → Bool} (h : ∀ n, ok n = true → ok' n = true) : ∀ {x : D}, rkD ok x = true → rkD ok' x = true
  | .non, _ => by simp only [rkD]
  | .bl _, _ => by simp only [rkD]
  | .int _, q => by simpa only [rkD] using q
  | .str _, q => by simpa only [rkD] using q
  | .ref n, q => by
    simp only [rkD] at q ⊢
    exact h n q
  | .scr _, q => by simpa only [rkD] using q
  | .tup xs, q => by
    simp only [rkD] at q ⊢
    exact rkL_mono h q
  | .lst xs, q => by
    simp only [rkD] at q ⊢
    exact rkL_mono h q
theorem rkL_mono {ok ok' : Nat → Bool} (h : ∀ n, ok n = true → ok' n = true) : ∀ {xs : List D}, rkL ok xs = true → rkL ok' xs = true
  | [], _ => by simp only [rkL]
  | x :: xs, q => by
    rw [rkL, Bool.and_eq_true] at q
    rw [rkL, rkD_mono h q.1, rkL_mono h q.2]
    rfl
end
theorem wtL_mem : ∀ {xs : List D} {x : D}, x ∈ xs → wtD x < wtL xs
  | y :: xs, x, h => by
    rw [wtL]
    rcases List.mem_cons.mp h with rfl | h
    · omega
    · have := wtL_mem h
      omega
theorem dpL_mem : ∀ {xs : List D} {x : D}, x ∈ xs → dpD x ≤ dpL xs
  | y :: xs, x, h => by
    rw [dpL]
    rcases List.mem_cons.mp h with rfl | h
    · omega
    · have := dpL_mem h
      omega
theorem len_wtL : ∀ xs : List D, xs.length ≤ wtL xs
  | [] => by simp [wtL]
  | x :: xs => by
    have := len_wtL xs
    rw [wtL, List.length_cons]
    omega
theorem wtL_take (k : Nat) (xs : List D) : wtL (xs.take k) ≤ wtL xs := by
  have := wtL_app (xs.take k) (xs.drop k)
  rw [List.take_append_drop] at this
  omega
theorem wtL_drop (k : Nat) (xs : List D) : wtL (xs.drop k) ≤ wtL xs := by
  have := wtL_app (xs.take k) (xs.drop k)
  rw [List.take_append_drop] at this
  omega
theorem wtL_rev : ∀ xs : List D, wtL xs.reverse = wtL xs
  | [] => rfl
  | x :: xs => by
    rw [List.reverse_cons, wtL_app, wtL_rev xs]
    simp only [wtL]
    omega
/-- a row of things: its boxes, weight, depth -/
structure TL (ok : Nat → Bool) (xs : List D) (w d : Nat) : Prop where
  rk : rkL ok xs = true
  wt : wtL xs ≤ w
  dp : dpL xs ≤ d
structure TD (ok : Nat → Bool) (x : D) (w d : Nat) : Prop where
  rk : rkD ok x = true
  wt : wtD x ≤ w
  dp : dpD x ≤ d
section
variable {ok ok' : Nat → Bool} {xs ys : List D} {x : D} {w d w' d' : Nat}
theorem TL.sub (h : TL ok xs w d) (hs : ∀ y ∈ ys, y ∈ xs) (hw : wtL ys ≤ wtL xs) : TL ok ys w d :=
  ⟨rkL_all fun y hy => rkL_mem h.rk y (hs y hy), Nat.le_trans hw h.wt, dpL_le fun y hy => Nat.le_trans (dpL_mem (hs y hy)) h.dp⟩
theorem TL.take (h : TL ok xs w d) (k : Nat) : TL ok (xs.take k) w d := h.sub (fun _ hy => List.mem_of_mem_take hy) (wtL_take k xs)
theorem TL.drop (h : TL ok xs w d) (k : Nat) : TL ok (xs.drop k) w d := h.sub (fun _ hy => List.mem_of_mem_drop hy) (wtL_drop k xs)
theorem TL.cut (h : TL ok xs w d) (lo hi : Option Int) : TL ok (Fl.cut xs lo hi) w d := (h.drop _).take _
theorem TL.rev (h : TL ok xs w d) : TL ok xs.reverse w d := h.sub (fun _ hy => List.mem_reverse.mp hy) (Nat.le_of_eq (wtL_rev xs))
theorem TL.app (h : TL ok xs w d) (g : TL ok ys w' d') : TL ok (xs ++ ys) (w + w') (max d d') :=
  ⟨by rw [rkL_app, h.rk, g.rk]; rfl, by rw [wtL_app]; have := h.wt; have := g.wt; omega, by rw [dpL_app]; have := h.dp; have := g.dp; omega⟩
theorem TL.one (h : TD ok x w d) : TL ok [x] (w + 1) d := ⟨by rw [rkL, h.rk]; rfl, by simp only [wtL]; have := h.wt; omega, by simp only [dpL]; have := h.dp; omega⟩
theorem TL.tup (h : TL ok xs w d) : TD ok (.tup xs) w (d + 1) := ⟨by simpa only [rkD] using h.rk, by simpa only [wtD] using h.wt, by simp only [dpD]; have := h.dp; omega⟩
theorem TL.lst (h : TL ok xs w d) : TD ok (.lst xs) w (d + 1) := ⟨by simpa only [rkD] using h.rk, by simpa only [wtD] using h.wt, by simp only [dpD]; have := h.dp; omega⟩
theorem TL.mono (h : TL ok xs w d) (hw : w ≤ w') (hd : d ≤ d') : TL ok xs w' d' := ⟨h.rk, Nat.le_trans h.wt hw, Nat.le_trans h.dp hd⟩
theorem TD.mono (h : TD ok x w d) (hw : w ≤ w') (hd : d ≤ d') : TD ok x w' d' := ⟨h.rk, Nat.le_trans h.wt hw, Nat.le_trans h.dp hd⟩
theorem TL.mem (h : TL ok xs w d) (hx : x ∈ xs) : TD ok x w d := ⟨rkL_mem h.rk x hx, by have := wtL_mem hx; have := h.wt; omega, Nat.le_trans (dpL_mem hx) h.dp⟩
theorem TL.up (h : TL ok xs w d) (g : ∀ n, ok n = true → ok' n = true) : TL ok' xs w d := ⟨rkL_mono g h.rk, h.wt, h.dp⟩
theorem TD.up (h : TD ok x w d) (g : ∀ n, ok n = true → ok' n = true) : TD ok' x w d := ⟨rkD_mono g h.rk, h.wt, h.dp⟩
theorem TL.len (h : TL ok xs w d) : xs.length ≤ w := Nat.le_trans (len_wtL xs) h.wt
end
/-- all but the box n is kept -/
noncomputable def Kp (s s' : S) (n : Nat) : Prop := s.nx ≤ s'.nx ∧ ∀ j, j < s.nx → j ≠ n → s'.m j = s.m j
theorem Kp.rfl {s : S} {n : Nat} : Kp s s n := ⟨Nat.le_refl _, fun _ _ _ => Eq.refl _⟩
theorem Kp.trans {s t u : S} {n : Nat} (h : Kp s t n) (g : Kp t u n) : Kp s u n := ⟨Nat.le_trans h.1 g.1, fun j hj hn => (g.2 j (Nat.lt_of_lt_of_le hj h.1) hn).trans (h.2 j hj hn)⟩
end Fl
namespace Fl
section
variable {cf : CF} {r : Sl} {s : S}
noncomputable def kLenm (bx : Bool) (q : R D) : R D := bnd q fun x s => match lcont s x with
  | some xs => mkL bx (enumL 0 xs) s
  | none => none
theorem e_lenm (bx : Bool) (a : E) : ev cf (.lenm bx a) r s = kLenm bx (ev cf a r s) := by simp only [ev]; rfl
theorem kLenm_l (xs : List D) : kLenm false (some (.ok (.lst xs), s)) = some (.ok (.lst (enumL 0 xs)), s) := (rfl)
noncomputable def kRps (cf : CF) (b : E) (r : Sl) (q : R D) : R D := bnd q fun x s => bnd (ev cf b r s) fun y s => match x, y with
  | .str z, .int k => if -1000 ≤ k ∧ k ≤ 1000 ∧ z.length ≤ 1000 then some (.ok (.str (List.replicate k.toNat z).flatten), s) else none
  | _, _ => none
theorem e_rps (a b : E) : ev cf (.rps a b) r s = kRps cf b r (ev cf a r s) := by simp only [ev]; rfl
noncomputable def kSset (bx : Bool) (q : R D) : R D := bnd q fun x s => match x with
  | .str z => if z.length < 64 then mkL bx ((sortU z).map fun c => .str [c]) s else none
  | x => match lcont s x with
    | some xs => ssetL s bx xs
    | none => none
theorem e_sset (bx : Bool) (a : E) : ev cf (.sset bx a) r s = kSset bx (ev cf a r s) := by simp only [ev]; rfl
theorem kSset_f (z : List Nat) (h : z.length < 64) : kSset false (some (.ok (.str z), s)) = some (.ok (.lst ((sortU z).map fun c => .str [c])), s) := by
  unfold kSset
  rw [bnd_ok]
  dsimp only
  rw [if_pos h]
  rfl
theorem b_sortT (z : List Nat) (h : z.length < 64) : biD s (.sorted false) [.str z] = some (.ok (.lst ((sortM z).map fun c => .str [c])), s) := by
  show (if z.length < 64 then mkL false _ s else none) = _
  rw [if_pos h]
  rfl
theorem onesD_map : ∀ l : List Nat, onesD (l.map fun c => D.str [c]) = some l
  | [] => rfl
  | c :: l => by
    rw [List.map_cons]
    show (onesD (l.map fun c => D.str [c])).map (fun q => c :: q) = _
    rw [onesD_map l]
    rfl
theorem wnD_map (z : List Nat) : ∀ ks : List Int, wnD z (ks.map fun i => D.tup [.str z, .int i]) = some ks
  | [] => rfl
  | i :: ks => by
    rw [List.map_cons]
    show (if z = z then (wnD z (ks.map fun i => D.tup [.str z, .int i])).map (fun q => i :: q) else none) = _
    rw [if_pos rfl, wnD_map z ks]
    rfl
theorem b_sortL (xs : List D) : biD s (.sorted false) [.lst xs] = sortL s false xs := (rfl)
theorem b_sortO (l : List Nat) (h : l.length < 64) : biD s (.sorted false) [.lst (l.map fun c => .str [c])] = some (.ok (.lst ((sortM l).map fun c => .str [c])), s) := by
  rw [b_sortL]
  unfold sortL
  rw [onesD_map]
  dsimp only
  rw [if_pos h]
  rfl
theorem b_sortW (z : List Nat) (ks : List Int) (h : ordI ks = true) : biD s (.sorted false) [.lst (ks.map fun i => .tup [.str z, .int i])] = some (.ok (.lst (ks.map fun i => .tup [.str z, .int i])), s) := by
  cases ks with
  | nil => rfl
  | cons i r =>
    rw [b_sortL]
    have e1 : onesD ((i :: r).map fun i => D.tup [.str z, .int i]) = none := rfl
    have e2 : wn1 ((i :: r).map fun i => D.tup [.str z, .int i]) = z := rfl
    unfold sortL
    rw [e1, e2, wnD_map]
    dsimp only
    rw [if_pos h]
    rfl
noncomputable def kEns (q : R D) : R Iv := bnd q fun x s => match x with
  | .str z => some (.ok (.ens z), s)
  | _ => none
theorem t_ens (e : E) : evI cf (.ens e) r s = kEns (ev cf e r s) := by simp only [evI]; rfl
theorem kEns_ok (z : List Nat) : kEns (some (.ok (.str z), s)) = some (.ok (.ens z), s) := (rfl)
theorem b_min3 (i j k : Int) : biD s .min3 [.int i, .int j, .int k] = some (.ok (.int (min (min i j) k)), s) := (rfl)
end
/-- what a comprehension picks and makes -/
noncomputable def sel {α : Type} (p : Nat → α → Bool) (g : Nat → α → D) : Nat → List α → List D
  | _, [] => []
  | i, y :: ys => if p i y then g i y :: sel p g (i + 1) ys else sel p g (i + 1) ys
theorem sel_all {α : Type} (g : α → D) : ∀ (ys : List α) (i : Nat), sel (fun _ _ => true) (fun _ y => g y) i ys = ys.map g
  | [], _ => rfl
  | y :: ys, i => by simp only [sel, if_true, List.map_cons, sel_all g ys (i + 1)]
theorem lcN_sel {α : Type} {cf : CF} {tg : Tg} {iv : Iv} {c : Oe} {e : E} {r : Sl} {s : S} (ys : List α) (p : Nat → α → Bool) (g : Nat → α → D) (hn : ys.length ≤ LIM) (hl : ivLen s iv = some ys.length)
    (hb : ∀ i y, ys[i]? = some y → ∃ x r1, ivGet s i iv = some x ∧ tgSet s tg x r = some r1 ∧ evT cf c r1 s = some (.ok (p i y), s) ∧ (p i y = true → ev cf e r1 s = some (.ok (g i y), s))) :
    ∀ m i acc, i ≤ ys.length → acc.length ≤ i → ys.length + 1 ≤ m + i → lcN tg iv (evT cf c) (ev cf e) r m i acc s = some (.ok (acc ++ sel p g i (ys.drop i)), s) := by
  intro m
  induction m with
  | zero => intro i acc h1 h2 h3; omega
  | succ m ih =>
    intro i acc h1 h2 h3
    rw [lcN, hl]
    dsimp only
    by_cases h : i < ys.length
    · obtain ⟨x, r1, e1, e2, e3, e4⟩ := hb i ys[i] (List.getElem?_eq_getElem h)
      rw [if_pos h, e1]
      dsimp only
      rw [e2]
      dsimp only
      rw [e3, bnd_ok, List.drop_eq_getElem_cons h]
      by_cases hp : p i ys[i] = true
      · rw [if_pos hp, e4 hp, bnd_ok, if_pos (by omega), ih (i + 1) _ (by omega) (by rw [List.length_append]; simp only [List.length_cons, List.length_nil]; omega) (by omega)]
        simp only [sel, hp, if_true, List.append_assoc, List.singleton_append]
      · rw [if_neg hp, ih (i + 1) acc (by omega) (by omega) (by omega)]
        simp only [sel, hp, if_false, Bool.false_eq_true]
    · rw [if_neg h, List.drop_eq_nil_of_le (by omega)]
      simp [sel]
/-- a comprehension over anything, the store stays -/
theorem lc_sel {α : Type} {cf : CF} {tg : Tg} {iv : Iv} {c : Oe} {e : E} {r : Sl} {s : S} (ys : List α) (p : Nat → α → Bool) (g : Nat → α → D) (hn : ys.length ≤ LIM) (hl : ivLen s iv = some ys.length)
    (hb : ∀ i y, ys[i]? = some y → ∃ x r1, ivGet s i iv = some x ∧ tgSet s tg x r = some r1 ∧ evT cf c r1 s = some (.ok (p i y), s) ∧ (p i y = true → ev cf e r1 s = some (.ok (g i y), s))) :
    lcI cf false e tg c r s iv = some (.ok (.lst (sel p g 0 ys)), s) := by
  unfold lcI
  rw [hl]
  dsimp only
  rw [lcN_sel ys p g hn hl hb (ys.length + 1) 0 [] (Nat.zero_le _) (Nat.zero_le _) (by omega)]
  rfl
theorem enumL_get : ∀ (xs : List D) (i j : Nat), (enumL i xs)[j]? = (xs[j]?).map fun x => D.tup [.int ((i + j : Nat) : Int), x]
  | [], i, j => by simp [enumL]
  | x :: xs, i, 0 => by simp [enumL]
  | x :: xs, i, j + 1 => by
    show (enumL (i + 1) xs)[j]? = _
    rw [enumL_get xs (i + 1) j]
    simp only [List.getElem?_cons_succ]
    congr 1
    funext y
    have : i + 1 + j = i + (j + 1) := by omega
    rw [this]
theorem enumL_len : ∀ (xs : List D) (i : Nat), (enumL i xs).length = xs.length
  | [], _ => rfl
  | x :: xs, i => by show (enumL (i + 1) xs).length + 1 = _; rw [enumL_len]; rfl
theorem seq_len' {s : S} (xs : List D) : ivLen s (.seq (.lst xs)) = some xs.length := rfl
theorem seq_get' {s : S} (xs : List D) (i : Nat) : ivGet s i (.seq (.lst xs)) = xs[i]? := rfl
/-- over a text with numbers -/
theorem for_ens {cf : CF} {t u : Nat} {b : Cs} {xs : List Nat} {r : Sl} {s : S} (P : Nat → Sl → S → Prop) (h0 : P 0 r s)
    (hb : ∀ (i : Nat) r s c, P i r s → xs[i]? = some c → ∃ r' s', exs cf b ((r.set t (some (.int (i : Nat)))).set u (some (.str [c]))) s = some (.ok (.nx, r'), s') ∧ P (i + 1) r' s') :
    ∃ r' s', forI cf (.tp [t, u]) b r s (.ens xs) = some (.ok (.nx, r'), s') ∧ P xs.length r' s' :=
  for_inv xs.length P h0 (fun _ _ _ _ _ => rfl) fun i r s hp hi => by
    obtain ⟨r', s', h1, h2⟩ := hb i r s xs[i] hp (List.getElem?_eq_getElem hi)
    refine ⟨.tup [.int i, .str [xs[i]]], _, r', s', .nx, ?_, rfl, h1, .inl rfl, h2⟩
    show ((xs[i]?).map fun x => D.tup [.int i, .str [x]]) = _
    rw [List.getElem?_eq_getElem hi]
    rfl
/-- over pairs that stay -/
theorem for_tp {cf : CF} {t u : Nat} {b : Cs} {xs : List D} {r : Sl} {s : S} (P : Nat → Sl → S → Prop) (h0 : P 0 r s)
    (hb : ∀ (i : Nat) r s x, P i r s → xs[i]? = some x → ∃ a c r' s', x = .tup [a, c] ∧ exs cf b ((r.set t (some a)).set u (some c)) s = some (.ok (.nx, r'), s') ∧ P (i + 1) r' s') :
    ∃ r' s', forI cf (.tp [t, u]) b r s (.seq (.lst xs)) = some (.ok (.nx, r'), s') ∧ P xs.length r' s' :=
  for_inv xs.length P h0 (fun _ _ _ _ _ => rfl) fun i r s hp hi => by
    obtain ⟨a, c, r', s', h0, h1, h2⟩ := hb i r s xs[i] hp (List.getElem?_eq_getElem hi)
    refine ⟨.tup [a, c], _, r', s', .nx, ?_, rfl, h1, .inl rfl, h2⟩
    show xs[i]? = _
    rw [List.getElem?_eq_getElem hi, h0]
theorem kLst_9f {s : S} (a0 a1 a2 a3 a4 a5 a6 a7 a8 : D) : kLst false (some (.ok [a0, a1, a2, a3, a4, a5, a6, a7, a8], s)) = some (.ok (.lst [a0, a1, a2, a3, a4, a5, a6, a7, a8]), s) := (rfl)
theorem kLst_10f {s : S} (a0 a1 a2 a3 a4 a5 a6 a7 a8 a9 : D) : kLst false (some (.ok [a0, a1, a2, a3, a4, a5, a6, a7, a8, a9], s)) = some (.ok (.lst [a0, a1, a2, a3, a4, a5, a6, a7, a8, a9]), s) := (rfl)
theorem kLst_11f {s : S} (a0 a1 a2 a3 a4 a5 a6 a7 a8 a9 a10 : D) : kLst false (some (.ok [a0, a1, a2, a3, a4, a5, a6, a7, a8, a9, a10], s)) = some (.ok (.lst [a0, a1, a2, a3, a4, a5, a6, a7, a8, a9, a10]), s) := (rfl)
theorem kLst_12f {s : S} (a0 a1 a2 a3 a4 a5 a6 a7 a8 a9 a10 a11 : D) : kLst false (some (.ok [a0, a1, a2, a3, a4, a5, a6, a7, a8, a9, a10, a11], s)) = some (.ok (.lst [a0, a1, a2, a3, a4, a5, a6, a7, a8, a9, a10, a11]), s) := (rfl)
theorem kLst_13f {s : S} (a0 a1 a2 a3 a4 a5 a6 a7 a8 a9 a10 a11 a12 : D) : kLst false (some (.ok [a0, a1, a2, a3, a4, a5, a6, a7, a8, a9, a10, a11, a12], s)) = some (.ok (.lst [a0, a1, a2, a3, a4, a5, a6, a7, a8, a9, a10, a11, a12]), s) := (rfl)
theorem kLst_14f {s : S} (a0 a1 a2 a3 a4 a5 a6 a7 a8 a9 a10 a11 a12 a13 : D) : kLst false (some (.ok [a0, a1, a2, a3, a4, a5, a6, a7, a8, a9, a10, a11, a12, a13], s)) = some (.ok (.lst [a0, a1, a2, a3, a4, a5, a6, a7, a8, a9, a10, a11, a12, a13]), s) := (rfl)
theorem kLst_15f {s : S} (a0 a1 a2 a3 a4 a5 a6 a7 a8 a9 a10 a11 a12 a13 a14 : D) : kLst false (some (.ok [a0, a1, a2, a3, a4, a5, a6, a7, a8, a9, a10, a11, a12, a13, a14], s)) = some (.ok (.lst [a0, a1, a2, a3, a4, a5, a6, a7, a8, a9, a10, a11, a12, a13, a14]), s) := (rfl)
theorem kLst_16f {s : S} (a0 a1 a2 a3 a4 a5 a6 a7 a8 a9 a10 a11 a12 a13 a14 a15 : D) : kLst false (some (.ok [a0, a1, a2, a3, a4, a5, a6, a7, a8, a9, a10, a11, a12, a13, a14, a15], s)) = some (.ok (.lst [a0, a1, a2, a3, a4, a5, a6, a7, a8, a9, a10, a11, a12, a13, a14, a15]), s) := (rfl)
theorem kLst_17f {s : S} (a0 a1 a2 a3 a4 a5 a6 a7 a8 a9 a10 a11 a12 a13 a14 a15 a16 : D) : kLst false (some (.ok [a0, a1, a2, a3, a4, a5, a6, a7, a8, a9, a10, a11, a12, a13, a14, a15, a16], s)) = some (.ok (.lst [a0, a1, a2, a3, a4, a5, a6, a7, a8, a9, a10, a11, a12, a13, a14, a15, a16]), s) := (rfl)
theorem kLst_18f {s : S} (a0 a1 a2 a3 a4 a5 a6 a7 a8 a9 a10 a11 a12 a13 a14 a15 a16 a17 : D) : kLst false (some (.ok [a0, a1, a2, a3, a4, a5, a6, a7, a8, a9, a10, a11, a12, a13, a14, a15, a16, a17], s)) = some (.ok (.lst [a0, a1, a2, a3, a4, a5, a6, a7, a8, a9, a10, a11, a12, a13, a14, a15, a16, a17]), s) := (rfl)
theorem kLst_19f {s : S} (a0 a1 a2 a3 a4 a5 a6 a7 a8 a9 a10 a11 a12 a13 a14 a15 a16 a17 a18 : D) : kLst false (some (.ok [a0, a1, a2, a3, a4, a5, a6, a7, a8, a9, a10, a11, a12, a13, a14, a15, a16, a17, a18], s)) = some (.ok (.lst [a0, a1, a2, a3, a4, a5, a6, a7, a8, a9, a10, a11, a12, a13, a14, a15, a16, a17, a18]), s) := (rfl)
open PySem PyProof.Rows in
open PySem PyProof.Rows in
open PySem PyProof.Rows in
section
variable {cf : CF} {r : Sl} {s : S}
noncomputable def kXi (cf : CF) (a b : Xe) (r : Sl) (q : R D) : R D := bnn q fun x s => match truth s x with
  | some true => evx cf a r s
  | some false => evx cf b r s
  | none => none
theorem xe_ite (c : E) (a b : Xe) : evx cf (.ite c a b) r s = kXi cf a b r (ev cf c r s) := by simp only [evx]; rfl
theorem kXi_b (a b : Xe) (k : Bool) : kXi cf a b r (some (.ok (.bl k), s)) = if k = true then evx cf a r s else evx cf b r s := by cases k <;> rfl
noncomputable def kX2b (x : D) (q : R D) : R D := bnd q fun y s => mkLz false [x, y] s
noncomputable def kX2a (cf : CF) (b : Xe) (r : Sl) (q : R D) : R D := bnd q fun x s => kX2b x (evx cf b r s)
theorem xe_lst2 (a b : Xe) : evx cf (.lst2 a b) r s = kX2a cf b r (evx cf a r s) := by simp only [evx]; rfl
theorem kX2a_ok (b : Xe) (x : D) : kX2a cf b r (some (.ok x, s)) = kX2b x (evx cf b r s) := (rfl)
theorem kX2a_er (b : Xe) (c : String) : kX2a cf b r (some (.er c, s)) = some (.er c, s) := (rfl)
theorem kX2b_ok (x y : D) : kX2b x (some (.ok y, s)) = some (.ok (.lst [x, y]), s) := (rfl)
theorem kX2b_er (x : D) (c : String) : kX2b x (some (.er c, s)) = some (.er c, s) := (rfl)
noncomputable def kX3c (x y : D) (q : R D) : R D := bnd q fun z s => mkLz false [x, y, z] s
noncomputable def kX3b (cf : CF) (c : Xe) (r : Sl) (x : D) (q : R D) : R D := bnd q fun y s => kX3c x y (evx cf c r s)
noncomputable def kX3a (cf : CF) (b c : Xe) (r : Sl) (q : R D) : R D := bnd q fun x s => kX3b cf c r x (evx cf b r s)
theorem xe_lst3 (a b c : Xe) : evx cf (.lst3 a b c) r s = kX3a cf b c r (evx cf a r s) := by simp only [evx]; rfl
theorem kX3a_ok (b c : Xe) (x : D) : kX3a cf b c r (some (.ok x, s)) = kX3b cf c r x (evx cf b r s) := (rfl)
theorem kX3a_er (b c : Xe) (e : String) : kX3a cf b c r (some (.er e, s)) = some (.er e, s) := (rfl)
theorem kX3b_ok (c : Xe) (x y : D) : kX3b cf c r x (some (.ok y, s)) = kX3c x y (evx cf c r s) := (rfl)
theorem kX3b_er (c : Xe) (x : D) (e : String) : kX3b cf c r x (some (.er e, s)) = some (.er e, s) := (rfl)
theorem kX3c_ok (x y z : D) : kX3c x y (some (.ok z, s)) = some (.ok (.lst [x, y, z]), s) := (rfl)
theorem kX3c_er (x y : D) (e : String) : kX3c x y (some (.er e, s)) = some (.er e, s) := (rfl)
noncomputable def kAi4 (n : Nat) (k a : Int) (p : Bop) (r : Sl) (q : R D) : XR := bnd q fun y s => match y with
  | .int b => match s.m n with
    | some (.lst ys) => match ixN ys.length k with
      | some j => match p with
        | .add => some (.ok (.nx, r), s.put n (.lst (ys.set j (.int (a + b)))))
        | .sub => some (.ok (.nx, r), s.put n (.lst (ys.set j (.int (a - b)))))
        | _ => none
      | none => none
    | _ => none
  | _ => none
noncomputable def kAi3 (cf : CF) (p : Bop) (e : E) (r : Sl) (x : D) (q : R D) : XR := bnd q fun k s => match x, k with
  | .ref n, .int k => match s.m n with
    | some (.lst xs) => match atI xs k with
      | some (.int a) => kAi4 n k a p r (ev cf e r s)
      | _ => none
    | _ => none
  | _, _ => none
noncomputable def kAi2 (cf : CF) (i : E) (p : Bop) (e : E) (r : Sl) (q : R D) : XR := bnd q fun x s => kAi3 cf p e r x (ev cf i r s)
theorem s_augi (o i : E) (p : Bop) (e : E) : ex cf (.augi o i p e) r s = kAi2 cf i p e r (ev cf o r s) := by simp only [ex]; rfl
theorem kAi2_ok (i : E) (p : Bop) (e : E) (x : D) : kAi2 cf i p e r (some (.ok x, s)) = kAi3 cf p e r x (ev cf i r s) := (rfl)
noncomputable def kPk (cf : CF) (f g : String) (es : Es) (r : Sl) (q : R D) : R D := bnn q fun k s => match pickF f g k with
  | some h => bnn (evs cf es r s) fun xs s => cf "" h xs s
  | none => none
theorem xe_pick (f g : String) (i : E) (es : Es) : evx cf (.pick f g i es) r s = kPk cf f g es r (ev cf i r s) := by simp only [evx]; rfl
theorem kPk_0 (f g : String) (es : Es) : kPk cf f g es r (some (.ok (.int 0), s)) = evx cf (.call f es) r s := by simp only [evx]; rfl
theorem kPk_1 (f g : String) (es : Es) : kPk cf f g es r (some (.ok (.int 1), s)) = evx cf (.call g es) r s := by simp only [evx]; rfl
noncomputable def kDenm (q : R D) : R D := bnd q fun x s => match lcont s x with
  | some xs => some (.ok (.ref s.nx), s.new (.dic ((denL 0 xs).foldl (fun acc kv => dput acc kv.1 kv.2) [])))
  | none => none
theorem e_denm (a : E) : ev cf (.denm a) r s = kDenm (ev cf a r s) := by simp only [ev]; rfl
theorem dput_new {kvs : List (DK × D)} {k : DK} {v : D} (h : ∀ kv ∈ kvs, kv.1 ≠ k) : dput kvs k v = kvs ++ [(k, v)] := by
  unfold dput
  rw [if_neg]
  simp only [List.any_eq_true, decide_eq_true_eq, not_exists, not_and]
  exact h
theorem denL_fold : ∀ (xs : List D) (i : Nat) (acc : List (DK × D)), (∀ kv ∈ acc, ∃ j : Nat, j < i ∧ kv.1 = .i (j : Nat)) → (denL i xs).foldl (fun acc kv => dput acc kv.1 kv.2) acc = acc ++ denL i xs
  | [], i, acc, _ => by simp [denL]
  | x :: xs, i, acc, h => by
    show (denL (i + 1) xs).foldl (fun acc kv => dput acc kv.1 kv.2) (dput acc (.i (i : Nat)) x) = _
    rw [dput_new (fun kv hkv => by
      obtain ⟨j, hj, e⟩ := h kv hkv
      rw [e]
      intro z
      injection z with z
      omega), denL_fold xs (i + 1) _ (fun kv hkv => by
      rcases List.mem_append.mp hkv with z | z
      · obtain ⟨j, hj, e⟩ := h kv z
        exact ⟨j, by omega, e⟩
      · rw [List.mem_singleton.mp z]
        exact ⟨i, by omega, rfl⟩)]
    simp [denL]
theorem kDenm_l (xs : List D) : kDenm (some (.ok (.lst xs), s)) = some (.ok (.ref s.nx), s.new (.dic (denL 0 xs))) := by
  show some (Rs.ok (D.ref s.nx), s.new (.dic ((denL 0 xs).foldl (fun acc kv => dput acc kv.1 kv.2) []))) = _
  rw [denL_fold xs 0 [] (fun kv h => by cases h)]
  rfl
end
end Fl
namespace Fl
open PySem PyProof.Rows L2 _root_.TL
end Fl
namespace Fl
section
variable {cf : CF} {r : Sl} {s : S}
theorem e_gi (x : String) (v : Int) : ev cf (.gi x v) r s = some (.ok (.int v), s) := by simp only [ev]
noncomputable def kFst (q : R (List D)) : R D := bnd q fun ds s => match fstJ ds with
  | some x => if x.length ≤ LIM then some (.ok (.str x), s) else none
  | none => none
theorem e_fst (es : Es) : ev cf (.fst es) r s = kFst (evs cf es r s) := by simp only [ev]; rfl
/-- o.replace(y, z) -/
noncomputable def rpL (w y z : List Nat) : List Nat := (PySem.Txt.replace ⟨w.toArray⟩ ⟨y.toArray⟩ ⟨z.toArray⟩).cps.toList
noncomputable def rplD (x w : D) (y z : List Nat) (s : S) : R D := match x, w with
  | .str x, .str w => if w.length + (w.length + 1) * z.length ≤ LIM ∧ (x ++ rpL w y z).length ≤ LIM then some (.ok (.str (x ++ rpL w y z)), s) else none
  | _, _ => none
noncomputable def kRpl2 (x : D) (y z : List Nat) (q : R D) : R D := bnd q fun w s => rplD x w y z s
noncomputable def kRpl1 (cf : CF) (o : E) (y z : List Nat) (r : Sl) (q : R D) : R D := bnd q fun x s => kRpl2 x y z (ev cf o r s)
theorem e_rpl (a o : E) (y z : List Nat) : ev cf (.rpl a o y z) r s = kRpl1 cf o y z r (ev cf a r s) := by simp only [ev]; rfl
theorem kRpl1_ok (o : E) (y z : List Nat) (x : D) : kRpl1 cf o y z r (some (.ok x, s)) = kRpl2 x y z (ev cf o r s) := (rfl)
end
open PySem in
open PySem _root_.TL in
section
variable {cf : CF} {r : Sl} {s : S}
end
section
variable {cf : CF} {r : Sl} {s : S}
noncomputable def kZs2 (x : D) (q : R D) : R Iv := bnd q fun y s => match lcont s x, y with
    | some _, .str z => some (.ok (.zips x z), s)
    | _, _ => none
noncomputable def kZs (cf : CF) (b : E) (r : Sl) (q : R D) : R Iv := bnd q fun x s => kZs2 x (ev cf b r s)
theorem t_zips (a b : E) : evI cf (.zips a b) r s = kZs cf b r (ev cf a r s) := by simp only [evI]; rfl
theorem kZs_ok (b : E) (x : D) : kZs cf b r (some (.ok x, s)) = kZs2 x (ev cf b r s) := (rfl)
theorem kZs2_l (xs : List D) (z : List Nat) : kZs2 (.lst xs) (some (.ok (.str z), s)) = some (.ok (.zips (.lst xs) z), s) := (rfl)
end
section
variable {cf : CF} {r : Sl} {s : S}
theorem e_dnn : ev cf .dnn r s = some (.ok (.ref s.nx), s.new (.dnn [])) := by simp only [ev]
noncomputable def kI3 (x : D) (q : R D) : R D := bnd q fun y s => lft ((nnIn s x y).map .bl) s
noncomputable def kI2 (cf : CF) (d : E) (r : Sl) (q : R D) : R D := bnd q fun x s => kI3 x (ev cf d r s)
theorem e_inn2 (a d : E) : ev cf (.inn2 a d) r s = kI2 cf d r (ev cf a r s) := by simp only [ev]; rfl
theorem kI2_ok (d : E) (x : D) : kI2 cf d r (some (.ok x, s)) = kI3 x (ev cf d r s) := (rfl)
theorem kI3_ok (x y : D) : kI3 x (some (.ok y, s)) = lft ((nnIn s x y).map .bl) s := (rfl)
noncomputable def setnD (r : Sl) (y x : D) (s : S) : XR := match y with
    | .ref n => match s.m n with
      | some (.dnn ks) => match keyTT x with
        | some q => if ks.length < LIM then some (.ok (.nx, r), s.put n (.dnn (nnPut ks q))) else none
        | none => none
      | _ => none
    | _ => none
noncomputable def kSn2 (r : Sl) (y : D) (q : R D) : XR := bnd q fun x s => setnD r y x s
noncomputable def kSn (cf : CF) (k : E) (r : Sl) (q : R D) : XR := bnd q fun y s => kSn2 r y (ev cf k r s)
theorem s_setn (d k : E) : ex cf (.setn d k) r s = kSn cf k r (ev cf d r s) := by simp only [ex]; rfl
theorem kSn_ok (k : E) (y : D) : kSn cf k r (some (.ok y, s)) = kSn2 r y (ev cf k r s) := (rfl)
theorem kSn2_ok (y x : D) : kSn2 r y (some (.ok x, s)) = setnD r y x s := (rfl)
end
section
variable {cf : CF} {r : Sl} {s : S}
noncomputable def kNint (ts : List (List Nat)) (q : R D) : R D := bnd q fun x s => match x with
    | .str z => some (.ok (.bl (!decide (z ∈ ts))), s)
    | _ => none
theorem e_nint (a : E) (f : String) (ts : List (List Nat)) : ev cf (.nint a f ts) r s = kNint ts (ev cf a r s) := by simp only [ev]; rfl
theorem kNint_ok (ts : List (List Nat)) (z : List Nat) : kNint ts (some (.ok (.str z), s)) = some (.ok (.bl (!decide (z ∈ ts))), s) := (rfl)
noncomputable def kIrp (b y z : List Nat) (o : Option (Option D)) (s : S) : R D := match o with
    | some (some (.str w)) => if w = [] then some (.ok (.str b), s) else if w.length + (w.length + 1) * z.length ≤ LIM then some (.ok (.str (rpL w y z)), s) else none
    | _ => none
theorem e_irp (i : Nat) (b y z : List Nat) : ev cf (.irp i b y z) r s = kIrp b y z r[i]? s := by simp only [ev]; rfl
theorem kIrp_s (b y z w : List Nat) : kIrp b y z (some (some (.str w))) s = if w = [] then some (.ok (.str b), s) else if w.length + (w.length + 1) * z.length ≤ LIM then some (.ok (.str (rpL w y z)), s) else none := (rfl)
noncomputable def kRpd (i : Nat) (y z : List Nat) (r : Sl) (q : R D) : XR := bnd q fun x s => match x with
    | .str w => if w.length + (w.length + 1) * z.length ≤ LIM then some (.ok (.nx, r.set i (some (.str (rpL w y z)))), s) else none
    | _ => none
theorem s_rpd (i : Nat) (o : E) (y z : List Nat) : ex cf (.rpd i o y z) r s = kRpd i y z r (ev cf o r s) := by simp only [ex]; rfl
theorem kRpd_s (i : Nat) (y z w : List Nat) : kRpd i y z r (some (.ok (.str w), s)) = if w.length + (w.length + 1) * z.length ≤ LIM then some (.ok (.nx, r.set i (some (.str (rpL w y z)))), s) else none := (rfl)
noncomputable def kTryn (q : XR) : XR := bnd q fun p s => match p with
    | (.rz _, _) => none
    | p => some (.ok p, s)
theorem s_tryn (b : Cs) (c : String) : ex cf (.tryn b c) r s = kTryn (exs cf b r s) := by simp only [ex]; rfl
theorem kTryn_nx : kTryn (some (.ok (.nx, r), s)) = some (.ok (.nx, r), s) := (rfl)
noncomputable def kTry2 (c1 : String) (x1 : List Nat) (c2 : String) (x2 : List Nat) (i : Nat) (q : XR) : XR := bnd q fun p s => match p with
    | (.rz k, r') => if subE k c1 then some (.ok (.nx, r'.set i (some (.str x1))), s) else if subE k c2 then some (.ok (.nx, r'.set i (some (.str x2))), s) else some (.ok (.rz k, r'), s)
    | p => some (.ok p, s)
theorem s_try2 (b : Cs) (c1 : String) (x1 : List Nat) (c2 : String) (x2 : List Nat) (i : Nat) : ex cf (.try2 b c1 x1 c2 x2 i) r s = kTry2 c1 x1 c2 x2 i (exs cf b r s) := by simp only [ex]; rfl
theorem kTry2_nx (c1 : String) (x1 : List Nat) (c2 : String) (x2 : List Nat) (i : Nat) : kTry2 c1 x1 c2 x2 i (some (.ok (.nx, r), s)) = some (.ok (.nx, r), s) := (rfl)
theorem kTry2_rz (c1 : String) (x1 : List Nat) (c2 : String) (x2 : List Nat) (i : Nat) (k : String) : kTry2 c1 x1 c2 x2 i (some (.ok (.rz k, r), s)) = if subE k c1 then some (.ok (.nx, r.set i (some (.str x1))), s) else if subE k c2 then some (.ok (.nx, r.set i (some (.str x2))), s) else some (.ok (.rz k, r), s) := (rfl)
noncomputable def kXc1 (cf : CF) (f : String) (q : R D) : R D := bnd q fun d s => cf "" f [d] s
theorem xe_xc1 (f : String) (x : Xe) : evx cf (.xc1 f x) r s = kXc1 cf f (evx cf x r s) := by simp only [evx]; rfl
theorem kXc1_ok (f : String) (d : D) : kXc1 cf f (some (.ok d, s)) = cf "" f [d] s := (rfl)
theorem kXc1_er (f : String) (c : String) : kXc1 cf f (some (.er c, s)) = some (.er c, s) := (rfl)
theorem mt_splitN (bx : Bool) (a : List Nat) : mtOk s (.splitN bx) (.str a) = true := (rfl)
end
open PySem PySem.Builtin.Str PySem.StrLaws in
open PySem PySem.Builtin.Str PySem.StrLaws in
open PySem PySem.Builtin.Str PySem.StrLaws in
open PySem PySem.Builtin.Str PySem.StrLaws in
open PySem PySem.Builtin.Str PySem.StrLaws in
section
variable {cf : CF} {r : Sl} {s : S}
noncomputable def kR2b (x : D) (q : R D) : R Iv := bnd q fun y s => match x, y with
    | .int i, .int j => if i < 2 ^ 62 ∧ -(2 ^ 62) ≤ i ∧ j < 2 ^ 62 ∧ -(2 ^ 62) ≤ j then some (.ok (.rng i (j - i).toNat), s) else none
    | _, _ => none
noncomputable def kR2a (cf : CF) (b : E) (r : Sl) (q : R D) : R Iv := bnd q fun x s => kR2b x (ev cf b r s)
theorem t_rng2 (a b : E) : evI cf (.rng2 a b) r s = kR2a cf b r (ev cf a r s) := by simp only [evI]; rfl
theorem kR2a_ok (b : E) (x : D) : kR2a cf b r (some (.ok x, s)) = kR2b x (ev cf b r s) := (rfl)
end
section
variable {cf : CF} {r : Sl} {s : S}
noncomputable def kLz2 (bx : Bool) (x : D) (q : R D) : R D := bnd q fun y s => match lcont s x, y with
    | some xs, .str z => mkL bx (zipL xs z) s
    | _, _ => none
noncomputable def kLz (cf : CF) (bx : Bool) (b : E) (r : Sl) (q : R D) : R D := bnd q fun x s => kLz2 bx x (ev cf b r s)
theorem e_lzip (bx : Bool) (a b : E) : ev cf (.lzip bx a b) r s = kLz cf bx b r (ev cf a r s) := by simp only [ev]; rfl
theorem kLz_ok (bx : Bool) (b : E) (x : D) : kLz cf bx b r (some (.ok x, s)) = kLz2 bx x (ev cf b r s) := (rfl)
theorem kLz2_l (xs : List D) (z : List Nat) : kLz2 false (.lst xs) (some (.ok (.str z), s)) = some (.ok (.lst (zipL xs z)), s) := (rfl)
noncomputable def kSd3 (x y : D) (q : R D) : R D := bnd q fun z s => sdfD s x y z
noncomputable def kSd2 (cf : CF) (v : E) (r : Sl) (x : D) (q : R D) : R D := bnd q fun y s => kSd3 x y (ev cf v r s)
noncomputable def kSd (cf : CF) (k v : E) (r : Sl) (q : R D) : R D := bnd q fun x s => kSd2 cf v r x (ev cf k r s)
theorem e_sdf (d k v : E) : ev cf (.sdf d k v) r s = kSd cf k v r (ev cf d r s) := by simp only [ev]; rfl
theorem kSd_ok (k v : E) (x : D) : kSd cf k v r (some (.ok x, s)) = kSd2 cf v r x (ev cf k r s) := (rfl)
theorem kSd2_ok (v : E) (x y : D) : kSd2 cf v r x (some (.ok y, s)) = kSd3 x y (ev cf v r s) := (rfl)
theorem kSd3_ok (x y z : D) : kSd3 x y (some (.ok z, s)) = sdfD s x y z := (rfl)
noncomputable def kLtx (q : R D) : R D := bnd q fun x s => match (lcont s x).bind txts with
    | some ts => if ts.Nodup ∧ ts.length ≤ 60 then some (.ok (.int (ts.length : Nat)), s) else none
    | none => none
theorem e_ltx (a : E) : ev cf (.ltx a) r s = kLtx (ev cf a r s) := by simp only [ev]; rfl
end
end Fl
namespace Lw
open Fl
noncomputable def c_SIGNS : List Nat := [97, 98, 99, 100, 101, 102, 103, 104, 105, 106, 107, 108, 109, 110, 111, 112, 113, 114, 115, 116, 117, 118, 119, 120, 121, 122, 32]
noncomputable def t_PARTS : List (List Nat × Int) := [([112, 117, 116], 3), ([99, 117, 116], 2), ([110, 111, 110, 101], 1)]
noncomputable def b_is_sign : Cs := (.cons (.ret (.and (.cons (.isi (.var 0) .str) (.cons (.cmp .eq (.bi .len (.cons (.var 0) .nil)) (.int 1)) (.cons (.cmp .inn (.var 0) (.gs "SIGNS" c_SIGNS)) .nil))))) .nil)
noncomputable def f_is_sign : Fn := ⟨1, 1, b_is_sign⟩
noncomputable def b_is_place : Cs := (.cons (.ret (.and (.cons (.isi (.var 0) .int) (.cons (.not (.isi (.var 0) .bool)) (.cons (.cmp .ge (.var 0) (.int 0)) .nil))))) .nil)
noncomputable def f_is_place : Fn := ⟨1, 1, b_is_place⟩
noncomputable def b_is_deed : Cs := (.cons (.ite (.or (.cons (.not (.isi (.var 0) .tuple)) (.cons (.cmp .eq (.bi .len (.cons (.var 0) .nil)) (.int 0)) (.cons (.not (.isi (.idx (.var 0) (.int 0)) .str)) .nil)))) (.cons (.ret (.bl false)) .nil) .nil) (.cons (.ite (.cmp .ne (.dget "PARTS" t_PARTS (.idx (.var 0) (.int 0)) (.int 0)) (.bi .len (.cons (.var 0) .nil))) (.cons (.ret (.bl false)) .nil) .nil) (.cons (.ite (.and (.cons (.cmp .gt (.bi .len (.cons (.var 0) .nil)) (.int 1)) (.cons (.not (.call "is_place" (.cons (.idx (.var 0) (.int 1)) .nil))) .nil))) (.cons (.ret (.bl false)) .nil) .nil) (.cons (.ret (.or (.cons (.cmp .lt (.bi .len (.cons (.var 0) .nil)) (.int 3)) (.cons (.call "is_sign" (.cons (.idx (.var 0) (.int 2)) .nil)) .nil)))) .nil))))
noncomputable def f_is_deed : Fn := ⟨1, 1, b_is_deed⟩
noncomputable def b_can_be_done : Cs := (.cons (.ite (.not (.call "is_deed" (.cons (.var 1) .nil))) (.cons (.ret (.bl false)) .nil) .nil) (.cons (.ite (.cmp .eq (.idx (.var 1) (.int 0)) (.str [112, 117, 116])) (.cons (.ret (.cmp .le (.idx (.var 1) (.int 1)) (.bi .len (.cons (.var 0) .nil)))) .nil) .nil) (.cons (.ret (.or (.cons (.cmp .eq (.idx (.var 1) (.int 0)) (.str [110, 111, 110, 101])) (.cons (.cmp .lt (.idx (.var 1) (.int 1)) (.bi .len (.cons (.var 0) .nil))) .nil)))) .nil)))
noncomputable def f_can_be_done : Fn := ⟨2, 2, b_can_be_done⟩
noncomputable def b_done : Cs := (.cons (.ite (.not (.call "can_be_done" (.cons (.var 0) (.cons (.var 1) .nil)))) (.cons (.rse "NoDeed") .nil) .nil) (.cons (.ite (.cmp .eq (.idx (.var 1) (.int 0)) (.str [112, 117, 116])) (.cons (.ret (.bin .add (.bin .add (.sl false (.var 0) .no (.so (.idx (.var 1) (.int 1)))) (.idx (.var 1) (.int 2))) (.sl false (.var 0) (.so (.idx (.var 1) (.int 1))) .no))) .nil) .nil) (.cons (.ite (.cmp .eq (.idx (.var 1) (.int 0)) (.str [99, 117, 116])) (.cons (.ret (.bin .add (.sl false (.var 0) .no (.so (.idx (.var 1) (.int 1)))) (.sl false (.var 0) (.so (.bin .add (.idx (.var 1) (.int 1)) (.int 1))) .no))) .nil) .nil) (.cons (.ret (.var 0)) .nil))))
noncomputable def f_done : Fn := ⟨2, 2, b_done⟩
noncomputable def l_grown_1 : Cs := (.cons (.asg 6 (.bin .add (.bi .min2 (.cons (.idx (.var 3) (.var 4)) (.cons (.idx (.var 0) (.bin .add (.var 4) (.int 1))) .nil))) (.int 1))) (.cons (.ite (.cmp .eq (.var 1) (.var 5)) (.cons (.asg 6 (.bi .min2 (.cons (.var 6) (.cons (.idx (.var 0) (.var 4)) .nil)))) .nil) .nil) (.cons (.exp (.met .append (.var 3) (.cons (.var 6) .nil))) .nil)))
noncomputable def b_grown : Cs := (.cons (.asg 3 (.lst true (.cons (.bin .add (.idx (.var 0) (.int 0)) (.int 1)) .nil))) (.cons (.for (.tp [4, 5]) (.ens (.var 2)) l_grown_1) (.cons (.ret (.frz (.var 3))) .nil)))
noncomputable def f_grown : Fn := ⟨3, 7, b_grown⟩
noncomputable def l_paper_of_1 : Cs := (.cons (.exp (.met .append (.var 2) (.cons (.call "grown" (.cons (.idx (.var 2) (.neg (.int 1))) (.cons (.var 3) (.cons (.var 1) .nil)))) .nil))) .nil)
noncomputable def b_paper_of : Cs := (.cons (.asg 2 (.lst true (.cons (.lrng false (.bin .add (.bi .len (.cons (.var 1) .nil)) (.int 1))) .nil))) (.cons (.for (.nm 3) (.str (.var 0)) l_paper_of_1) (.cons (.ret (.frz (.var 2))) .nil)))
noncomputable def f_paper_of : Fn := ⟨2, 4, b_paper_of⟩
noncomputable def b_how_far : Cs := (.cons (.ret (.idx (.idx (.call "paper_of" (.cons (.var 0) (.cons (.var 1) .nil))) (.neg (.int 1))) (.neg (.int 1)))) .nil)
noncomputable def f_how_far : Fn := ⟨2, 2, b_how_far⟩
noncomputable def x_deeds_of_1 : E := (.tup (.cons (.str [99, 117, 116]) (.cons (.var 3) .nil)))
noncomputable def x_deeds_of_2 : E := (.tup (.cons (.str [112, 117, 116]) (.cons (.var 3) (.cons (.var 4) .nil))))
noncomputable def l_deeds_of_1 : Cs := (.cons (.asg 2 (.cat false (.var 2) (.lc false x_deeds_of_2 (.nm 4) (.seq (.sset false (.var 1))) .no))) .nil)
noncomputable def b_deeds_of : Cs := (.cons (.asg 2 (.lc false x_deeds_of_1 (.nm 3) (.rng (.bi .len (.cons (.var 0) .nil))) .no)) (.cons (.for (.nm 3) (.rng (.bin .add (.bi .len (.cons (.var 0) .nil)) (.int 1))) l_deeds_of_1) (.cons (.ret (.var 2)) .nil)))
noncomputable def f_deeds_of : Fn := ⟨2, 5, b_deeds_of⟩
noncomputable def l_fewest_deeds_2 : Cs := (.cons (.ite (.cmp .lt (.call "how_far" (.cons (.call "done" (.cons (.var 0) (.cons (.var 4) .nil))) (.cons (.var 1) .nil))) (.var 3)) (.cons (.brk) .nil) .nil) .nil)
noncomputable def l_fewest_deeds_1 : Cs := (.cons (.for (.nm 4) (.seq (.call "deeds_of" (.cons (.var 0) (.cons (.var 1) .nil)))) l_fewest_deeds_2) (.cons (.exp (.met .append (.var 2) (.cons (.var 4) .nil))) (.cons (.asg 0 (.call "done" (.cons (.var 0) (.cons (.var 4) .nil)))) (.cons (.aug 3 .sub (.int 1)) .nil))))
noncomputable def b_fewest_deeds : Cs := (.cons (.asg 2 (.lst true .nil)) (.cons (.asg 3 (.call "how_far" (.cons (.var 0) (.cons (.var 1) .nil)))) (.cons (.whl (.cmp .gt (.var 3) (.int 0)) l_fewest_deeds_1) (.cons (.ret (.frz (.var 2))) .nil))))
noncomputable def f_fewest_deeds : Fn := ⟨2, 5, b_fewest_deeds⟩
noncomputable def b__law_hand : Cs := (.cons (.asg 2 (.int 0)) (.cons (.ite (.cmp .ge (.var 0) (.bin .pow (.int 10) (.int 18))) (.cons (.asg 2 (.var 0)) .nil) .nil) (.cons (.ret (.lst true (.cons (.var 2) (.cons (.bin .mod (.bin .mul (.bin .add (.bin .add (.bin .mod (.var 0) (.int 2147483587)) (.bin .mul (.int 7919) (.var 1))) (.int 1)) (.int 48271)) (.int 2147483587)) .nil)))) .nil)))
noncomputable def f__law_hand : Fn := ⟨2, 3, b__law_hand⟩
noncomputable def b__law_draw : Cs := (.cons (.ite (.cmp .gt (.idx (.var 0) (.int 0)) (.int 0)) (.cons (.asg 2 (.bin .mod (.idx (.var 0) (.int 0)) (.var 1))) (.cons (.seti (.var 0) (.int 0) (.bin .fdiv (.idx (.var 0) (.int 0)) (.var 1))) (.cons (.ret (.var 2)) .nil))) .nil) (.cons (.seti (.var 0) (.int 1) (.bin .mod (.bin .add (.bin .add (.bin .mul (.idx (.var 0) (.int 1)) (.idx (.var 0) (.int 1))) (.bin .mul (.int 69621) (.idx (.var 0) (.int 1)))) (.int 12345)) (.int 2147483587))) (.cons (.ret (.bin .mod (.bin .fdiv (.idx (.var 0) (.int 1)) (.int 8)) (.var 1))) .nil)))
noncomputable def f__law_draw : Fn := ⟨2, 3, b__law_draw⟩
noncomputable def b__law_cells : Cs := (.cons (.ret (.lenm false (.cat false (.sl false (.var 0) .no (.so (.var 1))) (.rpt false (.lst false (.cons (.int 0) .nil)) (.bi .int (.cons (.cmp .eq (.var 0) (.lst false .nil)) .nil)))))) .nil)
noncomputable def f__law_cells : Fn := ⟨2, 2, b__law_cells⟩
noncomputable def x__law_signs_1 : E := (.idx (.var 1) (.bin .mod (.bin .add (.var 2) (.bin .mul (.var 3) (.var 5))) (.int 27)))
noncomputable def b__law_signs : Cs := (.cons (.asg 1 (.str [97, 98, 99, 100, 101, 102, 103, 104, 105, 106, 107, 108, 109, 110, 111, 112, 113, 114, 115, 116, 117, 118, 119, 120, 121, 122, 32])) (.cons (.asg 2 (.call "_law_draw" (.cons (.var 0) (.cons (.int 27) .nil)))) (.cons (.asg 3 (.idx (.lst false (.cons (.int 1) (.cons (.int 2) (.cons (.int 4) (.cons (.int 5) (.cons (.int 7) (.cons (.int 8) (.cons (.int 10) (.cons (.int 11) (.cons (.int 13) .nil)))))))))) (.call "_law_draw" (.cons (.var 0) (.cons (.int 9) .nil))))) (.cons (.asg 4 (.idx (.lst false (.cons (.int 1) (.cons (.int 2) (.cons (.int 3) (.cons (.int 6) (.cons (.int 27) .nil)))))) (.call "_law_draw" (.cons (.var 0) (.cons (.int 5) .nil))))) (.cons (.ret (.met .join (.str []) (.cons (.lc false x__law_signs_1 (.nm 5) (.rng (.var 4)) .no) .nil))) .nil)))))
noncomputable def f__law_signs : Fn := ⟨1, 6, b__law_signs⟩
noncomputable def x__law_line_1 : E := (.idx (.var 1) (.call "_law_draw" (.cons (.var 0) (.cons (.bi .len (.cons (.var 1) .nil)) .nil))))
noncomputable def b__law_line : Cs := (.cons (.ret (.met .join (.str []) (.cons (.lc false x__law_line_1 (.nm 3) (.rng (.call "_law_draw" (.cons (.var 0) (.cons (.bin .add (.var 2) (.int 1)) .nil)))) .no) .nil))) .nil)
noncomputable def f__law_line : Fn := ⟨3, 4, b__law_line⟩
noncomputable def l__law_two_1 : Cs := (.cons (.asg 7 (.call "_law_draw" (.cons (.var 0) (.cons (.bin .add (.bi .len (.cons (.var 5) .nil)) (.int 1)) .nil)))) (.cons (.ite (.cmp .eq (.call "_law_draw" (.cons (.var 0) (.cons (.int 2) .nil))) (.int 0)) (.cons (.asg 5 (.bin .add (.sl false (.var 5) .no (.so (.var 7))) (.sl false (.var 5) (.so (.bin .add (.var 7) (.int 1))) .no))) .nil) (.cons (.ite (.cmp .lt (.bi .len (.cons (.var 5) .nil)) (.var 1)) (.cons (.asg 5 (.bin .add (.bin .add (.sl false (.var 5) .no (.so (.var 7))) (.idx (.var 2) (.call "_law_draw" (.cons (.var 0) (.cons (.bi .len (.cons (.var 2) .nil)) .nil))))) (.sl false (.var 5) (.so (.var 7)) .no))) .nil) .nil) .nil)) .nil))
noncomputable def b__law_two : Cs := (.cons (.asg 2 (.call "_law_signs" (.cons (.var 0) .nil))) (.cons (.asg 3 (.call "_law_line" (.cons (.var 0) (.cons (.var 2) (.cons (.var 1) .nil))))) (.cons (.asg 4 (.call "_law_draw" (.cons (.var 0) (.cons (.int 4) .nil)))) (.cons (.ite (.cmp .eq (.var 4) (.int 0)) (.cons (.ret (.tup (.cons (.var 3) (.cons (.rev false (.var 3)) .nil)))) .nil) .nil) (.cons (.ite (.cmp .eq (.var 4) (.int 1)) (.cons (.ret (.tup (.cons (.var 3) (.cons (.call "_law_line" (.cons (.var 0) (.cons (.var 2) (.cons (.var 1) .nil)))) .nil)))) .nil) .nil) (.cons (.asg 5 (.var 3)) (.cons (.for (.nm 6) (.rng (.call "_law_draw" (.cons (.var 0) (.cons (.int 6) .nil)))) l__law_two_1) (.cons (.ret (.idx (.lst false (.cons (.tup (.cons (.var 3) (.cons (.var 5) .nil))) (.cons (.tup (.cons (.var 5) (.cons (.var 3) .nil))) .nil))) (.bin .sub (.var 4) (.int 2)))) .nil))))))))
noncomputable def f__law_two : Fn := ⟨2, 8, b__law_two⟩
noncomputable def x__law_kinds_right_1 : E := (.var 3)
noncomputable def y__law_kinds_right_1 : Oe := .so (.cmp .eq (.idx (.var 3) (.int 0)) (.str [99, 117, 116]))
noncomputable def x__law_kinds_right_2 : E := (.var 3)
noncomputable def y__law_kinds_right_2 : Oe := .so (.cmp .eq (.idx (.var 3) (.int 0)) (.str [112, 117, 116]))
noncomputable def x__law_kinds_right_3 : E := (.int 1)
noncomputable def y__law_kinds_right_3 : Oe := .so (.cmp .lt (.idx (.var 4) (.int 1)) (.idx (.var 3) (.int 1)))
noncomputable def b__law_kinds_right : Cs := (.cons (.asg 1 (.lc false x__law_kinds_right_1 (.nm 3) (.seq (.var 0)) y__law_kinds_right_1)) (.cons (.asg 2 (.lc false x__law_kinds_right_2 (.nm 3) (.seq (.var 0)) y__law_kinds_right_2)) (.cons (.ite (.or (.cons (.cmp .ne (.var 0) (.cat false (.var 1) (.var 2))) (.cons (.cmp .ne (.var 1) (.bi (.sorted false) (.cons (.var 1) .nil))) .nil))) (.cons (.ret (.bl false)) .nil) .nil) (.cons (.ret (.cmp .eq (.lc false x__law_kinds_right_3 (.tp [3, 4]) (.zip (.var 2) (.sl false (.var 2) (.so (.int 1)) .no)) y__law_kinds_right_3) (.lst false .nil))) .nil))))
noncomputable def f__law_kinds_right : Fn := ⟨1, 5, b__law_kinds_right⟩
noncomputable def x__law_right_1 : E := (.idx (.var 6) (.int 2))
noncomputable def l__law_right_1 : Cs := (.cons (.ite (.cmp .ne (.bi .len (.cons (.var 5) .nil)) (.bi .len (.cons (.var 3) .nil))) (.cons (.ret (.bl false)) .nil) .nil) .nil)
noncomputable def b__law_right : Cs := (.cons (.asg 3 (.call "fewest_deeds" (.cons (.var 1) (.cons (.var 2) .nil)))) (.cons (.ite (.or (.cons (.not (.call "_law_kinds_right" (.cons (.var 3) .nil))) (.cons (.cmp .ne (.bi .len (.cons (.call "fewest_deeds" (.cons (.var 2) (.cons (.var 1) .nil))) .nil)) (.bi .len (.cons (.var 3) .nil))) .nil))) (.cons (.ret (.bl false)) .nil) .nil) (.cons (.ite (.or (.cons (.cmp .ne (.bi .len (.cons (.call "fewest_deeds" (.cons (.rev false (.var 1)) (.cons (.rev false (.var 2)) .nil))) .nil)) (.bi .len (.cons (.var 3) .nil))) (.cons (.cmp .ne (.call "fewest_deeds" (.cons (.var 1) (.cons (.var 1) .nil))) (.lst false .nil)) .nil))) (.cons (.ret (.bl false)) .nil) .nil) (.cons (.ite (.cmp .ne (.bi (.sorted false) (.cons (.lc false x__law_right_1 (.nm 6) (.seq (.call "fewest_deeds" (.cons (.str []) (.cons (.var 2) .nil)))) .no) .nil)) (.bi (.sorted false) (.cons (.var 2) .nil))) (.cons (.ret (.bl false)) .nil) .nil) (.cons (.ite (.cmp .ne (.call "fewest_deeds" (.cons (.var 1) (.cons (.str []) .nil))) (.rpt false (.lst false (.cons (.tup (.cons (.str [99, 117, 116]) (.cons (.int 0) .nil))) .nil)) (.bi .len (.cons (.var 1) .nil)))) (.cons (.ret (.bl false)) .nil) .nil) (.cons (.asg 4 (.call "_law_line" (.cons (.var 0) (.cons (.call "_law_signs" (.cons (.var 0) .nil)) (.cons (.int 4) .nil))))) (.cons (.for (.nm 5) (.seq (.lst false (.cons (.call "fewest_deeds" (.cons (.bin .add (.var 4) (.var 1)) (.cons (.bin .add (.var 4) (.var 2)) .nil))) (.cons (.call "fewest_deeds" (.cons (.bin .add (.var 1) (.var 4)) (.cons (.bin .add (.var 2) (.var 4)) .nil))) .nil)))) l__law_right_1) (.cons (.ret (.cmp .eq (.bin .mod (.bin .add (.bin .add (.bi .len (.cons (.var 3) .nil)) (.bi .len (.cons (.var 1) .nil))) (.bi .len (.cons (.var 2) .nil))) (.int 2)) (.int 0))) .nil))))))))
noncomputable def f__law_right : Fn := ⟨3, 7, b__law_right⟩
noncomputable def l_law_1 : Cs := (.cons (.asg 3 (.call "_law_hand" (.cons (.var 2) (.cons (.var 1) .nil)))) (.cons (.tpa [4, 5] (.call "_law_two" (.cons (.var 3) (.cons (.int 7) .nil)))) (.cons (.asg 6 (.call "_law_line" (.cons (.var 3) (.cons (.bin .add (.bin .add (.var 4) (.var 5)) (.str [97])) (.cons (.int 7) .nil))))) (.cons (.ite (.or (.cons (.not (.call "_law_right" (.cons (.var 3) (.cons (.var 4) (.cons (.var 5) .nil))))) (.cons (.not (.call "_law_right" (.cons (.var 3) (.cons (.var 5) (.cons (.var 6) .nil))))) .nil))) (.cons (.ret (.bl false)) .nil) .nil) (.cons (.asg 7 (.lst false (.cons (.call "fewest_deeds" (.cons (.var 4) (.cons (.var 6) .nil))) (.cons (.call "fewest_deeds" (.cons (.var 4) (.cons (.var 5) .nil))) (.cons (.call "fewest_deeds" (.cons (.var 5) (.cons (.var 6) .nil))) .nil))))) (.cons (.ite (.cmp .gt (.bi .len (.cons (.idx (.var 7) (.int 0)) .nil)) (.bin .add (.bi .len (.cons (.idx (.var 7) (.int 1)) .nil)) (.bi .len (.cons (.idx (.var 7) (.int 2)) .nil)))) (.cons (.ret (.bl false)) .nil) .nil) .nil))))))
noncomputable def b_law : Cs := (.cons (.for (.tp [1, 2]) (.seq (.call "_law_cells" (.cons (.var 0) (.cons (.int 16) .nil)))) l_law_1) (.cons (.ret (.bl true)) .nil))
noncomputable def f_law : Fn := ⟨1, 8, b_law⟩
noncomputable def tbl : List ((String × String) × Fn) := [(("", "is_sign"), f_is_sign), (("", "is_place"), f_is_place), (("", "is_deed"), f_is_deed), (("", "can_be_done"), f_can_be_done), (("", "done"), f_done), (("", "grown"), f_grown), (("", "paper_of"), f_paper_of), (("", "how_far"), f_how_far), (("", "deeds_of"), f_deeds_of), (("", "fewest_deeds"), f_fewest_deeds), (("", "_law_hand"), f__law_hand), (("", "_law_draw"), f__law_draw), (("", "_law_cells"), f__law_cells), (("", "_law_signs"), f__law_signs), (("", "_law_line"), f__law_line), (("", "_law_two"), f__law_two), (("", "_law_kinds_right"), f__law_kinds_right), (("", "_law_right"), f__law_right), (("", "law"), f_law)]
noncomputable def Pg : Prg := fun c f => tbl.lookup (c, f)
theorem pg_is_sign : Pg "" "is_sign" = some f_is_sign := rfl
theorem pg_is_place : Pg "" "is_place" = some f_is_place := rfl
theorem pg_is_deed : Pg "" "is_deed" = some f_is_deed := rfl
theorem pg_can_be_done : Pg "" "can_be_done" = some f_can_be_done := rfl
theorem pg_done : Pg "" "done" = some f_done := rfl
theorem pg_grown : Pg "" "grown" = some f_grown := rfl
theorem pg_paper_of : Pg "" "paper_of" = some f_paper_of := rfl
theorem pg_how_far : Pg "" "how_far" = some f_how_far := rfl
theorem pg_deeds_of : Pg "" "deeds_of" = some f_deeds_of := rfl
theorem pg_fewest_deeds : Pg "" "fewest_deeds" = some f_fewest_deeds := rfl
theorem pg__law_hand : Pg "" "_law_hand" = some f__law_hand := rfl
theorem pg__law_draw : Pg "" "_law_draw" = some f__law_draw := rfl
theorem pg__law_cells : Pg "" "_law_cells" = some f__law_cells := rfl
theorem pg__law_signs : Pg "" "_law_signs" = some f__law_signs := rfl
theorem pg__law_line : Pg "" "_law_line" = some f__law_line := rfl
theorem pg__law_two : Pg "" "_law_two" = some f__law_two := rfl
theorem pg__law_kinds_right : Pg "" "_law_kinds_right" = some f__law_kinds_right := rfl
theorem pg__law_right : Pg "" "_law_right" = some f__law_right := rfl
theorem pg_law : Pg "" "law" = some f_law := rfl
theorem r_is_sign (k : Nat) (s : S) (a0 : D) : callF Pg (k + 1) "" "is_sign" [a0] s = kRet (exs (callF Pg k) b_is_sign [some a0] s) := call_run (F := f_is_sign) pg_is_sign rfl
theorem r_is_place (k : Nat) (s : S) (a0 : D) : callF Pg (k + 1) "" "is_place" [a0] s = kRet (exs (callF Pg k) b_is_place [some a0] s) := call_run (F := f_is_place) pg_is_place rfl
theorem r_is_deed (k : Nat) (s : S) (a0 : D) : callF Pg (k + 1) "" "is_deed" [a0] s = kRet (exs (callF Pg k) b_is_deed [some a0] s) := call_run (F := f_is_deed) pg_is_deed rfl
theorem r_can_be_done (k : Nat) (s : S) (a0 : D) (a1 : D) : callF Pg (k + 1) "" "can_be_done" [a0, a1] s = kRet (exs (callF Pg k) b_can_be_done [some a0, some a1] s) := call_run (F := f_can_be_done) pg_can_be_done rfl
theorem r_done (k : Nat) (s : S) (a0 : D) (a1 : D) : callF Pg (k + 1) "" "done" [a0, a1] s = kRet (exs (callF Pg k) b_done [some a0, some a1] s) := call_run (F := f_done) pg_done rfl
theorem r_grown (k : Nat) (s : S) (a0 : D) (a1 : D) (a2 : D) : callF Pg (k + 1) "" "grown" [a0, a1, a2] s = kRet (exs (callF Pg k) b_grown [some a0, some a1, some a2, none, none, none, none] s) := call_run (F := f_grown) pg_grown rfl
theorem r_paper_of (k : Nat) (s : S) (a0 : D) (a1 : D) : callF Pg (k + 1) "" "paper_of" [a0, a1] s = kRet (exs (callF Pg k) b_paper_of [some a0, some a1, none, none] s) := call_run (F := f_paper_of) pg_paper_of rfl
theorem r_how_far (k : Nat) (s : S) (a0 : D) (a1 : D) : callF Pg (k + 1) "" "how_far" [a0, a1] s = kRet (exs (callF Pg k) b_how_far [some a0, some a1] s) := call_run (F := f_how_far) pg_how_far rfl
theorem r_deeds_of (k : Nat) (s : S) (a0 : D) (a1 : D) : callF Pg (k + 1) "" "deeds_of" [a0, a1] s = kRet (exs (callF Pg k) b_deeds_of [some a0, some a1, none, none, none] s) := call_run (F := f_deeds_of) pg_deeds_of rfl
theorem r_fewest_deeds (k : Nat) (s : S) (a0 : D) (a1 : D) : callF Pg (k + 1) "" "fewest_deeds" [a0, a1] s = kRet (exs (callF Pg k) b_fewest_deeds [some a0, some a1, none, none, none] s) := call_run (F := f_fewest_deeds) pg_fewest_deeds rfl
theorem r__law_hand (k : Nat) (s : S) (a0 : D) (a1 : D) : callF Pg (k + 1) "" "_law_hand" [a0, a1] s = kRet (exs (callF Pg k) b__law_hand [some a0, some a1, none] s) := call_run (F := f__law_hand) pg__law_hand rfl
theorem r__law_draw (k : Nat) (s : S) (a0 : D) (a1 : D) : callF Pg (k + 1) "" "_law_draw" [a0, a1] s = kRet (exs (callF Pg k) b__law_draw [some a0, some a1, none] s) := call_run (F := f__law_draw) pg__law_draw rfl
theorem r__law_cells (k : Nat) (s : S) (a0 : D) (a1 : D) : callF Pg (k + 1) "" "_law_cells" [a0, a1] s = kRet (exs (callF Pg k) b__law_cells [some a0, some a1] s) := call_run (F := f__law_cells) pg__law_cells rfl
theorem r__law_signs (k : Nat) (s : S) (a0 : D) : callF Pg (k + 1) "" "_law_signs" [a0] s = kRet (exs (callF Pg k) b__law_signs [some a0, none, none, none, none, none] s) := call_run (F := f__law_signs) pg__law_signs rfl
theorem r__law_line (k : Nat) (s : S) (a0 : D) (a1 : D) (a2 : D) : callF Pg (k + 1) "" "_law_line" [a0, a1, a2] s = kRet (exs (callF Pg k) b__law_line [some a0, some a1, some a2, none] s) := call_run (F := f__law_line) pg__law_line rfl
theorem r__law_two (k : Nat) (s : S) (a0 : D) (a1 : D) : callF Pg (k + 1) "" "_law_two" [a0, a1] s = kRet (exs (callF Pg k) b__law_two [some a0, some a1, none, none, none, none, none, none] s) := call_run (F := f__law_two) pg__law_two rfl
theorem r__law_kinds_right (k : Nat) (s : S) (a0 : D) : callF Pg (k + 1) "" "_law_kinds_right" [a0] s = kRet (exs (callF Pg k) b__law_kinds_right [some a0, none, none, none, none] s) := call_run (F := f__law_kinds_right) pg__law_kinds_right rfl
theorem r__law_right (k : Nat) (s : S) (a0 : D) (a1 : D) (a2 : D) : callF Pg (k + 1) "" "_law_right" [a0, a1, a2] s = kRet (exs (callF Pg k) b__law_right [some a0, some a1, some a2, none, none, none, none] s) := call_run (F := f__law_right) pg__law_right rfl
theorem r_law (k : Nat) (s : S) (a0 : D) : callF Pg (k + 1) "" "law" [a0] s = kRet (exs (callF Pg k) b_law [some a0, none, none, none, none, none, none, none] s) := call_run (F := f_law) pg_law rfl
local macro_rules
  | `(tactic| simp? $cfg:optConfig only [$args,*] $[$loc:location]?) => `(tactic| simp $cfg:optConfig only [e_var, kVar_ok, e_non, e_bl, e_int, e_str, e_gs, e_bin, kBin1_ok, kBin2_ok, e_neg, kNeg_ok, e_not, kNot_ok, e_and, e_or, a_one, a_more, o_one, o_more, kAnd_t, kAnd_f, kOr_t, kOr_f, kAnd_b, kOr_b, e_cmp, kCmp1_ok, kCmp2_ok, e_chn, kChn1_ok, kChn2_ok, c_lt, c_le, c_gt, c_ge, c_eq, c_ne, q_int, q_str, q_bl, c_isN, c_isnN, c_isB, Fl.map_some, lft_some, e_ite, kIte_b, es_nil, es_cons, kEs1_ok, kEs2_ok, e_tup, kTup_0, kTup_1, kTup_2, kTup_3, kTup_4, e_lst, kLst_0f, kLst_1f, kLst_2f, kLst_3f, kLst_4f, kLst_5f, kLst_6f, kLst_7f, kLst_8f, kLst_0t, kLst_1t, kLst_2t, kLst_3t, kLst_4t, e_cat, kCat1_ok, e_idx, kIdx1_ok, kIdx2_ok, i_tup', i_lst', i_scr, at_0, at_1, at_2, at_3, at_4, at_5, at_6, at_7, at_8, o_no, o_so, kO_ok, e_sl, kSl1_ok, kSl2_ok, kSl3_ok, sl_tup', sl_scr, sl_lst', e_call, kCall_ok, e_bi, kBi_ok, b_intI, b_intB, b_min, b_max, b_abs, b_lenT, b_lenL, b_lenC, b_listL, b_listT, b_listLb, e_isi, kIsi_ok, n_int, n_str, n_bl, n_tup, n_lst, n_non, subTy, e_lrng, kLr_ok, e_met, kMet1_ok, kMet2_ok, e_frz, kFrz_ok, e_lc, kLc_ok, t_seq, kSeq'_l, kSeq'_c, t_tup, kTupI_ok, t_str, kStrI_ok, t_rng, t_enm, kEnm_l, s_nil, s_cons, kSeq_nx, kSeq_rt, kSeq_bk, kSeq_ct, s_asg, kAsg_ok, s_tpa, kTpa_2, kTpa_3, s_aug, kAug0_ok, kAug_add, kAug_sub, s_seti, kSt1_ok, kSt2_ok, kSt3_ok, s_exp, kExp_ok, s_ret, kRt_ok, s_retn, s_ite, kIf_b, s_for, kFor_ok, s_whl, s_pas, s_brk, kRet_rt, kRet_nx, bi_add, bi_sub, List.getElem?_cons_zero, List.getElem?_cons_succ, List.set_cons_zero, List.set_cons_succ, decide_eq_true_eq, decide_true, decide_false, if_true, if_false, ite_true, ite_false, Bool.false_eq_true, Bool.not_true, Bool.not_false, isNon, e_dget, kDg1_ok, kDg2_ok, b_len1, e_fld, kFld_ok, e_own, e_mak, kMak_ok, kMak2_ok, s_setf, kSf_ok, kSf2_ok, s_augf, s_par, kPar_ok, kPar2_ok, e_dsp, e_rpt, kRpt_ok, e_isit, kIsit_ok, nt_int, nt_str, nt_bl, nt_tup, nt_lst, nt_non, List.any_cons, List.any_nil, Bool.or_false, Bool.false_or, Bool.true_or, t_zip, kZip_ok, kZip2_l, kTpa_4, kOwn2_ok, e_lset, kLset_l, s_tpl, kTpl_2, e_dsv, kDsv_ok, kDsv2_ok, kSeq_rz, kRet_rz, s_rz, s_xexp, kXexp_ok, kXexp_er, s_xasg, kXasg_ok, kXasg_er, s_xret, kXret_ok, kXret_er, x_call, kXc_ok, x_own, kXo2_ok, s_xsetf, kXsf_ok, kXsf_er, s_tryc, kTry_nx, s_tryk, kTryk_nx, s_tryh, kTryh_nx, e_isx, e_isxt, t_any, kAny_t, kAny_l, s_par3, kPar3a_ok, kPar3b_ok, kPar3c_ok, e_dnt, e_rpr, kRpr_ok, e_dgv, kDv2_ok, kRev_t, idxO_dit, e_rev, kRev_f, e_lenm, kLenm_l, t_ens, kEns_ok, b_min3, e_rps, kLst_9f, kLst_10f, kLst_11f, kLst_12f, kLst_13f, kLst_14f, kLst_15f, kLst_16f, kLst_17f, kLst_18f, kLst_19f, e_sset, xe_ite, kXi_b, xe_lst2, kX2a_ok, kX2a_er, kX2b_ok, kX2b_er, xe_lst3, kX3a_ok, kX3a_er, kX3b_ok, kX3b_er, kX3c_ok, kX3c_er, s_augi, kAi2_ok, xe_pick, kPk_0, kPk_1, e_denm, kDenm_l, e_gi, e_fst, e_rpl, kRpl1_ok, t_zips, kZs_ok, kZs2_l, e_dnn, e_inn2, kI2_ok, kI3_ok, s_setn, kSn_ok, kSn2_ok, e_nint, kNint_ok, e_irp, kIrp_s, s_rpd, kRpd_s, s_tryn, kTryn_nx, s_try2, kTry2_nx, kTry2_rz, xe_xc1, kXc1_ok, kXc1_er, mt_splitN, t_rng2, kR2a_ok, e_lzip, kLz_ok, kLz2_l, e_sdf, kSd_ok, kSd2_ok, kSd3_ok, e_ltx, $args,*] $[$loc:location]?)
noncomputable def Sgn (c : Nat) : Prop := c ∈ [97, 98, 99, 100, 101, 102, 103, 104, 105, 106, 107, 108, 109, 110, 111, 112, 113, 114, 115, 116, 117, 118, 119, 120, 121, 122, 32]
/-- the hand: digits, and what is mixed -/
noncomputable def Well (s : S) (n : Nat) : Prop := ∃ a b : Int, s.m n = some (.lst [.int a, .int b]) ∧ 0 ≤ b ∧ b < 2147483587
theorem Well.fr {s s' : S} {n : Nat} {M : List Nat} (h : Well s n) (ho : Fr s s' M) (hn : n < s.nx) (hm : n ∉ M) : Well s' n := by
  obtain ⟨a, b, h1, h2, h3⟩ := h
  exact ⟨a, b, (ho.2 n hn hm).trans h1, h2, h3⟩
theorem Well.old {s s' : S} {n : Nat} (h : Well s n) (ho : Old s s') (hn : n < s.nx) : Well s' n := h.fr (Fr.old ho []) hn (fun h => by cases h)
theorem hand_spec (k : Nat) (s : S) (c : Int) (i : Nat) : ∃ s', callF Pg (k + 1) "" "_law_hand" [.int c, .int i] s = some (.ok (.ref s.nx), s') ∧ Well s' s.nx ∧ s'.nx = s.nx + 1 ∧ ∀ j, j ≠ s.nx → s'.m j = s.m j := by
  have e1 : ∀ x : Int, 0 ≤ x % 2147483587 ∧ x % 2147483587 < 2147483587 := fun x => ⟨Int.emod_nonneg _ (by decide), Int.emod_lt_of_pos _ (by decide)⟩
  simp? only [r__law_hand, b__law_hand, bi_pow 10 18 (by decide), bi_mod c 2147483587 (by decide), bi_mul 7919 _ (sm_l _ _ (by decide)), bi_mul _ 48271 (sm_r _ _ (by decide)), bi_mod _ 2147483587 (by decide)]
  by_cases h : 10 ^ (18 : Int).toNat ≤ c
  · simp? only [h, bi_mod c 2147483587 (by decide), bi_mul 7919 _ (sm_l _ _ (by decide)), bi_mul _ 48271 (sm_r _ _ (by decide)), bi_mod _ 2147483587 (by decide)]
    exact ⟨_, rfl, ⟨_, _, new_same _, (e1 _).1, (e1 _).2⟩, rfl, fun j h => new_ne j _ h⟩
  · simp? only [h, bi_mod c 2147483587 (by decide), bi_mul 7919 _ (sm_l _ _ (by decide)), bi_mul _ 48271 (sm_r _ _ (by decide)), bi_mod _ 2147483587 (by decide)]
    exact ⟨_, rfl, ⟨_, _, new_same _, (e1 _).1, (e1 _).2⟩, rfl, fun j h => new_ne j _ h⟩
theorem draw_spec (k : Nat) (s : S) (n : Nat) (m : Int) (hw : Well s n) (hm : 0 < m ∧ m < 10000000000000000000000000000000000000000) : ∃ v s', callF Pg (k + 1) "" "_law_draw" [.ref n, .int m] s = some (.ok (.int v), s') ∧ 0 ≤ v ∧ v < m ∧ Well s' n ∧ Keep s s' n := by
  obtain ⟨a, b, h, hb0, hb1⟩ := hw
  simp? only [r__law_draw, b__law_draw, i_ref n 0 _ h]
  by_cases ha : 0 < a
  · simp? only [ha, i_ref n 0 _ h, bi_mod a m hm.1, bi_fdiv a m hm, sto_ok n 0 0 _ _ h (ix_0 _ _)]
    exact ⟨_, _, rfl, Int.emod_nonneg _ (by omega), Int.emod_lt_of_pos _ hm.1, ⟨_, b, put_same _ _, hb0, hb1⟩, put_nx _ _, fun j hj => put_ne _ _ _ hj⟩
  · simp? only [ha, i_ref n 1 _ h, bi_mul b b (sm_l _ _ (by omega)), bi_mul 69621 b (sm_l _ _ (by decide)), bi_mod _ 2147483587 (by decide), sto_ok n 1 1 _ _ h (ix_1 _ _ _)]
    simp? only [i_ref n 1 _ (put_same _ _), bi_fdiv _ 8 (by omega), bi_mod _ m hm.1]
    exact ⟨_, _, rfl, Int.emod_nonneg _ (by omega), Int.emod_lt_of_pos _ hm.1, ⟨a, _, put_same _ _, Int.emod_nonneg _ (by decide), Int.emod_lt_of_pos _ (by decide)⟩, put_nx _ _, fun j hj => put_ne _ _ _ hj⟩
/-- a row of cells with their places -/
noncomputable def Cel (xs : List D) : Prop := ∀ (i : Nat) (x : D), xs[i]? = some x → ∃ v : Int, x = D.tup [.int (i : Nat), .int v]
theorem scr_nil {s : S} (ns : List Int) : eqS s (.scr (ns.map D.int)) (.lst []) = some ns.isEmpty := by
  have h1 : opn s (.scr (ns.map D.int)) = .lst (ns.map D.int) := rfl
  have h4 : opn s (.lst []) = .lst [] := rfl
  have h2 : shp 60 (.lst (ns.map D.int)) = true := by simp only [shp]; exact shp_ints 59 ns
  have h3 : shp 60 (.lst []) = true := by decide
  show (if (shp 60 (opn s (.scr (ns.map D.int))) && shp 60 (opn s (.lst []))) = true then some (eqD (opn s (.scr (ns.map D.int))) (opn s (.lst []))) else _) = _
  rw [h1, h4, h2, h3]
  simp only [Bool.and_self, if_true]
  cases ns <;> simp only [List.map_nil, List.map_cons, eqD, eqL, List.isEmpty]
theorem cells_spec (k : Nat) (s : S) (ns : List Int) (m : Nat) (hn : ns.length ≤ 63) : ∃ xs : List D, callF Pg (k + 1) "" "_law_cells" [.scr (ns.map D.int), .int m] s = some (.ok (.lst xs), s) ∧ Cel xs ∧ xs.length ≤ 64 := by
  have key : ∀ zs : List Int, Cel (enumL 0 (zs.map D.int)) := fun zs i x hx => by
    rw [enumL_get, List.getElem?_map] at hx
    cases hz : zs[i]? with
    | none => rw [hz] at hx; cases hx
    | some v =>
      rw [hz] at hx
      simp only [Option.map_some, Option.some.injEq, Nat.zero_add] at hx
      exact ⟨v, hx.symm⟩
  have hl : (ns.map D.int).length ≤ 63 := by rw [List.length_map]; exact hn
  have ht : (ns.take m).length ≤ 63 := by rw [List.length_take]; omega
  cases ns with
  | nil =>
    refine ⟨enumL 0 (([] ++ [0] : List Int).map D.int), ?_, key _, by decide⟩
    have e1 : kRpt2 false (.lst [.int 0]) (some (.ok (.int 1), s)) = some (.ok (.lst (List.replicate 1 [D.int 0]).flatten), s) := kRpt2_f [.int 0] 1 (by decide)
    have e2 : cut ([] : List D) none (some (m : Int)) = [] := by rw [cut_to]; simp
    have e0 : eqS s (.scr []) (.lst []) = some true := scr_nil []
    simp? (config := {decide := true}) only [r__law_cells, b__law_cells, e0, e1, e2, List.map_nil, List.isEmpty]
    rw [kCat2_f _ _ (by decide)]
    simp? only [] <;> rfl
  | cons v ns =>
    refine ⟨enumL 0 (((v :: ns).take m).map D.int), ?_, key _, by rw [enumL_len, List.length_map]; omega⟩
    have e1 : kRpt2 false (.lst [.int 0]) (some (.ok (.int 0), s)) = some (.ok (.lst (List.replicate 0 [D.int 0]).flatten), s) := kRpt2_f [.int 0] 0 (by decide)
    have e2 : cut ((v :: ns).map D.int) none (some (m : Int)) = ((v :: ns).take m).map D.int := by rw [cut_to, List.map_take]
    simp? (config := {decide := true}) only [r__law_cells, b__law_cells, scr_nil, e1, e2, List.isEmpty]
    rw [kCat2_f _ _ (by rw [List.length_map]; simp only [List.replicate, List.flatten, List.length_nil]; unfold LIM; omega)]
    simp? only [List.replicate, List.flatten, List.append_nil]

/-- signs to draw from -/
noncomputable def Sgs (x : List Nat) : Prop := 1 ≤ x.length ∧ x.length ≤ 27 ∧ ∀ c ∈ x, Sgn c
theorem signs_spec (k : Nat) (s : S) (n : Nat) (hw : Well s n) : ∃ (x : List Nat) (s' : S), callF Pg (k + 1 + 1) "" "_law_signs" [.ref n] s = some (.ok (.str x), s') ∧ Sgs x ∧ Well s' n ∧ Keep s s' n := by
  obtain ⟨v1, s1, h1, h1a, h1b, w1, k1⟩ := draw_spec k s n 27 hw (by omega)
  obtain ⟨v2, s2, h2, h2a, h2b, w2, k2⟩ := draw_spec k s1 n 9 w1 (by omega)
  obtain ⟨v3, s3, h3, h3a, h3b, w3, k3⟩ := draw_spec k s2 n 5 w2 (by omega)
  have q2 : ∃ q : Int, atI [D.int 1, D.int 2, D.int 4, D.int 5, D.int 7, D.int 8, D.int 10, D.int 11, D.int 13] v2 = some (.int q) ∧ 0 ≤ q ∧ q ≤ 13 := by
    obtain ⟨d, e1, e2⟩ := at_get [D.int 1, D.int 2, D.int 4, D.int 5, D.int 7, D.int 8, D.int 10, D.int 11, D.int 13] v2 h2a h2b
    simp only [List.mem_cons, List.not_mem_nil, or_false] at e2
    rcases e2 with rfl | rfl | rfl | rfl | rfl | rfl | rfl | rfl | rfl <;> exact ⟨_, e1, by decide, by decide⟩
  have q3 : ∃ q : Nat, atI [D.int 1, D.int 2, D.int 3, D.int 6, D.int 27] v3 = some (.int q) ∧ 1 ≤ q ∧ q ≤ 27 := by
    rcases lt_5 h3a h3b with rfl | rfl | rfl | rfl | rfl
    · exact ⟨1, rfl, by decide, by decide⟩
    · exact ⟨2, rfl, by decide, by decide⟩
    · exact ⟨3, rfl, by decide, by decide⟩
    · exact ⟨6, rfl, by decide, by decide⟩
    · exact ⟨27, rfl, by decide, by decide⟩
  obtain ⟨st, q2, q2a, q2b⟩ := q2
  obtain ⟨m, q3, q3a, q3b⟩ := q3
  have kr : kRng (some (.ok (.int (m : Int)), s3)) = some (.ok (.rng 0 m), s3) := by
    rw [kRng_ok (m : Int) (by omega), Int.toNat_natCast]
  obtain ⟨L, hL⟩ : ∃ L : List Nat, L = [97, 98, 99, 100, 101, 102, 103, 104, 105, 106, 107, 108, 109, 110, 111, 112, 113, 114, 115, 116, 117, 118, 119, 120, 121, 122, 32] := ⟨_, rfl⟩
  obtain ⟨ys, s6, hlc, ⟨ds, rfl, h6s, rfl⟩, h6l⟩ := lc_rng (cf := callF Pg (k + 1)) (t := 5) (e := x__law_signs_1) (r := [some (.ref n), some (.str L), some (.int v1), some (.int st), some (.int (m : Int)), none]) (s := s3) m (by unfold LIM; omega) (fun ys s' => ∃ ds : List Nat, ys = ds.map (fun c => D.str [c]) ∧ (∀ c ∈ ds, Sgn c) ∧ s' = s3) ⟨[], rfl, (fun c hc => by cases hc), rfl⟩ (by
    rintro i xs t ⟨ds, rfl, ts, rfl⟩ hx hi
    generalize hj : (v1 + st * (i : Int)) % 27 = j
    have j0 : 0 ≤ j := by rw [← hj]; exact Int.emod_nonneg _ (by decide)
    have j6 : j < 27 := by rw [← hj]; exact Int.emod_lt_of_pos _ (by decide)
    obtain ⟨c, hc, hm⟩ := ix_str L j (s := t) (by rw [hL]; decide) j0 (by rw [hL]; exact j6)
    refine ⟨.str [c], t, ?_, ds ++ [c], by rw [List.map_append]; rfl, ?_, rfl⟩
    · simp? only [x__law_signs_1, bi_mul st _ (sm_l _ _ (by omega)), bi_mod _ 27 (by decide), hj, hc]
    · intro z hz
      rw [List.mem_append, List.mem_singleton] at hz
      rcases hz with hz | rfl
      · exact ts z hz
      · rw [hL] at hm
        exact hm)
  rw [List.length_map] at h6l
  have hj := m_join (s := s6) ds (by omega)
  rw [hL] at hlc
  simp? only [r__law_signs, b__law_signs, h1, h2, q2, h3, q3, mt_join, kr, hlc, hj]
  exact ⟨ds, s6, rfl, ⟨by omega, by omega, h6s⟩, w3, (k1.trans k2).trans k3⟩
theorem line_spec (k : Nat) (s : S) (n : Nat) (sg : List Nat) (most : Nat) (hw : Well s n) (hs : Sgs sg) (hm : most ≤ 1000) : ∃ (l : List Nat) (s' : S), callF Pg (k + 1 + 1) "" "_law_line" [.ref n, .str sg, .int most] s = some (.ok (.str l), s') ∧ l.length ≤ most ∧ (∀ c ∈ l, Sgn c) ∧ Well s' n ∧ Keep s s' n := by
  obtain ⟨v1, s1, h1, h1a, h1b, w1, k1⟩ := draw_spec k s n ((most : Int) + 1) hw (by omega)
  obtain ⟨m, rfl⟩ := Int.eq_ofNat_of_zero_le h1a
  have kr : kRng (some (.ok (.int (m : Int)), s1)) = some (.ok (.rng 0 m), s1) := by
    rw [kRng_ok (m : Int) (by omega), Int.toNat_natCast]
  have hz : sg.length ≤ LIM := by have := hs.2.1; unfold LIM; omega
  obtain ⟨ys, s6, hlc, ⟨ds, rfl, h6s, h6w, h6k⟩, h6l⟩ := lc_rng (cf := callF Pg (k + 1)) (t := 3) (e := x__law_line_1) (r := [some (.ref n), some (.str sg), some (.int most), none]) (s := s1) m (by unfold LIM; omega) (fun ys s' => ∃ ds : List Nat, ys = ds.map (fun c => D.str [c]) ∧ (∀ c ∈ ds, Sgn c) ∧ Well s' n ∧ Keep s1 s' n) ⟨[], rfl, (fun c hc => by cases hc), w1, rfl, fun _ _ => rfl⟩ (by
    rintro i xs t ⟨ds, rfl, ts, tw, tk⟩ hx hi
    obtain ⟨v2, t2, h2, h2a, h2b, w2, k2⟩ := draw_spec k t n (sg.length : Nat) tw (by have := hs.1; have := hs.2.1; omega)
    obtain ⟨c, hc, hcm⟩ := ix_str sg v2 (s := t2) hz h2a h2b
    refine ⟨.str [c], t2, ?_, ds ++ [c], by rw [List.map_append]; rfl, ?_, w2, tk.trans k2⟩
    · simp? only [x__law_line_1, b_lenStr hz, h2, hc]
    · intro z hz
      rw [List.mem_append, List.mem_singleton] at hz
      rcases hz with hz | rfl
      · exact ts z hz
      · exact hs.2.2 _ hcm)
  rw [List.length_map] at h6l
  have hj := m_join (s := s6) ds (by omega)
  simp? only [r__law_line, b__law_line, mt_join, h1, kr, hlc, hj]
  exact ⟨ds, s6, rfl, by omega, h6s, h6w, k1.trans h6k⟩

/-! rows of numbers, one behind the other -/
noncomputable def gst (c x l u d : Nat) : Nat := if c = x then min (min l u + 1) d else min l u + 1
noncomputable def grF (o : List Nat) (a : Nat → Nat) (c : Nat) : Nat → Nat
  | 0 => a 0 + 1
  | j + 1 => gst c (o.getD j 0) (grF o a c j) (a (j + 1)) (a j)
noncomputable def lastR (o : List Nat) (one : List Nat) : Nat → Nat := one.foldl (grF o) (fun j => j)
/-- how far -/
noncomputable def hf (one o : List Nat) : Nat := lastR o one o.length
/-- at most one above the left one -/
noncomputable def Up (a : Nat → Nat) : Prop := ∀ j, a (j + 1) ≤ a j + 1
theorem grF_up (o : List Nat) (a : Nat → Nat) (c : Nat) : Up (grF o a c) := fun j => by
  show gst _ _ _ _ _ ≤ _
  unfold gst
  split <;> omega
theorem grF_le (o : List Nat) (a : Nat → Nat) (c : Nat) : ∀ j, grF o a c j ≤ a j + 1
  | 0 => Nat.le_refl _
  | j + 1 => by
    show gst _ _ _ _ _ ≤ _
    unfold gst
    split <;> omega
theorem grF_ge (o : List Nat) {a : Nat → Nat} (c : Nat) (h : Up a) : ∀ j, a j ≤ grF o a c j + 1
  | 0 => by show a 0 ≤ a 0 + 1 + 1; omega
  | j + 1 => by
    have ih := grF_ge o c h j
    have := h j
    show _ ≤ gst _ _ _ _ _ + 1
    unfold gst
    split <;> omega
theorem grF_mono (o : List Nat) {a b : Nat → Nat} (c : Nat) (h : ∀ j, a j ≤ b j + 1) : ∀ j, grF o a c j ≤ grF o b c j + 1
  | 0 => by
    have := h 0
    show a 0 + 1 ≤ b 0 + 1 + 1
    omega
  | j + 1 => by
    have ih := grF_mono o c h j
    have h1 := h j
    have h2 := h (j + 1)
    show gst _ _ _ _ _ ≤ gst _ _ _ _ _ + 1
    unfold gst
    split <;> omega
theorem fold_mono (o : List Nat) : ∀ (q : List Nat) {a b : Nat → Nat}, (∀ j, a j ≤ b j + 1) → ∀ j, q.foldl (grF o) a j ≤ q.foldl (grF o) b j + 1
  | [], _, _, h => h
  | c :: q, _, _, h => fold_mono o q (grF_mono o c h)
theorem fold_up (o : List Nat) : ∀ (q : List Nat) {a : Nat → Nat}, Up a → Up (q.foldl (grF o) a)
  | [], _, h => h
  | c :: q, a, h => fold_up o q (grF_up o a c)
theorem id_up : Up (fun j => j) := fun j => Nat.le_refl _
theorem lastR_up (o one : List Nat) : Up (lastR o one) := fold_up o one id_up
/-- a deed brings a line nearer by one at most -/
theorem hf_put (o p q : List Nat) (c : Nat) : hf (p ++ q) o ≤ hf (p ++ c :: q) o + 1 ∧ hf (p ++ c :: q) o ≤ hf (p ++ q) o + 1 := by
  unfold hf lastR
  rw [List.foldl_append, List.foldl_append, List.foldl_cons]
  exact ⟨fold_mono o q (grF_ge o c (fold_up o p id_up)) _, fold_mono o q (grF_le o _ c) _⟩
theorem fold_zero (o : List Nat) : ∀ (q : List Nat) (a : Nat → Nat), q.foldl (grF o) a 0 = a 0 + q.length
  | [], a => rfl
  | c :: q, a => by
    rw [List.foldl_cons, fold_zero o q, List.length_cons]
    show a 0 + 1 + q.length = _
    omega
theorem lastR_zero (o one : List Nat) : lastR o one 0 = one.length := by
  unfold lastR
  rw [fold_zero]
  omega
theorem lastR_snoc (o one : List Nat) (c : Nat) : lastR o (one ++ [c]) = grF o (lastR o one) c := by
  unfold lastR
  rw [List.foldl_append]
  rfl
theorem lastR_le (o : List Nat) : ∀ (one : List Nat) (a : Nat → Nat) (j : Nat), one.foldl (grF o) a j ≤ a j + one.length
  | [], a, j => Nat.le_refl _
  | c :: q, a, j => by
    have h1 := lastR_le o q (grF o a c) j
    have h2 := grF_le o a c j
    rw [List.foldl_cons, List.length_cons]
    omega
theorem hf_le (one o : List Nat) : hf one o ≤ o.length + one.length := lastR_le o one (fun j => j) o.length
/-- a row as a thing -/
noncomputable def rwD (n : Nat) (a : Nat → Nat) : List D := (List.range (n + 1)).map fun j => D.int (a j : Nat)
theorem rwD_len (n : Nat) (a : Nat → Nat) : (rwD n a).length = n + 1 := by rw [rwD, List.length_map, List.length_range]
theorem rwD_at {n : Nat} {a : Nat → Nat} {j : Nat} (h : j ≤ n) : (rwD n a)[j]? = some (.int (a j : Nat)) := by
  rw [rwD, List.getElem?_map, List.getElem?_range (by omega)]
  rfl
theorem rwD_succ (n : Nat) (a : Nat → Nat) : rwD (n + 1) a = rwD n a ++ [.int (a (n + 1) : Nat)] := by
  rw [rwD, List.range_succ, List.map_append]
  rfl
theorem rwD_id (n : Nat) : rngL ((n + 1 : Nat) : Int) = rwD n (fun j => j) := by
  rw [rngL, rwD, Int.toNat_natCast]
/-- a row, in a box or not -/
noncomputable def RowI (s : S) (x : D) (n : Nat) (a : Nat → Nat) : Prop := x = .lst (rwD n a) ∨ ∃ m, x = .ref m ∧ m < s.nx ∧ s.m m = some (.lst (rwD n a))
theorem RowI.at {s : S} {x : D} {n : Nat} {a : Nat → Nat} (h : RowI s x n a) {j : Nat} (hj : j ≤ n) : idxD s x (.int (j : Nat)) = some (.int (a j : Nat)) := by
  rcases h with rfl | ⟨m, rfl, h1, h2⟩
  · show atI _ _ = _
    rw [at_nat, rwD_at hj]
  · rw [i_ref m _ _ h2, at_nat, rwD_at hj]
theorem RowI.fr {s s' : S} {x : D} {n : Nat} {a : Nat → Nat} {M : List Nat} (h : RowI s x n a) (f : Fr s s' M) (hm : ∀ m, x = .ref m → m ∉ M) : RowI s' x n a := by
  rcases h with rfl | ⟨m, rfl, h1, h2⟩
  · exact .inl rfl
  · exact .inr ⟨m, rfl, Nat.lt_of_lt_of_le h1 f.1, (f.2 m h1 (hm m rfl)).trans h2⟩
theorem RowI.lt {s : S} {n m : Nat} {a : Nat → Nat} (h : RowI s (.ref m) n a) : m < s.nx := by
  rcases h with h | ⟨k, h1, h2, h3⟩
  · cases h
  · cases h1
    exact h2
theorem min_if (i j : Nat) : (if ((j : Int) < (i : Int)) then (j : Int) else (i : Int)) = ((min i j : Nat) : Int) := by
  by_cases h : (j : Int) < (i : Int)
  · rw [if_pos h]; omega
  · rw [if_neg h]; omega

theorem grown_run (k : Nat) (s : S) (x : D) (c : Nat) (o : List Nat) (a : Nat → Nat) (hx : RowI s x o.length a) (ho : o.length ≤ 100000) :
    ∃ (r' : Sl) (s' : S), (∃ q4 q5 q6, r' = [some x, some (.str [c]), some (.str o), some (.ref s.nx), q4, q5, q6]) ∧ s'.m s.nx = some (.lst (rwD o.length (grF o a c))) ∧ Fr (s.new (.lst [.int ((a 0 + 1 : Nat) : Int)])) s' [s.nx] ∧
      forI (callF Pg k) (.tp [4, 5]) l_grown_1 [some x, some (.str [c]), some (.str o), some (.ref s.nx), none, none, none] (s.new (.lst [.int ((a 0 + 1 : Nat) : Int)])) (.ens o) = some (.ok (.nx, r'), s') := by
  have hx1 : RowI (s.new (.lst [.int ((a 0 + 1 : Nat) : Int)])) x o.length a := hx.fr (Fr.rfl.new _ : Fr s _ []) (fun m _ h => by cases h)
  obtain ⟨r', s', h, ⟨q4, q5, q6, rfl⟩, hb, hf⟩ := for_ens (cf := callF Pg k) (t := 4) (u := 5) (b := l_grown_1) (xs := o) (r := [some x, some (.str [c]), some (.str o), some (.ref s.nx), none, none, none]) (s := s.new (.lst [.int ((a 0 + 1 : Nat) : Int)]))
    (fun i r' s' => (∃ q4 q5 q6, r' = [some x, some (.str [c]), some (.str o), some (.ref s.nx), q4, q5, q6]) ∧ s'.m s.nx = some (.lst (rwD i (grF o a c))) ∧ Fr (s.new (.lst [.int ((a 0 + 1 : Nat) : Int)])) s' [s.nx]) ⟨⟨_, _, _, rfl⟩, by rw [new_same]; rfl, Fr.rfl⟩ (by
    rintro i r' t y ⟨⟨q4, q5, q6, rfl⟩, hb, hf⟩ hi
    have hil : i < o.length := (List.getElem?_eq_some_iff.mp hi).1
    have hy : o.getD i 0 = y := by rw [List.getD_eq_getElem?_getD, hi]; rfl
    have hxt : RowI t x o.length a := hx1.fr hf (fun m e => by
      have : m < s.nx := by subst e; exact hx.lt
      simp; omega)
    have e1 : idxD t (.ref s.nx) (.int (i : Nat)) = some (.int (grF o a c i : Nat)) := by rw [i_ref s.nx _ _ hb, at_nat, rwD_at (Nat.le_refl _)]
    have e2 := hxt.at (j := i + 1) (by omega)
    have e3 := hxt.at (j := i) (by omega)
    have e4 : ((i : Int) + 1) = ((i + 1 : Nat) : Int) := by omega
    have e5 : grF o a c (i + 1) = gst c y (grF o a c i) (a (i + 1)) (a i) := by
      show gst c (o.getD i 0) _ _ _ = _
      rw [hy]
    rw [rwD_succ, e5]
    have hap := fun v => m_append (y := D.int v) hb (by rw [rwD_len]; unfold LIM; omega)
    have e6 : ((min (grF o a c i) (a (i + 1)) : Nat) : Int) + 1 = ((min (grF o a c i) (a (i + 1)) + 1 : Nat) : Int) := by omega
    by_cases hc : c = y
    · have e7 : (decide (([c] : List Nat) = [y])) = true := by rw [hc]; simp
      refine ⟨_, _, ?_, ⟨some (.int (i : Nat)), some (.str [y]), some (.int ((gst c y (grF o a c i) (a (i + 1)) (a i) : Nat) : Int)), rfl⟩, put_same _ _, hf.put _ (.inl (by simp))⟩
      have eg : min (min (grF o a c i) (a (i + 1)) + 1) (a i) = gst c y (grF o a c i) (a (i + 1)) (a i) := by unfold gst; rw [if_pos hc]
      simp? (config := {decide := true}) only [l_grown_1, e4, e1, e2, min_if, e6, e7, e3, eg, mt_ref hb .append (by simp), hap]
    · have e7 : (decide (([c] : List Nat) = [y])) = false := by simp [hc]
      refine ⟨_, _, ?_, ⟨some (.int (i : Nat)), some (.str [y]), some (.int ((gst c y (grF o a c i) (a (i + 1)) (a i) : Nat) : Int)), rfl⟩, put_same _ _, hf.put _ (.inl (by simp))⟩
      have eg : min (grF o a c i) (a (i + 1)) + 1 = gst c y (grF o a c i) (a (i + 1)) (a i) := by unfold gst; rw [if_neg hc]
      simp? (config := {decide := true}) only [l_grown_1, e4, e1, e2, min_if, e6, e7, eg, mt_ref hb .append (by simp), hap])
  exact ⟨_, s', ⟨_, _, _, rfl⟩, hb, hf, h⟩

/-- a line of signs -/
noncomputable def SgL (l : List Nat) : Prop := ∀ c ∈ l, Sgn c
theorem Sgn.lt {c : Nat} (hm : Sgn c) : c < 1114112 := by
  have := List.all_eq_true.mp (show [97, 98, 99, 100, 101, 102, 103, 104, 105, 106, 107, 108, 109, 110, 111, 112, 113, 114, 115, 116, 117, 118, 119, 120, 121, 122, 32].all (fun c => decide (c < 1114112)) = true by decide) c hm
  exact of_decide_eq_true this
theorem sgs_at {sg : List Nat} (hs : Sgs sg) {v : Int} (h0 : 0 ≤ v) (h1 : v < sg.length) {s : S} : ∃ c, idxD s (.str sg) (.int v) = some (.str [c]) ∧ Sgn c := by
  obtain ⟨c, hc, hm⟩ := ix_str sg v (s := s) (by have := hs.2.1; unfold LIM; omega) h0 h1
  exact ⟨c, hc, hs.2.2 _ hm⟩

theorem SgL.take {l : List Nat} (h : SgL l) (k : Nat) : SgL (l.take k) := fun c hc => h c (List.mem_of_mem_take hc)
theorem SgL.drop {l : List Nat} (h : SgL l) (k : Nat) : SgL (l.drop k) := fun c hc => h c (List.mem_of_mem_drop hc)
theorem SgL.app {l m : List Nat} (h : SgL l) (g : SgL m) : SgL (l ++ m) := fun c hc => by
  rcases List.mem_append.mp hc with x | x
  · exact h c x
  · exact g c x
theorem SgL.one {c : Nat} (h : Sgn c) : SgL [c] := fun d hd => by rw [List.mem_singleton.mp hd]; exact h
theorem two_spec (k : Nat) (s : S) (n most : Nat) (hw : Well s n) (hm : most ≤ 1000) : ∃ (one other : List Nat) (s' : S), callF Pg (k + 1 + 1 + 1) "" "_law_two" [.ref n, .int most] s = some (.ok (.tup [.str one, .str other]), s') ∧ one.length ≤ most ∧ other.length ≤ most ∧ SgL one ∧ SgL other ∧ Well s' n ∧ Keep s s' n := by
  obtain ⟨sg, s1, h1, hs, w1, k1⟩ := signs_spec k s n hw
  obtain ⟨one, s2, h2, hl, hsl, w2, k2⟩ := line_spec k s1 n sg most w1 hs hm
  obtain ⟨v3, s3, h3, h3a, h3b, w3, k3⟩ := draw_spec (k + 1) s2 n 4 w2 (by omega)
  have k13 := (k1.trans k2).trans k3
  have hz : one.length ≤ LIM := by unfold LIM; omega
  by_cases c0 : v3 = 0
  · simp? (config := {decide := true}) only [r__law_two, b__law_two, h1, h2, h3, c0, kRev_s, if_pos hz]
    exact ⟨one, one.reverse, s3, rfl, hl, by rw [List.length_reverse]; exact hl, hsl, fun c hc => hsl c (List.mem_reverse.mp hc), w3, k13⟩
  · by_cases c1 : v3 = 1
    · obtain ⟨l4, s4, h4, hl4, hsl4, w4, k4⟩ := line_spec k s3 n sg most w3 hs hm
      simp? (config := {decide := true}) only [r__law_two, b__law_two, h1, h2, h3, c1, h4]
      exact ⟨one, l4, s4, rfl, hl, hl4, hsl, hsl4, w4, k13.trans k4⟩
    · obtain ⟨v4, s4, h4, h4a, h4b, w4, k4⟩ := draw_spec (k + 1) s3 n 6 w3 (by omega)
      obtain ⟨m, rfl⟩ := Int.eq_ofNat_of_zero_le h4a
      have kr : kRng (some (.ok (.int (m : Int)), s4)) = some (.ok (.rng 0 m), s4) := by
        rw [kRng_ok (m : Int) (by omega), Int.toNat_natCast]
      have hsg : sg.length ≤ LIM := by have := hs.2.1; unfold LIM; omega
      obtain ⟨r', s5, h5, other, q6, q7, rfl, ho1, ho2, w5, k5⟩ := for_rng (cf := callF Pg (k + 1 + 1)) (t := 6) (b := l__law_two_1) (n := m) (r := [some (.ref n), some (.int most), some (.str sg), some (.str one), some (.int v3), some (.str one), none, none]) (s := s4)
        (fun i r' s' => ∃ (other : List Nat) (q6 q7 : Option D), r' = [some (.ref n), some (.int most), some (.str sg), some (.str one), some (.int v3), some (.str other), q6, q7] ∧ other.length ≤ most ∧ SgL other ∧ Well s' n ∧ Keep s4 s' n) ⟨one, _, _, rfl, hl, hsl, w4, rfl, fun _ _ => rfl⟩ (by
        rintro i r' t ⟨y, q6, q7, rfl, hy, hys, hW, hK⟩ him
        have hyz : y.length ≤ LIM := by unfold LIM; omega
        obtain ⟨va, ta, ha, haa, hab, wa, ka⟩ := draw_spec (k + 1) t n ((y.length : Int) + 1) hW (by omega)
        obtain ⟨p, rfl⟩ := Int.eq_ofNat_of_zero_le haa
        obtain ⟨vb, tb, hb, hba, hbb, wb, kb⟩ := draw_spec (k + 1) ta n 2 wa (by omega)
        have kab := (hK.trans ka).trans kb
        by_cases cb : vb = 0
        · have e : ((p : Int) + 1) = ((p + 1 : Nat) : Int) := by omega
          simp? (config := {decide := true}) only [l__law_two_1, b_lenStr hyz, ha, hb, cb, sl_str hyz, cut_to, e, cut_from, bi_str (y.take p) (y.drop (p + 1)) (by simp only [List.length_take, List.length_drop]; unfold LIM; omega)]
          exact ⟨_, _, rfl, _, _, _, rfl, by simp only [List.length_append, List.length_take, List.length_drop]; omega, (hys.take p).app (hys.drop (p + 1)), wb, kab⟩
        · by_cases cl : (y.length : Int) < (most : Int)
          · obtain ⟨vc, tc, hc, hca, hcb, wc, kc⟩ := draw_spec (k + 1) tb n (sg.length : Nat) wb (by have := hs.1; have := hs.2.1; omega)
            obtain ⟨c, hcc, hcs⟩ := sgs_at hs hca hcb (s := tc)
            simp? (config := {decide := true}) only [l__law_two_1, b_lenStr hyz, b_lenStr hsg, ha, hb, cb, cl, hc, hcc, sl_str hyz, cut_to, cut_from, bi_str (y.take p) [c] (by simp only [List.length_take, List.length_cons, List.length_nil]; unfold LIM; omega), bi_str (y.take p ++ [c]) (y.drop p) (by simp only [List.length_append, List.length_take, List.length_cons, List.length_nil, List.length_drop]; unfold LIM; omega)]
            exact ⟨_, _, rfl, _, _, _, rfl, by simp only [List.length_append, List.length_take, List.length_drop, List.length_cons, List.length_nil]; omega, ((hys.take p).app (.one hcs)).app (hys.drop p), wc, kab.trans kc⟩
          · simp? (config := {decide := true}) only [l__law_two_1, b_lenStr hyz, ha, hb, cb, cl]
            exact ⟨_, _, rfl, _, _, _, rfl, hy, hys, wb, kab⟩)
      have c23 : v3 = 2 ∨ v3 = 3 := by omega
      rcases c23 with c | c
      · simp? (config := {decide := true}) only [r__law_two, b__law_two, h1, h2, h3, c, h4, kr]
        rw [c] at h5
        simp? (config := {decide := true}) only [h5]
        exact ⟨one, other, s5, rfl, hl, ho1, hsl, ho2, w5, (k13.trans k4).trans k5⟩
      · simp? (config := {decide := true}) only [r__law_two, b__law_two, h1, h2, h3, c, h4, kr]
        rw [c] at h5
        simp? (config := {decide := true}) only [h5]
        exact ⟨other, one, s5, rfl, ho1, hl, ho2, hsl, w5, (k13.trans k4).trans k5⟩

noncomputable def Gd : Dd → Prop
  | .put p c => 0 ≤ p ∧ Sgn c
  | .cut p => 0 ≤ p
  | .non => True
noncomputable def Cn : Dd → Nat → Bool
  | .put p _, n => decide (p ≤ n)
  | .cut p, n => decide (p < n)
  | .non, _ => true
noncomputable def dn (l : List Nat) : Dd → List Nat
  | .put p c => l.take p.toNat ++ [c] ++ l.drop p.toNat
  | .cut p => l.take p.toNat ++ l.drop (p.toNat + 1)
  | .non => l
theorem is_sign_spec (k : Nat) (s : S) (c : Nat) (hc : Sgn c) : callF Pg (k + 1) "" "is_sign" [.str [c]] s = some (.ok (.bl true), s) := by
  have h : c ∈ c_SIGNS := hc
  simp? (config := {decide := true}) only [r_is_sign, b_is_sign, c_in1, h]
theorem is_place_spec (k : Nat) (s : S) (p : Int) (hp : 0 ≤ p) : callF Pg (k + 1) "" "is_place" [.int p] s = some (.ok (.bl true), s) := by
  simp? (config := {decide := true}) only [r_is_place, b_is_place, hp]
theorem pf_put : (t_PARTS.find? fun p => p.1 == [112, 117, 116]) = some ([112, 117, 116], 3) := rfl
theorem pf_cut : (t_PARTS.find? fun p => p.1 == [99, 117, 116]) = some ([99, 117, 116], 2) := rfl
theorem pf_non : (t_PARTS.find? fun p => p.1 == [110, 111, 110, 101]) = some ([110, 111, 110, 101], 1) := rfl
theorem is_deed_spec (k : Nat) (s : S) (d : Dd) (hd : Gd d) : callF Pg (k + 1 + 1) "" "is_deed" [d.d] s = some (.ok (.bl true), s) := by
  cases d with
  | put p c =>
    simp? (config := {decide := true}) only [Dd.d, r_is_deed, b_is_deed, List.length_cons, List.length_nil, pf_put, pf_cut, pf_non, is_place_spec k s p hd.1, is_sign_spec k s c hd.2]
  | cut p =>
    simp? (config := {decide := true}) only [Dd.d, r_is_deed, b_is_deed, List.length_cons, List.length_nil, pf_put, pf_cut, pf_non, is_place_spec k s p hd]
  | non =>
    simp? (config := {decide := true}) only [Dd.d, r_is_deed, b_is_deed, List.length_cons, List.length_nil, pf_put, pf_cut, pf_non]
theorem can_spec (k : Nat) (s : S) (l : List Nat) (d : Dd) (hl : l.length ≤ 1000000) (hd : Gd d) : callF Pg (k + 1 + 1 + 1) "" "can_be_done" [.str l, d.d] s = some (.ok (.bl (Cn d l.length)), s) := by
  have h := is_deed_spec k s d hd
  have hz : l.length ≤ LIM := by unfold LIM; omega
  cases d <;> simp only [Dd.d] at h <;> simp? (config := {decide := true}) only [Dd.d, r_can_be_done, b_can_be_done, h, b_lenStr hz, Cn]
theorem done_spec (k : Nat) (s : S) (l : List Nat) (d : Dd) (hl : l.length ≤ 1000000) (hd : Gd d) (hc : Cn d l.length = true) : callF Pg (k + 1 + 1 + 1 + 1) "" "done" [.str l, d.d] s = some (.ok (.str (dn l d)), s) := by
  have h := can_spec k s l d hl hd
  rw [hc] at h
  have hz : l.length ≤ LIM := by unfold LIM; omega
  cases d with
  | put p c =>
    obtain ⟨n, rfl⟩ := Int.eq_ofNat_of_zero_le hd.1
    simp only [Dd.d] at h
    simp? (config := {decide := true}) only [Dd.d, r_done, b_done, h, sl_str hz, cut_to, cut_from, bi_str (l.take n) [c] (by simp only [List.length_take, List.length_cons, List.length_nil]; unfold LIM; omega), bi_str (l.take n ++ [c]) (l.drop n) (by simp only [List.length_append, List.length_take, List.length_cons, List.length_nil, List.length_drop]; unfold LIM; omega), dn, Int.toNat_natCast]
  | cut p =>
    obtain ⟨n, rfl⟩ := Int.eq_ofNat_of_zero_le (show 0 ≤ p from hd)
    simp only [Dd.d] at h
    have e : ((n : Int) + 1) = ((n + 1 : Nat) : Int) := by omega
    simp? (config := {decide := true}) only [Dd.d, r_done, b_done, h, sl_str hz, cut_to]
    rw [e]
    simp? (config := {decide := true}) only [sl_str hz, cut_from, bi_str (l.take n) (l.drop (n + 1)) (by simp only [List.length_take, List.length_drop]; unfold LIM; omega), dn, Int.toNat_natCast]
  | non =>
    simp only [Dd.d] at h
    simp? (config := {decide := true}) only [Dd.d, r_done, b_done, h, dn]

/-- a row of deeds, each for the line behind those ahead -/
noncomputable def Rw : List Nat → List Dd → Prop
  | _, [] => True
  | l, d :: r => Gd d ∧ Cn d l.length = true ∧ Rw (dn l d) r
noncomputable def dnR : List Nat → List Dd → List Nat
  | l, [] => l
  | l, d :: r => dnR (dn l d) r
theorem dn_len (l : List Nat) (d : Dd) : (dn l d).length ≤ l.length + 1 := by
  cases d with
  | non => exact Nat.le_succ _
  | put p e =>
    simp only [dn, List.length_append, List.length_take, List.length_drop, List.length_cons, List.length_nil]
    omega
  | cut p =>
    simp only [dn, List.length_append, List.length_take, List.length_drop]
    omega
theorem dnR_len : ∀ (r : List Dd) (l : List Nat), (dnR l r).length ≤ l.length + r.length
  | [], l => Nat.le_refl _
  | d :: r, l => by
    have h1 := dnR_len r (dn l d)
    have h2 := dn_len l d
    simp only [dnR, List.length_cons]
    omega

theorem SgL.dn {l : List Nat} {d : Dd} (h : SgL l) (g : Gd d) : SgL (dn l d) := by
  intro c hc
  cases d with
  | non => exact h c hc
  | put p e =>
    simp only [Lw.dn, List.mem_append, List.mem_singleton] at hc
    rcases hc with (hc | rfl) | hc
    · exact h c (List.mem_of_mem_take hc)
    · exact g.2
    · exact h c (List.mem_of_mem_drop hc)
  | cut p =>
    simp only [Lw.dn, List.mem_append] at hc
    rcases hc with hc | hc
    · exact h c (List.mem_of_mem_take hc)
    · exact h c (List.mem_of_mem_drop hc)
theorem SgL.dnR : ∀ {r : List Dd} {l : List Nat}, SgL l → Rw l r → SgL (dnR l r)
  | [], _, h, _ => h
  | d :: r, l, h, hr => by
    have e := SgL.dnR (r := r) (l := Lw.dn l d) (h.dn hr.1) hr.2.2
    exact e
/-- deeds of small places -/
noncomputable def Bd : Dd → Prop
  | .put p c => p.natAbs ≤ 1000000 ∧ c < 1114112
  | .cut p => p.natAbs ≤ 1000000
  | .non => True
theorem shp_dds : ∀ (r : List Dd), (∀ d ∈ r, Bd d) → shpL 59 (r.map Dd.d) = true
  | [], _ => by simp [shpL]
  | d :: r, h => by
    have h0 := h d List.mem_cons_self
    have h2 : shp 59 d.d = true := by
      cases d with
      | put p c => simp [Dd.d, shp, shpL, h0.2]
      | cut p => simp [Dd.d, shp, shpL]
      | non => simp [Dd.d, shp, shpL]
    rw [List.map_cons]
    simp only [shpL, Bool.and_eq_true]
    exact ⟨h2, shp_dds r (fun x hx => h x (List.mem_cons_of_mem _ hx))⟩
theorem Rw.bd : ∀ {r : List Dd} {l : List Nat}, Rw l r → l.length + r.length ≤ 1000000 → ∀ d ∈ r, Bd d
  | [], _, _, _, d, hd => by cases hd
  | x :: r, l, h, hl, d, hd => by
    have h1 := dn_len l x
    simp only [List.length_cons] at hl
    rcases List.mem_cons.mp hd with rfl | hd
    · cases d with
      | put p c =>
        have g1 : p ≤ l.length := of_decide_eq_true h.2.1
        have g2 : 0 ≤ p := h.1.1
        exact ⟨by omega, h.1.2.lt⟩
      | cut p =>
        have g1 : p < l.length := of_decide_eq_true h.2.1
        have g2 : 0 ≤ p := h.1
        show p.natAbs ≤ 1000000
        omega
      | non => trivial
    · exact Rw.bd h.2.2 (by omega) d hd

theorem at_last {α : Type} (xs : List α) (y : α) : atI (xs ++ [y]) (-1) = some y := by
  unfold atI ixN
  rw [if_neg (by omega), if_pos (by rw [List.length_append]; simp only [List.length_cons, List.length_nil]; omega)]
  have : (-1 + ((xs ++ [y]).length : Int)).toNat = xs.length := by
    rw [List.length_append]
    simp only [List.length_cons, List.length_nil]
    omega
  rw [this]
  simp
theorem grown_spec (k : Nat) (s : S) (x : D) (c : Nat) (o : List Nat) (a : Nat → Nat) (hx : RowI s x o.length a) (ho : o.length ≤ 100000) :
    ∃ s', callF Pg (k + 1) "" "grown" [x, .str [c], .str o] s = some (.ok (.lst (rwD o.length (grF o a c))), s') ∧ Old s s' := by
  obtain ⟨r', s', ⟨q4, q5, q6, rfl⟩, hb, hf, h⟩ := grown_run k s x c o a hx ho
  have e0' : idxD s x (.int 0) = some (.int (a 0 : Nat)) := hx.at (j := 0) (by omega)
  have e1 : ((a 0 : Nat) : Int) + 1 = ((a 0 + 1 : Nat) : Int) := by omega
  have hfz : frzD s' (.ref s.nx) = some (.ok (.lst (rwD o.length (grF o a c))), s'.kill s.nx) := by simp only [frzD, hb]
  have o1 : Old s s' := ⟨Nat.le_trans (Nat.le_succ _) hf.1, fun j hj => by rw [hf.2 j (Nat.lt_succ_of_lt hj) (by simp; omega), new_ne _ _ (by omega)]⟩
  refine ⟨s'.kill s.nx, ?_, o1.kill (Nat.le_refl _)⟩
  simp? only [r_grown, b_grown, e0', e1, kEns_ok, h, hfz]
/-- the rows of a paper -/
noncomputable def papL (o one : List Nat) (i : Nat) : List D := (List.range (i + 1)).map fun j => D.lst (rwD o.length (lastR o (one.take j)))
theorem papL_succ (o one : List Nat) (i : Nat) : papL o one (i + 1) = papL o one i ++ [.lst (rwD o.length (lastR o (one.take (i + 1))))] := by
  rw [papL, List.range_succ, List.map_append]
  rfl
theorem papL_snoc (o one : List Nat) (i : Nat) : ∃ xs, papL o one i = xs ++ [.lst (rwD o.length (lastR o (one.take i)))] := by
  refine ⟨(List.range i).map fun j => D.lst (rwD o.length (lastR o (one.take j))), ?_⟩
  rw [papL, List.range_succ, List.map_append]
  rfl
theorem papL_len (o one : List Nat) (i : Nat) : (papL o one i).length = i + 1 := by rw [papL, List.length_map, List.length_range]
theorem paper_spec (k : Nat) (s : S) (one o : List Nat) (h1 : one.length ≤ 10000) (ho : o.length ≤ 10000) : ∃ s', callF Pg (k + 1 + 1) "" "paper_of" [.str one, .str o] s = some (.ok (.lst (papL o one one.length)), s') ∧ Old s s' := by
  have hz : o.length ≤ LIM := by unfold LIM; omega
  have e1 : ((o.length : Int) + 1) = ((o.length + 1 : Nat) : Int) := by omega
  have lr := lr_f (s := s) ((o.length + 1 : Nat) : Int) (by omega)
  rw [rwD_id] at lr
  obtain ⟨s1, hs1⟩ : ∃ t, t = s.new (.lst [.lst (rwD o.length (fun j => j))]) := ⟨_, rfl⟩
  obtain ⟨r', s', h, ⟨q, rfl⟩, hb, hO⟩ := for_inv (cf := callF Pg (k + 1)) (tg := .nm 3) (b := l_paper_of_1) (iv := .seq (.str one)) (r := [some (.str one), some (.str o), some (.ref s.nx), none]) (s := s1) one.length
    (fun i r' s' => (∃ q, r' = [some (.str one), some (.str o), some (.ref s.nx), q]) ∧ s'.m s.nx = some (.lst (papL o one i)) ∧ Fr s1 s' [s.nx]) ⟨⟨_, rfl⟩, by rw [hs1, new_same]; rfl, Fr.rfl⟩ (fun _ _ _ _ _ => rfl) (by
    rintro i r' t ⟨⟨q, rfl⟩, hb, hf⟩ hi
    have hg : ivGet t i (.seq (.str one)) = some (.str [one[i]]) := by
      show (one[i]?).map _ = _
      rw [List.getElem?_eq_getElem hi]
      rfl
    have hlast : idxD t (.ref s.nx) (.int (-1)) = some (.lst (rwD o.length (lastR o (one.take i)))) := by
      obtain ⟨xs, e⟩ := papL_snoc o one i
      rw [i_ref _ _ _ hb, e]
      exact at_last _ _
    obtain ⟨t', g1, g2⟩ := grown_spec k t (.lst (rwD o.length (lastR o (one.take i)))) one[i] o (lastR o (one.take i)) (.inl rfl) (by omega)
    have hlt : s.nx < t.nx := by have := hf.1; rw [hs1] at this; exact this
    have hb' : t'.m s.nx = some (.lst (papL o one i)) := (g2.2 _ hlt).trans hb
    have hap := m_append (y := .lst (rwD o.length (grF o (lastR o (one.take i)) one[i]))) hb' (by rw [papL_len]; unfold LIM; omega)
    have ht : one.take (i + 1) = one.take i ++ [one[i]] := by rw [List.take_append_getElem]
    refine ⟨_, _, [some (.str one), some (.str o), some (.ref s.nx), some (.str [one[i]])], t'.put s.nx (.lst (papL o one i ++ [.lst (rwD o.length (grF o (lastR o (one.take i)) one[i]))])), .nx, hg, rfl, ?_, .inl rfl, ⟨_, rfl⟩, ?_, ?_⟩
    · simp? only [l_paper_of_1, mt_ref hb .append (by simp), hlast, g1, hap]
    · rw [put_same, papL_succ, ht, lastR_snoc]
    · exact (hf.trans (Fr.old g2 [s.nx])).put _ (.inl (by simp)))
  have hfz : frzD s' (.ref s.nx) = some (.ok (.lst (papL o one one.length)), s'.kill s.nx) := by simp only [frzD, hb]
  have o1 : Old s s' := ⟨Nat.le_trans (by rw [hs1]; exact Nat.le_succ _) hO.1, fun j hj => by rw [hO.2 j (by rw [hs1]; exact Nat.lt_succ_of_lt hj) (by simp; omega), hs1, new_ne _ _ (by omega)]⟩
  refine ⟨s'.kill s.nx, ?_, o1.kill (Nat.le_refl _)⟩
  simp? only [r_paper_of, b_paper_of, b_lenStr hz, e1, lr]
  rw [← hs1]
  simp? only [h, hfz]
theorem far_spec (k : Nat) (s : S) (one o : List Nat) (h1 : one.length ≤ 10000) (ho : o.length ≤ 10000) : ∃ s', callF Pg (k + 1 + 1 + 1) "" "how_far" [.str one, .str o] s = some (.ok (.int (hf one o : Nat)), s') ∧ Old s s' := by
  obtain ⟨s', h, hO⟩ := paper_spec k s one o h1 ho
  have e1 : atI (papL o one one.length) (-1) = some (.lst (rwD o.length (lastR o one))) := by
    obtain ⟨xs, e⟩ := papL_snoc o one one.length
    rw [e, List.take_length]
    exact at_last _ _
  have e2 : atI (rwD o.length (lastR o one)) (-1) = some (.int (hf one o : Nat)) := by
    rw [rwD, List.range_succ, List.map_append]
    exact at_last _ _
  refine ⟨s', ?_, hO⟩
  simp? only [r_how_far, b_how_far, h, e1, e2]

/-- the deeds that may bring a line nearer, in order -/
noncomputable def cutsL (l : List Nat) : List Dd := (List.range l.length).map fun p => Dd.cut (p : Nat)
noncomputable def putsL (o : List Nat) (p : Nat) : List Dd := (sortU o).map fun c => Dd.put (p : Nat) c
noncomputable def dls (l o : List Nat) : List Dd := cutsL l ++ ((List.range (l.length + 1)).map (putsL o)).flatten
theorem sortU_sub {o : List Nat} {c : Nat} (h : c ∈ sortU o) : c ∈ o := by
  induction o with
  | nil => cases h
  | cons d o ih =>
    have key : ∀ (l : List Nat), c ∈ insU d l → c = d ∨ c ∈ l := by
      intro l
      induction l with
      | nil => intro h; exact .inl (List.mem_singleton.mp h)
      | cons e r ihr =>
        intro h
        unfold insU at h
        split at h
        · rcases List.mem_cons.mp h with z | z
          · exact .inl z
          · exact .inr z
        · split at h
          · exact .inr h
          · rcases List.mem_cons.mp h with z | z
            · exact .inr (by rw [z]; exact List.mem_cons_self)
            · rcases ihr z with w | w
              · exact .inl w
              · exact .inr (List.mem_cons_of_mem _ w)
    rcases key _ h with z | z
    · rw [z]; exact List.mem_cons_self
    · exact List.mem_cons_of_mem _ (ih z)
theorem insU_le (d : Nat) : ∀ l : List Nat, (insU d l).length ≤ l.length + 1
  | [] => Nat.le_refl _
  | e :: r => by
    have := insU_le d r
    unfold insU
    split
    · simp
    · split
      · simp
      · simp only [List.length_cons]; omega
theorem sortU_le : ∀ o : List Nat, (sortU o).length ≤ o.length
  | [] => Nat.le_refl _
  | c :: o => by
    have h1 := sortU_le o
    have h2 := insU_le c (sortU o)
    show (insU c (sortU o)).length ≤ _
    rw [List.length_cons]
    omega
theorem dls_mem {l o : List Nat} {d : Dd} (h : d ∈ dls l o) : (∃ p : Nat, d = .cut p ∧ p < l.length) ∨ ∃ (p : Nat) (c : Nat), d = .put p c ∧ p ≤ l.length ∧ c ∈ o := by
  rw [dls, List.mem_append] at h
  rcases h with h | h
  · rw [cutsL, List.mem_map] at h
    obtain ⟨p, hp, rfl⟩ := h
    exact .inl ⟨p, rfl, List.mem_range.mp hp⟩
  · rw [List.mem_flatten] at h
    obtain ⟨x, hx, hd⟩ := h
    rw [List.mem_map] at hx
    obtain ⟨p, hp, rfl⟩ := hx
    rw [putsL, List.mem_map] at hd
    obtain ⟨c, hc, rfl⟩ := hd
    rw [List.mem_range] at hp
    exact .inr ⟨p, c, rfl, by omega, sortU_sub hc⟩
theorem puts_len (o : List Nat) : ∀ n, ((List.range n).map (putsL o)).flatten.length ≤ n * o.length
  | 0 => by simp
  | n + 1 => by
    rw [List.range_succ, List.map_append, List.flatten_append, List.length_append]
    have h1 := puts_len o n
    have h2 := sortU_le o
    simp only [List.map_cons, List.map_nil, List.flatten_cons, List.flatten_nil, List.append_nil, putsL, List.length_map]
    rw [Nat.succ_mul]
    omega
theorem dls_ok {l o : List Nat} (ho : SgL o) {d : Dd} (h : d ∈ dls l o) : Gd d ∧ Cn d l.length = true := by
  rcases dls_mem h with ⟨p, rfl, hp⟩ | ⟨p, c, rfl, hp, hc⟩
  · exact ⟨by show (0 : Int) ≤ (p : Int); omega, decide_eq_true (by omega)⟩
  · exact ⟨⟨by omega, ho c hc⟩, decide_eq_true (by omega)⟩
theorem dls_ne {l o : List Nat} (h : l ≠ [] ∨ o ≠ []) : dls l o ≠ [] := by
  intro e
  rw [dls, List.append_eq_nil_iff] at e
  rcases h with h | h
  · have := e.1
    rw [cutsL, List.map_eq_nil_iff, List.range_eq_nil] at this
    exact h (List.length_eq_zero_iff.mp this)
  · have e2 := e.2
    obtain ⟨c, o', rfl⟩ : ∃ c o', o = c :: o' := by
      cases o with
      | nil => exact absurd rfl h
      | cons c o' => exact ⟨c, o', rfl⟩
    have hne : sortU (c :: o') ≠ [] := by
      show insU c (sortU o') ≠ []
      cases sortU o' with
      | nil => simp [insU]
      | cons d r =>
        unfold insU
        split
        · simp
        · split <;> simp
    rw [List.range_succ, List.map_append, List.flatten_append, List.append_eq_nil_iff] at e2
    have := e2.2
    simp only [List.map_cons, List.map_nil, List.flatten_cons, List.flatten_nil, List.append_nil, putsL, List.map_eq_nil_iff] at this
    exact hne this
theorem deeds_spec (k : Nat) (s : S) (l o : List Nat) (hl : l.length ≤ 1000) (ho : o.length < 64) : callF Pg (k + 1) "" "deeds_of" [.str l, .str o] s = some (.ok (.lst ((dls l o).map Dd.d)), s) := by
  have hz : l.length ≤ LIM := by unfold LIM; omega
  have kr1 : kRng (some (.ok (.int (l.length : Int)), s)) = some (.ok (.rng 0 l.length), s) := by
    rw [kRng_ok _ (by omega), Int.toNat_natCast]
  have e1 : ((l.length : Int) + 1) = ((l.length + 1 : Nat) : Int) := by omega
  have kr2 : kRng (some (.ok (.int ((l.length + 1 : Nat) : Int)), s)) = some (.ok (.rng 0 (l.length + 1)), s) := by
    rw [kRng_ok _ (by omega), Int.toNat_natCast]
  have f1 : lcI (callF Pg k) false x_deeds_of_1 (.nm 3) .no [some (.str l), some (.str o), none, none, none] s (.rng 0 l.length) = some (.ok (.lst ((cutsL l).map Dd.d)), s) := by
    rw [lc_sel (List.range l.length) (fun _ _ => true) (fun _ (p : Nat) => (Dd.cut (p : Nat)).d) (by rw [List.length_range]; exact hz) (by rw [List.length_range]; rfl) (by
      intro i c hi
      have hi' : i < (List.range l.length).length := (List.getElem?_eq_some_iff.mp hi).1
      have hc : c = i := by
        rw [List.getElem?_eq_getElem hi', List.getElem_range] at hi
        exact (Option.some.inj hi).symm
      subst hc
      refine ⟨.int (c : Nat), _, ?_, rfl, t_no, fun _ => ?_⟩
      · show some (D.int (0 + (c : Int))) = _
        rw [Int.zero_add]
      · simp? only [x_deeds_of_1, Dd.d]), sel_all, cutsL, List.map_map]
    rfl
  obtain ⟨r', s', h, ⟨q3, q4, rfl⟩, rfl⟩ := for_rng (cf := callF Pg k) (t := 3) (b := l_deeds_of_1) (n := l.length + 1) (r := [some (.str l), some (.str o), some (.lst ((cutsL l).map Dd.d)), none, none]) (s := s)
    (fun i r' s' => (∃ q3 q4, r' = [some (.str l), some (.str o), some (.lst ((cutsL l ++ ((List.range i).map (putsL o)).flatten).map Dd.d)), q3, q4]) ∧ s' = s) ⟨⟨none, none, by simp⟩, rfl⟩ (by
    rintro i r' t ⟨⟨q3, q4, rfl⟩, rfl⟩ hi
    have f2 : ∀ (x : Option D), lcI (callF Pg k) false x_deeds_of_2 (.nm 4) .no [some (.str l), some (.str o), some (.lst ((cutsL l ++ ((List.range i).map (putsL o)).flatten).map Dd.d)), some (.int (i : Nat)), x] t (.seq (.lst ((sortU o).map fun c => D.str [c]))) = some (.ok (.lst ((putsL o i).map Dd.d)), t) := by
      intro x
      have := sortU_le o
      rw [lc_sel (sortU o) (fun _ _ => true) (fun _ (c : Nat) => (Dd.put (i : Nat) c).d) (by unfold LIM; omega) (by rw [seq_len', List.length_map]) (by
        intro j c hj
        refine ⟨.str [c], _, ?_, rfl, t_no, fun _ => ?_⟩
        · rw [seq_get', List.getElem?_map, hj]
          rfl
        · simp? only [x_deeds_of_2, Dd.d]), sel_all, putsL, List.map_map]
      rfl
    have hb := puts_len o i
    have hc : (cutsL l).length = l.length := by rw [cutsL, List.length_map, List.length_range]
    have hp : (putsL o i).length ≤ 64 := by rw [putsL, List.length_map]; have := sortU_le o; omega
    have hm : i * o.length ≤ 1001 * 64 := Nat.mul_le_mul (by omega) (by omega)
    refine ⟨_, _, ?_, ⟨some (.int (i : Nat)), q4, rfl⟩, rfl⟩
    have e9 : ((List.range (i + 1)).map (putsL o)).flatten = ((List.range i).map (putsL o)).flatten ++ putsL o i := by
      rw [List.range_succ, List.map_append, List.flatten_append]
      simp
    simp? only [l_deeds_of_1, kSset_f o ho, f2]
    rw [kCat2_f _ _ (by rw [List.length_map, List.length_map, List.length_append, hc]; unfold LIM; omega), ← List.map_append, e9]
    simp? only [List.append_assoc])
  simp? only [r_deeds_of, b_deeds_of, b_lenStr hz, kr1, f1, e1, kr2, h, dls]

/-- the first that is so, else the last -/
noncomputable def pickA {α : Type} (p : α → Bool) : List α → Option α
  | [] => none
  | [a] => some a
  | a :: b :: r => if p a then some a else pickA p (b :: r)
theorem pickA_mem {α : Type} {p : α → Bool} : ∀ {xs : List α} {a : α}, pickA p xs = some a → a ∈ xs
  | [b], a, h => by
    cases h
    exact List.mem_cons_self
  | b :: c :: r, a, h => by
    unfold pickA at h
    split at h
    · cases h
      exact List.mem_cons_self
    · exact List.mem_cons_of_mem _ (pickA_mem h)
theorem pickA_some {α : Type} {p : α → Bool} : ∀ {xs : List α}, xs ≠ [] → ∃ a, pickA p xs = some a
  | [], h => absurd rfl h
  | [b], _ => ⟨b, rfl⟩
  | b :: c :: r, _ => by
    unfold pickA
    split
    · exact ⟨b, rfl⟩
    · exact pickA_some (by simp)
theorem forN_pick {α : Type} {cf : CF} {tg : Tg} {b : Cs} {xs : List α} {s : S} (el : α → D) (up : α → Sl) (p : α → Bool)
    (h2 : ∀ u a b, tgSet u tg (el b) (up a) = some (up b))
    (hb : ∀ a ∈ xs, ∀ u, Old s u → ∃ u', exs cf b (up a) u = some (.ok (if p a then .bk else .nx, up a), u') ∧ Old u u') :
    ∀ (ys : List α) (i m : Nat) (r1 : Sl) (u : S), (∀ u a, a ∈ xs → tgSet u tg (el a) r1 = some (up a)) → xs.drop i = ys → ys ≠ [] → xs.length + 1 ≤ m + i → Old s u →
      ∃ a u', pickA p ys = some a ∧ forN tg (.seq (.lst (xs.map el))) (exs cf b) m i r1 u = some (.ok (.nx, up a), u') ∧ Old s u'
  | [], i, m, r1, u, _, _, h, _, _ => absurd rfl h
  | y :: ys, i, m, r1, u, h1, hd, _, hm, ho => by
    have hi : i < xs.length := by
      have := congrArg List.length hd
      rw [List.length_drop, List.length_cons] at this
      omega
    have hy : xs[i]? = some y := by
      have := List.getElem?_drop (xs := xs) (i := i) (j := 0)
      rw [hd] at this
      simpa using this.symm
    have hyx : y ∈ xs := List.mem_of_getElem? hy
    obtain ⟨m', rfl⟩ : ∃ m', m = m' + 1 := ⟨m - 1, by omega⟩
    have hl : ivLen u (.seq (.lst (xs.map el))) = some xs.length := by rw [seq_len', List.length_map]
    have hg : ivGet u i (.seq (.lst (xs.map el))) = some (el y) := by
      rw [seq_get', List.getElem?_map, hy]
      rfl
    obtain ⟨u', e1, o1⟩ := hb y hyx u ho
    by_cases hp : p y = true
    · refine ⟨y, u', ?_, ?_, ho.trans o1⟩
      · cases ys with
        | nil => rfl
        | cons z r => unfold pickA; rw [if_pos hp]
      · rw [forN, hl]
        dsimp only
        rw [if_pos hi, hg]
        dsimp only
        rw [h1 u y hyx]
        dsimp only
        rw [e1, if_pos hp, bnd_ok]
    · rw [if_neg hp] at e1
      have hd' : xs.drop (i + 1) = ys := by
        have : xs.drop (i + 1) = (xs.drop i).drop 1 := by rw [List.drop_drop]
        rw [this, hd]
        rfl
      cases ys with
      | nil =>
        have hlen : xs.length = i + 1 := by
          have := congrArg List.length hd
          rw [List.length_drop] at this
          simp only [List.length_cons, List.length_nil] at this
          omega
        obtain ⟨m'', rfl⟩ : ∃ m'', m' = m'' + 1 := ⟨m' - 1, by omega⟩
        refine ⟨y, u', rfl, ?_, ho.trans o1⟩
        rw [forN, hl]
        dsimp only
        rw [if_pos hi, hg]
        dsimp only
        rw [h1 u y hyx]
        dsimp only
        rw [e1, bnd_ok]
        dsimp only
        have hl2 : ivLen u' (.seq (.lst (xs.map el))) = some xs.length := by rw [seq_len', List.length_map]
        rw [forN, hl2]
        dsimp only
        rw [if_neg (by omega)]
      | cons z r =>
        obtain ⟨a, u2, e2, e3, o3⟩ := forN_pick el up p h2 hb (z :: r) (i + 1) m' (up y) u' (fun v a _ => h2 v y a) hd' (by simp) (by omega) (ho.trans o1)
        refine ⟨a, u2, ?_, ?_, o3⟩
        · unfold pickA
          rw [if_neg hp]
          exact e2
        · rw [forN, hl]
          dsimp only
          rw [if_pos hi, hg]
          dsimp only
          rw [h1 u y hyx]
          dsimp only
          rw [e1, bnd_ok]
          exact e3
theorem for_pick {α : Type} {cf : CF} {tg : Tg} {b : Cs} {xs : List α} {r : Sl} {s : S} (el : α → D) (up : α → Sl) (p : α → Bool) (hne : xs ≠ []) (h1 : ∀ u a, a ∈ xs → tgSet u tg (el a) r = some (up a))
    (h2 : ∀ u a b, tgSet u tg (el b) (up a) = some (up b))
    (hb : ∀ a ∈ xs, ∀ u, Old s u → ∃ u', exs cf b (up a) u = some (.ok (if p a then .bk else .nx, up a), u') ∧ Old u u') :
    ∃ a s', pickA p xs = some a ∧ forI cf tg b r s (.seq (.lst (xs.map el))) = some (.ok (.nx, up a), s') ∧ Old s s' := by
  obtain ⟨a, s', e1, e2, e3⟩ := forN_pick (cf := cf) (tg := tg) (b := b) (xs := xs) (s := s) el up p h2 hb xs 0 (xs.length + 1) r s h1 rfl hne (by omega) Old.rfl
  refine ⟨a, s', e1, ?_, e3⟩
  unfold forI
  rw [seq_len', List.length_map]
  exact e2
/-- the row deed by deed -/
noncomputable def pk (o l : List Nat) (n : Nat) : Dd := (pickA (fun d => decide (hf (dn l d) o = n)) (dls l o)).getD .non
noncomputable def fw (o : List Nat) : Nat → List Nat → List Dd
  | 0, _ => []
  | n + 1, l => pk o l n :: fw o n (dn l (pk o l n))
theorem hf_dn {l o : List Nat} {d : Dd} (h : d ∈ dls l o) : hf l o ≤ hf (dn l d) o + 1 ∧ hf (dn l d) o ≤ hf l o + 1 := by
  rcases dls_mem h with ⟨p, rfl, hp⟩ | ⟨p, c, rfl, hp, hc⟩
  · have e : l = l.take p ++ l[p] :: l.drop (p + 1) := by rw [← List.drop_eq_getElem_cons hp, List.take_append_drop]
    have := hf_put o (l.take p) (l.drop (p + 1)) l[p]
    rw [← e] at this
    simp only [dn, Int.toNat_natCast]
    exact ⟨this.2, this.1⟩
  · have := hf_put o (l.take p) (l.drop p) c
    rw [List.take_append_drop] at this
    simp only [dn, Int.toNat_natCast, List.append_assoc, List.singleton_append]
    exact this
theorem hf_nil (o : List Nat) : hf [] o = o.length := rfl
theorem pk_mem {o l : List Nat} {n : Nat} (h : l ≠ [] ∨ o ≠ []) : pk o l n ∈ dls l o := by
  obtain ⟨a, ha⟩ := pickA_some (p := fun d => decide (hf (dn l d) o = n)) (dls_ne h)
  unfold pk
  rw [ha]
  exact pickA_mem ha
theorem far_ne {l o : List Nat} (h : 0 < hf l o) : l ≠ [] ∨ o ≠ [] := by
  by_cases hl : l = []
  · right
    intro ho
    rw [hl, ho] at h
    exact absurd h (by decide)
  · exact .inl hl
theorem dn_le (l : List Nat) (d : Dd) : (dn l d).length ≤ l.length + 1 := by
  cases d with
  | non => exact Nat.le_succ _
  | put p e =>
    simp only [dn, List.length_append, List.length_take, List.length_drop, List.length_cons, List.length_nil]
    omega
  | cut p =>
    simp only [dn, List.length_append, List.length_take, List.length_drop]
    omega
theorem fw_len (o : List Nat) : ∀ (n : Nat) (l : List Nat), (fw o n l).length = n
  | 0, _ => rfl
  | n + 1, l => by rw [fw, List.length_cons, fw_len o n]
/-- the program's row: a loop of so many turns -/
theorem few_run (k : Nat) (s : S) (one o : List Nat) (b : Nat) (h1 : one.length ≤ 400) (ho : o.length < 64) (hs : SgL one) (hso : SgL o) (hb : s.m b = some (.lst [])) (hbl : b < s.nx) (q4 : Option D) :
    ∃ r' s', whlN (ev (callF Pg (k + 1 + 1 + 1 + 1)) (.cmp .gt (.var 3) (.int 0))) (exs (callF Pg (k + 1 + 1 + 1 + 1)) l_fewest_deeds_1) WF [some (.str one), some (.str o), some (.ref b), some (.int (hf one o : Nat)), q4] s = some (.ok (.nx, r'), s') ∧
      (∃ l q4, r' = [some (.str l), some (.str o), some (.ref b), some (.int 0), q4]) ∧ s'.m b = some (.lst ((fw o (hf one o) one).map Dd.d)) ∧ Fr s s' [b] := by
  have hle := hf_le one o
  obtain ⟨r', s', h, l, acc, q4, rfl, hb', hacc, -, -, -, -, hf'⟩ := whl_by (cf := callF Pg (k + 1 + 1 + 1 + 1)) (c := .cmp .gt (.var 3) (.int 0)) (b := l_fewest_deeds_1)
    (fun n r u => ∃ (l : List Nat) (acc : List Dd) (q4 : Option D), r = [some (.str l), some (.str o), some (.ref b), some (.int (n : Nat)), q4] ∧ u.m b = some (.lst (acc.map Dd.d)) ∧ acc ++ fw o n l = fw o (hf one o) one ∧ n ≤ hf l o ∧ SgL l ∧ l.length + n ≤ one.length + hf one o ∧ acc.length + n = hf one o ∧ Fr s u [b])
    (by
      rintro r u ⟨l, acc, q4, rfl, -⟩
      simp? (config := {decide := true}) only [])
    (by
      rintro n r u ⟨l, acc, q4, rfl, hu, hacc, hn, hsl, hll, hal, hfr⟩
      have c0 : ((0 : Int) < ((n + 1 : Nat) : Int)) = True := eq_true (by omega)
      refine ⟨by simp? (config := {decide := true}) only [c0], ?_⟩
      have hne := far_ne (l := l) (o := o) (by omega)
      obtain ⟨d, u1, e1, e2, o2⟩ := for_pick (cf := callF Pg (k + 1 + 1 + 1 + 1)) (tg := .nm 4) (b := l_fewest_deeds_2) (xs := dls l o) (r := [some (.str l), some (.str o), some (.ref b), some (.int ((n + 1 : Nat) : Int)), q4]) (s := u) Dd.d
        (fun d => [some (.str l), some (.str o), some (.ref b), some (.int ((n + 1 : Nat) : Int)), some d.d]) (fun d => decide (hf (dn l d) o = n)) (dls_ne hne) (fun _ _ _ => rfl) (fun _ _ _ => rfl) (by
        intro d hd v ov
        obtain ⟨gd, gc⟩ := dls_ok hso hd
        have h3 := done_spec k v l d (by omega) gd gc
        obtain ⟨v2, h4, o4⟩ := far_spec (k + 1) v (dn l d) o (by have := dn_le l d; omega) (by omega)
        have hlip := (hf_dn hd).1
        have hc : (((hf (dn l d) o : Nat) : Int) < ((n + 1 : Nat) : Int)) = (hf (dn l d) o = n) := by
          apply propext
          constructor
          · intro z; omega
          · intro z; omega
        refine ⟨v2, ?_, o4⟩
        by_cases c : hf (dn l d) o = n
        · have t1 : (((hf (dn l d) o : Nat) : Int) < ((n + 1 : Nat) : Int)) = True := eq_true (by omega)
          rw [if_pos (decide_eq_true c)]
          simp? (config := {decide := true}) only [l_fewest_deeds_2, h3, h4, t1]
        · simp? (config := {decide := true}) only [l_fewest_deeds_2, h3, h4, hc, c])
      have hd : d = pk o l n := by unfold pk; rw [e1]; rfl
      have hdm := pickA_mem e1
      obtain ⟨gd, gc⟩ := dls_ok hso hdm
      have hub : u1.m b = some (.lst (acc.map Dd.d)) := (o2.2 b (by have := hfr.1; omega)).trans hu
      have hap := m_append (y := d.d) hub (by rw [List.length_map]; unfold LIM; omega)
      have h5 := done_spec k (u1.put b (.lst (acc.map Dd.d ++ [d.d]))) l d (by omega) gd gc
      have h6 := deeds_spec (k + 1 + 1 + 1) u l o (by omega) ho
      have e3 : ((n + 1 : Nat) : Int) - 1 = (n : Int) := by omega
      refine ⟨[some (.str (dn l d)), some (.str o), some (.ref b), some (.int (n : Nat)), some d.d], u1.put b (.lst (acc.map Dd.d ++ [d.d])), ?_, dn l d, acc ++ [d], some d.d, rfl, ?_, ?_, ?_, hsl.dn gd, ?_, ?_, ?_⟩
      · simp? (config := {decide := true}) only [l_fewest_deeds_1, h6, e2, mt_ref hub .append (by simp), hap, h5, e3]
      · rw [put_same, List.map_append]
        rfl
      · rw [List.append_assoc]
        rw [fw, ← hd] at hacc
        exact hacc
      · have := (hf_dn hdm).1
        omega
      · have := dn_le l d
        omega
      · rw [List.length_append]
        simp only [List.length_cons, List.length_nil]
        omega
      · exact (hfr.trans (Fr.old o2 [b])).put _ (.inl (by simp))) (hf one o) WF [some (.str one), some (.str o), some (.ref b), some (.int (hf one o : Nat)), q4] s ⟨one, [], q4, rfl, hb, rfl, Nat.le_refl _, hs, Nat.le_refl _, by simp, Fr.rfl⟩ (by unfold WF; omega)
  refine ⟨_, s', h, ⟨l, q4, rfl⟩, ?_, hf'⟩
  rw [fw, List.append_nil] at hacc
  rw [hb', hacc]

noncomputable def isDo : Dd → Bool
  | .non => false
  | _ => true

/-! how far: the recursion from behind -/
theorem grF_take (o : List Nat) (m : Nat) {a b : Nat → Nat} (c : Nat) : ∀ j, j ≤ m → (∀ i, i ≤ j → a i = b i) → grF o a c j = grF (o.take m) b c j
  | 0, _, h => by show a 0 + 1 = b 0 + 1; rw [h 0 (Nat.le_refl _)]
  | j + 1, hj, h => by
    have ih := grF_take o m c (a := a) (b := b) j (by omega) fun i hi => h i (by omega)
    show gst c (o.getD j 0) (grF o a c j) (a (j + 1)) (a j) = gst c ((o.take m).getD j 0) (grF (o.take m) b c j) (b (j + 1)) (b j)
    rw [ih, h j (by omega), h (j + 1) (Nat.le_refl _)]
    have e : (o.take m).getD j 0 = o.getD j 0 := by
      rw [List.getD_eq_getElem?_getD, List.getD_eq_getElem?_getD, List.getElem?_take, if_pos (by omega)]
    rw [e]
theorem fold_take (o : List Nat) (m : Nat) : ∀ (q : List Nat) {a b : Nat → Nat}, (∀ i, i ≤ m → a i = b i) → ∀ i, i ≤ m → q.foldl (grF o) a i = q.foldl (grF (o.take m)) b i
  | [], _, _, h, i, hi => h i hi
  | c :: q, a, b, h, i, hi => fold_take o m q (fun j hj => grF_take o m c j hj fun k hk => h k (by omega)) i hi
theorem lastR_hf (o one : List Nat) (j : Nat) (hj : j ≤ o.length) : lastR o one j = hf one (o.take j) := by
  unfold hf lastR
  rw [List.length_take, Nat.min_eq_left hj]
  exact fold_take o j one (fun _ _ => rfl) j (Nat.le_refl _)
theorem hf_o0 (l : List Nat) : hf l [] = l.length := by
  unfold hf
  exact lastR_zero [] l
/-- both end with a sign -/
theorem hf_ss (l o : List Nat) (c x : Nat) : hf (l ++ [c]) (o ++ [x]) = gst c x (hf (l ++ [c]) o) (hf l (o ++ [x])) (hf l o) := by
  have h1 : hf (l ++ [c]) (o ++ [x]) = grF (o ++ [x]) (lastR (o ++ [x]) l) c (o.length + 1) := by
    unfold hf
    rw [lastR_snoc, List.length_append]
    rfl
  have e1 : (o ++ [x]).getD o.length 0 = x := by
    rw [List.getD_eq_getElem?_getD, List.getElem?_append_right (Nat.le_refl _), Nat.sub_self]
    rfl
  have e2 : grF (o ++ [x]) (lastR (o ++ [x]) l) c o.length = hf (l ++ [c]) o := by
    rw [← lastR_snoc, lastR_hf _ _ _ (by rw [List.length_append]; omega), List.take_left]
  have e3 : lastR (o ++ [x]) l (o.length + 1) = hf l (o ++ [x]) := by
    unfold hf
    rw [List.length_append]
    rfl
  have e4 : lastR (o ++ [x]) l o.length = hf l o := by
    rw [lastR_hf _ _ _ (by rw [List.length_append]; omega), List.take_left]
  rw [h1]
  show gst c ((o ++ [x]).getD o.length 0) (grF (o ++ [x]) (lastR (o ++ [x]) l) c o.length) (lastR (o ++ [x]) l (o.length + 1)) (lastR (o ++ [x]) l o.length) = _
  rw [e1, e2, e3, e4]
/-- one sign more or less of the other line -/
theorem hf_o1 (l o : List Nat) (x : Nat) : hf l (o ++ [x]) ≤ hf l o + 1 ∧ hf l o ≤ hf l (o ++ [x]) + 1 := by
  have h := lastR_up (o ++ [x]) l o.length
  have e3 : lastR (o ++ [x]) l (o.length + 1) = hf l (o ++ [x]) := by
    unfold hf
    rw [List.length_append]
    rfl
  have e4 : lastR (o ++ [x]) l o.length = hf l o := by
    rw [lastR_hf _ _ _ (by rw [List.length_append]; omega), List.take_left]
  rw [e3, e4] at h
  refine ⟨h, ?_⟩
  clear h e3 e4
  obtain ⟨n, hn⟩ : ∃ n, n = l.length := ⟨_, rfl⟩
  induction n generalizing l with
  | zero =>
    have : l = [] := List.length_eq_zero_iff.mp hn.symm
    subst this
    rw [hf_nil, hf_nil, List.length_append]
    simp
    omega
  | succ n ih =>
    obtain ⟨q, c, rfl⟩ : ∃ q c, l = q ++ [c] := ⟨l.dropLast, l.getLast (by intro h; rw [h] at hn; cases hn), (List.dropLast_concat_getLast _).symm⟩
    have hq : n = q.length := by rw [List.length_append] at hn; simpa using hn
    have h1 := ih q hq
    have h2 := (hf_put o q [] c).2
    have h3 := (hf_put o q [] c).1
    simp only [List.append_nil] at h2 h3
    rw [hf_ss]
    unfold gst
    split <;> omega
theorem hf_eq (l o : List Nat) (c : Nat) : hf (l ++ [c]) (o ++ [c]) = hf l o := by
  rw [hf_ss]
  have h1 := (hf_put o l [] c).1
  simp only [List.append_nil] at h1
  have h2 := (hf_o1 l o c).2
  unfold gst
  rw [if_pos rfl]
  omega
theorem hf_neq (l o : List Nat) {c x : Nat} (h : c ≠ x) : hf (l ++ [c]) (o ++ [x]) = min (hf (l ++ [c]) o) (hf l (o ++ [x])) + 1 := by
  rw [hf_ss]
  unfold gst
  rw [if_neg h]
theorem snoc_cases (l : List Nat) : l = [] ∨ ∃ q c, l = q ++ [c] := by
  by_cases h : l = []
  · exact .inl h
  · exact .inr ⟨l.dropLast, l.getLast h, (List.dropLast_concat_getLast _).symm⟩
theorem hf_self (l : List Nat) : hf l l = 0 := by
  obtain ⟨n, hn⟩ : ∃ n, n = l.length := ⟨_, rfl⟩
  induction n generalizing l with
  | zero =>
    have : l = [] := List.length_eq_zero_iff.mp hn.symm
    subst this
    rfl
  | succ n ih =>
    rcases snoc_cases l with rfl | ⟨q, c, rfl⟩
    · rfl
    · rw [hf_eq]
      exact ih q (by rw [List.length_append] at hn; simpa using hn)
theorem hf_zero {l o : List Nat} (h : hf l o = 0) : l = o := by
  obtain ⟨n, hn⟩ : ∃ n, n = l.length := ⟨_, rfl⟩
  induction n generalizing l o with
  | zero =>
    have : l = [] := List.length_eq_zero_iff.mp hn.symm
    subst this
    rw [hf_nil] at h
    exact (List.length_eq_zero_iff.mp h).symm
  | succ n ih =>
    rcases snoc_cases l with rfl | ⟨q, c, rfl⟩
    · cases hn
    · rcases snoc_cases o with rfl | ⟨p, x, rfl⟩
      · rw [hf_o0, List.length_append] at h
        simp at h
      · by_cases e : c = x
        · subst e
          rw [hf_eq] at h
          rw [ih h (by rw [List.length_append] at hn; simpa using hn)]
        · rw [hf_neq _ _ e] at h
          omega
theorem dls_cut {l o : List Nat} {p : Nat} (h : p < l.length) : Dd.cut (p : Nat) ∈ dls l o := by
  rw [dls, List.mem_append, cutsL]
  exact .inl (List.mem_map_of_mem (List.mem_range.mpr h))
theorem insU_self (c : Nat) : ∀ l : List Nat, c ∈ insU c l
  | [] => by simp [insU]
  | d :: r => by
    unfold insU
    split
    · simp
    · split
      · rename_i h; simp [h]
      · exact List.mem_cons_of_mem _ (insU_self c r)
theorem insU_keep (c x : Nat) : ∀ l : List Nat, x ∈ l → x ∈ insU c l
  | d :: r, h => by
    unfold insU
    split
    · exact List.mem_cons_of_mem _ h
    · split
      · exact h
      · rcases List.mem_cons.mp h with z | z
        · rw [z]; exact List.mem_cons_self
        · exact List.mem_cons_of_mem _ (insU_keep c x r z)
theorem sortU_all {c : Nat} : ∀ {o : List Nat}, c ∈ o → c ∈ sortU o
  | d :: o, h => by
    show c ∈ insU d (sortU o)
    rcases List.mem_cons.mp h with z | z
    · rw [z]; exact insU_self _ _
    · exact insU_keep _ _ _ (sortU_all z)
theorem dls_put {l o : List Nat} {p c : Nat} (h : p ≤ l.length) (hc : c ∈ o) : Dd.put (p : Nat) c ∈ dls l o := by
  rw [dls, List.mem_append, List.mem_flatten]
  exact .inr ⟨putsL o p, List.mem_map_of_mem (List.mem_range.mpr (by omega)), by rw [putsL]; exact List.mem_map_of_mem (sortU_all hc)⟩
theorem dn_end {q o : List Nat} {d : Dd} (c : Nat) (h : d ∈ dls q o) : dn (q ++ [c]) d = dn q d ++ [c] ∧ ∀ x, d ∈ dls (q ++ [c]) (o ++ [x]) := by
  rcases dls_mem h with ⟨p, rfl, hp⟩ | ⟨p, e, rfl, hp, he⟩
  · refine ⟨?_, fun x => dls_cut (by rw [List.length_append]; omega)⟩
    simp only [dn, Int.toNat_natCast]
    rw [List.take_append_of_le_length (by omega), List.drop_append_of_le_length (by omega), List.append_assoc]
  · refine ⟨?_, fun x => dls_put (by rw [List.length_append]; omega) (List.mem_append_left _ he)⟩
    simp only [dn, Int.toNat_natCast]
    rw [List.take_append_of_le_length hp, List.drop_append_of_le_length hp]
    simp only [List.append_assoc]
/-- some deed brings it nearer -/
theorem hf_step : ∀ (n m : Nat) (l o : List Nat), l.length + o.length = m → hf l o = n + 1 → ∃ d ∈ dls l o, hf (dn l d) o = n := by
  intro n m
  induction m using Nat.strongRecOn with
  | _ m ih =>
    intro l o hm h
    rcases snoc_cases o with rfl | ⟨p, x, rfl⟩
    · rcases snoc_cases l with rfl | ⟨q, c, rfl⟩
      · cases h
      · refine ⟨.cut (q.length : Nat), dls_cut (by rw [List.length_append]; simp), ?_⟩
        have e : dn (q ++ [c]) (.cut (q.length : Nat)) = q := by
          simp only [dn, Int.toNat_natCast, List.take_left]
          rw [List.drop_eq_nil_of_le (by rw [List.length_append]; simp)]
          simp
        rw [e, hf_o0]
        rw [hf_o0, List.length_append] at h
        simpa using h
    · rcases snoc_cases l with rfl | ⟨q, c, rfl⟩
      · refine ⟨.put ((0 : Nat) : Int) x, dls_put (Nat.le_refl _) (by simp), ?_⟩
        have e : dn [] (.put ((0 : Nat) : Int) x) = [] ++ [x] := rfl
        rw [e, hf_eq, hf_nil]
        rw [hf_nil, List.length_append] at h
        simpa using h
      · by_cases e : c = x
        · subst e
          rw [hf_eq] at h
          simp only [List.length_append, List.length_cons, List.length_nil] at hm
          obtain ⟨d, hd, hh⟩ := ih (q.length + p.length) (by omega) q p rfl h
          obtain ⟨a1, a2⟩ := dn_end c hd
          exact ⟨d, a2 c, by rw [a1, hf_eq]; exact hh⟩
        · rw [hf_neq _ _ e] at h
          by_cases z : hf q (p ++ [x]) ≤ hf (q ++ [c]) p
          · refine ⟨.cut (q.length : Nat), dls_cut (by rw [List.length_append]; simp), ?_⟩
            have e : dn (q ++ [c]) (.cut (q.length : Nat)) = q := by
              simp only [dn, Int.toNat_natCast, List.take_left]
              rw [List.drop_eq_nil_of_le (by rw [List.length_append]; simp)]
              simp
            rw [e]
            omega
          · refine ⟨.put ((q ++ [c]).length : Nat) x, dls_put (Nat.le_refl _) (by simp), ?_⟩
            have e : dn (q ++ [c]) (.put ((q ++ [c]).length : Nat) x) = (q ++ [c]) ++ [x] := by
              simp only [dn, Int.toNat_natCast]
              rw [List.take_of_length_le (Nat.le_refl _), List.drop_eq_nil_of_le (Nat.le_refl _)]
              simp
            rw [e, hf_eq]
            omega
theorem pickA_sat {α : Type} {p : α → Bool} : ∀ {xs : List α} {a : α}, pickA p xs = some a → (∃ b ∈ xs, p b = true) → p a = true
  | [c], a, h, ⟨b, hb, hp⟩ => by
    cases h
    rw [List.mem_singleton.mp hb] at hp
    exact hp
  | c :: d :: r, a, h, ⟨b, hb, hp⟩ => by
    unfold pickA at h
    split at h
    · cases h
      assumption
    · rename_i hc
      refine pickA_sat h ?_
      rcases List.mem_cons.mp hb with z | z
      · rw [z] at hp
        exact absurd hp hc
      · exact ⟨b, z, hp⟩
theorem pk_ok {o l : List Nat} {n : Nat} (h : hf l o = n + 1) : hf (dn l (pk o l n)) o = n := by
  obtain ⟨a, ha⟩ := pickA_some (p := fun d => decide (hf (dn l d) o = n)) (dls_ne (far_ne (l := l) (o := o) (by omega)))
  obtain ⟨d, hd, hh⟩ := hf_step n _ l o rfl h
  have := pickA_sat ha ⟨d, hd, decide_eq_true hh⟩
  unfold pk
  rw [ha]
  exact of_decide_eq_true this
theorem fw_end (o : List Nat) : ∀ (n : Nat) (l : List Nat), hf l o = n → dnR l (fw o n l) = o
  | 0, l, h => hf_zero h
  | n + 1, l, h => fw_end o n _ (pk_ok h)
/-- no row is shorter -/
theorem hf_row : ∀ (r : List Dd) (l o : List Nat), Rw l r → hf l o ≤ hf (dnR l r) o + (r.filter isDo).length
  | [], _, _, _ => by simp [dnR]
  | d :: r, l, o, h => by
    have ih := hf_row r (dn l d) o h.2.2
    rw [List.filter_cons, dnR]
    cases d with
    | non => simpa [isDo, dn] using ih
    | put p c =>
      obtain ⟨m, rfl⟩ := Int.eq_ofNat_of_zero_le h.1.1
      have hp : m ≤ l.length := by have : (m : Int) ≤ l.length := of_decide_eq_true h.2.1; omega
      have := (hf_put o (l.take m) (l.drop m) c).1
      rw [List.take_append_drop] at this
      simp only [dn, Int.toNat_natCast, List.append_assoc, List.singleton_append] at ih ⊢
      rw [if_pos (by rfl), List.length_cons]
      omega
    | cut p =>
      obtain ⟨m, rfl⟩ := Int.eq_ofNat_of_zero_le (show 0 ≤ p from h.1)
      have hp : m < l.length := by have : (m : Int) < l.length := of_decide_eq_true h.2.1; omega
      have e : l = l.take m ++ l[m] :: l.drop (m + 1) := by rw [← List.drop_eq_getElem_cons hp, List.take_append_drop]
      have := (hf_put o (l.take m) (l.drop (m + 1)) l[m]).2
      rw [← e] at this
      simp only [dn, Int.toNat_natCast] at ih ⊢
      rw [if_pos (by rfl), List.length_cons]
      omega

theorem fw_ok (o : List Nat) (hso : SgL o) : ∀ (n : Nat) (l : List Nat), n ≤ hf l o → SgL l → Rw l (fw o n l)
  | 0, _, _, _ => trivial
  | n + 1, l, hn, hs => by
    have hm := pk_mem (n := n) (far_ne (l := l) (o := o) (by omega))
    obtain ⟨gd, gc⟩ := dls_ok hso hm
    have := (hf_dn hm).1
    exact ⟨gd, gc, fw_ok o hso n _ (by omega) (hs.dn gd)⟩
/-- no deed of the row is none -/
theorem fw_do (o : List Nat) : ∀ (n : Nat) (l : List Nat), n ≤ hf l o → ∀ d ∈ fw o n l, d ≠ .non
  | 0, _, _, _, h => by cases h
  | n + 1, l, hn, d, h => by
    have hm := pk_mem (n := n) (far_ne (l := l) (o := o) (by omega))
    rcases List.mem_cons.mp h with z | z
    · rw [z]
      rcases dls_mem hm with ⟨p, e, -⟩ | ⟨p, c, e, -⟩ <;> rw [e] <;> intro x <;> cases x
    · exact fw_do o n _ (by have := (hf_dn hm).1; omega) d z

theorem fewest_spec (k : Nat) (s : S) (one o : List Nat) (h1 : one.length ≤ 400) (ho : o.length < 64) (hs : SgL one) (hso : SgL o) : ∃ s', callF Pg (k + 1 + 1 + 1 + 1 + 1) "" "fewest_deeds" [.str one, .str o] s = some (.ok (.lst ((fw o (hf one o) one).map Dd.d)), s') ∧ Old s s' := by
  obtain ⟨s1, e1, o1⟩ := far_spec (k + 1) (s.new (.lst [])) one o (by omega) (by omega)
  have m1 : s1.m s.nx = some (.lst []) := (o1.2 _ (Nat.lt_succ_self _)).trans (new_same _)
  have lt1 : s.nx < s1.nx := o1.1
  obtain ⟨r', s2, e2, ⟨l, q4, rfl⟩, m2, f2⟩ := few_run k s1 one o s.nx h1 ho hs hso m1 lt1 none
  have o2 : Old s s2 := ⟨Nat.le_trans (Nat.le_of_lt lt1) f2.1, fun j hj => by rw [f2.2 j (by omega) (by simp; omega), o1.2 j (Nat.lt_succ_of_lt hj), new_ne _ _ (by omega)]⟩
  have hfz : frzD s2 (.ref s.nx) = some (.ok (.lst ((fw o (hf one o) one).map Dd.d)), s2.kill s.nx) := by simp only [frzD, m2]
  refine ⟨s2.kill s.nx, ?_, o2.kill (Nat.le_refl _)⟩
  simp? (config := {decide := true}) only [r_fewest_deeds, b_fewest_deeds, e1, e2, hfz]

theorem sel_filter {α : Type} (p : α → Bool) (g : α → D) : ∀ (ys : List α) (i : Nat), sel (fun _ y => p y) (fun _ y => g y) i ys = (ys.filter p).map g
  | [], _ => rfl
  | y :: ys, i => by
    simp only [sel, List.filter_cons, sel_filter p g ys (i + 1)]
    split <;> rfl

/-! rows of steps: what how far knows of lines the other way about -/
noncomputable def Stp (l m : List Nat) : Prop := ∃ p q c, (l = p ++ q ∧ m = p ++ c :: q) ∨ (l = p ++ c :: q ∧ m = p ++ q)
noncomputable def Rch : Nat → List Nat → List Nat → Prop
  | 0, l, o => l = o
  | n + 1, l, o => ∃ m, Stp l m ∧ Rch n m o
theorem rch_le : ∀ {n : Nat} {l o : List Nat}, Rch n l o → hf l o ≤ n
  | 0, l, o, h => by
    have e : l = o := h
    rw [e, hf_self]
    exact Nat.le_refl _
  | n + 1, l, o, ⟨m, ⟨p, q, c, hs⟩, h⟩ => by
    have ih := rch_le h
    have h1 := hf_put o p q c
    rcases hs with ⟨rfl, rfl⟩ | ⟨rfl, rfl⟩ <;> omega
theorem stp_dn {l o : List Nat} {d : Dd} (h : d ∈ dls l o) : Stp l (dn l d) := by
  rcases dls_mem h with ⟨p, rfl, hp⟩ | ⟨p, c, rfl, hp, hc⟩
  · refine ⟨l.take p, l.drop (p + 1), l[p], .inr ⟨?_, by simp only [dn, Int.toNat_natCast]⟩⟩
    rw [← List.drop_eq_getElem_cons hp, List.take_append_drop]
  · refine ⟨l.take p, l.drop p, c, .inl ⟨(List.take_append_drop _ _).symm, ?_⟩⟩
    simp only [dn, Int.toNat_natCast, List.append_assoc, List.singleton_append]
theorem rch_of (o : List Nat) : ∀ (n : Nat) (l : List Nat), hf l o = n → Rch n l o
  | 0, l, h => hf_zero h
  | n + 1, l, h => by
    obtain ⟨d, hd, hh⟩ := hf_step n _ l o rfl h
    exact ⟨dn l d, stp_dn hd, rch_of o n _ hh⟩
theorem Stp.sym {l m : List Nat} (h : Stp l m) : Stp m l := by
  obtain ⟨p, q, c, h⟩ := h
  exact ⟨p, q, c, h.symm.imp (fun x => ⟨x.2, x.1⟩) (fun x => ⟨x.2, x.1⟩)⟩
theorem rch_trans : ∀ {n k : Nat} {l m o : List Nat}, Rch n l m → Rch k m o → Rch (n + k) l o
  | 0, k, l, m, o, h, g => by
    have e : l = m := h
    rw [e, Nat.zero_add]
    exact g
  | n + 1, k, l, m, o, ⟨x, hs, h⟩, g => by
    rw [Nat.succ_add]
    exact ⟨x, hs, rch_trans h g⟩
theorem rch_one {l m : List Nat} (h : Stp l m) : Rch 1 l m := ⟨m, h, rfl⟩
theorem rch_sym : ∀ {n : Nat} {l o : List Nat}, Rch n l o → Rch n o l
  | 0, l, o, h => Eq.symm (show l = o from h)
  | n + 1, l, o, ⟨m, hs, h⟩ => rch_trans (rch_sym h) (rch_one hs.sym)
theorem hf_sym (l o : List Nat) : hf l o = hf o l := Nat.le_antisymm (rch_le (rch_sym (rch_of _ _ _ rfl))) (rch_le (rch_sym (rch_of _ _ _ rfl)))
theorem hf_tri (l m o : List Nat) : hf l o ≤ hf l m + hf m o := rch_le (rch_trans (rch_of _ _ _ rfl) (rch_of _ _ _ rfl))
theorem Stp.rev {l m : List Nat} (h : Stp l m) : Stp l.reverse m.reverse := by
  obtain ⟨p, q, c, h⟩ := h
  refine ⟨q.reverse, p.reverse, c, h.imp ?_ ?_⟩ <;> rintro ⟨rfl, rfl⟩ <;> simp
theorem rch_rev : ∀ {n : Nat} {l o : List Nat}, Rch n l o → Rch n l.reverse o.reverse
  | 0, l, o, h => congrArg List.reverse (show l = o from h)
  | n + 1, l, o, ⟨m, hs, h⟩ => ⟨m.reverse, hs.rev, rch_rev h⟩
theorem hf_rev (l o : List Nat) : hf l.reverse o.reverse = hf l o := by
  refine Nat.le_antisymm (rch_le (rch_rev (rch_of _ _ _ rfl))) ?_
  have := rch_le (rch_rev (rch_of o.reverse _ l.reverse rfl))
  rwa [List.reverse_reverse, List.reverse_reverse] at this
theorem hf_suf (l o : List Nat) : ∀ x : List Nat, hf (l ++ x) (o ++ x) = hf l o := by
  intro x
  obtain ⟨n, hn⟩ : ∃ n, n = x.length := ⟨_, rfl⟩
  induction n generalizing x with
  | zero =>
    have : x = [] := List.length_eq_zero_iff.mp hn.symm
    rw [this, List.append_nil, List.append_nil]
  | succ n ih =>
    rcases snoc_cases x with rfl | ⟨q, c, rfl⟩
    · cases hn
    · rw [← List.append_assoc, ← List.append_assoc, hf_eq]
      exact ih q (by rw [List.length_append] at hn; simpa using hn)
theorem hf_pre (l o x : List Nat) : hf (x ++ l) (x ++ o) = hf l o := by
  rw [← hf_rev, List.reverse_append, List.reverse_append, hf_suf, hf_rev]
theorem rch_par : ∀ {n : Nat} {l o : List Nat}, Rch n l o → (n + l.length + o.length) % 2 = 0
  | 0, l, o, h => by
    have e : l = o := h
    rw [e]
    omega
  | n + 1, l, o, ⟨m, ⟨p, q, c, hs⟩, h⟩ => by
    have ih := rch_par h
    rcases hs with ⟨rfl, rfl⟩ | ⟨rfl, rfl⟩
    · simp only [List.length_append, List.length_cons] at ih ⊢
      omega
    · simp only [List.length_append, List.length_cons] at ih ⊢
      omega
theorem hf_par (l o : List Nat) : (hf l o + l.length + o.length) % 2 = 0 := rch_par (rch_of _ _ _ rfl)
/-! the first deed that brings nearer -/
theorem pickA_first {α : Type} {p : α → Bool} : ∀ {xs : List α} {a : α}, pickA p xs = some a → (∃ b ∈ xs, p b = true) → ∃ ys zs, xs = ys ++ a :: zs ∧ ∀ b ∈ ys, p b = false
  | [c], a, h, _ => by
    cases h
    exact ⟨[], [], rfl, fun b hb => by cases hb⟩
  | c :: d :: r, a, h, ⟨b, hb, hp⟩ => by
    unfold pickA at h
    by_cases hc : p c = true
    · rw [if_pos hc] at h
      cases h
      exact ⟨[], d :: r, rfl, fun b hb => by cases hb⟩
    · rw [if_neg hc] at h
      have hb' : b ∈ d :: r := by
        rcases List.mem_cons.mp hb with z | z
        · rw [z] at hp; exact absurd hp hc
        · exact z
      obtain ⟨ys, zs, e, hy⟩ := pickA_first h ⟨b, hb', hp⟩
      refine ⟨c :: ys, zs, by rw [e]; rfl, fun x hx => ?_⟩
      rcases List.mem_cons.mp hx with z | z
      · rw [z]; simpa using hc
      · exact hy x z
/-- the order of the deeds: cuts by place, then puts by place -/
noncomputable def rkd (n : Nat) : Dd → Nat
  | .cut p => p.toNat
  | .put p _ => n + p.toNat
  | .non => 0
theorem dls_order (l o : List Nat) : (dls l o).Pairwise (fun a b => rkd l.length a ≤ rkd l.length b) := by
  rw [dls, List.pairwise_append]
  refine ⟨?_, ?_, ?_⟩
  · rw [cutsL, List.pairwise_map]
    exact List.pairwise_lt_range.imp fun h => by simp only [rkd, Int.toNat_natCast]; omega
  · rw [List.pairwise_flatten]
    refine ⟨?_, ?_⟩
    · intro x hx
      rw [List.mem_map] at hx
      obtain ⟨p, -, rfl⟩ := hx
      rw [putsL, List.pairwise_map]
      exact List.pairwise_of_forall (fun _ _ => Nat.le_refl _)
    · rw [List.pairwise_map]
      refine List.pairwise_lt_range.imp fun {a b} h x hx y hy => ?_
      rw [putsL, List.mem_map] at hx hy
      obtain ⟨c, -, rfl⟩ := hx
      obtain ⟨d, -, rfl⟩ := hy
      simp only [rkd, Int.toNat_natCast]
      omega
  · intro a ha b hb
    rw [cutsL, List.mem_map] at ha
    obtain ⟨p, hp, rfl⟩ := ha
    rw [List.mem_range] at hp
    rw [List.mem_flatten] at hb
    obtain ⟨x, hx, hb⟩ := hb
    rw [List.mem_map] at hx
    obtain ⟨q, -, rfl⟩ := hx
    rw [putsL, List.mem_map] at hb
    obtain ⟨c, -, rfl⟩ := hb
    simp only [rkd, Int.toNat_natCast]
    omega
/-- what stands ahead of the deed chosen brings no nearer -/
theorem pk_first {l o : List Nat} {n : Nat} (h : hf l o = n + 1) {d : Dd} (hd : d ∈ dls l o) (hr : rkd l.length d < rkd l.length (pk o l n)) : hf (dn l d) o ≠ n := by
  obtain ⟨a, ha⟩ := pickA_some (p := fun d => decide (hf (dn l d) o = n)) (dls_ne (far_ne (l := l) (o := o) (by omega)))
  obtain ⟨b, hb, hh⟩ := hf_step n _ l o rfl h
  obtain ⟨ys, zs, e, hy⟩ := pickA_first ha ⟨b, hb, decide_eq_true hh⟩
  have ea : pk o l n = a := by unfold pk; rw [ha]; rfl
  rw [ea] at hr
  have ho := dls_order l o
  rw [e] at hd ho
  have h2 := (List.pairwise_append.mp ho).2.1
  rcases List.mem_append.mp hd with z | z
  · exact of_decide_eq_false (hy d z)
  · rcases List.mem_cons.mp z with z | z
    · rw [z] at hr; omega
    · have := (List.pairwise_cons.mp h2).1 d z
      omega

theorem dn_put (l : List Nat) (p c : Nat) (h : p ≤ l.length) : dn l (.put p c) = l.insertIdx p c := by
  simp only [dn, Int.toNat_natCast]
  apply List.ext_getElem?
  intro i
  rw [List.getElem?_insertIdx]
  have h1 : (l.take p).length = p := by rw [List.length_take]; omega
  by_cases a : i < p
  · rw [if_pos a, List.append_assoc, List.getElem?_append_left (by omega), List.getElem?_take_of_lt a]
  · rw [if_neg a, List.append_assoc, List.getElem?_append_right (by omega), h1]
    by_cases b : i = p
    · subst b
      rw [if_pos rfl, if_pos h, Nat.sub_self]
      rfl
    · rw [if_neg b]
      obtain ⟨j, rfl⟩ : ∃ j, i = p + 1 + j := ⟨i - p - 1, by omega⟩
      rw [show p + 1 + j - p = j + 1 by omega, List.singleton_append, List.getElem?_cons_succ, List.getElem?_drop]
      congr 1
      omega
theorem dn_cut (l : List Nat) (p : Nat) : dn l (.cut p) = l.eraseIdx p := by
  simp only [dn, Int.toNat_natCast]
  exact (List.eraseIdx_eq_take_drop_succ l p).symm
theorem len_put (l : List Nat) (p c : Nat) (h : p ≤ l.length) : (dn l (.put p c)).length = l.length + 1 := by
  rw [dn_put l p c h, List.length_insertIdx, if_pos h]
theorem len_cut (l : List Nat) (p : Nat) (h : p < l.length) : (dn l (.cut p)).length = l.length - 1 := by
  rw [dn_cut, List.length_eraseIdx, if_pos h]
theorem cn_put {p c n : Nat} (h : Cn (.put p c) n = true) : p ≤ n := by
  have := of_decide_eq_true h
  omega
theorem cn_cut {p n : Nat} (h : Cn (.cut p) n = true) : p < n := by
  have := of_decide_eq_true h
  omega
theorem put_cn {p : Int} {c n : Nat} (h : p ≤ n) : Cn (.put p c) n = true := decide_eq_true h
theorem cut_cn {p : Int} {n : Nat} (h : p < n) : Cn (.cut p) n = true := decide_eq_true h
/-- the moved deed is good and can be done behind the other -/
theorem mv_can (l : List Nat) (a b : Dd) (f : Bool) (ga : Gd a) (gb : Gd b) (ca : Cn a l.length = true) (cb : Cn b l.length = true) : Gd (mv b a f) ∧ Cn (mv b a f) (dn l a).length = true := by
  cases a with
  | non => cases b <;> exact ⟨gb, cb⟩
  | put p c =>
    obtain ⟨n, rfl⟩ := Int.eq_ofNat_of_zero_le ga.1
    have hn := cn_put ca
    rw [len_put l n c hn]
    cases b with
    | non => exact ⟨trivial, rfl⟩
    | put q d =>
      obtain ⟨m, rfl⟩ := Int.eq_ofNat_of_zero_le gb.1
      have hm := cn_put cb
      simp only [mv]
      split
      · exact ⟨⟨by omega, gb.2⟩, put_cn (by omega)⟩
      · exact ⟨gb, put_cn (by omega)⟩
    | cut q =>
      obtain ⟨m, rfl⟩ := Int.eq_ofNat_of_zero_le (show 0 ≤ q from gb)
      have hm := cn_cut cb
      simp only [mv]
      split
      · exact ⟨(by omega : 0 ≤ (m : Int) + 1), cut_cn (by omega)⟩
      · exact ⟨gb, cut_cn (by omega)⟩
  | cut p =>
    obtain ⟨n, rfl⟩ := Int.eq_ofNat_of_zero_le (show 0 ≤ p from ga)
    have hn := cn_cut ca
    rw [len_cut l n hn]
    cases b with
    | non => exact ⟨trivial, rfl⟩
    | put q d =>
      obtain ⟨m, rfl⟩ := Int.eq_ofNat_of_zero_le gb.1
      have hm := cn_put cb
      simp only [mv]
      split
      · exact ⟨⟨by omega, gb.2⟩, put_cn (by omega)⟩
      · exact ⟨gb, put_cn (by omega)⟩
    | cut q =>
      obtain ⟨m, rfl⟩ := Int.eq_ofNat_of_zero_le (show 0 ≤ q from gb)
      have hm := cn_cut cb
      simp only [mv]
      split
      · exact ⟨(by omega : 0 ≤ (m : Int) - 1), cut_cn (by omega)⟩
      · split
        · exact ⟨trivial, rfl⟩
        · exact ⟨gb, cut_cn (by omega)⟩
theorem ins_ins (l : List Nat) (i j a b : Nat) (h : i ≤ j) (hj : j ≤ l.length) : (l.insertIdx i a).insertIdx (j + 1) b = (l.insertIdx j b).insertIdx i a := List.insertIdx_comm a b h hj
theorem ins_era (l : List Nat) (i j a : Nat) (h : i ≤ j) (hj : j < l.length) : (l.insertIdx i a).eraseIdx (j + 1) = (l.eraseIdx j).insertIdx i a := (List.insertIdx_eraseIdx_of_le hj h).symm
theorem ins_era' (l : List Nat) (i j a : Nat) (h : i ≤ j) (hi : i < l.length) : (l.insertIdx (j + 1) a).eraseIdx i = (l.eraseIdx i).insertIdx j a := (List.insertIdx_eraseIdx_of_ge hi h).symm
theorem era_era (l : List Nat) (i j : Nat) (h : i ≤ j) : (l.eraseIdx i).eraseIdx j = (l.eraseIdx (j + 1)).eraseIdx i := by
  apply List.ext_getElem?
  intro x
  simp only [List.getElem?_eraseIdx]
  by_cases h1 : x < i
  · rw [if_pos (by omega), if_pos h1, if_pos h1, if_pos (by omega)]
  · by_cases h2 : x < j
    · rw [if_pos h2, if_neg h1, if_neg h1, if_pos (by omega)]
    · rw [if_neg h2, if_neg (by omega), if_neg h1, if_neg (by omega)]
/-- either way the same -/
theorem tp1 (l : List Nat) (a b : Dd) (ga : Gd a) (gb : Gd b) (ca : Cn a l.length = true) (cb : Cn b l.length = true) : dn (dn l a) (mv b a false) = dn (dn l b) (mv a b true) := by
  cases a with
  | non => cases b <;> rfl
  | put p c =>
    obtain ⟨n, rfl⟩ := Int.eq_ofNat_of_zero_le ga.1
    have hn := cn_put ca
    cases b with
    | non => rfl
    | put q d =>
      obtain ⟨m, rfl⟩ := Int.eq_ofNat_of_zero_le gb.1
      have hm := cn_put cb
      have l1 := len_put l n c hn
      have l2 := len_put l m d hm
      by_cases h : n ≤ m
      · have e1 : mv (.put (m : Int) d) (.put (n : Int) c) false = .put ((m + 1 : Nat) : Int) d := by
          simp only [mv]
          rw [if_pos (by simp; omega)]
          rfl
        have e2 : mv (.put (n : Int) c) (.put (m : Int) d) true = .put (n : Int) c := by
          simp only [mv]
          rw [if_neg (by rintro (h | ⟨_, h⟩); omega; cases h)]
        rw [e1, e2, dn_put (dn l (.put ((n : Nat) : Int) c)) (m + 1) d (by omega), dn_put (dn l (.put ((m : Nat) : Int) d)) n c (by omega), dn_put l n c hn, dn_put l m d hm]
        exact ins_ins l n m c d h hm
      · have e1 : mv (.put (m : Int) d) (.put (n : Int) c) false = .put (m : Int) d := by
          simp only [mv]
          rw [if_neg (by omega)]
        have e2 : mv (.put (n : Int) c) (.put (m : Int) d) true = .put ((n + 1 : Nat) : Int) c := by
          simp only [mv]
          rw [if_pos (by omega)]
          rfl
        rw [e1, e2, dn_put (dn l (.put ((n : Nat) : Int) c)) m d (by omega), dn_put (dn l (.put ((m : Nat) : Int) d)) (n + 1) c (by omega), dn_put l n c hn, dn_put l m d hm]
        exact (ins_ins l m n d c (by omega) hn).symm
    | cut q =>
      obtain ⟨m, rfl⟩ := Int.eq_ofNat_of_zero_le (show 0 ≤ q from gb)
      have hm := cn_cut cb
      have l1 := len_put l n c hn
      have l2 := len_cut l m hm
      by_cases h : n ≤ m
      · have e1 : mv (.cut (m : Int)) (.put (n : Int) c) false = .cut ((m + 1 : Nat) : Int) := by
          simp only [mv]
          rw [if_pos (by omega)]
          rfl
        have e2 : mv (.put (n : Int) c) (.cut (m : Int)) true = .put (n : Int) c := by
          simp only [mv]
          rw [if_neg (by omega)]
        rw [e1, e2, dn_cut (dn l (.put ((n : Nat) : Int) c)) (m + 1), dn_put (dn l (.cut ((m : Nat) : Int))) n c (by omega), dn_put l n c hn, dn_cut l m]
        exact ins_era l n m c h hm
      · have e1 : mv (.cut (m : Int)) (.put (n : Int) c) false = .cut (m : Int) := by
          simp only [mv]
          rw [if_neg (by omega)]
        obtain ⟨j, rfl⟩ : ∃ j, n = j + 1 := ⟨n - 1, by omega⟩
        have e2 : mv (.put ((j + 1 : Nat) : Int) c) (.cut (m : Int)) true = .put (j : Int) c := by
          simp only [mv]
          rw [if_pos (by omega)]
          rw [show (((j + 1 : Nat) : Int) - 1) = j by omega]
        rw [e1, e2, dn_cut (dn l (.put ((j + 1 : Nat) : Int) c)) m, dn_put (dn l (.cut ((m : Nat) : Int))) j c (by omega), dn_put l (j + 1) c hn, dn_cut l m]
        exact ins_era' l m j c (by omega) hm
  | cut p =>
    obtain ⟨n, rfl⟩ := Int.eq_ofNat_of_zero_le (show 0 ≤ p from ga)
    have hn := cn_cut ca
    cases b with
    | non => rfl
    | put q d =>
      obtain ⟨m, rfl⟩ := Int.eq_ofNat_of_zero_le gb.1
      have hm := cn_put cb
      have l1 := len_cut l n hn
      have l2 := len_put l m d hm
      by_cases h : m ≤ n
      · have e1 : mv (.put (m : Int) d) (.cut (n : Int)) false = .put (m : Int) d := by
          simp only [mv]
          rw [if_neg (by omega)]
        have e2 : mv (.cut (n : Int)) (.put (m : Int) d) true = .cut ((n + 1 : Nat) : Int) := by
          simp only [mv]
          rw [if_pos (by omega)]
          rfl
        rw [e1, e2, dn_put (dn l (.cut ((n : Nat) : Int))) m d (by omega), dn_cut (dn l (.put ((m : Nat) : Int) d)) (n + 1), dn_cut l n, dn_put l m d hm]
        exact (ins_era l m n d h hn).symm
      · obtain ⟨j, rfl⟩ : ∃ j, m = j + 1 := ⟨m - 1, by omega⟩
        have e1 : mv (.put ((j + 1 : Nat) : Int) d) (.cut (n : Int)) false = .put (j : Int) d := by
          simp only [mv]
          rw [if_pos (by omega)]
          rw [show (((j + 1 : Nat) : Int) - 1) = j by omega]
        have e2 : mv (.cut (n : Int)) (.put ((j + 1 : Nat) : Int) d) true = .cut (n : Int) := by
          simp only [mv]
          rw [if_neg (by omega)]
        rw [e1, e2, dn_put (dn l (.cut ((n : Nat) : Int))) j d (by omega), dn_cut (dn l (.put ((j + 1 : Nat) : Int) d)) n, dn_cut l n, dn_put l (j + 1) d hm]
        exact (ins_era' l n j d (by omega) hn).symm
    | cut q =>
      obtain ⟨m, rfl⟩ := Int.eq_ofNat_of_zero_le (show 0 ≤ q from gb)
      have hm := cn_cut cb
      by_cases h : n = m
      · subst h
        have e1 : ∀ f, mv (.cut (n : Int)) (.cut (n : Int)) f = .non := fun f => by
          simp only [mv, Int.lt_irrefl, if_false, if_true]
        rw [e1, e1]
      · by_cases h2 : n < m
        · obtain ⟨j, rfl⟩ : ∃ j, m = j + 1 := ⟨m - 1, by omega⟩
          have e1 : mv (.cut ((j + 1 : Nat) : Int)) (.cut (n : Int)) false = .cut (j : Int) := by
            simp only [mv]
            rw [if_pos (by omega)]
            rw [show (((j + 1 : Nat) : Int) - 1) = j by omega]
          have e2 : mv (.cut (n : Int)) (.cut ((j + 1 : Nat) : Int)) true = .cut (n : Int) := by
            simp only [mv]
            rw [if_neg (by omega), if_neg (by omega)]
          rw [e1, e2, dn_cut (dn l (.cut ((n : Nat) : Int))) j, dn_cut (dn l (.cut ((j + 1 : Nat) : Int))) n, dn_cut l n, dn_cut l (j + 1)]
          exact era_era l n j (by omega)
        · obtain ⟨j, rfl⟩ : ∃ j, n = j + 1 := ⟨n - 1, by omega⟩
          have e1 : mv (.cut (m : Int)) (.cut ((j + 1 : Nat) : Int)) false = .cut (m : Int) := by
            simp only [mv]
            rw [if_neg (by omega), if_neg (by omega)]
          have e2 : mv (.cut ((j + 1 : Nat) : Int)) (.cut (m : Int)) true = .cut (j : Int) := by
            simp only [mv]
            rw [if_pos (by omega)]
            rw [show (((j + 1 : Nat) : Int) - 1) = j by omega]
          rw [e1, e2, dn_cut (dn l (.cut ((j + 1 : Nat) : Int))) m, dn_cut (dn l (.cut ((m : Nat) : Int))) j, dn_cut l m, dn_cut l (j + 1)]
          exact (era_era l m j (by omega)).symm

/-! cuts ahead of puts, the places of both never falling -/
noncomputable def Bfr : Dd → Dd → Prop
  | .cut p, .cut q => p ≤ q
  | .cut _, .put _ _ => True
  | .put p _, .put q _ => p ≤ q
  | _, _ => False
theorem Bfr.trans {a b c : Dd} (h : Bfr a b) (g : Bfr b c) : Bfr a c := by
  cases a with
  | non => cases b <;> exact h.elim
  | cut p =>
    cases b with
    | non => exact h.elim
    | cut q =>
      cases c with
      | non => exact g.elim
      | cut r => exact Int.le_trans (show p ≤ q from h) (show q ≤ r from g)
      | put r e => exact trivial
    | put q d =>
      cases c with
      | non => exact g.elim
      | cut r => exact g.elim
      | put r e => exact trivial
  | put p e =>
    cases b with
    | non => exact h.elim
    | cut q => exact h.elim
    | put q d =>
      cases c with
      | non => exact g.elim
      | cut r => exact g.elim
      | put r e => exact Int.le_trans (show p ≤ q from h) (show q ≤ r from g)
theorem near {l o : List Nat} {n : Nat} (h : hf l o = n + 2) {b b' : Dd} (hb : b ∈ dls l o) (gb' : Gd b') (cb' : Cn b' (dn l b).length = true) (hh : hf (dn (dn l b) b') o = n) : hf (dn l b) o = n + 1 := by
  have h1 := hf_dn hb
  have h2 : hf (dn l b) o ≤ hf (dn (dn l b) b') o + 1 := by
    have h3 := hf_row [b'] (dn l b) o ⟨gb', cb', trivial⟩
    have h4 := List.length_filter_le isDo [b']
    simp only [List.length_cons, List.length_nil] at h4
    simp only [dnR] at h3
    omega
  omega
theorem pk_bfr {l o : List Nat} {n : Nat} (hso : SgL o) (h : hf l o = n + 2) : Bfr (pk o l (n + 1)) (pk o (dn l (pk o l (n + 1))) n) := by
  obtain ⟨d, hd⟩ : ∃ d, d = pk o l (n + 1) := ⟨_, rfl⟩
  obtain ⟨e, he⟩ : ∃ e, e = pk o (dn l d) n := ⟨_, rfl⟩
  have h1 : hf (dn l d) o = n + 1 := by rw [hd]; exact pk_ok h
  have h2 : hf (dn (dn l d) e) o = n := by rw [he]; exact pk_ok h1
  have m1 : d ∈ dls l o := by rw [hd]; exact pk_mem (far_ne (l := l) (o := o) (by omega))
  have m2 : e ∈ dls (dn l d) o := by rw [he]; exact pk_mem (far_ne (l := dn l d) (o := o) (by omega))
  rw [← hd, ← he]
  obtain ⟨gd, cd⟩ := dls_ok hso m1
  -- a deed b of the first line that stands ahead of d and that e is, moved behind d
  have key : ∀ b ∈ dls l o, rkd l.length b < rkd l.length d → mv b d false = e → False := by
    intro b hb hr hm
    obtain ⟨gb, cb⟩ := dls_ok hso hb
    have t := tp1 l d b gd gb cd cb
    rw [hm] at t
    obtain ⟨g2, c2⟩ := mv_can l b d true gb gd cb cd
    rw [t] at h2
    have := near h hb g2 c2 h2
    rw [hd] at hr
    exact pk_first h hb hr this
  rcases dls_mem m1 with ⟨p, rfl, hp⟩ | ⟨p, c, rfl, hp, hc⟩
  · rcases dls_mem m2 with ⟨q, rfl, hq⟩ | ⟨q, c, rfl, hq, hc⟩
    · show (p : Int) ≤ (q : Int)
      by_cases z : q < p
      · refine (key (.cut (q : Nat)) (dls_cut (by omega)) (by simp only [rkd, Int.toNat_natCast]; omega) ?_).elim
        simp only [mv]
        rw [if_neg (by omega), if_neg (by omega)]
      · omega
    · exact trivial
  · rcases dls_mem m2 with ⟨q, rfl, hq⟩ | ⟨q, c2, rfl, hq, hc2⟩
    · refine absurd ?_ (fun x : False => x)
      have hlen : (dn l (.put (p : Nat) c)).length = l.length + 1 := by
        simp only [dn, Int.toNat_natCast, List.length_append, List.length_take, List.length_drop, List.length_cons, List.length_nil]
        omega
      rw [hlen] at hq
      rcases Nat.lt_trichotomy q p with z | z | z
      · refine key (.cut (q : Nat)) (dls_cut (by omega)) (by simp only [rkd, Int.toNat_natCast]; omega) ?_
        simp only [mv]
        rw [if_neg (by omega)]
      · subst z
        have e1 : dn (dn l (.put (q : Nat) c)) (.cut (q : Nat)) = l := by
          have hl : (l.take q).length = q := by rw [List.length_take]; omega
          simp only [dn, Int.toNat_natCast]
          rw [List.append_assoc, List.take_append_of_le_length (by omega), List.take_take, Nat.min_self, List.drop_append, List.drop_eq_nil_of_le (by omega), hl]
          have : q + 1 - q = 1 := by omega
          rw [this]
          simp
        rw [e1] at h2
        omega
      · refine key (.cut ((q - 1 : Nat) : Int)) (dls_cut (by omega)) (by simp only [rkd, Int.toNat_natCast]; omega) ?_
        simp only [mv]
        rw [if_pos (by omega)]
        congr 1
        omega
    · show (p : Int) ≤ (q : Int)
      by_cases z : q < p
      · refine (key (.put (q : Nat) c2) (dls_put (by omega) hc2) (by simp only [rkd, Int.toNat_natCast]; omega) ?_).elim
        simp only [mv]
        rw [if_neg (by omega)]
      · omega
theorem fw_bfr (o : List Nat) (hso : SgL o) : ∀ (n : Nat) (l : List Nat), hf l o = n → (fw o n l).Pairwise Bfr
  | 0, _, _ => List.Pairwise.nil
  | 1, l, h => by
    show ([pk o l 0]).Pairwise Bfr
    exact List.pairwise_singleton _ _
  | n + 2, l, h => by
    have h1 := pk_ok h
    have ih := fw_bfr o hso (n + 1) (dn l (pk o l (n + 1))) h1
    have hb := pk_bfr hso h
    show (pk o l (n + 1) :: fw o (n + 1) (dn l (pk o l (n + 1)))).Pairwise Bfr
    refine List.pairwise_cons.mpr ⟨fun x hx => ?_, ih⟩
    have ih' : (pk o (dn l (pk o l (n + 1))) n :: fw o n (dn (dn l (pk o l (n + 1))) (pk o (dn l (pk o l (n + 1))) n))).Pairwise Bfr := ih
    have hx' : x ∈ pk o (dn l (pk o l (n + 1))) n :: fw o n (dn (dn l (pk o l (n + 1))) (pk o (dn l (pk o l (n + 1))) n)) := hx
    rcases List.mem_cons.mp hx' with z | z
    · rw [z]; exact hb
    · exact hb.trans ((List.pairwise_cons.mp ih').1 x z)
noncomputable def isCut : Dd → Bool
  | .cut _ => true
  | _ => false
noncomputable def isPut : Dd → Bool
  | .put _ _ => true
  | _ => false
theorem bfr_split : ∀ {r : List Dd}, r.Pairwise Bfr → (∀ d ∈ r, d ≠ .non) → r = r.filter isCut ++ r.filter isPut
  | [], _, _ => rfl
  | d :: r, h, hn => by
    obtain ⟨h1, h2⟩ := List.pairwise_cons.mp h
    have ih := bfr_split h2 fun x hx => hn x (List.mem_cons_of_mem _ hx)
    cases d with
    | non => exact absurd rfl (hn _ List.mem_cons_self)
    | cut p =>
      rw [List.filter_cons, if_pos (show isCut (.cut p) = true from rfl), List.filter_cons, if_neg (by simp [isPut]), List.cons_append, ← ih]
    | put p c =>
      have hc : r.filter isCut = [] := by
        rw [List.filter_eq_nil_iff]
        intro x hx hxc
        have := h1 x hx
        cases x with
        | cut q => exact this
        | put q e => cases hxc
        | non => cases hxc
      rw [List.filter_cons, if_neg (by simp [isCut]), List.filter_cons, if_pos (show isPut (.put p c) = true from rfl), hc, List.nil_append]
      rw [hc, List.nil_append] at ih
      rw [← ih]

/-! to no signs all are cut at 0; from no signs all are put -/
theorem dls_none {l : List Nat} {d : Dd} (h : d ∈ dls l []) : ∃ p : Nat, d = .cut p ∧ p < l.length := by
  rcases dls_mem h with h | ⟨p, c, -, -, hc⟩
  · exact h
  · cases hc
theorem pk_none {l : List Nat} {n : Nat} (h : l.length = n + 1) : pk [] l n = .cut 0 := by
  have hh : hf l [] = n + 1 := by rw [hf_o0, h]
  obtain ⟨p, e, hp⟩ := dls_none (pk_mem (n := n) (far_ne (l := l) (o := []) (by omega)))
  by_cases z : p = 0
  · rw [e, z]; rfl
  · have hd : Dd.cut ((0 : Nat) : Int) ∈ dls l [] := dls_cut (by omega)
    have := pk_first hh hd (by rw [e]; simp only [rkd, Int.toNat_natCast]; omega)
    rw [hf_o0] at this
    have e2 : dn l (.cut ((0 : Nat) : Int)) = l.drop 1 := by simp [dn]
    rw [e2, List.length_drop] at this
    omega
theorem fw_none : ∀ (n : Nat) (l : List Nat), l.length = n → fw [] n l = List.replicate n (.cut 0)
  | 0, l, _ => rfl
  | n + 1, l, h => by
    have e := pk_none h
    have hd : (dn l (.cut 0)).length = n := by
      have : dn l (.cut 0) = l.drop 1 := by simp [dn]
      rw [this, List.length_drop]
      omega
    show pk [] l n :: fw [] n (dn l (pk [] l n)) = _
    rw [e, fw_none n _ hd]
    rfl
noncomputable def sgp : Dd → List Nat
  | .put _ c => [c]
  | _ => []
noncomputable def sgP (r : List Dd) : List Nat := (r.map sgp).flatten
theorem dn_cnt (l : List Nat) (d : Dd) (x : Nat) (h : isPut d = true) : (dn l d).count x = l.count x + (sgp d).count x := by
  cases d with
  | put p c =>
    simp only [dn, List.count_append, sgp]
    have : (l.take p.toNat).count x + (l.drop p.toNat).count x = l.count x := by rw [← List.count_append, List.take_append_drop]
    omega
  | cut p => cases h
  | non => cases h
theorem dnR_cnt : ∀ (r : List Dd) (l : List Nat) (x : Nat), (∀ d ∈ r, isPut d = true) → (dnR l r).count x = l.count x + (sgP r).count x
  | [], l, x, _ => by simp [dnR, sgP]
  | d :: r, l, x, h => by
    have h1 := dnR_cnt r (dn l d) x fun y hy => h y (List.mem_cons_of_mem _ hy)
    have h2 := dn_cnt l d x (h d List.mem_cons_self)
    have e : sgP (d :: r) = sgp d ++ sgP r := rfl
    rw [e, List.count_append]
    simp only [dnR]
    omega
theorem all_put : ∀ (r : List Dd) (l : List Nat), l.length + r.length ≤ (dnR l r).length → ∀ d ∈ r, isPut d = true
  | [], _, _, d, hd => by cases hd
  | x :: r, l, h, d, hd => by
    have h1 := dnR_len r (dn l x)
    simp only [dnR, List.length_cons] at h
    have hx : isPut x = true := by
      cases x with
      | put p c => rfl
      | cut p =>
        have : (dn l (.cut p)).length ≤ l.length := by simp only [dn, List.length_append, List.length_take, List.length_drop]; omega
        omega
      | non =>
        have : dn l .non = l := rfl
        rw [this] at h1 h
        omega
    rcases List.mem_cons.mp hd with z | z
    · rw [z]; exact hx
    · have h2 := dn_len l x
      refine all_put r (dn l x) ?_ d z
      have h3 : (dn l x).length = l.length + 1 := by
        omega
      omega
theorem fw_puts (o : List Nat) : (∀ d ∈ fw o o.length [], isPut d = true) ∧ (sgP (fw o o.length [])).Perm o := by
  have he : dnR [] (fw o o.length []) = o := fw_end o o.length [] (hf_nil o)
  have hp := all_put (fw o o.length []) [] (by rw [he, fw_len]; simp)
  refine ⟨hp, List.perm_iff_count.mpr fun x => ?_⟩
  have h1 := dnR_cnt (fw o o.length []) [] x hp
  rw [he] at h1
  simpa using h1.symm

theorem lineg_spec (k : Nat) (s : S) (n : Nat) (sg : List Nat) (most : Nat) (hw : Well s n) (hs : 1 ≤ sg.length ∧ sg.length ≤ 100 ∧ ∀ c ∈ sg, Sgn c) (hm : most ≤ 1000) : ∃ (l : List Nat) (s' : S), callF Pg (k + 1 + 1) "" "_law_line" [.ref n, .str sg, .int most] s = some (.ok (.str l), s') ∧ l.length ≤ most ∧ (∀ c ∈ l, Sgn c) ∧ Well s' n ∧ Keep s s' n := by
  obtain ⟨v1, s1, h1, h1a, h1b, w1, k1⟩ := draw_spec k s n ((most : Int) + 1) hw (by omega)
  obtain ⟨m, rfl⟩ := Int.eq_ofNat_of_zero_le h1a
  have kr : kRng (some (.ok (.int (m : Int)), s1)) = some (.ok (.rng 0 m), s1) := by
    rw [kRng_ok (m : Int) (by omega), Int.toNat_natCast]
  have hz : sg.length ≤ LIM := by have := hs.2.1; unfold LIM; omega
  obtain ⟨ys, s6, hlc, ⟨ds, rfl, h6s, h6w, h6k⟩, h6l⟩ := lc_rng (cf := callF Pg (k + 1)) (t := 3) (e := x__law_line_1) (r := [some (.ref n), some (.str sg), some (.int most), none]) (s := s1) m (by unfold LIM; omega) (fun ys s' => ∃ ds : List Nat, ys = ds.map (fun c => D.str [c]) ∧ (∀ c ∈ ds, Sgn c) ∧ Well s' n ∧ Keep s1 s' n) ⟨[], rfl, (fun c hc => by cases hc), w1, rfl, fun _ _ => rfl⟩ (by
    rintro i xs t ⟨ds, rfl, ts, tw, tk⟩ hx hi
    obtain ⟨v2, t2, h2, h2a, h2b, w2, k2⟩ := draw_spec k t n (sg.length : Nat) tw (by have := hs.1; have := hs.2.1; omega)
    obtain ⟨c, hc, hcm⟩ := ix_str sg v2 (s := t2) hz h2a h2b
    refine ⟨.str [c], t2, ?_, ds ++ [c], by rw [List.map_append]; rfl, ?_, w2, tk.trans k2⟩
    · simp? only [x__law_line_1, b_lenStr hz, h2, hc]
    · intro z hz
      rw [List.mem_append, List.mem_singleton] at hz
      rcases hz with hz | rfl
      · exact ts z hz
      · exact hs.2.2 _ hcm)
  rw [List.length_map] at h6l
  have hj := m_join (s := s6) ds (by omega)
  simp? only [r__law_line, b__law_line, mt_join, h1, kr, hlc, hj]
  exact ⟨ds, s6, rfl, by omega, h6s, h6w, k1.trans h6k⟩

/-! numbers in order: one row alone -/
theorem iM_perm (c : Nat) : ∀ l : List Nat, (insM c l).Perm (c :: l)
  | [] => List.Perm.refl _
  | d :: r => by
    unfold insM
    split
    · exact List.Perm.refl _
    · exact ((iM_perm c r).cons d).trans (List.Perm.swap c d r)
theorem sM_perm : ∀ l : List Nat, (sortM l).Perm l
  | [] => List.Perm.refl _
  | c :: l => (iM_perm c _).trans ((sM_perm l).cons c)
theorem iM_up (c : Nat) : ∀ l : List Nat, l.Pairwise (· ≤ ·) → (insM c l).Pairwise (· ≤ ·)
  | [], _ => List.pairwise_singleton _ _
  | d :: r, h => by
    obtain ⟨h1, h2⟩ := List.pairwise_cons.mp h
    unfold insM
    split
    · rename_i hc
      refine List.pairwise_cons.mpr ⟨fun x hx => ?_, h⟩
      rcases List.mem_cons.mp hx with rfl | hx
      · exact hc
      · exact Nat.le_trans hc (h1 x hx)
    · refine List.pairwise_cons.mpr ⟨fun x hx => ?_, iM_up c r h2⟩
      rcases List.mem_cons.mp ((iM_perm c r).mem_iff.mp hx) with rfl | hx
      · omega
      · exact h1 x hx
theorem sM_up : ∀ l : List Nat, (sortM l).Pairwise (· ≤ ·)
  | [] => List.Pairwise.nil
  | c :: l => iM_up c _ (sM_up l)
theorem up_one : ∀ {a b : List Nat}, a.Pairwise (· ≤ ·) → b.Pairwise (· ≤ ·) → a.Perm b → a = b
  | [], b, _, _, h => (List.Perm.eq_nil (h.symm)).symm
  | x :: a, [], _, _, h => absurd (List.Perm.eq_nil h) (by simp)
  | x :: a, y :: b, ha, hb, h => by
    obtain ⟨a1, a2⟩ := List.pairwise_cons.mp ha
    obtain ⟨b1, b2⟩ := List.pairwise_cons.mp hb
    have e : x = y := by
      rcases List.mem_cons.mp (h.mem_iff.mp List.mem_cons_self) with z | z
      · exact z
      · rcases List.mem_cons.mp (h.mem_iff.mpr List.mem_cons_self) with w | w
        · exact w.symm
        · have := a1 y w; have := b1 x z; omega
    subst e
    rw [up_one a2 b2 ((List.perm_cons x).mp h)]
theorem sM_eq {a b : List Nat} (h : a.Perm b) : sortM a = sortM b := up_one (sM_up a) (sM_up b) ((sM_perm a).trans (h.trans (sM_perm b).symm))
theorem ordI_of : ∀ {l : List Int}, l.Pairwise (· ≤ ·) → ordI l = true
  | [], _ => rfl
  | i :: r, h => by
    obtain ⟨h1, h2⟩ := List.pairwise_cons.mp h
    show (r.all (fun j => decide (i ≤ j)) && ordI r) = true
    rw [ordI_of h2, List.all_eq_true.mpr fun x hx => decide_eq_true (h1 x hx)]
    rfl

noncomputable def dP : Dd → Int
  | .cut p => p
  | .put p _ => p
  | .non => 0
noncomputable def dC : Dd → Nat
  | .put _ c => c
  | _ => 0
noncomputable def ctD (i : Int) : D := .tup [.str [99, 117, 116], .int i]
theorem cuts_map : ∀ R : List Dd, (R.filter isCut).map Dd.d = ((R.filter isCut).map dP).map ctD
  | [] => rfl
  | d :: R => by
    cases d with
    | cut p => rw [List.filter_cons, if_pos (show isCut (.cut p) = true from rfl), List.map_cons, List.map_cons, List.map_cons, cuts_map R]; rfl
    | put p c => rw [List.filter_cons, if_neg (by simp [isCut])]; exact cuts_map R
    | non => rw [List.filter_cons, if_neg (by simp [isCut])]; exact cuts_map R
theorem cuts_up {R : List Dd} (h : R.Pairwise Bfr) : ((R.filter isCut).map dP).Pairwise (· ≤ ·) := by
  rw [List.pairwise_map]
  refine (h.filter isCut).imp_of_mem fun {a b} ha hb hab => ?_
  have h1 := (List.mem_filter.mp ha).2
  have h2 := (List.mem_filter.mp hb).2
  cases a with
  | cut p =>
    cases b with
    | cut q => exact hab
    | put q c => cases h2
    | non => cases h2
  | put p c => cases h1
  | non => cases h1
theorem puts_up {R : List Dd} (h : R.Pairwise Bfr) {i : Nat} {a b : Dd} (ha : (R.filter isPut)[i]? = some a) (hb : (R.filter isPut)[i + 1]? = some b) : ∃ p c q e, a = .put p c ∧ b = .put q e ∧ p ≤ q := by
  obtain ⟨h1, e1⟩ := List.getElem?_eq_some_iff.mp ha
  obtain ⟨h2, e2⟩ := List.getElem?_eq_some_iff.mp hb
  have hab : Bfr a b := by
    rw [← e1, ← e2]
    exact List.pairwise_iff_getElem.mp (h.filter isPut) i (i + 1) h1 h2 (by omega)
  have g1 := (List.mem_filter.mp (List.mem_of_getElem? ha)).2
  have g2 := (List.mem_filter.mp (List.mem_of_getElem? hb)).2
  cases a with
  | cut p => cases g1
  | non => cases g1
  | put p c =>
    cases b with
    | cut p => cases g2
    | non => cases g2
    | put q e => exact ⟨p, c, q, e, rfl, rfl, hab⟩
theorem sel_no {α : Type} (g : Nat → α → D) : ∀ (ys : List α) (i : Nat), sel (fun _ _ => false) g i ys = []
  | [], _ => rfl
  | y :: ys, i => by
    simp only [sel]
    exact sel_no g ys (i + 1)
theorem ne_self {s : S} (xs : List D) (h : shpL 59 xs = true) : cmpD s .ne (.lst xs) (.lst xs) = some false := by
  rw [c_ne, q_reflL (by simp only [shp]; exact h)]
  rfl
theorem shpL_sub : ∀ {k : Nat} {xs ys : List D}, (∀ x ∈ ys, x ∈ xs) → shpL k xs = true → shpL k ys = true
  | k, xs, [], _, _ => by simp [shpL]
  | k, xs, y :: ys, h, g => by
    have h1 : ∀ (zs : List D), shpL k zs = true → ∀ z ∈ zs, shp k z = true := by
      intro zs
      induction zs with
      | nil => intro _ z hz; cases hz
      | cons w zs ih =>
        intro hg z hz
        simp only [shpL, Bool.and_eq_true] at hg
        rcases List.mem_cons.mp hz with rfl | hz
        · exact hg.1
        · exact ih hg.2 z hz
    simp only [shpL, Bool.and_eq_true]
    exact ⟨h1 xs g y (h y List.mem_cons_self), shpL_sub (fun x hx => h x (List.mem_cons_of_mem _ hx)) g⟩
theorem kinds_spec (k : Nat) (s : S) (R : List Dd) (hb : R.Pairwise Bfr) (hn : ∀ d ∈ R, d ≠ .non) (hB : ∀ d ∈ R, Bd d) (hl : R.length ≤ 1000) : callF Pg (k + 1) "" "_law_kinds_right" [.lst (R.map Dd.d)] s = some (.ok (.bl true), s) := by
  have hL : R.length ≤ LIM := by unfold LIM; omega
  have l1 : ∀ r1 r2 r3 r4 : Option D, lcI (callF Pg k) false x__law_kinds_right_1 (.nm 3) y__law_kinds_right_1 [some (.lst (R.map Dd.d)), r1, r2, r3, r4] s (.seq (.lst (R.map Dd.d))) = some (.ok (.lst ((R.filter isCut).map Dd.d)), s) := by
    intro r1 r2 r3 r4
    rw [lc_sel R (fun _ d => isCut d) (fun _ d => d.d) hL (by rw [seq_len', List.length_map]) (by
      intro i d hi
      refine ⟨d.d, [some (.lst (R.map Dd.d)), r1, r2, some d.d, r4], by rw [seq_get', List.getElem?_map, hi]; rfl, rfl, ?_, fun _ => by simp? only [x__law_kinds_right_1]⟩
      unfold y__law_kinds_right_1
      cases d <;> simp? (config := {decide := true}) only [t_so, kT_b, Dd.d, isCut]), sel_filter]
  have l2 : ∀ r1 r2 r3 r4 : Option D, lcI (callF Pg k) false x__law_kinds_right_2 (.nm 3) y__law_kinds_right_2 [some (.lst (R.map Dd.d)), r1, r2, r3, r4] s (.seq (.lst (R.map Dd.d))) = some (.ok (.lst ((R.filter isPut).map Dd.d)), s) := by
    intro r1 r2 r3 r4
    rw [lc_sel R (fun _ d => isPut d) (fun _ d => d.d) hL (by rw [seq_len', List.length_map]) (by
      intro i d hi
      refine ⟨d.d, [some (.lst (R.map Dd.d)), r1, r2, some d.d, r4], by rw [seq_get', List.getElem?_map, hi]; rfl, rfl, ?_, fun _ => by simp? only [x__law_kinds_right_2]⟩
      unfold y__law_kinds_right_2
      cases d <;> simp? (config := {decide := true}) only [t_so, kT_b, Dd.d, isPut]), sel_filter]
  obtain ⟨P, hP⟩ : ∃ P, P = R.filter isPut := ⟨_, rfl⟩
  have hPl : P.length ≤ R.length := by rw [hP]; exact List.length_filter_le _ _
  have l3 : ∀ r0 r1 r2 r3 r4 : Option D, lcI (callF Pg k) false x__law_kinds_right_3 (.tp [3, 4]) y__law_kinds_right_3 [r0, r1, r2, r3, r4] s (.zip (.lst (P.map Dd.d)) (.lst ((P.map Dd.d).drop 1))) = some (.ok (.lst []), s) := by
    intro r0 r1 r2 r3 r4
    rw [lc_sel (P.drop 1) (fun _ _ => false) (fun _ d => d.d) (by rw [List.length_drop]; unfold LIM; omega) (by
      show some (min (P.map Dd.d).length ((P.map Dd.d).drop 1).length) = _
      rw [List.length_drop, List.length_map, List.length_drop]
      congr 1
      omega) (by
      intro i d hi
      rw [List.getElem?_drop, Nat.add_comm] at hi
      have hil : i < P.length := by have := (List.getElem?_eq_some_iff.mp hi).1; omega
      have h0 : P[i]? = some P[i] := List.getElem?_eq_getElem hil
      obtain ⟨p, c, q, e, ea, eb, hpq⟩ := puts_up hb (by rw [← hP]; exact h0) (by rw [← hP]; exact hi)
      refine ⟨.tup [P[i].d, d.d], [r0, r1, r2, some P[i].d, some d.d], ?_, rfl, ?_, fun h => nomatch h⟩
      · show (((P.map Dd.d)[i]?).bind fun x => (((P.map Dd.d).drop 1)[i]?).map fun y => D.tup [x, y]) = _
        rw [List.getElem?_drop, Nat.add_comm 1 i, List.getElem?_map, List.getElem?_map, h0, hi]
        rfl
      · unfold y__law_kinds_right_3
        rw [ea, eb]
        have c1 : ((q : Int) < p) = False := eq_false (by omega)
        simp? (config := {decide := true}) only [t_so, kT_b, Dd.d, c1]), sel_no]
  have hsp := bfr_split hb hn
  have hsh := shp_dds R hB
  have c1 : cmpD s .ne (.lst (R.map Dd.d)) (.lst ((R.filter isCut).map Dd.d ++ P.map Dd.d)) = some false := by
    rw [hP, ← List.map_append, ← hsp]
    exact ne_self _ hsh
  have c2 : biD s (.sorted false) [.lst ((R.filter isCut).map Dd.d)] = some (.ok (.lst ((R.filter isCut).map Dd.d)), s) := by
    rw [cuts_map]
    exact b_sortW [99, 117, 116] _ (ordI_of (cuts_up hb))
  have c3 : cmpD s .ne (.lst ((R.filter isCut).map Dd.d)) (.lst ((R.filter isCut).map Dd.d)) = some false := ne_self _ (shpL_sub (fun x hx => by
    obtain ⟨d, hd, rfl⟩ := List.mem_map.mp hx
    exact List.mem_map_of_mem (List.mem_filter.mp hd).1) hsh)
  have hz : ((R.filter isCut).map Dd.d).length + (P.map Dd.d).length ≤ LIM := by
    have := List.length_filter_le isCut R
    rw [List.length_map, List.length_map]
    unfold LIM
    omega
  have e1 : cut (P.map Dd.d) (some 1) none = (P.map Dd.d).drop 1 := cut_from _ 1
  rw [← hP] at l2
  simp? (config := {decide := true}) only [r__law_kinds_right, b__law_kinds_right, l1, l2, kCat2_f _ _ hz, c1, c2, c3, e1, l3, q_reflL (show shp 60 (.lst []) = true by simp [shp, shpL])]

theorem rep_flat (x : D) : ∀ n : Nat, (List.replicate n [x]).flatten = List.replicate n x
  | 0 => rfl
  | n + 1 => by
    rw [List.replicate_succ, List.flatten_cons, rep_flat x n, List.replicate_succ]
    rfl
theorem shp_sings : ∀ l : List Nat, SgL l → shpL 59 (l.map fun c => D.str [c]) = true
  | [], _ => by simp [shpL]
  | c :: l, h => by
    have h1 : c < 1114112 := Sgn.lt (h c List.mem_cons_self)
    simp only [List.map_cons, shpL, Bool.and_eq_true]
    exact ⟨by simp [shp, h1], shp_sings l fun x hx => h x (List.mem_cons_of_mem _ hx)⟩
theorem sgP_puts : ∀ R : List Dd, (∀ d ∈ R, isPut d = true) → sgP R = R.map dC
  | [], _ => rfl
  | d :: R, h => by
    have h1 := h d List.mem_cons_self
    have ih := sgP_puts R fun x hx => h x (List.mem_cons_of_mem _ hx)
    have e : sgP (d :: R) = sgp d ++ sgP R := rfl
    cases d with
    | put p c => rw [e, ih]; rfl
    | cut p => cases h1
    | non => cases h1
theorem SgL.rev {l : List Nat} (h : SgL l) : SgL l.reverse := fun c hc => h c (List.mem_reverse.mp hc)
theorem SgL.nil : SgL [] := fun c hc => by cases hc
theorem right_spec (k : Nat) (s : S) (n : Nat) (one o : List Nat) (hw : Well s n) (hn : n < s.nx) (h1 : one.length ≤ 20) (ho : o.length ≤ 20) (hs : SgL one) (hso : SgL o) :
    ∃ s', callF Pg (k + 1 + 1 + 1 + 1 + 1 + 1) "" "_law_right" [.ref n, .str one, .str o] s = some (.ok (.bl true), s') ∧ Well s' n ∧ Fr s s' [n] := by
  obtain ⟨R, hR⟩ : ∃ R, R = fw o (hf one o) one := ⟨_, rfl⟩
  have hle := hf_le one o
  have hRl : R.length = hf one o := by rw [hR, fw_len]
  have hRw : Rw one R := by rw [hR]; exact fw_ok o hso _ _ (Nat.le_refl _) hs
  have hRn : ∀ d ∈ R, d ≠ .non := by rw [hR]; exact fw_do o _ one (Nat.le_refl _)
  have hRb := hRw.bd (by omega)
  have hRf : R.Pairwise Bfr := by rw [hR]; exact fw_bfr o hso _ one rfl
  obtain ⟨s1, e1, o1⟩ := fewest_spec k s one o (by omega) (by omega) hs hso
  rw [← hR] at e1
  have ek := kinds_spec (k + 1 + 1 + 1 + 1) s1 R hRf hRn hRb (by omega)
  obtain ⟨s2, e2, o2⟩ := fewest_spec k s1 o one (by omega) (by omega) hso hs
  obtain ⟨s3, e3, o3⟩ := fewest_spec k s2 one.reverse o.reverse (by rw [List.length_reverse]; omega) (by rw [List.length_reverse]; omega) hs.rev hso.rev
  obtain ⟨s4, e4, o4⟩ := fewest_spec k s3 one one (by omega) (by omega) hs hs
  obtain ⟨s5, e5, o5⟩ := fewest_spec k s4 [] o (by simp) (by omega) SgL.nil hso
  obtain ⟨s6, e6, o6⟩ := fewest_spec k s5 one [] (by omega) (by simp) hs SgL.nil
  have o16 := ((((o1.trans o2).trans o3).trans o4).trans o5).trans o6
  have n6 : n < s6.nx := Nat.lt_of_lt_of_le hn o16.1
  obtain ⟨sg, s7, e7, hsg, w7, k7⟩ := signs_spec (k + 1 + 1 + 1) s6 n (hw.old o16 hn)
  obtain ⟨m, s8, e8, hml, hms, w8, k8⟩ := lineg_spec (k + 1 + 1 + 1) s7 n sg 4 w7 ⟨hsg.1, by have := hsg.2.1; omega, hsg.2.2⟩ (by omega)
  have e44 : ((4 : Nat) : Int) = 4 := rfl
  rw [e44] at e8
  have hms' : SgL m := hms
  obtain ⟨s9, e9, o9⟩ := fewest_spec k s8 (m ++ one) (m ++ o) (by rw [List.length_append]; omega) (by rw [List.length_append]; omega) (hms'.app hs) (hms'.app hso)
  obtain ⟨sa, ea, oa⟩ := fewest_spec k s9 (one ++ m) (o ++ m) (by rw [List.length_append]; omega) (by rw [List.length_append]; omega) (hs.app hms') (hso.app hms')
  have hz1 : one.length ≤ LIM := by unfold LIM; omega
  have hz2 : o.length ≤ LIM := by unfold LIM; omega
  have o9a := o9.trans oa
  have n8 : n < s8.nx := by have a := k7.1; have b := k8.1; omega
  have wa : Well sa n := w8.old o9a n8
  have fa : Fr s sa [n] := (((Fr.old o16 _).trans (Fr.keep k7)).trans (Fr.keep k8)).trans (Fr.old o9a _)
  -- lengths
  have q2 : (fw one (hf o one) o).length = R.length := by rw [fw_len, hRl, hf_sym]
  have q3 : (fw o.reverse (hf one.reverse o.reverse) one.reverse).length = R.length := by rw [fw_len, hRl, hf_rev]
  have q4 : fw one (hf one one) one = [] := by rw [hf_self]; rfl
  have q6 : (fw [] (hf one []) one).map Dd.d = List.replicate one.length (ctD 0) := by
    rw [hf_o0, fw_none one.length one rfl, List.map_replicate]
    rfl
  have q9 : (fw (m ++ o) (hf (m ++ one) (m ++ o)) (m ++ one)).length = R.length := by rw [fw_len, hRl, hf_pre]
  have qa : (fw (o ++ m) (hf (one ++ m) (o ++ m)) (one ++ m)).length = R.length := by rw [fw_len, hRl, hf_suf]
  have q5 := fw_puts o
  rw [hf_nil] at e5
  obtain ⟨T, hT⟩ : ∃ T, T = fw o o.length [] := ⟨_, rfl⟩
  rw [← hT] at e5 q5
  have hTl : T.length = o.length := by rw [hT, fw_len]
  have c1 : ∀ r3 r4 r5 r6 : Option D, lcI (callF Pg (k + 1 + 1 + 1 + 1 + 1)) false x__law_right_1 (.nm 6) .no [some (.ref n), some (.str one), some (.str o), r3, r4, r5, r6] s5 (.seq (.lst (T.map Dd.d))) = some (.ok (.lst ((T.map dC).map fun c => D.str [c])), s5) := by
    intro r3 r4 r5 r6
    rw [lc_sel T (fun _ _ => true) (fun _ d => D.str [dC d]) (by unfold LIM; omega) (by rw [seq_len', List.length_map]) (by
      intro i d hi
      refine ⟨d.d, [some (.ref n), some (.str one), some (.str o), r3, r4, r5, some d.d], by rw [seq_get', List.getElem?_map, hi]; rfl, rfl, rfl, fun _ => ?_⟩
      have hp := q5.1 d (List.mem_of_getElem? hi)
      cases d with
      | put p c => simp? only [x__law_right_1, Dd.d, dC]
      | cut p => cases hp
      | non => cases hp), sel_all, List.map_map]
    rfl
  have hpm : (T.map dC).Perm o := by rw [← sgP_puts T q5.1]; exact q5.2
  have c2 := b_sortO (s := s5) (T.map dC) (by rw [List.length_map, hTl]; omega)
  have c3 := b_sortT (s := s5) o (by omega)
  have c4 : cmpD s5 .ne (.lst ((sortM (T.map dC)).map fun c => D.str [c])) (.lst ((sortM o).map fun c => D.str [c])) = some false := by
    rw [sM_eq hpm]
    exact ne_self _ (shp_sings _ fun c hc => hso c ((sM_perm o).mem_iff.mp hc))
  have c5 : kRpt2 false (.lst [.tup [.str [99, 117, 116], .int 0]]) (some (.ok (.int (one.length : Nat)), s6)) = some (.ok (.lst (List.replicate one.length (ctD 0))), s6) := by
    rw [kRpt2_f [D.tup [.str [99, 117, 116], .int 0]] one.length (by simp only [List.length_cons, List.length_nil]; omega), rep_flat]
    rfl
  have c6 : cmpD s6 .ne (.lst (List.replicate one.length (ctD 0))) (.lst (List.replicate one.length (ctD 0))) = some false := by
    refine ne_self _ ?_
    have : ∀ j : Nat, shpL 59 (List.replicate j (ctD 0)) = true := by
      intro j
      induction j with
      | zero => simp [shpL]
      | succ j ih =>
        rw [List.replicate_succ]
        simp only [shpL, Bool.and_eq_true]
        exact ⟨by simp [ctD, shp, shpL], ih⟩
    exact this _
  rw [q4, List.map_nil] at e4
  rw [q6] at e6
  have c7 : cmpD s4 .ne (.lst []) (.lst []) = some false := ne_self _ (by simp [shpL])
  have zm1 : m.length + one.length ≤ LIM := by unfold LIM; omega
  have zm2 : m.length + o.length ≤ LIM := by unfold LIM; omega
  have zm3 : one.length + m.length ≤ LIM := by unfold LIM; omega
  have zm4 : o.length + m.length ≤ LIM := by unfold LIM; omega
  have hpar := hf_par one o
  have c8 : binD .mod (.int (((R.length : Nat) : Int) + (one.length : Nat) + (o.length : Nat))) (.int 2) = some (.int 0) := by
    have e : (((R.length : Nat) : Int) + (one.length : Nat) + (o.length : Nat)) % 2 = 0 := by rw [hRl]; omega
    rw [bi_mod _ 2 (by decide), e]
  refine ⟨sa, ?_, wa, fa⟩
  have fr : ∀ q5 q6 : Option D, forI (callF Pg (k + 1 + 1 + 1 + 1 + 1)) (.nm 5) l__law_right_1 [some (.ref n), some (.str one), some (.str o), some (.lst (R.map Dd.d)), some (.str m), q5, q6] sa (.seq (.lst [.lst ((fw (m ++ o) (hf (m ++ one) (m ++ o)) (m ++ one)).map Dd.d), .lst ((fw (o ++ m) (hf (one ++ m) (o ++ m)) (one ++ m)).map Dd.d)])) = some (.ok (.nx, [some (.ref n), some (.str one), some (.str o), some (.lst (R.map Dd.d)), some (.str m), some (.lst ((fw (o ++ m) (hf (one ++ m) (o ++ m)) (one ++ m)).map Dd.d)), q6]), sa) := by
    intro q5 q6
    obtain ⟨r', s', g1, g2, rfl⟩ := for_lst (cf := callF Pg (k + 1 + 1 + 1 + 1 + 1)) (t := 5) (b := l__law_right_1) (xs := [.lst ((fw (m ++ o) (hf (m ++ one) (m ++ o)) (m ++ one)).map Dd.d), .lst ((fw (o ++ m) (hf (one ++ m) (o ++ m)) (one ++ m)).map Dd.d)]) (r := [some (.ref n), some (.str one), some (.str o), some (.lst (R.map Dd.d)), some (.str m), q5, q6]) (s := sa)
      (fun i r' s' => (r' = (if i = 0 then [some (.ref n), some (.str one), some (.str o), some (.lst (R.map Dd.d)), some (.str m), q5, q6] else if i = 1 then [some (.ref n), some (.str one), some (.str o), some (.lst (R.map Dd.d)), some (.str m), some (.lst ((fw (m ++ o) (hf (m ++ one) (m ++ o)) (m ++ one)).map Dd.d)), q6] else [some (.ref n), some (.str one), some (.str o), some (.lst (R.map Dd.d)), some (.str m), some (.lst ((fw (o ++ m) (hf (one ++ m) (o ++ m)) (one ++ m)).map Dd.d)), q6])) ∧ s' = sa) ⟨rfl, rfl⟩ (by
      rintro i r' t x ⟨rfl, rfl⟩ hx
      match i, hx with
      | 0, hx =>
        cases hx
        refine ⟨_, _, ?_, rfl, rfl⟩
        rw [if_pos rfl]
        simp? (config := {decide := true}) only [l__law_right_1, List.length_map, q9]
      | 1, hx =>
        cases hx
        refine ⟨_, _, ?_, rfl, rfl⟩
        rw [if_neg (by omega), if_pos rfl]
        simp? (config := {decide := true}) only [l__law_right_1, List.length_map, qa])
    rw [g1, g2]
    rfl
  simp? (config := {decide := true}) only [r__law_right, b__law_right, e1, ek, e2, e3, e4, e5, e6, e7, e8, e9, ea, List.length_map, q2, q3, c1, c2, c3, c4, b_lenStr hz1, b_lenStr hz2, c5, c6, c7, q6, fr, bi_str _ _ zm1, bi_str _ _ zm2, bi_str _ _ zm3, bi_str _ _ zm4, c8, kRev_s, if_pos hz1, if_pos hz2]

theorem cell_spec (z0 : Option D) (i : Nat) (v : Int) (s : S) (q : Sl) (hq : q.length = 5) :
    ∃ r' s', exs (callF Pg 14) l_law_1 (z0 :: some (.int (i : Nat)) :: some (.int v) :: q) s = some (.ok (.nx, z0 :: r'), s') ∧ r'.length = 7 := by
  obtain ⟨w3, w4, w5, w6, w7, rfl⟩ := len5 hq
  obtain ⟨s1, h1, wl1, n1, -⟩ := hand_spec 13 s v i
  obtain ⟨n, hn⟩ : ∃ n, n = s.nx := ⟨_, rfl⟩
  rw [← hn] at h1 wl1 n1
  obtain ⟨one, o, s2, h2, hl1, hlo, hs, hso, wl2, k2⟩ := two_spec 11 s1 n 7 wl1 (by omega)
  have e7 : ((7 : Nat) : Int) = 7 := rfl
  rw [e7] at h2
  have n2 : n < s2.nx := by rw [k2.1]; omega
  have hsa : ∀ c ∈ one ++ o ++ [97], Sgn c := (hs.app hso).app (SgL.one (by simp [Sgn]))
  obtain ⟨th, s3, h3, hl3, hst, wl3, k3⟩ := lineg_spec 12 s2 n (one ++ o ++ [97]) 7 wl2 ⟨by simp only [List.length_append, List.length_cons, List.length_nil]; omega, by simp only [List.length_append, List.length_cons, List.length_nil]; omega, hsa⟩ (by omega)
  rw [e7] at h3
  have n3 : n < s3.nx := by rw [k3.1]; exact n2
  obtain ⟨s4, h4, wl4, f4⟩ := right_spec 8 s3 n one o wl3 n3 (by omega) (by omega) hs hso
  have n4 := Nat.lt_of_lt_of_le n3 f4.1
  obtain ⟨s5, h5, wl5, f5⟩ := right_spec 8 s4 n o th wl4 n4 (by omega) (by omega) hso hst
  obtain ⟨s6, h6, o6⟩ := fewest_spec 9 s5 one th (by omega) (by omega) hs hst
  obtain ⟨s7, h7, o7⟩ := fewest_spec 9 s6 one o (by omega) (by omega) hs hso
  obtain ⟨s8, h8, o8⟩ := fewest_spec 9 s7 o th (by omega) (by omega) hso hst
  have zm1 : one.length + o.length ≤ LIM := by unfold LIM; omega
  have zm2 : (one ++ o).length + ([97] : List Nat).length ≤ LIM := by simp only [List.length_append, List.length_cons, List.length_nil]; unfold LIM; omega
  have tri := hf_tri one o th
  have c' : (((hf one th : Nat) : Int) > ((hf one o : Nat) : Int) + ((hf o th : Nat) : Int)) = False := eq_false (by omega)
  have c'' : (((hf one o : Nat) : Int) + ((hf o th : Nat) : Int) < ((hf one th : Nat) : Int)) = False := eq_false (by omega)
  refine ⟨[some (.int (i : Nat)), some (.int v), some (.ref n), some (.str one), some (.str o), some (.str th), some (.lst [.lst ((fw th (hf one th) one).map Dd.d), .lst ((fw o (hf one o) one).map Dd.d), .lst ((fw th (hf o th) o).map Dd.d)])], s8, ?_, rfl⟩
  simp? (config := {decide := true}) only [l_law_1, h1, h2, h3, h4, h5, h6, h7, h8, bi_str _ _ zm1, bi_str _ _ zm2, List.length_map, fw_len, c', c'']
theorem law_true : ∀ ns : List Int, ns.length ≤ 63 → ∃ s', callF Pg (14 + 1) "" "law" [.scr (ns.map D.int)] ⟨fun _ => none, 0⟩ = some (.ok (.bl true), s') := by
  intro ns hn
  obtain ⟨xs, hc, hcel, hcl⟩ := cells_spec 13 ⟨fun _ => none, 0⟩ ns 16 hn
  have e16 : ((16 : Nat) : Int) = 16 := rfl
  rw [e16] at hc
  obtain ⟨r', s1, h1, -⟩ := for_tp (cf := callF Pg 14) (t := 1) (u := 2) (b := l_law_1) (xs := xs) (r := [some (.scr (ns.map D.int)), none, none, none, none, none, none, none]) (s := ⟨fun _ => none, 0⟩)
    (fun i r' s' => ∃ q, r' = some (.scr (ns.map D.int)) :: q ∧ q.length = 7) ⟨_, rfl, rfl⟩ (by
    rintro i r' t x ⟨q, rfl, hq⟩ hi
    obtain ⟨v, rfl⟩ := hcel i x hi
    match q, hq with
    | u1 :: u2 :: q, hq =>
      obtain ⟨r', s', g1, g2⟩ := cell_spec (some (.scr (ns.map D.int))) i v t q (by simpa using hq)
      exact ⟨_, _, _, s', rfl, g1, r', rfl, g2⟩)
  simp? (config := {decide := true}) only [r_law, b_law, hc, h1]
  exact ⟨_, rfl⟩

end Lw
namespace Lw
open PySem L2 Fl
noncomputable def topS (i : Nat) : Stmt := PySem.Challenge.pw_farline_k54_whole_fewest_there_and_back.main.body.getD i (.Pass ⟨0, 0, 0, 0⟩)
noncomputable abbrev s_is_sign : Stmt := topS 6
noncomputable abbrev s_is_place : Stmt := topS 7
noncomputable abbrev s_is_deed : Stmt := topS 8
noncomputable abbrev s_can_be_done : Stmt := topS 9
noncomputable abbrev s_done : Stmt := topS 10
noncomputable abbrev s_grown : Stmt := topS 12
noncomputable abbrev s_paper_of : Stmt := topS 13
noncomputable abbrev s_how_far : Stmt := topS 14
noncomputable abbrev s_deeds_of : Stmt := topS 15
noncomputable abbrev s_fewest_deeds : Stmt := topS 16
noncomputable abbrev s__law_hand : Stmt := topS 18
noncomputable abbrev s__law_draw : Stmt := topS 19
noncomputable abbrev s__law_cells : Stmt := topS 20
noncomputable abbrev s__law_signs : Stmt := topS 21
noncomputable abbrev s__law_line : Stmt := topS 22
noncomputable abbrev s__law_two : Stmt := topS 23
noncomputable abbrev s__law_kinds_right : Stmt := topS 24
noncomputable abbrev s__law_right : Stmt := topS 25
noncomputable abbrev s_law : Stmt := topS 26
noncomputable def sg : Sig := ⟨[("SIGNS", c_SIGNS)], [("", "is_sign", 1), ("", "is_place", 1), ("", "is_deed", 1), ("", "can_be_done", 2), ("", "done", 2), ("", "grown", 3), ("", "paper_of", 2), ("", "how_far", 2), ("", "deeds_of", 2), ("", "fewest_deeds", 2), ("", "_law_hand", 2), ("", "_law_draw", 2), ("", "_law_cells", 2), ("", "_law_signs", 1), ("", "_law_line", 3), ("", "_law_two", 2), ("", "_law_kinds_right", 1), ("", "_law_right", 3), ("", "law", 1)], [("PARTS", t_PARTS)], [], [], [], [], [], []⟩
theorem sc_is_sign : FnScope ["thing"] ["thing"] (defScope s_is_sign) := ⟨rfl, rfl, rfl, by decide +kernel, rfl, by decide +kernel, by decide +kernel⟩
theorem m_is_sign : mSd sg ["thing"] 1 (defScope s_is_sign) f_is_sign.body (defBody s_is_sign) = true := by decide +kernel
theorem sc_is_place : FnScope ["thing"] ["thing"] (defScope s_is_place) := ⟨rfl, rfl, rfl, by decide +kernel, rfl, by decide +kernel, by decide +kernel⟩
theorem m_is_place : mSd sg ["thing"] 1 (defScope s_is_place) f_is_place.body (defBody s_is_place) = true := by decide +kernel
theorem sc_is_deed : FnScope ["thing"] ["thing"] (defScope s_is_deed) := ⟨rfl, rfl, rfl, by decide +kernel, rfl, by decide +kernel, by decide +kernel⟩
theorem m_is_deed : mSd sg ["thing"] 1 (defScope s_is_deed) f_is_deed.body (defBody s_is_deed) = true := by decide +kernel
theorem sc_can_be_done : FnScope ["line", "deed"] ["line", "deed"] (defScope s_can_be_done) := ⟨rfl, rfl, rfl, by decide +kernel, rfl, by decide +kernel, by decide +kernel⟩
theorem m_can_be_done : mSd sg ["line", "deed"] 2 (defScope s_can_be_done) f_can_be_done.body (defBody s_can_be_done) = true := by decide +kernel
theorem sc_done : FnScope ["line", "deed"] ["line", "deed"] (defScope s_done) := ⟨rfl, rfl, rfl, by decide +kernel, rfl, by decide +kernel, by decide +kernel⟩
theorem m_done : mSd sg ["line", "deed"] 2 (defScope s_done) f_done.body (defBody s_done) = true := by decide +kernel
theorem sc_grown : FnScope ["ahead", "sign", "other", "found", "place", "there", "number"] ["ahead", "sign", "other"] (defScope s_grown) := ⟨rfl, rfl, rfl, by decide +kernel, rfl, by decide +kernel, by decide +kernel⟩
theorem m_grown : mSd sg ["ahead", "sign", "other", "found", "place", "there", "number"] 3 (defScope s_grown) f_grown.body (defBody s_grown) = true := by decide +kernel
theorem sc_paper_of : FnScope ["one", "other", "found", "sign"] ["one", "other"] (defScope s_paper_of) := ⟨rfl, rfl, rfl, by decide +kernel, rfl, by decide +kernel, by decide +kernel⟩
theorem m_paper_of : mSd sg ["one", "other", "found", "sign"] 2 (defScope s_paper_of) f_paper_of.body (defBody s_paper_of) = true := by decide +kernel
theorem sc_how_far : FnScope ["one", "other"] ["one", "other"] (defScope s_how_far) := ⟨rfl, rfl, rfl, by decide +kernel, rfl, by decide +kernel, by decide +kernel⟩
theorem m_how_far : mSd sg ["one", "other"] 2 (defScope s_how_far) f_how_far.body (defBody s_how_far) = true := by decide +kernel
theorem sc_deeds_of : FnScope ["line", "other", "found", "place", "sign"] ["line", "other"] (defScope s_deeds_of) := ⟨rfl, rfl, rfl, by decide +kernel, rfl, by decide +kernel, by decide +kernel⟩
theorem m_deeds_of : mSd sg ["line", "other", "found", "place", "sign"] 2 (defScope s_deeds_of) f_deeds_of.body (defBody s_deeds_of) = true := by decide +kernel
theorem sc_fewest_deeds : FnScope ["one", "other", "found", "left", "deed"] ["one", "other"] (defScope s_fewest_deeds) := ⟨rfl, rfl, rfl, by decide +kernel, rfl, by decide +kernel, by decide +kernel⟩
theorem m_fewest_deeds : mSd sg ["one", "other", "found", "left", "deed"] 2 (defScope s_fewest_deeds) f_fewest_deeds.body (defBody s_fewest_deeds) = true := by decide +kernel
theorem sc__law_hand : FnScope ["cell", "k", "digits"] ["cell", "k"] (defScope s__law_hand) := ⟨rfl, rfl, rfl, by decide +kernel, rfl, by decide +kernel, by decide +kernel⟩
theorem m__law_hand : mSd sg ["cell", "k", "digits"] 2 (defScope s__law_hand) f__law_hand.body (defBody s__law_hand) = true := by decide +kernel
theorem sc__law_draw : FnScope ["hand", "limit", "got"] ["hand", "limit"] (defScope s__law_draw) := ⟨rfl, rfl, rfl, by decide +kernel, rfl, by decide +kernel, by decide +kernel⟩
theorem m__law_draw : mSd sg ["hand", "limit", "got"] 2 (defScope s__law_draw) f__law_draw.body (defBody s__law_draw) = true := by decide +kernel
theorem sc__law_cells : FnScope ["script", "many"] ["script", "many"] (defScope s__law_cells) := ⟨rfl, rfl, rfl, by decide +kernel, rfl, by decide +kernel, by decide +kernel⟩
theorem m__law_cells : mSd sg ["script", "many"] 2 (defScope s__law_cells) f__law_cells.body (defBody s__law_cells) = true := by decide +kernel
theorem sc__law_signs : FnScope ["hand", "letters", "first", "step", "many", "k"] ["hand"] (defScope s__law_signs) := ⟨rfl, rfl, rfl, by decide +kernel, rfl, by decide +kernel, by decide +kernel⟩
theorem m__law_signs : mSd sg ["hand", "letters", "first", "step", "many", "k"] 1 (defScope s__law_signs) f__law_signs.body (defBody s__law_signs) = true := by decide +kernel
theorem sc__law_line : FnScope ["hand", "signs", "most", "k"] ["hand", "signs", "most"] (defScope s__law_line) := ⟨rfl, rfl, rfl, by decide +kernel, rfl, by decide +kernel, by decide +kernel⟩
theorem m__law_line : mSd sg ["hand", "signs", "most", "k"] 3 (defScope s__law_line) f__law_line.body (defBody s__law_line) = true := by decide +kernel
theorem sc__law_two : FnScope ["hand", "most", "signs", "one", "kind", "other", "k", "at"] ["hand", "most"] (defScope s__law_two) := ⟨rfl, rfl, rfl, by decide +kernel, rfl, by decide +kernel, by decide +kernel⟩
theorem m__law_two : mSd sg ["hand", "most", "signs", "one", "kind", "other", "k", "at"] 2 (defScope s__law_two) f__law_two.body (defBody s__law_two) = true := by decide +kernel
theorem sc__law_kinds_right : FnScope ["row", "cuts", "puts", "deed", "after"] ["row"] (defScope s__law_kinds_right) := ⟨rfl, rfl, rfl, by decide +kernel, rfl, by decide +kernel, by decide +kernel⟩
theorem m__law_kinds_right : mSd sg ["row", "cuts", "puts", "deed", "after"] 1 (defScope s__law_kinds_right) f__law_kinds_right.body (defBody s__law_kinds_right) = true := by decide +kernel
theorem sc__law_right : FnScope ["hand", "one", "other", "told", "more", "beside", "deed"] ["hand", "one", "other"] (defScope s__law_right) := ⟨rfl, rfl, rfl, by decide +kernel, rfl, by decide +kernel, by decide +kernel⟩
theorem m__law_right : mSd sg ["hand", "one", "other", "told", "more", "beside", "deed"] 3 (defScope s__law_right) f__law_right.body (defBody s__law_right) = true := by decide +kernel
theorem sc_law : FnScope ["script", "k", "cell", "hand", "one", "other", "third", "ways"] ["script"] (defScope s_law) := ⟨rfl, rfl, rfl, by decide +kernel, rfl, by decide +kernel, by decide +kernel⟩
theorem m_law : mSd sg ["script", "k", "cell", "hand", "one", "other", "third", "ways"] 1 (defScope s_law) f_law.body (defBody s_law) = true := by decide +kernel
theorem ft_is_sign {K : PySem.W.Frag} {h : Heap} {mg : Str → Option Value} {cls : String → Option Addr} {a : Addr} (X : K.In h) (G : h.Ns mainGlobals mg) (F : Fx K "is_sign" "is_sign" s_is_sign a) : FT sg Pg K mg cls "" "is_sign" 1 := by
  obtain ⟨oc, od, an, sl, kV, dc, pm, cd, ct, h1, h2, h3, h4⟩ := F.ex
  have F1 := fun_mk (st := s_is_sign) h2 h3 h4
  exact ⟨⟨a, _, ["thing"], ["thing"], s_is_sign, f_is_sign, .inl ⟨rfl, PySem.W.mg_of X G h1⟩, ⟨_, _, F1⟩, F1.binds (ps := ["thing"]) (fun _ _ _ _ _ _ us hl => match us, hl with | [_], _ => rfl), sc_is_sign, rfl, pg_is_sign, rfl, rfl, by decide, m_is_sign⟩⟩
theorem ft_is_place {K : PySem.W.Frag} {h : Heap} {mg : Str → Option Value} {cls : String → Option Addr} {a : Addr} (X : K.In h) (G : h.Ns mainGlobals mg) (F : Fx K "is_place" "is_place" s_is_place a) : FT sg Pg K mg cls "" "is_place" 1 := by
  obtain ⟨oc, od, an, sl, kV, dc, pm, cd, ct, h1, h2, h3, h4⟩ := F.ex
  have F1 := fun_mk (st := s_is_place) h2 h3 h4
  exact ⟨⟨a, _, ["thing"], ["thing"], s_is_place, f_is_place, .inl ⟨rfl, PySem.W.mg_of X G h1⟩, ⟨_, _, F1⟩, F1.binds (ps := ["thing"]) (fun _ _ _ _ _ _ us hl => match us, hl with | [_], _ => rfl), sc_is_place, rfl, pg_is_place, rfl, rfl, by decide, m_is_place⟩⟩
theorem ft_is_deed {K : PySem.W.Frag} {h : Heap} {mg : Str → Option Value} {cls : String → Option Addr} {a : Addr} (X : K.In h) (G : h.Ns mainGlobals mg) (F : Fx K "is_deed" "is_deed" s_is_deed a) : FT sg Pg K mg cls "" "is_deed" 1 := by
  obtain ⟨oc, od, an, sl, kV, dc, pm, cd, ct, h1, h2, h3, h4⟩ := F.ex
  have F1 := fun_mk (st := s_is_deed) h2 h3 h4
  exact ⟨⟨a, _, ["thing"], ["thing"], s_is_deed, f_is_deed, .inl ⟨rfl, PySem.W.mg_of X G h1⟩, ⟨_, _, F1⟩, F1.binds (ps := ["thing"]) (fun _ _ _ _ _ _ us hl => match us, hl with | [_], _ => rfl), sc_is_deed, rfl, pg_is_deed, rfl, rfl, by decide, m_is_deed⟩⟩
theorem ft_can_be_done {K : PySem.W.Frag} {h : Heap} {mg : Str → Option Value} {cls : String → Option Addr} {a : Addr} (X : K.In h) (G : h.Ns mainGlobals mg) (F : Fx K "can_be_done" "can_be_done" s_can_be_done a) : FT sg Pg K mg cls "" "can_be_done" 2 := by
  obtain ⟨oc, od, an, sl, kV, dc, pm, cd, ct, h1, h2, h3, h4⟩ := F.ex
  have F1 := fun_mk (st := s_can_be_done) h2 h3 h4
  exact ⟨⟨a, _, ["line", "deed"], ["line", "deed"], s_can_be_done, f_can_be_done, .inl ⟨rfl, PySem.W.mg_of X G h1⟩, ⟨_, _, F1⟩, F1.binds (ps := ["line", "deed"]) (fun _ _ _ _ _ _ us hl => match us, hl with | [_, _], _ => rfl), sc_can_be_done, rfl, pg_can_be_done, rfl, rfl, by decide, m_can_be_done⟩⟩
theorem ft_done {K : PySem.W.Frag} {h : Heap} {mg : Str → Option Value} {cls : String → Option Addr} {a : Addr} (X : K.In h) (G : h.Ns mainGlobals mg) (F : Fx K "done" "done" s_done a) : FT sg Pg K mg cls "" "done" 2 := by
  obtain ⟨oc, od, an, sl, kV, dc, pm, cd, ct, h1, h2, h3, h4⟩ := F.ex
  have F1 := fun_mk (st := s_done) h2 h3 h4
  exact ⟨⟨a, _, ["line", "deed"], ["line", "deed"], s_done, f_done, .inl ⟨rfl, PySem.W.mg_of X G h1⟩, ⟨_, _, F1⟩, F1.binds (ps := ["line", "deed"]) (fun _ _ _ _ _ _ us hl => match us, hl with | [_, _], _ => rfl), sc_done, rfl, pg_done, rfl, rfl, by decide, m_done⟩⟩
theorem ft_grown {K : PySem.W.Frag} {h : Heap} {mg : Str → Option Value} {cls : String → Option Addr} {a : Addr} (X : K.In h) (G : h.Ns mainGlobals mg) (F : Fx K "grown" "grown" s_grown a) : FT sg Pg K mg cls "" "grown" 3 := by
  obtain ⟨oc, od, an, sl, kV, dc, pm, cd, ct, h1, h2, h3, h4⟩ := F.ex
  have F1 := fun_mk (st := s_grown) h2 h3 h4
  exact ⟨⟨a, _, ["ahead", "sign", "other"], ["ahead", "sign", "other", "found", "place", "there", "number"], s_grown, f_grown, .inl ⟨rfl, PySem.W.mg_of X G h1⟩, ⟨_, _, F1⟩, F1.binds (ps := ["ahead", "sign", "other"]) (fun _ _ _ _ _ _ us hl => match us, hl with | [_, _, _], _ => rfl), sc_grown, rfl, pg_grown, rfl, rfl, by decide, m_grown⟩⟩
theorem ft_paper_of {K : PySem.W.Frag} {h : Heap} {mg : Str → Option Value} {cls : String → Option Addr} {a : Addr} (X : K.In h) (G : h.Ns mainGlobals mg) (F : Fx K "paper_of" "paper_of" s_paper_of a) : FT sg Pg K mg cls "" "paper_of" 2 := by
  obtain ⟨oc, od, an, sl, kV, dc, pm, cd, ct, h1, h2, h3, h4⟩ := F.ex
  have F1 := fun_mk (st := s_paper_of) h2 h3 h4
  exact ⟨⟨a, _, ["one", "other"], ["one", "other", "found", "sign"], s_paper_of, f_paper_of, .inl ⟨rfl, PySem.W.mg_of X G h1⟩, ⟨_, _, F1⟩, F1.binds (ps := ["one", "other"]) (fun _ _ _ _ _ _ us hl => match us, hl with | [_, _], _ => rfl), sc_paper_of, rfl, pg_paper_of, rfl, rfl, by decide, m_paper_of⟩⟩
theorem ft_how_far {K : PySem.W.Frag} {h : Heap} {mg : Str → Option Value} {cls : String → Option Addr} {a : Addr} (X : K.In h) (G : h.Ns mainGlobals mg) (F : Fx K "how_far" "how_far" s_how_far a) : FT sg Pg K mg cls "" "how_far" 2 := by
  obtain ⟨oc, od, an, sl, kV, dc, pm, cd, ct, h1, h2, h3, h4⟩ := F.ex
  have F1 := fun_mk (st := s_how_far) h2 h3 h4
  exact ⟨⟨a, _, ["one", "other"], ["one", "other"], s_how_far, f_how_far, .inl ⟨rfl, PySem.W.mg_of X G h1⟩, ⟨_, _, F1⟩, F1.binds (ps := ["one", "other"]) (fun _ _ _ _ _ _ us hl => match us, hl with | [_, _], _ => rfl), sc_how_far, rfl, pg_how_far, rfl, rfl, by decide, m_how_far⟩⟩
theorem ft_deeds_of {K : PySem.W.Frag} {h : Heap} {mg : Str → Option Value} {cls : String → Option Addr} {a : Addr} (X : K.In h) (G : h.Ns mainGlobals mg) (F : Fx K "deeds_of" "deeds_of" s_deeds_of a) : FT sg Pg K mg cls "" "deeds_of" 2 := by
  obtain ⟨oc, od, an, sl, kV, dc, pm, cd, ct, h1, h2, h3, h4⟩ := F.ex
  have F1 := fun_mk (st := s_deeds_of) h2 h3 h4
  exact ⟨⟨a, _, ["line", "other"], ["line", "other", "found", "place", "sign"], s_deeds_of, f_deeds_of, .inl ⟨rfl, PySem.W.mg_of X G h1⟩, ⟨_, _, F1⟩, F1.binds (ps := ["line", "other"]) (fun _ _ _ _ _ _ us hl => match us, hl with | [_, _], _ => rfl), sc_deeds_of, rfl, pg_deeds_of, rfl, rfl, by decide, m_deeds_of⟩⟩
theorem ft_fewest_deeds {K : PySem.W.Frag} {h : Heap} {mg : Str → Option Value} {cls : String → Option Addr} {a : Addr} (X : K.In h) (G : h.Ns mainGlobals mg) (F : Fx K "fewest_deeds" "fewest_deeds" s_fewest_deeds a) : FT sg Pg K mg cls "" "fewest_deeds" 2 := by
  obtain ⟨oc, od, an, sl, kV, dc, pm, cd, ct, h1, h2, h3, h4⟩ := F.ex
  have F1 := fun_mk (st := s_fewest_deeds) h2 h3 h4
  exact ⟨⟨a, _, ["one", "other"], ["one", "other", "found", "left", "deed"], s_fewest_deeds, f_fewest_deeds, .inl ⟨rfl, PySem.W.mg_of X G h1⟩, ⟨_, _, F1⟩, F1.binds (ps := ["one", "other"]) (fun _ _ _ _ _ _ us hl => match us, hl with | [_, _], _ => rfl), sc_fewest_deeds, rfl, pg_fewest_deeds, rfl, rfl, by decide, m_fewest_deeds⟩⟩
theorem ft__law_hand {K : PySem.W.Frag} {h : Heap} {mg : Str → Option Value} {cls : String → Option Addr} {a : Addr} (X : K.In h) (G : h.Ns mainGlobals mg) (F : Fx K "_law_hand" "_law_hand" s__law_hand a) : FT sg Pg K mg cls "" "_law_hand" 2 := by
  obtain ⟨oc, od, an, sl, kV, dc, pm, cd, ct, h1, h2, h3, h4⟩ := F.ex
  have F1 := fun_mk (st := s__law_hand) h2 h3 h4
  exact ⟨⟨a, _, ["cell", "k"], ["cell", "k", "digits"], s__law_hand, f__law_hand, .inl ⟨rfl, PySem.W.mg_of X G h1⟩, ⟨_, _, F1⟩, F1.binds (ps := ["cell", "k"]) (fun _ _ _ _ _ _ us hl => match us, hl with | [_, _], _ => rfl), sc__law_hand, rfl, pg__law_hand, rfl, rfl, by decide, m__law_hand⟩⟩
theorem ft__law_draw {K : PySem.W.Frag} {h : Heap} {mg : Str → Option Value} {cls : String → Option Addr} {a : Addr} (X : K.In h) (G : h.Ns mainGlobals mg) (F : Fx K "_law_draw" "_law_draw" s__law_draw a) : FT sg Pg K mg cls "" "_law_draw" 2 := by
  obtain ⟨oc, od, an, sl, kV, dc, pm, cd, ct, h1, h2, h3, h4⟩ := F.ex
  have F1 := fun_mk (st := s__law_draw) h2 h3 h4
  exact ⟨⟨a, _, ["hand", "limit"], ["hand", "limit", "got"], s__law_draw, f__law_draw, .inl ⟨rfl, PySem.W.mg_of X G h1⟩, ⟨_, _, F1⟩, F1.binds (ps := ["hand", "limit"]) (fun _ _ _ _ _ _ us hl => match us, hl with | [_, _], _ => rfl), sc__law_draw, rfl, pg__law_draw, rfl, rfl, by decide, m__law_draw⟩⟩
theorem ft__law_cells {K : PySem.W.Frag} {h : Heap} {mg : Str → Option Value} {cls : String → Option Addr} {a : Addr} (X : K.In h) (G : h.Ns mainGlobals mg) (F : Fx K "_law_cells" "_law_cells" s__law_cells a) : FT sg Pg K mg cls "" "_law_cells" 2 := by
  obtain ⟨oc, od, an, sl, kV, dc, pm, cd, ct, h1, h2, h3, h4⟩ := F.ex
  have F1 := fun_mk (st := s__law_cells) h2 h3 h4
  exact ⟨⟨a, _, ["script", "many"], ["script", "many"], s__law_cells, f__law_cells, .inl ⟨rfl, PySem.W.mg_of X G h1⟩, ⟨_, _, F1⟩, F1.binds (ps := ["script", "many"]) (fun _ _ _ _ _ _ us hl => match us, hl with | [_, _], _ => rfl), sc__law_cells, rfl, pg__law_cells, rfl, rfl, by decide, m__law_cells⟩⟩
theorem ft__law_signs {K : PySem.W.Frag} {h : Heap} {mg : Str → Option Value} {cls : String → Option Addr} {a : Addr} (X : K.In h) (G : h.Ns mainGlobals mg) (F : Fx K "_law_signs" "_law_signs" s__law_signs a) : FT sg Pg K mg cls "" "_law_signs" 1 := by
  obtain ⟨oc, od, an, sl, kV, dc, pm, cd, ct, h1, h2, h3, h4⟩ := F.ex
  have F1 := fun_mk (st := s__law_signs) h2 h3 h4
  exact ⟨⟨a, _, ["hand"], ["hand", "letters", "first", "step", "many", "k"], s__law_signs, f__law_signs, .inl ⟨rfl, PySem.W.mg_of X G h1⟩, ⟨_, _, F1⟩, F1.binds (ps := ["hand"]) (fun _ _ _ _ _ _ us hl => match us, hl with | [_], _ => rfl), sc__law_signs, rfl, pg__law_signs, rfl, rfl, by decide, m__law_signs⟩⟩
theorem ft__law_line {K : PySem.W.Frag} {h : Heap} {mg : Str → Option Value} {cls : String → Option Addr} {a : Addr} (X : K.In h) (G : h.Ns mainGlobals mg) (F : Fx K "_law_line" "_law_line" s__law_line a) : FT sg Pg K mg cls "" "_law_line" 3 := by
  obtain ⟨oc, od, an, sl, kV, dc, pm, cd, ct, h1, h2, h3, h4⟩ := F.ex
  have F1 := fun_mk (st := s__law_line) h2 h3 h4
  exact ⟨⟨a, _, ["hand", "signs", "most"], ["hand", "signs", "most", "k"], s__law_line, f__law_line, .inl ⟨rfl, PySem.W.mg_of X G h1⟩, ⟨_, _, F1⟩, F1.binds (ps := ["hand", "signs", "most"]) (fun _ _ _ _ _ _ us hl => match us, hl with | [_, _, _], _ => rfl), sc__law_line, rfl, pg__law_line, rfl, rfl, by decide, m__law_line⟩⟩
theorem ft__law_two {K : PySem.W.Frag} {h : Heap} {mg : Str → Option Value} {cls : String → Option Addr} {a : Addr} (X : K.In h) (G : h.Ns mainGlobals mg) (F : Fx K "_law_two" "_law_two" s__law_two a) : FT sg Pg K mg cls "" "_law_two" 2 := by
  obtain ⟨oc, od, an, sl, kV, dc, pm, cd, ct, h1, h2, h3, h4⟩ := F.ex
  have F1 := fun_mk (st := s__law_two) h2 h3 h4
  exact ⟨⟨a, _, ["hand", "most"], ["hand", "most", "signs", "one", "kind", "other", "k", "at"], s__law_two, f__law_two, .inl ⟨rfl, PySem.W.mg_of X G h1⟩, ⟨_, _, F1⟩, F1.binds (ps := ["hand", "most"]) (fun _ _ _ _ _ _ us hl => match us, hl with | [_, _], _ => rfl), sc__law_two, rfl, pg__law_two, rfl, rfl, by decide, m__law_two⟩⟩
theorem ft__law_kinds_right {K : PySem.W.Frag} {h : Heap} {mg : Str → Option Value} {cls : String → Option Addr} {a : Addr} (X : K.In h) (G : h.Ns mainGlobals mg) (F : Fx K "_law_kinds_right" "_law_kinds_right" s__law_kinds_right a) : FT sg Pg K mg cls "" "_law_kinds_right" 1 := by
  obtain ⟨oc, od, an, sl, kV, dc, pm, cd, ct, h1, h2, h3, h4⟩ := F.ex
  have F1 := fun_mk (st := s__law_kinds_right) h2 h3 h4
  exact ⟨⟨a, _, ["row"], ["row", "cuts", "puts", "deed", "after"], s__law_kinds_right, f__law_kinds_right, .inl ⟨rfl, PySem.W.mg_of X G h1⟩, ⟨_, _, F1⟩, F1.binds (ps := ["row"]) (fun _ _ _ _ _ _ us hl => match us, hl with | [_], _ => rfl), sc__law_kinds_right, rfl, pg__law_kinds_right, rfl, rfl, by decide, m__law_kinds_right⟩⟩
theorem ft__law_right {K : PySem.W.Frag} {h : Heap} {mg : Str → Option Value} {cls : String → Option Addr} {a : Addr} (X : K.In h) (G : h.Ns mainGlobals mg) (F : Fx K "_law_right" "_law_right" s__law_right a) : FT sg Pg K mg cls "" "_law_right" 3 := by
  obtain ⟨oc, od, an, sl, kV, dc, pm, cd, ct, h1, h2, h3, h4⟩ := F.ex
  have F1 := fun_mk (st := s__law_right) h2 h3 h4
  exact ⟨⟨a, _, ["hand", "one", "other"], ["hand", "one", "other", "told", "more", "beside", "deed"], s__law_right, f__law_right, .inl ⟨rfl, PySem.W.mg_of X G h1⟩, ⟨_, _, F1⟩, F1.binds (ps := ["hand", "one", "other"]) (fun _ _ _ _ _ _ us hl => match us, hl with | [_, _, _], _ => rfl), sc__law_right, rfl, pg__law_right, rfl, rfl, by decide, m__law_right⟩⟩
theorem ft_law {K : PySem.W.Frag} {h : Heap} {mg : Str → Option Value} {cls : String → Option Addr} {a : Addr} (X : K.In h) (G : h.Ns mainGlobals mg) (F : Fx K "law" "law" s_law a) : FT sg Pg K mg cls "" "law" 1 := by
  obtain ⟨oc, od, an, sl, kV, dc, pm, cd, ct, h1, h2, h3, h4⟩ := F.ex
  have F1 := fun_mk (st := s_law) h2 h3 h4
  exact ⟨⟨a, _, ["script"], ["script", "k", "cell", "hand", "one", "other", "third", "ways"], s_law, f_law, .inl ⟨rfl, PySem.W.mg_of X G h1⟩, ⟨_, _, F1⟩, F1.binds (ps := ["script"]) (fun _ _ _ _ _ _ us hl => match us, hl with | [_], _ => rfl), sc_law, rfl, pg_law, rfl, rfl, by decide, m_law⟩⟩
theorem xf_mk {K : PySem.W.Frag} {mg : Str → Option Value} : XFacts sg.ec sg.et K mg := ⟨fun t h => (by cases h), fun h => (by cases h), fun c h => (by cases h), fun c h => (by cases h)⟩
theorem tf_mk {w : World} {K : PySem.W.Frag} {h : Heap} {mg : Str → Option Value} {fa a0 a1 a2 a3 a4 a5 a6 a7 a8 a9 a10 a11 a12 a13 a14 a15 a16 a17 a18 : Addr} (X : K.In h) (G : h.Ns mainGlobals mg) (hfa : mg "law" = some (.ref fa)) (F0 : Fx K "is_sign" "is_sign" s_is_sign a0) (F1 : Fx K "is_place" "is_place" s_is_place a1) (F2 : Fx K "is_deed" "is_deed" s_is_deed a2) (F3 : Fx K "can_be_done" "can_be_done" s_can_be_done a3) (F4 : Fx K "done" "done" s_done a4) (F5 : Fx K "grown" "grown" s_grown a5) (F6 : Fx K "paper_of" "paper_of" s_paper_of a6) (F7 : Fx K "how_far" "how_far" s_how_far a7) (F8 : Fx K "deeds_of" "deeds_of" s_deeds_of a8) (F9 : Fx K "fewest_deeds" "fewest_deeds" s_fewest_deeds a9) (F10 : Fx K "_law_hand" "_law_hand" s__law_hand a10) (F11 : Fx K "_law_draw" "_law_draw" s__law_draw a11) (F12 : Fx K "_law_cells" "_law_cells" s__law_cells a12) (F13 : Fx K "_law_signs" "_law_signs" s__law_signs a13) (F14 : Fx K "_law_line" "_law_line" s__law_line a14) (F15 : Fx K "_law_two" "_law_two" s__law_two a15) (F16 : Fx K "_law_kinds_right" "_law_kinds_right" s__law_kinds_right a16) (F17 : Fx K "_law_right" "_law_right" s__law_right a17) (F18 : Fx K "law" "law" s_law a18)
    (hb : ∀ x ∈ bnames, PySem.W.nsIn K mainGlobals (Str.ofString x) = some none) {t0 : Tok} (g0 : PySem.W.nsIn K mainGlobals "SIGNS" = some (some (.str ⟨c_SIGNS.toArray⟩ t0))) {da0 : Addr} (D0 : Dx K w "PARTS" t_PARTS da0) (hxf : XFacts sg.ec sg.et K mg) : ∃ cls, TF sg Pg w K mg cls fa := by
  refine ⟨fun c => List.lookup c [], fun c f n hf => ?_, fun f v hf => ?_, fun f v hf => ?_, fun f v hf => ?_, fun x hx => PySem.W.mg_none_of X G (hb x hx), fun f v hf => ?_, pg_of (by decide +kernel), fun c C hc => ?_, fun c hc => ?_, hxf, ?_⟩
  · simp only [sg, List.mem_cons, Prod.mk.injEq, List.not_mem_nil, or_false] at hf
    rcases hf with ⟨rfl, rfl, rfl⟩ | ⟨rfl, rfl, rfl⟩ | ⟨rfl, rfl, rfl⟩ | ⟨rfl, rfl, rfl⟩ | ⟨rfl, rfl, rfl⟩ | ⟨rfl, rfl, rfl⟩ | ⟨rfl, rfl, rfl⟩ | ⟨rfl, rfl, rfl⟩ | ⟨rfl, rfl, rfl⟩ | ⟨rfl, rfl, rfl⟩ | ⟨rfl, rfl, rfl⟩ | ⟨rfl, rfl, rfl⟩ | ⟨rfl, rfl, rfl⟩ | ⟨rfl, rfl, rfl⟩ | ⟨rfl, rfl, rfl⟩ | ⟨rfl, rfl, rfl⟩ | ⟨rfl, rfl, rfl⟩ | ⟨rfl, rfl, rfl⟩ | ⟨rfl, rfl, rfl⟩
    · exact ft_is_sign X G F0
    · exact ft_is_place X G F1
    · exact ft_is_deed X G F2
    · exact ft_can_be_done X G F3
    · exact ft_done X G F4
    · exact ft_grown X G F5
    · exact ft_paper_of X G F6
    · exact ft_how_far X G F7
    · exact ft_deeds_of X G F8
    · exact ft_fewest_deeds X G F9
    · exact ft__law_hand X G F10
    · exact ft__law_draw X G F11
    · exact ft__law_cells X G F12
    · exact ft__law_signs X G F13
    · exact ft__law_line X G F14
    · exact ft__law_two X G F15
    · exact ft__law_kinds_right X G F16
    · exact ft__law_right X G F17
    · exact ft_law X G F18
  · simp only [sg, List.mem_cons, Prod.mk.injEq, List.not_mem_nil, or_false] at hf
    rcases hf with ⟨rfl, rfl⟩
    · exact ⟨_, PySem.W.mg_of X G g0⟩
  · simp [sg] at hf
  · simp [sg] at hf
  · simp only [sg, List.mem_cons, Prod.mk.injEq, List.not_mem_nil, or_false] at hf
    rcases hf with ⟨rfl, rfl⟩
    · obtain ⟨es, n, h1, h2, h3⟩ := D0.ex
      exact ⟨_, es, n, PySem.W.mg_of X G h1, h2, h3⟩
  · cases hc
  · cases hc
  · obtain ⟨oc, od, an, sl, kV, dc, pm, cd, ct, h1, h2, h3, h4⟩ := F18.ex
    have e := hfa.symm.trans (PySem.W.mg_of X G h1)
    cases e
    exact ⟨_, ["script", "k", "cell", "hand", "one", "other", "third", "ways"], s_law, f_law, fun_mk (st := s_law) h2 h3 h4, sc_law, pg_law, rfl, rfl, by decide, m_law, fun u => rfl⟩
end Lw
open PySem PySem.W PyProof.Rows
set_option maxRecDepth 100000 in
set_option maxHeartbeats 0 in
theorem PySem.Challenge.cw_farline_k54_whole_fewest_there_and_back_holds : PySem.Challenge.rw_farline_k54_whole_fewest_there_and_back.Holds := by
  w_on; o_law; k_head; (case hw => w_witness2)
  k_fill
  refine Fl.walk_law (l := PySem.Challenge.rw_farline_k54_whole_fewest_there_and_back) Lw.sg Lw.Pg 14 (by decide) rfl rfl (fun w h Y => PySem.W.kIn_of Y) ?T Lw.law_true
  case T =>
    intro w mg fa h KX G hmg
    refine' Fl.fx_k (f := "is_sign") (g := "is_sign") (st := Lw.s_is_sign) KX ?a ?l ?c ?k (fun a0 F0 => ?_); (case a => k_is); (case l => k_is); (case c => k_is); (case k => k_is)
    refine' Fl.fx_k (f := "is_place") (g := "is_place") (st := Lw.s_is_place) KX ?a ?l ?c ?k (fun a1 F1 => ?_); (case a => k_is); (case l => k_is); (case c => k_is); (case k => k_is)
    refine' Fl.fx_k (f := "is_deed") (g := "is_deed") (st := Lw.s_is_deed) KX ?a ?l ?c ?k (fun a2 F2 => ?_); (case a => k_is); (case l => k_is); (case c => k_is); (case k => k_is)
    refine' Fl.fx_k (f := "can_be_done") (g := "can_be_done") (st := Lw.s_can_be_done) KX ?a ?l ?c ?k (fun a3 F3 => ?_); (case a => k_is); (case l => k_is); (case c => k_is); (case k => k_is)
    refine' Fl.fx_k (f := "done") (g := "done") (st := Lw.s_done) KX ?a ?l ?c ?k (fun a4 F4 => ?_); (case a => k_is); (case l => k_is); (case c => k_is); (case k => k_is)
    refine' Fl.fx_k (f := "grown") (g := "grown") (st := Lw.s_grown) KX ?a ?l ?c ?k (fun a5 F5 => ?_); (case a => k_is); (case l => k_is); (case c => k_is); (case k => k_is)
    refine' Fl.fx_k (f := "paper_of") (g := "paper_of") (st := Lw.s_paper_of) KX ?a ?l ?c ?k (fun a6 F6 => ?_); (case a => k_is); (case l => k_is); (case c => k_is); (case k => k_is)
    refine' Fl.fx_k (f := "how_far") (g := "how_far") (st := Lw.s_how_far) KX ?a ?l ?c ?k (fun a7 F7 => ?_); (case a => k_is); (case l => k_is); (case c => k_is); (case k => k_is)
    refine' Fl.fx_k (f := "deeds_of") (g := "deeds_of") (st := Lw.s_deeds_of) KX ?a ?l ?c ?k (fun a8 F8 => ?_); (case a => k_is); (case l => k_is); (case c => k_is); (case k => k_is)
    refine' Fl.fx_k (f := "fewest_deeds") (g := "fewest_deeds") (st := Lw.s_fewest_deeds) KX ?a ?l ?c ?k (fun a9 F9 => ?_); (case a => k_is); (case l => k_is); (case c => k_is); (case k => k_is)
    refine' Fl.fx_k (f := "_law_hand") (g := "_law_hand") (st := Lw.s__law_hand) KX ?a ?l ?c ?k (fun a10 F10 => ?_); (case a => k_is); (case l => k_is); (case c => k_is); (case k => k_is)
    refine' Fl.fx_k (f := "_law_draw") (g := "_law_draw") (st := Lw.s__law_draw) KX ?a ?l ?c ?k (fun a11 F11 => ?_); (case a => k_is); (case l => k_is); (case c => k_is); (case k => k_is)
    refine' Fl.fx_k (f := "_law_cells") (g := "_law_cells") (st := Lw.s__law_cells) KX ?a ?l ?c ?k (fun a12 F12 => ?_); (case a => k_is); (case l => k_is); (case c => k_is); (case k => k_is)
    refine' Fl.fx_k (f := "_law_signs") (g := "_law_signs") (st := Lw.s__law_signs) KX ?a ?l ?c ?k (fun a13 F13 => ?_); (case a => k_is); (case l => k_is); (case c => k_is); (case k => k_is)
    refine' Fl.fx_k (f := "_law_line") (g := "_law_line") (st := Lw.s__law_line) KX ?a ?l ?c ?k (fun a14 F14 => ?_); (case a => k_is); (case l => k_is); (case c => k_is); (case k => k_is)
    refine' Fl.fx_k (f := "_law_two") (g := "_law_two") (st := Lw.s__law_two) KX ?a ?l ?c ?k (fun a15 F15 => ?_); (case a => k_is); (case l => k_is); (case c => k_is); (case k => k_is)
    refine' Fl.fx_k (f := "_law_kinds_right") (g := "_law_kinds_right") (st := Lw.s__law_kinds_right) KX ?a ?l ?c ?k (fun a16 F16 => ?_); (case a => k_is); (case l => k_is); (case c => k_is); (case k => k_is)
    refine' Fl.fx_k (f := "_law_right") (g := "_law_right") (st := Lw.s__law_right) KX ?a ?l ?c ?k (fun a17 F17 => ?_); (case a => k_is); (case l => k_is); (case c => k_is); (case k => k_is)
    refine' Fl.fx_k (f := "law") (g := "law") (st := Lw.s_law) KX ?a ?l ?c ?k (fun a18 F18 => ?_); (case a => k_is); (case l => k_is); (case c => k_is); (case k => k_is)
    refine' Fl.gs_k (f := "SIGNS") (v := ⟨Lw.c_SIGNS.toArray⟩) KX ?a (fun t0 g0 => ?_); (case a => k_is)
    refine' Fl.ds_k (w := w) (f := "PARTS") (t := Lw.t_PARTS) KX ?a ?l ?b ?c ?d (fun da0 D0 => ?_); (case a => k_is); (case l => k_is); (case b => exact ⟨⟨_, _, rfl, rfl⟩, ⟨_, _, rfl, rfl⟩, ⟨_, _, rfl, rfl⟩, trivial⟩); (case c => rfl); (case d => exact ⟨⟨⟨_, rfl⟩, ⟨_, rfl⟩⟩, ⟨⟨_, rfl⟩, ⟨_, rfl⟩⟩, ⟨⟨_, rfl⟩, ⟨_, rfl⟩⟩, trivial⟩)
    refine Lw.tf_mk KX G hmg  F0 F1 F2 F3 F4 F5 F6 F7 F8 F9 F10 F11 F12 F13 F14 F15 F16 F17 F18  ?_ g0 D0 Lw.xf_mk
    intro x hx
    simp only [Fl.bnames, List.mem_cons, List.not_mem_nil, or_false] at hx
    rcases hx with rfl | rfl | rfl | rfl | rfl | rfl | rfl | rfl | rfl | rfl | rfl | rfl | rfl | rfl | rfl | rfl | rfl | rfl
    all_goals k_is
