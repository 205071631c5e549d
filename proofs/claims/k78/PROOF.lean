import PyProof.Rows.All
import Wide.All
import OpenK.AllK
import Wide.FinOn
import HandS.ForMost
import HandS.ForExc
import HandS.TupAny
import HandS.Deep
import HandS.IsInst
import HandS.Zip
import HandS.TupLe
import HandS.Flow
import HandS.ExcField
import HandS.TryOnly
import HandS.More
import HandS.SortInts
import HandS.WordsDict
import HandS.Style
import HandS.Rev
import HandS.RevTup
import HandS.Small
import HandS.TupMul
import HandS.Conv
import HandS.DictComp
import HandS.HotCalls
import HandS.ExcIs
import KE.GoesEnum
import KE.GoesMore
import KE.SortData
import KE.KDictPairs
import KE.KDictItemsList
import HandS.DictTup
import HandS.ListItems
import HandS.SetKeys
import HandS.SetFor
import HandS.Strs
import HandS.SortKw
import KE.DataMinMax
import PySem.Challenge.RW_usedapart_k78_whole_wider_schemes
set_option Elab.async false
set_option linter.all false
set_option maxRecDepth 100000
/-! Pv1: pure values, stores, the small language, its meaning (no machine in sight). -/
namespace Pv
open PySem

/-- a value: tuples are trees, a changeable object is a number in the store -/
inductive PV where
  | non | bl (b : Bool) | int (i : Int) | str (x : Str) | tup (xs : List PV) | ref (i : Nat) | fn (x : Str)
  deriving Inhabited
/-- what the store holds -/
inductive Mo where
  | lst (xs : List PV) | frz (xs : List PV) | dct (kvs : List (L2.Key × PV)) | ins (x : Str) (fs : List (Str × PV)) | dctT (kvs : List (List L2.Key × PV))
  /-- a dict that is walked, what stands for it in the machine's heap -/
  | dctF (kvs : List (L2.Key × PV)) (g : Obj × List (L2.Key × L2.V))
  deriving Inhabited
abbrev Store := List Mo
abbrev Env := List (Option PV)
/-- an exception: its class's number, its field -/
structure PEx where
  cls : Nat
  fld : Option PV
abbrev PQ := PV → Store → Prop
abbrev PX := PEx → Store → Prop
abbrev PEX := PEx → Env → Store → Prop
/-- what is called: a def; a def one level lower (an __init__, by its class) -/
inductive Fi where
  | f (i : Nat) | mk (i : Nat)
  deriving DecidableEq
instance : Coe Nat Fi := ⟨Fi.f⟩
instance {n : Nat} : OfNat Fi n := ⟨Fi.f n⟩
abbrev Call := Fi → List PV → Store → PQ → PX → Prop

mutual
/-- all references are below n -/
def PV.under (n : Nat) : PV → Bool
  | .ref i => decide (i < n)
  | .tup xs => PV.underL n xs
  | .non | .bl _ | .int _ | .str _ | .fn _ => true
def PV.underL (n : Nat) : List PV → Bool
  | [] => true
  | x :: xs => PV.under n x && PV.underL n xs
end
mutual
/-- as data; a reference is nothing that can be laid -/
def PV.toD : PV → PyData
  | .non => .none
  | .bl b => .bool b
  | .int i => .int i
  | .str x => .str x
  | .tup xs => .tuple (PV.toDs xs)
  | .ref _ => .dict []
  | .fn _ => .dict []
def PV.toDs : List PV → List PyData
  | [] => []
  | x :: xs => PV.toD x :: PV.toDs xs
end
def Mo.items : Mo → List PV
  | .lst xs => xs
  | .frz xs => xs
  | .dct _ => []
  | .ins _ _ => []
  | .dctT _ => []
  | .dctF _ _ => []
/-- what a thing holds -/
def Mo.vals : Mo → List PV
  | .lst xs => xs
  | .frz xs => xs
  | .dct kvs => kvs.map (·.2)
  | .ins _ fs => fs.map (·.2)
  | .dctT kvs => kvs.map (·.2)
  | .dctF kvs _ => kvs.map (·.2)
/-- an object of an own class, a dict with tuple keys -/
def Mo.obj : Mo → Bool
  | .ins _ _ => true
  | .dctT _ => true
  | .dctF _ _ => true
  | _ => false
/-- a list -/
def Mo.sq : Mo → Bool
  | .dct _ => false
  | .ins _ _ => false
  | .dctT _ => false
  | .dctF _ _ => false
  | _ => true
/-- may be written -/
def Mo.mut : Mo → Bool
  | .frz _ => false
  | _ => true
def Mo.under (n : Nat) (o : Mo) : Bool := PV.underL n o.vals
def wfAt (n : Nat) (S : Store) : Bool := S.all (Mo.under n)
abbrev WfS (S : Store) : Prop := wfAt S.length S = true

/-! ### the language -/
inductive BOp where
  | add | sub | mul | fdiv | mod | pow
  deriving DecidableEq
inductive COp where
  | eq | ne | lt | le | gt | ge | is | isnot | isin | notin
  deriving DecidableEq
/-- built-in functions by name -/
inductive Bi where
  | len | max2 | min2 | int1 | list1 | tuple1 | all1 | any1 | sum1 | list0 | tuple0 | sorted1 | max1 | min1 | dict1
  deriving DecidableEq
/-- methods of lists -/
inductive Mt where
  | append | index | count | pop | extend
  deriving DecidableEq
/-- built-in classes that isinstance is asked about -/
inductive Ty where
  | tInt | tStr | tBool | tTuple | tList
  deriving DecidableEq
inductive Tg where
  | nm (i : Nat) | tp (is : List Nat)
mutual
inductive IE where
  | var (i : Nat)
  | cst (v : PV)
  | tup (es : IEs)
  | lst (es : IEs)
  | bin (o : BOp) (a b : IE)
  | neg (a : IE)
  | cmp (o : COp) (a b : IE)
  | chain (o p : COp) (a b c : IE)
  | and (a b : IE)
  | or (a b : IE)
  | not (a : IE)
  | ifx (t a b : IE)
  | idxc (a : IE) (n : Nat)
  | idx (a b : IE)
  | slice (a : IE) (lo hi : IOp)
  | call (f : Nat) (es : IEs) (ds : List PV)
  | bi (b : Bi) (es : IEs)
  | meth (m : Mt) (a : IE) (es : IEs)
  | isin (a : IE) (t : Ty)
  | fld (i : Nat)
  | lc (vs : List Nat) (tg : Tg) (it : II) (ifs : IEs) (elt : IE)
  | dct (ks : List L2.Key) (es : IEs)
  | get2 (a k d : IE)
  | rev (a : IE)
  | callV (tbl : List (Str × Nat × List PV)) (i : Nat) (es : IEs)
  | attr (xs : List Str) (f : Str) (a : IE)
  | mcall (tbl : List (Str × Nat)) (m : Str) (a : IE) (es : IEs)
  | make (x : Str) (j : Nat) (es : IEs)
  | dc (vs : List Nat) (tg : Tg) (it : II) (ifs : IEs) (kx vx : IE)
  | tupR (a : IE)
  | dctE
  | idxT (a : IE) (es : IEs)
  | inT (neg : Bool) (es : IEs) (a : IE)
  | lock (i : Nat) (e : IE)
  | setd (a k d : IE)
  | sortI (i : Nat)
  | sortS (a : IE)
  | maxD (a d : IE)
inductive IEs where
  | nil | cons (e : IE) (es : IEs)
inductive IOp where
  | no | so (e : IE)
inductive II where
  | val (a : IE) | rng1 (a : IE) | rng2 (a b : IE) | enum (a : IE) | zip (a b : IE) | dk (md : Nat) (i : Nat)
end

/-! ### operations on values -/
def atPV (xs : List PV) (i : Int) : Option PV := L2.atI xs i
def cutPV (xs : List PV) (lo hi : Option Int) : List PV := (xs.drop (HT.sIx xs.length 0 lo)).take (HT.sIx xs.length xs.length hi - HT.sIx xs.length 0 lo)

/-! dicts -/
def keyPV : L2.Key → PV
  | .inl i => .int i
  | .inr x => .str x
def keyOf : PV → Option L2.Key
  | .int i => some (.inl i)
  | .str x => some (.inr x)
  | _ => none
def keysP (kvs : List (L2.Key × PV)) : List PV := kvs.map fun kv => keyPV kv.1
section
variable {κ : Type} [DecidableEq κ]
def getP : List (κ × PV) → κ → Option PV
  | [], _ => none
  | (j, v) :: r, k => if j = k then some v else getP r k
def setP (k : κ) (v : PV) : List (κ × PV) → List (κ × PV)
  | [] => []
  | (j, w) :: r => if j = k then (j, v) :: setP k v r else (j, w) :: setP k v r
def putP (kvs : List (κ × PV)) (k : κ) (v : PV) : List (κ × PV) := if (getP kvs k).isSome then setP k v kvs else kvs ++ [(k, v)]
end
def keysT : List PV → Option (List L2.Key)
  | [] => some []
  | v :: r => (keyOf v).bind fun k => (keysT r).map (k :: ·)
/-- pairs one after another into a dict -/
def mergeP {κ : Type} [DecidableEq κ] (acc kvs : List (κ × PV)) : List (κ × PV) := kvs.foldl (fun acc kv => putP acc kv.1 kv.2) acc
/-- pairs (key, value) -/
def pairsP : List PV → Option (List (L2.Key × PV))
  | [] => some []
  | .tup [k, v] :: r => (keyOf k).bind fun kk => (pairsP r).map ((kk, v) :: ·)
  | _ => none
/-- a number and what it stands for, as a pair -/
def pairI (p : Int × PV) : PV := .tup [.int p.1, p.2]
def sortPs (ps : List (Int × PV)) : List (Int × PV) := ps.mergeSort fun a b => decide (a.1 ≤ b.1)
/-- what a walk over a dict meets: its keys, its pairs, its values -/
def dIts (md : Nat) (kvs : List (L2.Key × PV)) : List PV := match md with
  | 0 => keysP kvs
  | 1 => kvs.map fun kv => .tup [keyPV kv.1, kv.2]
  | _ => kvs.map (·.2)
def mkD : List L2.Key → List PV → List (L2.Key × PV) → List (L2.Key × PV)
  | k :: ks, v :: vs, acc => mkD ks vs (putP acc k v)
  | _, _, acc => acc
/-- the list of what a walk meets -/
def Mo.its : Mo → List PV
  | .lst xs => xs
  | .frz xs => xs
  | .dct kvs => keysP kvs
  | .ins _ _ => []
  | .dctT _ => []
  | .dctF _ _ => []
def Mo.atQ : Mo → PV → (PV → Prop) → Prop
  | .lst xs, .int k, R => ∃ x, atPV xs k = some x ∧ R x
  | .frz xs, .int k, R => ∃ x, atPV xs k = some x ∧ R x
  | .dct kvs, w, R => ∃ k x, keyOf w = some k ∧ getP kvs k = some x ∧ R x
  | .dctF kvs _, w, R => ∃ k x, keyOf w = some k ∧ getP kvs k = some x ∧ R x
  | _, _, _ => False
def Mo.putQ : Mo → PV → PV → (Mo → Prop) → Prop
  | .lst xs, .int k, v, R => ∃ j, L2.ixN xs.length k = some j ∧ R (.lst (xs.set j v))
  | .dct kvs, w, v, R => ∃ k, keyOf w = some k ∧ kvs.length < sizeLine ∧ R (.dct (putP kvs k v))
  | _, _, _, _ => False
def isDQ : PV → Store → Prop
  | .ref i, S => ∃ kvs, S[i]? = some (.dct kvs)
  | _, _ => False
/-- a dict that may be written -/
def lockQ : PV → Store → (Nat → List (L2.Key × PV) → Prop) → Prop
  | .ref j, S, R => ∃ kvs, S[j]? = some (.dct kvs) ∧ R j kvs
  | _, _, _ => False
/-- a dict that is walked -/
def dkQ : PV → Store → (Nat → List (L2.Key × PV) → Obj × List (L2.Key × L2.V) → Prop) → Prop
  | .ref j, S, R => ∃ kvs g, S[j]? = some (.dctF kvs g) ∧ R j kvs g
  | _, _, _ => False
def dgetQ : PV → PV → Store → (Option PV → Prop) → Prop
  | .ref i, w, S, R => ∃ kvs k, S[i]? = some (.dct kvs) ∧ keyOf w = some k ∧ R (getP kvs k)
  | _, _, _, _ => False
/-- d[(k, ..)] -/
def tgetQ : PV → List PV → Store → (Option PV → Prop) → Prop
  | .ref i, ws, S, R => ∃ kvs k, S[i]? = some (.dctT kvs) ∧ keysT ws = some k ∧ R (getP kvs k)
  | _, _, _, _ => False
/-- d[(k, ..)] = v -/
def tputQ : PV → List PV → PV → Store → (Store → Prop) → Prop
  | .ref i, ws, v, S, R => ∃ kvs k, S[i]? = some (.dctT kvs) ∧ keysT ws = some k ∧ kvs.length < sizeLine ∧ R (S.set i (.dctT (putP kvs k v)))
  | _, _, _, _, _ => False
def dputQ : PV → PV → PV → Store → (Store → Prop) → Prop
  | .ref i, w, v, S, R => ∃ kvs k, S[i]? = some (.dct kvs) ∧ keyOf w = some k ∧ kvs.length < sizeLine ∧ R (S.set i (.dct (putP kvs k v)))
  | _, _, _, _, _ => False
def lookF : List (Str × PV) → Str → Option PV
  | [], _ => none
  | (g, v) :: r, f => if g = f then some v else lookF r f
def setF (f : Str) (v : PV) : List (Str × PV) → List (Str × PV)
  | [] => [(f, v)]
  | (g, w) :: r => if g = f then (g, v) :: r else (g, w) :: setF f v r
/-- o.f of an object of one of the classes xs -/
def fldQ (xs : List Str) (f : Str) : PV → Store → PQ → Prop
  | .ref i, S, Q => ∃ x fs v, S[i]? = some (.ins x fs) ∧ x ∈ xs ∧ lookF fs f = some v ∧ Q v S
  | _, _, _ => False
/-- o.f, with the class -/
def fldX (xs : List Str) (f : Str) : PV → Store → (Str → PV → Prop) → Prop
  | .ref i, S, R => ∃ x fs v, S[i]? = some (.ins x fs) ∧ x ∈ xs ∧ lookF fs f = some v ∧ R x v
  | _, _, _ => False
/-- o.f = v -/
def fputQ (xs : List Str) (f : Str) : PV → PV → Store → (Store → Prop) → Prop
  | .ref i, v, S, R => ∃ x fs, S[i]? = some (.ins x fs) ∧ x ∈ xs ∧ fs.length < 900 ∧ R (S.set i (.ins x (setF f v fs)))
  | _, _, _, _ => False
def lookM : List (Str × Nat) → Str → Option Nat
  | [], _ => none
  | (g, j) :: r, x => if g = x then some j else lookM r x
/-- the method m of an object, which has no field m -/
def objQ (tbl : List (Str × Nat)) (m : Str) : PV → Store → (Nat → Prop) → Prop
  | .ref i, S, R => ∃ x fs j, S[i]? = some (.ins x fs) ∧ lookF fs m = none ∧ lookM tbl x = some j ∧ R j
  | _, _, _ => False
def addQ : PV → PV → Store → PQ → Prop
  | .int i, .int j, S, Q => Q (.int (i + j)) S
  | .tup xs, .tup ys, S, Q => xs.length + ys.length ≤ sizeLine ∧ Q (.tup (xs ++ ys)) S
  | .str x, .str y, S, Q => x.length + y.length ≤ sizeLine ∧ Q (.str (x ++ y)) S
  | .ref i, .ref j, S, Q => ∃ xs ys, S[i]? = some (.lst xs) ∧ S[j]? = some (.lst ys) ∧ xs.length + ys.length ≤ sizeLine ∧ Q (.ref S.length) (S ++ [.lst (xs ++ ys)])
  | _, _, _, _ => False
def intQ (C : Int → Int → Prop) (f : Int → Int → PV) : PV → PV → Store → PQ → Prop
  | .int i, .int j, S, Q => C i j ∧ Q (f i j) S
  | _, _, _, _ => False
/-- ints; a tuple so many times -/
def mulQ : PV → PV → Store → PQ → Prop
  | .tup xs, .int k, S, Q => xs ≠ [] ∧ 2 ≤ k ∧ k ≤ 1000 ∧ xs.length ≤ 1000 ∧ Q (.tup (List.replicate k.toNat xs).flatten) S
  | .int i, .int j, S, Q => L2.CMul i j ∧ Q (.int (i * j)) S
  | _, _, _, _ => False
def binQ : BOp → PV → PV → Store → PQ → Prop
  | .add => addQ
  | .sub => intQ (fun _ _ => True) fun i j => .int (i - j)
  | .mul => mulQ
  | .fdiv => intQ L2.CDiv fun i j => .int (i / j)
  | .mod => intQ (fun _ j => 0 < j) fun i j => .int (i % j)
  | .pow => intQ L2.CPow fun i j => .int (i ^ j.toNat)
/-- v op= w, of ints -/
def augQ : BOp → PV → PV → Store → PQ → Prop
  | .add => intQ (fun _ _ => True) fun i j => .int (i + j)
  | .sub => intQ (fun _ _ => True) fun i j => .int (i - j)
  | _ => fun _ _ _ _ => False
/-- deep data; a list stands for what it holds -/
def dataV (S : Store) : PV → PyData
  | .ref r => match S[r]? with
    | some (.lst xs) => .list (PV.toDs xs)
    | _ => .dict []
  | v => v.toD
def eqOkD (S : Store) (v w : PV) : Prop := (dataV S v).canLay0 = true ∧ (dataV S w).canLay0 = true ∧ min (dataV S v).depth (dataV S w).depth ≤ 190
def eqOk (v w : PV) : Prop := v.toD.canLay0 = true ∧ w.toD.canLay0 = true ∧ min v.toD.depth w.toD.depth ≤ 190
def eqB (v w : PV) : Bool := PyData.eqv v.toD w.toD
def eqQ (f : Bool → Bool) : PV → PV → Store → PQ → Prop
  | .str x, .str y, S, Q => Q (.bl (f (decide (x = y)))) S
  | .int i, .int j, S, Q => Q (.bl (f (decide (i = j)))) S
  | .ref i, w, S, Q => eqOkD S (.ref i) w ∧ Q (.bl (f (PyData.eqv (dataV S (.ref i)) (dataV S w)))) S
  | v, .ref j, S, Q => eqOkD S v (.ref j) ∧ Q (.bl (f (PyData.eqv (dataV S v) (dataV S (.ref j))))) S
  | v, w, S, Q => eqOk v w ∧ Q (.bl (f (eqB v w))) S
def isQ (f : Bool → Bool) : PV → PV → Store → PQ → Prop
  | .bl a, .bl b, S, Q => Q (.bl (f (decide (a = b)))) S
  | .non, .non, S, Q => Q (.bl (f true)) S
  | .non, .bl _, S, Q => Q (.bl (f false)) S
  | .bl _, .non, S, Q => Q (.bl (f false)) S
  | .int _, .non, S, Q => Q (.bl (f false)) S
  | .str _, .non, S, Q => Q (.bl (f false)) S
  | .tup _, .non, S, Q => Q (.bl (f false)) S
  | .ref _, .non, S, Q => Q (.bl (f false)) S
  | .int _, .bl _, S, Q => Q (.bl (f false)) S
  | .str _, .bl _, S, Q => Q (.bl (f false)) S
  | .tup _, .bl _, S, Q => Q (.bl (f false)) S
  | .ref _, .bl _, S, Q => Q (.bl (f false)) S
  | _, _, _, _ => False
def flatP : PV → Bool
  | .non | .bl _ | .int _ | .str _ => true
  | _ => false
/-- x in a tuple, a list: of flat values -/
def eqF (v w : PV) : Bool := PyData.eqv v.toD w.toD
def inB (v : PV) (xs : List PV) : Bool := xs.any fun z => eqF z v
def inOk (v : PV) (xs : List PV) : Prop := flatP v = true ∧ xs.all flatP = true
def inOkD (v : PV) (xs : List PV) (S : Store) : Prop := (dataV S v).canLay0 = true ∧ PyData.canLayAll0 (PV.toDs xs) = true ∧ min (PyData.depthAll (PV.toDs xs)) (dataV S v).depth ≤ 180
def inBD (S : Store) (v : PV) (xs : List PV) : Bool := xs.any fun z => PyData.eqv z.toD (dataV S v)
def inAny (v : PV) (xs : List PV) (S : Store) (R : Bool → Prop) : Prop := (inOk v xs ∧ R (inB v xs)) ∨ (inOkD v xs S ∧ R (inBD S v xs))
def Mo.inQ (v : PV) (S : Store) : Mo → (Bool → Prop) → Prop
  | .lst xs, R => inAny v xs S R
  | .frz xs, R => inAny v xs S R
  | .dct kvs, R => ∃ k, keyOf v = some k ∧ R (getP kvs k).isSome
  | .ins _ _, _ => False
  | .dctT _, _ => False
  | .dctF kvs _, R => ∃ k, keyOf v = some k ∧ R (getP kvs k).isSome
def inQ (f : Bool → Bool) : PV → PV → Store → PQ → Prop
  | v, .tup xs, S, Q => inAny v xs S fun b => Q (.bl (f b)) S
  | v, .ref i, S, Q => ∃ o, S[i]? = some o ∧ o.inQ v S fun b => Q (.bl (f b)) S
  | _, _, _, _ => False
def tupI (p : List Int) : PV := .tup (p.map .int)
/-- <: ints, tuples of ints -/
def ltQ : PV → PV → Store → PQ → Prop
  | .int i, .int j, S, Q => Q (.bl (decide (i < j))) S
  | .tup xs, .tup ys, S, Q => ∃ ns ms : List Int, xs = ns.map .int ∧ ys = ms.map .int ∧ Q (.bl (decide (ns < ms))) S
  | _, _, _, _ => False
def cmpQ : COp → PV → PV → Store → PQ → Prop
  | .eq => eqQ fun b => b
  | .ne => eqQ fun b => !b
  | .lt => ltQ
  | .le => intQ (fun _ _ => True) fun i j => .bl (decide (i ≤ j))
  | .gt => intQ (fun _ _ => True) fun i j => .bl (decide (j < i))
  | .ge => intQ (fun _ _ => True) fun i j => .bl (decide (j ≤ i))
  | .is => isQ fun b => b
  | .isnot => isQ fun b => !b
  | .isin => inQ fun b => b
  | .notin => inQ fun b => !b
def truQ : PV → Store → (Bool → Prop) → Prop
  | .bl b, _, Q => Q b
  | .non, _, Q => Q false
  | .int i, _, Q => Q (i != 0)
  | .tup xs, _, Q => Q (!xs.isEmpty)
  | .str x, _, Q => x.length ≤ sizeLine ∧ Q ((x.length : Int) != 0)
  | .ref i, S, Q => ∃ o, S[i]? = some o ∧ o.sq = true ∧ Q (!o.items.isEmpty)
  | .fn _, _, _ => False
/-- the items of a list or a tuple -/
def seqQ : PV → Store → (List PV → Prop) → Prop
  | .tup xs, _, Q => Q xs
  | .ref i, S, Q => ∃ o, S[i]? = some o ∧ o.sq = true ∧ Q o.items
  | _, _, _ => False
def idxcQ (n : Nat) (v : PV) (S : Store) (Q : PQ) : Prop := seqQ v S fun xs => ∃ x, xs[n]? = some x ∧ Q x S
def idxQ : PV → PV → Store → PQ → Prop
  | .tup xs, .int k, S, Q => ∃ x, atPV xs k = some x ∧ Q x S
  | .ref i, w, S, Q => ∃ o, S[i]? = some o ∧ o.atQ w fun x => Q x S
  | .str z, .int k, S, Q => z.length ≤ sizeLine ∧ ∃ c, L2.atI z.cps.toList k = some c ∧ Q (.str ⟨#[c]⟩) S
  | _, _, _, _ => False
def sliceQ : PV → Option Int → Option Int → Store → PQ → Prop
  | .tup xs, lo, hi, S, Q => Q (.tup (cutPV xs lo hi)) S
  | .ref i, lo, hi, S, Q => ∃ o, S[i]? = some o ∧ o.sq = true ∧ Q (.ref S.length) (S ++ [.lst (cutPV o.items lo hi)])
  | _, _, _, _, _ => False
def Ty.b : Ty → PV → Store → (Bool → Prop) → Prop
  | .tInt, .int _, _, Q => Q true
  | .tInt, .bl _, _, Q => Q true
  | .tBool, .bl _, _, Q => Q true
  | .tStr, .str _, _, Q => Q true
  | .tTuple, .tup _, _, Q => Q true
  | t, .ref i, S, Q => ∃ o, S[i]? = some o ∧ o.sq = true ∧ Q (decide (t = .tList))
  | _, .fn _, _, _ => False
  | _, _, _, Q => Q false
def allBl : List PV → Option Bool
  | [] => some true
  | .bl b :: r => (allBl r).map (b && ·)
  | _ => none
def anyBl : List PV → Option Bool
  | [] => some false
  | .bl b :: r => (anyBl r).map (b || ·)
  | _ => none
def sumI : List PV → Option Int
  | [] => some 0
  | .int i :: r => (sumI r).map (i + ·)
  | _ => none
def intsP : List PV → Option (List Int)
  | [] => some []
  | .int i :: r => (intsP r).map (i :: ·)
  | _ => none
def insI (i : Int) : List Int → List Int
  | [] => [i]
  | j :: r => if i ≤ j then i :: j :: r else j :: insI i r
def sortI : List Int → List Int
  | [] => []
  | i :: r => insI i (sortI r)
/-- put into a strictly ascending list -/
def insU (i : Int) : List Int → List Int
  | [] => [i]
  | j :: r => if i < j then i :: j :: r else if i = j then j :: r else j :: insU i r
/-- ascending, each once -/
def sortU : List Int → List Int
  | [] => []
  | i :: r => insU i (sortU r)
def maxL : List Int → Option Int
  | [] => none
  | [i] => some i
  | i :: j :: r => (maxL (j :: r)).map fun m => if i < m then m else i
def minL : List Int → Option Int
  | [] => none
  | [i] => some i
  | i :: j :: r => (minL (j :: r)).map fun m => if m < i then m else i
def revQ : PV → Store → PQ → Prop
  | .tup xs, S, Q => Q (.tup xs.reverse) S
  | .ref i, S, Q => ∃ o, S[i]? = some o ∧ o.sq = true ∧ Q (.ref S.length) (S ++ [.lst o.items.reverse])
  | _, _, _ => False
def biQ : Bi → List PV → Store → PQ → Prop
  | .len, [.str x], S, Q => x.length ≤ sizeLine ∧ Q (.int (x.length : Nat)) S
  | .len, [.tup xs], S, Q => Q (.int (xs.length : Nat)) S
  | .len, [.ref i], S, Q => ∃ o, S[i]? = some o ∧ o.obj = false ∧ Q (.int (o.its.length : Nat)) S
  | .max2, [.int i, .int j], S, Q => Q (.int (if j > i then j else i)) S
  | .min2, [.int i, .int j], S, Q => Q (.int (if j < i then j else i)) S
  | .int1, [.int i], S, Q => Q (.int i) S
  | .int1, [.bl b], S, Q => Q (.int (if b then 1 else 0)) S
  | .list1, [.tup xs], S, Q => Q (.ref S.length) (S ++ [.lst xs])
  | .list1, [.ref i], S, Q => ∃ o, S[i]? = some o ∧ o.obj = false ∧ Q (.ref S.length) (S ++ [.lst o.its])
  | .tuple1, [v], S, Q => seqQ v S fun xs => Q (.tup xs) S
  | .all1, [.ref i], S, Q => ∃ o, S[i]? = some o ∧ o.sq = true ∧ ∃ b, allBl o.items = some b ∧ Q (.bl b) S
  | .any1, [.ref i], S, Q => ∃ o, S[i]? = some o ∧ o.sq = true ∧ ∃ b, anyBl o.items = some b ∧ Q (.bl b) S
  | .sum1, [.ref i], S, Q => ∃ o, S[i]? = some o ∧ o.sq = true ∧ ∃ n, sumI o.items = some n ∧ Q (.int n) S
  | .sorted1, [.ref i], S, Q => (∃ o, S[i]? = some o ∧ o.obj = false ∧ ∃ ns, intsP o.its = some ns ∧ (o.sq = true ∨ ns.length < 64) ∧ Q (.ref S.length) (S ++ [.lst ((sortI ns).map .int)])) ∨
    (∃ pss : List (List Int), S[i]? = some (.lst (pss.map tupI)) ∧ Q (.ref S.length) (S ++ [.lst ((pss.mergeSort fun x y => decide (x ≤ y)).map tupI)])) ∨
    ∃ ps : List (Int × PV), S[i]? = some (.lst (ps.map pairI)) ∧ (ps.map (·.1)).Nodup ∧ Q (.ref S.length) (S ++ [.lst ((sortPs ps).map pairI)])
  | .dict1, [.tup xs], S, Q => ∃ kvs, pairsP xs = some kvs ∧ Q (.ref S.length) (S ++ [.dct (mergeP [] kvs)])
  | .dict1, [.ref i], S, Q => ∃ kvs, S[i]? = some (.dct kvs) ∧ Q (.ref S.length) (S ++ [.dct kvs])
  | .max1, [.ref i], S, Q => ∃ o, S[i]? = some o ∧ o.sq = true ∧ ∃ ns m, intsP o.items = some ns ∧ maxL ns = some m ∧ Q (.int m) S
  | .min1, [.ref i], S, Q => ∃ o, S[i]? = some o ∧ o.sq = true ∧ ∃ ns m, intsP o.items = some ns ∧ minL ns = some m ∧ Q (.int m) S
  | .list0, [], S, Q => Q (.ref S.length) (S ++ [.lst []])
  | .tuple0, [], S, Q => Q (.tup []) S
  | _, _, _, _ => False
def mtQ : Mt → Nat → List PV → Store → PQ → Prop
  | .append, i, [v], S, Q => ∃ xs, S[i]? = some (.lst xs) ∧ xs.length < sizeLine ∧ Q .non (S.set i (.lst (xs ++ [v])))
  | .index, i, [v], S, Q => ∃ o, S[i]? = some o ∧ o.sq = true ∧ inOk v o.items ∧ ∃ j, o.items.findIdx? (fun z => eqF z v) = some j ∧ Q (.int (j : Nat)) S
  | .count, i, [v], S, Q => ∃ o, S[i]? = some o ∧ o.sq = true ∧ inOk v o.items ∧ Q (.int ((o.items.countP fun z => eqF z v : Nat))) S
  | .extend, i, [.ref j], S, Q => ∃ xs ys, S[i]? = some (.lst xs) ∧ S[j]? = some (.lst ys) ∧ xs.length + ys.length ≤ sizeLine ∧ Q .non (S.set i (.lst (xs ++ ys)))
  | .extend, i, [.tup ys], S, Q => ∃ xs, S[i]? = some (.lst xs) ∧ xs.length + ys.length ≤ sizeLine ∧ Q .non (S.set i (.lst (xs ++ ys)))
  | .pop, i, [], S, Q => ∃ xs y, S[i]? = some (.lst xs) ∧ xs[xs.length - 1]? = some y ∧ Q y (S.set i (.lst xs.dropLast))
  | _, _, _, _, _ => False
def enumL : Nat → List PV → List PV
  | _, [] => []
  | k, x :: xs => .tup [.int k, x] :: enumL (k + 1) xs
def zipL : List PV → List PV → List PV
  | x :: xs, y :: ys => .tup [x, y] :: zipL xs ys
  | _, _ => []
/-- the list object that is walked and must stay as it is -/
abbrev Src := List (Nat × Mo)
def srcOk : Src → Store → Prop
  | [], _ => True
  | (i, o) :: r, S => S[i]? = some o ∧ srcOk r S
def iterQ : PV → Store → (Src → List PV → Prop) → Prop
  | .tup xs, _, Q => Q [] xs
  | .ref i, S, Q => ∃ o, S[i]? = some o ∧ o.sq = true ∧ Q [(i, o)] o.items
  | _, _, _ => False
def zipQ : PV → PV → Store → (Src → List PV → Prop) → Prop
  | .tup xs, .tup ys, _, Q => Q [] (zipL xs ys)
  | .ref i, .ref j, S, Q => ∃ o u, S[i]? = some o ∧ S[j]? = some u ∧ o.sq = true ∧ u.sq = true ∧ Q [(i, o), (j, u)] (zipL o.items u.items)
  | _, _, _, _ => False
def enumQ : PV → Store → (Src → List PV → Prop) → Prop
  | .tup xs, _, Q => Q [] (enumL 0 xs)
  | .ref i, S, Q => ∃ o, S[i]? = some o ∧ o.sq = true ∧ Q [(i, o)] (enumL 0 o.items)
  | _, _, _ => False
def rngL (lo hi : Int) : List PV := (List.range (hi - lo).toNat).map fun (k : Nat) => .int (lo + k)
def rngOk (i : Int) : Prop := -(2 ^ 62) ≤ i ∧ i < 2 ^ 62
def setAll : List Nat → List PV → Env → Env
  | i :: is, v :: vs, ρ => setAll is vs (ρ.set i (some v))
  | _, _, ρ => ρ
def bindQ : Tg → PV → Env → Store → (Env → Prop) → Prop
  | .nm i, v, ρ, _, Q => Q (ρ.set i (some v))
  | .tp is, .tup vs, ρ, _, Q => vs.length = is.length ∧ Q (setAll is vs ρ)
  | .tp is, .ref r, ρ, S, Q => ∃ o, S[r]? = some o ∧ o.sq = true ∧ o.items.length = is.length ∧ Q (setAll is o.items ρ)
  | _, _, _, _, _ => False
def wipeP (ρ : Env) : List Nat → Env
  | [] => ρ
  | v :: vs => (wipeP ρ vs).set v none
def varQ (i : Nat) (ρ : Env) (Q : PV → Prop) : Prop :=
  match ρ[i]? with
  | some (some v) => Q v
  | _ => False
/-- a local that holds a def: which one -/
def fnQ : List (Str × Nat × List PV) → PV → (Nat → List PV → Prop) → Prop
  | [], _, _ => False
  | (y, j, ds) :: r, v, R => match v with
    | .fn x => if y = x then R j ds else fnQ r v R
    | _ => False
/-- the walk of a comprehension: d is the number of the list that it makes -/
def lcLoop (src : Src) (d : Nat) (turn : PV → Store → (Option PV → Store → Prop) → Prop) (Q : PQ) : List PV → Store → Prop
  | [], S => srcOk src S ∧ Q (.ref d) S
  | x :: xs, S => srcOk src S ∧ turn x S fun oy S' => match oy with
    | none => lcLoop src d turn Q xs S'
    | some y => ∃ acc, S'[d]? = some (.lst acc) ∧ acc.length < sizeLine ∧ lcLoop src d turn Q xs (S'.set d (.lst (acc ++ [y])))

/-- the walk of a dict's comprehension -/
def dcLoop (src : Src) (d : Nat) (turn : PV → Store → (Option (L2.Key × PV) → Store → Prop) → Prop) (Q : PQ) : List PV → Store → Prop
  | [], S => srcOk src S ∧ Q (.ref d) S
  | x :: xs, S => srcOk src S ∧ turn x S fun oy S' => match oy with
    | none => dcLoop src d turn Q xs S'
    | some (k, y) => ∃ kvs, S'[d]? = some (.dct kvs) ∧ kvs.length < sizeLine ∧ dcLoop src d turn Q xs (S'.set d (.dct (putP kvs k y)))

mutual
/-- the meaning of an expression -/
def wpE (Φ : Call) : IE → Env → Store → PQ → PX → Prop
  | .var i, ρ, S, Q, _ => varQ i ρ fun v => Q v S
  | .cst v, _, S, Q, _ => Q v S
  | .tup es, ρ, S, Q, E => wpEs Φ es ρ S (fun vs S1 => vs.length ≤ sizeLine ∧ Q (.tup vs) S1) E
  | .lst es, ρ, S, Q, E => wpEs Φ es ρ S (fun vs S1 => vs.length ≤ sizeLine ∧ Q (.ref S1.length) (S1 ++ [.lst vs])) E
  | .bin o a b, ρ, S, Q, E => wpE Φ a ρ S (fun v S1 => wpE Φ b ρ S1 (fun w S2 => binQ o v w S2 Q) E) E
  | .neg a, ρ, S, Q, E => wpE Φ a ρ S (fun v S1 => ∃ i, v = .int i ∧ Q (.int (-i)) S1) E
  | .cmp o a b, ρ, S, Q, E => wpE Φ a ρ S (fun v S1 => wpE Φ b ρ S1 (fun w S2 => cmpQ o v w S2 Q) E) E
  | .chain o p a b c, ρ, S, Q, E => wpE Φ a ρ S (fun v S1 => wpE Φ b ρ S1 (fun w S2 => cmpQ o v w S2 fun r S3 => ∃ k, r = .bl k ∧
      if k = true then wpE Φ c ρ S3 (fun z S4 => cmpQ p w z S4 Q) E else Q (.bl false) S3) E) E
  | .and a b, ρ, S, Q, E => wpE Φ a ρ S (fun v S1 => ∃ k, v = .bl k ∧ if k = true then wpE Φ b ρ S1 Q E else Q (.bl false) S1) E
  | .or a b, ρ, S, Q, E => wpE Φ a ρ S (fun v S1 => ∃ k, v = .bl k ∧ if k = true then Q (.bl true) S1 else wpE Φ b ρ S1 Q E) E
  | .not a, ρ, S, Q, E => wpE Φ a ρ S (fun v S1 => truQ v S1 fun k => Q (.bl (!k)) S1) E
  | .ifx t a b, ρ, S, Q, E => wpT Φ t ρ S (fun k S1 => if k = true then wpE Φ a ρ S1 Q E else wpE Φ b ρ S1 Q E) E
  | .idxc a n, ρ, S, Q, E => wpE Φ a ρ S (fun v S1 => idxcQ n v S1 Q) E
  | .idx a b, ρ, S, Q, E => wpE Φ a ρ S (fun v S1 => wpE Φ b ρ S1 (fun w S2 => idxQ v w S2 Q) E) E
  | .slice a lo hi, ρ, S, Q, E => wpE Φ a ρ S (fun v S1 => wpO Φ lo ρ S1 (fun l S2 => wpO Φ hi ρ S2 (fun h S3 => sliceQ v l h S3 Q) E) E) E
  | .call f es ds, ρ, S, Q, E => wpEs Φ es ρ S (fun vs S1 => Φ f (vs ++ ds) S1 Q E) E
  | .bi b es, ρ, S, Q, E => wpEs Φ es ρ S (fun vs S1 => biQ b vs S1 Q) E
  | .meth m a es, ρ, S, Q, E => wpE Φ a ρ S (fun v S1 => ∃ i o, v = .ref i ∧ S1[i]? = some o ∧ o.sq = true ∧ wpEs Φ es ρ S1 (fun vs S2 => mtQ m i vs S2 Q) E) E
  | .isin a t, ρ, S, Q, E => wpE Φ a ρ S (fun v S1 => t.b v S1 fun b => Q (.bl b) S1) E
  | .fld _, _, _, _, _ => False
  | .lc vs tg it ifs elt, ρ, S, Q, E => wpI Φ it ρ S (fun src items S1 =>
      lcLoop src S1.length (fun x S2 K => bindQ tg x (wipeP ρ vs) S2 fun ρ1 => wpTs Φ ifs ρ1 S2 (fun k S3 =>
        if k = true then wpE Φ elt ρ1 S3 (fun y S4 => K (some y) S4) (fun _ _ => False) else K none S3) (fun _ _ => False)) Q items (S1 ++ [.lst []])) E
  | .dc vs tg it ifs kx vx, ρ, S, Q, E => wpI Φ it ρ S (fun src items S1 =>
      dcLoop src S1.length (fun x S2 K => bindQ tg x (wipeP ρ vs) S2 fun ρ1 => wpTs Φ ifs ρ1 S2 (fun k S3 =>
        if k = true then wpE Φ kx ρ1 S3 (fun y S4 => wpE Φ vx ρ1 S4 (fun z S5 => ∃ kk, keyOf y = some kk ∧ K (some (kk, z)) S5) (fun _ _ => False)) (fun _ _ => False) else K none S3) (fun _ _ => False)) Q items (S1 ++ [.dct []])) E
  | .tupR a, ρ, S, Q, E => wpE Φ a ρ S (fun v S1 => ∃ i, v = .int i ∧ i ≤ 16777216 ∧ -16777216 ≤ i ∧ Q (.tup (rngL 0 i)) S1) E
  | .dct ks es, ρ, S, Q, E => wpEs Φ es ρ (S ++ [.dct []]) (fun vs S1 => S1[S.length]? = some (.dct []) ∧ vs.length = ks.length ∧ Q (.ref S.length) (S1.set S.length (.dct (mkD ks vs [])))) E
  | .get2 a b c, ρ, S, Q, E => wpE Φ a ρ S (fun v S1 => isDQ v S1 ∧ wpE Φ b ρ S1 (fun w S2 => wpE Φ c ρ S2 (fun d S3 => dgetQ v w S3 fun r => Q (r.getD d) S3) E) E) E
  | .rev a, ρ, S, Q, E => wpE Φ a ρ S (fun v S1 => revQ v S1 Q) E
  | .callV tbl i es, ρ, S, Q, E => varQ i ρ fun v => fnQ tbl v fun j ds => wpEs Φ es ρ S (fun vs S1 => Φ j (vs ++ ds) S1 Q E) E
  | .attr x f a, ρ, S, Q, E => wpE Φ a ρ S (fun v S1 => fldQ x f v S1 Q) E
  | .mcall tbl m a es, ρ, S, Q, E => wpE Φ a ρ S (fun v S1 => objQ tbl m v S1 fun j => wpEs Φ es ρ S1 (fun vs S2 => Φ j (v :: vs) S2 Q E) E) E
  | .make x j es, ρ, S, Q, E => wpEs Φ es ρ S (fun vs S1 => Φ (.mk j) (.ref S1.length :: vs) (S1 ++ [.ins x []]) (fun r S2 => r = .non ∧ Q (.ref S1.length) S2) E) E
  | .dctE, _, S, Q, _ => Q (.ref S.length) (S ++ [.dctT []])
  | .idxT a es, ρ, S, Q, E => wpE Φ a ρ S (fun v S1 => wpEs Φ es ρ S1 (fun ws S2 => ws.length ≤ sizeLine ∧ tgetQ v ws S2 fun r => ∃ x, r = some x ∧ Q x S2) E) E
  | .inT neg es a, ρ, S, Q, E => wpEs Φ es ρ S (fun ws S1 => ws.length ≤ sizeLine ∧ wpE Φ a ρ S1 (fun v S2 => tgetQ v ws S2 fun r => Q (.bl (if neg = true then !r.isSome else r.isSome)) S2) E) E
  | .lock i e, ρ, S, Q, E => varQ i ρ fun v => lockQ v S fun j kvs => ∀ g, wpE Φ e ρ (S.set j (.dctF kvs g)) (fun r S1 => S1[j]? = some (.dctF kvs g) ∧ Q r (S1.set j (.dct kvs))) E
  | .setd a k d, ρ, S, Q, E => wpE Φ a ρ S (fun v S1 => isDQ v S1 ∧ wpE Φ k ρ S1 (fun w S2 => wpE Φ d ρ S2 (fun z S3 => lockQ v S3 fun j kvs => ∃ kk, keyOf w = some kk ∧ kvs.length < sizeLine ∧
      (match getP kvs kk with | some x => Q x S3 | none => Q z (S3.set j (.dct (putP kvs kk z))))) E) E) E
  | .sortI i, ρ, S, Q, _ => varQ i ρ fun v => lockQ v S fun _ kvs => ∃ ps : List (Int × PV), kvs = ps.map (fun p => (.inl p.1, p.2)) ∧ Q (.ref S.length) (S ++ [.lst ((sortPs ps).map pairI)])
  | .sortS a, ρ, S, Q, E => wpE Φ a ρ S (fun v S1 => seqQ v S1 fun xs => ∃ ns, intsP xs = some ns ∧ ns.length < 64 ∧ Q (.ref S1.length) (S1 ++ [.lst ((sortU ns).map .int)])) E
  | .maxD a d, ρ, S, Q, E => wpE Φ a ρ S (fun v S1 => wpE Φ d ρ S1 (fun w S2 => ∃ i o ns, v = .ref i ∧ S2[i]? = some o ∧ o.sq = true ∧ intsP o.items = some ns ∧ (match maxL ns with | none => Q w S2 | some m => Q (.int m) S2)) E) E
/-- as a test -/
def wpT (Φ : Call) : IE → Env → Store → (Bool → Store → Prop) → PX → Prop
  | .and a b, ρ, S, Q, E => wpT Φ a ρ S (fun k S1 => if k = true then wpT Φ b ρ S1 Q E else Q false S1) E
  | .or a b, ρ, S, Q, E => wpT Φ a ρ S (fun k S1 => if k = true then Q true S1 else wpT Φ b ρ S1 Q E) E
  | .not a, ρ, S, Q, E => wpT Φ a ρ S (fun k S1 => Q (!k) S1) E
  | .var i, ρ, S, Q, _ => varQ i ρ fun v => truQ v S fun k => Q k S
  | .cst v, _, S, Q, _ => truQ v S fun k => Q k S
  | .cmp o a b, ρ, S, Q, E => wpE Φ a ρ S (fun v S1 => wpE Φ b ρ S1 (fun w S2 => cmpQ o v w S2 fun r S3 => ∃ k, r = .bl k ∧ Q k S3) E) E
  | .chain o p a b c, ρ, S, Q, E => wpE Φ a ρ S (fun v S1 => wpE Φ b ρ S1 (fun w S2 => cmpQ o v w S2 fun r S3 => ∃ k, r = .bl k ∧
      if k = true then wpE Φ c ρ S3 (fun z S4 => cmpQ p w z S4 fun r S5 => ∃ k, r = .bl k ∧ Q k S5) E else Q false S3) E) E
  | .idxc a n, ρ, S, Q, E => wpE Φ a ρ S (fun v S1 => idxcQ n v S1 fun r S2 => truQ r S2 fun k => Q k S2) E
  | .idx a b, ρ, S, Q, E => wpE Φ a ρ S (fun v S1 => wpE Φ b ρ S1 (fun w S2 => idxQ v w S2 fun r S3 => truQ r S3 fun k => Q k S3) E) E
  | .call f es ds, ρ, S, Q, E => wpEs Φ es ρ S (fun vs S1 => Φ f (vs ++ ds) S1 (fun r S2 => truQ r S2 fun k => Q k S2) E) E
  | .bi b es, ρ, S, Q, E => wpEs Φ es ρ S (fun vs S1 => biQ b vs S1 fun r S2 => truQ r S2 fun k => Q k S2) E
  | .callV tbl i es, ρ, S, Q, E => varQ i ρ fun v => fnQ tbl v fun j ds => wpEs Φ es ρ S (fun vs S1 => Φ j (vs ++ ds) S1 (fun r S2 => truQ r S2 fun k => Q k S2) E) E
  | .isin a t, ρ, S, Q, E => wpE Φ a ρ S (fun v S1 => t.b v S1 fun b => Q b S1) E
  | .idxT a es, ρ, S, Q, E => wpE Φ a ρ S (fun v S1 => wpEs Φ es ρ S1 (fun ws S2 => ws.length ≤ sizeLine ∧ tgetQ v ws S2 fun r => ∃ x, r = some x ∧ truQ x S2 fun k => Q k S2) E) E
  | .inT neg es a, ρ, S, Q, E => wpEs Φ es ρ S (fun ws S1 => ws.length ≤ sizeLine ∧ wpE Φ a ρ S1 (fun v S2 => tgetQ v ws S2 fun r => Q (if neg = true then !r.isSome else r.isSome) S2) E) E
  | .attr x f a, ρ, S, Q, E => wpE Φ a ρ S (fun v S1 => fldQ x f v S1 fun r S2 => truQ r S2 fun k => Q k S2) E
  | .mcall tbl m a es, ρ, S, Q, E => wpE Φ a ρ S (fun v S1 => objQ tbl m v S1 fun j => wpEs Φ es ρ S1 (fun vs S2 => Φ j (v :: vs) S2 (fun r S3 => truQ r S3 fun k => Q k S3) E) E) E
  | _, _, _, _, _ => False
/-- several tests, one after another (a comprehension's) -/
def wpTs (Φ : Call) : IEs → Env → Store → (Bool → Store → Prop) → PX → Prop
  | .nil, _, S, Q, _ => Q true S
  | .cons e es, ρ, S, Q, E => wpT Φ e ρ S (fun k S1 => if k = true then wpTs Φ es ρ S1 Q E else Q false S1) E
def wpEs (Φ : Call) : IEs → Env → Store → (List PV → Store → Prop) → PX → Prop
  | .nil, _, S, Q, _ => Q [] S
  | .cons e es, ρ, S, Q, E => wpE Φ e ρ S (fun v S1 => wpEs Φ es ρ S1 (fun vs S2 => Q (v :: vs) S2) E) E
def wpO (Φ : Call) : IOp → Env → Store → (Option Int → Store → Prop) → PX → Prop
  | .no, _, S, Q, _ => Q none S
  | .so e, ρ, S, Q, E => wpE Φ e ρ S (fun v S1 => ∃ i, v = .int i ∧ Q (some i) S1) E
def wpI (Φ : Call) : II → Env → Store → (Src → List PV → Store → Prop) → PX → Prop
  | .val a, ρ, S, Q, E => wpE Φ a ρ S (fun v S1 => iterQ v S1 fun src xs => Q src xs S1) E
  | .rng1 a, ρ, S, Q, E => wpE Φ a ρ S (fun v S1 => ∃ i, v = .int i ∧ rngOk i ∧ Q [] (rngL 0 i) S1) E
  | .rng2 a b, ρ, S, Q, E => wpE Φ a ρ S (fun v S1 => wpE Φ b ρ S1 (fun w S2 => ∃ i j, v = .int i ∧ w = .int j ∧ rngOk i ∧ rngOk j ∧ Q [] (rngL i j) S2) E) E
  | .enum a, ρ, S, Q, E => wpE Φ a ρ S (fun v S1 => enumQ v S1 fun src xs => Q src xs S1) E
  | .zip a b, ρ, S, Q, E => wpE Φ a ρ S (fun v S1 => wpE Φ b ρ S1 (fun w S2 => zipQ v w S2 fun src xs => Q src xs S2) E) E
  | .dk md i, ρ, S, Q, _ => varQ i ρ fun v => dkQ v S fun j kvs g => Q [(j, .dctF kvs g)] (dIts md kvs) S
end

/-! ### statements -/
inductive Ta where
  | nm (i : Nat) | tp (is : List Nat) | sub (o k : IE)
/-- steps of an except suite: a name gets the exception's field, a constant; the field, a constant is handed back -/
inductive HS where
  | setF (j : Nat) | setC (j : Nat) (v : PV) | retF | retC (v : PV) | pass | setL (j : Nat) (xs : List (Option PV)) | appF (j : Nat) | setK (j : Nat) (t : List (Nat × Str))
mutual
inductive IS where
  | pass | brk | cont
  | expr (e : IE)
  | asg (t : Ta) (e : IE)
  | aug (i : Nat) (o : BOp) (e : IE)
  | augD (d k : IE) (o : BOp) (e : IE)
  | setA (xs : List Str) (f : Str) (o e : IE)
  | setT (d : IE) (ks : IEs) (e : IE)
  | augA (xs : List Str) (f : Str) (op : BOp) (o e : IE)
  | ret (e : IE)
  | retN
  | ifs (t : IE) (a b : ISs)
  | whl (t : IE) (b : ISs)
  | for_ (tg : Tg) (it : II) (b : ISs)
  | raise (c : Nat)
  | raiseF (c : Nat) (e : IE)
  | tryE (b : ISs) (c : Nat) (i : Option Nat) (h : List HS)
  | lock (i : Nat) (s : IS)
inductive ISs where
  | nil | cons (s : IS) (r : ISs)
end
structure PD where
  nx : Env → Store → Prop
  rt : PV → Store → Prop
  bk : Env → Store → Prop := fun _ _ => False
  ct : Env → Store → Prop := fun _ _ => False
/-- the walked dict may be written again -/
def PD.unl (j : Nat) (kvs : List (L2.Key × PV)) (g : Obj × List (L2.Key × L2.V)) (D : PD) : PD where
  nx := fun ρ S => S[j]? = some (.dctF kvs g) ∧ D.nx ρ (S.set j (.dct kvs))
  rt := fun v S => S[j]? = some (.dctF kvs g) ∧ D.rt v (S.set j (.dct kvs))
  bk := fun ρ S => S[j]? = some (.dctF kvs g) ∧ D.bk ρ (S.set j (.dct kvs))
  ct := fun ρ S => S[j]? = some (.dctF kvs g) ∧ D.ct ρ (S.set j (.dct kvs))
def asgQ : PV → PV → PV → Store → (Store → Prop) → Prop
  | .ref i, w, v, S, Q => ∃ o, S[i]? = some o ∧ o.putQ w v fun o' => Q (S.set i o')
  | _, _, _, _, _ => False
def wpG (Φ : Call) (t : Ta) (v : PV) (ρ : Env) (S : Store) (Q : Env → Store → Prop) (E : PX) : Prop :=
  match t with
  | .nm i => Q (ρ.set i (some v)) S
  | .tp is => bindQ (.tp is) v ρ S fun ρ1 => Q ρ1 S
  | .sub o k => wpE Φ o ρ S (fun a S1 => wpE Φ k ρ S1 (fun b S2 => asgQ a b v S2 fun S3 => Q ρ S3) E) E
def whileN (t : Env → Store → (Bool → Store → Prop) → Prop) (b : Env → Store → (Env → Store → Prop) → Prop) (Q : Env → Store → Prop) : Nat → Env → Store → Prop
  | 0, _, _ => False
  | n + 1, ρ, S => t ρ S fun k S1 => if k = true then b ρ S1 (whileN t b Q n) else Q ρ S1
def forL (src : Src) (turn : PV → Env → Store → (Env → Store → Prop) → Prop) (Q : Env → Store → Prop) : List PV → Env → Store → Prop
  | [], ρ, S => srcOk src S ∧ Q ρ S
  | x :: xs, ρ, S => srcOk src S ∧ turn x ρ S (forL src turn Q xs)
/-- does an except clause of class c take an exception of class d: by the law's table -/
structure Tab where
  catches : Nat → Nat → Bool
/-- an except suite: the clause's class is c, its name stands in slot i -/
def wpH (c : Nat) (i : Option Nat) (x : PEx) : List HS → Env → Store → PD → Prop
  | [], ρ, S, D => D.nx ρ S
  | .setF j :: r, ρ, S, D => x.cls = c ∧ i.getD 0 < ρ.length ∧ ∃ v, x.fld = some v ∧ wpH c i x r (ρ.set j (some v)) S D
  | .setC j v :: r, ρ, S, D => wpH c i x r (ρ.set j (some v)) S D
  | .retF :: _, ρ, S, D => x.cls = c ∧ i.getD 0 < ρ.length ∧ ∃ v, x.fld = some v ∧ D.rt v S
  | .retC v :: _, _, S, D => D.rt v S
  | .pass :: r, ρ, S, D => wpH c i x r ρ S D
  | .setL j xs :: r, ρ, S, D => x.cls = c ∧ i.getD 0 < ρ.length ∧ ∃ v, x.fld = some v ∧ xs.length ≤ sizeLine ∧ wpH c i x r (ρ.set j (some (.ref S.length))) (S ++ [.lst (xs.map fun o => o.getD v)]) D
  | .appF j :: r, ρ, S, D => x.cls = c ∧ i.getD 0 < ρ.length ∧ ∃ v, x.fld = some v ∧ varQ j ρ fun w => ∃ k zs, w = .ref k ∧ S[k]? = some (.lst zs) ∧ zs.length < sizeLine ∧ wpH c i x r ρ (S.set k (.lst (zs ++ [v]))) D
  | .setK j t :: r, ρ, S, D => i.getD 0 < ρ.length ∧ x.fld = none ∧ ∃ z, t.lookup x.cls = some z ∧ wpH c i x r (ρ.set j (some (.str z))) S D
def unset (i : Option Nat) (ρ : Env) : Env := match i with
  | some i => ρ.set i none
  | none => ρ
mutual
def wpS (Φ : Call) (T : Tab) : IS → Env → Store → PD → PEX → Prop
  | .pass, ρ, S, D, _ => D.nx ρ S
  | .brk, ρ, S, D, _ => D.bk ρ S
  | .cont, ρ, S, D, _ => D.ct ρ S
  | .expr e, ρ, S, D, E => wpE Φ e ρ S (fun _ S1 => D.nx ρ S1) fun x S1 => E x ρ S1
  | .asg t e, ρ, S, D, E => wpE Φ e ρ S (fun v S1 => wpG Φ t v ρ S1 D.nx fun x S1 => E x ρ S1) fun x S1 => E x ρ S1
  | .aug i o e, ρ, S, D, E => varQ i ρ fun v => wpE Φ e ρ S (fun w S1 => augQ o v w S1 fun z S2 => D.nx (ρ.set i (some z)) S2) fun x S1 => E x ρ S1
  | .augD d k o e, ρ, S, D, E => wpE Φ d ρ S (fun v S1 => wpE Φ k ρ S1 (fun w S2 => dgetQ v w S2 fun r => ∃ x, r = some x ∧ wpE Φ e ρ S2 (fun y S3 => augQ o x y S3 fun z S4 => dputQ v w z S4 fun S5 => D.nx ρ S5) fun x S1 => E x ρ S1)
      fun x S1 => E x ρ S1) fun x S1 => E x ρ S1
  | .setT d ks e, ρ, S, D, E => wpE Φ e ρ S (fun v S1 => wpE Φ d ρ S1 (fun w S2 => wpEs Φ ks ρ S2 (fun ws S3 => ws.length ≤ sizeLine ∧ tputQ w ws v S3 fun S4 => D.nx ρ S4) fun x S1 => E x ρ S1) fun x S1 => E x ρ S1) fun x S1 => E x ρ S1
  | .setA x f o e, ρ, S, D, E => wpE Φ e ρ S (fun v S1 => wpE Φ o ρ S1 (fun w S2 => fputQ x f w v S2 fun S3 => D.nx ρ S3) fun x S1 => E x ρ S1) fun x S1 => E x ρ S1
  | .augA x f op o e, ρ, S, D, E => wpE Φ o ρ S (fun w S1 => fldX x f w S1 fun c r => wpE Φ e ρ S1 (fun y S3 => augQ op r y S3 fun z S4 => fputQ [c] f w z S4 fun S5 => D.nx ρ S5) fun x S1 => E x ρ S1) fun x S1 => E x ρ S1
  | .ret e, ρ, S, D, E => wpE Φ e ρ S D.rt fun x S1 => E x ρ S1
  | .retN, _, S, D, _ => D.rt .non S
  | .ifs t a b, ρ, S, D, E => wpT Φ t ρ S (fun k S1 => if k = true then wpSs Φ T a ρ S1 D E else wpSs Φ T b ρ S1 D E) fun x S1 => E x ρ S1
  | .whl t b, ρ, S, D, E => ∃ n, whileN (fun ρ S K => wpT Φ t ρ S K fun x S1 => E x ρ S1) (fun ρ S N => wpSs Φ T b ρ S { D with nx := N, ct := N, bk := D.nx } E) D.nx n ρ S
  | .for_ tg it b, ρ, S, D, E => wpI Φ it ρ S (fun src items S1 =>
      forL src (fun x ρ S N => bindQ tg x ρ S fun ρ1 => wpSs Φ T b ρ1 S { D with nx := N, ct := N, bk := D.nx } E) D.nx items ρ S1) fun x S1 => E x ρ S1
  | .raise c, ρ, S, _, E => E ⟨c, none⟩ ρ S
  | .raiseF c e, ρ, S, _, E => wpE Φ e ρ S (fun v S1 => E ⟨c, some v⟩ ρ S1) fun x S1 => E x ρ S1
  | .tryE b c i h, ρ, S, D, E => wpSs Φ T b ρ S D fun x ρ1 S1 => if T.catches c x.cls = true then wpH c i x h (unset i ρ1) S1 { nx := fun ρ2 S2 => D.nx (unset i ρ2) S2, rt := D.rt, bk := fun ρ2 S2 => D.bk (unset i ρ2) S2, ct := fun ρ2 S2 => D.ct (unset i ρ2) S2 } else E x ρ1 S1
  | .lock i s, ρ, S, D, E => varQ i ρ fun v => lockQ v S fun j kvs => ∀ g, wpS Φ T s ρ (S.set j (.dctF kvs g)) (D.unl j kvs g) E
def wpSs (Φ : Call) (T : Tab) : ISs → Env → Store → PD → PEX → Prop
  | .nil, ρ, S, D, _ => D.nx ρ S
  | .cons s .nil, ρ, S, D, E => wpS Φ T s ρ S D E
  | .cons s (.cons s2 r), ρ, S, D, E => wpS Φ T s ρ S { D with nx := fun ρ1 S1 => wpSs Φ T (.cons s2 r) ρ1 S1 D E } E
end
end Pv
set_option Elab.async false
set_option linter.all false
set_option maxRecDepth 100000
/-! Pv2: how pure values and stores lie in the abstract heap of the hand layer. -/
namespace Pv
open PySem L2

/-- a tuple that is an object with no fields of its own -/
def PlT (K : PySem.W.Frag) (H : Hp) (a : Addr) (xs : List V) : Prop :=
  (∃ o : Obj, H a = some (.frz o (.tup xs)) ∧ o.dict = none) ∨
    ∃ (o : Obj) (its : Array Value) (n : Nat), K.lookup a = some o ∧ o.cls = .type "tuple" ∧ o.dict = none ∧ o.data = .seq its n ∧ its.size ≤ sizeLine ∧ Vals xs its.toList
theorem PlT.sq {K : PySem.W.Frag} {H : Hp} {a : Addr} {xs : List V} (h : PlT K H a xs) : SqT K H a xs := by
  rcases h with ⟨o, h, _⟩ | ⟨o, its, n, h1, h2, _, h3⟩
  · exact .inl (.inr ⟨o, h⟩)
  · exact .inr ⟨o, its, n, h1, h2, h3⟩
theorem PlT.of {K : PySem.W.Frag} {H : Hp} {a : Addr} {xs : List V} {o : Obj} (h : H a = some (.frz o (.tup xs))) (d : o.dict = none) : PlT K H a xs := .inl ⟨o, h, d⟩
mutual
inductive RepV (K : PySem.W.Frag) (H : Hp) (m : List Addr) : V → PV → Prop
  | non : RepV K H m .non .non
  | bl (b : Bool) : RepV K H m (.bl b) (.bl b)
  | int (i : Int) : RepV K H m (.int i) (.int i)
  | str (x : Str) : RepV K H m (.str x) (.str x)
  | tup {a : Addr} {xs : List V} {vs : List PV} : PlT K H a xs → RepL K H m xs vs → RepV K H m (.ref a) (.tup vs)
  | ref {a : Addr} {i : Nat} : m[i]? = some a → RepV K H m (.ref a) (.ref i)
  | fn {a : Addr} {x : Str} : PySem.W.nsIn K mainGlobals x = some (some (.ref a)) → RepV K H m (.ref a) (.fn x)
inductive RepL (K : PySem.W.Frag) (H : Hp) (m : List Addr) : List V → List PV → Prop
  | nil : RepL K H m [] []
  | cons {x : V} {xs : List V} {v : PV} {vs : List PV} : RepV K H m x v → RepL K H m xs vs → RepL K H m (x :: xs) (v :: vs)
end

inductive RepD {κ : Type} (K : PySem.W.Frag) (H : Hp) (m : List Addr) : List (κ × V) → List (κ × PV) → Prop
  | nil : RepD K H m [] []
  | cons {k : κ} {x : V} {v : PV} {xs : List (κ × V)} {vs : List (κ × PV)} : RepV K H m x v → RepD K H m xs vs → RepD K H m ((k, x) :: xs) ((k, v) :: vs)
inductive RepF (K : PySem.W.Frag) (H : Hp) (m : List Addr) : List (Str × V) → List (Str × PV) → Prop
  | nil : RepF K H m [] []
  | cons {k : Str} {x : V} {v : PV} {xs : List (Str × V)} {vs : List (Str × PV)} : RepV K H m x v → RepF K H m xs vs → RepF K H m ((k, x) :: xs) ((k, v) :: vs)
/-- a list of the module -/
def KL (K : PySem.W.Frag) (a : Addr) (xs : List V) : Prop :=
  ∃ (o : Obj) (its : Array Value) (n : Nat), K.lookup a = some o ∧ o.cls = .type "list" ∧ o.dict = none ∧ o.data = .seq its n ∧ its.size ≤ sizeLine ∧ Vals xs its.toList
def RepO (K : PySem.W.Frag) (H : Hp) (m : List Addr) (a : Addr) : Mo → Prop
  | .lst vs => ∃ xs, H a = some (.lst xs) ∧ RepL K H m xs vs
  | .frz vs => ∃ xs, ((∃ o, H a = some (.frz o (.lst xs))) ∨ KL K a xs) ∧ RepL K H m xs vs
  | .dct vs => ∃ xs, H a = some (.dK xs) ∧ RepD K H m xs vs
  | .dctT vs => ∃ xs, H a = some (.dT xs) ∧ RepD K H m xs vs
  | .dctF vs g => H a = some (.frz g.1 (.dK g.2)) ∧ RepD K H m g.2 vs
  | .ins x fs => ∃ C dx xs, PySem.W.nsIn K mainGlobals x = some (some (.ref C)) ∧ H a = some (.ins C dx xs) ∧ RepF K H m xs fs
/-- what may be written -/
inductive MutO : HO → Prop
  | lst (xs : List V) : MutO (.lst xs)
  | dK (xs : List (Key × V)) : MutO (.dK xs)
  | dT (xs : List (List Key × V)) : MutO (.dT xs)
  | dF (o : Obj) (xs : List (Key × V)) : MutO (.frz o (.dK xs))
  | ins (C dx : Addr) (fs : List (Str × V)) : MutO (.ins C dx fs)
structure RlS (K : PySem.W.Frag) (m : List Addr) (H : Hp) (S : Store) : Prop where
  len : m.length = S.length
  obj : ∀ (i : Nat) (o : Mo), S[i]? = some o → ∃ a, m[i]? = some a ∧ RepO K H m a o
  inj : ∀ (i j : Nat) (a : Addr) (o u : Mo), m[i]? = some a → m[j]? = some a → S[i]? = some o → S[j]? = some u → o.mut = true → u.mut = true → i = j
def RlE (K : PySem.W.Frag) (m : List Addr) (H : Hp) (σ : St) (ρ : Env) : Prop :=
  σ.length = ρ.length ∧ ∀ (i : Nat) (v : PV), ρ[i]? = some (some v) → ∃ x, σ[i]? = some (some x) ∧ RepV K H m x v
structure Ext (K : PySem.W.Frag) (m : List Addr) (H : Hp) (m' : List Addr) (H' : Hp) : Prop where
  pre : ∃ r, m' = m ++ r
  tup : ∀ a xs, PlT K H a xs → PlT K H' a xs
  sqt : ∀ a xs, SqT K H a xs → SqT K H' a xs

section
variable {K : PySem.W.Frag} {m m' m2 : List Addr} {H H' H2 : Hp} {S : Store} {σ : St} {ρ : Env}
theorem Ext.refl : Ext K m H m H := ⟨⟨[], by simp⟩, fun _ _ h => h, fun _ _ h => h⟩
theorem Ext.trans (a : Ext K m H m' H') (b : Ext K m' H' m2 H2) : Ext K m H m2 H2 := by
  obtain ⟨r, e⟩ := a.pre
  obtain ⟨r2, e2⟩ := b.pre
  exact ⟨⟨r ++ r2, by rw [e2, e, List.append_assoc]⟩, fun x xs h => b.tup _ _ (a.tup _ _ h), fun x xs h => b.sqt _ _ (a.sqt _ _ h)⟩
theorem Ext.at (e : Ext K m H m' H') {i : Nat} {a : Addr} (h : m[i]? = some a) : m'[i]? = some a := by
  obtain ⟨r, e⟩ := e.pre
  rw [e, List.getElem?_append_left (List.getElem?_eq_some_iff.mp h).1]
  exact h
mutual
theorem RepV.ext (e : Ext K m H m' H') : ∀ (pv : PV) (v : V), RepV K H m v pv → RepV K H' m' v pv
  | .non, _, h => by cases h; exact .non
  | .bl b, _, h => by cases h; exact .bl b
  | .int i, _, h => by cases h; exact .int i
  | .str x, _, h => by cases h; exact .str x
  | .tup vs, _, h => by cases h with | tup h1 h2 => exact .tup (e.tup _ _ h1) (RepL.ext e vs _ h2)
  | .ref i, _, h => by cases h with | ref h1 => exact .ref (e.at h1)
  | .fn x, _, h => by cases h with | fn h1 => exact .fn h1
theorem RepL.ext (e : Ext K m H m' H') : ∀ (pvs : List PV) (vs : List V), RepL K H m vs pvs → RepL K H' m' vs pvs
  | [], _, h => by cases h; exact .nil
  | v :: vs, _, h => by cases h with | cons h1 h2 => exact .cons (RepV.ext e v _ h1) (RepL.ext e vs _ h2)
end
mutual
theorem RepV.under : ∀ (pv : PV) (v : V), RepV K H m v pv → pv.under m.length = true
  | .non, _, h => by simp [PV.under]
  | .bl b, _, h => by simp [PV.under]
  | .int i, _, h => by simp [PV.under]
  | .str x, _, h => by simp [PV.under]
  | .tup vs, _, h => by cases h with | tup h1 h2 => simpa [PV.under] using RepL.under vs _ h2
  | .ref i, _, h => by cases h with | ref h1 => simpa [PV.under] using (List.getElem?_eq_some_iff.mp h1).1
  | .fn x, _, h => by simp [PV.under]
theorem RepL.under : ∀ (pvs : List PV) (vs : List V), RepL K H m vs pvs → PV.underL m.length pvs = true
  | [], _, h => by simp [PV.underL]
  | v :: vs, _, h => by
    cases h with
    | cons h1 h2 => simp [PV.underL, RepV.under v _ h1, RepL.under vs _ h2]
end
mutual
theorem RepV.cut {n : Nat} : ∀ (pv : PV) (v : V), RepV K H m v pv → pv.under n = true → RepV K H (m.take n) v pv
  | .non, _, h, _ => by cases h; exact .non
  | .bl b, _, h, _ => by cases h; exact .bl b
  | .int i, _, h, _ => by cases h; exact .int i
  | .str x, _, h, _ => by cases h; exact .str x
  | .tup vs, _, h, u => by cases h with | tup h1 h2 => exact .tup h1 (RepL.cut vs _ h2 (by simpa [PV.under] using u))
  | .ref i, _, h, u => by
    cases h with
    | ref h1 =>
      refine .ref ?_
      have hi : i < n := by simpa [PV.under] using u
      rw [List.getElem?_take, if_pos hi]
      exact h1
  | .fn x, _, h, _ => by cases h with | fn h1 => exact .fn h1
theorem RepL.cut {n : Nat} : ∀ (pvs : List PV) (vs : List V), RepL K H m vs pvs → PV.underL n pvs = true → RepL K H (m.take n) vs pvs
  | [], _, h, _ => by cases h; exact .nil
  | v :: vs, _, h, u => by
    cases h with
    | cons h1 h2 =>
      have u' : v.under n = true ∧ PV.underL n vs = true := by simpa [PV.underL] using u
      exact .cons (RepV.cut v _ h1 u'.1) (RepL.cut vs _ h2 u'.2)
end
theorem RepD.ext {κ : Type} (e : Ext K m H m' H') : ∀ {xs : List (κ × V)} {vs : List (κ × PV)}, RepD K H m xs vs → RepD K H' m' xs vs
  | _, _, .nil => .nil
  | _, _, .cons h t => .cons (RepV.ext e _ _ h) (RepD.ext e t)
theorem RepD.under {κ : Type} : ∀ {xs : List (κ × V)} {vs : List (κ × PV)}, RepD K H m xs vs → PV.underL m.length (vs.map (·.2)) = true
  | _, _, .nil => by simp [PV.underL]
  | _, _, .cons h t => by simp only [List.map_cons, PV.underL, Bool.and_eq_true]; exact ⟨RepV.under _ _ h, RepD.under t⟩
theorem RepD.cut {κ : Type} {n : Nat} : ∀ {xs : List (κ × V)} {vs : List (κ × PV)}, RepD K H m xs vs → PV.underL n (vs.map (·.2)) = true → RepD K H (m.take n) xs vs
  | _, _, .nil, _ => .nil
  | _, _, .cons h t, w => by
    simp only [List.map_cons, PV.underL, Bool.and_eq_true] at w
    exact .cons (RepV.cut _ _ h w.1) (RepD.cut t w.2)
theorem RepF.ext (e : Ext K m H m' H') : ∀ {xs : List (Str × V)} {vs : List (Str × PV)}, RepF K H m xs vs → RepF K H' m' xs vs
  | _, _, .nil => .nil
  | _, _, .cons h t => .cons (RepV.ext e _ _ h) (RepF.ext e t)
theorem RepF.under : ∀ {xs : List (Str × V)} {vs : List (Str × PV)}, RepF K H m xs vs → PV.underL m.length (vs.map (·.2)) = true
  | _, _, .nil => by simp [PV.underL]
  | _, _, .cons h t => by simp only [List.map_cons, PV.underL, Bool.and_eq_true]; exact ⟨RepV.under _ _ h, RepF.under t⟩
theorem RepF.cut {n : Nat} : ∀ {xs : List (Str × V)} {vs : List (Str × PV)}, RepF K H m xs vs → PV.underL n (vs.map (·.2)) = true → RepF K H (m.take n) xs vs
  | _, _, .nil, _ => .nil
  | _, _, .cons h t, w => by
    simp only [List.map_cons, PV.underL, Bool.and_eq_true] at w
    exact .cons (RepV.cut _ _ h w.1) (RepF.cut t w.2)
theorem RepF.len : ∀ {xs : List (Str × V)} {vs : List (Str × PV)}, RepF K H m xs vs → xs.length = vs.length
  | _, _, .nil => rfl
  | _, _, .cons _ t => by simp [RepF.len t]
theorem RepF.none {f : Str} : ∀ {xs : List (Str × V)} {vs : List (Str × PV)}, RepF K H m xs vs → lookF vs f = none → xs.lookup f = none
  | _, _, .nil, _ => rfl
  | _, _, .cons (k := g) h t, q => by
    by_cases e : g = f
    · simp [lookF, e] at q
    · simp only [lookF, if_neg e] at q
      rw [List.lookup_cons]
      have : (f == g) = false := by simpa using fun z => e z.symm
      rw [this]
      exact RepF.none t q
theorem RepF.some {f : Str} {v : PV} : ∀ {xs : List (Str × V)} {vs : List (Str × PV)}, RepF K H m xs vs → lookF vs f = some v → ∃ x, xs.lookup f = some x ∧ RepV K H m x v
  | _, _, .cons (k := g) (x := x) h t, q => by
    by_cases e : g = f
    · subst e
      simp [lookF] at q
      subst q
      exact ⟨x, by simp [List.lookup_cons], h⟩
    · simp only [lookF, if_neg e] at q
      rw [List.lookup_cons]
      have : (f == g) = false := by simpa using fun z => e z.symm
      rw [this]
      exact RepF.some t q
theorem RepD.get {κ : Type} [DecidableEq κ] {k : κ} : ∀ {xs : List (κ × V)} {vs : List (κ × PV)}, RepD K H m xs vs → (getP vs k = none ∧ valV xs k = none) ∨ ∃ v x, getP vs k = some v ∧ valV xs k = some x ∧ RepV K H m x v
  | _, _, .nil => .inl ⟨rfl, rfl⟩
  | _, _, .cons (k := j) h t => by
    by_cases e : j = k
    · exact .inr ⟨_, _, by simp [getP, e], valV_pos e, h⟩
    · rcases RepD.get (k := k) t with ⟨h1, h2⟩ | ⟨v, x, h1, h2, h3⟩
      · exact .inl ⟨by simp [getP, e, h1], by rw [valV_neg e]; exact h2⟩
      · exact .inr ⟨v, x, by simp [getP, e, h1], by rw [valV_neg e]; exact h2, h3⟩
theorem RepD.setK {κ : Type} [DecidableEq κ] {k : κ} {y : V} {w : PV} (h : RepV K H m y w) : ∀ {xs : List (κ × V)} {vs : List (κ × PV)}, RepD K H m xs vs → RepD K H m (xs.map fun kv => if kv.1 = k then (kv.1, y) else kv) (setP k w vs)
  | _, _, .nil => .nil
  | _, _, .cons (k := j) q t => by
    by_cases e : j = k
    · simp only [List.map_cons, e, if_true, setP]
      exact .cons h (RepD.setK h t)
    · simp only [List.map_cons, e, if_false, setP]
      exact .cons q (RepD.setK h t)
theorem RepD.snoc {κ : Type} [DecidableEq κ] {k : κ} {y : V} {w : PV} (h : RepV K H m y w) : ∀ {xs : List (κ × V)} {vs : List (κ × PV)}, RepD K H m xs vs → RepD K H m (xs ++ [(k, y)]) (vs ++ [(k, w)])
  | _, _, .nil => .cons h .nil
  | _, _, .cons q t => .cons q (RepD.snoc h t)
theorem RepD.put {κ : Type} [DecidableEq κ] {k : κ} {y : V} {w : PV} (h : RepV K H m y w) {xs : List (κ × V)} {vs : List (κ × PV)} (r : RepD K H m xs vs) : RepD K H m (putK xs k y) (putP vs k w) := by
  unfold putK putP
  rw [valV_any]
  rcases RepD.get (k := k) r with ⟨h1, h2⟩ | ⟨v, x, h1, h2, h3⟩
  · rw [h1, h2]
    exact RepD.snoc h r
  · rw [h1, h2]
    exact RepD.setK h r
theorem RepD.len {κ : Type} : ∀ {xs : List (κ × V)} {vs : List (κ × PV)}, RepD K H m xs vs → xs.length = vs.length
  | _, _, .nil => rfl
  | _, _, .cons _ t => by rw [List.length_cons, List.length_cons, RepD.len t]
theorem RepD.keys {κ : Type} : ∀ {xs : List (κ × V)} {vs : List (κ × PV)}, RepD K H m xs vs → xs.map (·.1) = vs.map (·.1)
  | _, _, .nil => rfl
  | _, _, .cons _ t => by rw [List.map_cons, List.map_cons, RepD.keys t]
theorem RepL.len : ∀ {vs : List V} {pvs : List PV}, RepL K H m vs pvs → vs.length = pvs.length
  | _, _, .nil => rfl
  | _, _, .cons _ t => by simp [RepL.len t]
theorem RepL.get : ∀ {vs : List V} {pvs : List PV} {i : Nat} {p : PV}, RepL K H m vs pvs → pvs[i]? = some p → ∃ x, vs[i]? = some x ∧ RepV K H m x p
  | _, _, _, _, .nil, e => by simp at e
  | _, _, 0, _, .cons h t, e => by simp at e; subst e; exact ⟨_, rfl, h⟩
  | _, _, i + 1, _, .cons h t, e => by
    obtain ⟨x, h1, h2⟩ := RepL.get (i := i) t (by simpa using e)
    exact ⟨x, by simpa using h1, h2⟩
theorem RepL.get' : ∀ {vs : List V} {pvs : List PV} {i : Nat} {x : V}, RepL K H m vs pvs → vs[i]? = some x → ∃ p, pvs[i]? = some p ∧ RepV K H m x p
  | _, _, _, _, .nil, e => by simp at e
  | _, _, 0, _, .cons h t, e => by simp at e; subst e; exact ⟨_, rfl, h⟩
  | _, _, i + 1, _, .cons h t, e => by
    obtain ⟨x, h1, h2⟩ := RepL.get' (i := i) t (by simpa using e)
    exact ⟨x, by simpa using h1, h2⟩
theorem RepL.append : ∀ {vs ws : List V} {ps qs : List PV}, RepL K H m vs ps → RepL K H m ws qs → RepL K H m (vs ++ ws) (ps ++ qs)
  | _, _, _, _, .nil, h => h
  | _, _, _, _, .cons a t, h => .cons a (RepL.append t h)
theorem RepL.set {x : V} {p : PV} (h : RepV K H m x p) : ∀ {vs : List V} {ps : List PV} (i : Nat), RepL K H m vs ps → RepL K H m (vs.set i x) (ps.set i p)
  | _, _, _, .nil => .nil
  | _, _, 0, .cons _ t => .cons h t
  | _, _, i + 1, .cons a t => .cons a (RepL.set h i t)
theorem RepL.take : ∀ {vs : List V} {ps : List PV} (n : Nat), RepL K H m vs ps → RepL K H m (vs.take n) (ps.take n)
  | _, _, 0, _ => .nil
  | _, _, _ + 1, .nil => .nil
  | _, _, n + 1, .cons a t => .cons a (RepL.take n t)
theorem RepL.drop : ∀ {vs : List V} {ps : List PV} (n : Nat), RepL K H m vs ps → RepL K H m (vs.drop n) (ps.drop n)
  | _, _, 0, h => h
  | _, _, _ + 1, .nil => .nil
  | _, _, n + 1, .cons _ t => RepL.drop n t
theorem RepL.cutV {vs : List V} {ps : List PV} (h : RepL K H m vs ps) (lo hi : Option Int) : RepL K H m (L2.cutV vs lo hi) (cutPV ps lo hi) := by
  unfold L2.cutV cutPV
  rw [h.len]
  exact (h.drop _).take _
theorem RepL.at_ {vs : List V} {ps : List PV} {k : Int} {p : PV} (h : RepL K H m vs ps) (e : atPV ps k = some p) : ∃ x, L2.atI vs k = some x ∧ RepV K H m x p := by
  unfold atPV at e
  unfold L2.atI at e ⊢
  rw [h.len]
  cases q : ixN ps.length k with
  | none => rw [q] at e; cases e
  | some j =>
    rw [q] at e
    exact h.get (by simpa using e)
theorem RepL.nil_iff {vs : List V} {ps : List PV} (h : RepL K H m vs ps) : vs.isEmpty = ps.isEmpty := by cases h <;> rfl
theorem RepL.inj_left {vs ws : List V} {ps : List PV} (h : RepL K H m vs ps) : RepL K H m ws ps → vs.length = ws.length := fun h' => h.len.trans h'.len.symm

mutual
theorem RepV.dp : ∀ (pv : PV) (v : V), RepV K H m v pv → pv.toD.canLay0 = true → Dp K H v pv.toD
  | .non, _, h, _ => by cases h; exact .non
  | .bl b, _, h, _ => by cases h; exact .bl b
  | .int i, _, h, _ => by cases h; exact .int i
  | .str x, _, h, _ => by cases h; exact .str x
  | .tup vs, _, h, u => by
    cases h with
    | tup h1 h2 => exact .tup h1.sq (RepL.dp vs _ h2 (by simpa [PV.toD, PyData.canLay0] using u))
  | .ref i, _, h, u => by simp [PV.toD, PyData.canLay0] at u
  | .fn i, _, h, u => by simp [PV.toD, PyData.canLay0] at u
theorem RepL.dp : ∀ (pvs : List PV) (vs : List V), RepL K H m vs pvs → PyData.canLayAll0 (PV.toDs pvs) = true → DpAll K H vs (PV.toDs pvs)
  | [], _, h, _ => by cases h; exact .nil
  | v :: vs, _, h, u => by
    cases h with
    | cons h1 h2 =>
      have u' : v.toD.canLay0 = true ∧ PyData.canLayAll0 (PV.toDs vs) = true := by simpa [PV.toDs, PyData.canLayAll0] using u
      exact .cons (RepV.dp v _ h1 u'.1) (RepL.dp vs _ h2 u'.2)
end

theorem RlE.ext (e : Ext K m H m' H') (r : RlE K m H σ ρ) : RlE K m' H' σ ρ := ⟨r.1, fun i v h => let ⟨x, h1, h2⟩ := r.2 i v h; ⟨x, h1, RepV.ext e v x h2⟩⟩
theorem RlE.set (r : RlE K m H σ ρ) {x : V} {v : PV} (h : RepV K H m x v) (i : Nat) : RlE K m H (σ.set i (some x)) (ρ.set i (some v)) := by
  refine ⟨by simp [r.1], fun j w e => ?_⟩
  by_cases hj : i = j
  · subst hj
    by_cases hl : i < ρ.length
    · rw [List.getElem?_set_self hl] at e
      cases e
      exact ⟨x, by rw [List.getElem?_set_self (by rw [r.1]; exact hl)], h⟩
    · rw [List.getElem?_eq_none (by simpa using hl)] at e
      cases e
  · rw [List.getElem?_set_ne hj] at e ⊢
    exact r.2 j w e
theorem RlE.unset (r : RlE K m H σ ρ) (i : Nat) : RlE K m H (σ.set i none) (ρ.set i none) := by
  refine ⟨by simp [r.1], fun j w e => ?_⟩
  by_cases hj : i = j
  · subst hj
    by_cases hl : i < ρ.length
    · rw [List.getElem?_set_self hl] at e
      cases e
    · rw [List.getElem?_eq_none (by simpa using hl)] at e
      cases e
  · rw [List.getElem?_set_ne hj] at e ⊢
    exact r.2 j w e
theorem RlE.wipe (r : RlE K m H σ ρ) : ∀ vs : List Nat, RlE K m H (L2.wipe σ vs) (wipeP ρ vs)
  | [] => r
  | v :: vs => (RlE.wipe r vs).unset v

theorem sqT_upd {p : Addr} (o : HO) (n : H p = none) {a : Addr} {xs : List V} (h : SqT K H a xs) : SqT K (upd H p o) a xs := by
  rcases h with (h | ⟨u, h⟩) | h
  · exact .inl (.inl (by rw [upd_ne (ne_of_none h n)]; exact h))
  · exact .inl (.inr ⟨u, by rw [upd_ne (ne_of_none h n)]; exact h⟩)
  · exact .inr h
theorem plT_upd {p : Addr} (o : HO) (n : H p = none) {a : Addr} {xs : List V} (h : PlT K H a xs) : PlT K (upd H p o) a xs := by
  rcases h with ⟨u, h, d⟩ | h
  · exact .inl ⟨u, by rw [upd_ne (ne_of_none h n)]; exact h, d⟩
  · exact .inr h
theorem Ext.new {p : Addr} (o : HO) (n : H p = none) : Ext K m H m (upd H p o) := ⟨⟨[], by simp⟩, fun a xs h => plT_upd o n h, fun a xs h => sqT_upd o n h⟩
theorem Ext.newL {p : Addr} (o : HO) (n : H p = none) : Ext K m H (m ++ [p]) (upd H p o) := ⟨⟨[p], rfl⟩, fun a xs h => plT_upd o n h, fun a xs h => sqT_upd o n h⟩
theorem RepO.ext (e : Ext K m H m' H') {a : Addr} {o : Mo} (h : RepO K H m a o) (k : ∀ u, H a = some u → H' a = some u) : RepO K H' m' a o := by
  cases o with
  | lst vs => obtain ⟨xs, h1, h2⟩ := h; exact ⟨xs, k _ h1, RepL.ext e _ _ h2⟩
  | frz vs =>
    obtain ⟨xs, h1, h2⟩ := h
    refine ⟨xs, ?_, RepL.ext e _ _ h2⟩
    rcases h1 with ⟨o, h1⟩ | h1
    · exact .inl ⟨o, k _ h1⟩
    · exact .inr h1
  | dct vs => obtain ⟨xs, h1, h2⟩ := h; exact ⟨xs, k _ h1, h2.ext e⟩
  | dctT vs => obtain ⟨xs, h1, h2⟩ := h; exact ⟨xs, k _ h1, h2.ext e⟩
  | dctF vs g => exact ⟨k _ h.1, h.2.ext e⟩
  | ins x fs => obtain ⟨C, dx, xs, h0, h1, h2⟩ := h; exact ⟨C, dx, xs, h0, k _ h1, h2.ext e⟩
theorem RlS.new {p : Addr} (o : HO) (n : H p = none) (r : RlS K m H S) : RlS K m (upd H p o) S :=
  ⟨r.len, fun i u h => let ⟨a, h1, h2⟩ := r.obj i u h; ⟨a, h1, h2.ext (Ext.new o n) fun w e => by rw [upd_ne (ne_of_none e n)]; exact e⟩, r.inj⟩
theorem RlS.at {i : Nat} {vs : List PV} (r : RlS K m H S) (h : S[i]? = some (.lst vs)) : ∃ a xs, m[i]? = some a ∧ H a = some (.lst xs) ∧ RepL K H m xs vs := by
  obtain ⟨a, h1, xs, h2, h3⟩ := r.obj i _ h
  exact ⟨a, xs, h1, h2, h3⟩
theorem RepO.sql {a : Addr} {o : Mo} (h : RepO K H m a o) (hs : o.sq = true) : ∃ xs, SqL K H a xs ∧ RepL K H m xs o.items := by
  cases o with
  | lst vs => obtain ⟨xs, h1, h2⟩ := h; exact ⟨xs, SqL.of h1, h2⟩
  | frz vs =>
    obtain ⟨xs, h1, h2⟩ := h
    rcases h1 with ⟨o, h1⟩ | h1
    · exact ⟨xs, .inl (.inr ⟨o, h1⟩), h2⟩
    · exact ⟨xs, .inr h1, h2⟩
  | dct vs => cases hs
  | dctT vs => cases hs
  | dctF vs g => cases hs
  | ins x fs => cases hs
theorem RlS.dct {i : Nat} {vs : List (Key × PV)} (r : RlS K m H S) (h : S[i]? = some (.dct vs)) : ∃ a xs, m[i]? = some a ∧ H a = some (.dK xs) ∧ RepD K H m xs vs := by
  obtain ⟨a, h1, xs, h2, h3⟩ := r.obj i _ h
  exact ⟨a, xs, h1, h2, h3⟩
theorem RlS.sql {i : Nat} {o : Mo} {a : Addr} (r : RlS K m H S) (h : S[i]? = some o) (hs : o.sq = true) (ha : m[i]? = some a) : ∃ xs, SqL K H a xs ∧ RepL K H m xs o.items := by
  obtain ⟨b, h1, h2⟩ := r.obj i o h
  rw [ha] at h1
  cases h1
  exact h2.sql hs
theorem get_snoc {α : Type} {l : List α} {x y : α} {i : Nat} (h : (l ++ [x])[i]? = some y) : l[i]? = some y ∨ (i = l.length ∧ y = x) := by
  by_cases hi : i < l.length
  · rw [List.getElem?_append_left hi] at h; exact .inl h
  · rw [List.getElem?_append_right (by omega)] at h
    have : i - l.length = 0 := by
      cases q : i - l.length with
      | zero => rfl
      | succ k => rw [q] at h; simp at h
    rw [this] at h
    simp at h
    exact .inr ⟨by omega, h.symm⟩
theorem get_last {α : Type} {l : List α} {x : α} : (l ++ [x])[l.length]? = some x := by simp
theorem RepO.mut_at {a : Addr} {o : Mo} (h : RepO K H m a o) (hm : o.mut = true) : ∃ w, MutO w ∧ H a = some w := by
  cases o with
  | lst vs => obtain ⟨xs, h1, _⟩ := h; exact ⟨_, .lst xs, h1⟩
  | frz vs => cases hm
  | dct vs => obtain ⟨xs, h1, _⟩ := h; exact ⟨_, .dK xs, h1⟩
  | dctT vs => obtain ⟨xs, h1, _⟩ := h; exact ⟨_, .dT xs, h1⟩
  | dctF vs g => exact ⟨_, .dF g.1 g.2, h.1⟩
  | ins x fs => obtain ⟨C, dx, xs, _, h1, _⟩ := h; exact ⟨_, .ins C dx xs, h1⟩
/-- a new thing -/
theorem RlS.newO {p : Addr} {w : HO} {o : Mo} (n : H p = none) (r : RlS K m H S) (h : RepO K (upd H p w) (m ++ [p]) p o) : RlS K (m ++ [p]) (upd H p w) (S ++ [o]) := by
  have e : Ext K m H (m ++ [p]) (upd H p w) := Ext.newL _ n
  have no : ∀ {i : Nat} {u : Mo}, m[i]? = some p → S[i]? = some u → u.mut = true → False := fun {i u} g1 g2 g3 => by
    obtain ⟨a, k1, k2⟩ := r.obj i u g2
    rw [g1] at k1; cases k1
    obtain ⟨z, _, k⟩ := k2.mut_at g3; rw [n] at k; cases k
  refine ⟨by simp [r.len], fun i u hu => ?_, fun i j a o' u' h3 h4 h1 h2 m1 m2 => ?_⟩
  · rcases get_snoc hu with hu | ⟨hi, hu⟩
    · obtain ⟨a, h1, h2⟩ := r.obj i u hu
      exact ⟨a, e.at h1, h2.ext e fun w q => by rw [upd_ne (ne_of_none q n)]; exact q⟩
    · subst hu
      rw [hi, ← r.len]
      exact ⟨p, get_last, h⟩
  · rcases get_snoc h1 with g1 | ⟨g1, q1⟩
    · rcases get_snoc h2 with g2 | ⟨g2, q2⟩
      · have l1 := (List.getElem?_eq_some_iff.mp g1).1
        have l2 := (List.getElem?_eq_some_iff.mp g2).1
        rw [List.getElem?_append_left (by rw [r.len]; exact l1)] at h3
        rw [List.getElem?_append_left (by rw [r.len]; exact l2)] at h4
        exact r.inj i j a _ _ h3 h4 g1 g2 m1 m2
      · exfalso
        have l1 := (List.getElem?_eq_some_iff.mp g1).1
        rw [List.getElem?_append_left (by rw [r.len]; exact l1)] at h3
        rw [g2, ← r.len, get_last] at h4
        cases h4
        exact no h3 g1 m1
    · rcases get_snoc h2 with g2 | ⟨g2, q2⟩
      · exfalso
        have l2 := (List.getElem?_eq_some_iff.mp g2).1
        rw [List.getElem?_append_left (by rw [r.len]; exact l2)] at h4
        rw [g1, ← r.len, get_last] at h3
        cases h3
        exact no h4 g2 m2
      · rw [g1, g2]
theorem RlS.newL {p : Addr} {xs : List V} {vs : List PV} (n : H p = none) (r : RlS K m H S) (h : RepL K H m xs vs) : RlS K (m ++ [p]) (upd H p (.lst xs)) (S ++ [.lst vs]) :=
  r.newO n ⟨xs, upd_same, RepL.ext (Ext.newL _ n) _ _ h⟩
/-- a thing is written -/
theorem Ext.putO {a : Addr} {w w' : HO} (h : H a = some w) (hw : MutO w) : Ext K m H m (upd H a w') := by
  have ne : ∀ {b : Addr} {u : HO}, H b = some u → ¬ MutO u → b ≠ a := fun {b u} e hn z => by
    subst z; rw [h] at e; cases e
    exact hn hw
  refine ⟨⟨[], by simp⟩, fun b zs q => ?_, fun b zs q => ?_⟩
  · rcases q with ⟨u, q, d⟩ | q
    · exact .inl ⟨u, by rw [upd_ne (ne q fun z => by cases z)]; exact q, d⟩
    · exact .inr q
  · rcases q with (q | ⟨u, q⟩) | q
    · exact .inl (.inl (by rw [upd_ne (ne q fun z => by cases z)]; exact q))
    · exact .inl (.inr ⟨u, by rw [upd_ne (ne q fun z => by cases z)]; exact q⟩)
    · exact .inr q
theorem Ext.put {a : Addr} {xs ys : List V} (h : H a = some (.lst xs)) : Ext K m H m (upd H a (.lst ys)) := Ext.putO h (.lst _)
theorem RlS.putO {i : Nat} {a : Addr} {w w' : HO} {o o' : Mo} (r : RlS K m H S) (hi : S[i]? = some o) (ho : o.mut = true) (ho' : o'.mut = true) (ha : m[i]? = some a) (hl : H a = some w) (hw : MutO w)
    (h : RepO K (upd H a w') m a o') : RlS K m (upd H a w') (S.set i o') := by
  have e : Ext K m H m (upd H a w') := Ext.putO hl hw
  have il : i < S.length := (List.getElem?_eq_some_iff.mp hi).1
  have shape : ∀ (j : Nat) (z : Mo), (S.set i o')[j]? = some z → z.mut = true → ∃ z', S[j]? = some z' ∧ z'.mut = true := fun j z q mz => by
    by_cases hj : i = j
    · subst hj; exact ⟨o, hi, ho⟩
    · rw [List.getElem?_set_ne hj] at q; exact ⟨z, q, mz⟩
  refine ⟨by simp [r.len], fun j u hu => ?_, fun j k b o1 u1 h1 h2 h3 h4 m1 m2 => ?_⟩
  · by_cases hj : i = j
    · subst hj
      rw [List.getElem?_set_self il] at hu
      cases hu
      exact ⟨a, ha, h⟩
    · rw [List.getElem?_set_ne hj] at hu
      obtain ⟨b, h1, h2⟩ := r.obj j u hu
      refine ⟨b, h1, ?_⟩
      have nb : u.mut = true → b ≠ a := fun mu z => by subst z; exact hj (r.inj i j b _ _ ha h1 hi hu ho mu)
      cases u with
      | lst zs => exact h2.ext e fun w q => by rw [upd_ne (nb rfl)]; exact q
      | dct zs => exact h2.ext e fun w q => by rw [upd_ne (nb rfl)]; exact q
      | dctT zs => exact h2.ext e fun w q => by rw [upd_ne (nb rfl)]; exact q
      | dctF zs g => exact h2.ext e fun w q => by rw [upd_ne (nb rfl)]; exact q
      | ins z zs => exact h2.ext e fun w q => by rw [upd_ne (nb rfl)]; exact q
      | frz zs =>
        obtain ⟨us, q1, q2⟩ := h2
        refine ⟨us, ?_, RepL.ext e _ _ q2⟩
        rcases q1 with ⟨o, q1⟩ | q1
        · refine .inl ⟨o, ?_⟩
          rw [upd_ne]
          · exact q1
          · intro z; subst z; rw [hl] at q1; cases q1
            cases hw
        · exact .inr q1
  · obtain ⟨z1, g1, n1⟩ := shape j _ h3 m1
    obtain ⟨z2, g2, n2⟩ := shape k _ h4 m2
    exact r.inj j k b _ _ h1 h2 g1 g2 n1 n2
theorem RlS.put {i : Nat} {a : Addr} {xs ys : List V} {vs ws : List PV} (r : RlS K m H S) (hi : S[i]? = some (.lst vs)) (ha : m[i]? = some a) (hl : H a = some (.lst xs)) (h : RepL K H m ys ws) :
    RlS K m (upd H a (.lst ys)) (S.set i (.lst ws)) :=
  r.putO hi rfl rfl ha hl (.lst _) ⟨ys, upd_same, RepL.ext (Ext.put hl) _ _ h⟩
theorem RlS.putD {i : Nat} {a : Addr} {xs ys : List (Key × V)} {vs ws : List (Key × PV)} (r : RlS K m H S) (hi : S[i]? = some (.dct vs)) (ha : m[i]? = some a) (hl : H a = some (.dK xs)) (h : RepD K H m ys ws) :
    RlS K m (upd H a (.dK ys)) (S.set i (.dct ws)) :=
  r.putO hi rfl rfl ha hl (.dK _) ⟨ys, upd_same, h.ext (Ext.putO hl (.dK _))⟩
theorem RlS.dctT {i : Nat} {vs : List (List Key × PV)} (r : RlS K m H S) (h : S[i]? = some (.dctT vs)) : ∃ a xs, m[i]? = some a ∧ H a = some (.dT xs) ∧ RepD K H m xs vs := by
  obtain ⟨a, h1, xs, h2, h3⟩ := r.obj i _ h
  exact ⟨a, xs, h1, h2, h3⟩
theorem RlS.putT {i : Nat} {a : Addr} {xs ys : List (List Key × V)} {vs ws : List (List Key × PV)} (r : RlS K m H S) (hi : S[i]? = some (.dctT vs)) (ha : m[i]? = some a) (hl : H a = some (.dT xs)) (h : RepD K H m ys ws) :
    RlS K m (upd H a (.dT ys)) (S.set i (.dctT ws)) :=
  r.putO hi rfl rfl ha hl (.dT _) ⟨ys, upd_same, h.ext (Ext.putO hl (.dT _))⟩
theorem RlS.dctF {i : Nat} {vs : List (Key × PV)} {g : Obj × List (Key × V)} (r : RlS K m H S) (h : S[i]? = some (.dctF vs g)) : ∃ a, m[i]? = some a ∧ H a = some (.frz g.1 (.dK g.2)) ∧ RepD K H m g.2 vs := by
  obtain ⟨a, h1, h2, h3⟩ := r.obj i _ h
  exact ⟨a, h1, h2, h3⟩
/-- a dict is locked, opened again -/
theorem RlS.lock {i : Nat} {a : Addr} {xs : List (Key × V)} {vs : List (Key × PV)} (r : RlS K m H S) (hi : S[i]? = some (.dct vs)) (ha : m[i]? = some a) (hl : H a = some (.dK xs)) (h : RepD K H m xs vs) (o : Obj) :
    RlS K m (upd H a (.frz o (.dK xs))) (S.set i (.dctF vs (o, xs))) :=
  r.putO hi rfl rfl ha hl (.dK _) ⟨upd_same, h.ext (Ext.putO hl (.dK _))⟩
theorem RlS.unlock {i : Nat} {a : Addr} {o : Obj} {xs : List (Key × V)} {vs : List (Key × PV)} (r : RlS K m H S) (hi : S[i]? = some (.dctF vs (o, xs))) (ha : m[i]? = some a) (hl : H a = some (.frz o (.dK xs))) (h : RepD K H m xs vs) :
    RlS K m (upd H a (.dK xs)) (S.set i (.dct vs)) :=
  r.putO hi rfl rfl ha hl (.dF _ _) ⟨xs, upd_same, h.ext (Ext.putO hl (.dF _ _))⟩
/-- what a call made and left is forgotten -/
theorem RlS.cut {S0 junk : Store} (r : RlS K m H (S0 ++ junk)) (w : wfAt S0.length S0 = true) : RlS K (m.take S0.length) H S0 := by
  refine ⟨by simp [r.len], fun i o h => ?_, fun i j a xs ys h1 h2 h3 h4 m1 m2 => ?_⟩
  · have hi := (List.getElem?_eq_some_iff.mp h).1
    obtain ⟨a, h1, h2⟩ := r.obj i o (by rw [List.getElem?_append_left hi]; exact h)
    refine ⟨a, by rw [List.getElem?_take, if_pos hi]; exact h1, ?_⟩
    have hw : o.under S0.length = true := List.all_eq_true.mp w o (List.mem_of_getElem? h)
    cases o with
    | lst vs => obtain ⟨xs, q1, q2⟩ := h2; exact ⟨xs, q1, RepL.cut _ _ q2 hw⟩
    | frz vs => obtain ⟨xs, q1, q2⟩ := h2; exact ⟨xs, q1, RepL.cut _ _ q2 hw⟩
    | dct vs => obtain ⟨xs, q1, q2⟩ := h2; exact ⟨xs, q1, q2.cut hw⟩
    | dctT vs => obtain ⟨xs, q1, q2⟩ := h2; exact ⟨xs, q1, q2.cut hw⟩
    | dctF vs g => exact ⟨h2.1, h2.2.cut hw⟩
    | ins x fs => obtain ⟨C, dx, xs, q0, q1, q2⟩ := h2; exact ⟨C, dx, xs, q0, q1, q2.cut hw⟩
  · have h3' := (List.getElem?_eq_some_iff.mp h3).1
    have h4' := (List.getElem?_eq_some_iff.mp h4).1
    rw [List.getElem?_take, if_pos h3'] at h1
    rw [List.getElem?_take, if_pos h4'] at h2
    exact r.inj i j a xs ys h1 h2 (by rw [List.getElem?_append_left h3']; exact h3) (by rw [List.getElem?_append_left h4']; exact h4) m1 m2
theorem RlS.wf (r : RlS K m H S) : WfS S := by
  refine List.all_eq_true.mpr fun o ho => ?_
  obtain ⟨i, hi⟩ := List.getElem?_of_mem ho
  obtain ⟨a, h1, h2⟩ := r.obj i o hi
  rw [← r.len]
  cases o with
  | lst vs => obtain ⟨xs, _, h3⟩ := h2; exact RepL.under _ _ h3
  | frz vs => obtain ⟨xs, _, h3⟩ := h2; exact RepL.under _ _ h3
  | dct vs => obtain ⟨xs, _, h3⟩ := h2; exact h3.under
  | dctT vs => obtain ⟨xs, _, h3⟩ := h2; exact h3.under
  | dctF vs g => exact h2.2.under
  | ins x fs => obtain ⟨C, dx, xs, _, _, h3⟩ := h2; exact h3.under
end
end Pv
set_option Elab.async false
set_option linter.all false
set_option maxRecDepth 100000
/-! Pv2s: sorted of lists of tuples of ints, `<` of tuples of ints. -/
namespace PySem.SeqAt
open PySem PySem.Calls PyProof.Rows
variable {A : Around} {s : Shared}
/-- tuple's own __lt__, as sorting calls it -/
theorem call_tuple_lt {prog : Program} {w : World} {E : Value → Shared → Prop} {Q : Value → Shared → Prop} {l b : Addr} {items items2 : Array Value} {e r : Nat → Bool} (hl : s.heap.IsTuple l items) (hb : s.heap.IsTuple b items2)
    (he : ∀ j (h1 : j < items.size) (h2 : j < items2.size), EqAt A.in1 s items[j] items2[j] (e j)) (hr : ∀ j (h1 : j < items.size) (h2 : j < items2.size), e j = false → RcLt A.in1 s items[j] items2[j] (r j))
    (h : Q (.bool (firstLt e r (decide (items.size < items2.size)) (List.range (min items.size items2.size)))) s) : wpAny (model prog w) A (call (.builtin "tuple.__lt__") [.ref l, .ref b]) Q E s := by
  obtain ⟨⟨cls, dd, data, sl⟩, ho, hc, n, hd⟩ := id hl
  obtain ⟨⟨cls2, dd2, data2, sl2⟩, ho2, hc2, n2, hd2⟩ := id hb
  simp only at hc hd hc2 hd2
  subst hc hd hc2 hd2
  exact call_meets F.slot_tuple_lt ⟨_, ho, rfl⟩ F.entry_tuple_lt (F.args_tuple_lt_2 _ _) (tuple_ltAt l b items items2 n n2 dd dd2 sl sl2 e r) ⟨ho, ho2, he, hr, h⟩
end PySem.SeqAt
namespace PySem.W
open PySem PySem.Calls PySem.SeqAt PyProof.Rows
section
variable {prog : Program} {w : World} {A : Around} {s : Shared} {E : Value → Shared → Prop}
/-- two tuples, by the way of "one type" -/
theorem oneLt_tuple {f : Bool} {xs ys : List PyData} {a b : Value} {as bs : List Addr} {Q : Bool → Shared → Prop} (ra : Reads s.heap a (.tuple xs) as) (rb : Reads s.heap b (.tuple ys) bs) (h : alikeAll xs ys = true)
    (hu : A.units + min (PyData.tuple xs).depth (PyData.tuple ys).depth < cLine) (hq : Q (dataLt (.tuple xs) (.tuple ys)) s) : wpAny (model prog w) A (oneLt' f a b) Q E s := by
  cases f with
  | false => exact oneLt_alike (fun h => by cases h) ra rb (by simpa [alike] using h) (by simp) hu hq
  | true =>
    cases ra with
    | @tuple l o vs n _ as₁ h1 h2 h3 h4 =>
      cases rb with
      | @tuple l' o' vs' n' _ bs₁ k1 k2 k3 k4 =>
        have n1 : vs.size = xs.length := by simpa using ReadsAll.length _ _ _ h4
        have n2 : vs'.size = ys.length := by simpa using ReadsAll.length _ _ _ k4
        rw [dataLt_tuple, ← firstLt_toks xs ys h, ← n1, ← n2] at hq
        rw [oneLt'_eq]
        simp only [if_true]
        refine wpAny_bind (wpAny_cRoomFor (room_here hu) ?_)
        refine wpAny_bind (wpAny_callSpecialIfBound?_slot (T := "tuple") ⟨_, h1, h2⟩ F.slot_tuple_lt (call_tuple_lt (e := pairEq xs ys) (r := fun j => dataLt (xs.getD j .none) (ys.getD j .none)) ⟨_, h1, h2, _, h3⟩ ⟨_, k1, k2, _, k3⟩ (fun j j1 j2 => ?_) (fun j j1 j2 hj => ?_) ?_))
        · have := eqAt_alikeAll xs ys A.in1 s vs.toList vs'.toList _ _ h4 k4 h (room_in hu) j (by simpa using j1) (by simpa using j2)
          simpa using this
        · have := rcLt_alikeAll xs ys A.in1 s vs.toList vs'.toList _ _ h4 k4 h (room_in hu) j (by simpa using j1) (by simpa using j2) hj
          simpa using this
        · exact wpAny_truthy_bool hq
/-- not the empty tuple -/
def nonE : PyData → Bool
  | .tuple (_ :: _) => true
  | _ => false
theorem firsts_any : ∀ {vs : List Value} {ds : List PyData}, EachIs (fun v d => ∃ as, Reads s.heap v d as) vs ds → (∀ d, d ∈ ds → ∃ xs, d = .tuple xs) →
    ∃ fs : List (Option Value), fs.map (·.isSome) = ds.map nonE ∧ ∀ (Q : List (Option Value) → Shared → Prop), Q fs s → wpAny (model prog w) A (vs.mapM firstOfTuple') Q E s
  | _, _, .nil, _ => ⟨[], rfl, fun Q h => by rw [List.mapM_nil]; exact wpAny_pure h⟩
  | _, _, .cons (a := v) (b := d) ⟨as, r⟩ t, ht => by
    obtain ⟨fs, h1, h2⟩ := firsts_any t fun d hd => ht d (List.mem_cons_of_mem _ hd)
    obtain ⟨ys, rfl⟩ := ht d (List.mem_cons_self ..)
    cases r with
    | @tuple a o xs n _ _ ho hc hd hr =>
      refine ⟨xs[0]? :: fs, ?_, fun Q h => ?_⟩
      · rw [List.map_cons, List.map_cons, h1]
        congr 1
        have hl : xs.size = ys.length := by simpa using ReadsAll.length _ _ _ hr
        cases ys with
        | nil => simp only [List.length_nil] at hl; simp [nonE, hl]
        | cons y yr => simp only [List.length_cons] at hl; simp [nonE, hl]
      · rw [List.mapM_cons]
        refine wpAny_bind ?_
        rw [kas_first_eq]
        refine wpAny_bind (Looks.here (show Looks (model prog w) s.heap (typeOf (.ref a)) o.cls from (Looks.ld ho).andThen .now) ?_)
        rw [hc, if_neg (by first | decide | simp)]
        refine wpAny_bind (listItems_at ho hd (wpAny_pure ?_))
        exact wpAny_bind (h2 _ (wpAny_pure h))
theorem kind_mix {vs : List Value} {ds : List PyData} {Q : SortKind → Shared → Prop} (e : EachIs (fun v d => ∃ as, Reads s.heap v d as) vs ds) (ht : ∀ d, d ∈ ds → ∃ xs, d = .tuple xs) (h2 : 2 ≤ vs.length) (hx : ∃ d, d ∈ ds ∧ nonE d = false)
    (h : Q (if (ds.head?.map nonE) = some true then general' else oneType') s) : wpAny (model prog w) A (keyKind' vs.toArray) Q E s := by
  obtain ⟨fs, f1, f2⟩ := firsts_any (prog := prog) (w := w) (A := A) (E := E) e ht
  rw [keyKind'_eq, List.mapM_toArray, map_eq_pure_bind]
  refine wpAny_bind (wpAny_bind (f2 _ (wpAny_pure ?_)))
  have hall : (fs.toArray.all fun x => x.isSome) = false := by
    obtain ⟨d, hd, hn⟩ := hx
    rw [List.all_toArray, List.all_eq_false]
    have hm : nonE d ∈ fs.map (·.isSome) := by rw [f1]; exact List.mem_map.2 ⟨d, hd, rfl⟩
    obtain ⟨x, hx1, hx2⟩ := List.mem_map.1 hm
    exact ⟨x, hx1, by rw [hx2, hn]; simp⟩
  rw [if_neg (by rw [hall]; simp)]
  have hfirst : (fs.toArray[0]?.bind id).isSome = (ds.head?.map nonE).getD false := by
    cases fs with
    | nil =>
      cases ds with
      | nil => rfl
      | cons d dr => cases f1
    | cons f fr =>
      cases ds with
      | nil => cases f1
      | cons d dr =>
        simp only [List.map_cons, List.cons.injEq] at f1
        simp [f1.1]
  by_cases hf : ds.head?.map nonE = some true
  · rw [if_pos (by rw [hfirst, hf]; rfl)]
    rw [if_pos hf] at h
    exact wpAny_pure h
  · rw [if_neg hf] at h
    rw [if_neg (by
      rw [hfirst]
      cases q : ds.head?.map nonE with
      | none => simp
      | some b => cases b with
        | true => exact absurd q hf
        | false => simp)]
    rw [oneTypeOnly'_eq, List.mapM_toArray, map_eq_pure_bind]
    refine wpAny_bind (wpAny_bind (wpAny_bind (kas_mapM (r := Value.type "tuple") _ (fun v hv Q' hq => ?_) (wpAny_pure ?_))))
    · obtain ⟨d, hd, as, r⟩ := e.left v hv
      obtain ⟨xs, rfl⟩ := ht d hd
      exact (looks_reads r).here hq
    · have hall : ((List.map (fun _ => Value.type "tuple") vs).toArray.all fun x => x == Value.type "tuple") = true := by
        simp only [List.all_toArray, List.all_map, List.all_eq_true]
        intro _ _
        rfl
      have h0 : (List.map (fun _ => Value.type "tuple") vs).toArray[0]? = some (Value.type "tuple") := by
        cases vs with
        | nil => simp at h2
        | cons v vr => simp
      rw [h0]
      simp only [hall, if_true]
      exact wpAny_pure (wpAny_pure h)
theorem SortsAt.tups {vs : List Value} {ds : List PyData} (e : EachIs (fun v d => ∃ as, Reads s.heap v d as) vs ds) (hal : AllAlike ds) (ht : ∀ d, d ∈ ds → ∃ xs, d = .tuple xs) (hu : ∀ d, d ∈ ds → A.units + d.depth < cLine) : SortsAt prog w A s (dataKind s.heap ds) vs := by
  by_cases hx : ∃ d, d ∈ ds ∧ nonE d = false
  · have room : ∀ {d d' : PyData}, d ∈ ds → A.units + min d.depth d'.depth < cLine := fun {d d'} hd => Nat.lt_of_le_of_lt (Nat.add_le_add_left (Nat.min_le_left _ _) _) (hu d hd)
    refine ⟨fun v hv => ?_, if (ds.head?.map nonE) = some true then general' else oneType', ?_, fun h2 E Q hq => kind_mix e ht h2 hx hq⟩
    · obtain ⟨d, hd, as, r⟩ := e.left v hv
      exact ⟨_, dataKind_some hal hd r⟩
    · intro E x y a b Q ha hb hq
      obtain ⟨d, as, hd, ra, rfl⟩ := dataKind_inv ha
      obtain ⟨d', as', hd', rb, rfl⟩ := dataKind_inv hb
      have hdd := hal d hd d' hd'
      have hroom := room (d' := d') hd
      obtain ⟨xs, rfl⟩ := ht d hd
      obtain ⟨ys, rfl⟩ := ht d' hd'
      split
      · exact oneLt_tuple (f := false) ra rb (by simpa [alike] using hdd) hroom hq
      · rw [keyLt'_oneType]
        exact oneLt_tuple (f := true) ra rb (by simpa [alike] using hdd) hroom hq
  · refine SortsAt.data e hal (.inl fun d hd => ?_) hu
    obtain ⟨xs, rfl⟩ := ht d hd
    cases xs with
    | nil => exact absurd ⟨_, hd, rfl⟩ hx
    | cons x r => exact ⟨x, r, rfl⟩
variable {β : Type} {vs : List Value} {bs : List β} {enc : β → PyData} {R : Value → β → Prop}
theorem sorted_tups {l : Addr} {Q : Value → Shared → Prop} (hl : s.heap.IsList l vs.toArray) (e : EachIs R vs bs) (er : EachIs (fun v b => ∃ as, Reads s.heap v (enc b) as) vs bs) (hal : AllAlike (bs.map enc)) (ht : ∀ d, d ∈ bs.map enc → ∃ xs, d = .tuple xs) (hL : bs.length ≤ sizeLine)
    (hu : ∀ b, b ∈ bs → A.units + 2 + (enc b).depth < cLine) (h : ∀ out, out.length = bs.length → EachIs R out (bs.mergeSort (dataLe false enc)) → Q (.ref (s.heap.objs.size + 1)) { s with heap := sortedAll s.heap vs (List.toArray out) }) :
    wpAny (model prog w) A (call (.builtin "sorted") [.ref l]) Q E s := by
  have er' : EachIs (fun v b => ∃ as, Reads (sortingHeap (copyHeap s.heap vs) (s.heap.objs.size + 1) vs) v (enc b) as) vs bs := er.mono fun _ _ ⟨as, r⟩ => ⟨as, PyProof.Rows.Reads.keeps (fun _ _ => sorting_copy_old) r⟩
  exact sorted_vals hl (SortsAt.tups (s := { s with heap := sortingHeap (copyHeap s.heap vs) (s.heap.objs.size + 1) vs }) (each_map (R := fun v d => ∃ as, Reads (sortingHeap (copyHeap s.heap vs) (s.heap.objs.size + 1) vs) v d as) enc er') hal ht (bound_map hu)) (by rw [e.length]; exact hL)
    (h _ (by rw [sortVals_length false rfl]; exact e.length) (sortVals_data false e er' hal))
end
end PySem.W
namespace Pv
open PySem PySem.Spec PySem.W PyProof.Rows PySem.SeqAt L2
variable {X : Cx}
/-- < of tuples of ints -/
def rLtT (K : PySem.W.Frag) : R2 := fun x y H Q => ∃ ns ms : List Int, Dp K H x (.tuple (ns.map .int)) ∧ Dp K H y (.tuple (ms.map .int)) ∧ Q (.bl (decide (ns < ms))) H
theorem dataLt_tups (ns ms : List Int) : dataLt (.tuple (ns.map .int)) (.tuple (ms.map .int)) = decide (ns < ms) := by
  rw [dataLt_tuple]
  exact dataLt_ints ns ms
theorem op_ltT (hu : X.A.units + 190 < cLine) : OpR X (compareOp .Lt) (rLtT X.K) := by
  intro pins s σ H x y v u Q I rx ry h
  obtain ⟨ns, ms, hd, he, q⟩ := h
  obtain ⟨as, r1⟩ := Dp.reads I _ x v hd rx
  obtain ⟨bs, r2⟩ := Dp.reads I _ y u he ry
  have hdp : (PyData.tuple (ns.map .int)).depth ≤ 1 := by rw [PyData.depth, depth_ints]; omega
  have z := rcLt_alike _ _ X.A s v u as bs r1 r2 (by simpa [alike] using alike_ints ns ms) (by simp) (by omega)
  rw [dataLt_tups] at z
  have z2 : wpAny (model X.prog X.w) X.A (compareOp .Lt v u) (EP X pins σ Q) X.xe s := z X.prog X.w X.xe (EP X pins σ Q) ⟨.bl _, H, I, rfl, q⟩
  exact z2
theorem dataLe_tups {β : Type} (f : β → List Int) : dataLe false (fun b => .tuple ((f b).map .int)) = fun p q => decide (f p ≤ f q) := by
  funext p q
  show (!dataLt (.tuple ((f q).map .int)) (.tuple ((f p).map .int))) = _
  rw [dataLt_tups]
  by_cases h : f q < f p
  · have h' : ¬ f p ≤ f q := fun r => List.not_lt.mpr r h
    simp [h, h']
  · have h' : f p ≤ f q := List.not_lt.mp h
    simp [h, h']
theorem vals_each {bs : List (V × List Int)} : ∀ {its : List Value}, Vals (bs.map (·.1)) its → EachIs (fun v b => RelV b.1 v) its bs := by
  induction bs with
  | nil => intro its h; cases h; exact .nil
  | cons b bs ih => intro its h; cases h with | cons h1 h2 => exact .cons h1 (ih h2)
theorem each_vals : ∀ {bs : List (V × List Int)} {its : List Value}, EachIs (fun v b => RelV b.1 v) its bs → Vals (bs.map (·.1)) its
  | _, _, .nil => .nil
  | _, _, .cons h1 h2 => .cons h1 (each_vals h2)
/-- sorted(xs), tuples of ints -/
def rSortedT (K : PySem.W.Frag) : List V → Hp → VK → Prop := fun vs H Q => ∃ (a : Addr) (bs : List (V × List Int)), vs = [V.ref a] ∧ SqL K H a (bs.map (·.1)) ∧ (∀ b, b ∈ bs → Dp K H b.1 (.tuple (b.2.map .int))) ∧
  ∀ p : Addr, H p = none → Q (.ref p) (upd H p (.lst ((bs.mergeSort fun x y => decide (x.2 ≤ y.2)).map (·.1))))
theorem cr_sortedT (hu : X.A.units + 190 < cLine) : CallR X (.builtin "sorted") (rSortedT X.K) := by
  intro pins s σ H vs us Q I r h
  obtain ⟨a, bs, rfl, hs, hd, q⟩ := h
  obtain ⟨its, rv, hl, hz⟩ := I.list hs
  rw [Vals.ref1 r]
  have ev := vals_each rv
  have er : EachIs (fun v (b : V × List Int) => ∃ as, Reads s.heap v (.tuple (b.2.map .int)) as) its bs :=
    (each_mem ev).mono fun v b ⟨h1, h2⟩ => Dp.reads I _ _ _ (hd b h2) h1
  have hz' : bs.length ≤ sizeLine := by simpa using hz
  refine sorted_tups (R := fun v (b : V × List Int) => RelV b.1 v) (enc := fun b : V × List Int => .tuple (b.2.map .int)) hl.isList ev er ?_ ?_ hz' ?_ fun out h1 h2 => ?_
  · exact AllAlike.of fun b b' => by simpa [alike] using alike_ints b.2 b'.2
  · intro d hm
    obtain ⟨b, _, rfl⟩ := List.mem_map.1 hm
    exact ⟨_, rfl⟩
  · intro b _
    have hdp : (PyData.tuple (b.2.map .int)).depth ≤ 1 := by rw [PyData.depth, depth_ints]; omega
    omega
  · rw [dataLe_tups (fun b : V × List Int => b.2)] at h2
    have k1 := each_vals h2
    obtain ⟨ep, he'⟩ := PyProof.Rows.sortedAll_at s.heap its out.toArray
    have hlen : ((bs.mergeSort fun x y => decide (x.2 ≤ y.2)).map (·.1)).length ≤ sizeLine := by
      rw [List.length_map, List.length_mergeSort]; exact hz'
    exact ⟨.ref _, upd H (s.heap.objs.size + 1) (.lst ((bs.mergeSort fun x y => decide (x.2 ≤ y.2)).map (·.1))), I.laid (t' := s.toks) (fun _ _ => PyProof.Rows.sortedAll_old) (Nat.le_succ _) ⟨hlen, out, ep, k1, he'⟩, rfl, q _ (I.hok.fresh (Nat.le_succ _))⟩
end Pv
set_option Elab.async false
set_option linter.all false
set_option maxRecDepth 100000
set_option maxHeartbeats 1000000
/-! Pv2r: t[::-1] of tuples. -/
namespace PyProof.Rows
open PySem
theorem adjust_rev (n : Nat) : Builtin.Slice.sliceAdjust none none (-1) (n : Int) = ((n : Int) - 1, -1) := by
  unfold Builtin.Slice.sliceAdjust
  rfl
theorem places_rev (n : Nat) : Builtin.Slice.slicePlaces ((n : Int) - 1) (-1) (-1) = n := by
  unfold Builtin.Slice.slicePlaces
  have h1 : ¬ ((-1 : Int) > 0) := by omega
  rw [if_neg h1]
  rw [show (- -1 : Int) = 1 by decide, Int.ediv_one]
  split <;> omega
theorem pick_rev (xs : Array Value) : ((List.range xs.size).filterMap fun (k : Nat) => xs[((xs.size : Int) - 1 + (k : Int) * (-1)).toNat]?).toArray = xs.toList.reverse.toArray := by
  have e : (List.range xs.size).filterMap (fun (k : Nat) => xs[((xs.size : Int) - 1 + (k : Int) * (-1)).toNat]?) = ((List.range xs.size).map fun k => xs.size - 1 - k).filterMap (xs[·]?) := by
    rw [List.filterMap_map]
    have go : ∀ l : List Nat, (∀ k, k ∈ l → k < xs.size) → l.filterMap (fun (k : Nat) => xs[((xs.size : Int) - 1 + (k : Int) * (-1)).toNat]?) = l.filterMap ((xs[·]?) ∘ fun k => xs.size - 1 - k) := by
      intro l
      induction l with
      | nil => intro _; rfl
      | cons k l ih =>
        intro h
        have := h k (.head _)
        rw [List.filterMap_cons, List.filterMap_cons, ih fun j hj => h j (.tail _ hj)]
        have e : ((xs.size : Int) - 1 + (k : Int) * (-1)).toNat = xs.size - 1 - k := by omega
        rw [e]
        rfl
    exact go _ fun k hk => List.mem_range.1 hk
  rw [e, PySem.W.krv_range, List.filterMap_reverse, PySem.W.krv_all]
section
variable {prog : Program} {w : World} {A : Around} {E : Value → Shared → Prop} {s : Shared}
theorem sliceApplied_rev {sl : Addr} {n : Nat} {u : Tok} {Q : Int × Int × Nat → Shared → Prop} (hs : s.heap.IsSliceOf sl .none .none (.int (-1) u)) (h : Q ((n : Int) - 1, -1, n) s) :
    wpAny (model prog w) A (Builtin.Slice.sliceApplied (.ref sl) (pure (n : Int))) Q E s := by
  obtain ⟨os, hos, hcs, hds⟩ := id hs
  unfold Builtin.Slice.sliceApplied Builtin.Slice.sliceFields
  refine wpAny_bind (wpAny_bind (wpAny_field hos hds (x := .none) rfl (wpAny_bind (wpAny_field hos hds (x := .none) rfl (wpAny_bind (wpAny_field hos hds (x := .int (-1) u) rfl (wpAny_pure ?_)))))))
  refine wpAny_bind (slicePart_int ?_)
  show wpAny _ _ (if ((-1 : Int) == 0) = true then _ else _) _ _ s
  rw [if_neg (by decide)]
  refine wpAny_bind (slicePart_none (wpAny_bind (slicePart_none (wpAny_bind (wpAny_pure ?_)))))
  show wpAny _ _ (match Builtin.Slice.sliceAdjust none none (-1) (n : Int) with | (lo, hi) => pure (lo, (-1 : Int), Builtin.Slice.slicePlaces lo hi (-1))) _ _ s
  rw [adjust_rev n]
  show wpAny _ _ (pure ((n : Int) - 1, (-1 : Int), Builtin.Slice.slicePlaces ((n : Int) - 1) (-1) (-1))) _ _ s
  rw [places_rev n]
  exact wpAny_pure h
theorem getItem_tuple_rev {t sl : Addr} {items : Array Value} {u : Tok} {Q : Value → Shared → Prop} (ht : IsTup s.heap t items) (hs : s.heap.IsSliceOf sl .none .none (.int (-1) u))
    (h : Q (.ref s.heap.objs.size) { s with heap := s.heap.push { cls := .type "tuple", data := .seq items.toList.reverse.toArray } })
    (hsz : items.size ≤ sizeLine) : wpAny (model prog w) A (getItem (.ref t) (.ref sl)) Q E s := by
  have hdrop : sizeOk (.seq items.toList.reverse.toArray) := by
    show items.toList.reverse.toArray.size ≤ sizeLine
    rw [List.size_toArray, List.length_reverse, Array.length_toList]
    exact hsz
  obtain ⟨os, hos, hcs, hds⟩ := id hs
  have hTs : s.TypeIs (.ref sl) "slice" := ⟨os, hos, hcs⟩
  unfold getItem
  try with_reducible refine wpAny_holding ?_
  first | refine wpAny_bind (wpAny_pure ?_) | skip
  refine wpAny_bind (wpAny_sequenceKey ht.typeIs (by decide) ?_)
  refine wpAny_bind (wpAny_callSpecial?_slot (name := Str.ofString "__getitem__") ht.typeIs slot_tuple_getitem
    (wpAny_call_entry slot_tuple_getitem ht.typeIs entry_tuple_getitem ?_ (args_tuple_getitem _ _)))
  show wpAny _ _ (Builtin.Tuple.tupleItemsOf (.ref t) >>= _) _ _ s
  refine wpAny_bind (tupleItemsOf_ ht ?_)
  refine wpAny_bind (wpAny_typeOf hTs ?_)
  rw [if_pos (by decide)]
  refine wpAny_bind (sliceApplied_rev (n := items.size) hs ?_)
  have hno : ¬ ((((items.size : Int) - 1) == 0 && (-1 : Int) == 1 && items.size == items.size) = true) := by simp
  show wpAny _ _ (if (((items.size : Int) - 1) == 0 && (-1 : Int) == 1 && items.size == items.size) = true then _ else _) _ _ s
  rw [if_neg hno, pick_rev items]
  first
    | exact wpAny_bind (m := Builtin.Tuple.tupleExact _) (wpAny_newObj_type (wpAny_pure ⟨_, rfl, wpAny_pure h⟩) hdrop)
    | exact wpAny_bind (m := Builtin.Tuple.tupleExact _) (wpAny_newObj_type (wpAny_bind (wpAny_pure (wpAny_pure ⟨_, rfl, wpAny_pure h⟩))) hdrop)
    | exact wpAny_bind (wpAny_bind (m := Builtin.Tuple.tupleExact _) (wpAny_newObj_type (wpAny_pure (wpAny_pure ⟨_, rfl, wpAny_pure h⟩)) hdrop))
    | exact wpAny_bind (wpAny_bind (m := Builtin.Tuple.tupleExact _) (wpAny_newObj_type (wpAny_pure ⟨_, rfl, wpAny_pure h⟩) hdrop))
end
end PyProof.Rows
namespace Pv
open PySem PySem.Spec PyProof.Rows L2
/-- a new tuple, a plain object -/
def NwT (H : Hp) (xs : List V) (Q : VK) : Prop := ∀ (p : Addr) (o : Obj), H p = none → o.dict = none → Q (.ref p) (upd H p (.frz o (.tup xs)))
section
variable {X : Cx} {pins : List (Addr × Obj)} {σ : L2.St} {H : Hp} {s : Shared}
theorem nwT_at (I : Inv X pins σ H s) {xs : List V} {its : List Value} {Q : VK} {tk : Nat} (r : Vals xs its) (z : xs.length ≤ sizeLine) (q : NwT H xs Q) :
    EP X pins σ Q (.ref s.heap.objs.size) { s with heap := s.heap.push { cls := .type "tuple", data := .seq its.toArray }, toks := tk } :=
  have ob : ObjOk X.prog X.w (upd H s.heap.objs.size (.frz { cls := .type "tuple", data := .seq its.toArray } (.tup xs))) (s.heap.push { cls := .type "tuple", data := .seq its.toArray }) s.heap.objs.size (.frz { cls := .type "tuple", data := .seq its.toArray } (.tup xs)) :=
    ⟨Heap.get?_push_size _ rfl, z, its, r, IsTup.new _ _⟩
  ⟨.ref s.heap.objs.size, _, I.laid (t' := tk) (fun _ _ e => Heap.get?_push_of_some _ e) (Nat.le_refl _) ob, rfl, q _ _ (I.hok.fresh (Nat.le_refl _)) rfl⟩
end
variable {X : Cx}
/-- xs[::-1], a list or a tuple -/
def tRevA (K : PySem.W.Frag) (te : TE) : TE := fun σ H Q => te σ H fun x H1 => ∃ a xs, x = .ref a ∧
  ((SqL K H1 a xs ∧ ∀ p, H1 p = none → Q (.ref p) (upd H1 p (.lst xs.reverse))) ∨ (SqT K H1 a xs ∧ NwT H1 xs.reverse Q))
theorem pe_revA {e : Expr} {te : TE} {k : Nat} {p1 p2 p3 pos : Pos} (he : PE X e te) : PE X (.Subscript e (.Slice none none (some (.UnaryOp .USub (.Constant (.int 1) k p1) p2)) p3) pos) (tRevA X.K te) := by
  refine ⟨fun pins s σ H Q I h => ?_⟩
  refine Subscript_ (thn (he.run pins s σ H _ I h) fun v s1 ⟨x, H1, I1, r1, q1⟩ => ?_)
  obtain ⟨a, xs, ex, q⟩ := q1
  subst ex
  cases r1
  have hst : PO X (some (.UnaryOp .USub (.Constant (.int 1) k p1) p2)) (tPart (tUn (rU fun i => .int (-i)) (tC (.int 1)))) := po_some (pe_un un_neg pe_int)
  refine wpAny_Slice (thn (po_none.run pins s1 σ H1 (fun o H2 => o = none ∧ H2 = H1) I1 ⟨rfl, rfl⟩) fun vl s2 ⟨l, H2, I2, pl, el, e2⟩ => ?_)
  subst el e2
  refine thn (po_none.run pins s2 σ H2 (fun o H3 => o = none ∧ H3 = H2) I2 ⟨rfl, rfl⟩) fun vu s3 ⟨u, H3, I3, pu, eu, e3⟩ => ?_
  subst eu e3
  refine thn (hst.run pins s3 σ H3 (fun o H4 => o = some (-1) ∧ H4 = H3) I3 ⟨1, rfl, -1, rfl, rfl, rfl⟩) fun vs s4 ⟨o, H4, I4, ps, eo, e4⟩ => ?_
  subst eo e4
  have I5 : Inv X pins σ H4 { s4 with heap := s4.heap.push { cls := .type "slice", data := .fields #[vl, vu, vs] } } := I4.kept (t' := s4.toks) fun b ob q => Heap.get?_push_of_some _ q
  show wpAny (model X.prog X.w) X.A (subscriptTail e (.Slice none none (some (.UnaryOp .USub (.Constant (.int 1) k p1) p2)) p3) (.ref a) (.ref s4.heap.objs.size)) (EP X pins σ Q) X.xe { s4 with heap := s4.heap.push { cls := .type "slice", data := .fields #[vl, vu, vs] } }
  rcases q with ⟨hx, q⟩ | ⟨hx, q⟩
  · obtain ⟨its, r, ht, hz⟩ := I5.list hx
    have hlen := r.length
    refine tail_any (ops := [.ref a, .ref s4.heap.objs.size]) ht.isList.typeIs (PySem.slot_list_getitem.lookup) ?_ (by with_unfolding_all rfl)
    refine wpAny_getItem_list_slice ht.isList (Heap.IsSliceOf.new _ vl vu vs) pl pu ps (by decide) ?_ (by rw [List.size_toArray]; omega)
    rw [PySem.W.krv_pick]
    refine ⟨.ref _, _, I5.laid (t' := s4.toks) (o := .lst xs.reverse) (fun b ob q => Heap.get?_push_of_some _ q) (Nat.le_refl _) ?_, rfl, q _ (I5.hok.fresh (Nat.le_refl _))⟩
    exact ⟨by rw [List.length_reverse]; exact hz, _, 0, r.reverse, Heap.get?_push_size _ rfl⟩
  · obtain ⟨its, r, ht, hz⟩ := I5.tuple hx
    have hlen := r.length
    cases pl
    cases pu
    cases ps
    refine tail_any (ops := [.ref a, .ref s4.heap.objs.size]) ht.typeIs (PyProof.Rows.slot_tuple_getitem.lookup) ?_ (by with_unfolding_all rfl)
    refine getItem_tuple_rev ht (Heap.IsSliceOf.new _ _ _ _) ?_ (by rw [List.size_toArray]; omega)
    exact nwT_at (tk := s4.toks) I5 r.reverse (by rw [List.length_reverse]; exact hz) q
end Pv
set_option Elab.async false
set_option linter.all false
set_option maxRecDepth 100000
set_option maxHeartbeats 1000000
/-! Pv2p: tuples that are made are plain objects. -/
namespace Pv
open PySem PySem.Spec PyProof.Rows L2
section
variable {X : Cx} {pins : List (Addr × Obj)} {σ : L2.St} {H : Hp} {s : Shared}
def tTupP (t : TA) : TE := fun σ H Q => t σ H fun xs H1 => xs.length ≤ sizeLine ∧ NwT H1 xs Q
theorem pe_tupP {es : List Expr} {t : TA} {x1 : Nat} {pos : Pos} (h : PA X es t) : PE X (.Tuple es x1 pos) (tTupP t) :=
  ⟨fun pins s σ H Q I hq => wpAny_Tuple_spliced (thn (h.run pos pins s σ H _ I hq) fun us s1 ⟨xs, H1, I1, r, z, q⟩ => ⟨r.length ▸ z, nwT_at (tk := s1.toks) I1 r z q⟩)⟩
/-- t + u -/
def rCatP (K : PySem.W.Frag) : R2 := fun x y H Q => ∃ a b xs ys, x = .ref a ∧ y = .ref b ∧ SqT K H a xs ∧ SqT K H b ys ∧ xs.length + ys.length ≤ sizeLine ∧
  (xs = [] → Q (.ref b) H) ∧ (ys = [] → Q (.ref a) H) ∧ NwT H (xs ++ ys) Q
theorem op_catP : OpR X (binaryOp .Add) (rCatP X.K) := by
  rintro pins s σ H x y v u Q I rx ry ⟨a, b, xs, ys, rfl, rfl, ha, hb, hz, q0, q1, q2⟩
  by_cases hx : xs = []
  · exact op_catA pins s σ H _ _ v u Q I rx ry ⟨a, b, xs, ys, rfl, rfl, ha, hb, hz, q0, fun h => absurd hx h, fun h => absurd hx h⟩
  · cases rx
    cases ry
    obtain ⟨its, r1, p1, _⟩ := I.tuple ha
    obtain ⟨its2, r2, p2, _⟩ := I.tuple hb
    refine HT.cat_tup p1 p2 (hx ∘ r1.nil_iff.mp) (fun z => ⟨.ref a, H, I, rfl, q1 (r2.nil_iff.mp z)⟩) (fun _ => ?_) (r1.length ▸ r2.length ▸ hz)
    exact nwT_at (tk := s.toks) I (r1.append r2) (List.length_append ▸ hz) q2
/-- t[lo:hi] -/
def rSlP (K : PySem.W.Frag) : V → Option Int → Option Int → Hp → VK → Prop := fun x lo hi H Q => ∃ a xs, x = .ref a ∧ SqT K H a xs ∧
  (cutV xs lo hi = xs → Q (.ref a) H) ∧ NwT H (cutV xs lo hi) Q
theorem sl_tupP : SlR X (rSlP X.K) := by
  rintro pins s σ H x v vl vu lo hi sl Q I rx hs pl pu ⟨a, xs, rfl, hx, q1, q2⟩
  by_cases hw : HT.sIx xs.length 0 lo = 0 ∧ HT.sIx xs.length xs.length hi = xs.length
  · refine sl_tupA pins s σ H _ v vl vu lo hi sl Q I rx hs pl pu ⟨a, xs, rfl, hx, fun h => q1 ?_, fun h => absurd hw h⟩
    unfold cutV
    rw [hw.1, hw.2, List.drop_zero, Nat.sub_zero, List.take_length]
  · cases rx
    obtain ⟨its, r, ht, hz⟩ := I.tuple hx
    have hl : its.toArray.size = xs.length := (List.size_toArray ..).trans r.length.symm
    refine ⟨"tuple", _, PyProof.Rows.slot_tuple_getitem.lookup, ht.typeIs, HT.getItem_tuple_cut ht hs pl pu (hl ▸ hw) ?_ (hl ▸ hz)⟩
    rw [hl]
    exact nwT_at (tk := s.toks) I ((r.drop (HT.sIx xs.length 0 lo)).take (HT.sIx xs.length xs.length hi - HT.sIx xs.length 0 lo)) (Nat.le_trans (cutV_length xs lo hi) hz) q2
/-- tuple(x), x a list or a tuple -/
theorem call_tupP : CallR X (.type "tuple") (fun xs H Q => ∃ p ys, xs = [.ref p] ∧ ((SqL X.K H p ys ∧ NwT H ys Q) ∨ (SqT X.K H p ys ∧ Q (.ref p) H))) := by
  rintro pins s σ H xs us Q I r ⟨p, ys, rfl, h⟩
  rcases h with ⟨hq, q⟩ | h
  rotate_left
  · exact call_tuple_of pins s σ H _ us Q I r ⟨p, ys, rfl, .inr h⟩
  obtain ⟨u, rfl, rx⟩ := vals1 r
  cases rx
  obtain ⟨its, r', pl, hz⟩ := I.list hq
  have hs : its.toArray.size ≤ sizeLine := by rw [List.size_toArray, ← r'.length]; exact hz
  exact call_tuple_list pl.isList (fun h' kp => nwT_at (tk := s.toks) (s := { s with heap := h' }) (I.kept (t' := s.toks) kp) r' hz q) (by have := hs; omega)
/-- t * k -/
def rRepP (K : PySem.W.Frag) : R2 := fun x y H Q => ∃ l k xs, x = .ref l ∧ y = .int k ∧ SqT K H l xs ∧ xs ≠ [] ∧ 2 ≤ k ∧ k ≤ 1000 ∧ xs.length ≤ 1000 ∧ NwT H (List.replicate k.toNat xs).flatten Q
theorem op_repP : OpR X (binaryOp .Mult) (rRepP X.K) := by
  rintro pins s σ H x y v u Q I rx ry ⟨l, k, xs, rfl, rfl, hT, hne, h1, h2, hz, q⟩
  cases rx
  obtain ⟨t, rfl⟩ := ry
  obtain ⟨its, r, ⟨⟨cls, dd, data, sl⟩, ho, hc, n, hd⟩, hs⟩ := I.tuple hT
  simp only at hc hd
  subst hc hd
  have hle : its.length = xs.length := r.length.symm
  have hi : its.toArray.isEmpty = false := by
    cases its with
    | nil => exact absurd (List.eq_nil_of_length_eq_zero hle.symm) hne
    | cons _ _ => rfl
  have hn : k.toNat * xs.length ≤ 1000 * 1000 := Nat.mul_le_mul (by omega) hz
  have hm : ((its.toArray.size : Nat) : Int) * k ≤ 1000000 := by
    have a1 : ((xs.length : Nat) : Int) * k ≤ 1000 * k := Int.mul_le_mul_of_nonneg_right (by omega) (by omega)
    rw [List.size_toArray, hle]
    omega
  have fl : ∀ {α : Type} (ys : List α), ys.length = xs.length → (List.replicate k.toNat ys).flatten.length ≤ sizeLine := fun ys e => by
    rw [PyProof.Rows.lm_len_rep_flat, e, sizeLine_eq]
    omega
  have d0 : (decide (k < -(2 ^ 63)) || decide (k ≥ 2 ^ 63)) = false := Bool.or_eq_false_iff.2 ⟨decide_eq_false (by omega), decide_eq_false (by omega)⟩
  have d1 : (its.toArray.isEmpty || k == 1) = false := Bool.or_eq_false_iff.2 ⟨hi, beq_eq_false_iff_ne.mpr (by omega)⟩
  have d2 : (decide (k ≤ 0) || its.toArray.isEmpty) = false := Bool.or_eq_false_iff.2 ⟨decide_eq_false (by omega), hi⟩
  have d4 : Builtin.Tuple.tupleTooMany (((its.toArray.size : Nat) : Int) * k) = false := decide_eq_false (by rw [sizeLine_eq]; omega)
  have ty : s.TypeIs (.ref l) "tuple" := ⟨_, ho, rfl⟩
  refine wpAny_binaryOp_repeat_ref (T := "tuple") (U := "int") (by decide) ty (fun s' => typeIs_int s' k t) noFill_tuple_mul F.fills_int_mul F.slot_int_rmul repeat_tuple F.slot_int_index.lookup ?_
  refine call_meets F.slot_int_rmul (typeIs_int s k t) F.entry_int_rmul (F.args_int_rmul_2 _ _) (int_rmul_tuple k t l its.toArray n dd sl) ⟨ho, rfl, ty, ?_⟩
  refine call_meets F.slot_tuple_mul ty F.entry_tuple_mul (F.args_tuple_mul_2 _ _) (tuple_mulW l its.toArray n dd sl k t d0 d1 d2 (by omega) d4 ?_) ⟨ho, ?_⟩
  · rw [size_rep, List.size_toArray]
    exact fl its hle
  · rw [size_rep]
    exact nwT_at (tk := s.toks) I (r.rep k.toNat) (fl xs rfl) q
/-- tuple(range(..)) -/
def tTupRgP (te : L2.St → Hp → (Int → Int → Hp → Prop) → Prop) : TE := fun σ H Q => te σ H fun a b H1 => RgOk a b ∧ NwT H1 (rgV a b) Q
theorem pe_tupRgP {e : Expr} {te : L2.St → Hp → (Int → Int → Hp → Prop) → Prop} {p pos : Pos} (hc : X.calm = true) (hg : Gl X "tuple") (hm : X.mg "tuple" = none) (he : PRg X e te) (na : starEach [e] X.env = (false, eval e X.env) :: starEach [] X.env := by rfl) :
    PE X (.Call (.Name "tuple" p) [e] [] pos) (tTupRgP te) := by
  refine ⟨fun pins s σ H Q I h => Call_ (ld_blt I hg hm boot_tuple (PyProof.Rows.callWith_type1 (args_cons (thn (he pins s σ H _ I h) ?_) na) na))⟩
  rintro x s1 ⟨r, a, b, t, u, v, H1, rfl, hr, J, ⟨b1, b2, b3, b4, b5⟩, q⟩
  refine args_nil (call_tuple_range (n := (b - a).toNat) (J.ok.hd hc) hr (small_one b1 b2 b3 b4) (rangeSize_nat a b) b5 fun h' tk acc hk hi => ?_)
  have w := nwT_at (s := { s1 with heap := h', toks := tk }) (tk := tk) (J.kept hk) (vals_rg hi) (by rw [rgV_length, sizeLine_eq]; omega) q
  rw [Array.toArray_toList] at w
  exact w
end
end Pv
set_option Elab.async false
set_option linter.all false
set_option maxRecDepth 100000
/-! Pv3: the operations on values, by the hand layer's rules. -/
namespace Pv
open PySem PySem.Spec PyProof.Rows L2

/-- the tables of a program: its defs (name, parameters, defaults), its constants, its exception classes (name, field) -/
structure GT where
  fns : List (Str × Nat × List PV)
  cons : List (Str × PV)
  excs : List (Str × Option Str)
  /-- defs that are used as values -/
  vals : List Nat := []
  /-- the classes that except clauses name -/
  hs : List Nat
  /-- of own classes: fields; methods, with their defs' numbers; __init__, with its number -/
  flds : List (Str × Str) := []
  meths : List (Str × Str × Nat × Nat) := []
  makes : List (Str × Nat × Nat) := []
  /-- defs that are handed a caught exception: what they tell, by its class -/
  cks : List (Str × List (Nat × Str)) := []
  /-- names that hold a dict where they are walked, by the def's names -/
  dn : List (List Str × Str) := []
  /-- defs, by their names, whose {} is a dict with tuple keys -/
  dt : List (List Str) := []
  tab : Tab

def RepX (K : PySem.W.Frag) (mg : Str → Option Value) (G : GT) (H : Hp) (m : List Addr) (ex : PEx) (cls : Value) (d : Option Addr) : Prop :=
  ∃ x fo, G.excs[ex.cls]? = some (x, fo) ∧ mg x = some cls ∧
    ((fo = none ∧ ex.fld = none ∧ d = none) ∨ ∃ f v dd w, fo = some f ∧ ex.fld = some v ∧ d = some dd ∧ H dd = some (.xd [(f, w)]) ∧ RepV K H m w v)
/-- what is wanted of a value, of an exception -/
def KE (K : PySem.W.Frag) (m : List Addr) (H : Hp) (Q : PQ) (Kv : VK) : Prop :=
  ∀ m' H' v pv S', Ext K m H m' H' → RlS K m' H' S' → RepV K H' m' v pv → Q pv S' → Kv v H'
def KX (K : PySem.W.Frag) (mg : Str → Option Value) (G : GT) (m : List Addr) (H : Hp) (E : PX) (Kx : XK) : Prop :=
  ∀ ex cls d m' H' S', Ext K m H m' H' → RlS K m' H' S' → RepX K mg G H' m' ex cls d → E ex S' → Kx cls d H'
section
variable {K : PySem.W.Frag} {mg : Str → Option Value} {G : GT} {m m' : List Addr} {H H' : Hp}
theorem KE.ext {Q : PQ} {Kv : VK} (k : KE K m H Q Kv) (e : Ext K m H m' H') : KE K m' H' Q Kv := fun m2 H2 v pv S2 e2 => k m2 H2 v pv S2 (e.trans e2)
theorem KX.ext {E : PX} {Kx : XK} (k : KX K mg G m H E Kx) (e : Ext K m H m' H') : KX K mg G m' H' E Kx := fun x c d m2 H2 S2 e2 => k x c d m2 H2 S2 (e.trans e2)
theorem KE.here {Q : PQ} {Kv : VK} (k : KE K m H Q Kv) {S : Store} {v : V} {pv : PV} (r : RlS K m H S) (h : RepV K H m v pv) (q : Q pv S) : Kv v H := k m H v pv S Ext.refl r h q
theorem KE.newT {Q : PQ} {Kv : VK} (k : KE K m H Q Kv) {S : Store} {xs : List V} {vs : List PV} (r : RlS K m H S) (h : RepL K H m xs vs) (q : Q (.tup vs) S) : NwT H xs Kv := fun p o n d => by
  have e : Ext K m H m (upd H p (.frz o (.tup xs))) := Ext.new _ n
  exact k m _ _ _ S e (r.new _ n) (.tup (PlT.of upd_same d) (RepL.ext e _ _ h)) q
theorem KE.newL {Q : PQ} {Kv : VK} (k : KE K m H Q Kv) {S : Store} {xs : List V} {vs : List PV} (r : RlS K m H S) (h : RepL K H m xs vs) (q : Q (.ref S.length) (S ++ [.lst vs])) {p : Addr} (n : H p = none) : Kv (.ref p) (upd H p (.lst xs)) :=
  k (m ++ [p]) _ _ _ _ (Ext.newL _ n) (r.newL n h) (.ref (by rw [← r.len]; exact get_last)) q
end

/-- a two-place operation that does what q says -/
def OpF (X : Cx) (f : Value → Value → Sem Value) (q : PV → PV → Store → PQ → Prop) : Prop :=
  ∃ r : R2, OpR X f r ∧ ∀ m H S x y v w Q Kv, RlS X.K m H S → RepV X.K H m x v → RepV X.K H m y w → q v w S Q → KE X.K m H Q Kv → r x y H Kv

section
variable {X : Cx}
theorem opF_int {f : Value → Value → Sem Value} {C : Int → Int → Prop} {g : Int → Int → V} {g' : Int → Int → PV} (h : OpR X f (rI C g)) (hg : ∀ K H m i j, RepV K H m (g i j) (g' i j)) : OpF X f (intQ C g') := by
  refine ⟨_, h, fun m H S x y v w Q Kv r hx hy q k => ?_⟩
  cases hx <;> cases hy <;> simp only [intQ] at q
  exact ⟨_, _, rfl, rfl, q.1, k.here r (hg _ _ _ _ _) q.2⟩
theorem opF_int0 {f : Value → Value → Sem Value} {g : Int → Int → V} {g' : Int → Int → PV} (h : OpR X f (rI0 g)) (hg : ∀ K H m i j, RepV K H m (g i j) (g' i j)) : OpF X f (intQ (fun _ _ => True) g') := by
  refine ⟨_, h, fun m H S x y v w Q Kv r hx hy q k => ?_⟩
  cases hx <;> cases hy <;> simp only [intQ] at q
  exact ⟨_, _, rfl, rfl, k.here r (hg _ _ _ _ _) q.2⟩
theorem opF_add : OpF X (binaryOp .Add) addQ := by
  refine ⟨_, (op_add.or op_catP).or (op_add_str.or op_cat), fun m H S x y v w Q Kv r hx hy q k => ?_⟩
  cases hx with
  | int i =>
    cases hy with
    | int j => exact .inl (.inl ⟨i, j, rfl, rfl, k.here r (.int _) q⟩)
    | _ => exact q.elim
  | str i =>
    cases hy with
    | str j => exact .inr (.inl ⟨i, j, rfl, rfl, q.1, k.here r (.str _) q.2⟩)
    | _ => exact q.elim
  | @tup a xs vs h1 h2 =>
    cases hy with
    | @tup b ys ws g1 g2 =>
      refine .inl (.inr ⟨a, b, xs, ys, rfl, rfl, h1.sq, g1.sq, by rw [h2.len, g2.len]; exact q.1, fun e => ?_, fun e => ?_, k.newT r (h2.append g2) q.2⟩)
      · subst e
        cases h2
        exact k.here r (.tup g1 g2) q.2
      · subst e
        cases g2
        have q2 := q.2
        rw [List.append_nil] at q2
        exact k.here r (.tup h1 h2) q2
    | _ => exact q.elim
  | @ref a i h1 =>
    cases hy with
    | @ref b j h2 =>
      obtain ⟨xs, ys, e1, e2, hz, q⟩ := q
      obtain ⟨a', xs', k1, k2, k3⟩ := r.at e1
      obtain ⟨b', ys', g1, g2, g3⟩ := r.at e2
      rw [h1] at k1; cases k1
      rw [h2] at g1; cases g1
      exact .inr (.inr ⟨a, b, xs', ys', rfl, rfl, k2, g2, by rw [k3.len, g3.len]; exact hz, fun p n => k.newL r (k3.append g3) q n⟩)
    | _ => exact q.elim
  | _ => exact q.elim
theorem RepL.rep {K : PySem.W.Frag} {H : Hp} {m : List Addr} {xs : List V} {vs : List PV} (h : RepL K H m xs vs) : ∀ n : Nat, RepL K H m (List.replicate n xs).flatten (List.replicate n vs).flatten
  | 0 => .nil
  | n + 1 => by
    rw [List.replicate_succ, List.replicate_succ, List.flatten_cons, List.flatten_cons]
    exact h.append (RepL.rep h n)
theorem opF_mul : OpF X (binaryOp .Mult) mulQ := by
  refine ⟨_, op_mul.or op_repP, fun m H S x y v w Q Kv r hx hy q k => ?_⟩
  cases hx with
  | int i =>
    cases hy with
    | int j => exact .inl ⟨i, j, rfl, rfl, q.1, k.here r (.int _) q.2⟩
    | _ => exact q.elim
  | @tup a xs vs h1 h2 =>
    cases hy with
    | int j =>
      obtain ⟨q1, q2, q3, q4, q5⟩ := q
      refine .inr ⟨a, j, xs, rfl, rfl, h1.sq, fun e => q1 (by subst e; cases h2; rfl), q2, q3, by rw [h2.len]; exact q4, k.newT r (h2.rep _) q5⟩
    | _ => exact q.elim
  | _ => cases hy <;> exact q.elim
def Bop : BOp → Operator
  | .add => .Add | .sub => .Sub | .mul => .Mult | .fdiv => .FloorDiv | .mod => .Mod | .pow => .Pow
theorem opF_bin : ∀ o : BOp, OpF X (binaryOp (Bop o)) (binQ o)
  | .add => opF_add
  | .sub => opF_int0 op_sub fun _ _ _ _ _ => .int _
  | .mul => opF_mul
  | .fdiv => opF_int op_fdiv fun _ _ _ _ _ => .int _
  | .mod => opF_int op_mod fun _ _ _ _ _ => .int _
  | .pow => opF_int op_pow fun _ _ _ _ _ => .int _

/-! ### comparisons -/
theorem room190 {k : Nat} {A : Around} (r : Room k A) : A.units + 190 < cLine := by have := r.un; omega
/-- == of data: the lesser depth counts -/
def rEqM (K : PySem.W.Frag) (f : Bool → Bool) : R2 := fun x y H Q => ∃ d e, Dp K H x d ∧ Dp K H y e ∧ d.canLay0 = true ∧ e.canLay0 = true ∧ min d.depth e.depth ≤ 190 ∧ Q (.bl (f (PyData.eqv d e))) H
theorem op_eqM (hu : X.A.units + 190 < cLine) : OpR X (compareOp .Eq) (rEqM X.K fun b => b) := by
  intro pins s σ H x y v u Q I rx ry h
  obtain ⟨d, e, hd, he, sd, se, hm, q⟩ := h
  obtain ⟨as, r1⟩ := Dp.reads I d x v hd rx
  obtain ⟨bs, r2⟩ := Dp.reads I e y u he ry
  exact SeqAt.compareEq_reads r1 r2 sd se (by omega) ⟨.bl _, H, I, rfl, q⟩
theorem op_neM (hu : X.A.units + 190 < cLine) : OpR X (compareOp .NotEq) (rEqM X.K fun b => !b) := by
  intro pins s σ H x y v u Q I rx ry h
  obtain ⟨d, e, hd, he, sd, se, hm, q⟩ := h
  obtain ⟨as, r1⟩ := Dp.reads I d x v hd rx
  obtain ⟨bs, r2⟩ := Dp.reads I e y u he ry
  exact SeqAt.compareNe_reads r1 r2 sd se (by omega) ⟨.bl _, H, I, rfl, q⟩
theorem data_dp {m : List Addr} {H : Hp} {S : Store} {x : V} {v : PV} (r : RlS X.K m H S) (h : RepV X.K H m x v) (hc : (dataV S v).canLay0 = true) : Dp X.K H x (dataV S v) := by
  cases h with
  | @ref a i h1 =>
    simp only [dataV] at hc ⊢
    split at hc
    · rename_i xs e
      obtain ⟨ys, g1, g2⟩ := r.sql e rfl h1
      exact .lst g1 (RepL.dp _ _ g2 (by simpa [PyData.canLay0] using hc))
    · simp [PyData.canLay0] at hc
  | non => exact RepV.dp (m := m) _ _ .non hc
  | bl b => exact RepV.dp (m := m) _ _ (.bl b) hc
  | int b => exact RepV.dp (m := m) _ _ (.int b) hc
  | str b => exact RepV.dp (m := m) _ _ (.str b) hc
  | tup h1 h2 => exact RepV.dp (m := m) _ _ (.tup h1 h2) hc
  | fn h1 => exact RepV.dp (m := m) _ _ (.fn h1) hc
def rEqF (f : Bool → Bool) : R2 := fun x y H Q => scal x y = true ∧ Q (.bl (f (decide (x = y)))) H
theorem eqF_of {f : Value → Value → Sem Value} {g : Bool → Bool} (h1 : OpR X f (rEqF g)) (h2 : OpR X f (rEqM X.K g)) : OpF X f (eqQ g) := by
  refine ⟨_, h1.or h2, fun m H S x y v w Q Kv r hx hy q k => ?_⟩
  have gen : eqOk v w ∧ Q (.bl (g (eqB v w))) S → rEqM X.K g x y H Kv := fun ⟨⟨a, b, c⟩, q⟩ => ⟨v.toD, w.toD, RepV.dp v x hx a, RepV.dp w y hy b, a, b, c, k.here r (.bl _) q⟩
  have genD : eqOkD S v w ∧ Q (.bl (g (PyData.eqv (dataV S v) (dataV S w)))) S → rEqM X.K g x y H Kv := fun ⟨⟨a, b, c⟩, q⟩ => ⟨dataV S v, dataV S w, data_dp r hx a, data_dp r hy b, a, b, c, k.here r (.bl _) q⟩
  cases hx with
  | str i =>
    cases hy with
    | str j =>
      refine .inl ⟨rfl, ?_⟩
      have e : decide (V.str i = V.str j) = decide (i = j) := by simp
      rw [e]
      exact k.here r (.bl _) q
    | @ref b j h1 => exact .inr (genD q)
    | _ => exact .inr (gen q)
  | int i =>
    cases hy with
    | int j =>
      refine .inl ⟨rfl, ?_⟩
      have e : decide (V.int i = V.int j) = decide (i = j) := by simp
      rw [e]
      exact k.here r (.bl _) q
    | @ref b j h1 => exact .inr (genD q)
    | _ => exact .inr (gen q)
  | @ref a i h1 => exact .inr (genD (by cases hy <;> exact q))
  | _ =>
    cases hy with
    | @ref b j h1 => exact .inr (genD q)
    | _ => exact .inr (gen q)
theorem rel_plain {H : Hp} {m : List Addr} {K : PySem.W.Frag} {x : V} {v : PV} {u : Value} (h : RepV K H m x v) (ru : RelV x u) (hv : ∀ b, v ≠ .bl b) (b : Bool) : plainIs u (.bool b) = true ∧ (u == .bool b) = false := by
  cases h with
  | non => cases ru; exact ⟨rfl, rfl⟩
  | bl c => exact absurd rfl (hv c)
  | int i => obtain ⟨t, rfl⟩ := ru; exact ⟨rfl, rfl⟩
  | str i => obtain ⟨t, rfl⟩ := ru; exact ⟨rfl, rfl⟩
  | tup _ _ => cases ru; exact ⟨rfl, rfl⟩
  | ref _ => cases ru; exact ⟨rfl, rfl⟩
  | fn _ => cases ru; exact ⟨rfl, rfl⟩
def notBl : V → Bool
  | .non | .int _ | .str _ | .ref _ => true
  | _ => false
def rIsB (f : Bool → Bool) : R2 := fun x y H Q => ∃ b, y = .bl b ∧ notBl x = true ∧ Q (.bl (f false)) H
def rBN (f : Bool → Bool) : R2 := fun x y H Q => y = .non ∧ Q (.bl (f (decide (x = .non)))) H
def rBB (f : Bool → Bool) : R2 := fun x y H Q => ∃ a b, x = .bl a ∧ y = .bl b ∧ Q (.bl (f (decide (a = b)))) H
theorem isB_plain {x : V} {u : Value} {b : Bool} (h : notBl x = true) (r : RelV x u) : plainIs u (.bool b) = true ∧ (u == .bool b) = false := by
  cases x with
  | non => cases r; exact ⟨rfl, rfl⟩
  | int i => obtain ⟨t, rfl⟩ := r; exact ⟨rfl, rfl⟩
  | str i => obtain ⟨t, rfl⟩ := r; exact ⟨rfl, rfl⟩
  | ref a => cases r; exact ⟨rfl, rfl⟩
  | _ => cases h
theorem op_isB : OpR X (compareOp .Is) (rIsB fun b => b) := by
  intro pins s σ H x y v u Q I rx ry h
  obtain ⟨b, rfl, hn, q⟩ := h
  cases (show u = Value.bool b from ry)
  obtain ⟨p, e⟩ := isB_plain (b := b) hn rx
  exact wpAny_is_plain p (by rw [e]; exact ⟨.bl false, H, I, rfl, q⟩)
theorem op_isnotB : OpR X (compareOp .IsNot) (rIsB fun b => !b) := by
  intro pins s σ H x y v u Q I rx ry h
  obtain ⟨b, rfl, hn, q⟩ := h
  cases (show u = Value.bool b from ry)
  obtain ⟨p, e⟩ := isB_plain (b := b) hn rx
  exact wpAny_isNot_plain p (by rw [e]; exact ⟨.bl true, H, I, rfl, q⟩)
theorem isF_of {f : Value → Value → Sem Value} {g : Bool → Bool} (h1 : OpR X f (rBN g)) (h2 : OpR X f (rBB g)) (h3 : OpR X f (rIsB g)) : OpF X f (isQ g) := by
  refine ⟨_, h1.or (h2.or h3), fun m H S x y v w Q Kv r hx hy q k => ?_⟩
  cases hx <;> cases hy <;> first
    | exact q.elim
    | exact .inl ⟨rfl, k.here r (.bl _) q⟩
    | exact .inl ⟨rfl, by simpa using k.here r (.bl _) q⟩
    | exact .inr (.inl ⟨_, _, rfl, rfl, k.here r (.bl _) q⟩)
    | exact .inr (.inr ⟨_, rfl, rfl, k.here r (.bl _) q⟩)
theorem rep_flat {K : PySem.W.Frag} {H : Hp} {m : List Addr} {x : V} {v : PV} (h : RepV K H m x v) : flatV x = flatP v := by cases h <;> rfl
theorem repL_flat {K : PySem.W.Frag} {H : Hp} {m : List Addr} : ∀ {xs : List V} {vs : List PV}, RepL K H m xs vs → xs.all flatV = vs.all flatP
  | _, _, .nil => rfl
  | _, _, .cons a t => by rw [List.all_cons, List.all_cons, rep_flat a, repL_flat t]
theorem rep_eq {K : PySem.W.Frag} {H : Hp} {m : List Addr} {x y : V} {v w : PV} (h : RepV K H m x v) (g : RepV K H m y w) (f1 : flatP v = true) (f2 : flatP w = true) : L2.eqV x y = eqF v w := by
  cases h <;> cases g <;> first | rfl | (simp [flatP] at f1; done) | (simp [flatP] at f2; done) | simp [L2.eqV, eqF, PV.toD, PyData.eqv]
theorem repL_in {K : PySem.W.Frag} {H : Hp} {m : List Addr} {x : V} {v : PV} (h : RepV K H m x v) (f1 : flatP v = true) : ∀ {xs : List V} {vs : List PV}, RepL K H m xs vs → vs.all flatP = true → L2.inV x xs = inB v vs
  | _, _, .nil, _ => rfl
  | _, _, .cons a t, f2 => by
    rw [List.all_cons, Bool.and_eq_true] at f2
    have q := repL_in h f1 t f2.2
    unfold L2.inV inB at q ⊢
    rw [List.any_cons, List.any_cons, q, rep_eq a h f2.1 f1]
/-- x in a dict -/
theorem DGet.rd {H : Hp} {a : Addr} {kvs : List (Key × V)} {k : Key} (e : Rd H a (.dK kvs)) : DGet H a (kV k) (valV kvs k) := .inl ⟨kvs, k, e, rfl, rfl⟩
def rInD (neg : Bool) : R2 := fun x y H Q => ∃ a kvs k, y = .ref a ∧ Rd H a (.dK kvs) ∧ x = kV k ∧ Q (.bl (if neg = true then !(valV kvs k).isSome else (valV kvs k).isSome)) H
theorem op_inD (hu : X.A.units + 190 < cLine) : OpR X (compareOp .In) (rInD false) := by
  intro pins s σ H x y v u Q I rx ry h
  obtain ⟨a, kvs, k, rfl, ha, rfl, q⟩ := h
  obtain rfl : u = Value.ref a := ry
  exact d_in (by omega) I (DGet.rd ha) rx fun s' I' => ⟨.bl _, H, I', rfl, q⟩
theorem op_notinD (hu : X.A.units + 190 < cLine) : OpR X (compareOp .NotIn) (rInD true) := by
  intro pins s σ H x y v u Q I rx ry h
  obtain ⟨a, kvs, k, rfl, ha, rfl, q⟩ := h
  obtain rfl : u = Value.ref a := ry
  exact d_notIn (by omega) I (DGet.rd ha) rx fun s' I' => ⟨.bl _, H, I', rfl, q⟩
theorem rep_key {K : PySem.W.Frag} {H : Hp} {m : List Addr} {x : V} {v : PV} {k : Key} (h : RepV K H m x v) (e : keyOf v = some k) : x = kV k := by
  cases h <;> simp [keyOf] at e <;> subst e <;> rfl
theorem rep_keyV {K : PySem.W.Frag} {H : Hp} {m : List Addr} (k : Key) : RepV K H m (kV k) (keyPV k) := by
  cases k with
  | inl i => exact .int i
  | inr x => exact .str x
theorem RepD.keysL {K : PySem.W.Frag} {H : Hp} {m : List Addr} : ∀ {xs : List (Key × V)} {vs : List (Key × PV)}, RepD K H m xs vs → RepL K H m (xs.map fun kv => kV kv.1) (keysP vs)
  | _, _, .nil => .nil
  | _, _, .cons (k := k) h t => .cons (rep_keyV k) (RepD.keysL t)
/-- x in a list or a tuple of data of any depth -/
def rInM (K : PySem.W.Frag) (neg : Bool) : R2 := fun x y H Q => ∃ d ds, Dp K H x d ∧ (Dp K H y (.list ds) ∨ Dp K H y (.tuple ds)) ∧ d.canLay0 = true ∧ PyData.canLayAll0 ds = true ∧ min (PyData.depthAll ds) d.depth ≤ 180 ∧ Q (.bl (if neg = true then !(ds.any fun z => PyData.eqv z d) else ds.any fun z => PyData.eqv z d)) H
theorem op_inM (hu : X.A.units + 190 < cLine) : OpR X (compareOp .In) (rInM X.K false) := by
  intro pins s σ H x y v u Q I rx ry h
  obtain ⟨d, ds, hd, he, sd, se, hm, q⟩ := h
  obtain ⟨as, r1⟩ := Dp.reads I d x v hd rx
  rcases he with he | he
  · obtain ⟨bs, r2⟩ := Dp.reads I _ y u he ry
    exact SeqAt.in_list_reads r2 r1 se sd (by omega) ⟨.bl _, H, I, rfl, q⟩
  · obtain ⟨bs, r2⟩ := Dp.reads I _ y u he ry
    exact SeqAt.in_tuple_reads r2 r1 se sd (by omega) ⟨.bl _, H, I, rfl, q⟩
theorem op_notInM (hu : X.A.units + 190 < cLine) : OpR X (compareOp .NotIn) (rInM X.K true) := by
  intro pins s σ H x y v u Q I rx ry h
  obtain ⟨d, ds, hd, he, sd, se, hm, q⟩ := h
  obtain ⟨as, r1⟩ := Dp.reads I d x v hd rx
  rcases he with he | he
  · obtain ⟨bs, r2⟩ := Dp.reads I _ y u he ry
    exact SeqAt.notIn_list_reads r2 r1 se sd (by omega) ⟨.bl _, H, I, rfl, q⟩
  · obtain ⟨bs, r2⟩ := Dp.reads I _ y u he ry
    exact SeqAt.notIn_tuple_reads r2 r1 se sd (by omega) ⟨.bl _, H, I, rfl, q⟩
theorem any_toDs (d : PyData) : ∀ vs : List PV, (PV.toDs vs).any (fun z => PyData.eqv z d) = vs.any fun z => PyData.eqv z.toD d
  | [] => rfl
  | v :: vs => by simp only [PV.toDs, List.any_cons, any_toDs d vs]
theorem inF_of {f : Value → Value → Sem Value} {neg : Bool} (h1 : OpR X f (rIn X.K neg)) (h2 : OpR X f (rInD neg)) (h3 : OpR X f (rInM X.K neg)) : OpF X f (inQ fun b => if neg = true then !b else b) := by
  refine ⟨_, (h1.or h3).or h2, fun m H S x y v w Q Kv r hx hy q k => ?_⟩
  have genM : ∀ (p : Addr) (xs : List V) (vs : List PV), (SqL X.K H p xs ∨ SqT X.K H p xs) → RepL X.K H m xs vs → inOkD v vs S ∧ Q (.bl (if neg = true then !inBD S v vs else inBD S v vs)) S → rInM X.K neg x (.ref p) H Kv := fun p xs vs hq hl ⟨⟨a, b, c⟩, q⟩ => by
    refine ⟨dataV S v, PV.toDs vs, data_dp r hx a, ?_, a, b, c, ?_⟩
    · rcases hq with hq | hq
      · exact .inl (.lst hq (RepL.dp _ _ hl b))
      · exact .inr (.tup hq (RepL.dp _ _ hl b))
    · rw [any_toDs]
      exact k.here r (.bl _) q
  have gen : ∀ (p : Addr) (xs : List V) (vs : List PV), (SqL X.K H p xs ∨ SqT X.K H p xs) → RepL X.K H m xs vs → inOk v vs ∧ Q (.bl (if neg = true then !inB v vs else inB v vs)) S → rIn X.K neg x (.ref p) H Kv := fun p xs vs hq hl ⟨⟨a, b⟩, q⟩ => by
    refine ⟨p, xs, rfl, hq, (rep_flat hx).trans a, (repL_flat hl).trans b, ?_⟩
    rw [repL_in hx a hl b]
    exact k.here r (.bl _) q
  have genA : ∀ (p : Addr) (xs : List V) (vs : List PV), (SqL X.K H p xs ∨ SqT X.K H p xs) → RepL X.K H m xs vs → inAny v vs S (fun b => Q (.bl (if neg = true then !b else b)) S) → rIn X.K neg x (.ref p) H Kv ∨ rInM X.K neg x (.ref p) H Kv := fun p xs vs hq hl q => by
    rcases q with q | q
    · exact .inl (gen p xs vs hq hl q)
    · exact .inr (genM p xs vs hq hl q)
  cases hy with
  | tup h1 h2 => exact .inl (genA _ _ _ (.inr h1.sq) h2 (by cases v <;> exact q))
  | @ref b j h1 =>
    have q' : ∃ o : Mo, S[j]? = some o ∧ o.inQ v S fun b => Q (.bl (if neg = true then !b else b)) S := by cases v <;> exact q
    obtain ⟨o, e, q⟩ := q'
    cases o with
    | lst vs =>
      obtain ⟨xs, g1, g2⟩ := r.sql e rfl h1
      exact .inl (genA _ _ _ (.inl g1) g2 q)
    | frz vs =>
      obtain ⟨xs, g1, g2⟩ := r.sql e rfl h1
      exact .inl (genA _ _ _ (.inl g1) g2 q)
    | dct vs =>
      obtain ⟨kk, ek, q⟩ := q
      obtain ⟨a, xs, g1, g2, g3⟩ := r.dct e
      rw [h1] at g1
      cases g1
      refine .inr ⟨b, xs, kk, rfl, .inl g2, rep_key hx ek, ?_⟩
      have : (valV xs kk).isSome = (getP vs kk).isSome := by
        rcases g3.get (k := kk) with ⟨z1, z2⟩ | ⟨_, _, z1, z2, _⟩ <;> rw [z1, z2] <;> rfl
      rw [this]
      exact k.here r (.bl _) q
    | dctF vs g =>
      obtain ⟨kk, ek, q⟩ := q
      obtain ⟨a, g1, g2, g3⟩ := r.dctF e
      rw [h1] at g1
      cases g1
      refine .inr ⟨b, g.2, kk, rfl, .inr ⟨_, g2⟩, rep_key hx ek, ?_⟩
      have : (valV g.2 kk).isSome = (getP vs kk).isSome := by
        rcases g3.get (k := kk) with ⟨z1, z2⟩ | ⟨_, _, z1, z2, _⟩ <;> rw [z1, z2] <;> rfl
      rw [this]
      exact k.here r (.bl _) q
    | ins _ _ => exact q.elim
    | dctT _ => exact q.elim
  | _ => cases v <;> exact q.elim
def Cop : COp → CmpOp
  | .eq => .Eq | .ne => .NotEq | .lt => .Lt | .le => .LtE | .gt => .Gt | .ge => .GtE | .is => .Is | .isnot => .IsNot | .isin => .In | .notin => .NotIn
theorem toDs_ints : ∀ ns : List Int, PV.toDs (ns.map .int) = ns.map .int
  | [] => rfl
  | n :: ns => by simp only [List.map_cons, PV.toDs, toDs_ints ns]; rfl
theorem lay_ints : ∀ ns : List Int, PyData.canLayAll0 (PV.toDs (ns.map PV.int)) = true
  | [] => by simp [PV.toDs, PyData.canLayAll0]
  | n :: ns => by simp only [List.map_cons, PV.toDs, PyData.canLayAll0, lay_ints ns]; simp [PV.toD, PyData.canLay0]
theorem rep_tupI {m : List Addr} {H : Hp} {x : V} {p : List Int} (h : RepV X.K H m x (tupI p)) : Dp X.K H x (.tuple (p.map .int)) := by
  cases h with
  | tup h1 h2 => exact .tup h1.sq (by have := RepL.dp _ _ h2 (lay_ints p); rw [toDs_ints] at this; exact this)
theorem opF_lt (hu : X.A.units + 190 < cLine) : OpF X (compareOp .Lt) ltQ := by
  refine ⟨_, op_lt.or (op_ltT hu), fun m H S x y v w Q Kv r hx hy q k => ?_⟩
  cases hx with
  | int i =>
    cases hy with
    | int j => exact .inl ⟨i, j, rfl, rfl, k.here r (.bl _) q⟩
    | _ => exact q.elim
  | tup h1 h2 =>
    cases hy with
    | tup g1 g2 =>
      obtain ⟨ns, ms, rfl, rfl, q⟩ := q
      exact .inr ⟨ns, ms, rep_tupI (.tup h1 h2), rep_tupI (.tup g1 g2), k.here r (.bl _) q⟩
    | _ => exact q.elim
  | _ => cases hy <;> exact q.elim
theorem opF_cmp (hu : X.A.units + 190 < cLine) : ∀ o : COp, OpF X (compareOp (Cop o)) (cmpQ o)
  | .eq => eqF_of (g := fun b => b) op_eq (op_eqM hu)
  | .ne => eqF_of (g := fun b => !b) op_ne (op_neM hu)
  | .lt => opF_lt hu
  | .le => opF_int0 op_le fun _ _ _ _ _ => .bl _
  | .gt => opF_int0 op_gt fun _ _ _ _ _ => .bl _
  | .ge => opF_int0 op_ge fun _ _ _ _ _ => .bl _
  | .is => isF_of (g := fun b => b) op_isN op_is_bl op_isB
  | .isnot => isF_of (g := fun b => !b) op_notN op_isnot_bl op_isnotB
  | .isin => inF_of (neg := false) op_in_seq (op_inD hu) (op_inM hu)
  | .notin => inF_of (neg := true) op_notIn_seq (op_notinD hu) (op_notInM hu)
end
end Pv
set_option Elab.async false
set_option linter.all false
set_option maxRecDepth 100000
set_option maxHeartbeats 1000000
/-! Pv3d: dict(x) of a tuple, a list of pairs, a dict. -/
namespace Pv
open PySem PySem.Spec PyProof.Rows L2
section
variable {X : Cx} {pins : List (Addr × Obj)} {σ : L2.St} {H : Hp} {s : Shared}
theorem plain_at (I : Inv X pins σ H s) {a : Addr} {xs : List V} (h : PlT X.K H a xs) : ∃ its : List Value, Vals xs its ∧ PlainSeq "tuple" s.heap a its.toArray ∧ xs.length ≤ sizeLine := by
  rcases h with ⟨o, h, d⟩ | ⟨o, its, n, hk, hc, d, hs, hz, r⟩
  · obtain ⟨e, z, its, r, o', e', c, n, g⟩ := I.hok a _ h
    rw [e] at e'
    cases e'
    exact ⟨its, r, ⟨o, n, e, c, d, g⟩, z⟩
  · have e := r.length
    refine ⟨its.toList, r, ⟨o, n, I.kIn a o hk, hc, d, by simpa using hs⟩, ?_⟩
    simp only [Array.length_toList] at e
    omega
theorem pairs_at (I : Inv X pins σ H s) : ∀ {ps : List Addr} {kvs : List (Key × V)}, Paired (fun p kv => SqT X.K H p [kV kv.1, kv.2]) ps kvs →
    ∃ (prs : List (Key × Value)) (ws : List (Value × Value)), KV kvs prs ∧ prs.length = ps.length ∧ ws.length = ps.length ∧
      ∀ (j : Nat) (w : Value × Value), ws[j]? = some w → ∃ (b : Addr) (k : Key), ps[j]? = some b ∧ IsTup s.heap b #[w.1, w.2] ∧ prs[j]? = some (k, w.2) ∧ keyIs k w.1 = true
  | _, _, .nil => ⟨[], [], .nil, rfl, rfl, fun j q e => by simp at e⟩
  | _, _, .cons (a := p) (b := kv) h t => by
    obtain ⟨prs, ws, r, l1, l2, hp⟩ := pairs_at I t
    obtain ⟨its, rv, ht, _⟩ := I.tuple h
    obtain ⟨u, y, rfl, ru, ry⟩ := vals2 rv
    refine ⟨(kv.1, y) :: prs, (u, y) :: ws, .cons ⟨rfl, ry⟩ r, by simp [l1], by simp [l2], fun j w e => ?_⟩
    match j with
    | 0 =>
      simp only [List.getElem?_cons_zero, Option.some.injEq] at e
      subst e
      exact ⟨p, kv.1, rfl, ht, rfl, kV_is (P := X.prog) (w := X.w) ru⟩
    | j + 1 =>
      simp only [List.getElem?_cons_succ] at e ⊢
      exact hp j w e
/-- dict(t), t a plain tuple of pairs -/
theorem call_dictT (hc : X.calm = true) : CallR X (.type "dict") (fun xs H Q => ∃ (a : Addr) (ps : List Addr) (kvs : List (Key × V)), xs = [.ref a] ∧ PlT X.K H a (ps.map V.ref) ∧ Paired (fun p kv => SqT X.K H p [kV kv.1, kv.2]) ps kvs ∧
    ∀ p, H p = none → Q (.ref p) (upd H p (.dK (mergeK [] kvs)))) := by
  rintro pins s σ H xs us Q I r ⟨a, ps, kvs, rfl, hq, hp, q⟩
  obtain ⟨u, rfl, rx⟩ := vals1 r
  cases rx
  obtain ⟨its, rv, pl, hz⟩ := plain_at I hq
  have ei := refs_at rv
  subst ei
  rw [List.length_map] at hz
  obtain ⟨prs, ws, rel, l1, l2, hw⟩ := pairs_at I hp
  have hit : PairItems s.heap (ps.map Value.ref).toArray (fun j => ps.getD j 0) ws := by
    refine ⟨by simp [l2], fun j k v e => ?_⟩
    obtain ⟨b, kk, e1, e2, _⟩ := hw j _ e
    refine ⟨by simp [e1], .inl ?_⟩
    show s.heap.IsTuple (ps.getD j 0) #[k, v]
    rw [show ps.getD j 0 = b from by simp [e1]]
    exact e2
  have hh : PairsHave (mixKind X.prog X.w) ws.length (PairRel ws) prs := by
    refine ⟨l1.trans l2.symm, fun i key v e => ?_⟩
    obtain ⟨b, kk, _, _, e3, e4⟩ := hw i _ e
    exact ⟨kk, e3, e4⟩
  refine PySem.call_dict_pairs (knd := mixKind X.prog X.w) (PairArg.tuple a (ps.map Value.ref).toArray (fun j => ps.getD j 0) ws) (I.ok.hd hc) ⟨pl, hit⟩ hh (by omega) fun h' tk hd' k => ?_
  have hm : (s.heap.objs.size == sysModules) = false := beq_eq_false_iff_ne.mpr (Nat.ne_of_gt I.big)
  have hlen : (mergeK [] kvs).length ≤ sizeLine := by
    refine Nat.le_trans (length_mergeK kvs []) ?_
    rw [List.length_nil, Nat.zero_add, rel.length, l1]
    exact hz
  have ob : ObjOk X.prog X.w (upd H s.heap.objs.size (.dK (mergeK [] kvs))) h' s.heap.objs.size (.dK (mergeK [] kvs)) := ⟨hlen, hm, merged [] prs, KV.merge rel .nil, hd'⟩
  exact ⟨.ref _, _, I.laid (t' := tk) (fun b o e => k b o (by simp) e) (Nat.le_refl _) ob, rfl, q _ (I.hok.fresh (Nat.le_refl _))⟩
/-- dict(d): a copy -/
theorem call_dictC : CallR X (.type "dict") (fun xs H Q => ∃ (a : Addr) (kvs : List (Key × V)), xs = [.ref a] ∧ Rd H a (.dK kvs) ∧ ∀ p, H p = none → Q (.ref p) (upd H p (.dK kvs))) := by
  rintro pins s σ H xs us Q I r ⟨a, kvs, rfl, hq, q⟩
  obtain ⟨u, rfl, rx⟩ := vals1 r
  cases rx
  exact d_copyOf I hq fun p s' hp I' => ⟨.ref p, _, I', rfl, q p hp⟩
theorem RepD.merge {κ : Type} [DecidableEq κ] {K : PySem.W.Frag} {m : List Addr} {more : List (κ × V)} {mp : List (κ × PV)} (h : RepD K H m more mp) : ∀ {acc : List (κ × V)} {accP : List (κ × PV)}, RepD K H m acc accP →
    RepD K H m (more.foldl (fun acc kv => putK acc kv.1 kv.2) acc) (mergeP accP mp) := by
  induction h with
  | nil => intro acc accP g; exact g
  | cons h t ih => intro acc accP g; exact ih (g.put h)
/-- a tuple of pairs -/
theorem rep_pairs {K : PySem.W.Frag} {m : List Addr} : ∀ {xs : List V} {ws : List PV} {kvp : List (Key × PV)}, RepL K H m xs ws → pairsP ws = some kvp →
    ∃ (ps : List Addr) (kvs : List (Key × V)), xs = ps.map V.ref ∧ Paired (fun p kv => SqT K H p [kV kv.1, kv.2]) ps kvs ∧ RepD K H m kvs kvp
  | _, _, kvp, .nil, e => by
    simp only [pairsP, Option.some.injEq] at e
    subst e
    exact ⟨[], [], rfl, .nil, .nil⟩
  | _, _, kvp, .cons (v := v) (vs := vs) h t, e => by
    unfold pairsP at e
    split at e
    · rename_i q; cases q
    · rename_i k w r q
      cases q
      simp only [Option.bind_eq_some_iff, Option.map_eq_some_iff] at e
      obtain ⟨kk, hk, rest, hr, rfl⟩ := e
      obtain ⟨ps, kvs, rfl, hp, hd⟩ := rep_pairs t hr
      cases h with
      | @tup a ys _ h1 h2 =>
        cases h2 with
        | cons g1 g2 =>
          cases g2 with
          | cons g2 g3 =>
            cases g3
            have e1 := rep_key g1 hk
            subst e1
            exact ⟨a :: ps, (kk, _) :: kvs, rfl, .cons h1.sq hp, .cons g2 hd⟩
    · cases e
end
end Pv
set_option Elab.async false
set_option linter.all false
set_option maxRecDepth 100000
set_option maxHeartbeats 1000000
/-! Pv3s: sorted of pairs (number, anything), sorted(d.items()). -/
namespace PySem.W
open PySem PySem.Calls PySem.SeqAt PyProof.Rows
section
variable {prog : Program} {w : World} {A : Around} {s : Shared}
/-- pairs whose heads are numbers, by their addresses -/
def HeadAt (h : Heap) (a : Addr) (i : Int) : Prop := ∃ (o : Obj) (t : Tok) (v : Value) (n : Nat), h.get? a = some o ∧ o.cls = .type "tuple" ∧ o.data = .seq #[.int i t, v] n
/-- their kind of keys -/
def headKind (ps : List (Addr × Int)) : PyProof.Rows.KeyKind where
  toKeyOrd := PyProof.Rows.intKind.toKeyOrd
  keyOf v := match v with | .ref a => ps.lookup a | _ => none
  dflt := (0 : Int)
theorem lookup_in {α β : Type} [BEq α] [LawfulBEq α] : ∀ {ps : List (α × β)} {a : α} {i : β}, ps.lookup a = some i → (a, i) ∈ ps
  | (b, j) :: ps, a, i, e => by
    rw [List.lookup_cons] at e
    split at e
    · rename_i q
      cases e
      rw [eq_of_beq q]
      exact .head _
    · exact .tail _ (lookup_in e)
theorem in_lookup {α β : Type} [BEq α] [LawfulBEq α] : ∀ {ps : List (α × β)} {a : α} {i : β}, (ps.map (·.1)).Nodup → (a, i) ∈ ps → ps.lookup a = some i
  | (b, j) :: ps, a, i, hn, h => by
    rw [List.lookup_cons]
    rcases List.mem_cons.1 h with h1 | h1
    · cases h1; simp
    · have hn' := List.nodup_cons.1 hn
      have : (a == b) = false := by
        rw [beq_eq_false_iff_ne]
        intro e
        exact hn'.1 (List.mem_map.2 ⟨_, h1, e⟩)
      rw [this]
      exact in_lookup hn'.2 h1
theorem sorts_heads {ps : List (Addr × Int)} (h : ∀ p, p ∈ ps → HeadAt s.heap p.1 p.2) (hn : (ps.map (·.1)).Nodup) (hk : (ps.map (·.2)).Nodup) (hu : A.units + 2 < cLine) : SortsAt prog w A s (headKind ps) (ps.map fun p => .ref p.1) := by
  have inj : ∀ {a b : Addr} {i : Int}, (a, i) ∈ ps → (b, i) ∈ ps → a = b := by
    clear h hn
    induction ps with
    | nil => intro a b i h; cases h
    | cons p ps ih =>
      intro a b i h1 h2
      have hk' := List.nodup_cons.1 hk
      rcases List.mem_cons.1 h1 with e1 | m1 <;> rcases List.mem_cons.1 h2 with e2 | m2
      · rw [← e1] at e2; cases e2; rfl
      · subst e1; exact (hk'.1 (List.mem_map.2 ⟨_, m2, rfl⟩)).elim
      · subst e2; exact (hk'.1 (List.mem_map.2 ⟨_, m1, rfl⟩)).elim
      · exact ih hk'.2 m1 m2
  refine ⟨fun v hv => ?_, tuples' (Value.type "int" != Value.type "tuple"), ?_, fun h2 E Q hq => ?_⟩
  · obtain ⟨p, hp, rfl⟩ := List.mem_map.1 hv
    exact ⟨p.2, in_lookup hn (i := p.2) (a := p.1) hp⟩
  · intro E x y a b Q ha hb hq
    cases x <;> first | cases ha | skip
    cases y <;> first | cases hb | skip
    rename_i l l'
    have ma := lookup_in (show ps.lookup l = some a from ha)
    have mb := lookup_in (show ps.lookup l' = some b from hb)
    obtain ⟨o, t, v, n, h1, h2, h3⟩ := h _ ma
    obtain ⟨o', t', v', n', k1, k2, k3⟩ := h _ mb
    refine kat_lt h1 h3 k1 k3 (kat_cons (EqAt.int_int a t b t' prog w _ _ ?_))
    refine kat_go (fun e => ?_) (fun e => ?_)
    · have e : (a : Int) = b := eq_of_beq (α := Int) e
      subst e
      cases inj ma mb
      rw [h1] at k1
      cases k1
      rw [h3] at k3
      cases k3
      refine kat_yes (kat_cons (EqAt.same v prog w _ _ (kat_yes (kat_nil ?_))))
      have e0 : (headKind ps).blt a a = false := (headKind ps).irrefl a
      have hq' : Q ((headKind ps).blt a a) s := hq
      rw [e0] at hq'
      simpa using hq'
    · refine kat_no (oneLt_int ?_)
      exact hq
  · have firsts : ∀ qs : List (Addr × Int), (∀ p, p ∈ qs → HeadAt s.heap p.1 p.2) → ∃ fs, KatTups s.heap (qs.map fun p => Value.ref p.1) fs ∧ fs.length = qs.length ∧ ∀ f, f ∈ fs → ∃ i t, f = Value.int i t := by
      intro qs
      induction qs with
      | nil => intro _; exact ⟨[], trivial, rfl, fun f hf => by cases hf⟩
      | cons q qs ih =>
        intro hq
        obtain ⟨fs, f1, f2, f3⟩ := ih fun p hp => hq p (.tail _ hp)
        obtain ⟨o, t, v, n, g1, g2, g3⟩ := hq q (.head _)
        exact ⟨.int q.2 t :: fs, ⟨⟨q.1, o, _, n, rfl, g1, g2, g3, rfl⟩, f1⟩, by simp [f2], fun f hf => by
          rcases List.mem_cons.1 hf with rfl | hf
          · exact ⟨_, _, rfl⟩
          · exact f3 f hf⟩
    obtain ⟨fs, f1, f2, f3⟩ := firsts ps h
    rw [List.length_map] at h2
    refine kat_kind (T := Value.type "int") f1 (by omega) (fun f hf => ?_) (beq_self_eq_true _) hq
    obtain ⟨i, t, rfl⟩ := f3 f hf
    exact Looks.of_pure rfl
/-- what the sort leaves -/
theorem sortVals_heads {α : Type} (f : α → Addr × Int) (qs : List α) (hn : (qs.map fun q => (f q).1).Nodup) :
    sortVals (headKind (qs.map f)) false (qs.map fun q => Value.ref (f q).1) (qs.map fun q => Value.ref (f q).1) = (qs.mergeSort fun a b => decide ((f a).2 ≤ (f b).2)).map fun q => Value.ref (f q).1 := by
  have e1 : EachIs (fun v q => v = Value.ref (f q).1) (qs.map fun q => Value.ref (f q).1) qs := by
    clear hn
    induction qs with
    | nil => exact .nil
    | cons q qs ih => exact .cons rfl ih
  have hn2 : ((qs.map f).map (·.1)).Nodup := by rw [List.map_map]; exact hn
  have e2 : EachIs (fun v q => (headKind (qs.map f)).keyOf v = some (f q).2) (qs.map fun q => Value.ref (f q).1) qs := by
    have : ∀ rs : List α, (∀ r, r ∈ rs → r ∈ qs) → EachIs (fun v q => (headKind (qs.map f)).keyOf v = some (f q).2) (rs.map fun q => Value.ref (f q).1) rs := by
      intro rs
      induction rs with
      | nil => intro _; exact .nil
      | cons r rs ih => intro hr; exact .cons (in_lookup hn2 (List.mem_map.2 ⟨r, hr r (.head _), rfl⟩)) (ih fun x hx => hr x (.tail _ hx))
    exact this qs fun _ h => h
  have e3 := sortVals_each (κ := headKind (qs.map f)) (rev := false) (fun q => (f q).2) e1 e2
  have e4 : (sortLe (headKind (qs.map f)).toKeyOrd false fun q => (f q).2) = fun a b => decide ((f a).2 ≤ (f b).2) := by
    funext a b
    show (!decide ((f b).2 < (f a).2)) = _
    by_cases h : (f a).2 ≤ (f b).2
    · simp [h, Int.not_lt.2 h]
    · simp [h, Int.lt_of_not_ge h]
  rw [e4] at e3
  clear e1 e2 e4 hn hn2
  generalize sortVals (headKind (qs.map f)) false (qs.map fun q => Value.ref (f q).1) (qs.map fun q => Value.ref (f q).1) = vs at e3
  generalize (qs.mergeSort fun a b => decide ((f a).2 ≤ (f b).2)) = rs at e3 ⊢
  induction e3 with
  | nil => rfl
  | cons h t ih => rw [List.map_cons, h, ih]
end
end PySem.W
namespace Pv
open PySem PySem.Spec PySem.W PyProof.Rows L2 L2.DX
section
variable {X : Cx} {pins : List (Addr × Obj)} {σ : L2.St} {H : Hp} {s : Shared}
/-- a value is a pair, by its address -/
def PrAt (K : PySem.W.Frag) (H : Hp) (v : V) (q : Int × V) : Prop := ∃ a : Addr, v = .ref a ∧ SqT K H a [.int q.1, q.2]
theorem head_at (I : Inv X pins σ H s) {a : Addr} {i : Int} {v : V} (h : SqT X.K H a [.int i, v]) : HeadAt s.heap a i := by
  obtain ⟨its, r, ⟨o, ho, hc, n, hd⟩, _⟩ := I.tuple h
  obtain ⟨u, y, rfl, ⟨t, rfl⟩, ry⟩ := vals2 r
  exact ⟨o, t, y, n, ho, hc, hd⟩
theorem heads_inj (I : Inv X pins σ H s) {a : Addr} {i j : Int} {v w : V} (h : SqT X.K H a [.int i, v]) (h' : SqT X.K H a [.int j, w]) : i = j := by
  have e := I.tuple_inj h h'
  cases e
  rfl
/-- sorted(xs), pairs with unlike numbers ahead -/
def rSortedH (K : PySem.W.Frag) : List V → Hp → VK → Prop := fun vs H Q => ∃ (a : Addr) (bs : List (Addr × Int × V)), vs = [V.ref a] ∧ SqL K H a (bs.map fun b => .ref b.1) ∧ (∀ b, b ∈ bs → SqT K H b.1 [.int b.2.1, b.2.2]) ∧ (bs.map (·.2.1)).Nodup ∧
  ∀ p : Addr, H p = none → Q (.ref p) (upd H p (.lst ((bs.mergeSort fun x y => decide (x.2.1 ≤ y.2.1)).map fun b => .ref b.1)))
theorem addrs_nodup (I : Inv X pins σ H s) : ∀ {bs : List (Addr × Int × V)}, (∀ b, b ∈ bs → SqT X.K H b.1 [.int b.2.1, b.2.2]) → (bs.map (·.2.1)).Nodup → (bs.map (·.1)).Nodup
  | [], _, _ => List.nodup_nil
  | b :: bs, h, hn => by
    rw [List.map_cons, List.nodup_cons] at hn ⊢
    refine ⟨fun hm => ?_, addrs_nodup I (fun c hc => h c (.tail _ hc)) hn.2⟩
    obtain ⟨c, hc, e⟩ := List.mem_map.1 hm
    have h1 := h c (.tail _ hc)
    rw [e] at h1
    exact hn.1 (List.mem_map.2 ⟨c, hc, heads_inj I h1 (h b (.head _))⟩)
theorem refs_val : ∀ {β : Type} {f : β → Addr} {bs : List β} {us : List Value}, Vals (bs.map fun b => V.ref (f b)) us → us = bs.map fun b => Value.ref (f b)
  | _, _, [], _, r => by cases r; rfl
  | _, f, b :: bs, _, r => by
    cases r with
    | cons h t =>
      cases h
      rw [List.map_cons, ← refs_val t]
theorem val_refs {β : Type} (f : β → Addr) : ∀ bs : List β, Vals (bs.map fun b => V.ref (f b)) (bs.map fun b => Value.ref (f b))
  | [] => .nil
  | b :: bs => .cons rfl (val_refs f bs)
theorem cr_sortedH (hu : X.A.units + 190 < cLine) : CallR X (.builtin "sorted") (rSortedH X.K) := by
  rintro pins s σ H vs us Q I r ⟨a, bs, rfl, hs, hd, hn, q⟩
  obtain ⟨its, rv, hl, hz⟩ := I.list hs
  rw [Vals.ref1 r]
  have ei := refs_val (f := fun b : Addr × Int × V => b.1) rv
  subst ei
  rw [List.length_map] at hz
  have ha := addrs_nodup I hd hn
  have key := sortVals_heads (fun b : Addr × Int × V => (b.1, b.2.1)) bs ha
  have hps : ((bs.map fun b => (b.1, b.2.1)).map fun p : Addr × Int => Value.ref p.1) = bs.map fun b => Value.ref b.1 := by rw [List.map_map]; rfl
  have S := sorts_heads (prog := X.prog) (w := X.w) (A := X.A.in1.in1) (s := { s with heap := sortingHeap (copyHeap s.heap (bs.map fun b => Value.ref b.1)) (s.heap.objs.size + 1) (bs.map fun b => Value.ref b.1) }) (ps := bs.map fun b => (b.1, b.2.1))
    (fun p hp => by
      obtain ⟨b, hb, rfl⟩ := List.mem_map.1 hp
      obtain ⟨o, t, v, n, h1, h2, h3⟩ := head_at I (hd b hb)
      exact ⟨o, t, v, n, sorting_copy_old h1, h2, h3⟩)
    (by rw [List.map_map]; exact ha) (by rw [List.map_map]; exact hn) (by show X.A.units + 2 + 2 < cLine; omega)
  rw [hps] at S
  refine sorted_vals hl.isList S (by rw [List.length_map]; exact hz) ?_
  rw [key]
  obtain ⟨ep, he'⟩ := PyProof.Rows.sortedAll_at s.heap (bs.map fun b => Value.ref b.1) ((bs.mergeSort fun x y => decide (x.2.1 ≤ y.2.1)).map fun b => Value.ref b.1).toArray
  have hlen : ((bs.mergeSort fun x y => decide (x.2.1 ≤ y.2.1)).map fun b => V.ref b.1).length ≤ sizeLine := by
    rw [List.length_map, List.length_mergeSort]; exact hz
  exact ⟨.ref _, upd H (s.heap.objs.size + 1) (.lst ((bs.mergeSort fun x y => decide (x.2.1 ≤ y.2.1)).map fun b => .ref b.1)), I.laid (t' := s.toks) (fun _ _ => PyProof.Rows.sortedAll_old) (Nat.le_succ _) ⟨hlen, _, ep, val_refs (fun b : Addr × Int × V => b.1) _, he'⟩, rfl, q _ (I.hok.fresh (Nat.le_succ _))⟩
/-! sorted(d.items()) -/
def rItemsK : V → List V → Hp → VK → Prop := fun x xs H Q => ∃ (a : Addr) (kvs : List (Key × V)), x = .ref a ∧ xs = [] ∧ H a = some (.dK kvs) ∧ ∀ p, H p = none → Q (.ref p) (upd H p (itemsO p a))
theorem raw_of {h : Heap} {a : Addr} {vs : List (Key × Value)} {prog : Program} {w : World} (x : h.DictOf (mixKind prog w) a vs) : ∃ es ep, DT.Raw h a es ep ∧ Pairs (mixKind prog w) es.toList vs ∧ (vs.map (·.1)).Nodup := by
  obtain ⟨o, es, ep, h1, h2, h3, h4, h5, h6⟩ := x
  exact ⟨es, ep, ⟨o, h1, h2, h3⟩, h5, h6⟩
theorem mt_itemsK : MtR X "dict.items" rItemsK := by
  rintro pins s σ H x xs v us Q I rx rxs ⟨a, kvs, rfl, rfl, ha, q⟩
  cases rx
  cases rxs
  obtain ⟨z, hd, vs, rel, dd⟩ := dk_of I.hok ha
  obtain ⟨es, ep, hr, _⟩ := raw_of dd
  refine DT.callItems (es := es) (ep := ep) hd hr ?_
  have hf : H s.heap.objs.size = none := I.hok.fresh (Nat.le_refl _)
  exact ⟨.ref _, _, I.laid (t' := s.toks) (fun _ _ e => Heap.get?_push_of_some _ e) (Nat.le_refl _) (itemsO_ok (Heap.get?_push_size _ rfl)), rfl, q _ hf⟩
/-- plain pairs that lie there are tracked -/
theorem takeF {h' : Heap} {tk : Nat} {H0 : Hp} (I0 : Inv X pins σ H0 s) : ∀ (L : List (Addr × Int × V)) (H1 : Hp), Inv X pins σ H1 { s with heap := h', toks := tk } → (L.map (·.1)).Nodup →
    (∀ b ∈ L, s.heap.objs.size ≤ b.1 ∧ H1 b.1 = none ∧ ∃ (t : Tok) (u : Value), RelV b.2.2 u ∧ h'.get? b.1 = some { cls := .type "tuple", data := .seq #[.int b.2.1 t, u] }) →
    ∃ H2, Inv X pins σ H2 { s with heap := h', toks := tk } ∧ (∀ b o, H1 b = some o → H2 b = some o) ∧ (∀ b ∈ L, ∃ o : Obj, H2 b.1 = some (.frz o (.tup [.int b.2.1, b.2.2])) ∧ o.dict = none) ∧ ∀ a, (∀ b ∈ L, b.1 ≠ a) → H2 a = H1 a
  | [], H1, I1, _, _ => ⟨H1, I1, fun _ _ e => e, fun b hb => absurd hb (by simp), fun _ _ => rfl⟩
  | b :: L, H1, I1, hn, h => by
    obtain ⟨hb, hnone, t, u, ru, hg⟩ := h b (.head _)
    have ob : ObjOk X.prog X.w (upd H1 b.1 (.frz { cls := .type "tuple", data := .seq #[.int b.2.1 t, u] } (.tup [.int b.2.1, b.2.2]))) h' b.1 (.frz { cls := .type "tuple", data := .seq #[.int b.2.1 t, u] } (.tup [.int b.2.1, b.2.2])) :=
      ⟨hg, by show 2 ≤ sizeLine; decide, [.int b.2.1 t, u], .cons ⟨t, rfl⟩ (.cons ru .nil), ⟨_, hg, rfl, _, rfl⟩⟩
    have I2 := I1.take (h' := h') (t' := tk) (fun _ _ _ e => e) (I0.fpOk hb hnone) ob
    rw [List.map_cons, List.nodup_cons] at hn
    have ne : ∀ c ∈ L, c.1 ≠ b.1 := fun c hc z => hn.1 (z ▸ List.mem_map.2 ⟨c, hc, rfl⟩)
    obtain ⟨H2, I3, g, q, off⟩ := takeF I0 L _ I2 hn.2 fun c hc => by
      obtain ⟨c1, c2, c3⟩ := h c (.tail _ hc)
      exact ⟨c1, by rw [upd_ne (ne c hc)]; exact c2, c3⟩
    refine ⟨H2, I3, fun c o e => g c o (by rw [upd_ne (ne_of_none e hnone)]; exact e), fun c hc => ?_, fun a ha => ?_⟩
    · rcases List.mem_cons.1 hc with rfl | hc
      · exact ⟨_, g _ _ upd_same, rfl⟩
      · exact q c hc
    · rw [off a fun c hc => ha c (.tail _ hc), upd_ne (fun z => ha b (.head _) z.symm)]
theorem pairs_ix {prog : Program} {w : World} : ∀ {es : List DictEntry} {vs : List (Key × Value)}, Pairs (mixKind prog w) es vs → ∀ {j : Nat} {e : DictEntry}, es[j]? = some e → ∃ kv, vs[j]? = some kv ∧ keyIs kv.1 e.key = true ∧ e.val = kv.2
  | _, _, .cons h1 h2 t, 0, e, he => by
    simp only [List.getElem?_cons_zero, Option.some.injEq] at he
    subst he
    exact ⟨_, rfl, h1, h2⟩
  | _, _, .cons h1 h2 t, j + 1, e, he => by
    simp only [List.getElem?_cons_succ] at he ⊢
    exact pairs_ix t he
theorem pairs_len {prog : Program} {w : World} : ∀ {es : List DictEntry} {vs : List (Key × Value)}, Pairs (mixKind prog w) es vs → es.length = vs.length
  | _, _, .nil => rfl
  | _, _, .cons _ _ t => by simp [pairs_len t]
theorem kv_ix : ∀ {xs : List (Key × V)} {vs : List (Key × Value)}, KV xs vs → ∀ {j : Nat} {p : Key × V}, xs[j]? = some p → ∃ q, vs[j]? = some q ∧ p.1 = q.1 ∧ RelV p.2 q.2
  | _, _, .cons h t, 0, p, e => by
    simp only [List.getElem?_cons_zero, Option.some.injEq] at e
    subst e
    exact ⟨_, rfl, h.1, h.2⟩
  | _, _, .cons h t, j + 1, p, e => by
    simp only [List.getElem?_cons_succ] at e ⊢
    exact kv_ix t e
abbrev inlV (q : Int × V) : Key × V := (.inl q.1, q.2)
theorem sortI_end {hF : Heap} {tk L ep2 : Nat} {bs rs : List (Addr × Int × V)} {Q : VK} (I : Inv X pins σ H s) (hlt : s.heap.objs.size < L) (hk : ∀ b o, s.heap.get? b = some o → hF.get? b = some o) (ha : (bs.map (·.1)).Nodup)
    (hob : ∀ b, b ∈ bs → s.heap.objs.size ≤ b.1 ∧ b.1 ≠ L ∧ ∃ (t : Tok) (u : Value), RelV b.2.2 u ∧ hF.get? b.1 = some { cls := .type "tuple", data := .seq #[.int b.2.1 t, u] }) (hlen : rs.length ≤ sizeLine)
    (he : hF.get? L = some (seqObj "list" (rs.map fun b => Value.ref b.1).toArray ep2))
    (q : ∀ H1 : Hp, (∀ b o, H b = some o → H1 b = some o) → (∀ b ∈ bs, PlT X.K H1 b.1 [.int b.2.1, b.2.2]) → ∀ l, H1 l = none → Q (.ref l) (upd H1 l (.lst (rs.map fun b => .ref b.1)))) : EP X pins σ Q (.ref L) { s with heap := hF, toks := tk } := by
  have I1 : Inv X pins σ H { s with heap := hF, toks := tk } := I.kept hk
  obtain ⟨H2, I2, g1, g2, g3⟩ := takeF I bs H I1 ha fun b hb => by
    obtain ⟨b1, _, t, u, ru, hg⟩ := hob b hb
    exact ⟨b1, I.hok.fresh b1, t, u, ru, hg⟩
  have hL : H2 L = none := by
    rw [g3 _ fun b hb => (hob b hb).2.1]
    exact I.hok.fresh (Nat.le_of_lt hlt)
  have ob : ObjOk X.prog X.w (upd H2 L (.lst (rs.map fun b => V.ref b.1))) hF L (.lst (rs.map fun b => V.ref b.1)) := ⟨by rw [List.length_map]; exact hlen, _, ep2, val_refs (fun b : Addr × Int × V => b.1) _, he⟩
  have I3 := I2.take (t' := tk) (it := L) (h' := hF) (fun _ _ _ e => e) (I.fpOk (Nat.le_of_lt hlt) hL) ob
  exact ⟨.ref L, _, I3, rfl, q H2 g1 (fun b hb => let ⟨o, h1, h2⟩ := g2 b hb; .inl ⟨o, h1, h2⟩) L hL⟩
def rSortIt (K : PySem.W.Frag) : List V → Hp → VK → Prop := fun vs H Q => ∃ (p a : Addr) (ps : List (Int × V)), vs = [.ref p] ∧ H p = some (itemsO p a) ∧ H a = some (.dK (ps.map inlV)) ∧
  ∀ (H1 : Hp) (bs : List (Addr × Int × V)), (∀ b o, H b = some o → H1 b = some o) → bs.map (·.2) = ps → (∀ b ∈ bs, PlT K H1 b.1 [.int b.2.1, b.2.2]) → ∀ l, H1 l = none → Q (.ref l) (upd H1 l (.lst ((bs.mergeSort fun x y => decide (x.2.1 ≤ y.2.1)).map fun b => .ref b.1)))
theorem cr_sortItems (hc : X.calm = true) (hu : X.A.units + 190 < cLine) : CallR X (.builtin "sorted") (rSortIt X.K) := by
  rintro pins s σ H xs us Q I r ⟨p, a, ps, rfl, hp, ha, q⟩
  obtain rfl := Vals.ref1 r
  have view : s.heap.IsItemsView p a := (show ObjOk X.prog X.w H s.heap p (itemsO p a) from I.hok p _ hp).1
  obtain ⟨hz, hd, vs, rel, dd⟩ := dk_of I.hok ha
  obtain ⟨es, ep, raw, prs, nd⟩ := raw_of dd
  have l1 : ps.length = vs.length := by simpa using rel.length
  have l2 : es.size = vs.length := by rw [← pairs_len prs]; simp
  rw [List.length_map] at hz
  have knd : (ps.map (·.1)).Nodup := by
    have e : vs.map (·.1) = (ps.map (·.1)).map Sum.inl := by rw [← rel.keys, List.map_map, List.map_map]; rfl
    rw [e] at nd
    exact (List.pairwise_map.1 nd).imp fun h e => h (by rw [e])
  refine DT.sortedI (es := es) (ep := ep) (I.ok.hd hc) view raw (by omega) fun h' tk as hk hlt hl hG => ?_
  have lp : as.length = ps.length := by omega
  have bs1 : (as.zip ps).map (·.1) = as := List.map_fst_zip (by omega)
  have bs2 : (as.zip ps).map (·.2) = ps := List.map_snd_zip (by omega)
  have hob : ∀ b, b ∈ as.zip ps → s.heap.objs.size ≤ b.1 ∧ ∃ (t : Tok) (u : Value), RelV b.2.2 u ∧ h'.get? b.1 = some { cls := .type "tuple", data := .seq #[.int b.2.1 t, u] } := by
    intro b hb
    obtain ⟨j, hj⟩ := List.getElem?_of_mem hb
    rw [List.getElem?_zip_eq_some] at hj
    obtain ⟨j1, j2⟩ := hj
    obtain ⟨e, he, hg⟩ := hG.pairs j _ j1
    obtain ⟨kv, k1, k2, k3⟩ := pairs_ix prs (j := j) (e := e) (by rw [Array.getElem?_toList]; exact he)
    obtain ⟨kv', m1, m2, m3⟩ := kv_ix rel (j := j) (p := inlV b.2) (by rw [List.getElem?_map, j2]; rfl)
    rw [k1] at m1
    cases m1
    refine ⟨Nat.le_of_lt (hG.above _ (List.mem_of_getElem? j1)), ?_⟩
    rw [← m2] at k2
    rcases keyIs_shape k2 with ⟨i, t, ek, ev⟩ | ⟨z, t, ek, ev⟩
    · cases ek
      refine ⟨t, kv.2, m3, ?_⟩
      rw [hg, ev, k3]
    · cases ek
  generalize hbs : as.zip ps = bs at bs1 bs2 hob
  have ha : (bs.map (·.1)).Nodup := by rw [bs1]; exact List.Pairwise.imp (fun h => Nat.ne_of_lt h) hG.rise
  have hn : (bs.map (·.2.1)).Nodup := by
    have e : bs.map (·.2.1) = (bs.map (·.2)).map (·.1) := by rw [List.map_map]; rfl
    rw [e, bs2]
    exact knd
  have hvs : as.map Value.ref = bs.map fun b => Value.ref b.1 := by rw [← bs1, List.map_map]; rfl
  rw [hvs]
  have hoL : (h'.push (seqObj "list" (bs.map fun b => Value.ref b.1).toArray 0)).get? h'.objs.size = some (seqObj "list" (bs.map fun b => Value.ref b.1).toArray 0) := Heap.get?_push_size _ rfl
  have hps : ((bs.map fun b => (b.1, b.2.1)).map fun p : Addr × Int => Value.ref p.1) = bs.map fun b => Value.ref b.1 := by rw [List.map_map]; rfl
  have hlb : (bs.map fun b => Value.ref b.1).length ≤ sizeLine := by
    have : bs.length = ps.length := by rw [← bs2, List.length_map]
    rw [List.length_map]; omega
  have S := sorts_heads (prog := X.prog) (w := X.w) (A := X.A.in1.in1) (s := { s with heap := sortingHeap (h'.push (seqObj "list" (bs.map fun b => Value.ref b.1).toArray 0)) h'.objs.size (bs.map fun b => Value.ref b.1), toks := tk }) (ps := bs.map fun b => (b.1, b.2.1))
    (fun p hp => by
      obtain ⟨b, hb, rfl⟩ := List.mem_map.1 hp
      obtain ⟨_, t, u, _, hg⟩ := hob b hb
      exact ⟨_, t, u, 0, sortingHeap_old (Nat.ne_of_lt (Heap.lt_size hg)) (Heap.get?_push_of_some _ hg), rfl, rfl⟩)
    (by rw [List.map_map]; exact ha) (by rw [List.map_map]; exact hn) (by show X.A.units + 2 + 2 < cLine; omega)
  rw [hps] at S
  refine wpAny_call_entry PyProof.Rows.slot_list_sort ⟨_, hoL, rfl⟩ PyProof.Rows.entry_list_sort (list_sort_vals (s := { s with heap := h'.push (seqObj "list" (bs.map fun b => Value.ref b.1).toArray 0), toks := tk }) hoL S hlb ⟨_, rfl, ?_⟩) (PyProof.Rows.args_list_sort _)
  have key := sortVals_heads (fun b : Addr × Int × V => (b.1, b.2.1)) bs ha
  rw [key]
  obtain ⟨ep2, he'⟩ := PyProof.Rows.sortedHeap_at (vs := bs.map fun b => Value.ref b.1) (out := ((bs.mergeSort fun x y => decide (x.2.1 ≤ y.2.1)).map fun b => Value.ref b.1).toArray) hoL
  have old : ∀ b o, h'.get? b = some o → (sortedHeap (h'.push (seqObj "list" (bs.map fun b => Value.ref b.1).toArray 0)) h'.objs.size (bs.map fun b => Value.ref b.1) ((bs.mergeSort fun x y => decide (x.2.1 ≤ y.2.1)).map fun b => Value.ref b.1).toArray).get? b = some o := fun b o e => by
    have hlt := Heap.lt_size e
    rw [PyProof.Rows.sortedHeap_old (Nat.ne_of_lt hlt) (by rw [Heap.size_push]; exact Nat.lt_succ_of_lt hlt)]
    exact Heap.get?_push_of_some _ e
  have fin := sortI_end (Q := Q) (tk := tk) I hlt (fun b o e => old b o (hk b o e)) ha (fun b hb => by
    obtain ⟨b1, t, u, ru, hg⟩ := hob b hb
    exact ⟨b1, Nat.ne_of_lt (Heap.lt_size hg), t, u, ru, old _ _ hg⟩) (by rw [List.length_mergeSort]; rw [List.length_map] at hlb; exact hlb) he' fun H1 g1 g2 => q H1 bs g1 bs2 g2
  exact fin
end
end Pv
set_option Elab.async false
set_option linter.all false
set_option maxRecDepth 100000
set_option maxHeartbeats 1000000
/-! Pv4: expressions: what the small language says is what the machine does. -/
namespace Pv
open PySem PySem.Spec PyProof.Rows L2

def RfE (X : Cx) (G : GT) (W : WX) (t : TE) (p : Env → Store → PQ → PX → Prop) : Prop :=
  ∀ m σ H ρ S Q E Kv, RlS X.K m H S → RlE X.K m H σ ρ → p ρ S Q E → KE X.K m H Q Kv → KX X.K X.mg G m H E (fun c d H' => W c d σ H') → t σ H Kv
def RfT (X : Cx) (G : GT) (W : WX) (t : TT) (p : Env → Store → (Bool → Store → Prop) → PX → Prop) : Prop :=
  ∀ m σ H ρ S Q E (Kv : Bool → Hp → Prop), RlS X.K m H S → RlE X.K m H σ ρ → p ρ S Q E →
    (∀ m' H' k S', Ext X.K m H m' H' → RlS X.K m' H' S' → Q k S' → Kv k H') → KX X.K X.mg G m H E (fun c d H' => W c d σ H') → t σ H Kv
def RfA (X : Cx) (G : GT) (W : WX) (t : TA) (p : Env → Store → (List PV → Store → Prop) → PX → Prop) : Prop :=
  ∀ m σ H ρ S Q E (Kv : List V → Hp → Prop), RlS X.K m H S → RlE X.K m H σ ρ → p ρ S Q E →
    (∀ m' H' vs pvs S', Ext X.K m H m' H' → RlS X.K m' H' S' → RepL X.K H' m' vs pvs → Q pvs S' → Kv vs H') → KX X.K X.mg G m H E (fun c d H' => W c d σ H') → t σ H Kv
def RfO (X : Cx) (G : GT) (W : WX) (t : TO) (p : Env → Store → (Option Int → Store → Prop) → PX → Prop) : Prop :=
  ∀ m σ H ρ S Q E (Kv : Option Int → Hp → Prop), RlS X.K m H S → RlE X.K m H σ ρ → p ρ S Q E →
    (∀ m' H' o S', Ext X.K m H m' H' → RlS X.K m' H' S' → Q o S' → Kv o H') → KX X.K X.mg G m H E (fun c d H' => W c d σ H') → t σ H Kv
def tupB : Expr → Bool
  | .Tuple .. => true
  | _ => false
/-- an item that is only unpacked need not be a plain tuple -/
def RepB (K : PySem.W.Frag) : Bool → Hp → List Addr → V → PV → Prop
  | false, H, m, v, p => RepV K H m v p
  | true, H, m, v, p => RepV K H m v p ∨ ∃ a xs vs, v = .ref a ∧ p = .tup vs ∧ SqT K H a xs ∧ RepL K H m xs vs
theorem RepB.of {K : PySem.W.Frag} {b : Bool} {H : Hp} {m : List Addr} {v : V} {p : PV} (h : RepV K H m v p) : RepB K b H m v p := by
  cases b with
  | false => exact h
  | true => exact .inl h
/-- what an iterator yields, in every later state in which its lists stand -/
def ItOk (K : PySem.W.Frag) (b : Bool) (J : It) (src : Src) (items : List PV) (m : List Addr) (H : Hp) : Prop :=
  ∀ (i : Nat) m2 H2 S2, Ext K m H m2 H2 → RlS K m2 H2 S2 → srcOk src S2 →
    (items.length ≤ i → J.stop i H2) ∧ ∀ p, items[i]? = some p → J.go i H2 ∧ ∀ x H3, J.yld i H2 x H3 → Ext K m2 H2 m2 H3 ∧ RlS K m2 H3 S2 ∧ RepB K b H3 m2 x p
def RfI (X : Cx) (G : GT) (W : WX) (b : Bool) (t : TI) (p : Env → Store → (Src → List PV → Store → Prop) → PX → Prop) : Prop :=
  ∀ m σ H ρ S Q E (Kv : It → Hp → Prop), RlS X.K m H S → RlE X.K m H σ ρ → p ρ S Q E →
    (∀ m' H' J src items S', Ext X.K m H m' H' → RlS X.K m' H' S' → ItOk X.K b J src items m' H' → Q src items S' → Kv J H') → KX X.K X.mg G m H E (fun c d H' => W c d σ H') → t σ H Kv

/-- a def's promise: what its meaning P says -/
def spF (K : PySem.W.Frag) (mg : Str → Option Value) (G : GT) (P : List PV → Store → PQ → PX → Prop) : Sp := fun vs H Q E =>
  ∃ m args S Q' E', RlS K m H S ∧ RepL K H m vs args ∧ P args S Q' E' ∧ KE K m H Q' Q ∧ KX K mg G m H E' E
structure CallOk (X : Cx) (G : GT) (Φ : Call) : Prop where
  ok : ∀ (i : Nat) (x : Str) (n : Nat) (dfl : List PV), G.fns[i]? = some (x, n, dfl) → ∃ f fd ps k, X.mg x = some (.ref f) ∧ PySem.W.nsIn X.K mainGlobals x = some (some (.ref f)) ∧ PySem.W.keepIn X.K (.ref f) = true ∧ ps.length = n ∧
    FnOk X.prog X.w X.K X.mg X.base (L2.CX X.prog X.w) k f fd ps (spF X.K X.mg G (Φ i)) ∧ Room k X.A ∧
    ∀ j, j ≤ dfl.length → ∃ ds dvs, Vals dvs ds ∧ (∀ H m, RepL X.K H m dvs (dfl.drop (dfl.length - j))) ∧ Binds X.K fd ps ds

/-- what the own classes must have -/
structure ObjOkC (X : Cx) (G : GT) (Φ : Call) : Prop where
  fld : ∀ x f, (x, f) ∈ G.flds → ∃ C, PySem.W.nsIn X.K mainGlobals x = some (some (.ref C)) ∧ Cls X.K C ∧ NoAttr X.K C f
  meth : ∀ x m j n, (x, m, j, n) ∈ G.meths → ∃ C f fd ps k, PySem.W.nsIn X.K mainGlobals x = some (some (.ref C)) ∧ Cls X.K C ∧ Meth X.K C m f ∧
    FnOk X.prog X.w X.K X.mg X.base (L2.CX X.prog X.w) k f fd ps (spF X.K X.mg G (Φ (.f j))) ∧ Room k X.A ∧ Binds X.K fd ps []
  make : ∀ x j n, (x, j, n) ∈ G.makes → ∃ C f fd ps, PySem.W.nsIn X.K mainGlobals x = some (some (.ref C)) ∧ X.mg x = some (.ref C) ∧ Mk X.K C f ∧ Binds X.K fd ps [] ∧
    ((∃ k, FnOk X.prog X.w X.K X.mg X.base (L2.CX X.prog X.w) k f fd ps (spF X.K X.mg G (Φ (.mk j))) ∧ Room (k + 1) X.A) ∨ ∀ vs H Q E, ¬ spF X.K X.mg G (Φ (.mk j)) vs H Q E)
/-- what stands fixed while a def's body is read -/
structure CC where
  N : List Str
  sc : Scope
  calm : Bool
  blk : Bool
  blts : List Str
/-- the scope as the text has it, as the frame has it (a block's captured names may be cells there) -/
structure ScOk (sc sc' : Scope) : Prop where
  gl : ∀ x, sc.names.lookup x = some .globalImplicit → sc'.names.lookup x = some .globalImplicit
  lo : ∀ x, sc.names.lookup x = some .local → sc'.names.lookup x = some .local
  ce : ∀ x, sc.names.lookup x = some .cell → sc'.names.lookup x = some .cell
  fr : ∀ x, sc.names.lookup x = some .free → sc'.names.lookup x = some .free ∨ sc'.names.lookup x = some .cell
def tMkF (C : Addr) (f : Str) (ta : TA) : L2.St → Hp → XK → Prop := fun σ H Q => ta σ H fun vs H1 => ∃ v, vs = [v] ∧ ∀ d, H1 d = none → Q (.ref C) (some d) (upd H1 d (.xd [(f, v)]))
def notStar : Expr → Bool
  | .Starred .. => false
  | _ => true
/-- an exception class without __init__; one with a field -/
def ExcOk (X : Cx) (x : Str) : Prop := ∃ C B newId initId bmB, ExcBaseFacts B newId initId bmB ∧ PySem.W.excIn X.K C bmB newId = true ∧ X.mg x = some (.ref C) ∧ PySem.W.keepIn X.K (.ref C) = true ∧ Raises X (.ref C)
def ExcFOk (K : PySem.W.Frag) (mg : Str → Option Value) (x f : Str) : Prop := ∃ C, mg x = some (.ref C) ∧ XfC K C ∧ PySem.W.findIn K (.ref C) f = some none ∧
  ∀ (X : Cx), X.K = K → X.mg = mg → Room 0 X.A → Gl X x → ∀ (a : Expr) (ta : TA) (p pos : Pos), PA X [a] ta → notStar a = true → PMk X (.Call (.Name x p) [a] [] pos) (tMkF C f ta)
theorem ScOk.refl {sc : Scope} : ScOk sc sc := ⟨fun _ h => h, fun _ h => h, fun _ h => h, fun _ h => .inl h⟩
/-- what a def that is handed the caught exception promises -/
def CkRun (P : Program) (w : World) (K : PySem.W.Frag) (mg : Str → Option Value) (base : Heap) (f : Addr) (fd : FuncData) (e : Str) (cls : Value) (z : Str) : Prop :=
  ∀ (A : Around) (outer : List PySem.Env) (s : Shared) (H : Hp) (a : Addr) (oe : Obj) (Q : VK) (E : XK), A.depth + 5 < recursionLimit → L2H.PinOk outer H s (a, oe) → Env0 P w K mg base A outer s H → BindsTo s fd ⟨[.ref a], []⟩ [(e, .ref a)] →
    Zc cls none oe → (∃ vs, oe.data = .fields vs) → Q (.str z) H → codeAny (model P w) A (.call (.ref f) ⟨[.ref a], []⟩) (CR (L2.CX P w) outer P w H s Q E) s
def CkOk (X : Cx) (G : GT) (x : Str) (t : List (Nat × Str)) : Prop := ∃ f fd e, X.mg x = some (.ref f) ∧ PySem.W.keepIn X.K (.ref f) = true ∧ Binds X.K fd [e] [] ∧
  ∀ c y cls z, t.lookup c = some z → G.excs[c]? = some (y, none) → X.mg y = some cls → CkRun X.prog X.w X.K X.mg X.base f fd e cls z
structure Ctx (G : GT) (C : CC) (X : Cx) (W : WX) (Φ : Call) : Prop where
  hN : X.N = C.N
  nd : C.N.Nodup
  kind : X.env.scope.kind = .function
  sc : ScOk C.sc X.env.scope
  fn : C.blk = false → ∀ x, X.fn x = true
  calm : C.calm = true → X.calm = true
  units : X.A.units + 190 < cLine
  call : C.calm = true → CallOk X G Φ
  obj : C.calm = true → ObjOkC X G Φ
  tk : Takes X W
  pass : PassesOwn (model X.prog X.w) X.A X.env X.xe
  blt : ∀ x, x ∈ C.blts → X.mg x = none
  room : C.calm = true → Room 0 X.A
  frame : C.blk = false → X.stack = X.env :: X.outer ∧ X.env.frame = some X.env.locals
  exc : ∀ (c : Nat) (x : Str), G.excs[c]? = some (x, none) → ExcOk X x
  excF : ∀ (c : Nat) (x f : Str), G.excs[c]? = some (x, some f) → ExcFOk X.K X.mg x f
  cat : ∀ (c d : Nat) (x y : Str) (fo fo' : Option Str) (cv dv : Value), c ∈ G.hs → G.excs[c]? = some (x, fo) → G.excs[d]? = some (y, fo') → X.mg x = some cv → X.mg y = some dv → PySem.W.exmOne X.K dv cv = some (G.tab.catches c d)
  con : ∀ x pv, (x, pv) ∈ G.cons → ∃ v u, X.mg x = some u ∧ RelV v u ∧ ∀ H m, RepV X.K H m v pv
  ck : ∀ x t, (x, t) ∈ G.cks → CkOk X G x t

def EX (X : Cx) (G : GT) (W : WX) (Φ : Call) (e : Expr) (p : IE) : Prop := ∃ t, PE X e t ∧ RfE X G W t (wpE Φ p)
def TX (X : Cx) (G : GT) (W : WX) (Φ : Call) (e : Expr) (p : IE) : Prop := ∃ t, PT X e t ∧ RfT X G W t (wpT Φ p)
def WX' (X : Cx) (G : GT) (W : WX) (Φ : Call) (e : Expr) (p : IE) : Prop := ∃ t, PW X e t ∧ RfT X G W t (wpT Φ p)
def AX (X : Cx) (G : GT) (W : WX) (Φ : Call) (es : List Expr) (p : IEs) : Prop := ∃ t, PA X es t ∧ RfA X G W t (wpEs Φ p)
def OX (X : Cx) (G : GT) (W : WX) (Φ : Call) (e : Option Expr) (p : IOp) : Prop := ∃ t, PO X e t ∧ RfO X G W t (wpO Φ p)
def IX (X : Cx) (G : GT) (W : WX) (Φ : Call) (tg e : Expr) (p : II) : Prop := ∃ t, PI X tg e t ∧ RfI X G W (tupB tg) t (wpI Φ p)

section
variable {X : Cx} {G : GT} {W : WX} {Φ : Call} {C : CC} {e a b c : Expr} {p q r : IE} {pos : Pos} {es rest : List Expr} {ps : IEs}
theorem ex_var {x : Str} {i : Nat} (hN : X.N[i]? = some x) (hv : Vis X.env.scope x) (h1 : (x == ("__debug__" : Str)) = false) (h2 : (x == ("__classdict__" : Str)) = false) : EX X G W Φ (.Name x pos) (.var i) := by
  refine ⟨_, pe_var hN hv h1 h2, fun m σ H ρ S Q E Kv r re w k kx => ?_⟩
  simp only [wpE, varQ] at w
  split at w
  · rename_i v hv
    obtain ⟨x, h1, h2⟩ := re.2 _ _ hv
    exact ⟨x, h1, k.here r h2 w⟩
  · exact w.elim
theorem ex_cst {v : V} {pv : PV} (h : PE X e (tC v)) (hr : ∀ H m, RepV X.K H m v pv) : EX X G W Φ e (.cst pv) :=
  ⟨_, h, fun m σ H ρ S Q E Kv r re w k kx => k.here r (hr _ _) (by simpa only [wpE] using w)⟩
theorem ex_op {f : Value → Value → Sem Value} {qq : PV → PV → Store → PQ → Prop} {e : Expr} {ir : IE} (ha : EX X G W Φ a p) (hb : EX X G W Φ b q) (hf : OpF X f qq)
    (hp : ∀ (r : R2) (ta tb : TE), OpR X f r → PE X a ta → PE X b tb → PE X e (tOp r ta tb)) (hw : ∀ ρ S Q E, wpE Φ ir ρ S Q E = wpE Φ p ρ S (fun v S1 => wpE Φ q ρ S1 (fun w S2 => qq v w S2 Q) E) E) : EX X G W Φ e ir := by
  obtain ⟨ta, Pa, Ra⟩ := ha
  obtain ⟨tb, Pb, Rb⟩ := hb
  obtain ⟨r, ho, hr⟩ := hf
  refine ⟨_, hp r ta tb ho Pa Pb, fun m σ H ρ S Q E Kv r0 re w k kx => ?_⟩
  rw [hw] at w
  refine Ra m σ H ρ S _ E _ r0 re w (fun m1 H1 x v S1 e1 r1 hx w1 => ?_) kx
  refine Rb m1 σ H1 ρ S1 _ E _ r1 (re.ext e1) w1 (fun m2 H2 y w S2 e2 r2 hy w2 => ?_) (kx.ext e1)
  exact hr m2 H2 S2 x y v w Q Kv r2 (RepV.ext e2 v x hx) hy w2 (k.ext (e1.trans e2))
theorem ex_bin {o : BOp} (ha : EX X G W Φ a p) (hb : EX X G W Φ b q) : EX X G W Φ (.BinOp a (Bop o) b pos) (.bin o p q) :=
  ex_op ha hb (opF_bin o) (fun _ _ _ h1 h2 h3 => pe_op h1 h2 h3) fun ρ S Q E => by simp only [wpE]
theorem ex_cmp {o : COp} (hu : X.A.units + 190 < cLine) (ha : EX X G W Φ a p) (hb : EX X G W Φ b q) (hm : behindInMarks (Cop o) b = false) : EX X G W Φ (.Compare a [Cop o] [b] pos) (.cmp o p q) :=
  ex_op ha hb (opF_cmp hu o) (fun _ _ _ h1 h2 h3 => pe_cmpR h1 h2 h3 hm) fun ρ S Q E => by simp only [wpE]
theorem tx_cmp {o : COp} (hu : X.A.units + 190 < cLine) (ha : EX X G W Φ a p) (hb : EX X G W Φ b q) (hm : behindInMarks (Cop o) b = false) : TX X G W Φ (.Compare a [Cop o] [b] pos) (.cmp o p q) := by
  obtain ⟨ta, Pa, Ra⟩ := ha
  obtain ⟨tb, Pb, Rb⟩ := hb
  obtain ⟨r, ho, hr⟩ := opF_cmp hu o
  refine ⟨_, pt_cmpR ho Pa Pb hm, fun m σ H ρ S Q E Kv r0 re w k kx => ?_⟩
  simp only [wpT] at w
  refine Ra m σ H ρ S _ E _ r0 re w (fun m1 H1 x v S1 e1 r1 hx w1 => ?_) kx
  refine Rb m1 σ H1 ρ S1 _ E _ r1 (re.ext e1) w1 (fun m2 H2 y w S2 e2 r2 hy w2 => ?_) (kx.ext e1)
  refine hr m2 H2 S2 x y v w _ _ r2 (RepV.ext e2 v x hx) hy w2 fun m3 H3 z pz S3 e3 r3 hz w3 => ?_
  obtain ⟨kk, e, w3⟩ := w3
  subst e
  cases hz
  exact ⟨kk, rfl, k m3 H3 kk S3 ((e1.trans e2).trans e3) r3 w3⟩
theorem ex_chain {o o' : COp} (hu : X.A.units + 190 < cLine) (ha : EX X G W Φ a p) (hb : EX X G W Φ b q) (hc : EX X G W Φ c r) (hm : lastMarks [Cop o, Cop o'] [b, c] = false) : EX X G W Φ (.Compare a [Cop o, Cop o'] [b, c] pos) (.chain o o' p q r) := by
  obtain ⟨ta, Pa, Ra⟩ := ha
  obtain ⟨tb, Pb, Rb⟩ := hb
  obtain ⟨tc, Pc, Rc⟩ := hc
  obtain ⟨r, ho, hr⟩ := opF_cmp hu o
  obtain ⟨r', ho', hr'⟩ := opF_cmp hu o'
  refine ⟨_, pe_chain ho ho' Pa Pb Pc hm, fun m σ H ρ S Q E Kv r0 re w k kx => ?_⟩
  simp only [wpE] at w
  refine Ra m σ H ρ S _ E _ r0 re w (fun m1 H1 x v S1 e1 r1 hx w1 => ?_) kx
  refine Rb m1 σ H1 ρ S1 _ E _ r1 (re.ext e1) w1 (fun m2 H2 y w S2 e2 r2 hy w2 => ?_) (kx.ext e1)
  refine hr m2 H2 S2 x y v w _ _ r2 (RepV.ext e2 v x hx) hy w2 fun m3 H3 z pz S3 e3 r3 hz w3 => ?_
  obtain ⟨kk, e, w3⟩ := w3
  subst e
  cases hz
  refine ⟨kk, rfl, ?_⟩
  have e13 := (e1.trans e2).trans e3
  cases kk with
  | false => simp only [Bool.false_eq_true, if_false] at w3 ⊢; exact k m3 H3 _ _ S3 e13 r3 (.bl _) w3
  | true =>
    simp only [if_true] at w3 ⊢
    refine Rc m3 σ H3 ρ S3 _ E _ r3 (re.ext e13) w3 (fun m4 H4 u pu S4 e4 r4 hu' w4 => ?_) (kx.ext e13)
    exact hr' m4 H4 S4 y u w pu Q Kv r4 (RepV.ext (e3.trans e4) w y hy) hu' w4 (k.ext (e13.trans e4))
theorem tx_chain {o o' : COp} (hu : X.A.units + 190 < cLine) (ha : EX X G W Φ a p) (hb : EX X G W Φ b q) (hc : EX X G W Φ c r) (hm : lastMarks [Cop o, Cop o'] [b, c] = false) : TX X G W Φ (.Compare a [Cop o, Cop o'] [b, c] pos) (.chain o o' p q r) := by
  obtain ⟨ta, Pa, Ra⟩ := ha
  obtain ⟨tb, Pb, Rb⟩ := hb
  obtain ⟨tc, Pc, Rc⟩ := hc
  obtain ⟨r, ho, hr⟩ := opF_cmp hu o
  obtain ⟨r', ho', hr'⟩ := opF_cmp hu o'
  refine ⟨_, pt_chain ho ho' Pa Pb Pc hm, fun m σ H ρ S Q E Kv r0 re w k kx => ?_⟩
  simp only [wpT] at w
  refine Ra m σ H ρ S _ E _ r0 re w (fun m1 H1 x v S1 e1 r1 hx w1 => ?_) kx
  refine Rb m1 σ H1 ρ S1 _ E _ r1 (re.ext e1) w1 (fun m2 H2 y w S2 e2 r2 hy w2 => ?_) (kx.ext e1)
  refine hr m2 H2 S2 x y v w _ _ r2 (RepV.ext e2 v x hx) hy w2 fun m3 H3 z pz S3 e3 r3 hz w3 => ?_
  obtain ⟨kk, e, w3⟩ := w3
  subst e
  cases hz
  refine ⟨kk, rfl, ?_⟩
  have e13 := (e1.trans e2).trans e3
  cases kk with
  | false => simp only [Bool.false_eq_true, if_false] at w3 ⊢; exact ⟨false, rfl, k m3 H3 _ S3 e13 r3 w3⟩
  | true =>
    simp only [if_true] at w3 ⊢
    refine Rc m3 σ H3 ρ S3 _ E _ r3 (re.ext e13) w3 (fun m4 H4 u pu S4 e4 r4 hu' w4 => ?_) (kx.ext e13)
    refine hr' m4 H4 S4 y u w pu _ _ r4 (RepV.ext (e3.trans e4) w y hy) hu' w4 fun m5 H5 z5 pz5 S5 e5 r5 hz5 w5 => ?_
    obtain ⟨k5, q5, w5⟩ := w5
    subst q5
    cases hz5
    exact ⟨k5, rfl, k m5 H5 k5 S5 ((e13.trans e4).trans e5) r5 w5⟩
/-- a value's truth -/
theorem truV_of {m : List Addr} {H : Hp} {S : Store} {x : V} {v : PV} {Q : Bool → Prop} (r : RlS X.K m H S) (h : RepV X.K H m x v) (q : truQ v S Q) : ∃ k, TruV X.K x H k ∧ Q k := by
  cases h with
  | non => exact ⟨_, rfl, q⟩
  | bl b => exact ⟨_, rfl, q⟩
  | int i => exact ⟨_, rfl, q⟩
  | str x => exact ⟨_, ⟨q.1, rfl⟩, q.2⟩
  | @tup a xs vs h1 h2 => exact ⟨_, .inr (.inl ⟨xs, h1.sq, rfl⟩), by rw [h2.nil_iff]; exact q⟩
  | @ref a i h1 =>
    obtain ⟨o, e, sq, q⟩ := q
    obtain ⟨xs, g1, g2⟩ := r.sql e sq h1
    exact ⟨_, .inl ⟨xs, g1, rfl⟩, by rw [g2.nil_iff]; exact q⟩
  | fn _ => exact q.elim
theorem tx_val (ha : EX X G W Φ a p) (he : ∀ whole, isTrue a X.env whole = (do let v ← whole; standAt a.pos; holding [v] (truthy v)))
    (hw : ∀ ρ S Q E, wpT Φ p ρ S Q E = wpE Φ p ρ S (fun v S1 => truQ v S1 fun k => Q k S1) E) : TX X G W Φ a p := by
  obtain ⟨ta, Pa, Ra⟩ := ha
  refine ⟨_, pt_truth Pa he, fun m σ H ρ S Q E Kv r0 re w k kx => ?_⟩
  rw [hw] at w
  refine Ra m σ H ρ S _ E _ r0 re w (fun m1 H1 x v S1 e1 r1 hx w1 => ?_) kx
  obtain ⟨kk, t, w1⟩ := truV_of r1 hx w1
  exact ⟨kk, t, k m1 H1 kk S1 e1 r1 w1⟩
theorem ex_not (ha : EX X G W Φ a p) : EX X G W Φ (.UnaryOp .Not a pos) (.not p) := by
  obtain ⟨ta, Pa, Ra⟩ := ha
  refine ⟨_, pe_notT Pa, fun m σ H ρ S Q E Kv r0 re w k kx => ?_⟩
  simp only [wpE] at w
  refine Ra m σ H ρ S _ E _ r0 re w (fun m1 H1 x v S1 e1 r1 hx w1 => ?_) kx
  obtain ⟨kk, t, w1⟩ := truV_of r1 hx w1
  exact ⟨kk, t, k m1 H1 _ _ S1 e1 r1 (.bl _) w1⟩
theorem tx_not (ha : TX X G W Φ a p) : TX X G W Φ (.UnaryOp .Not a pos) (.not p) := by
  obtain ⟨ta, Pa, Ra⟩ := ha
  refine ⟨_, pt_not Pa, fun m σ H ρ S Q E Kv r0 re w k kx => ?_⟩
  simp only [wpT] at w
  exact Ra m σ H ρ S _ E _ r0 re w (fun m1 H1 kk S1 e1 r1 w1 => k m1 H1 _ S1 e1 r1 w1) kx
theorem ex_one {op} (ha : EX X G W Φ a p) : EX X G W Φ (.BoolOp op [a] pos) p := let ⟨t, h1, h2⟩ := ha; ⟨t, pe_one h1, h2⟩
theorem ex_and (ha : EX X G W Φ a p) (hb : EX X G W Φ (.BoolOp .And (b :: rest) pos) q) : EX X G W Φ (.BoolOp .And (a :: b :: rest) pos) (.and p q) := by
  obtain ⟨ta, Pa, Ra⟩ := ha
  obtain ⟨tb, Pb, Rb⟩ := hb
  refine ⟨_, pe_and Pa Pb, fun m σ H ρ S Q E Kv r0 re w k kx => ?_⟩
  simp only [wpE] at w
  refine Ra m σ H ρ S _ E _ r0 re w (fun m1 H1 x v S1 e1 r1 hx w1 => ?_) kx
  obtain ⟨kk, e, w1⟩ := w1
  subst e
  cases hx
  refine ⟨kk, rfl, ?_⟩
  cases kk with
  | false => simp only [Bool.false_eq_true, if_false] at w1 ⊢; exact k m1 H1 _ _ S1 e1 r1 (.bl _) w1
  | true => simp only [if_true] at w1 ⊢; exact Rb m1 σ H1 ρ S1 _ E _ r1 (re.ext e1) w1 (k.ext e1) (kx.ext e1)
theorem ex_or (ha : EX X G W Φ a p) (hb : EX X G W Φ (.BoolOp .Or (b :: rest) pos) q) : EX X G W Φ (.BoolOp .Or (a :: b :: rest) pos) (.or p q) := by
  obtain ⟨ta, Pa, Ra⟩ := ha
  obtain ⟨tb, Pb, Rb⟩ := hb
  refine ⟨_, pe_or Pa Pb, fun m σ H ρ S Q E Kv r0 re w k kx => ?_⟩
  simp only [wpE] at w
  refine Ra m σ H ρ S _ E _ r0 re w (fun m1 H1 x v S1 e1 r1 hx w1 => ?_) kx
  obtain ⟨kk, e, w1⟩ := w1
  subst e
  cases hx
  refine ⟨kk, rfl, ?_⟩
  cases kk with
  | true => simp only [if_true] at w1 ⊢; exact k m1 H1 _ _ S1 e1 r1 (.bl _) w1
  | false => simp only [Bool.false_eq_true, if_false] at w1 ⊢; exact Rb m1 σ H1 ρ S1 _ E _ r1 (re.ext e1) w1 (k.ext e1) (kx.ext e1)
theorem wx_and1 (ha : TX X G W Φ a p) : WX' X G W Φ (.BoolOp .And [a] pos) p := let ⟨t, h1, h2⟩ := ha; ⟨t, pw_and1 h1, h2⟩
theorem wx_or1 (ha : TX X G W Φ a p) : WX' X G W Φ (.BoolOp .Or [a] pos) p := let ⟨t, h1, h2⟩ := ha; ⟨t, pw_or1 h1, h2⟩
theorem wx_and (ha : TX X G W Φ a p) (hb : WX' X G W Φ (.BoolOp .And (b :: rest) pos) q) : WX' X G W Φ (.BoolOp .And (a :: b :: rest) pos) (.and p q) := by
  obtain ⟨ta, Pa, Ra⟩ := ha
  obtain ⟨tb, Pb, Rb⟩ := hb
  refine ⟨_, pw_and Pa Pb, fun m σ H ρ S Q E Kv r0 re w k kx => ?_⟩
  simp only [wpT] at w
  refine Ra m σ H ρ S _ E _ r0 re w (fun m1 H1 kk S1 e1 r1 w1 => ?_) kx
  cases kk with
  | false => simp only [Bool.false_eq_true, if_false] at w1 ⊢; exact k m1 H1 _ S1 e1 r1 w1
  | true => simp only [if_true] at w1 ⊢; exact Rb m1 σ H1 ρ S1 _ E _ r1 (re.ext e1) w1 (fun m2 H2 kk S2 e2 => k m2 H2 kk S2 (e1.trans e2)) (kx.ext e1)
theorem wx_or (ha : TX X G W Φ a p) (hb : WX' X G W Φ (.BoolOp .Or (b :: rest) pos) q) : WX' X G W Φ (.BoolOp .Or (a :: b :: rest) pos) (.or p q) := by
  obtain ⟨ta, Pa, Ra⟩ := ha
  obtain ⟨tb, Pb, Rb⟩ := hb
  refine ⟨_, pw_or Pa Pb, fun m σ H ρ S Q E Kv r0 re w k kx => ?_⟩
  simp only [wpT] at w
  refine Ra m σ H ρ S _ E _ r0 re w (fun m1 H1 kk S1 e1 r1 w1 => ?_) kx
  cases kk with
  | true => simp only [if_true] at w1 ⊢; exact k m1 H1 _ S1 e1 r1 w1
  | false => simp only [Bool.false_eq_true, if_false] at w1 ⊢; exact Rb m1 σ H1 ρ S1 _ E _ r1 (re.ext e1) w1 (fun m2 H2 kk S2 e2 => k m2 H2 kk S2 (e1.trans e2)) (kx.ext e1)
theorem WX'.tx (h : WX' X G W Φ e p) : TX X G W Φ e p := let ⟨t, h1, h2⟩ := h; ⟨t, h1.pt, h2⟩
theorem tx_never (hw : ∀ ρ S Q E, wpT Φ p ρ S Q E → False) : TX X G W Φ e p := ⟨fun _ _ _ => False, ⟨fun _ _ _ _ _ _ h => h.elim⟩, fun _ _ _ _ _ _ _ _ _ _ w _ _ => (hw _ _ _ _ w).elim⟩
theorem ex_ifx (hc : TX X G W Φ c r) (ha : EX X G W Φ a p) (hb : EX X G W Φ b q) : EX X G W Φ (.IfExp c a b pos) (.ifx r p q) := by
  obtain ⟨tc, Pc, Rc⟩ := hc
  obtain ⟨ta, Pa, Ra⟩ := ha
  obtain ⟨tb, Pb, Rb⟩ := hb
  refine ⟨_, pe_ifExp Pc Pa Pb, fun m σ H ρ S Q E Kv r0 re w k kx => ?_⟩
  simp only [wpE] at w
  refine Rc m σ H ρ S _ E _ r0 re w (fun m1 H1 kk S1 e1 r1 w1 => ?_) kx
  cases kk with
  | true => simp only [if_true] at w1 ⊢; exact Ra m1 σ H1 ρ S1 _ E _ r1 (re.ext e1) w1 (k.ext e1) (kx.ext e1)
  | false => simp only [Bool.false_eq_true, if_false] at w1 ⊢; exact Rb m1 σ H1 ρ S1 _ E _ r1 (re.ext e1) w1 (k.ext e1) (kx.ext e1)
theorem ex_neg (ha : EX X G W Φ a p) : EX X G W Φ (.UnaryOp .USub a pos) (.neg p) := by
  obtain ⟨ta, Pa, Ra⟩ := ha
  refine ⟨_, pe_un un_neg Pa, fun m σ H ρ S Q E Kv r0 re w k kx => ?_⟩
  simp only [wpE] at w
  refine Ra m σ H ρ S _ E _ r0 re w (fun m1 H1 x v S1 e1 r1 hx w1 => ?_) kx
  obtain ⟨i, e, w1⟩ := w1
  subst e
  cases hx
  exact ⟨i, rfl, k m1 H1 _ _ S1 e1 r1 (.int _) w1⟩
/-! argument lists, displays -/
theorem ax_nil : AX X G W Φ [] .nil := ⟨_, pa_nil, fun m σ H ρ S Q E Kv r0 re w k kx => k m H [] [] S Ext.refl r0 .nil (by simpa only [wpEs] using w)⟩
theorem ax_cons (ha : EX X G W Φ a p) (hr : AX X G W Φ es ps) (hs : starEach (a :: es) X.env = (false, eval a X.env) :: starEach es X.env) : AX X G W Φ (a :: es) (.cons p ps) := by
  obtain ⟨ta, Pa, Ra⟩ := ha
  obtain ⟨tr, Pr, Rr⟩ := hr
  refine ⟨_, pa_cons Pa Pr hs, fun m σ H ρ S Q E Kv r0 re w k kx => ?_⟩
  simp only [wpEs] at w
  refine Ra m σ H ρ S _ E _ r0 re w (fun m1 H1 x v S1 e1 r1 hx w1 => ?_) kx
  refine Rr m1 σ H1 ρ S1 _ E _ r1 (re.ext e1) w1 (fun m2 H2 xs vs S2 e2 r2 hxs w2 => ?_) (kx.ext e1)
  exact k m2 H2 _ _ S2 (e1.trans e2) r2 (.cons (RepV.ext e2 v x hx) hxs) w2
theorem ex_tup {x1 : Nat} (h : AX X G W Φ es ps) : EX X G W Φ (.Tuple es x1 pos) (.tup ps) := by
  obtain ⟨t, P, R⟩ := h
  refine ⟨_, pe_tupP P, fun m σ H ρ S Q E Kv r0 re w k kx => ?_⟩
  simp only [wpE] at w
  refine R m σ H ρ S _ E _ r0 re w (fun m1 H1 xs vs S1 e1 r1 hx w1 => ?_) kx
  exact ⟨by rw [hx.len]; exact w1.1, (k.ext e1).newT r1 hx w1.2⟩
theorem ex_lst (h : AX X G W Φ es ps) : EX X G W Φ (.List es pos) (.lst ps) := by
  obtain ⟨t, P, R⟩ := h
  refine ⟨_, pe_lst P, fun m σ H ρ S Q E Kv r0 re w k kx => ?_⟩
  simp only [wpE] at w
  refine R m σ H ρ S _ E _ r0 re w (fun m1 H1 xs vs S1 e1 r1 hx w1 => ?_) kx
  exact ⟨by rw [hx.len]; exact w1.1, fun p n => (k.ext e1).newL r1 hx w1.2 n⟩
/-! subscripts -/
theorem idx_of {m : List Addr} {H : Hp} {S : Store} {x : V} {v : PV} {kk : Int} {Q : PQ} {Kv : VK} (r : RlS X.K m H S) (h : RepV X.K H m x v) (q : seqQ v S fun xs => ∃ z, atPV xs kk = some z ∧ Q z S) (k : KE X.K m H Q Kv) : rIx X.K x (.int kk) H Kv := by
  cases h with
  | @tup a xs vs h1 h2 =>
    obtain ⟨z, e, q⟩ := q
    obtain ⟨y, e2, hy⟩ := h2.at_ e
    exact .inr (.inl ⟨a, xs, kk, y, rfl, rfl, h1.sq, e2, k.here r hy q⟩)
  | @ref a i h1 =>
    obtain ⟨o, e, sq, z, e1, q⟩ := q
    obtain ⟨xs, g1, g2⟩ := r.sql e sq h1
    obtain ⟨y, e2, hy⟩ := g2.at_ e1
    exact .inl ⟨a, xs, kk, y, rfl, rfl, g1, e2, k.here r hy q⟩
  | _ => exact q.elim
def rIxDk : R2 := fun x y H Q => ∃ a kvs k v, x = .ref a ∧ Rd H a (.dK kvs) ∧ y = kV k ∧ valV kvs k = some v ∧ Q v H
theorem ix_dk (hu : X.A.units + 190 < cLine) : IxR X rIxDk := by
  intro value slice pins s σ H x y v u Q I rx ry h hs
  obtain ⟨a, kvs, k, z, rfl, ha, rfl, e, q⟩ := h
  obtain rfl : v = Value.ref a := rx
  have g : DGet H a (kV k) (some z) := by rw [← e]; exact DGet.rd ha
  exact tail_any (dict_typeIs I g) PySem.F.slot_dict_getitem.lookup (d_getItem (by omega) I g ry fun w' s' I' rw' => ⟨z, H, I', rw', q⟩) hs
theorem opF_idx (hu : X.A.units + 190 < cLine) : ∃ r : R2, IxR X r ∧ ∀ m H S x y v w Q Kv, RlS X.K m H S → RepV X.K H m x v → RepV X.K H m y w → idxQ v w S Q → KE X.K m H Q Kv → r x y H Kv := by
  refine ⟨_, ix_seq.or (ix_dk hu), fun m H S x y v w Q Kv r hx hy q k => ?_⟩
  cases hx with
  | @tup a xs vs h1 h2 =>
    cases hy with
    | int kk => exact .inl (idx_of r (.tup h1 h2) q k)
    | _ => exact q.elim
  | @ref a i h1 =>
    obtain ⟨o, e, q⟩ := q
    cases o with
    | lst vs =>
      cases hy with
      | int kk => exact .inl (idx_of r (.ref h1) ⟨_, e, rfl, q⟩ k)
      | _ => exact q.elim
    | frz vs =>
      cases hy with
      | int kk => exact .inl (idx_of r (.ref h1) ⟨_, e, rfl, q⟩ k)
      | _ => exact q.elim
    | dct vs =>
      obtain ⟨kk, z, ek, ez, q⟩ := q
      obtain ⟨b, xs, g1, g2, g3⟩ := r.dct e
      rw [h1] at g1
      cases g1
      rcases g3.get (k := kk) with ⟨z1, z2⟩ | ⟨z', zv, z1, z2, z3⟩
      · rw [z1] at ez; cases ez
      · rw [z1] at ez; cases ez
        exact .inr ⟨a, xs, kk, zv, rfl, .inl g2, rep_key hy ek, z2, k.here r z3 q⟩
    | dctF vs g =>
      obtain ⟨kk, z, ek, ez, q⟩ := q
      obtain ⟨b, g1, g2, g3⟩ := r.dctF e
      rw [h1] at g1
      cases g1
      rcases g3.get (k := kk) with ⟨z1, z2⟩ | ⟨z', zv, z1, z2, z3⟩
      · rw [z1] at ez; cases ez
      · rw [z1] at ez; cases ez
        exact .inr ⟨a, g.2, kk, zv, rfl, .inr ⟨_, g2⟩, rep_key hy ek, z2, k.here r z3 q⟩
    | ins _ _ => cases hy <;> exact q.elim
    | dctT _ => cases hy <;> exact q.elim
  | str z =>
    cases hy with
    | int kk =>
      obtain ⟨hz, c, ec, q⟩ := q
      exact .inl (.inr (.inr ⟨z, kk, c, rfl, rfl, hz, ec, k.here r (.str _) q⟩))
    | _ => exact q.elim
  | _ => cases hy <;> exact q.elim
theorem ex_idx (hu : X.A.units + 190 < cLine) (ha : EX X G W Φ a p) (hb : EX X G W Φ b q) (hs : PlainIx b) : EX X G W Φ (.Subscript a b pos) (.idx p q) := by
  obtain ⟨ta, Pa, Ra⟩ := ha
  obtain ⟨tb, Pb, Rb⟩ := hb
  obtain ⟨r, ho, hr⟩ := opF_idx (X := X) hu
  refine ⟨_, pe_ix ho Pa Pb hs, fun m σ H ρ S Q E Kv r0 re w k kx => ?_⟩
  simp only [wpE] at w
  refine Ra m σ H ρ S _ E _ r0 re w (fun m1 H1 x v S1 e1 r1 hx w1 => ?_) kx
  refine Rb m1 σ H1 ρ S1 _ E _ r1 (re.ext e1) w1 (fun m2 H2 y w S2 e2 r2 hy w2 => ?_) (kx.ext e1)
  exact hr m2 H2 S2 x y v w Q Kv r2 (RepV.ext e2 v x hx) hy w2 (k.ext (e1.trans e2))
theorem atPV_nat {xs : List PV} {n : Nat} {x : PV} (h : xs[n]? = some x) : atPV xs (n : Int) = some x := atI_nat h
theorem seqQ_mono {v : PV} {S : Store} {P P' : List PV → Prop} (h : seqQ v S P) (f : ∀ xs, P xs → P' xs) : seqQ v S P' := by
  cases v with
  | tup xs => exact f _ h
  | ref i => obtain ⟨o, e, sq, h⟩ := h; exact ⟨o, e, sq, f _ h⟩
  | _ => exact h.elim
theorem ex_idxc {n j : Nat} {p2 : Pos} (ha : EX X G W Φ a p) : EX X G W Φ (.Subscript a (.Constant (.int (n : Int)) j p2) pos) (.idxc p n) := by
  obtain ⟨ta, Pa, Ra⟩ := ha
  refine ⟨_, pe_ix ix_seq Pa pe_int (fun _ _ => rfl), fun m σ H ρ S Q E Kv r0 re w k kx => ?_⟩
  simp only [wpE] at w
  refine Ra m σ H ρ S _ E _ r0 re w (fun m1 H1 x v S1 e1 r1 hx w1 => ?_) kx
  exact idx_of r1 hx (seqQ_mono w1 fun xs ⟨x, e, q⟩ => ⟨x, atPV_nat e, q⟩) (k.ext e1)
/-! slices -/
theorem ox_no : OX X G W Φ none .no := ⟨_, po_none, fun m σ H ρ S Q E Kv r0 re w k kx => k m H none S Ext.refl r0 (by simpa only [wpO] using w)⟩
theorem ox_so (ha : EX X G W Φ a p) : OX X G W Φ (some a) (.so p) := by
  obtain ⟨ta, Pa, Ra⟩ := ha
  refine ⟨_, po_some Pa, fun m σ H ρ S Q E Kv r0 re w k kx => ?_⟩
  simp only [wpO] at w
  refine Ra m σ H ρ S _ E _ r0 re w (fun m1 H1 x v S1 e1 r1 hx w1 => ?_) kx
  obtain ⟨i, e, w1⟩ := w1
  subst e
  cases hx
  exact ⟨i, rfl, k m1 H1 _ S1 e1 r1 w1⟩
theorem sl_of {m : List Addr} {H : Hp} {S : Store} {x : V} {v : PV} {lo hi : Option Int} {Q : PQ} {Kv : VK} (r : RlS X.K m H S) (h : RepV X.K H m x v) (q : sliceQ v lo hi S Q) (k : KE X.K m H Q Kv) : rSlP X.K x lo hi H Kv ∨ rSlL X.K x lo hi H Kv := by
  cases h with
  | @tup a xs vs h1 h2 =>
    refine .inl ⟨a, xs, rfl, h1.sq, fun e => ?_, k.newT r (h2.cutV lo hi) q⟩
    have hc := h2.cutV lo hi
    rw [e] at hc
    exact k.here r (.tup h1 hc) q
  | @ref a i h1 =>
    obtain ⟨o, e, sq, q⟩ := q
    obtain ⟨xs, g1, g2⟩ := r.sql e sq h1
    exact .inr ⟨a, xs, rfl, g1, fun p n => k.newL r (g2.cutV lo hi) q n⟩
  | _ => exact q.elim
theorem ex_slice {lo hi : Option Expr} {l h : IOp} {p2 : Pos} (ha : EX X G W Φ a p) (hl : OX X G W Φ lo l) (hh : OX X G W Φ hi h) : EX X G W Φ (.Subscript a (.Slice lo hi none p2) pos) (.slice p l h) := by
  obtain ⟨ta, Pa, Ra⟩ := ha
  obtain ⟨tl, Pl, Rl⟩ := hl
  obtain ⟨th, Ph, Rh⟩ := hh
  refine ⟨_, pe_slice (sl_tupP.or sl_list) Pa Pl Ph, fun m σ H ρ S Q E Kv r0 re w k kx => ?_⟩
  simp only [wpE] at w
  refine Ra m σ H ρ S _ E _ r0 re w (fun m1 H1 x v S1 e1 r1 hx w1 => ?_) kx
  refine Rl m1 σ H1 ρ S1 _ E _ r1 (re.ext e1) w1 (fun m2 H2 l S2 e2 r2 w2 => ?_) (kx.ext e1)
  refine Rh m2 σ H2 ρ S2 _ E _ r2 (re.ext (e1.trans e2)) w2 (fun m3 H3 h S3 e3 r3 w3 => ?_) (kx.ext (e1.trans e2))
  exact sl_of r3 (RepV.ext (e2.trans e3) v x hx) w3 (k.ext ((e1.trans e2).trans e3))
/-! built-ins by name -/
/-- a call by values -/
def CallF (X : Cx) (f : Value) (q : List PV → Store → PQ → Prop) : Prop :=
  ∃ r, CallR X f r ∧ ∀ m H S xs vs Q Kv, RlS X.K m H S → RepL X.K H m xs vs → q vs S Q → KE X.K m H Q Kv → r xs H Kv
theorem CallR.or {f : Value} {r r' : List V → Hp → VK → Prop} (h : CallR X f r) (h' : CallR X f r') : CallR X f (fun xs H Q => r xs H Q ∨ r' xs H Q) :=
  fun pins s σ H xs us Q I rv q => q.elim (h pins s σ H xs us Q I rv) (h' pins s σ H xs us Q I rv)
def biN : Bi → Str
  | .len => "len" | .max2 => "max" | .min2 => "min" | .int1 => "int" | .list1 => "list" | .tuple1 => "tuple" | .all1 => "all" | .any1 => "any" | .sum1 => "sum" | .list0 => "list" | .tuple0 => "tuple" | .sorted1 => "sorted" | .max1 => "max" | .min1 => "min" | .dict1 => "dict"
def biV : Bi → Value
  | .len => .builtin "len" | .max2 => .builtin "max" | .min2 => .builtin "min" | .int1 => .type "int" | .list1 => .type "list" | .tuple1 => .type "tuple" | .all1 => .builtin "all" | .any1 => .builtin "any" | .sum1 => .builtin "sum" | .list0 => .type "list" | .tuple0 => .type "tuple" | .sorted1 => .builtin "sorted" | .max1 => .builtin "max" | .min1 => .builtin "min" | .dict1 => .type "dict"
theorem rep1 {K : PySem.W.Frag} {H : Hp} {m : List Addr} {xs : List V} {v : PV} (h : RepL K H m xs [v]) : ∃ x, xs = [x] ∧ RepV K H m x v := by
  cases h with | cons a t => cases t; exact ⟨_, rfl, a⟩
theorem rep2 {K : PySem.W.Frag} {H : Hp} {m : List Addr} {xs : List V} {v w : PV} (h : RepL K H m xs [v, w]) : ∃ x y, xs = [x, y] ∧ RepV K H m x v ∧ RepV K H m y w := by
  cases h with | cons a t => cases t with | cons b u => cases u; exact ⟨_, _, rfl, a, b⟩
theorem seq_of {m : List Addr} {H : Hp} {S : Store} {x : V} {v : PV} {P : List PV → Prop} (r : RlS X.K m H S) (h : RepV X.K H m x v) (q : seqQ v S P) :
    ∃ a xs vs, x = .ref a ∧ RepL X.K H m xs vs ∧ P vs ∧ ((PlT X.K H a xs ∧ v = .tup vs) ∨ (SqL X.K H a xs ∧ ∃ i o, v = .ref i ∧ S[i]? = some o ∧ o.items = vs)) := by
  cases h with
  | @tup a xs vs h1 h2 => exact ⟨a, xs, vs, rfl, h2, q, .inl ⟨h1, rfl⟩⟩
  | @ref a i h1 =>
    obtain ⟨o, e, sq, q⟩ := q
    obtain ⟨xs, g1, g2⟩ := r.sql e sq h1
    exact ⟨a, xs, _, rfl, g2, q, .inr ⟨g1, i, o, rfl, e, rfl⟩⟩
  | _ => exact q.elim
theorem all_bl {K : PySem.W.Frag} {H : Hp} {m : List Addr} : ∀ {xs : List V} {vs : List PV} {b : Bool}, RepL K H m xs vs → allBl vs = some b → ∃ bs : List Bool, xs = bs.map V.bl ∧ bs.all id = b
  | _, _, b, .nil, e => ⟨[], rfl, by simpa [allBl] using e⟩
  | _, _, b, .cons (.bl c) t, e => by
    simp only [allBl, Option.map_eq_some_iff] at e
    obtain ⟨d, q, e⟩ := e
    obtain ⟨bs, e1, e2⟩ := all_bl t q
    exact ⟨c :: bs, by rw [e1]; rfl, by simpa [e2] using e⟩
  | _, _, _, .cons .non _, e => by simp [allBl] at e
  | _, _, _, .cons (.int _) _, e => by simp [allBl] at e
  | _, _, _, .cons (.str _) _, e => by simp [allBl] at e
  | _, _, _, .cons (.tup _ _) _, e => by simp [allBl] at e
  | _, _, _, .cons (.ref _) _, e => by simp [allBl] at e
theorem any_bl {K : PySem.W.Frag} {H : Hp} {m : List Addr} : ∀ {xs : List V} {vs : List PV} {b : Bool}, RepL K H m xs vs → anyBl vs = some b → ∃ bs : List Bool, xs = bs.map V.bl ∧ bs.any id = b
  | _, _, b, .nil, e => ⟨[], rfl, by simpa [anyBl] using e⟩
  | _, _, b, .cons (.bl c) t, e => by
    simp only [anyBl, Option.map_eq_some_iff] at e
    obtain ⟨d, q, e⟩ := e
    obtain ⟨bs, e1, e2⟩ := any_bl t q
    exact ⟨c :: bs, by rw [e1]; rfl, by simpa [e2] using e⟩
  | _, _, _, .cons .non _, e => by simp [anyBl] at e
  | _, _, _, .cons (.int _) _, e => by simp [anyBl] at e
  | _, _, _, .cons (.str _) _, e => by simp [anyBl] at e
  | _, _, _, .cons (.tup _ _) _, e => by simp [anyBl] at e
  | _, _, _, .cons (.ref _) _, e => by simp [anyBl] at e
theorem sum_int {K : PySem.W.Frag} {H : Hp} {m : List Addr} : ∀ {xs : List V} {vs : List PV} {b : Int}, RepL K H m xs vs → sumI vs = some b → ∃ ns : List Int, xs = ns.map V.int ∧ ns.sum = b
  | _, _, b, .nil, e => ⟨[], rfl, by simpa [sumI] using e⟩
  | _, _, b, .cons (.int c) t, e => by
    simp only [sumI, Option.map_eq_some_iff] at e
    obtain ⟨d, q, e⟩ := e
    obtain ⟨bs, e1, e2⟩ := sum_int t q
    exact ⟨c :: bs, by rw [e1]; rfl, by simpa [e2] using e⟩
  | _, _, _, .cons .non _, e => by simp [sumI] at e
  | _, _, _, .cons (.bl _) _, e => by simp [sumI] at e
  | _, _, _, .cons (.str _) _, e => by simp [sumI] at e
  | _, _, _, .cons (.tup _ _) _, e => by simp [sumI] at e
  | _, _, _, .cons (.ref _) _, e => by simp [sumI] at e
theorem callF_len : CallF X (.builtin "len") (biQ .len) := by
  refine ⟨_, call_len.or call_lenD, fun m H S xs vs Q Kv r h q k => ?_⟩
  match vs, h, q with
  | [.str x], h, q =>
    obtain ⟨x, rfl, hx⟩ := rep1 h
    cases hx
    exact .inl ⟨_, _, rfl, ⟨q.1, rfl⟩, k.here r (.int _) q.2⟩
  | [.tup ws], h, q =>
    obtain ⟨x, rfl, hx⟩ := rep1 h
    cases hx with
    | tup h1 h2 => exact .inl ⟨_, _, rfl, .inr ⟨_, h1.sq, rfl⟩, by rw [h2.len]; exact k.here r (.int _) q⟩
  | [.ref i], h, q =>
    obtain ⟨x, rfl, hx⟩ := rep1 h
    cases hx with
    | ref h1 =>
      obtain ⟨o, e, ob, q⟩ := q
      cases o with
      | lst vs =>
        obtain ⟨xs, g1, g2⟩ := r.sql e rfl h1
        exact .inl ⟨_, _, rfl, .inl ⟨_, g1, rfl⟩, by rw [g2.len]; exact k.here r (.int _) q⟩
      | frz vs =>
        obtain ⟨xs, g1, g2⟩ := r.sql e rfl h1
        exact .inl ⟨_, _, rfl, .inl ⟨_, g1, rfl⟩, by rw [g2.len]; exact k.here r (.int _) q⟩
      | dct vs =>
        obtain ⟨b, xs, g1, g2, g3⟩ := r.dct e
        rw [h1] at g1
        cases g1
        refine .inr ⟨_, xs, rfl, g2, ?_⟩
        rw [g3.len]
        have q' : Q (.int ((keysP vs).length : Nat)) S := q
        rw [keysP, List.length_map] at q'
        exact k.here r (.int _) q'
      | ins _ _ => cases ob
      | dctT _ => cases ob
      | dctF _ _ => cases ob
  | [.non], h, q => exact q.elim
  | [.bl _], h, q => exact q.elim
  | [.int _], h, q => exact q.elim
  | [], h, q => exact q.elim
  | _ :: _ :: _, h, q => exact False.elim (by simpa [biQ] using q)
theorem callF_int2 {f : Value} {b : Bi} {g : Int → Int → Int} (h : CallR X f (fun xs H Q => ∃ i j, xs = [.int i, .int j] ∧ Q (.int (g i j)) H))
    (hq : ∀ vs S Q, biQ b vs S Q → ∃ i j, vs = [.int i, .int j] ∧ Q (.int (g i j)) S) : CallF X f (biQ b) := by
  refine ⟨_, h, fun m H S xs vs Q Kv r h q k => ?_⟩
  obtain ⟨i, j, e, q2⟩ := hq _ _ _ q
  subst e
  obtain ⟨x, y, rfl, hx, hy⟩ := rep2 h
  cases hx
  cases hy
  exact ⟨_, _, rfl, k.here r (.int _) q2⟩
theorem callF_int1 : CallF X (.type "int") (biQ .int1) := by
  refine ⟨_, call_int1, fun m H S xs vs Q Kv r h q k => ?_⟩
  match vs, h, q with
  | [.int i], h, q => obtain ⟨x, rfl, hx⟩ := rep1 h; cases hx; exact .inl ⟨_, rfl, k.here r (.int _) q⟩
  | [.bl i], h, q => obtain ⟨x, rfl, hx⟩ := rep1 h; cases hx; exact .inr ⟨_, rfl, k.here r (.int _) q⟩
  | [.non], h, q => exact q.elim
  | [.str _], h, q => exact q.elim
  | [.tup _], h, q => exact q.elim
  | [.ref _], h, q => exact q.elim
  | [], h, q => exact q.elim
  | _ :: _ :: _, h, q => exact False.elim (by simpa [biQ] using q)
theorem callF_list1 (hc : X.calm = true) : CallF X (.type "list") (biQ .list1) := by
  refine ⟨_, call_list_of.or (call_listD hc), fun m H S xs vs Q Kv r h q k => ?_⟩
  match vs, h, q with
  | [.tup ws], h, q =>
    obtain ⟨x, rfl, hx⟩ := rep1 h
    cases hx with
    | tup h1 h2 => exact .inl ⟨_, _, rfl, .inr h1.sq, fun l n => k.newL r h2 q n⟩
  | [.ref i], h, q =>
    obtain ⟨x, rfl, hx⟩ := rep1 h
    cases hx with
    | ref h1 =>
      obtain ⟨o, e, ob, q⟩ := q
      cases o with
      | lst vs =>
        obtain ⟨xs, g1, g2⟩ := r.sql e rfl h1
        exact .inl ⟨_, _, rfl, .inl g1, fun l n => k.newL r g2 q n⟩
      | frz vs =>
        obtain ⟨xs, g1, g2⟩ := r.sql e rfl h1
        exact .inl ⟨_, _, rfl, .inl g1, fun l n => k.newL r g2 q n⟩
      | dct vs =>
        obtain ⟨b, xs, g1, g2, g3⟩ := r.dct e
        rw [h1] at g1
        cases g1
        exact .inr ⟨_, xs, rfl, .inl g2, fun l n => k.newL r g3.keysL q n⟩
      | ins _ _ => cases ob
      | dctT _ => cases ob
      | dctF _ _ => cases ob
  | [.non], h, q => exact q.elim
  | [.bl _], h, q => exact q.elim
  | [.int _], h, q => exact q.elim
  | [.str _], h, q => exact q.elim
  | [], h, q => exact q.elim
  | _ :: _ :: _, h, q => exact False.elim (by simpa [biQ] using q)
theorem ints_rep {K : PySem.W.Frag} {H : Hp} {m : List Addr} : ∀ {xs : List V} {vs : List PV} {ns : List Int}, RepL K H m xs vs → intsP vs = some ns → xs = ns.map V.int
  | _, _, ns, .nil, e => by simp [intsP] at e; subst e; rfl
  | _, _, ns, .cons (.int c) t, e => by
    simp only [intsP, Option.map_eq_some_iff] at e
    obtain ⟨d, q, rfl⟩ := e
    rw [ints_rep t q]
    rfl
  | _, _, _, .cons .non _, e => by simp [intsP] at e
  | _, _, _, .cons (.bl _) _, e => by simp [intsP] at e
  | _, _, _, .cons (.str _) _, e => by simp [intsP] at e
  | _, _, _, .cons (.tup _ _) _, e => by simp [intsP] at e
  | _, _, _, .cons (.ref _) _, e => by simp [intsP] at e
theorem rep_ints {K : PySem.W.Frag} {H : Hp} {m : List Addr} : ∀ ns : List Int, RepL K H m (ns.map V.int) (ns.map PV.int)
  | [] => .nil
  | n :: ns => .cons (.int n) (rep_ints ns)
theorem insI_perm (i : Int) : ∀ l : List Int, (insI i l).Perm (i :: l)
  | [] => .refl _
  | j :: r => by
    unfold insI
    split
    · exact .refl _
    · exact ((insI_perm i r).cons j).trans (.swap i j r)
theorem sortI_perm : ∀ l : List Int, (sortI l).Perm l
  | [] => .refl _
  | i :: r => (insI_perm i _).trans ((sortI_perm r).cons i)
theorem insI_sorted (i : Int) : ∀ l : List Int, l.Pairwise (· ≤ ·) → (insI i l).Pairwise (· ≤ ·)
  | [], _ => by simp [insI]
  | j :: r, h => by
    rw [List.pairwise_cons] at h
    unfold insI
    split
    · rename_i hij
      refine List.pairwise_cons.2 ⟨fun y hy => ?_, List.pairwise_cons.2 h⟩
      rcases List.mem_cons.1 hy with rfl | hy
      · exact hij
      · exact Int.le_trans hij (h.1 y hy)
    · rename_i hij
      refine List.pairwise_cons.2 ⟨fun y hy => ?_, insI_sorted i r h.2⟩
      rcases List.mem_cons.1 ((insI_perm i r).mem_iff.1 hy) with rfl | hy
      · omega
      · exact h.1 y hy
theorem sortI_sorted : ∀ l : List Int, (sortI l).Pairwise (· ≤ ·)
  | [] => by simp [sortI]
  | i :: r => insI_sorted i _ (sortI_sorted r)
theorem sortI_uniq {l r : List Int} (h : l.Perm r) (hs : l.Pairwise (· ≤ ·)) : l = sortI r :=
  List.Perm.eq_of_pairwise (le := fun a b => a ≤ b) (fun _ _ _ _ a b => Int.le_antisymm a b) hs (sortI_sorted r) (h.trans (sortI_perm r).symm)
theorem keys_inl : ∀ {vs : List (Key × PV)} {ns : List Int}, intsP (keysP vs) = some ns → vs.map (·.1) = ns.map Sum.inl
  | [], ns, e => by simp [keysP, intsP] at e; subst e; rfl
  | (.inl i, v) :: vs, ns, e => by
    simp only [keysP, List.map_cons, keyPV, intsP, Option.map_eq_some_iff] at e
    obtain ⟨d, q, rfl⟩ := e
    rw [List.map_cons, keys_inl (vs := vs) q]
    rfl
  | (.inr i, v) :: vs, ns, e => by simp [keysP, keyPV, intsP] at e
theorem repL_map {K : PySem.W.Frag} {H : Hp} {m : List Addr} {β : Type} {f : β → V} {g : β → PV} : ∀ {bs : List β}, (∀ b, b ∈ bs → RepV K H m (f b) (g b)) → RepL K H m (bs.map f) (bs.map g)
  | [], _ => .nil
  | b :: bs, h => .cons (h b (.head _)) (repL_map fun c hc => h c (.tail _ hc))
theorem zip_tupI {K : PySem.W.Frag} {H : Hp} {m : List Addr} : ∀ {xs : List V} {pss : List (List Int)}, RepL K H m xs (pss.map tupI) → (xs.zip pss).map (·.1) = xs ∧ (xs.zip pss).map (·.2) = pss ∧ ∀ b, b ∈ xs.zip pss → RepV K H m b.1 (tupI b.2)
  | xs, [], h => by cases h; exact ⟨rfl, rfl, fun b hb => by cases hb⟩
  | xs, p :: pss, h => by
    cases h with
    | cons h1 h2 =>
      obtain ⟨e1, e2, e3⟩ := zip_tupI h2
      refine ⟨by simp only [List.zip_cons_cons, List.map_cons, e1], by simp only [List.zip_cons_cons, List.map_cons, e2], fun b hb => ?_⟩
      rcases List.mem_cons.1 hb with rfl | hb
      · exact h1
      · exact e3 b hb
/-- pairs with a number ahead, in parts -/
theorem rep_pairI {K : PySem.W.Frag} {H : Hp} {m : List Addr} : ∀ {xs : List V} {ps : List (Int × PV)}, RepL K H m xs (ps.map pairI) →
    ∃ cs : List ((Addr × Int × V) × PV), cs.map (fun c => (c.1.2.1, c.2)) = ps ∧ xs = cs.map (fun c => V.ref c.1.1) ∧ ∀ c, c ∈ cs → PlT K H c.1.1 [.int c.1.2.1, c.1.2.2] ∧ RepV K H m c.1.2.2 c.2
  | _, [], h => by
    cases h
    exact ⟨[], rfl, rfl, fun c hc => by cases hc⟩
  | _, p :: ps, h => by
    cases h with
    | cons h t =>
      obtain ⟨cs, e1, e2, e3⟩ := rep_pairI t
      cases h with
      | @tup a ys _ h1 h2 =>
        cases h2 with
        | cons g1 g2 =>
          cases g2 with
          | @cons z _ _ _ g2 g3 =>
            cases g3
            cases g1
            refine ⟨((a, p.1, z), p.2) :: cs, by rw [List.map_cons, e1], by rw [List.map_cons, e2], fun c hc => ?_⟩
            rcases List.mem_cons.1 hc with rfl | hc
            · exact ⟨h1, g2⟩
            · exact e3 c hc
theorem rep_sortPs {K : PySem.W.Frag} {H : Hp} {m : List Addr} {cs : List ((Addr × Int × V) × PV)} (h : ∀ c, c ∈ cs → PlT K H c.1.1 [.int c.1.2.1, c.1.2.2] ∧ RepV K H m c.1.2.2 c.2) :
    RepL K H m (((cs.map (·.1)).mergeSort fun x y => decide (x.2.1 ≤ y.2.1)).map fun b => V.ref b.1) ((sortPs (cs.map fun c => (c.1.2.1, c.2))).map pairI) := by
  have e1 := PySem.W.sort_maps (r := fun x y : (Addr × Int × V) × PV => decide (x.1.2.1 ≤ y.1.2.1)) (s := fun x y : Addr × Int × V => decide (x.2.1 ≤ y.2.1)) (fun c : (Addr × Int × V) × PV => c.1) (l := cs) (fun _ _ _ _ => rfl)
  have e2 := PySem.W.sort_maps (r := fun x y : (Addr × Int × V) × PV => decide (x.1.2.1 ≤ y.1.2.1)) (s := fun x y : Int × PV => decide (x.1 ≤ y.1)) (fun c : (Addr × Int × V) × PV => (c.1.2.1, c.2)) (l := cs) (fun _ _ _ _ => rfl)
  unfold sortPs
  rw [← e1, ← e2, List.map_map, List.map_map]
  refine repL_map (f := fun c : (Addr × Int × V) × PV => V.ref c.1.1) (g := fun c : (Addr × Int × V) × PV => pairI (c.1.2.1, c.2)) fun c hc => ?_
  obtain ⟨h1, h2⟩ := h c ((List.mergeSort_perm _ _).mem_iff.1 hc)
  exact .tup h1 (.cons (.int _) (.cons h2 .nil))
theorem callF_dict1 (hc : X.calm = true) : CallF X (.type "dict") (biQ .dict1) := by
  refine ⟨_, (call_dictT hc).or call_dictC, fun m H S xs vs Q Kv r h q k => ?_⟩
  match vs, h, q with
  | [.tup ws], h, q =>
    obtain ⟨x, rfl, hx⟩ := rep1 h
    cases hx with
    | tup h1 h2 =>
      obtain ⟨kvp, e, q⟩ := q
      obtain ⟨ps, kvs, rfl, hp, hd⟩ := rep_pairs h2 e
      refine .inl ⟨_, ps, kvs, rfl, h1, hp, fun p n => ?_⟩
      have hm := RepD.merge hd (.nil : RepD X.K H m [] [])
      exact k (m ++ [p]) _ _ _ _ (Ext.newL _ n) (r.newO (o := .dct (mergeP [] kvp)) n ⟨_, upd_same, hm.ext (Ext.newL _ n)⟩) (.ref (by rw [← r.len]; exact get_last)) q
  | [.ref i], h, q =>
    obtain ⟨x, rfl, hx⟩ := rep1 h
    cases hx with
    | ref h1 =>
      obtain ⟨kvp, e, q⟩ := q
      obtain ⟨b, xs, g1, g2, g3⟩ := r.dct e
      rw [h1] at g1
      cases g1
      refine .inr ⟨_, xs, rfl, .inl g2, fun p n => ?_⟩
      exact k (m ++ [p]) _ _ _ _ (Ext.newL _ n) (r.newO (o := .dct kvp) n ⟨_, upd_same, g3.ext (Ext.newL _ n)⟩) (.ref (by rw [← r.len]; exact get_last)) q
  | [.non], h, q => exact q.elim
  | [.bl _], h, q => exact q.elim
  | [.int _], h, q => exact q.elim
  | [.str _], h, q => exact q.elim
  | [], h, q => exact q.elim
  | _ :: _ :: _, h, q => exact False.elim (by simpa [biQ] using q)
theorem callF_sorted1 (hc : X.calm = true) (hu : X.A.units + 190 < cLine) : CallF X (.builtin "sorted") (biQ .sorted1) := by
  refine ⟨_, ((cr_sortedI.or (call_sortedDI hc)).or (cr_sortedT hu)).or (cr_sortedH hu), fun m H S xs vs Q Kv r h q k => ?_⟩
  match vs, h, q with
  | [.ref i], h, q =>
    obtain ⟨x, rfl, hx⟩ := rep1 h
    cases hx with
    | ref h1 =>
      rcases q with q | ⟨pss, e, q⟩ | ⟨ps, e, nd, q⟩
      rotate_left 2
      · obtain ⟨xs, g1, g2⟩ := r.sql e rfl h1
        obtain ⟨cs, rfl, rfl, hcs⟩ := rep_pairI g2
        refine .inr ⟨_, cs.map (·.1), rfl, by rw [List.map_map]; exact g1, fun b hb => ?_, by rw [List.map_map] at nd ⊢; exact nd, fun p hp => k.newL r (rep_sortPs hcs) q hp⟩
        obtain ⟨c, hc', rfl⟩ := List.mem_map.1 hb
        exact (hcs c hc').1.sq
      rotate_left
      · obtain ⟨xs, g1, g2⟩ := r.sql e rfl h1
        obtain ⟨e1, e2, e3⟩ := zip_tupI g2
        refine .inl (.inr ⟨_, xs.zip pss, rfl, by rw [e1]; exact g1, fun b hb => rep_tupI (e3 b hb), fun p hp => ?_⟩)
        have hsub : ∀ b, b ∈ (xs.zip pss).mergeSort (fun x y => decide (x.2 ≤ y.2)) → RepV X.K H m b.1 (tupI b.2) := fun b hb => e3 b ((List.mergeSort_perm _ _).mem_iff.1 hb)
        have hrep := repL_map (f := fun b : V × List Int => b.1) (g := fun b : V × List Int => tupI b.2) hsub
        have hs := PySem.W.sort_maps (r := fun x y : V × List Int => decide (x.2 ≤ y.2)) (s := fun x y : List Int => decide (x ≤ y)) (fun b : V × List Int => b.2) (l := xs.zip pss) (fun _ _ _ _ => rfl)
        rw [show ((xs.zip pss).mergeSort fun x y => decide (x.2 ≤ y.2)).map (fun b : V × List Int => tupI b.2) = (((xs.zip pss).mergeSort fun x y => decide (x.2 ≤ y.2)).map fun b : V × List Int => b.2).map tupI from by rw [List.map_map]; rfl, hs, e2] at hrep
        exact k.newL r hrep q hp
      obtain ⟨o, e, ob, ns, en, hn, q⟩ := q
      have fin : ∀ (ys : List Int) (p : Addr), ys.Perm ns → ys.Pairwise (· ≤ ·) → H p = none → Kv (.ref p) (upd H p (.lst (ys.map V.int))) := fun ys p h1 h2 h3 => by
        rw [sortI_uniq h1 h2]
        exact k.newL r (rep_ints _) q h3
      cases o with
      | lst vs =>
        obtain ⟨xs, g1, g2⟩ := r.sql e rfl h1
        exact .inl (.inl (.inl ⟨_, ns, rfl, by rw [← ints_rep g2 en]; exact g1, fin⟩))
      | frz vs =>
        obtain ⟨xs, g1, g2⟩ := r.sql e rfl h1
        exact .inl (.inl (.inl ⟨_, ns, rfl, by rw [← ints_rep g2 en]; exact g1, fin⟩))
      | dct vs =>
        obtain ⟨b, xs, g1, g2, g3⟩ := r.dct e
        rw [h1] at g1
        cases g1
        exact .inl (.inl (.inr ⟨_, xs, ns, rfl, .inl g2, by rw [g3.keys]; exact keys_inl en, hn.elim (fun h => by cases h) id, fin⟩))
      | ins _ _ => cases ob
      | dctT _ => cases ob
      | dctF _ _ => cases ob
  | [.non], h, q => exact q.elim
  | [.bl _], h, q => exact q.elim
  | [.int _], h, q => exact q.elim
  | [.str _], h, q => exact q.elim
  | [.tup _], h, q => exact q.elim
  | [], h, q => exact q.elim
  | _ :: _ :: _, h, q => exact False.elim (by simpa [biQ] using q)
theorem maxL_spec : ∀ {ns : List Int} {m : Int}, maxL ns = some m → m ∈ ns ∧ ∀ y, y ∈ ns → y ≤ m
  | [], _, e => by simp [maxL] at e
  | [i], m, e => by simp [maxL] at e; subst e; simp
  | i :: j :: r, m, e => by
    simp only [maxL, Option.map_eq_some_iff] at e
    obtain ⟨m', e', rfl⟩ := e
    obtain ⟨h1, h2⟩ := maxL_spec e'
    split
    · exact ⟨.tail _ h1, fun y hy => by rcases List.mem_cons.1 hy with rfl | hy; omega; exact h2 y hy⟩
    · exact ⟨.head _, fun y hy => by rcases List.mem_cons.1 hy with rfl | hy; omega; have := h2 y hy; omega⟩
theorem minL_spec : ∀ {ns : List Int} {m : Int}, minL ns = some m → m ∈ ns ∧ ∀ y, y ∈ ns → m ≤ y
  | [], _, e => by simp [minL] at e
  | [i], m, e => by simp [minL] at e; subst e; simp
  | i :: j :: r, m, e => by
    simp only [minL, Option.map_eq_some_iff] at e
    obtain ⟨m', e', rfl⟩ := e
    obtain ⟨h1, h2⟩ := minL_spec e'
    split
    · exact ⟨.tail _ h1, fun y hy => by rcases List.mem_cons.1 hy with rfl | hy; omega; exact h2 y hy⟩
    · exact ⟨.head _, fun y hy => by rcases List.mem_cons.1 hy with rfl | hy; omega; have := h2 y hy; omega⟩
theorem callF_max1 (hc : X.calm = true) : CallF X (.builtin "max") (biQ .max1) := by
  refine ⟨_, cr_max hc, fun m H S xs vs Q Kv r h q k => ?_⟩
  match vs, h, q with
  | [.ref i], h, q =>
    obtain ⟨x, rfl, hx⟩ := rep1 h
    cases hx with
    | ref h1 =>
      obtain ⟨o, e, sq, ns, mm, en, em, q⟩ := q
      obtain ⟨xs, g1, g2⟩ := r.sql e sq h1
      obtain ⟨s1, s2⟩ := maxL_spec em
      refine ⟨_, ns, rfl, by rw [← ints_rep g2 en]; exact g1, List.length_pos_of_mem s1, fun z hz hy => ?_⟩
      rw [Int.le_antisymm (s2 z hz) (hy mm s1)]
      exact k.here r (.int _) q
  | [.non], h, q => exact q.elim
  | [.bl _], h, q => exact q.elim
  | [.int _], h, q => exact q.elim
  | [.str _], h, q => exact q.elim
  | [.tup _], h, q => exact q.elim
  | [], h, q => exact q.elim
  | _ :: _ :: _, h, q => exact False.elim (by simpa [biQ] using q)
theorem callF_min1 (hc : X.calm = true) : CallF X (.builtin "min") (biQ .min1) := by
  refine ⟨_, cr_min hc, fun m H S xs vs Q Kv r h q k => ?_⟩
  match vs, h, q with
  | [.ref i], h, q =>
    obtain ⟨x, rfl, hx⟩ := rep1 h
    cases hx with
    | ref h1 =>
      obtain ⟨o, e, sq, ns, mm, en, em, q⟩ := q
      obtain ⟨xs, g1, g2⟩ := r.sql e sq h1
      obtain ⟨s1, s2⟩ := minL_spec em
      refine ⟨_, ns, rfl, by rw [← ints_rep g2 en]; exact g1, List.length_pos_of_mem s1, fun z hz hy => ?_⟩
      rw [Int.le_antisymm (hy mm s1) (s2 z hz)]
      exact k.here r (.int _) q
  | [.non], h, q => exact q.elim
  | [.bl _], h, q => exact q.elim
  | [.int _], h, q => exact q.elim
  | [.str _], h, q => exact q.elim
  | [.tup _], h, q => exact q.elim
  | [], h, q => exact q.elim
  | _ :: _ :: _, h, q => exact False.elim (by simpa [biQ] using q)
theorem callF_tuple1 : CallF X (.type "tuple") (biQ .tuple1) := by
  refine ⟨_, call_tupP, fun m H S xs vs Q Kv r h q k => ?_⟩
  have q' : ∃ v, vs = [v] ∧ seqQ v S fun ws => Q (.tup ws) S := by
    match vs, q with
    | [v], q => exact ⟨v, rfl, q⟩
    | [], q => exact q.elim
    | _ :: _ :: _, q => exact False.elim (by simpa [biQ] using q)
  obtain ⟨v, rfl, q⟩ := q'
  obtain ⟨x, rfl, hx⟩ := rep1 h
  obtain ⟨a, ys, ws, rfl, hl, q, hc⟩ := seq_of r hx q
  refine ⟨a, ys, rfl, ?_⟩
  rcases hc with ⟨h1, _⟩ | ⟨h1, _⟩
  · exact .inr ⟨h1.sq, k.here r (.tup h1 hl) q⟩
  · exact .inl ⟨h1, k.newT r hl q⟩
theorem ref1 {b : Bi} {vs : List PV} {S : Store} {Q : PQ} {P : List PV → Prop} (h : biQ b vs S Q) (hb : ∀ vs, biQ b vs S Q → ∃ i, vs = [.ref i] ∧ ∃ o, S[i]? = some o ∧ P o.items) : ∃ i, vs = [.ref i] ∧ ∃ o, S[i]? = some o ∧ P o.items := hb vs h
theorem callF_all (hc : X.calm = true) : CallF X (.builtin "all") (biQ .all1) := by
  refine ⟨_, cr_all hc, fun m H S xs vs Q Kv r h q k => ?_⟩
  match vs, h, q with
  | [.ref i], h, ⟨o, e, sq, b, eb, q⟩ =>
    obtain ⟨x, rfl, hx⟩ := rep1 h
    cases hx with
    | ref h1 =>
      obtain ⟨ys, g1, g2⟩ := r.sql e sq h1
      obtain ⟨bs, e1, e2⟩ := all_bl g2 eb
      subst e1
      exact ⟨_, bs, rfl, g1, by rw [e2]; exact k.here r (.bl _) q⟩
  | [.int _], h, q => exact q.elim
  | [.bl _], h, q => exact q.elim
  | [.non], h, q => exact q.elim
  | [.str _], h, q => exact q.elim
  | [.tup _], h, q => exact q.elim
  | [], h, q => exact q.elim
  | _ :: _ :: _, h, q => exact False.elim (by simpa [biQ] using q)
theorem callF_any (hc : X.calm = true) : CallF X (.builtin "any") (biQ .any1) := by
  refine ⟨_, cr_any hc, fun m H S xs vs Q Kv r h q k => ?_⟩
  match vs, h, q with
  | [.ref i], h, ⟨o, e, sq, b, eb, q⟩ =>
    obtain ⟨x, rfl, hx⟩ := rep1 h
    cases hx with
    | ref h1 =>
      obtain ⟨ys, g1, g2⟩ := r.sql e sq h1
      obtain ⟨bs, e1, e2⟩ := any_bl g2 eb
      subst e1
      exact ⟨_, bs, rfl, g1, by rw [e2]; exact k.here r (.bl _) q⟩
  | [.int _], h, q => exact q.elim
  | [.bl _], h, q => exact q.elim
  | [.non], h, q => exact q.elim
  | [.str _], h, q => exact q.elim
  | [.tup _], h, q => exact q.elim
  | [], h, q => exact q.elim
  | _ :: _ :: _, h, q => exact False.elim (by simpa [biQ] using q)
theorem callF_sum (hc : X.calm = true) : CallF X (.builtin "sum") (biQ .sum1) := by
  refine ⟨_, cr_sum hc, fun m H S xs vs Q Kv r h q k => ?_⟩
  match vs, h, q with
  | [.ref i], h, ⟨o, e, sq, b, eb, q⟩ =>
    obtain ⟨x, rfl, hx⟩ := rep1 h
    cases hx with
    | ref h1 =>
      obtain ⟨ys, g1, g2⟩ := r.sql e sq h1
      obtain ⟨bs, e1, e2⟩ := sum_int g2 eb
      subst e1
      exact ⟨_, bs, rfl, g1, by rw [e2]; exact k.here r (.int _) q⟩
  | [.int _], h, q => exact q.elim
  | [.bl _], h, q => exact q.elim
  | [.non], h, q => exact q.elim
  | [.str _], h, q => exact q.elim
  | [.tup _], h, q => exact q.elim
  | [], h, q => exact q.elim
  | _ :: _ :: _, h, q => exact False.elim (by simpa [biQ] using q)
theorem callF_bi (hc : X.calm = true) (hu : X.A.units + 190 < cLine) : ∀ b : Bi, b ≠ .list0 → b ≠ .tuple0 → CallF X (biV b) (biQ b)
  | .len, _, _ => callF_len
  | .max2, _, _ => callF_int2 (call_max2 hc) fun vs S Q q => by
    match vs, q with
    | [.int i, .int j], q => exact ⟨i, j, rfl, q⟩
  | .min2, _, _ => callF_int2 (call_min2 hc) fun vs S Q q => by
    match vs, q with
    | [.int i, .int j], q => exact ⟨i, j, rfl, q⟩
  | .int1, _, _ => callF_int1
  | .list1, _, _ => callF_list1 hc
  | .sorted1, _, _ => callF_sorted1 hc hu
  | .max1, _, _ => callF_max1 hc
  | .min1, _, _ => callF_min1 hc
  | .dict1, _, _ => callF_dict1 hc
  | .tuple1, _, _ => callF_tuple1
  | .all1, _, _ => callF_all hc
  | .any1, _, _ => callF_any hc
  | .sum1, _, _ => callF_sum hc
  | .list0, h, _ => absurd rfl h
  | .tuple0, _, h => absurd rfl h
end
end Pv
set_option Elab.async false
set_option linter.all false
set_option maxRecDepth 100000
set_option maxHeartbeats 1000000
/-! Pv5: calls, methods, iterators, comprehensions. -/
namespace Pv
open PySem PySem.Spec PyProof.Rows L2

section
variable {X : Cx} {G : GT} {W : WX} {Φ : Call} {C : CC} {e a b c : Expr} {p q r : IE} {pos : Pos} {es rest : List Expr} {ps : IEs}
/-! ### calls -/
theorem star_cons {env : PySem.Env} {es : List Expr} (h : notStar a = true) : starEach (a :: es) env = (false, eval a env) :: starEach es env := by
  cases a <;> first | rfl | cases h
theorem star_plain {env : PySem.Env} {pos : Pos} : ∀ {es : List Expr}, es.all notStar = true → (backTo pos (starEach es env)).any (·.1) = false
  | [], _ => rfl
  | a :: es, h => by
    rw [List.all_cons, Bool.and_eq_true] at h
    rw [star_cons h.1]
    have q := star_plain (env := env) (pos := pos) h.2
    unfold backTo at q ⊢
    rw [List.map_cons, List.any_cons, q]
    rfl
theorem ex_bi {b : Bi} {x : Str} {p0 : Pos} (hc : X.calm = true) (hu : X.A.units + 190 < cLine) (h1 : b ≠ .list0) (h2 : b ≠ .tuple0) (hx : x = biN b) (hg : Gl X x) (hm : X.mg x = none) (ha : AX X G W Φ (e :: es) ps) (hs : (e :: es).all notStar = true) :
    EX X G W Φ (.Call (.Name x p0) (e :: es) [] pos) (.bi b ps) := by
  obtain ⟨t, P, R⟩ := ha
  obtain ⟨r, hr, hk⟩ := callF_bi hc hu b h1 h2
  rw [List.all_cons, Bool.and_eq_true] at hs
  have hn : x ≠ "__name__" ∧ (x == ("__debug__" : Str)) = false ∧ bootBuiltins x = some (biV b) := by
    subst hx
    cases b <;> first | exact absurd rfl h1 | exact absurd rfl h2 | exact ⟨by decide +kernel, by decide +kernel, by decide +kernel⟩
  have pe : PE X (.Call (.Name x p0) (e :: es) [] pos) (tCB r t) := by
    cases b <;> first
      | exact absurd rfl h1
      | exact absurd rfl h2
      | exact pe_callB hr hg hm hn.2.2 P hn.1 hn.2.1 (star_cons hs.1) (star_plain hs.2)
      | exact pe_callTy hr hg hm hn.2.2 P hn.1 hn.2.1 (star_cons hs.1) (star_plain hs.2)
  refine ⟨_, pe, fun m σ H ρ S Q E Kv r0 re w k kx => ?_⟩
  simp only [wpE] at w
  refine R m σ H ρ S _ E _ r0 re w (fun m1 H1 xs vs S1 e1 r1 hx w1 => ?_) kx
  exact hk m1 H1 S1 xs vs Q Kv r1 hx w1 (k.ext e1)
/-- a def of the program is called -/
theorem ex_call {x : Str} {i n : Nat} {dfl : List PV} {p0 : Pos} (ok : CallOk X G Φ) (tk : Takes X W) (hG : G.fns[i]? = some (x, n, dfl)) (hg : Gl X x) (hdb : (x == ("__debug__" : Str)) = false) (ha : AX X G W Φ (e :: es) ps) (hs : (e :: es).all notStar = true) (hl : (e :: es).length ≤ n) (hl2 : n - (e :: es).length ≤ dfl.length) :
    EX X G W Φ (.Call (.Name x p0) (e :: es) [] pos) (.call i ps (dfl.drop (dfl.length - (n - (e :: es).length)))) := by
  obtain ⟨t, P, R⟩ := ha
  obtain ⟨f, fd, pars, k, hm, _, hkp, hpl, F, hr, hd⟩ := ok.ok i x n dfl hG
  obtain ⟨ds, dvs, hv, hrep, hb⟩ := hd _ hl2
  rw [List.all_cons, Bool.and_eq_true] at hs
  refine ⟨fun σ H Q => t σ H fun vs H1 => spF X.K X.mg G (Φ i) (vs ++ dvs) H1 Q (fun c d H' => W c d σ H'), ?_, fun m σ H ρ S Q E Kv r0 re w k kx => ?_⟩
  · refine ⟨fun pins s σ H Q I h => ?_⟩
    refine wpAny_Call_Name_kw (ld_glob I hg hm ?_ hdb)
    refine PySem.W.callWith_K (h₀ := X.base) I.ok.mod.kin hkp (thn (P.run pos pins s σ H _ I h) fun us s1 ⟨vs, H1, I1, r, q⟩ => ⟨I1.kIn, ?_⟩) (star_cons hs.1) (star_plain hs.2)
    have hl : (us ++ ds).length = pars.length := by rw [List.length_append, ← r.length, ← hv.length, ← List.length_append]; exact F.len _ _ _ _ q
    refine wpAny_call (codeAny_mono (F.run X.A X.stack s1 H1 ⟨us, []⟩ (us ++ ds) (vs ++ dvs) Q _ hr I1.env0 (hb s1 us I1.kIn hl) (r.append hv) q) fun r s' hq => ?_)
    cases r with
    | error e => exact passAt tk σ pins H1 s1 e s' I1 hq
    | ok fl =>
      cases fl with
      | ret u => exact I1.after hq
      | next => exact False.elim hq
      | brk => exact False.elim hq
      | cont => exact False.elim hq
  · simp only [wpE] at w
    refine R m σ H ρ S _ E _ r0 re w (fun m1 H1 xs vs S1 e1 r1 hx w1 => ?_) kx
    have hrep1 : RepL X.K H1 m1 (xs ++ dvs) (vs ++ dfl.drop (dfl.length - (n - (e :: es).length))) := hx.append (hrep H1 m1)
    exact ⟨m1, _, S1, Q, E, r1, hrep1, w1, k.ext e1, kx.ext e1⟩
/-- a def that a local name holds is called -/
theorem fnQ_mem : ∀ {tbl : List (Str × Nat × List PV)} {v : PV} {R : Nat → List PV → Prop}, fnQ tbl v R → ∃ x j ds, v = .fn x ∧ (x, j, ds) ∈ tbl ∧ R j ds
  | [], _, _, h => h.elim
  | (y, j, ds) :: r, v, R, h => by
    unfold fnQ at h
    split at h
    · rename_i x
      split at h
      · rename_i e
        subst e
        exact ⟨y, j, ds, rfl, List.mem_cons_self, h⟩
      · obtain ⟨x', j', ds', e, m, q⟩ := fnQ_mem h
        exact ⟨x', j', ds', e, List.mem_cons_of_mem _ m, q⟩
    · exact h.elim
theorem ex_callV {x : Str} {i : Nat} {tbl : List (Str × Nat × List PV)} {p0 : Pos} (ok : CallOk X G Φ) (tk : Takes X W) (ht : ∀ y j ds, (y, j, ds) ∈ tbl → ∃ n dfl, G.fns[j]? = some (y, n, dfl) ∧ (e :: es).length ≤ n ∧ n - (e :: es).length ≤ dfl.length ∧ ds = dfl.drop (dfl.length - (n - (e :: es).length)))
    (hN : X.N[i]? = some x) (hv : Vis X.env.scope x) (h1 : (x == ("__debug__" : Str)) = false) (h2 : (x == ("__classdict__" : Str)) = false) (ha : AX X G W Φ (e :: es) ps) (hs : (e :: es).all notStar = true) :
    EX X G W Φ (.Call (.Name x p0) (e :: es) [] pos) (.callV tbl i ps) := by
  obtain ⟨t, P, R⟩ := ha
  rw [List.all_cons, Bool.and_eq_true] at hs
  refine ⟨fun σ H Q => ∃ (j : Nat) (f : Addr) (fd : FuncData) (pars : List Str) (k : Nat) (ds : List Value) (dvs : List V), PySem.W.keepIn X.K (.ref f) = true ∧ FnOk X.prog X.w X.K X.mg X.base (L2.CX X.prog X.w) k f fd pars (spF X.K X.mg G (Φ j)) ∧ Room k X.A ∧ Vals dvs ds ∧ Binds X.K fd pars ds ∧
      σ[i]? = some (some (.ref f)) ∧ t σ H fun vs H1 => spF X.K X.mg G (Φ j) (vs ++ dvs) H1 Q (fun c d H' => W c d σ H'), ?_, fun m σ H ρ S Q E Kv r0 re w k kx => ?_⟩
  · refine ⟨fun pins s σ H Q I h => ?_⟩
    obtain ⟨j, f, fd, pars, k, ds, dvs, hkp, F, hr, hvl, hb, hsl, h⟩ := h
    refine wpAny_Call_Name_kw (thn ((pe_var (pos := p0) hN hv h1 h2).run pins s σ H (fun v H1 => v = .ref f ∧ H1 = H) I ⟨.ref f, hsl, rfl, rfl⟩) fun u s1 ⟨v, H1, I1, r1, q1⟩ => ?_)
    obtain ⟨rfl, rfl⟩ := q1
    cases r1
    refine PySem.W.callWith_K (h₀ := X.base) I.ok.mod.kin hkp (thn (P.run pos pins s1 σ _ _ I1 h) fun us s2 ⟨vs, H2, I2, r, q⟩ => ⟨I2.kIn, ?_⟩) (star_cons hs.1) (star_plain hs.2)
    have hl : (us ++ ds).length = pars.length := by rw [List.length_append, ← r.length, ← hvl.length, ← List.length_append]; exact F.len _ _ _ _ q
    refine wpAny_call (codeAny_mono (F.run X.A X.stack s2 H2 ⟨us, []⟩ (us ++ ds) (vs ++ dvs) Q _ hr I2.env0 (hb s2 us I2.kIn hl) (r.append hvl) q) fun r s' hq => ?_)
    cases r with
    | error e => exact passAt tk σ pins H2 s2 e s' I2 hq
    | ok fl =>
      cases fl with
      | ret u => exact I2.after hq
      | next => exact False.elim hq
      | brk => exact False.elim hq
      | cont => exact False.elim hq
  · simp only [wpE, varQ] at w
    split at w
    · rename_i v hv
      obtain ⟨y, j, ds, rfl, hm, w⟩ := fnQ_mem w
      obtain ⟨u, hu1, hu2⟩ := re.2 _ _ hv
      cases hu2 with
      | @fn a _ hns =>
        obtain ⟨n, dfl, hG, hl, hl2, rfl⟩ := ht _ _ _ hm
        obtain ⟨f, fd, pars, kk, _, hns2, hkp, hpl, F, hr, hd⟩ := ok.ok j y n dfl hG
        rw [hns] at hns2
        cases hns2
        obtain ⟨ds, dvs, hvl, hrep, hb⟩ := hd _ hl2
        refine ⟨j, a, fd, pars, kk, ds, dvs, hkp, F, hr, hvl, hb, hu1, ?_⟩
        refine R m σ H ρ S _ E _ r0 re w (fun m1 H1 xs vs S1 e1 r1 hx w1 => ?_) kx
        have hrep1 : RepL X.K H1 m1 (xs ++ dvs) (vs ++ dfl.drop (dfl.length - (n - (e :: es).length))) := hx.append (hrep H1 m1)
        exact ⟨m1, _, S1, Q, E, r1, hrep1, w1, k.ext e1, kx.ext e1⟩
    · exact w.elim
/-! ### methods of lists -/
def mtN : Mt → Str
  | .append => "append" | .index => "index" | .count => "count" | .pop => "pop" | .extend => "extend"
def mtI : Mt → String
  | .append => "list.append" | .index => "list.index" | .count => "list.count" | .pop => "list.pop" | .extend => "list.extend"
def MethF (X : Cx) (id : String) (q : Nat → List PV → Store → PQ → Prop) : Prop :=
  ∃ r, MtR X id r ∧ ∀ m H S (a : Addr) xs i vs Q Kv, RlS X.K m H S → m[i]? = some a → RepL X.K H m xs vs → q i vs S Q → KE X.K m H Q Kv → r (.ref a) xs H Kv
theorem methF_append : MethF X "list.append" (mtQ .append) := by
  refine ⟨_, mt_append, fun m H S a xs i vs Q Kv r ha h q k => ?_⟩
  match vs, h, q with
  | [v], h, q =>
    obtain ⟨x, rfl, hx⟩ := rep1 h
    obtain ⟨ws, e, hz, q⟩ := q
    obtain ⟨b, ys, h1, h2, h3⟩ := r.at e
    rw [ha] at h1
    cases h1
    have e2 : Ext X.K m H m (upd H a (.lst (ys ++ [x]))) := Ext.put h2
    refine ⟨a, ys, x, rfl, rfl, h2, by rw [h3.len]; exact hz, ?_⟩
    exact k m _ _ _ _ e2 (r.put e ha h2 (h3.append (.cons hx .nil))) .non q
  | [], h, q => exact q.elim
  | _ :: _ :: _, h, q => exact False.elim (by simpa [mtQ] using q)
def rCnt (K : PySem.W.Frag) : V → List V → Hp → VK → Prop := fun x xs H Q => ∃ (a : Addr) (ys : List V) (y : V), x = V.ref a ∧ xs = [y] ∧ SqL K H a ys ∧ flatV y = true ∧ ys.all flatV = true ∧ Q (.int (ys.countP (fun z => L2.eqV z y) : Nat)) H
theorem cnt_eqU {x : V} : ∀ {xs : List V} {us : List Value}, Vals xs us → xs.all flatV = true → us.countP (eqU x) = xs.countP fun y => L2.eqV y x
  | _, _, .nil, _ => rfl
  | y :: xs, u :: us, .cons r t, f => by
    rw [List.all_cons, Bool.and_eq_true] at f
    rw [List.countP_cons, List.countP_cons, eqU_of r f.1, cnt_eqU t f.2]
theorem mt_cnt : MtR X "list.count" (rCnt X.K) := by
  intro pins s σ H x xs v us Q I rx rxs h
  obtain ⟨p, ys, y, rfl, rfl, hs, fy, fys, q⟩ := h
  cases rx
  obtain ⟨u, rfl, ru⟩ := rxs.one
  obtain ⟨its, rv, ⟨⟨cls, dd, data, sl⟩, n, ho, hc, hdn, hd⟩, hlen⟩ := I.list hs
  simp only at hc hd
  subst hc hd
  refine call_meets PySem.F.slot_list_count ⟨_, ho, rfl⟩ PySem.F.entry_list_count (PySem.F.args_list_count_2 _ _)
    (SeqAt.list_countAt p its.toArray n dd sl u (eqU y)) ⟨ho, fun z hz => mem_eqAt ru fy rv fys z (by simpa using hz), ?_⟩
  have ec : its.toArray.toList.countP (eqU y) = ys.countP fun z => L2.eqV z y := by simpa using cnt_eqU rv fys
  refine ⟨.int (ys.countP (fun z => L2.eqV z y) : Nat), H, I.tok _, ⟨s.toks, ?_⟩, q⟩
  show Value.int ((its.toArray.toList.countP (eqU y) : Nat) : Int) s.toks = Value.int ((ys.countP (fun z => L2.eqV z y) : Nat) : Int) s.toks
  rw [ec]
theorem repL_cnt {K : PySem.W.Frag} {H : Hp} {m : List Addr} {x : V} {v : PV} (h : RepV K H m x v) (f1 : flatP v = true) : ∀ {xs : List V} {vs : List PV}, RepL K H m xs vs → vs.all flatP = true → xs.countP (fun z => L2.eqV z x) = vs.countP fun z => eqF z v
  | _, _, .nil, _ => rfl
  | _, _, .cons a t, f2 => by
    rw [List.all_cons, Bool.and_eq_true] at f2
    rw [List.countP_cons, List.countP_cons, repL_cnt h f1 t f2.2, rep_eq a h f2.1 f1]
theorem methF_count : MethF X "list.count" (mtQ .count) := by
  refine ⟨_, mt_cnt, fun m H S a xs i vs Q Kv r ha h q k => ?_⟩
  match vs, h, q with
  | [v], h, q =>
    obtain ⟨x, rfl, hx⟩ := rep1 h
    obtain ⟨o, e, sq, ⟨f1, f2⟩, q⟩ := q
    obtain ⟨ys, g1, g2⟩ := r.sql e sq ha
    refine ⟨a, ys, x, rfl, rfl, g1, (rep_flat hx).trans f1, (repL_flat g2).trans f2, ?_⟩
    rw [repL_cnt hx f1 g2 f2]
    exact k.here r (.int _) q
  | [], h, q => exact q.elim
  | _ :: _ :: _, h, q => exact False.elim (by simpa [mtQ] using q)
theorem methF_index : MethF X "list.index" (mtQ .index) := by
  refine ⟨_, mt_index, fun m H S a xs i vs Q Kv r ha h q k => ?_⟩
  match vs, h, q with
  | [v], h, q =>
    obtain ⟨x, rfl, hx⟩ := rep1 h
    obtain ⟨o, e, sq, ⟨f1, f2⟩, j, hj, q⟩ := q
    obtain ⟨ys, g1, g2⟩ := r.sql e sq ha
    obtain ⟨hjl, hje, hjn⟩ := List.findIdx?_eq_some_iff_getElem.mp hj
    obtain ⟨z, hz, rz⟩ := g2.get (List.getElem?_eq_getElem hjl)
    have fl : ∀ (n : Nat) (w : PV), o.items[n]? = some w → flatP w = true := fun n w hw => List.all_eq_true.mp f2 w (List.mem_of_getElem? hw)
    refine ⟨a, ys, x, j, z, rfl, rfl, g1, (rep_flat hx).trans f1, (repL_flat g2).trans f2, hz, ?_, fun n z' hn hz' => ?_, k.here r (.int _) q⟩
    · rw [rep_eq rz hx (fl j _ (List.getElem?_eq_getElem hjl)) f1]; exact hje
    · obtain ⟨w, hw, rw'⟩ := g2.get' hz'
      have hnl : n < o.items.length := (List.getElem?_eq_some_iff.mp hw).1
      have e1 : o.items[n] = w := (List.getElem?_eq_some_iff.mp hw).2
      rw [rep_eq rw' hx (fl n w hw) f1, ← e1]
      simpa using hjn n hn
  | [], h, q => exact q.elim
  | _ :: _ :: _, h, q => exact False.elim (by simpa [mtQ] using q)
theorem mtM_R {id : String} {r : V → List V → Hp → VK → Prop} (h : MtM X id r) : MtM X id r := h
theorem list_extend_list_tupleW (l : Addr) (items : Array Value) (n : Nat) (b : Addr) (items2 : Array Value) (n2 : Nat) (dd : Option Addr) (sl : Array (Option Value)) (hs0 : ¬(!items.isEmpty && Builtin.List.listTooLong (items.size + items2.size)) = true) (hs1 : items.size ≤ sizeLine) (hs2 : items.size + items2.size ≤ sizeLine + 1) :
    Meets (Builtin.«list.extend» ⟨[.ref l, .ref b], []⟩) (fun _ R s => s.heap.get? l = some { cls := .type "list", dict := none, data := .seq items n, slots := #[] } ∧ s.heap.get? b = some { cls := .type "tuple", dict := dd, data := .seq items2 n2, slots := sl } ∧ R (.ok (.ret Value.none)) { s with heap := s.heap.update l (Obj.mapSeq fun x => x ++ items2), toks := s.toks }) :=
  .of_wp fun prog w A R s h => by
    obtain ⟨hp, g, d, tk, os⟩ := s; obtain ⟨hl, hb, h⟩ := h; have f1 := AutoSeq1.idx_int; have f2 := AutoSeq1.sub_tuple_tuple; have f3 := AutoSeq1.sub_list_list; have f4 := AutoSeq1.sub_tuple_list; have f5 := AutoSeq1.sub_list_tuple;
    have hz' : (items ++ items2).size ≤ sizeLine + 1 := by rw [Array.size_append]; exact hs2
    wp_walk using (wpAny_updateSeq hl rfl (hz := hs1) (_hz' := hz')), AutoSeq1.wpAny_loadPart' hl, AutoSeq1.wpAny_loadPart' hb; exact ⟨_, rfl, h⟩
def rExtB (K : PySem.W.Frag) : V → List V → Hp → VK → Prop := fun x vs H Q => rExtend x vs H Q ∨ ∃ l b xs zs, x = .ref l ∧ vs = [.ref b] ∧ H l = some (.lst xs) ∧ SqT K H b zs ∧ xs.length + zs.length ≤ sizeLine ∧ Q .non (upd H l (.lst (xs ++ zs)))
theorem mt_extB : MtM X "list.extend" (rExtB X.K) := by
  intro pins s σ H x vs v us Q I rx rv h
  rcases h with h | h
  · exact mt_extend pins s σ H x vs v us Q I rx rv h
  obtain ⟨l, b, xs, zs, rfl, rfl, hH, hB, hz, q⟩ := h
  cases rx
  obtain ⟨u, rfl, ru⟩ := rv.one
  cases ru
  obtain ⟨z, its, n, r, hl, e⟩ := I.lstM hH
  obtain ⟨its2, r2, ⟨⟨cls, dd, data, sl⟩, ho, hc, n2, hd⟩, hs⟩ := I.tuple hB
  simp only at hc hd
  subst hc hd
  have hl2 : zs.length = its2.length := r2.length
  have hsz : its.toArray.size + its2.toArray.size ≤ sizeLine := by rw [List.size_toArray, List.size_toArray]; omega
  have hlong : ¬ (!its.toArray.isEmpty && Builtin.List.listTooLong (its.toArray.size + its2.toArray.size)) = true := by
    rw [notLongL hsz, Bool.and_false]
    exact Bool.false_ne_true
  refine call_meets F.slot_list_extend ⟨_, e, rfl⟩ F.entry_list_extend (F.args_list_extend_2 _ _)
    (list_extend_list_tupleW l its.toArray n b its2.toArray n2 dd sl hlong (by rw [List.size_toArray]; omega) (by omega)) ⟨e, ho, ?_⟩
  refine ⟨.non, _, I.lset (its' := its ++ its2) hH e (by simp) (r.append r2) ?_, rfl, q⟩
  rw [List.length_append]
  omega
theorem methF_extend : MethF X "list.extend" (mtQ .extend) := by
  refine ⟨_, mt_extB, fun m H S a xs i vs Q Kv r ha h q k => ?_⟩
  match vs, h, q with
  | [.ref j], h, q =>
    obtain ⟨x, rfl, hx⟩ := rep1 h
    cases hx with
    | @ref b _ hb =>
      obtain ⟨us, ws, e1, e2, hz, q⟩ := q
      obtain ⟨a', ys, g1, g2, g3⟩ := r.at e1
      obtain ⟨b', zs, k1, k2, k3⟩ := r.at e2
      rw [ha] at g1; cases g1
      rw [hb] at k1; cases k1
      exact .inl ⟨a, b, ys, zs, rfl, rfl, g2, k2, by rw [g3.len, k3.len]; exact hz, k m _ _ _ _ (Ext.put g2) (r.put e1 ha g2 (g3.append k3)) .non q⟩
  | [.non], h, q => exact q.elim
  | [.bl _], h, q => exact q.elim
  | [.int _], h, q => exact q.elim
  | [.str _], h, q => exact q.elim
  | [.tup ws], h, q =>
    obtain ⟨x, rfl, hx⟩ := rep1 h
    cases hx with
    | @tup b zs _ hb k3 =>
      obtain ⟨us, e1, hz, q⟩ := q
      obtain ⟨a', ys, g1, g2, g3⟩ := r.at e1
      rw [ha] at g1; cases g1
      exact .inr ⟨a, b, ys, zs, rfl, rfl, g2, hb.sq, by rw [g3.len, k3.len]; exact hz, k m _ _ _ _ (Ext.put g2) (r.put e1 ha g2 (g3.append k3)) .non q⟩
  | [.fn _], h, q => exact q.elim
  | [], h, q => exact q.elim
  | _ :: _ :: _, h, q => exact False.elim (by simpa [mtQ] using q)
theorem methF_pop : MethF X "list.pop" (mtQ .pop) := by
  refine ⟨_, mt_pop, fun m H S a xs i vs Q Kv r ha h q k => ?_⟩
  match vs, h, q with
  | [], h, q =>
    cases h
    obtain ⟨us, y, e1, e2, q⟩ := q
    obtain ⟨a', ys, g1, g2, g3⟩ := r.at e1
    rw [ha] at g1; cases g1
    obtain ⟨z, hz, rz⟩ := g3.get e2
    have ep : Ext X.K m H m (upd H a (.lst ys.dropLast)) := Ext.put g2
    refine ⟨a, ys, z, rfl, rfl, g2, by rw [g3.len]; exact hz, k m _ _ _ _ ep (r.put e1 ha g2 ?_) (RepV.ext ep _ _ rz) q⟩
    rw [List.dropLast_eq_take, List.dropLast_eq_take, g3.len]
    exact g3.take _
  | _ :: _, h, q => exact False.elim (by simpa [mtQ] using q)
theorem methF_all : ∀ mt : Mt, MethF X (mtI mt) (mtQ mt)
  | .append => methF_append
  | .index => methF_index
  | .count => methF_count
  | .pop => methF_pop
  | .extend => methF_extend
theorem meth_fin {mt : Mt} {po : IE} {e : Expr} {t : TA} {to : TE} {r : V → List V → Hp → VK → Prop} (Ro : RfE X G W to (wpE Φ po)) (R : RfA X G W t (wpEs Φ ps))
    (hr : ∀ m H S (a : Addr) xs i vs Q Kv, RlS X.K m H S → m[i]? = some a → RepL X.K H m xs vs → mtQ mt i vs S Q → KE X.K m H Q Kv → r (.ref a) xs H Kv)
    (pe : PE X e (tBM X.K "list" r to t)) : EX X G W Φ e (.meth mt po ps) := by
  refine ⟨_, pe, fun m σ H ρ S Q E Kv r0 re w k kx => ?_⟩
  simp only [wpE] at w
  refine Ro m σ H ρ S _ E _ r0 re w (fun m1 H1 x v S1 e1 r1 hx w1 => ?_) kx
  obtain ⟨i, o', ev, eo, so, w1⟩ := w1
  subst ev
  cases hx with
  | @ref a _ ha =>
    refine ⟨.inl ⟨rfl, ?_⟩, ?_⟩
    · obtain ⟨xs, g, _⟩ := r1.sql eo so ha
      exact ⟨xs, g⟩
    · refine R m1 σ H1 ρ S1 _ E _ r1 (re.ext e1) w1 (fun m2 H2 xs vs S2 e2 r2 hx2 w2 => ?_) (kx.ext e1)
      exact hr m2 H2 S2 a xs i vs Q Kv r2 (e2.at ha) hx2 w2 (k.ext (e1.trans e2))
theorem ex_meth {mt : Mt} {o : Expr} {name : Str} {po : IE} {apos : Pos} (hmt : mt ≠ .pop) (hn : name = mtN mt) (ho : EX X G W Φ o po) (ha : AX X G W Φ [e] ps) (hs : notStar e = true) (hbase : attributeBase o name X.env (eval o X.env) = eval o X.env) (hline : (apos.endLine == pos.line) = true) :
    EX X G W Φ (.Call (.Attribute o name apos) [e] [] pos) (.meth mt po ps) := by
  obtain ⟨to, Po, Ro⟩ := ho
  obtain ⟨t, P, R⟩ := ha
  have hst : starEach [e] X.env = [(false, eval e X.env)] := star_cons hs
  have few : ((backTo pos (starEach [e] X.env)).all (fun x => !x.1) && (backToKw pos (keywordEach [] X.env)).all (fun x => x.1.isSome)
      && decide ([e].length + ([] : List Keyword).length + (if ([] : List Keyword).isEmpty then 0 else 1) < 30)) = true := by rw [hst]; rfl
  obtain ⟨r, h1, h2⟩ := methF_all (X := X) mt
  subst hn
  cases mt with
  | append => exact meth_fin Ro R h2 (pe_bm PySem.F.plainAttrs_list PySem.F.slot_list_append PySem.F.type_list_append h1 Po P hbase few hline hst rfl)
  | index => exact meth_fin Ro R h2 (pe_bm PySem.F.plainAttrs_list PySem.F.slot_list_index PySem.F.type_list_index h1 Po P hbase few hline hst rfl)
  | count => exact meth_fin Ro R h2 (pe_bm PySem.F.plainAttrs_list PySem.F.slot_list_count PySem.F.type_list_count h1 Po P hbase few hline hst rfl)
  | extend => exact meth_fin Ro R h2 (pe_bm PySem.F.plainAttrs_list PySem.F.slot_list_extend PySem.F.type_list_extend h1 Po P hbase few hline hst rfl)
  | pop => exact absurd rfl hmt
theorem ex_pop {o : Expr} {po : IE} {apos : Pos} (ho : EX X G W Φ o po) (hbase : attributeBase o "pop" X.env (eval o X.env) = eval o X.env) (hline : (apos.endLine == pos.line) = true) :
    EX X G W Φ (.Call (.Attribute o "pop" apos) [] [] pos) (.meth .pop po .nil) := by
  obtain ⟨to, Po, Ro⟩ := ho
  obtain ⟨r, h1, hr⟩ := methF_all (X := X) .pop
  refine ⟨_, pe_bm0 PySem.F.plainAttrs_list PySem.F.slot_list_pop PySem.F.type_list_pop h1 Po hbase hline, fun m σ H ρ S Q E Kv r0 re w k kx => ?_⟩
  simp only [wpE, wpEs] at w
  refine Ro m σ H ρ S _ E _ r0 re w (fun m1 H1 x v S1 e1 r1 hx w1 => ?_) kx
  obtain ⟨i, o', ev, eo, so, w1⟩ := w1
  subst ev
  cases hx with
  | @ref a _ ha =>
    refine ⟨.inl ⟨rfl, ?_⟩, hr m1 H1 S1 a [] i [] Q Kv r1 ha .nil w1 (k.ext e1)⟩
    obtain ⟨xs, g, _⟩ := r1.sql eo so ha
    exact ⟨xs, g⟩
/-! ### isinstance -/
def tyN : Ty → String
  | .tInt => "int" | .tStr => "str" | .tBool => "bool" | .tTuple => "tuple" | .tList => "list"
def tyS : Ty → Str
  | .tInt => "int" | .tStr => "str" | .tBool => "bool" | .tTuple => "tuple" | .tList => "list"
def pvT : PV → String
  | .non => "NoneType" | .bl _ => "bool" | .int _ => "int" | .str _ => "str" | .tup _ => "tuple" | .ref _ => "list" | .fn _ => "NoneType"
def kitT (a : String) (t : Ty) : Bool := (kitB a (tyN t)).getD false
theorem rep_ty {m : List Addr} {H : Hp} {S : Store} {x : V} {v : PV} (r : RlS X.K m H S) (h : RepV X.K H m x v) (hsq : ∀ i, v = .ref i → ∃ o, S[i]? = some o ∧ o.sq = true) (hnf : ∀ y, v ≠ .fn y) : TyX X.K H x (.type (pvT v)) := by
  cases h with
  | non => exact .base .non
  | bl b => exact .base (.bl b)
  | int i => exact .base (.int i)
  | str x => exact .base (.str x)
  | @tup a xs vs h1 h2 =>
    rcases h1.sq with (h1 | ⟨o, h1⟩) | ⟨o, its, n, h1, h2, _⟩
    · exact .base (.tup h1)
    · exact .fTuple h1
    · exact .kTuple h1 h2
  | @ref a i h1 =>
    have hl : i < S.length := by rw [← r.len]; exact (List.getElem?_eq_some_iff.mp h1).1
    obtain ⟨a', g1, g2⟩ := r.obj i _ (List.getElem?_eq_getElem hl)
    rw [h1] at g1
    cases g1
    obtain ⟨o', eo, so⟩ := hsq i rfl
    rw [List.getElem?_eq_getElem hl] at eo
    cases eo
    cases q : S[i] with
    | lst vs => rw [q] at g2; obtain ⟨xs, g3, _⟩ := g2; exact .base (.lst g3)
    | frz vs =>
      rw [q] at g2
      obtain ⟨xs, g3, _⟩ := g2
      rcases g3 with ⟨o, g3⟩ | ⟨o, its, n, g3, g4, _⟩
      · exact .base (.frz g3)
      · exact .kList g3 g4
    | dct vs => rw [q] at so; cases so
    | ins _ _ => rw [q] at so; cases so
    | dctT _ => rw [q] at so; cases so
    | dctF _ _ => rw [q] at so; cases so
  | fn _ => exact absurd rfl (hnf _)
theorem kit_tab : ∀ (v : PV) (t : Ty), ∃ b, kitB (pvT v) (tyN t) = some b ∧ ∀ S Q, t.b v S Q → Q b := by
  intro v t
  have h : ∀ a, a ∈ ["NoneType", "bool", "int", "str", "tuple", "list"] → ∀ t : Ty, t ∈ [Ty.tInt, .tStr, .tBool, .tTuple, .tList] → kitB a (tyN t) = some (decide ((a, t) ∈ [("int", Ty.tInt), ("bool", Ty.tInt), ("bool", Ty.tBool), ("str", Ty.tStr), ("tuple", Ty.tTuple), ("list", Ty.tList)])) := by decide +kernel
  have ht : t ∈ [Ty.tInt, .tStr, .tBool, .tTuple, .tList] := by cases t <;> simp
  cases v with
  | non => exact ⟨_, h "NoneType" (by simp) t ht, fun S Q q => by cases t <;> exact q⟩
  | bl b => exact ⟨_, h "bool" (by simp) t ht, fun S Q q => by cases t <;> exact q⟩
  | int i => exact ⟨_, h "int" (by simp) t ht, fun S Q q => by cases t <;> exact q⟩
  | str x => exact ⟨_, h "str" (by simp) t ht, fun S Q q => by cases t <;> exact q⟩
  | tup xs => exact ⟨_, h "tuple" (by simp) t ht, fun S Q q => by cases t <;> exact q⟩
  | ref i => exact ⟨_, h "list" (by simp) t ht, fun S Q q => by cases t <;> (obtain ⟨o, _, _, q⟩ := q; exact q)⟩
  | fn i => exact ⟨_, h "NoneType" (by simp) t ht, fun S Q q => by cases t <;> exact q.elim⟩
theorem ex_isin {t : Ty} {x y : Str} {p0 p1 : Pos} (hx : x = "isinstance") (hy : y = tyS t) (hg : Gl X x) (hm : X.mg x = none) (hg2 : Gl X y) (hm2 : X.mg y = none) (ha : EX X G W Φ a p) (hs : notStar a = true) :
    EX X G W Φ (.Call (.Name x p0) [a, .Name y p1] [] pos) (.isin p t) := by
  obtain ⟨ta, Pa, Ra⟩ := ha
  have py : PE X (.Name y p1) (tC (.ty (tyN t))) := by
    subst hy
    cases t <;> exact pe_bltn hg2 hm2 (by decide +kernel) rfl (by decide +kernel) (by decide +kernel)
  subst hx
  refine ⟨_, pe_callB call_isi hg hm (by decide +kernel) (pa_cons Pa (pa_cons py pa_nil (star_cons rfl)) (star_cons hs)) (by decide +kernel) (by decide +kernel) (star_cons hs) (star_plain rfl), fun m σ H ρ S Q E Kv r0 re w k kx => ?_⟩
  simp only [wpE] at w
  refine Ra m σ H ρ S _ E _ r0 re w (fun m1 H1 x v S1 e1 r1 hx w1 => ?_) kx
  obtain ⟨b, hb, q⟩ := kit_tab v t
  exact ⟨x, _, _, _, b, rfl, .ty _, rep_ty r1 hx (fun i e => by subst e; cases t <;> exact let ⟨o, h1, h2, _⟩ := w1; ⟨o, h1, h2⟩) (fun y e => by subst e; cases t <;> exact w1), kit_ty hb, k m1 H1 _ _ S1 e1 r1 (.bl b) (q _ _ w1)⟩
end
end Pv
set_option Elab.async false
set_option linter.all false
set_option maxRecDepth 100000
set_option maxHeartbeats 1000000
/-! Pv5e: enumerate of a tuple. -/
namespace Pv
open PySem PySem.Spec PyProof.Rows L2
/-- the iterator of the tuple at t; the enumerate over the iterator at a -/
abbrev tIt (t : Addr) : Obj := { cls := .type "tuple_iterator", data := .fields #[.ref t, .int 0 0] }
abbrev eOb (a : Addr) : Obj := { cls := .type "enumerate", data := .fields #[.none, .bool false, .ref a, rawInt 0, .none, .none] }
set_option maxHeartbeats 2000000 in
theorem enumT_new (t : Addr) (items : Array Value) : Meets (Builtin.«enumerate.__new__» ⟨[.type "enumerate", .ref t], []⟩) (fun _ R s => s.heap.IsTuple t items ∧
    R (.ok (.ret (.ref (s.heap.push (tIt t)).objs.size))) { s with heap := (s.heap.push (tIt t)).push (eOb s.heap.objs.size) }) :=
  .of_wp fun prog w A R s hh => by
    obtain ⟨hp, g, d, tk, os⟩ := s
    obtain ⟨hT, hR⟩ := hh
    have sub := sub_enumerate
    have it : ∀ {A' : Around} {E : Value → Shared → Prop} {Q : Value → Shared → Prop}, Q (.ref hp.objs.size) ⟨hp.push (tIt t), g, d, tk, os⟩ → wpAny (model prog w) A' (pyIter (.ref t)) Q E ⟨hp, g, d, tk, os⟩ :=
      fun q => (begins_tuple t items).iter prog w _ _ ⟨hp, g, d, tk, os⟩ _ hT q
    wp_walk using it
    refine wpAny_stack_any fun sk => wpAny_pure ?_
    split
    · rename_i c _ _ _ _ _
      cases (c == Value.type "enumerate")
      · wp_walk using it
        exact ⟨_, rfl, hR⟩
      · wp_walk using it
        exact ⟨_, rfl, hR⟩
    · wp_walk using it
      exact ⟨_, rfl, hR⟩
section
variable {prog : Program} {w : World} {A : Around} {E : Value → Shared → Prop} {s : Shared}
theorem call_enumT {t : Addr} {items : Array Value} {Q : Value → Shared → Prop} (hT : s.heap.IsTuple t items)
    (k : ∀ h', IsEnum h' (s.heap.objs.size + 1) s.heap.objs.size 0 .none → h'.IsTupleIter s.heap.objs.size t 0 → (∀ b o, s.heap.get? b = some o → h'.get? b = some o) → Q (.ref (s.heap.objs.size + 1)) { s with heap := h' }) :
    wpAny (model prog w) A (call (.type "enumerate") [.ref t]) Q E s := by
  refine callType_new F.called_enumerate (by decide) (F.typeCall_enumerate_1 _) (F.newCall_enumerate_1 _) (fun obj => F.args_object_init_2 obj _) F.entry_enumerate_new (enumT_new t items) ⟨hT, ?_⟩
  have sz : (s.heap.push (tIt t)).objs.size = s.heap.objs.size + 1 := Heap.size_push ..
  show _ ∧ _
  rw [sz]
  have en : IsEnum ((s.heap.push (tIt t)).push (eOb s.heap.objs.size)) (s.heap.objs.size + 1) s.heap.objs.size 0 .none := by
    have q := Heap.get?_push_size (s.heap.push (tIt t)) (o := eOb s.heap.objs.size) rfl
    rw [sz] at q
    exact q
  exact ⟨⟨_, en, rfl⟩, k _ en ⟨_, Heap.get?_push_of_some _ (Heap.get?_push_size _ rfl), rfl, rfl⟩ fun b o x => Heap.get?_push_of_some _ (Heap.get?_push_of_some _ x)⟩
end
/-- an iterator of a tuple at its end -/
theorem drawT_end {prog : Program} {w : World} {A : Around} (hh : A.handled = none) (it t : Addr) (hne : t ≠ it) (items : Array Value) (i : Nat) (hi : items.size ≤ i) :
    Draws prog w A it [it, t] i (fun _ _ => False) (fun j h => j = i ∧ h.IsTupleIter it t i ∧ h.IsTuple t items) where
  live := fun _ _ st => let ⟨o, ho, _⟩ := st.2.1; ⟨o, ho⟩
  frame := fun _ _ _ st hk => ⟨st.1, st.2.1.at fun o e => hk it (by simp) o e, st.2.2.at fun o e => hk t (by simp) o e⟩
  item := fun j s Q E hj st _ => absurd st.1 (Nat.ne_of_lt hj)
  done := fun s Q E st hE => wpAny_nextOf_tuple_end hh st.2.1 st.2.2 (by simp [hi]) hE
/-- the tuple at a, each item in a new pair -/
def IteT (K : PySem.W.Frag) (a : Addr) : It :=
  ⟨fun i H => ∃ (xs : List V) (x : V), SqT K H a xs ∧ xs[i]? = some x, fun i H v H' => ∃ T x, v = .ref T ∧ H T = none ∧ H' = upd H T (.tup [.int (i : Nat), x]) ∧ ∀ xs, SqT K H a xs → xs[i]? = some x, fun i H => ∃ xs : List V, SqT K H a xs ∧ xs.length ≤ i⟩
theorem turn_enumT {P : Program} {w : World} {K : PySem.W.Frag} {elts : List Expr} {kk : Nat} {tpos : Pos} (a e it : Addr) (hai : a ≠ it) (hea : e ≠ a) :
    Turn P w K (.Tuple elts kk tpos) (IteT K a) [e, it] e (fun i h => (∃ old, IsEnum h e it ((i : Nat) : Int) old) ∧ h.IsTupleIter it a i ∧ e ≠ it) where
  mem := by simp
  obj := fun i h st b hb => by
    obtain ⟨⟨old, he⟩, ⟨o, ho, hc, hd⟩, _⟩ := st
    rcases (show b = e ∨ b = it by simpa using hb) with z | z
    · rw [z]; exact ⟨_, he, fun v q => nomatch q⟩
    · rw [z]; exact ⟨o, ho, fun v q => by rw [hd] at q; cases q⟩
  keep := fun i h h' st k => let ⟨⟨old, he⟩, hi, hne⟩ := st; ⟨⟨old, k e (by simp) _ he⟩, hi.at fun o q => k it (by simp) o q, hne⟩
  item := by
    intro X hP hw hK hc i pins s σ H E I hf st hg
    subst hP hw hK
    obtain ⟨⟨old, he⟩, hit, hne⟩ := st
    obtain ⟨xs, x, hq, hx⟩ := hg
    obtain ⟨its, rv, p, hz⟩ := I.tuple hq
    obtain ⟨u, hu, ru⟩ := rv.get hx
    have hlt : i < its.toArray.size := by simpa using (List.getElem?_eq_some_iff.mp hu).1
    have hel : e < s.heap.objs.size := Heap.lt_size he
    have hil : it < s.heap.objs.size := by obtain ⟨_, q, _⟩ := hit; exact Heap.lt_size q
    have hTup : s.heap.IsTuple a its.toArray := p
    refine wpAny_pyNext_enum_itemC (Draws.tuple (prog := X.prog) (w := X.w) (A := X.A.in1) (I.ok.hd hc) it a hai its.toArray) he ⟨hit, hTup⟩ hlt hne (by simp [hne, hea]) fun y h' tk hy ho hst hT hsz hk => ?_
    have ey : u = y := by
      have h1 : its.toArray[i]? = some u := by simpa using hu
      rw [h1] at hy
      exact Option.some.inj hy
    subst ey
    refine ⟨_, rfl, wpAny_letOwnedTupleGo_enum (s := { s with heap := h', toks := tk + 1 }) ho fun h2 he2 sb => ?_⟩
    have hT2 : h2.get? s.heap.objs.size = some { cls := .type "tuple", data := .seq #[.int i tk, u] } := (sb.2 _ (Nat.ne_of_gt hel)).trans hT
    have new : ObjOk X.prog X.w (upd H s.heap.objs.size (.tup [.int (i : Nat), x])) h2 s.heap.objs.size (.tup [.int (i : Nat), x]) :=
      ⟨by show 2 ≤ sizeLine; decide, [.int i tk, u], .cons ⟨_, rfl⟩ (.cons ru .nil), ⟨_, hT2, rfl, _, rfl⟩⟩
    have J : Inv X pins σ (upd H s.heap.objs.size (.tup [.int (i : Nat), x])) { s with heap := h2, toks := tk + 1 } :=
      I.turnedNew (ch := [e, it]) (fun b ob hb q => (sb.2 b (fun z => hb (by simp [z]))).trans (hk b ob (fun z => hb (by simp [z])) (fun z => hb (by simp [z])) q)) hf (Nat.le_refl _) new
    refine ⟨.ref s.heap.objs.size, _, J, rfl, ⟨_, x, rfl, I.hok.fresh (Nat.le_refl _), rfl, fun ys hy => by rw [I.tuple_inj hy hq]; exact hx⟩, ⟨⟨u, ?_⟩, hst.1.at fun o q => (sb.2 it (Ne.symm hne)).trans q, hne⟩, fun b hb => ?_⟩
    · rw [show ((i + 1 : Nat) : Int) = (i : Int) + 1 from by omega]; exact he2
    · have hb' : b < s.heap.objs.size := by
        rcases (show b = e ∨ b = it by simpa using hb) with z | z
        · rw [z]; exact hel
        · rw [z]; exact hil
      rw [upd_ne (Nat.ne_of_lt hb')]
      exact (hf b hb).1
  done := by
    intro X hP hw hK hc i pins s σ H E I hf st hg
    subst hP hw hK
    obtain ⟨⟨old, he⟩, hit, hne⟩ := st
    obtain ⟨xs, hq, hx⟩ := hg
    obtain ⟨its, rv, p, hz⟩ := I.tuple hq
    obtain ⟨f0, f1, f2, f3, f4, f5⟩ := hf it (by simp)
    have hTup : s.heap.IsTuple a its.toArray := p
    have hl := rv.length
    exact wpAny_pyNext_enum_endD (drawT_end (prog := X.prog) (w := X.w) (A := X.A.in1) (I.ok.hd hc) it a hai its.toArray i (by simp; omega)) he ⟨rfl, hit, hTup⟩ fun h2 eb => ⟨rfl, I.turned (t' := s.toks) (fun b o hb q => eb b o hb q) f0 f1 f3 f4 f5⟩
  self := fun A i s Q E st h => let ⟨⟨_, he⟩, _⟩ := st; wpAny_pyIter_enum he h
def iEnumA (K : PySem.W.Frag) (ta : TA) : TI := fun σ H R => ta σ H fun vs H1 => ∃ a xs, vs = [.ref a] ∧ ((SqL K H1 a xs ∧ R (Ite K a) H1) ∨ (SqT K H1 a xs ∧ R (IteT K a) H1))
theorem pi_enumA {X : Cx} {e : Expr} {ta : TA} {p pos tpos : Pos} {elts : List Expr} {kk : Nat} (hg : Gl X "enumerate") (hm : X.mg "enumerate" = none) (ha : PA X [e] ta) (hs : starEach [e] X.env = [(false, eval e X.env)] := by rfl) :
    PI X (.Tuple elts kk tpos) (.Call (.Name "enumerate" p) [e] [] pos) (iEnumA X.K ta) := by
  refine ⟨fun pins s σ H R I h => ?_⟩
  refine Call_ (ld_blt I hg hm boot_enumerate (PyProof.Rows.callWith_type1 (thn (ha.run pos pins s σ H _ I h) fun us s1 ⟨vs, H1, J, r1, q1⟩ => ?_) hs rfl))
  obtain ⟨a, xs, ex, q1⟩ := q1
  subst ex
  have fp2 : ∀ b, b ∈ [s1.heap.objs.size + 1, s1.heap.objs.size] → FpOk X pins H1 b := fun b hb => by
    have hle : s1.heap.objs.size ≤ b := by
      rcases (show b = s1.heap.objs.size + 1 ∨ b = s1.heap.objs.size by simpa using hb) with z | z
      · rw [z]; exact Nat.le_add_right _ _
      · rw [z]; exact Nat.le_refl _
    exact J.fpOk hle (J.hok.fresh hle)
  cases r1 with
  | cons r rr =>
    cases rr
    cases r
    rcases q1 with ⟨hq, q⟩ | ⟨hq, q⟩
    · obtain ⟨its, rv, pl, hz⟩ := J.list hq
      refine call_enumerate_list pl.isList fun h' he hit hsz hk => wpAny_pyIter_enum he ?_
      exact ⟨s1.heap.objs.size + 1, [s1.heap.objs.size + 1, s1.heap.objs.size], _, _, H1, rfl, J.kept (t' := s1.toks) hk, turn_enum a (s1.heap.objs.size + 1) s1.heap.objs.size, ⟨⟨.none, he⟩, hit, Nat.succ_ne_self _⟩, fp2, q⟩
    · obtain ⟨its, rv, pt, hz⟩ := J.tuple hq
      have hT : s1.heap.IsTuple a its.toArray := pt
      have hal : a < s1.heap.objs.size := by obtain ⟨_, ho, _⟩ := id hT; exact Heap.lt_size ho
      refine call_enumT hT fun h' he hit hk => wpAny_pyIter_enum he ?_
      exact ⟨s1.heap.objs.size + 1, [s1.heap.objs.size + 1, s1.heap.objs.size], _, _, H1, rfl, J.kept (t' := s1.toks) hk, turn_enumT a (s1.heap.objs.size + 1) s1.heap.objs.size (Nat.ne_of_lt hal) (Ne.symm (Nat.ne_of_lt (Nat.lt_succ_of_lt hal))), ⟨⟨.none, he⟩, hit, Nat.succ_ne_self _⟩, fp2, q⟩
end Pv
set_option Elab.async false
set_option linter.all false
set_option maxRecDepth 100000
set_option maxHeartbeats 1000000
/-! Pv5m: objects of own classes: fields, methods, making. -/
namespace Pv
open PySem PySem.Spec PyProof.Rows L2
section
variable {X : Cx} {G : GT} {W : WX} {Φ : Call} {C : CC} {e a b c o : Expr} {p q r : IE} {pos : Pos} {es rest : List Expr} {ps : IEs}
theorem RlS.ins {K : PySem.W.Frag} {m : List Addr} {H : Hp} {S : Store} {i : Nat} {x : Str} {fs : List (Str × PV)} (r : RlS K m H S) (h : S[i]? = some (.ins x fs)) :
    ∃ a C dx xs, m[i]? = some a ∧ PySem.W.nsIn K mainGlobals x = some (some (.ref C)) ∧ H a = some (.ins C dx xs) ∧ RepF K H m xs fs := by
  obtain ⟨a, h1, C, dx, xs, h2, h3, h4⟩ := r.obj i _ h
  exact ⟨a, C, dx, xs, h1, h2, h3, h4⟩
/-- o.f -/
theorem ex_attr {xs : List Str} {f : Str} (ok : ObjOkC X G Φ) (hf : ∀ x, x ∈ xs → (x, f) ∈ G.flds) (ha : EX X G W Φ o p) (hb : attributeBase o f X.env (eval o X.env) = eval o X.env) : EX X G W Φ (.Attribute o f pos) (.attr xs f p) := by
  obtain ⟨t, P, R⟩ := ha
  refine ⟨_, pe_fld P hb, fun m σ H ρ S Q E Kv r0 re w k kx => ?_⟩
  simp only [wpE] at w
  refine R m σ H ρ S _ _ _ r0 re w (fun m1 H1 v pv S1 e1 r1 hv q1 => ?_) kx
  cases hv with
  | @ref l i h1 =>
    obtain ⟨x, fs, z, hS, hxs, hz, q1⟩ := q1
    obtain ⟨l', D, dx, ys, g1, g2, g3, g4⟩ := r1.ins hS
    rw [h1] at g1
    cases g1
    obtain ⟨D', hD, cl, na⟩ := ok.fld x f (hf x hxs)
    rw [g2] at hD
    cases hD
    obtain ⟨y, hy, ry⟩ := g4.some hz
    exact ⟨l, D, dx, ys, y, rfl, g3, cl, na, hy, (k.ext e1).here r1 ry q1⟩
  | _ => exact q1.elim
theorem lookM_mem : ∀ {tbl : List (Str × Nat)} {x : Str} {j : Nat}, lookM tbl x = some j → (x, j) ∈ tbl
  | (g, i) :: r, x, j, h => by
    unfold lookM at h
    split at h
    · rename_i e; subst e; cases h; exact .head _
    · exact .tail _ (lookM_mem h)
/-- o.m(e, ..) -/
theorem ex_mcall {tbl : List (Str × Nat)} {m : Str} {apos : Pos} {pl : Sem Bool} (ok : ObjOkC X G Φ) (tk : Takes X W) (hm : ∀ x j, (x, j) ∈ tbl → ∃ n, (x, m, j, n) ∈ G.meths) (ho : EX X G W Φ o p) (ha : AX X G W Φ (e :: es) ps) (hs : (e :: es).all notStar = true)
    (ht : eval (.Call (.Attribute o m apos) (e :: es) [] pos) X.env = (do
      let ov ← eval o X.env
      standAt apos.atName
      let (f, first) ← holding [ov] (getMethod ov m pl)
      callWith pos f first (backTo pos (starEach (e :: es) X.env)) (backToKw pos (keywordEach [] X.env)))) :
    EX X G W Φ (.Call (.Attribute o m apos) (e :: es) [] pos) (.mcall tbl m p ps) := by
  obtain ⟨to, Po, Ro⟩ := ho
  obtain ⟨t, P, R⟩ := ha
  rw [List.all_cons, Bool.and_eq_true] at hs
  refine ⟨fun σ H Q => to σ H fun y H1 => ∃ (a dx : Addr) (fs : List (Str × V)) (j : Nat) (D f : Addr) (fd : FuncData) (pars : List Str) (kk : Nat), Cls X.K D ∧ Meth X.K D m f ∧ FnOk X.prog X.w X.K X.mg X.base (L2.CX X.prog X.w) kk f fd pars (spF X.K X.mg G (Φ (.f j))) ∧ Room kk X.A ∧ Binds X.K fd pars [] ∧ y = .ref a ∧ H1 a = some (.ins D dx fs) ∧ fs.lookup m = none ∧ t σ H1 fun vs H2 => spF X.K X.mg G (Φ (.f j)) (y :: vs) H2 Q (fun c d H' => W c d σ H'), ?_, fun m1 σ H ρ S Q E Kv r0 re w k kx => ?_⟩
  · refine ⟨fun pins s σ H Q I h => ?_⟩
    refine PySem.W.methodCall_KW (pl := pl) (thn (Po.run pins s σ H _ I h) fun u s1 ⟨y, H1, I1, ry, a, dx, fs, j, D, f, fd, pars, kk, cl, me, F, hr, hb, ey, ea, l, q⟩ => ?_) ht
    subst ey
    obtain rfl : u = Value.ref a := ry
    refine getmeth_ok I1 ea cl me l ?_
    refine PySem.W.callWith_K (first := [.ref a]) (h₀ := X.base) I1.ok.mod.kin me.kp (thn (P.run pos pins s1 σ H1 _ I1 q) fun us s2 ⟨vs, H2, I2, r, q2⟩ => ⟨I2.kIn, ?_⟩) (star_cons hs.1) (star_plain hs.2)
    have hl : (Value.ref a :: us).length = pars.length := by rw [List.length_cons, ← r.length]; exact F.len _ _ _ _ q2
    refine wpAny_call (codeAny_mono (F.run X.A X.stack s2 H2 ⟨Value.ref a :: us, []⟩ (Value.ref a :: us) (V.ref a :: vs) Q _ hr I2.env0 (by simpa using hb s2 (Value.ref a :: us) I2.kIn (by simpa using hl)) (.cons rfl r) q2) fun r s' hq => ?_)
    cases r with
    | error e => exact passAt tk σ pins H2 s2 e s' I2 hq
    | ok fl =>
      cases fl with
      | ret u => exact I2.after hq
      | next => exact False.elim hq
      | brk => exact False.elim hq
      | cont => exact False.elim hq
  · simp only [wpE] at w
    refine Ro m1 σ H ρ S _ _ _ r0 re w (fun m2 H2 v pv S2 e2 r2 hv q2 => ?_) kx
    cases hv with
    | @ref l i h1 =>
      obtain ⟨x, fs, j, hS, hz, hj, q2⟩ := q2
      obtain ⟨l', D', dx, xs, g1, g2, g3, g4⟩ := r2.ins hS
      rw [h1] at g1
      cases g1
      obtain ⟨n, hn⟩ := hm x j (lookM_mem hj)
      obtain ⟨D, f, fd, pars, kk, hD, cl, me, F, hr, hb⟩ := ok.meth x m j n hn
      rw [hD] at g2
      cases g2
      refine ⟨l, dx, xs, j, D', f, fd, pars, kk, cl, me, F, hr, hb, rfl, g3, g4.none hz, ?_⟩
      refine R m2 σ H2 ρ S2 _ _ _ r2 (re.ext e2) q2 (fun m3 H3 ys vs S3 e3 r3 hx w3 => ?_) (kx.ext e2)
      exact ⟨m3, _, S3, Q, E, r3, .cons (.ref (e3.at h1)) hx, w3, k.ext (e2.trans e3), kx.ext (e2.trans e3)⟩
    | _ => exact q2.elim
/-- o.m() -/
theorem ex_mcall0 {tbl : List (Str × Nat)} {m : Str} {apos : Pos} {pl : Sem Bool} (ok : ObjOkC X G Φ) (tk : Takes X W) (hm : ∀ x j, (x, j) ∈ tbl → ∃ n, (x, m, j, n) ∈ G.meths) (ho : EX X G W Φ o p)
    (ht : eval (.Call (.Attribute o m apos) [] [] pos) X.env = (do
      let ov ← eval o X.env
      standAt apos.atName
      let (f, first) ← holding [ov] (getMethod ov m pl)
      callWith pos f first (backTo pos (starEach [] X.env)) (backToKw pos (keywordEach [] X.env)))) :
    EX X G W Φ (.Call (.Attribute o m apos) [] [] pos) (.mcall tbl m p .nil) := by
  obtain ⟨to, Po, Ro⟩ := ho
  refine ⟨fun σ H Q => to σ H fun y H1 => ∃ (a dx : Addr) (fs : List (Str × V)) (j : Nat) (D f : Addr) (fd : FuncData) (pars : List Str) (kk : Nat), Cls X.K D ∧ Meth X.K D m f ∧ FnOk X.prog X.w X.K X.mg X.base (L2.CX X.prog X.w) kk f fd pars (spF X.K X.mg G (Φ (.f j))) ∧ Room kk X.A ∧ Binds X.K fd pars [] ∧ y = .ref a ∧ H1 a = some (.ins D dx fs) ∧ fs.lookup m = none ∧ spF X.K X.mg G (Φ (.f j)) [y] H1 Q (fun c d H' => W c d σ H'), ?_, fun m1 σ H ρ S Q E Kv r0 re w k kx => ?_⟩
  · refine ⟨fun pins s σ H Q I h => ?_⟩
    refine PySem.W.methodCall_KW (pl := pl) (thn (Po.run pins s σ H _ I h) fun u s1 ⟨y, H1, I1, ry, a, dx, fs, j, D, f, fd, pars, kk, cl, me, F, hr, hb, ey, ea, l, q⟩ => ?_) ht
    subst ey
    obtain rfl : u = Value.ref a := ry
    refine getmeth_ok I1 ea cl me l ?_
    refine PySem.W.callWith_K0 (first := [.ref a]) I1.kIn me.kp ?_
    have hl : [Value.ref a].length = pars.length := F.len _ _ _ _ q
    refine wpAny_call (codeAny_mono (F.run X.A X.stack s1 H1 ⟨[Value.ref a], []⟩ [Value.ref a] [V.ref a] Q _ hr I1.env0 (by simpa using hb s1 [Value.ref a] I1.kIn (by simpa using hl)) (.cons rfl .nil) q) fun r s' hq => ?_)
    cases r with
    | error e => exact passAt tk σ pins H1 s1 e s' I1 hq
    | ok fl =>
      cases fl with
      | ret u => exact I1.after hq
      | next => exact False.elim hq
      | brk => exact False.elim hq
      | cont => exact False.elim hq
  · simp only [wpE, wpEs] at w
    refine Ro m1 σ H ρ S _ _ _ r0 re w (fun m2 H2 v pv S2 e2 r2 hv q2 => ?_) kx
    cases hv with
    | @ref l i h1 =>
      obtain ⟨x, fs, j, hS, hz, hj, q2⟩ := q2
      obtain ⟨l', D', dx, xs, g1, g2, g3, g4⟩ := r2.ins hS
      rw [h1] at g1
      cases g1
      obtain ⟨n, hn⟩ := hm x j (lookM_mem hj)
      obtain ⟨D, f, fd, pars, kk, hD, cl, me, F, hr, hb⟩ := ok.meth x m j n hn
      rw [hD] at g2
      cases g2
      exact ⟨l, dx, xs, j, D', f, fd, pars, kk, cl, me, F, hr, hb, rfl, g3, g4.none hz, m2, _, S2, Q, E, r2, .cons (.ref h1) .nil, q2, k.ext e2, kx.ext e2⟩
    | _ => exact q2.elim
/-- a new object and its dict -/
theorem new_ins {K : PySem.W.Frag} {m : List Addr} {H : Hp} {S : Store} {x : Str} {D y dx : Addr} (r : RlS K m H S) (hD : PySem.W.nsIn K mainGlobals x = some (some (.ref D))) (hy : H y = none) (hdx : H dx = none) (hne : dx ≠ y) :
    Ext K m H (m ++ [y]) (upd (upd H dx (.own y)) y (.ins D dx [])) ∧ RlS K (m ++ [y]) (upd (upd H dx (.own y)) y (.ins D dx [])) (S ++ [.ins x []]) := by
  have hy2 : upd H dx (.own y) y = none := by rw [upd_ne (Ne.symm hne)]; exact hy
  exact ⟨(Ext.new _ hdx).trans (Ext.newL _ hy2), (r.new _ hdx).newO hy2 ⟨D, dx, [], hD, upd_same, .nil⟩⟩
/-- C(e, ..) -/
theorem make_core {x : Str} {D : Addr} {j : Nat} {f : Addr} {fd : FuncData} {pars : List Str} (tk : Takes X W) (hD : PySem.W.nsIn X.K mainGlobals x = some (some (.ref D))) (M : Mk X.K D f) (hF : (∃ k, FnOk X.prog X.w X.K X.mg X.base (L2.CX X.prog X.w) k f fd pars (spF X.K X.mg G (Φ (.mk j))) ∧ Room (k + 1) X.A) ∨ ∀ vs H Q E, ¬ spF X.K X.mg G (Φ (.mk j)) vs H Q E) (hb : Binds X.K fd pars [])
    {pins : List (Addr × Obj)} {σ : L2.St} {H : Hp} {s : Shared} {Q : VK} {us : List Value} {vs : List V} (I : Inv X pins σ H s) (rv : Vals vs us)
    (h : ∀ y dx, H y = none → H dx = none → dx ≠ y → spF X.K X.mg G (Φ (.mk j)) (.ref y :: vs) (upd (upd H dx (.own y)) y (.ins D dx [])) (fun v H2 => v = .non ∧ Q (.ref y) H2) (fun c d H' => W c d σ H')) :
    wpAny (model X.prog X.w) X.A (call (.ref D) us) (EP X pins σ Q) X.xe s := by
  have hq := h (s.heap.objs.size + 1) s.heap.objs.size (I.hok.fresh (Nat.le_succ _)) (I.hok.fresh (Nat.le_refl _)) (Nat.ne_of_lt (Nat.lt_succ_self _))
  obtain ⟨k0, F, hr⟩ : ∃ k, FnOk X.prog X.w X.K X.mg X.base (L2.CX X.prog X.w) k f fd pars (spF X.K X.mg G (Φ (.mk j))) ∧ Room (k + 1) X.A := hF.elim id fun h => absurd hq (h _ _ _ _)
  have I2 := Inv.made (C := D) I
  have hl := F.len _ _ _ _ hq
  have r2 : Vals (V.ref (s.heap.objs.size + 1) :: vs) (Value.ref (s.heap.objs.size + 1) :: us) := .cons rfl rv
  have hl2 : (Value.ref (s.heap.objs.size + 1) :: us).length = pars.length := by rw [← r2.length]; exact hl
  refine wpAny_call (make_map (f := f) I.kIn M.makes M.init (beq_iff_eq.mp M.fn) (codeAny_mono (F.run _ X.stack _ _ ⟨Value.ref (s.heap.objs.size + 1) :: us, []⟩ (Value.ref (s.heap.objs.size + 1) :: us) _ _ _ (hr.make D us [])
    (I2.env0.make D us []) (by simpa using hb _ (Value.ref (s.heap.objs.size + 1) :: us) I2.kIn (by simpa using hl2)) r2 hq) fun r s' hq' => ?_))
  cases r with
  | error e => exact passAt tk σ pins _ _ e s' I2 hq'
  | ok fl =>
    cases fl with
    | ret u =>
      obtain ⟨v, H', I3, rv, ev, q3⟩ := I2.after hq'
      subst ev
      exact ⟨rv, ⟨V.ref (s.heap.objs.size + 1), H', I3, rfl, q3⟩⟩
    | next => exact False.elim hq'
    | brk => exact False.elim hq'
    | cont => exact False.elim hq'
theorem ex_make {x : Str} {j n : Nat} {p0 : Pos} (ok : ObjOkC X G Φ) (tk : Takes X W) (hm : (x, j, n) ∈ G.makes) (hg : Gl X x) (hdb : (x == ("__debug__" : Str)) = false) (ha : AX X G W Φ (e :: es) ps) (hs : (e :: es).all notStar = true) :
    EX X G W Φ (.Call (.Name x p0) (e :: es) [] pos) (.make x j ps) := by
  obtain ⟨t, P, R⟩ := ha
  obtain ⟨D, f, fd, pars, hD, hmg, M, hb, hF⟩ := ok.make x j n hm
  rw [List.all_cons, Bool.and_eq_true] at hs
  refine ⟨fun σ H Q => t σ H fun vs H1 => ∀ y dx, H1 y = none → H1 dx = none → dx ≠ y → spF X.K X.mg G (Φ (.mk j)) (.ref y :: vs) (upd (upd H1 dx (.own y)) y (.ins D dx [])) (fun v H2 => v = .non ∧ Q (.ref y) H2) (fun c d H' => W c d σ H'), ?_, fun m σ H ρ S Q E Kv r0 re w k kx => ?_⟩
  · refine ⟨fun pins s σ H Q I h => ?_⟩
    refine wpAny_Call_Name_kw (ld_glob I hg hmg ?_ hdb)
    refine PySem.W.callWith_K (h₀ := X.base) I.ok.mod.kin M.kp (thn (P.run pos pins s σ H _ I h) fun us s1 ⟨vs, H1, I1, r, q⟩ => ⟨I1.kIn, ?_⟩) (star_cons hs.1) (star_plain hs.2)
    exact make_core tk hD M hF hb I1 r q
  · simp only [wpE] at w
    refine R m σ H ρ S _ _ _ r0 re w (fun m1 H1 xs vs S1 e1 r1 hx w1 => ?_) kx
    intro y dx hy hdx hne
    obtain ⟨e2, r2⟩ := new_ins r1 hD hy hdx hne
    refine ⟨m1 ++ [y], _, S1 ++ [.ins x []], _, _, r2, .cons (.ref (by rw [← r1.len]; exact get_last)) (RepL.ext e2 _ _ hx), w1, ?_, kx.ext (e1.trans e2)⟩
    intro m' H' v pv S' e3 r3 hv q
    obtain ⟨rfl, q⟩ := q
    cases hv
    exact ⟨rfl, (k.ext (e1.trans e2)) m' H' (.ref y) (.ref S1.length) S' e3 r3 (.ref (e3.at (by rw [← r1.len]; exact get_last))) q⟩
theorem ex_make0 {x : Str} {j n : Nat} {p0 : Pos} (ok : ObjOkC X G Φ) (tk : Takes X W) (hm : (x, j, n) ∈ G.makes) (hg : Gl X x) (hdb : (x == ("__debug__" : Str)) = false) :
    EX X G W Φ (.Call (.Name x p0) [] [] pos) (.make x j .nil) := by
  obtain ⟨D, f, fd, pars, hD, hmg, M, hb, hF⟩ := ok.make x j n hm
  refine ⟨fun σ H Q => ∀ y dx, H y = none → H dx = none → dx ≠ y → spF X.K X.mg G (Φ (.mk j)) [.ref y] (upd (upd H dx (.own y)) y (.ins D dx [])) (fun v H2 => v = .non ∧ Q (.ref y) H2) (fun c d H' => W c d σ H'), ?_, fun m σ H ρ S Q E Kv r0 re w k kx => ?_⟩
  · refine ⟨fun pins s σ H Q I h => ?_⟩
    refine wpAny_Call_Name_kw (ld_glob I hg hmg ?_ hdb)
    exact PySem.W.callWith_K0 I.kIn M.kp (make_core tk hD M hF hb I .nil h)
  · simp only [wpE, wpEs] at w
    intro y dx hy hdx hne
    obtain ⟨e2, r2⟩ := new_ins r0 hD hy hdx hne
    refine ⟨m ++ [y], _, S ++ [.ins x []], _, _, r2, .cons (.ref (by rw [← r0.len]; exact get_last)) .nil, w, ?_, kx.ext e2⟩
    intro m' H' v pv S' e3 r3 hv q
    obtain ⟨rfl, q⟩ := q
    cases hv
    exact ⟨rfl, (k.ext e2) m' H' (.ref y) (.ref S.length) S' e3 r3 (.ref (e3.at (by rw [← r0.len]; exact get_last))) q⟩
end
end Pv
set_option Elab.async false
set_option linter.all false
set_option maxRecDepth 100000
set_option maxHeartbeats 1000000
/-! Pv6: iterators, comprehensions, targets. -/
namespace Pv
open PySem PySem.Spec PyProof.Rows L2

section
variable {tb : Bool} {X : Cx} {G : GT} {W : WX} {Φ : Call} {C : CC} {e a b c tg : Expr} {p q r : IE} {pos : Pos} {es rest : List Expr} {ps : IEs}
/-! ### what the iterators yield -/
theorem itOk_list {m : List Addr} {H : Hp} {i : Nat} {a : Addr} {o : Mo} (so : o.sq = true) (ha : m[i]? = some a) : ItOk X.K tb (Itl X.K a) [(i, o)] o.items m H := by
  intro n m2 H2 S2 e r s
  obtain ⟨xs, g1, g2⟩ := r.sql s.1 so (e.at ha)
  refine ⟨fun h => ⟨xs, g1, by rw [g2.len]; exact h⟩, fun p hp => ?_⟩
  obtain ⟨x, h1, h2⟩ := g2.get hp
  refine ⟨⟨xs, x, g1, h1⟩, fun y H3 hy => ?_⟩
  obtain ⟨e3, hy⟩ := hy
  subst e3
  have := hy xs g1
  rw [h1] at this
  cases this
  exact ⟨Ext.refl, r, .of h2⟩
theorem itOk_tup {m : List Addr} {H : Hp} {a : Addr} {xs : List V} {vs : List PV} (h1 : SqT X.K H a xs) (h2 : RepL X.K H m xs vs) : ItOk X.K tb (Itt X.K a) [] vs m H := by
  intro n m2 H2 S2 e r s
  have g1 := e.sqt _ _ h1
  have g2 := RepL.ext e _ _ h2
  refine ⟨fun h => ⟨xs, g1, by rw [g2.len]; exact h⟩, fun p hp => ?_⟩
  obtain ⟨x, k1, k2⟩ := g2.get hp
  refine ⟨⟨xs, x, g1, k1⟩, fun y H3 hy => ?_⟩
  obtain ⟨e3, hy⟩ := hy
  subst e3
  have := hy xs g1
  rw [k1] at this
  cases this
  exact ⟨Ext.refl, r, .of k2⟩
theorem rngL_get {lo hi : Int} {i : Nat} {p : PV} (h : (rngL lo hi)[i]? = some p) : i < (hi - lo).toNat ∧ p = .int (lo + i) := by
  unfold rngL at h
  rw [List.getElem?_map] at h
  cases q : (List.range (hi - lo).toNat)[i]? with
  | none => rw [q] at h; cases h
  | some k =>
    rw [q] at h
    obtain ⟨h1, h2⟩ := List.getElem?_eq_some_iff.mp q
    simp at h1 h2
    simp at h
    subst h2
    exact ⟨by omega, h.symm⟩
theorem itOk_rng {m : List Addr} {H : Hp} {lo hi : Int} : ItOk X.K tb (Itr lo (hi - lo).toNat) [] (rngL lo hi) m H := by
  intro n m2 H2 S2 e r s
  refine ⟨fun h => by unfold rngL at h; rw [List.length_map, List.length_range] at h; exact h, fun p hp => ?_⟩
  obtain ⟨h1, h2⟩ := rngL_get hp
  subst h2
  refine ⟨h1, fun y H3 hy => ?_⟩
  obtain ⟨e3, hy⟩ := hy
  subst e3
  subst hy
  exact ⟨Ext.refl, r, .of (.int _)⟩
theorem enumL_len : ∀ (k : Nat) (xs : List PV), (enumL k xs).length = xs.length
  | _, [] => rfl
  | k, x :: xs => by simp [enumL, enumL_len (k + 1) xs]
theorem enumL_get : ∀ {k : Nat} {xs : List PV} {i : Nat} {p : PV}, (enumL k xs)[i]? = some p → ∃ x, xs[i]? = some x ∧ p = .tup [.int ((k + i : Nat) : Int), x]
  | _, [], _, _, h => by simp [enumL] at h
  | k, x :: xs, 0, p, h => by simp [enumL] at h; exact ⟨x, rfl, by simp [← h]⟩
  | k, x :: xs, i + 1, p, h => by
    simp only [enumL, List.getElem?_cons_succ] at h
    obtain ⟨y, h1, h2⟩ := enumL_get h
    exact ⟨y, by simpa using h1, by rw [h2, Nat.add_assoc, Nat.add_comm 1 i]⟩
theorem itOk_enum {m : List Addr} {H : Hp} {i : Nat} {a : Addr} {o : Mo} (so : o.sq = true) (ha : m[i]? = some a) : ItOk X.K true (Ite X.K a) [(i, o)] (enumL 0 o.items) m H := by
  intro n m2 H2 S2 e r s
  obtain ⟨xs, g1, g2⟩ := r.sql s.1 so (e.at ha)
  refine ⟨fun h => ⟨xs, g1, by rw [g2.len]; rw [enumL_len] at h; exact h⟩, fun p hp => ?_⟩
  obtain ⟨w, hw, hp⟩ := enumL_get hp
  subst hp
  obtain ⟨x, h1, h2⟩ := g2.get hw
  refine ⟨⟨xs, x, g1, h1⟩, fun y H3 hy => ?_⟩
  obtain ⟨T, z, ey, hT, eH, hy⟩ := hy
  subst ey
  subst eH
  have := hy xs g1
  rw [h1] at this
  cases this
  have e2 : Ext X.K m2 H2 m2 (upd H2 T (.tup [.int (n : Nat), x])) := Ext.new _ hT
  exact ⟨e2, r.new _ hT, .inr ⟨_, _, _, rfl, rfl, SqT.of upd_same, .cons (by rw [Nat.zero_add]; exact .int _) (.cons (RepV.ext e2 _ _ h2) .nil)⟩⟩
theorem itOk_enumT {m : List Addr} {H : Hp} {a : Addr} {xs : List V} {vs : List PV} (h1 : SqT X.K H a xs) (h2 : RepL X.K H m xs vs) : ItOk X.K true (IteT X.K a) [] (enumL 0 vs) m H := by
  intro n m2 H2 S2 e r s
  have g1 := e.sqt _ _ h1
  have g2 := RepL.ext e _ _ h2
  refine ⟨fun h => ⟨xs, g1, by rw [g2.len]; rw [enumL_len] at h; exact h⟩, fun p hp => ?_⟩
  obtain ⟨w, hw, hp⟩ := enumL_get hp
  subst hp
  obtain ⟨x, k1, k2⟩ := g2.get hw
  refine ⟨⟨xs, x, g1, k1⟩, fun y H3 hy => ?_⟩
  obtain ⟨T, z, ey, hT, eH, hy⟩ := hy
  subst ey
  subst eH
  have := hy xs g1
  rw [k1] at this
  cases this
  have e2 : Ext X.K m2 H2 m2 (upd H2 T (.tup [.int (n : Nat), x])) := Ext.new _ hT
  exact ⟨e2, r.new _ hT, .inr ⟨_, _, _, rfl, rfl, SqT.of upd_same, .cons (by rw [Nat.zero_add]; exact .int _) (.cons (RepV.ext e2 _ _ k2) .nil)⟩⟩
theorem zipL_get : ∀ {xs ys : List PV} {i : Nat} {p : PV}, (zipL xs ys)[i]? = some p → ∃ x y, xs[i]? = some x ∧ ys[i]? = some y ∧ p = .tup [x, y]
  | [], _, _, _, h => by simp [zipL] at h
  | _ :: _, [], _, _, h => by simp [zipL] at h
  | x :: xs, y :: ys, 0, p, h => by simp [zipL] at h; exact ⟨x, y, rfl, rfl, h.symm⟩
  | x :: xs, y :: ys, i + 1, p, h => by
    simp only [zipL, List.getElem?_cons_succ] at h
    obtain ⟨x', y', h1, h2, h3⟩ := zipL_get h
    exact ⟨x', y', by simpa using h1, by simpa using h2, h3⟩
theorem zipL_len : ∀ (xs ys : List PV), (zipL xs ys).length = min xs.length ys.length
  | [], _ => by simp [zipL]
  | _ :: _, [] => by simp [zipL]
  | x :: xs, y :: ys => by simp only [zipL, List.length_cons, zipL_len xs ys]; omega
theorem itOk_zip {m : List Addr} {H : Hp} {i j : Nat} {a b : Addr} {o u : Mo} (so : o.sq = true) (su : u.sq = true) (ha : m[i]? = some a) (hb : m[j]? = some b) : ItOk X.K true (Itz X.K a b) [(i, o), (j, u)] (zipL o.items u.items) m H := by
  intro n m2 H2 S2 e r s
  obtain ⟨xs, g1, g2⟩ := r.sql s.1 so (e.at ha)
  obtain ⟨ys, k1, k2⟩ := r.sql s.2.1 su (e.at hb)
  refine ⟨fun h => ⟨xs, ys, g1, k1, by rw [g2.len, k2.len]; rw [zipL_len] at h; omega⟩, fun p hp => ?_⟩
  obtain ⟨w1, w2, hw1, hw2, hp⟩ := zipL_get hp
  subst hp
  obtain ⟨x, h1, h2⟩ := g2.get hw1
  obtain ⟨y, l1, l2⟩ := k2.get hw2
  refine ⟨⟨xs, ys, x, y, g1, k1, h1, l1⟩, fun y' H3 hy => ?_⟩
  obtain ⟨T, z1, z2, ey, hT, eH, hy1, hy2⟩ := hy
  subst ey
  subst eH
  have q1 := hy1 xs g1
  have q2 := hy2 ys k1
  rw [h1] at q1
  rw [l1] at q2
  cases q1
  cases q2
  have e2 : Ext X.K m2 H2 m2 (upd H2 T (.tup [x, y])) := Ext.new _ hT
  exact ⟨e2, r.new _ hT, .inr ⟨_, _, _, rfl, rfl, SqT.of upd_same, .cons (RepV.ext e2 _ _ h2) (.cons (RepV.ext e2 _ _ l2) .nil)⟩⟩
theorem itOk_zipT {m : List Addr} {H : Hp} {a b : Addr} {xs ys : List V} {vs ws : List PV} (a1 : SqT X.K H a xs) (a2 : RepL X.K H m xs vs) (b1 : SqT X.K H b ys) (b2 : RepL X.K H m ys ws) : ItOk X.K true (RZ.ItzT X.K a b) [] (zipL vs ws) m H := by
  intro n m2 H2 S2 e r s
  have g1 := e.sqt _ _ a1
  have g2 := RepL.ext e _ _ a2
  have k1 := e.sqt _ _ b1
  have k2 := RepL.ext e _ _ b2
  refine ⟨fun h => ⟨xs, ys, g1, k1, by rw [g2.len, k2.len]; rw [zipL_len] at h; omega⟩, fun p hp => ?_⟩
  obtain ⟨w1, w2, hw1, hw2, hp⟩ := zipL_get hp
  subst hp
  obtain ⟨x, h1, h2⟩ := g2.get hw1
  obtain ⟨y, l1, l2⟩ := k2.get hw2
  refine ⟨⟨xs, ys, x, y, g1, k1, h1, l1⟩, fun y' H3 hy => ?_⟩
  obtain ⟨T, z1, z2, ey, hT, eH, hy1, hy2⟩ := hy
  subst ey
  subst eH
  have q1 := hy1 xs g1
  have q2 := hy2 ys k1
  rw [h1] at q1
  rw [l1] at q2
  cases q1
  cases q2
  have e2 : Ext X.K m2 H2 m2 (upd H2 T (.tup [x, y])) := Ext.new _ hT
  exact ⟨e2, r.new _ hT, .inr ⟨_, _, _, rfl, rfl, SqT.of upd_same, .cons (RepV.ext e2 _ _ h2) (.cons (RepV.ext e2 _ _ l2) .nil)⟩⟩
/-! ### the walks -/
def iSeq (K : PySem.W.Frag) (tl : TE) : TI := fun σ H R => tl σ H fun x H1 => ∃ a, x = .ref a ∧ ((∃ xs, SqL K H1 a xs ∧ R (Itl K a) H1) ∨ ∃ xs, SqT K H1 a xs ∧ R (Itt K a) H1)
theorem pi_seq {l : Expr} {tl : TE} (hl : PE X l tl) : PI X tg l (iSeq X.K tl) := by
  refine ⟨fun pins s σ H R I h => ?_⟩
  refine thn (hl.run pins s σ H _ I h) fun v s1 ⟨x, H1, I1, r1, q1⟩ => ?_
  obtain ⟨a, e, q1⟩ := q1
  subst e
  cases r1
  rcases q1 with ⟨xs, hq, q⟩ | ⟨xs, hq, q⟩
  · obtain ⟨its, rv, p, hz⟩ := I1.list hq
    refine wpAny_pyIter_list p.isList ?_
    refine ⟨s1.heap.objs.size, [s1.heap.objs.size], _, _, H1, rfl, I1.kept (t' := s1.toks) fun b o e => Heap.get?_push_of_some _ e, turn_list a _, ⟨_, Heap.get?_push_size _ rfl, rfl, rfl⟩, fun b hb => ?_, q⟩
    have e : b = s1.heap.objs.size := by simpa using hb
    subst e
    exact I1.fpOk (Nat.le_refl _) (I1.hok.fresh (Nat.le_refl _))
  · obtain ⟨its, rv, p, hz⟩ := I1.tuple hq
    refine wpAny_pyIter_tuple (show s1.heap.IsTuple a its.toArray from p) ?_
    refine ⟨s1.heap.objs.size, [s1.heap.objs.size], _, _, H1, rfl, I1.kept (t' := s1.toks) fun b o e => Heap.get?_push_of_some _ e, turn_tuple a _, ⟨_, Heap.get?_push_size _ rfl, rfl, rfl⟩, fun b hb => ?_, q⟩
    have e : b = s1.heap.objs.size := by simpa using hb
    subst e
    exact I1.fpOk (Nat.le_refl _) (I1.hok.fresh (Nat.le_refl _))
theorem ix_val (ha : EX X G W Φ a p) : IX X G W Φ tg a (.val p) := by
  obtain ⟨t, P, R⟩ := ha
  refine ⟨_, pi_seq P, fun m σ H ρ S Q E Kv r0 re w k kx => ?_⟩
  simp only [wpI] at w
  refine R m σ H ρ S _ E _ r0 re w (fun m1 H1 x v S1 e1 r1 hx w1 => ?_) kx
  cases hx with
  | @tup a xs vs h1 h2 => exact ⟨a, rfl, .inr ⟨xs, h1.sq, k m1 H1 _ _ _ S1 e1 r1 (itOk_tup h1.sq h2) w1⟩⟩
  | @ref a i h1 =>
    obtain ⟨o, e, sq, q⟩ := w1
    obtain ⟨xs, g1, g2⟩ := r1.sql e sq h1
    exact ⟨a, rfl, .inl ⟨xs, g1, k m1 H1 _ _ _ S1 e1 r1 (itOk_list sq h1) q⟩⟩
  | _ => exact w1.elim
theorem ix_rng1 {x : Str} {p0 : Pos} (hx : x = "range") (hg : Gl X x) (hm : X.mg x = none) (ha : EX X G W Φ a p) (hs : notStar a = true) : IX X G W Φ tg (.Call (.Name x p0) [a] [] pos) (.rng1 p) := by
  obtain ⟨t, P, R⟩ := ha
  subst hx
  refine ⟨_, pi_range1 hg hm (pa_cons P pa_nil (star_cons hs)) (star_cons hs), fun m σ H ρ S Q E Kv r0 re w k kx => ?_⟩
  simp only [wpI] at w
  refine R m σ H ρ S _ E _ r0 re w (fun m1 H1 x v S1 e1 r1 hx w1 => ?_) kx
  obtain ⟨i, ei, ⟨h1, h2⟩, q⟩ := w1
  subst ei
  cases hx
  refine ⟨i, rfl, h1, h2, ?_⟩
  have o := itOk_rng (tb := tupB tg) (X := X) (m := m1) (H := H1) (lo := 0) (hi := i)
  rw [Int.sub_zero] at o
  exact k m1 H1 _ _ _ S1 e1 r1 o q
theorem ix_rng2 {x : Str} {p0 : Pos} (hx : x = "range") (hg : Gl X x) (hm : X.mg x = none) (ha : EX X G W Φ a p) (hb : EX X G W Φ b q) (hs : notStar a = true) (hs2 : notStar b = true) : IX X G W Φ tg (.Call (.Name x p0) [a, b] [] pos) (.rng2 p q) := by
  obtain ⟨t, P, R⟩ := ha
  obtain ⟨t2, P2, R2⟩ := hb
  subst hx
  have e2 : starEach [b] X.env = [(false, eval b X.env)] := star_cons hs2
  refine ⟨_, pi_range2 hg hm (pa_cons P (pa_cons P2 pa_nil (star_cons hs2)) (star_cons hs)) (by rw [star_cons hs, e2]) e2, fun m σ H ρ S Q E Kv r0 re w k kx => ?_⟩
  simp only [wpI] at w
  refine R m σ H ρ S _ E _ r0 re w (fun m1 H1 x v S1 e1 r1 hx w1 => ?_) kx
  refine R2 m1 σ H1 ρ S1 _ E _ r1 (re.ext e1) w1 (fun m2 H2 y v2 S2 e2 r2 hy w2 => ?_) (kx.ext e1)
  obtain ⟨i, j, ei, ej, ⟨h1, h2⟩, ⟨h3, h4⟩, q⟩ := w2
  subst ei
  subst ej
  cases hx
  cases hy
  exact ⟨i, j, rfl, ⟨h1, h2, h3, h4⟩, k m2 H2 _ _ _ S2 (e1.trans e2) r2 itOk_rng q⟩
theorem ix_enum {x : Str} {p0 tpos : Pos} {elts : List Expr} {kk : Nat} (hx : x = "enumerate") (hg : Gl X x) (hm : X.mg x = none) (ha : EX X G W Φ a p) (hs : notStar a = true) : IX X G W Φ (.Tuple elts kk tpos) (.Call (.Name x p0) [a] [] pos) (.enum p) := by
  obtain ⟨t, P, R⟩ := ha
  subst hx
  refine ⟨_, pi_enumA hg hm (pa_cons P pa_nil (star_cons hs)) (star_cons hs), fun m σ H ρ S Q E Kv r0 re w k kx => ?_⟩
  simp only [wpI] at w
  refine R m σ H ρ S _ E _ r0 re w (fun m1 H1 x v S1 e1 r1 hx w1 => ?_) kx
  cases hx with
  | @tup a xs vs h1 h2 => exact ⟨a, xs, rfl, .inr ⟨h1.sq, k m1 H1 _ _ _ S1 e1 r1 (itOk_enumT h1.sq h2) w1⟩⟩
  | @ref a i h1 =>
    obtain ⟨o, e, sq, q⟩ := w1
    obtain ⟨xs, g1, g2⟩ := r1.sql e sq h1
    exact ⟨a, xs, rfl, .inl ⟨g1, k m1 H1 _ _ _ S1 e1 r1 (itOk_enum sq h1) q⟩⟩
  | _ => exact w1.elim
theorem ix_zip {x : Str} {p0 tpos : Pos} {elts : List Expr} {kk : Nat} (hx : x = "zip") (hg : Gl X x) (hm : X.mg x = none) (ha : EX X G W Φ a p) (hb : EX X G W Φ b q) (hs : notStar a = true) (hs2 : notStar b = true) :
    IX X G W Φ (.Tuple elts kk tpos) (.Call (.Name x p0) [a, b] [] pos) (.zip p q) := by
  obtain ⟨t, P, R⟩ := ha
  obtain ⟨t2, P2, R2⟩ := hb
  subst hx
  have e2 : starEach [b] X.env = [(false, eval b X.env)] := star_cons hs2
  refine ⟨_, RZ.pi_zipA hg hm (pa_cons P (pa_cons P2 pa_nil (star_cons hs2)) (star_cons hs)) (star_cons hs) (star_plain (by simp [hs2])), fun m σ H ρ S Q E Kv r0 re w k kx => ?_⟩
  simp only [wpI] at w
  refine R m σ H ρ S _ E _ r0 re w (fun m1 H1 x v S1 e1 r1 hx w1 => ?_) kx
  refine R2 m1 σ H1 ρ S1 _ E _ r1 (re.ext e1) w1 (fun m2 H2 y v2 S2 e2 r2 hy w2 => ?_) (kx.ext e1)
  have hx := RepV.ext e2 _ _ hx
  cases hx with
  | @tup a xs vs a1 a2 =>
    cases hy with
    | @tup b ys ws b1 b2 => exact ⟨a, b, xs, ys, rfl, .inr ⟨a1.sq, b1.sq, k m2 H2 _ _ _ S2 (e1.trans e2) r2 (itOk_zipT a1.sq a2 b1.sq b2) w2⟩⟩
    | _ => exact w2.elim
  | @ref a i h1 =>
    cases hy with
    | @ref b j h2 =>
      obtain ⟨o, u, e, f, sq, su, q⟩ := w2
      obtain ⟨xs, g1, g2⟩ := r2.sql e sq h1
      obtain ⟨ys, k1, k2⟩ := r2.sql f su h2
      exact ⟨a, b, xs, ys, rfl, .inl ⟨g1, k1, k m2 H2 _ _ _ S2 (e1.trans e2) r2 (itOk_zip sq su h1 h2) q⟩⟩
    | _ => exact w2.elim
  | _ => exact w2.elim
/-! ### targets: a name, a tuple of names -/
def RfG (X : Cx) (b : Bool) (g : TG) (tg : Tg) : Prop :=
  ∀ m σ H ρ S v (pv : PV) Q (Kv : L2.St → Hp → Prop), RlS X.K m H S → RlE X.K m H σ ρ → RepB X.K b H m v pv → bindQ tg pv ρ S Q →
    (∀ σ' ρ', RlE X.K m H σ' ρ' → (∀ is : List Nat, (∀ i, i ∈ (match tg with | .nm i => [i] | .tp is => is) → i ∈ is) → L2.wipe σ' is = L2.wipe σ is) → Q ρ' → Kv σ' H) → g v σ H Kv
def GX (X : Cx) (e : Expr) (tg : Tg) : Prop := ∃ g, PG X e g ∧ RfG X (tupB e) g tg
theorem wipe_set {i : Nat} {x : Option V} : ∀ {σ : L2.St} {is : List Nat}, i ∈ is → L2.wipe (σ.set i x) is = L2.wipe σ is
  | σ, j :: is, h => by
    unfold L2.wipe
    by_cases hj : i = j
    · subst hj
      by_cases hi : i ∈ is
      · rw [wipe_set hi]
      · have comm : ∀ js : List Nat, i ∉ js → L2.wipe (σ.set i x) js = (L2.wipe σ js).set i x := fun js => by
          induction js with
          | nil => intro _; rfl
          | cons k js ih =>
            intro hk
            unfold L2.wipe
            rw [ih (fun z => hk (List.mem_cons_of_mem _ z)), List.set_comm]
            exact fun z => hk (by simp [z])
        rw [comm is hi, List.set_set]
    · rw [wipe_set (by simpa [hj] using h)]
theorem gx_name {i : Nat} {x : Str} (hN : X.N.Nodup) (hi : X.N[i]? = some x) (hx : Loc X.env.scope x) (hf : X.fn x = true ∨ X.env.scope.names.lookup x = some .local) : GX X (.Name x pos) (.nm i) :=
  ⟨_, pg_name hN hi hx hf, fun m σ H ρ S v pv Q Kv r re hv w k => k _ _ (re.set hv i) (fun is h => wipe_set (h i (by simp))) w⟩
/-- names one after another -/
def NmOk (X : Cx) : List Expr → List Nat → Prop
  | [], [] => True
  | .Name x _ :: es, i :: is => X.N[i]? = some x ∧ Loc X.env.scope x ∧ (X.fn x = true ∨ X.env.scope.names.lookup x = some .local) ∧ NmOk X es is
  | _, _ => False
theorem gxs_names (hN : X.N.Nodup) : ∀ {es : List Expr} {is : List Nat}, NmOk X es is → ∃ g, PGs X es g ∧ (assignEach es X.env).length = is.length ∧ (assignEach es X.env).findIdx? (·.1) = none ∧
    ∀ m σ H ρ S vs (pvs : List PV) (Kv : L2.St → Hp → Prop), RlS X.K m H S → RlE X.K m H σ ρ → RepL X.K H m vs pvs → pvs.length = is.length →
      (∀ σ', RlE X.K m H σ' (setAll is pvs ρ) → (∀ js : List Nat, (∀ i, i ∈ is → i ∈ js) → L2.wipe σ' js = L2.wipe σ js) → Kv σ' H) → g vs σ H Kv
  | [], [], _ => ⟨_, pgs_nil, rfl, rfl, fun m σ H ρ S vs pvs Kv r re hv hl k => by
      cases hv with
      | nil => exact ⟨rfl, k σ re fun _ _ => rfl⟩
      | cons _ _ => cases hl⟩
  | .Name x ps :: es, i :: is, ⟨h1, h2, h3, h4⟩ => by
    obtain ⟨g, P, hl, hf, R⟩ := gxs_names hN h4
    refine ⟨_, pgs_cons (pg_name hN h1 h2 h3) P rfl, by show (assignEach es X.env).length + 1 = is.length + 1; rw [hl], ?_, fun m σ H ρ S vs pvs Kv r re hv hl k => ?_⟩
    · show List.findIdx? (·.1) ((false, assign (.Name x ps) X.env) :: assignEach es X.env) = none
      rw [List.findIdx?_cons]
      simp [hf]
    · cases hv with
      | nil => cases hl
      | @cons v vr pv pvr hv hvr =>
        refine ⟨v, vr, rfl, ?_⟩
        refine R m _ H _ S vr pvr Kv r (re.set hv i) hvr (by simpa using hl) fun σ' re' hw => k σ' re' fun js hj => ?_
        rw [hw js fun j hj' => hj j (List.mem_cons_of_mem _ hj')]
        exact wipe_set (hj i List.mem_cons_self)
/-- either of two readings -/
theorem pg_or {e : Expr} {t u : TG} (h : PG X e t) (h2 : PG X e u) : PG X e (fun v σ H Q => t v σ H Q ∨ u v σ H Q) :=
  ⟨fun pins s σ H v x Q I r w => w.elim (fun w => h.run pins s σ H v x Q I r w) fun w => h2.run pins s σ H v x Q I r w⟩
theorem gx_tup {is : List Nat} {kk : Nat} (hc : X.calm = true) (hN : X.N.Nodup) (h : NmOk X es is) : GX X (.Tuple es kk pos) (.tp is) := by
  obtain ⟨g, P, hl, hf, R⟩ := gxs_names hN h
  refine ⟨_, pg_or (pg_tup hc P hl hf) (pg_lst hc P hl hf), fun m σ H ρ S v pv Q Kv r re hv w k => ?_⟩
  rcases hv with hv | ⟨a, xs, vs, rfl, rfl, h1, h2⟩
  rotate_left
  · obtain ⟨hlen, w⟩ := w
    exact .inl ⟨a, xs, rfl, h1, by rw [h2.len]; exact hlen, R m σ H ρ S xs vs _ r re h2 hlen fun σ' re' hw => k σ' _ re' (fun js hj => hw js hj) w⟩
  cases hv with
  | @tup a xs vs h1 h2 =>
    obtain ⟨hlen, w⟩ := w
    exact .inl ⟨a, xs, rfl, h1.sq, by rw [h2.len]; exact hlen, R m σ H ρ S xs vs _ r re h2 hlen fun σ' re' hw => k σ' _ re' (fun js hj => hw js hj) w⟩
  | @ref a i h1 =>
    obtain ⟨o, e, sq, hlen, w⟩ := w
    obtain ⟨xs, g1, g2⟩ := r.sql e sq h1
    exact .inr ⟨a, xs, rfl, g1, by rw [g2.len]; exact hlen, R m σ H ρ S xs o.items _ r re g2 hlen fun σ' re' hw => k σ' _ re' (fun js hj => hw js hj) w⟩
  | _ => exact w.elim
end
end Pv
set_option Elab.async false
set_option linter.all false
set_option maxRecDepth 100000
set_option maxHeartbeats 1000000
/-! Pv7: list comprehensions. -/
namespace Pv
open PySem PySem.Spec PyProof.Rows L2

/-- the readings that hang on the meaning alone -/
def tCan (K : PySem.W.Frag) (mg : Str → Option Value) (G : GT) (W : WX) (p : Env → Store → PQ → PX → Prop) : TE := fun σ H Kv =>
  ∃ m ρ S Q E, RlS K m H S ∧ RlE K m H σ ρ ∧ p ρ S Q E ∧ KE K m H Q Kv ∧ KX K mg G m H E (fun c d H' => W c d σ H')
def tCanT (K : PySem.W.Frag) (mg : Str → Option Value) (G : GT) (W : WX) (p : Env → Store → (Bool → Store → Prop) → PX → Prop) : TT := fun σ H Kv =>
  ∃ m ρ S Q E, RlS K m H S ∧ RlE K m H σ ρ ∧ p ρ S Q E ∧ (∀ m' H' k S', Ext K m H m' H' → RlS K m' H' S' → Q k S' → Kv k H') ∧ KX K mg G m H E (fun c d H' => W c d σ H')
def tgIx : Tg → List Nat
  | .nm i => [i]
  | .tp is => is
def gCan (K : PySem.W.Frag) (b : Bool) (tg : Tg) : TG := fun v σ H Kv =>
  ∃ m ρ S pv Q, RlS K m H S ∧ RlE K m H σ ρ ∧ RepB K b H m v pv ∧ bindQ tg pv ρ S Q ∧
    (∀ σ' ρ', RlE K m H σ' ρ' → (∀ is : List Nat, (∀ i, i ∈ tgIx tg → i ∈ is) → L2.wipe σ' is = L2.wipe σ is) → Q ρ' → Kv σ' H)
section
variable {X : Cx} {G : GT} {W : WX} {Φ : Call} {e tgE elt iter : Expr} {p : IE} {tg : Tg} {pos : Pos}
theorem EX.can (h : EX X G W Φ e p) : PE X e (tCan X.K X.mg G W (wpE Φ p)) := by
  obtain ⟨t, P, R⟩ := h
  exact ⟨fun pins s σ H Q I ⟨m, ρ, S, Q', E, h1, h2, h3, h4, h5⟩ => P.run pins s σ H Q I (R m σ H ρ S Q' E Q h1 h2 h3 h4 h5)⟩
theorem TX.can (h : TX X G W Φ e p) : PT X e (tCanT X.K X.mg G W (wpT Φ p)) := by
  obtain ⟨t, P, R⟩ := h
  exact ⟨fun pins s σ H Q I ⟨m, ρ, S, Q', E, h1, h2, h3, h4, h5⟩ => P.run pins s σ H Q I (R m σ H ρ S Q' E Q h1 h2 h3 h4 h5)⟩
theorem GX.can (h : GX X e tg) : PG X e (gCan X.K (tupB e) tg) := by
  obtain ⟨t, P, R⟩ := h
  refine ⟨fun pins s σ H v u Q I r ⟨m, ρ, S, pv, Q', h1, h2, h3, h4, h5⟩ => P.run pins s σ H v u Q I r (R m σ H ρ S v pv Q' Q h1 h2 h3 h4 fun σ' ρ' a b c => h5 σ' ρ' a (fun is hi => b is ?_) c)⟩
  cases tg <;> exact hi
/-- a comprehension's tests: none, or one -/
def PTsX (X : Cx) (G : GT) (W : WX) (Φ : Call) (ifs : List Expr) (ps : IEs) : Prop := PTs X ifs (tCanT X.K X.mg G W (wpTs Φ ps))
theorem ptsx_nil : PTsX X G W Φ [] .nil := ⟨fun pins s σ H Q I ⟨m, ρ, S, Q', E, h1, h2, h3, h4, h5⟩ => pts_nil.run pins s σ H Q I (h4 m H true S Ext.refl h1 (by simpa only [wpTs] using h3))⟩
theorem ptsx_one (h : TX X G W Φ e p) : PTsX X G W Φ [e] (.cons p .nil) :=
  ⟨fun pins s σ H Q I ⟨m, ρ, S, Q', E, h1, h2, h3, h4, h5⟩ => by
    simp only [wpTs] at h3
    refine (pts_one h.can).run pins s σ H Q I ⟨m, ρ, S, _, E, h1, h2, h3, fun m' H' k S' e r q => ?_, h5⟩
    cases k with
    | true => simp only [if_true] at q; exact h4 m' H' true S' e r q
    | false => simp only [Bool.false_eq_true, if_false] at q; exact h4 m' H' false S' e r q⟩
theorem wipe_sub (σ : L2.St) (vs : List Nat) : ∀ us : List Nat, (∀ i, i ∈ us → i ∈ vs) → L2.wipe (L2.wipe σ us) vs = L2.wipe σ vs
  | [], _ => rfl
  | u :: us, h => by
    show L2.wipe ((L2.wipe σ us).set u none) vs = _
    rw [wipe_set (h u List.mem_cons_self), wipe_sub σ vs us fun i hi => h i (List.mem_cons_of_mem _ hi)]
theorem wipe_wipe (σ : L2.St) (vs : List Nat) : L2.wipe (L2.wipe σ vs) vs = L2.wipe σ vs := wipe_sub σ vs vs fun _ h => h
abbrev WN : WX := fun _ _ _ _ => False
theorem rf_lc {it : II} {pif : IEs} {own : List (Str × Nat)} {wi : TI} (hsub : ∀ i, i ∈ tgIx tg → i ∈ own.map (·.2)) {b : Bool} (Ri : RfI X G W b wi (wpI Φ it)) :
    RfE X G W (tLc wi (gCan X.K b tg) (tCanT X.K X.mg G WN (wpTs Φ pif)) (tCan X.K X.mg G WN (wpE Φ p)) (own.map (·.2))) (wpE Φ (.lc (own.map (·.2)) tg it pif p)) := by
  intro m σ H ρ S Q E Kv r0 re w k kx
  simp only [wpE] at w
  refine Ri m σ H ρ S _ E _ r0 re w (fun m1 H1 J src items S1 e1 r1 io w1 => ?_) kx
  intro D hD
  have eN : Ext X.K m1 H1 (m1 ++ [D]) (upd H1 D (.lst [])) := Ext.newL _ hD
  have rN : RlS X.K (m1 ++ [D]) (upd H1 D (.lst [])) (S1 ++ [.lst []]) := r1.newL hD .nil
  have hDd : (m1 ++ [D])[S1.length]? = some D := by rw [← r1.len]; exact get_last
  generalize htn : (fun (x : PV) (S2 : Store) (K : Option PV → Store → Prop) => bindQ tg x (wipeP ρ (own.map (·.2))) S2 fun ρ1 => wpTs Φ pif ρ1 S2 (fun k S3 =>
        if k = true then wpE Φ p ρ1 S3 (fun y S4 => K (some y) S4) (fun _ _ => False) else K none S3) (fun _ _ => False)) = turn at w1
  refine ⟨fun n mm Hh => ∃ m2 S2, Ext X.K (m1 ++ [D]) (upd H1 D (.lst [])) m2 Hh ∧ RlS X.K m2 Hh S2 ∧ mm = items.length - n ∧ n ≤ items.length ∧ lcLoop src S1.length turn Q (items.drop n) S2, ⟨items.length, m1 ++ [D], S1 ++ [.lst []], Ext.refl, rN, by simp, Nat.zero_le _, by simpa using w1⟩, ?_⟩
  rintro n mm Hh ⟨m2, S2, e2, r2, rfl, hn, w2⟩
  have io2 := io n m2 Hh S2 (eN.trans e2) r2
  by_cases hlt : n < items.length
  · right
    rw [List.drop_eq_getElem_cons hlt] at w2
    simp only [lcLoop] at w2
    obtain ⟨so, w2⟩ := w2
    obtain ⟨go, yld⟩ := (io2 so).2 items[n] (List.getElem?_eq_getElem hlt)
    refine ⟨go, fun H' => ∃ m3 S3, Ext X.K (m1 ++ [D]) (upd H1 D (.lst [])) m3 H' ∧ RlS X.K m3 H' S3 ∧ lcLoop src S1.length turn Q (items.drop (n + 1)) S3, fun H' ⟨m3, S3, a, b, c⟩ => ⟨items.length - (n + 1), by omega, m3, S3, a, b, rfl, hlt, c⟩, fun x H' hy => ?_⟩
    obtain ⟨e3, r3, hx⟩ := yld x H' hy
    rw [← htn] at w2
    have re3 : RlE X.K m2 H' σ ρ := re.ext ((e1.trans (eN.trans e2)).trans e3)
    refine ⟨m2, wipeP ρ (own.map (·.2)), S2, items[n], _, r3, re3.wipe _, hx, w2, fun σ' ρ' re' hw q => ⟨?_, ?_⟩⟩
    · rw [hw (own.map (·.2)) hsub]
      exact wipe_wipe σ _
    refine ⟨m2, ρ', S2, _, _, r3, re', q, fun m4 H4 kk S4 e4 r4 q4 => ?_, fun _ _ _ _ _ _ _ _ _ z => z.elim⟩
    have e24 := e2.trans (e3.trans e4)
    cases kk with
    | false =>
      simp only [Bool.false_eq_true, if_false] at q4 ⊢
      exact ⟨m4, S4, e24, r4, by rw [← htn]; exact q4⟩
    | true =>
      simp only [if_true] at q4 ⊢
      refine ⟨m4, ρ', S4, _, _, r4, re'.ext e4, q4, fun m5 H5 y py S5 e5 r5 hy5 q5 => ?_, fun _ _ _ _ _ _ _ _ _ z => z.elim⟩
      obtain ⟨acc, ha, hz, q5⟩ := q5
      have e25 := e24.trans e5
      have hD5 : m5[S1.length]? = some D := e25.at hDd
      obtain ⟨a', accV, h1, h2, h3⟩ := r5.at ha
      rw [hD5] at h1
      cases h1
      have ep : Ext X.K m5 H5 m5 (upd H5 D (.lst (accV ++ [y]))) := Ext.put h2
      exact ⟨accV, h2, by rw [h3.len]; exact hz, m5, S5.set S1.length (.lst (acc ++ [py])), e25.trans ep, r5.put ha hD5 h2 (h3.append (.cons hy5 .nil)), by rw [← htn]; exact q5⟩
  · left
    have hn2 : n = items.length := by omega
    subst hn2
    rw [List.drop_length] at w2
    simp only [lcLoop] at w2
    obtain ⟨so, w2⟩ := w2
    refine ⟨(io2 so).1 (Nat.le_refl _), ?_⟩
    exact k m2 Hh _ _ S2 (e1.trans (eN.trans e2)) r2 (.ref (e2.at hDd)) w2
theorem rf_dc {it : II} {pif : IEs} {q : IE} {own : List (Str × Nat)} {wi : TI} (hsub : ∀ i, i ∈ tgIx tg → i ∈ own.map (·.2)) {b : Bool} (Ri : RfI X G W b wi (wpI Φ it)) :
    RfE X G W (tDc wi (gCan X.K b tg) (tCanT X.K X.mg G WN (wpTs Φ pif)) (tCan X.K X.mg G WN (wpE Φ p)) (tCan X.K X.mg G WN (wpE Φ q)) (own.map (·.2))) (wpE Φ (.dc (own.map (·.2)) tg it pif p q)) := by
  intro m σ H ρ S Q E Kv r0 re w k kx
  simp only [wpE] at w
  refine Ri m σ H ρ S _ E _ r0 re w (fun m1 H1 J src items S1 e1 r1 io w1 => ?_) kx
  intro D hD
  have eN : Ext X.K m1 H1 (m1 ++ [D]) (upd H1 D (.dK [])) := Ext.newL _ hD
  have rN : RlS X.K (m1 ++ [D]) (upd H1 D (.dK [])) (S1 ++ [.dct []]) := r1.newO (o := .dct []) hD ⟨[], upd_same, .nil⟩
  have hDd : (m1 ++ [D])[S1.length]? = some D := by rw [← r1.len]; exact get_last
  generalize htn : (fun (x : PV) (S2 : Store) (K : Option (Key × PV) → Store → Prop) => bindQ tg x (wipeP ρ (own.map (·.2))) S2 fun ρ1 => wpTs Φ pif ρ1 S2 (fun k S3 =>
        if k = true then wpE Φ p ρ1 S3 (fun y S4 => wpE Φ q ρ1 S4 (fun z S5 => ∃ kk, keyOf y = some kk ∧ K (some (kk, z)) S5) (fun _ _ => False)) (fun _ _ => False) else K none S3) (fun _ _ => False)) = turn at w1
  refine ⟨fun n mm Hh => ∃ m2 S2, Ext X.K (m1 ++ [D]) (upd H1 D (.dK [])) m2 Hh ∧ RlS X.K m2 Hh S2 ∧ mm = items.length - n ∧ n ≤ items.length ∧ dcLoop src S1.length turn Q (items.drop n) S2, ⟨items.length, m1 ++ [D], S1 ++ [.dct []], Ext.refl, rN, by simp, Nat.zero_le _, by simpa using w1⟩, ?_⟩
  rintro n mm Hh ⟨m2, S2, e2, r2, rfl, hn, w2⟩
  have io2 := io n m2 Hh S2 (eN.trans e2) r2
  by_cases hlt : n < items.length
  · right
    rw [List.drop_eq_getElem_cons hlt] at w2
    simp only [dcLoop] at w2
    obtain ⟨so, w2⟩ := w2
    obtain ⟨go, yld⟩ := (io2 so).2 items[n] (List.getElem?_eq_getElem hlt)
    refine ⟨go, fun H' => ∃ m3 S3, Ext X.K (m1 ++ [D]) (upd H1 D (.dK [])) m3 H' ∧ RlS X.K m3 H' S3 ∧ dcLoop src S1.length turn Q (items.drop (n + 1)) S3, fun H' ⟨m3, S3, a, b, c⟩ => ⟨items.length - (n + 1), by omega, m3, S3, a, b, rfl, hlt, c⟩, fun x H' hy => ?_⟩
    obtain ⟨e3, r3, hx⟩ := yld x H' hy
    rw [← htn] at w2
    have re3 : RlE X.K m2 H' σ ρ := re.ext ((e1.trans (eN.trans e2)).trans e3)
    refine ⟨m2, wipeP ρ (own.map (·.2)), S2, items[n], _, r3, re3.wipe _, hx, w2, fun σ' ρ' re' hw q => ⟨?_, ?_⟩⟩
    · rw [hw (own.map (·.2)) hsub]
      exact wipe_wipe σ _
    refine ⟨m2, ρ', S2, _, _, r3, re', q, fun m4 H4 kk S4 e4 r4 q4 => ?_, fun _ _ _ _ _ _ _ _ _ z => z.elim⟩
    have e24 := e2.trans (e3.trans e4)
    cases kk with
    | false =>
      simp only [Bool.false_eq_true, if_false] at q4 ⊢
      exact ⟨m4, S4, e24, r4, by rw [← htn]; exact q4⟩
    | true =>
      simp only [if_true] at q4 ⊢
      refine ⟨m4, ρ', S4, _, _, r4, re'.ext e4, q4, fun m5 H5 y py S5 e5 r5 hy5 q5 => ?_, fun _ _ _ _ _ _ _ _ _ z => z.elim⟩
      refine ⟨m5, ρ', S5, _, _, r5, (re'.ext e4).ext e5, q5, fun m6 H6 z pz S6 e6 r6 hz6 q6 => ?_, fun _ _ _ _ _ _ _ _ _ z => z.elim⟩
      obtain ⟨kk, hk, kvs, ha, hz, q6⟩ := q6
      have e26 := (e24.trans e5).trans e6
      have hD6 : m6[S1.length]? = some D := e26.at hDd
      obtain ⟨a', ys, h1, h2, h3⟩ := r6.dct ha
      rw [hD6] at h1
      cases h1
      have ep : Ext X.K m6 H6 m6 (upd H6 D (.dK (putK ys kk z))) := Ext.putO h2 (.dK _)
      exact ⟨ys, kk, rep_key hy5 hk, h2, by rw [h3.len]; exact hz, m6, S6.set S1.length (.dct (putP kvs kk pz)), e26.trans ep, r6.putD ha hD6 h2 (h3.put hz6), by rw [← htn]; exact q6⟩
  · left
    have hn2 : n = items.length := by omega
    subst hn2
    rw [List.drop_length] at w2
    simp only [dcLoop] at w2
    obtain ⟨so, w2⟩ := w2
    refine ⟨(io2 so).1 (Nat.le_refl _), ?_⟩
    exact k m2 Hh _ _ S2 (e1.trans (eN.trans e2)) r2 (.ref (e2.at hDd)) w2
/-- tuple(range(n)) -/
theorem ex_tupR {a : Expr} {x y : Str} {p0 p1 p2 : Pos} (hx : x = "tuple") (hy : y = "range") (hc : X.calm = true) (hg : Gl X x) (hm : X.mg x = none) (hg2 : Gl X y) (hm2 : X.mg y = none) (ha : EX X G W Φ a p) (hs : notStar a = true) :
    EX X G W Φ (.Call (.Name x p0) [.Call (.Name y p1) [a] [] p2] [] pos) (.tupR p) := by
  subst hx hy
  obtain ⟨ta, Pa, Ra⟩ := ha
  refine ⟨_, pe_tupRgP hc hg hm (prg_1 hg2 hm2 Pa (na := star_cons hs)), fun m σ H ρ S Q E Kv r0 re w k kx => ?_⟩
  simp only [wpE] at w
  refine Ra m σ H ρ S _ E _ r0 re w (fun m1 H1 x v S1 e1 r1 hx w1 => ?_) kx
  obtain ⟨i, rfl, h1, h2, q⟩ := w1
  cases hx
  refine ⟨i, rfl, ⟨by omega, by omega, by omega, by omega, by omega⟩, ?_⟩
  refine (k.ext e1).newT r1 ?_ q
  unfold rgV rngL
  have : ∀ l : List Nat, RepL X.K H1 m1 (l.map fun i => V.int (0 + (i : Nat))) (l.map fun (k : Nat) => PV.int (0 + k)) := by
    intro l
    induction l with
    | nil => exact .nil
    | cons a l ih => exact .cons (.int _) ih
  exact this _
end
end Pv
set_option Elab.async false
set_option linter.all false
set_option maxRecDepth 100000
set_option maxHeartbeats 1000000
/-! Pv7x: dict displays, get, reversed lists. -/
namespace Pv
open PySem PySem.Spec PyProof.Rows L2
section
variable {X : Cx} {G : GT} {W : WX} {Φ : Call} {C : CC} {e a b c : Expr} {p q r : IE} {pos : Pos} {es rest : List Expr} {ps : IEs}
theorem RepL.reverse {K : PySem.W.Frag} {H : Hp} {m : List Addr} {xs : List V} {vs : List PV} (h : RepL K H m xs vs) : RepL K H m xs.reverse vs.reverse := by
  induction h using RepL.rec (motive_1 := fun _ _ _ => True) with
  | nil => exact .nil
  | cons a t _ ih => rw [List.reverse_cons, List.reverse_cons]; exact ih.append (.cons a .nil)
  | _ => trivial
theorem ex_rev {k : Nat} {p1 p2 p3 : Pos} (ha : EX X G W Φ a p) : EX X G W Φ (.Subscript a (.Slice none none (some (.UnaryOp .USub (.Constant (.int 1) k p1) p2)) p3) pos) (.rev p) := by
  obtain ⟨ta, Pa, Ra⟩ := ha
  refine ⟨_, pe_revA Pa, fun m σ H ρ S Q E Kv r0 re w k kx => ?_⟩
  simp only [wpE] at w
  refine Ra m σ H ρ S _ E _ r0 re w (fun m1 H1 x v S1 e1 r1 hx w1 => ?_) kx
  cases hx with
  | @ref a i h1 =>
    obtain ⟨o, e, sq, q⟩ := w1
    obtain ⟨xs, g1, g2⟩ := r1.sql e sq h1
    exact ⟨a, xs, rfl, .inl ⟨g1, fun p n => (k.ext e1).newL r1 g2.reverse q n⟩⟩
  | @tup a xs vs h1 h2 =>
    exact ⟨a, xs, rfl, .inr ⟨h1.sq, (k.ext e1).newT r1 h2.reverse w1⟩⟩
  | _ => exact w1.elim
/-! displays -/
def cKs : List (Option Expr) → Option (List Key)
  | [] => some []
  | some (.Constant (.int i) _ _) :: r => (cKs r).map (.inl i :: ·)
  | some (.Constant (.str x) _ _) :: r => (cKs r).map (.inr x :: ·)
  | _ => none
def RfP (X : Cx) (G : GT) (W : WX) (ks : List Key) (trs : List (TE × TE)) (p : Env → Store → (List PV → Store → Prop) → PX → Prop) : Prop :=
  ∀ m σ H ρ S Q E (Kv : List (V × V) → Hp → Prop), RlS X.K m H S → RlE X.K m H σ ρ → p ρ S Q E →
    (∀ m' H' vs pvs S', Ext X.K m H m' H' → RlS X.K m' H' S' → RepL X.K H' m' vs pvs → Q pvs S' → Kv (List.zipWith (fun k v => (kV k, v)) ks vs) H') → KX X.K X.mg G m H E (fun c d H' => W c d σ H') → tPairs trs σ H Kv
theorem pps_one {trs : List (TE × TE)} {k : Key} {ks : List Key} {ek : Expr} {ks' : List (Option Expr)} (hk : PE X ek (tC (kV k))) (ha : EX X G W Φ a p) (hr : PPs X pos ks' es trs) (R : RfP X G W ks trs (wpEs Φ ps)) :
    ∃ trs', PPs X pos (some ek :: ks') (a :: es) trs' ∧ RfP X G W (k :: ks) trs' (wpEs Φ (.cons p ps)) := by
  obtain ⟨ta, Pa, Ra⟩ := ha
  refine ⟨_, pps_cons hk Pa hr, fun m σ H ρ S Q E Kv r0 re w k kx => ?_⟩
  simp only [wpEs] at w
  refine Ra m σ H ρ S _ E _ r0 re w (fun m1 H1 x v S1 e1 r1 hx w1 => ?_) kx
  refine R m1 σ H1 ρ S1 _ E _ r1 (re.ext e1) w1 (fun m2 H2 vs pvs S2 e2 r2 hx2 w2 => ?_) (kx.ext e1)
  exact k m2 H2 (x :: vs) (v :: pvs) S2 (e1.trans e2) r2 (.cons (RepV.ext e2 _ _ hx) hx2) w2
theorem pps_of {f : Expr → Option IE} (hf : ∀ e p, f e = some p → EX X G W Φ e p) : ∀ {ks' : List (Option Expr)} {ks : List Key} {es : List Expr} {ps : List IE}, cKs ks' = some ks → es.length = ps.length → (∀ (i : Nat) (e : Expr) (p : IE), es[i]? = some e → ps[i]? = some p → f e = some p) → ks'.length = es.length →
    ∃ trs, PPs X pos ks' es trs ∧ RfP X G W ks trs (wpEs Φ (ps.foldr .cons .nil))
  | [], ks, [], [], hk, _, _, _ => by
    cases hk
    exact ⟨[], pps_nil, fun m σ H ρ S Q E Kv r0 re w k kx => by simp only [List.foldr, wpEs] at w; exact k m H [] [] S Ext.refl r0 .nil w⟩
  | [], _, _ :: _, _, _, _, _, h => by cases h
  | _ :: _, _, [], _, _, _, _, h => by cases h
  | _, _, [], _ :: _, _, h, _, _ => by cases h
  | _, _, _ :: _, [], _, h, _, _ => by cases h
  | ek :: ks', ks, e :: es, p :: ps, hk, hl, he, hl2 => by
    have key : ∃ k e0 ks2, ek = some e0 ∧ PE X e0 (tC (kV k)) ∧ cKs ks' = some ks2 ∧ ks = k :: ks2 := by
      unfold cKs at hk
      split at hk
      · rename_i h; cases h
      · rename_i i j ps' r h
        cases h
        simp only [Option.map_eq_some_iff] at hk
        obtain ⟨ks2, h1, rfl⟩ := hk
        exact ⟨.inl i, _, ks2, rfl, pe_int, h1, rfl⟩
      · rename_i i j ps' r h
        cases h
        simp only [Option.map_eq_some_iff] at hk
        obtain ⟨ks2, h1, rfl⟩ := hk
        exact ⟨.inr i, _, ks2, rfl, pe_str, h1, rfl⟩
      · cases hk
    obtain ⟨k, e0, ks2, rfl, pk, h1, rfl⟩ := key
    obtain ⟨trs, P, R⟩ := pps_of hf (es := es) (ps := ps) h1 (by simpa using hl) (fun i e p h1 h2 => he (i + 1) e p (by simpa using h1) (by simpa using h2)) (by simpa using hl2)
    exact pps_one pk (hf e p (he 0 e p rfl rfl)) P R
def toL : IEs → List IE
  | .nil => []
  | .cons p ps => p :: toL ps
theorem toL_foldr : ∀ ps : IEs, (toL ps).foldr .cons .nil = ps
  | .nil => rfl
  | .cons p ps => by show IEs.cons p ((toL ps).foldr .cons .nil) = _; rw [toL_foldr ps]
theorem repD_mk {K : PySem.W.Frag} {H : Hp} {m : List Addr} : ∀ {ks : List Key} {vs : List V} {pvs : List PV} {acc : List (Key × V)} {accP : List (Key × PV)}, RepL K H m vs pvs → RepD K H m acc accP →
    RepD K H m (mergeK acc (List.zipWith (fun k v => (k, v)) ks vs)) (mkD ks pvs accP)
  | [], vs, pvs, _, _, h, g => by cases h <;> exact g
  | _ :: _, [], _, _, _, h, g => by cases h; exact g
  | k :: ks, v :: vs, _, _, _, .cons (v := pv) (vs := pvs) h t, g => repD_mk (ks := ks) t (g.put h)
theorem ex_dct0 : EX X G W Φ (.Dict [] [] pos) (.dct [] .nil) := by
  refine ⟨_, pe_dnewK, fun m σ H ρ S Q E Kv r0 re w k kx p n => ?_⟩
  simp only [wpE, wpEs, mkD] at w
  have e : Ext X.K m H (m ++ [p]) (upd H p (.dK [])) := Ext.newL _ n
  obtain ⟨_, _, w⟩ := w
  rw [List.set_append_right _ _ (Nat.le_refl _), Nat.sub_self, List.set_cons_zero] at w
  exact k (m ++ [p]) _ _ _ _ e (r0.newO (o := .dct []) n ⟨[], upd_same, .nil⟩) (.ref (by rw [← r0.len]; exact get_last)) w
theorem ex_dct {ks' : List (Option Expr)} {ks : List Key} {trs : List (TE × TE)} (hP : PPs X pos ks' es trs) (R : RfP X G W ks trs (wpEs Φ ps)) (hall : ks'.all (·.isSome) = true) (hl : ks'.length = es.length) (h0 : ks' ≠ []) (h15 : ks'.length ≤ 15) (hk : ks.length = ks'.length) :
    EX X G W Φ (.Dict ks' es pos) (.dct ks ps) := by
  refine ⟨_, pe_disp hP hall hl h0 h15, fun m σ H ρ S Q E Kv r0 re w k kx p n => ?_⟩
  simp only [wpE] at w
  have e : Ext X.K m H (m ++ [p]) (upd H p (.dK [])) := Ext.newL _ n
  have r1 : RlS X.K (m ++ [p]) (upd H p (.dK [])) (S ++ [.dct []]) := r0.newO n ⟨[], upd_same, .nil⟩
  refine R _ σ _ ρ _ _ E _ r1 (re.ext e) w (fun m2 H2 vs pvs S2 e2 r2 hx w2 => ?_) (kx.ext e)
  obtain ⟨w1, w2, w3⟩ := w2
  have hp : m2[S.length]? = some p := e2.at (by rw [← r0.len]; exact get_last)
  obtain ⟨a, xs, g1, g2, g3⟩ := r2.dct w1
  rw [hp] at g1
  cases g1
  cases g3
  refine ⟨g2, List.zipWith (fun k v => (k, v)) ks vs, ?_, ?_, ?_⟩
  · rw [List.map_zipWith]
  · rw [List.length_zipWith]; omega
  · have ep : Ext X.K m2 H2 m2 (upd H2 p (.dK (mergeK [] (List.zipWith (fun k v => (k, v)) ks vs)))) := Ext.putO g2 (.dK _)
    exact k m2 _ _ _ _ ((e.trans e2).trans ep) (r2.putD w1 hp g2 (repD_mk hx .nil)) (.ref hp) w3
/-! d.get(k, x) -/
theorem ex_get2 {o : Expr} {po : IE} {apos : Pos} (hu : X.A.units + 190 < cLine) (ho : EX X G W Φ o po) (ha : EX X G W Φ a p) (hb : EX X G W Φ b q) (hs : notStar a = true) (hs2 : notStar b = true) (hbase : attributeBase o "get" X.env (eval o X.env) = eval o X.env) (hline : (apos.endLine == pos.line) = true) :
    EX X G W Φ (.Call (.Attribute o "get" apos) [a, b] [] pos) (.get2 po p q) := by
  obtain ⟨to, Po, Ro⟩ := ho
  obtain ⟨ta, Pa, Ra⟩ := ha
  obtain ⟨tb, Pb, Rb⟩ := hb
  have st : starEach [a, b] X.env = [(false, eval a X.env), (false, eval b X.env)] := by rw [star_cons hs, star_cons hs2]; rfl
  have few : ((backTo pos (starEach [a, b] X.env)).all (fun x => !x.1) && (backToKw pos (keywordEach [] X.env)).all (fun x => x.1.isSome)
      && decide ([a, b].length + ([] : List Keyword).length + (if ([] : List Keyword).isEmpty then 0 else 1) < 30)) = true := by rw [st]; rfl
  refine ⟨_, pe_dget2 (by omega) Po Pa Pb ⟨hbase, few, hline, by rw [st]; rfl⟩, fun m σ H ρ S Q E Kv r0 re w k kx => ?_⟩
  simp only [wpE] at w
  refine Ro m σ H ρ S _ E _ r0 re w (fun m1 H1 x v S1 e1 r1 hx w1 => ?_) kx
  obtain ⟨hd, w1⟩ := w1
  cases hx with
  | @ref d i h1 =>
    obtain ⟨kvs, hk⟩ := hd
    obtain ⟨d', xs, g1, g2, g3⟩ := r1.dct hk
    rw [h1] at g1
    cases g1
    refine ⟨d, rfl, .inl ⟨xs, .inl g2⟩, ?_⟩
    refine Ra m1 σ H1 ρ S1 _ E _ r1 (re.ext e1) w1 (fun m2 H2 y w S2 e2 r2 hy w2 => ?_) (kx.ext e1)
    refine Rb m2 σ H2 ρ S2 _ E _ r2 (re.ext (e1.trans e2)) w2 (fun m3 H3 z u S3 e3 r3 hz w3 => ?_) (kx.ext (e1.trans e2))
    obtain ⟨kvs3, kk, hk3, ek, w3⟩ := w3
    obtain ⟨d', xs3, l1, l2, l3⟩ := r3.dct hk3
    rw [(e2.trans e3).at h1] at l1
    cases l1
    have ey : y = kV kk := rep_key hy ek
    subst ey
    refine ⟨_, DGet.k l2, ?_⟩
    have e13 := (e1.trans e2).trans e3
    rcases l3.get (k := kk) with ⟨z1, z2⟩ | ⟨z', zv, z1, z2, z3⟩
    · rw [z1] at w3; rw [z2]; exact k m3 H3 _ _ S3 e13 r3 hz w3
    · rw [z1] at w3; rw [z2]; exact k m3 H3 _ _ S3 e13 r3 z3 w3
  | _ => exact hd.elim
end
end Pv
set_option Elab.async false
set_option linter.all false
set_option maxRecDepth 100000
set_option maxHeartbeats 1000000
/-! Pv7t: dicts with tuple keys. -/
namespace Pv
open PySem PySem.Spec PyProof.Rows L2
section
variable {X : Cx} {G : GT} {W : WX} {Φ : Call} {C : CC} {e a b c o : Expr} {p q r : IE} {pos : Pos} {es rest : List Expr} {ps : IEs}
theorem repL_keys {K : PySem.W.Frag} {H : Hp} {m : List Addr} : ∀ {xs : List V} {ws : List PV} {ks : List Key}, RepL K H m xs ws → keysT ws = some ks → xs = ks.map kV
  | _, _, ks, .nil, e => by simp [keysT] at e; subst e; rfl
  | x :: xs, w :: ws, ks, .cons h t, e => by
    simp only [keysT, Option.bind_eq_some_iff, Option.map_eq_some_iff] at e
    obtain ⟨k, hk, ks', hks, rfl⟩ := e
    rw [repL_keys t hks, rep_key h hk]
    rfl
/-- {}, to be a dict with tuple keys -/
theorem ex_dctE : EX X G W Φ (.Dict [] [] pos) .dctE := by
  refine ⟨_, pe_dnewT, fun m σ H ρ S Q E Kv r0 re w k kx p n => ?_⟩
  simp only [wpE] at w
  exact k (m ++ [p]) _ _ _ _ (Ext.newL _ n) (r0.newO (o := .dctT []) n ⟨[], upd_same, .nil⟩) (.ref (by rw [← r0.len]; exact get_last)) w
/-- what the dict holds at a key -/
theorem tget_at {m : List Addr} {H : Hp} {S : Store} {x : V} {v : PV} {xs : List V} {ws : List PV} {R : Option PV → Prop} {p : Addr} (r : RlS X.K m H S) (hx : RepV X.K H m x v) (hk : RepL X.K H m xs ws) (hp : H p = some (.tup xs)) (q : tgetQ v ws S R) :
    ∃ (a : Addr) (oy : Option V) (ov : Option PV), x = .ref a ∧ DGet H a (.ref p) oy ∧ R ov ∧ ((ov = none ∧ oy = none) ∨ ∃ z y, ov = some z ∧ oy = some y ∧ RepV X.K H m y z) := by
  cases hx with
  | @ref a i h1 =>
    obtain ⟨kvs, ks, hS, hks, q⟩ := q
    obtain ⟨a', zs, g1, g2, g3⟩ := r.dctT hS
    rw [h1] at g1
    cases g1
    have e2 : H p = some (.tup (ks.map kV)) := by rw [hp, repL_keys hk hks]
    refine ⟨a, valV zs ks, getP kvs ks, rfl, DGet.t g2 e2, q, ?_⟩
    rcases g3.get (k := ks) with ⟨z1, z2⟩ | ⟨z', y, z1, z2, z3⟩
    · exact .inl ⟨z1, z2⟩
    · exact .inr ⟨z', y, z1, z2, z3⟩
  | _ => exact q.elim
theorem tup_cont {m : List Addr} {H : Hp} {S : Store} {σ : L2.St} {ρ : Env} {p : Addr} {u : HO} (r : RlS X.K m H S) (re : RlE X.K m H σ ρ) (n : H p = none) : RlS X.K m (upd H p u) S ∧ RlE X.K m (upd H p u) σ ρ :=
  ⟨r.new u n, re.ext (Ext.new u n)⟩
/-- d[(e, ..)] -/
theorem ex_idxT {x1 : Nat} {p1 : Pos} (hu : X.A.units + 190 < cLine) (ha : EX X G W Φ a p) (h : AX X G W Φ es ps) (hs : NoSl (.Tuple es x1 p1)) : EX X G W Φ (.Subscript a (.Tuple es x1 p1) pos) (.idxT p ps) := by
  obtain ⟨ta, Pa, Ra⟩ := ha
  obtain ⟨t, P, R⟩ := h
  refine ⟨_, pe_dget (by omega) Pa (pe_tup P) hs, fun m σ H ρ S Q E Kv r0 re w k kx => ?_⟩
  simp only [wpE] at w
  refine Ra m σ H ρ S _ E _ r0 re w (fun m1 H1 x v S1 e1 r1 hx w1 => ?_) kx
  refine R m1 σ H1 ρ S1 _ E _ r1 (re.ext e1) w1 (fun m2 H2 xs ws S2 e2 r2 hk w2 => ?_) (kx.ext e1)
  refine ⟨by rw [hk.len]; exact w2.1, fun p n => ?_⟩
  have en := Ext.new (K := X.K) (m := m2) (.tup xs) n
  have r3 := r2.new (.tup xs) n
  obtain ⟨b, oy, ov, ex, hg, ⟨z, hz, q⟩, hov⟩ := tget_at r3 (RepV.ext (e2.trans en) v x hx) (RepL.ext en _ _ hk) upd_same w2.2
  rcases hov with ⟨h1, _⟩ | ⟨z', y, h1, h2, h3⟩
  · rw [h1] at hz; cases hz
  · rw [h1] at hz; cases hz
    rw [h2] at hg
    exact ⟨b, y, ex, hg, k m2 _ y z _ ((e1.trans e2).trans en) r3 h3 q⟩
/-- an expression that changes nothing -/
def SXE (X : Cx) (Φ : Call) (e : Expr) (p : IE) : Prop := ∃ t, PE X e t ∧ ∀ m σ H ρ S Q E (Kv : VK), RlS X.K m H S → RlE X.K m H σ ρ → wpE Φ p ρ S Q E → (∀ x v, RepV X.K H m x v → Q v S → Kv x H) → t σ H Kv
theorem se_var {x : Str} {i : Nat} (hN : X.N[i]? = some x) (hv : Vis X.env.scope x) (h1 : (x == ("__debug__" : Str)) = false) (h2 : (x == ("__classdict__" : Str)) = false) : SXE X Φ (.Name x pos) (.var i) := by
  refine ⟨_, pe_var hN hv h1 h2, fun m σ H ρ S Q E Kv r re w k => ?_⟩
  simp only [wpE, varQ] at w
  split at w
  · rename_i v hv
    obtain ⟨x, h1, h2⟩ := re.2 _ _ hv
    exact ⟨x, h1, k _ _ h2 w⟩
  · exact w.elim
theorem se_attr {xs : List Str} {f : Str} (ok : ObjOkC X G Φ) (hf : ∀ x, x ∈ xs → (x, f) ∈ G.flds) (ha : SXE X Φ o p) (hb : attributeBase o f X.env (eval o X.env) = eval o X.env) : SXE X Φ (.Attribute o f pos) (.attr xs f p) := by
  obtain ⟨t, P, R⟩ := ha
  refine ⟨_, pe_fld P hb, fun m σ H ρ S Q E Kv r0 re w k => ?_⟩
  simp only [wpE] at w
  refine R m σ H ρ S _ _ _ r0 re w fun v pv hv q1 => ?_
  cases hv with
  | @ref l i h1 =>
    obtain ⟨x, fs, z, hS, hxs, hz, q1⟩ := q1
    obtain ⟨l', D, dx, ys, g1, g2, g3, g4⟩ := r0.ins hS
    rw [h1] at g1
    cases g1
    obtain ⟨D', hD, cl, na⟩ := ok.fld x f (hf x hxs)
    rw [g2] at hD
    cases hD
    obtain ⟨y, hy, ry⟩ := g4.some hz
    exact ⟨l, D, dx, ys, y, rfl, g3, cl, na, hy, k _ _ ry q1⟩
  | _ => exact q1.elim
/-- (e, ..) in d -/
theorem ex_inT {x1 : Nat} {p1 : Pos} (hu : X.A.units + 190 < cLine) (ha : SXE X Φ a p) (h : AX X G W Φ es ps) (hm : behindInMarks .In a = false) : EX X G W Φ (.Compare (.Tuple es x1 p1) [.In] [a] pos) (.inT false ps p) ∧ TX X G W Φ (.Compare (.Tuple es x1 p1) [.In] [a] pos) (.inT false ps p) := by
  obtain ⟨ta, Pa, Ra⟩ := ha
  obtain ⟨t, P, R⟩ := h
  constructor
  · refine ⟨_, pe_cmp (pc_din (by omega) (pe_tup P) Pa) hm, fun m σ H ρ S Q E Kv r0 re w k kx => ?_⟩
    simp only [wpE] at w
    refine R m σ H ρ S _ E _ r0 re w (fun m2 H2 xs ws S2 e2 r2 hk w2 => ?_) kx
    refine ⟨by rw [hk.len]; exact w2.1, fun p n => ?_⟩
    obtain ⟨r3, re3⟩ := tup_cont (u := .tup xs) r2 (re.ext e2) n
    have en := Ext.new (K := X.K) (m := m2) (.tup xs) n
    refine Ra m2 σ _ ρ S2 _ E _ r3 re3 w2.2 fun x v hx q => ?_
    obtain ⟨b, oy, ov, ex, hg, q, hov⟩ := tget_at r3 hx (RepL.ext en _ _ hk) upd_same q
    have e : oy.isSome = ov.isSome := by rcases hov with ⟨h1, h2⟩ | ⟨z', y, h1, h2, h3⟩ <;> rw [h1, h2] <;> rfl
    refine ⟨b, oy, ex, hg, ?_⟩
    rw [e]
    exact k m2 _ (.bl _) (.bl _) _ (e2.trans en) r3 (.bl _) (by simpa using q)
  · refine ⟨_, pt_cmp (pc_din (by omega) (pe_tup P) Pa) hm, fun m σ H ρ S Q E Kv r0 re w k kx => ?_⟩
    simp only [wpT] at w
    refine R m σ H ρ S _ E _ r0 re w (fun m2 H2 xs ws S2 e2 r2 hk w2 => ?_) kx
    refine ⟨by rw [hk.len]; exact w2.1, fun p n => ?_⟩
    obtain ⟨r3, re3⟩ := tup_cont (u := .tup xs) r2 (re.ext e2) n
    have en := Ext.new (K := X.K) (m := m2) (.tup xs) n
    refine Ra m2 σ _ ρ S2 _ E _ r3 re3 w2.2 fun x v hx q => ?_
    obtain ⟨b, oy, ov, ex, hg, q, hov⟩ := tget_at r3 hx (RepL.ext en _ _ hk) upd_same q
    have e : oy.isSome = ov.isSome := by rcases hov with ⟨h1, h2⟩ | ⟨z', y, h1, h2, h3⟩ <;> rw [h1, h2] <;> rfl
    refine ⟨b, oy, ex, hg, ?_⟩
    rw [e]
    exact ⟨_, rfl, k m2 _ _ _ (e2.trans en) r3 (by simpa using q)⟩
/-- (e, ..) not in d -/
theorem ex_notinT {x1 : Nat} {p1 : Pos} (hu : X.A.units + 190 < cLine) (ha : SXE X Φ a p) (h : AX X G W Φ es ps) (hm : behindInMarks .NotIn a = false) : EX X G W Φ (.Compare (.Tuple es x1 p1) [.NotIn] [a] pos) (.inT true ps p) ∧ TX X G W Φ (.Compare (.Tuple es x1 p1) [.NotIn] [a] pos) (.inT true ps p) := by
  obtain ⟨ta, Pa, Ra⟩ := ha
  obtain ⟨t, P, R⟩ := h
  constructor
  · refine ⟨_, pe_cmp (pc_dnotin (by omega) (pe_tup P) Pa) hm, fun m σ H ρ S Q E Kv r0 re w k kx => ?_⟩
    simp only [wpE] at w
    refine R m σ H ρ S _ E _ r0 re w (fun m2 H2 xs ws S2 e2 r2 hk w2 => ?_) kx
    refine ⟨by rw [hk.len]; exact w2.1, fun p n => ?_⟩
    obtain ⟨r3, re3⟩ := tup_cont (u := .tup xs) r2 (re.ext e2) n
    have en := Ext.new (K := X.K) (m := m2) (.tup xs) n
    refine Ra m2 σ _ ρ S2 _ E _ r3 re3 w2.2 fun x v hx q => ?_
    obtain ⟨b, oy, ov, ex, hg, q, hov⟩ := tget_at r3 hx (RepL.ext en _ _ hk) upd_same q
    have e : oy.isSome = ov.isSome := by rcases hov with ⟨h1, h2⟩ | ⟨z', y, h1, h2, h3⟩ <;> rw [h1, h2] <;> rfl
    refine ⟨b, oy, ex, hg, ?_⟩
    rw [e]
    exact k m2 _ (.bl _) (.bl _) _ (e2.trans en) r3 (.bl _) (by simpa using q)
  · refine ⟨_, pt_cmp (pc_dnotin (by omega) (pe_tup P) Pa) hm, fun m σ H ρ S Q E Kv r0 re w k kx => ?_⟩
    simp only [wpT] at w
    refine R m σ H ρ S _ E _ r0 re w (fun m2 H2 xs ws S2 e2 r2 hk w2 => ?_) kx
    refine ⟨by rw [hk.len]; exact w2.1, fun p n => ?_⟩
    obtain ⟨r3, re3⟩ := tup_cont (u := .tup xs) r2 (re.ext e2) n
    have en := Ext.new (K := X.K) (m := m2) (.tup xs) n
    refine Ra m2 σ _ ρ S2 _ E _ r3 re3 w2.2 fun x v hx q => ?_
    obtain ⟨b, oy, ov, ex, hg, q, hov⟩ := tget_at r3 hx (RepL.ext en _ _ hk) upd_same q
    have e : oy.isSome = ov.isSome := by rcases hov with ⟨h1, h2⟩ | ⟨z', y, h1, h2, h3⟩ <;> rw [h1, h2] <;> rfl
    refine ⟨b, oy, ex, hg, ?_⟩
    rw [e]
    exact ⟨_, rfl, k m2 _ _ _ (e2.trans en) r3 (by simpa using q)⟩
end
end Pv
set_option Elab.async false
set_option linter.all false
set_option maxRecDepth 100000
set_option maxHeartbeats 1000000
/-! Pv7d: dicts that are walked, d.setdefault, sorted(d.items()). -/
namespace Pv
open PySem PySem.Spec PyProof.Rows L2 L2.DX
section
variable {X : Cx} {G : GT} {W : WX} {Φ : Call} {T : Tab} {e a b c o tg : Expr} {p q r : IE} {pos : Pos} {es rest : List Expr} {ps : IEs}
theorem Ext.wide {K : PySem.W.Frag} {m : List Addr} {H H1 : Hp} (g : ∀ b o, H b = some o → H1 b = some o) : Ext K m H m H1 := by
  refine ⟨⟨[], by simp⟩, fun b xs q => ?_, fun b xs q => ?_⟩
  · rcases q with ⟨o, q, d⟩ | q
    · exact .inl ⟨o, g _ _ q, d⟩
    · exact .inr q
  · rcases q with (q | ⟨o, q⟩) | q
    · exact .inl (.inl (g _ _ q))
    · exact .inl (.inr ⟨o, g _ _ q⟩)
    · exact .inr q
theorem RlS.wide {K : PySem.W.Frag} {m : List Addr} {H H1 : Hp} {S : Store} (r : RlS K m H S) (g : ∀ b o, H b = some o → H1 b = some o) : RlS K m H1 S :=
  ⟨r.len, fun i u h => let ⟨a, h1, h2⟩ := r.obj i u h; ⟨a, h1, h2.ext (Ext.wide g) fun w e => g _ _ e⟩, r.inj⟩
/-- the local at slot i holds a dict -/
theorem lock_at {K : PySem.W.Frag} {m : List Addr} {H : Hp} {σ : L2.St} {ρ : Env} {S : Store} {i : Nat} {R : Nat → List (Key × PV) → Prop} (r : RlS K m H S) (re : RlE K m H σ ρ) (w : varQ i ρ fun v => lockQ v S R) :
    ∃ (j : Nat) (kvs : List (Key × PV)) (a : Addr) (xs : List (Key × V)), σ[i]? = some (some (.ref a)) ∧ m[j]? = some a ∧ S[j]? = some (.dct kvs) ∧ H a = some (.dK xs) ∧ RepD K H m xs kvs ∧ R j kvs := by
  unfold varQ at w
  split at w
  · rename_i v hv
    obtain ⟨x, h1, h2⟩ := re.2 _ _ hv
    cases h2 with
    | @ref a j h2 =>
      obtain ⟨kvs, hS, w⟩ := w
      obtain ⟨a', xs, g1, g2, g3⟩ := r.dct hS
      rw [h2] at g1
      cases g1
      exact ⟨j, kvs, a, xs, h1, h2, hS, g2, g3, w⟩
    | _ => exact w.elim
  · exact w.elim
theorem open_ext {K : PySem.W.Frag} {m m' : List Addr} {H H' : Hp} {a : Addr} {xs : List (Key × V)} {od : Obj} (ha : H a = some (.dK xs)) (e : Ext K m (upd H a (.frz od (.dK xs))) m' H') (h : H' a = some (.frz od (.dK xs))) : Ext K m H m' (upd H' a (.dK xs)) :=
  (Ext.putO ha (.dK _)).trans (e.trans (Ext.putO h (.dF _ _)))
/-- after the walk -/
theorem open_at {K : PySem.W.Frag} {m m' : List Addr} {H H' : Hp} {S' : Store} {a : Addr} {j : Nat} {xs : List (Key × V)} {kvs : List (Key × PV)} {od : Obj} (hj : m[j]? = some a) (e : Ext K m H m' H') (r : RlS K m' H' S') (h : S'[j]? = some (.dctF kvs (od, xs))) :
    H' a = some (.frz od (.dK xs)) ∧ RlS K m' (upd H' a (.dK xs)) (S'.set j (.dct kvs)) := by
  obtain ⟨a', g1, g2, g3⟩ := r.dctF h
  rw [e.at hj] at g1
  cases g1
  exact ⟨g2, r.unlock h (e.at hj) g2 g3⟩
theorem ex_lock {i : Nat} (ha : EX X G W Φ e p) : EX X G W Φ e (.lock i p) := by
  obtain ⟨t, P, R⟩ := ha
  refine ⟨_, pe_lock P, fun m σ H ρ S Q E Kv r0 re w k kx => ?_⟩
  simp only [wpE] at w
  obtain ⟨j, kvs, a, xs, hs, hj, hS, hH, hd, w⟩ := lock_at r0 re w
  refine ⟨a, .dK xs, hH, trivial, fun od => ?_⟩
  have el : Ext X.K m H m (upd H a (.frz od (.dK xs))) := Ext.putO hH (.dK _)
  refine R m σ _ ρ _ _ E _ (r0.lock hS hj hH hd od) (re.ext el) (w (od, xs)) (fun m' H' x v S' e' r' hv q => ?_) (kx.ext el)
  obtain ⟨h1, r2⟩ := open_at hj e' r' q.1
  exact ⟨h1, k m' _ _ _ _ (open_ext hH e' h1) r2 (RepV.ext (Ext.putO h1 (.dF _ _)) _ _ hv) q.2⟩
/-! what a walk meets -/
theorem repD_ix {K : PySem.W.Frag} {H : Hp} {m : List Addr} : ∀ {xs : List (Key × V)} {vs : List (Key × PV)}, RepD K H m xs vs → ∀ {n : Nat} {p : Key × PV}, vs[n]? = some p → ∃ x, xs[n]? = some (p.1, x) ∧ RepV K H m x p.2
  | _, _, .cons h t, 0, p, e => by
    simp only [List.getElem?_cons_zero, Option.some.injEq] at e
    subst e
    exact ⟨_, rfl, h⟩
  | _, _, .cons h t, n + 1, p, e => by
    simp only [List.getElem?_cons_succ] at e ⊢
    exact repD_ix t e
theorem itOk_items {m : List Addr} {H : Hp} {j : Nat} {a : Addr} {kvs : List (Key × PV)} {g : Obj × List (Key × V)} (hj : m[j]? = some a) : ItOk X.K true (Iti a g.1 g.2) [(j, .dctF kvs g)] (dIts 1 kvs) m H := by
  intro n m2 H2 S2 e r s
  obtain ⟨a', g1, g2, g3⟩ := r.dctF s.1
  rw [e.at hj] at g1
  cases g1
  refine ⟨fun h => ⟨g2, by rw [g3.len]; simpa [dIts] using h⟩, fun p hp => ?_⟩
  simp only [dIts, List.getElem?_map, Option.map_eq_some_iff] at hp
  obtain ⟨kv, hkv, rfl⟩ := hp
  obtain ⟨x, h1, h2⟩ := repD_ix g3 hkv
  refine ⟨⟨g2, (List.getElem?_eq_some_iff.mp h1).1⟩, fun y H3 hy => ?_⟩
  obtain ⟨T, k, v, hx, rfl, hT, rfl⟩ := hy
  rw [h1] at hx
  cases hx
  have e2 : Ext X.K m2 H2 m2 (upd H2 T (.tup [kV kv.1, x])) := Ext.new _ hT
  exact ⟨e2, r.new _ hT, .inr ⟨_, _, _, rfl, rfl, SqT.of upd_same, .cons (rep_keyV _) (.cons (RepV.ext e2 _ _ h2) .nil)⟩⟩
theorem itOk_keys {tb : Bool} {m : List Addr} {H : Hp} {j : Nat} {a : Addr} {kvs : List (Key × PV)} {g : Obj × List (Key × V)} (hj : m[j]? = some a) : ItOk X.K tb (Itk a g.1 g.2) [(j, .dctF kvs g)] (dIts 0 kvs) m H := by
  intro n m2 H2 S2 e r s
  obtain ⟨a', g1, g2, g3⟩ := r.dctF s.1
  rw [e.at hj] at g1
  cases g1
  refine ⟨fun h => ⟨g2, by rw [g3.len]; simpa [dIts, keysP] using h⟩, fun p hp => ?_⟩
  simp only [dIts, keysP, List.getElem?_map, Option.map_eq_some_iff] at hp
  obtain ⟨kv, hkv, rfl⟩ := hp
  obtain ⟨x, h1, h2⟩ := repD_ix g3 hkv
  refine ⟨⟨g2, (List.getElem?_eq_some_iff.mp h1).1⟩, fun y H3 hy => ?_⟩
  obtain ⟨rfl, k, v, hx, rfl⟩ := hy
  rw [h1] at hx
  cases hx
  exact ⟨Ext.refl, r, .of (rep_keyV _)⟩
theorem itOk_dvals {tb : Bool} {m : List Addr} {H : Hp} {j : Nat} {a : Addr} {kvs : List (Key × PV)} {g : Obj × List (Key × V)} (hj : m[j]? = some a) : ItOk X.K tb (Itd a g.1 g.2) [(j, .dctF kvs g)] (dIts 2 kvs) m H := by
  intro n m2 H2 S2 e r s
  obtain ⟨a', g1, g2, g3⟩ := r.dctF s.1
  rw [e.at hj] at g1
  cases g1
  refine ⟨fun h => ⟨g2, by rw [g3.len]; simpa [dIts] using h⟩, fun p hp => ?_⟩
  simp only [dIts, List.getElem?_map, Option.map_eq_some_iff] at hp
  obtain ⟨kv, hkv, rfl⟩ := hp
  obtain ⟨x, h1, h2⟩ := repD_ix g3 hkv
  refine ⟨⟨g2, (List.getElem?_eq_some_iff.mp h1).1⟩, fun y H3 hy => ?_⟩
  obtain ⟨rfl, k, hx⟩ := hy
  rw [h1] at hx
  cases hx
  exact ⟨Ext.refl, r, .of h2⟩
theorem dk_at {K : PySem.W.Frag} {m : List Addr} {H : Hp} {σ : L2.St} {ρ : Env} {S : Store} {i : Nat} {R : Nat → List (Key × PV) → Obj × List (Key × V) → Prop} (r : RlS K m H S) (re : RlE K m H σ ρ) (w : varQ i ρ fun v => dkQ v S R) :
    ∃ (j : Nat) (kvs : List (Key × PV)) (g : Obj × List (Key × V)) (a : Addr), σ[i]? = some (some (.ref a)) ∧ m[j]? = some a ∧ H a = some (.frz g.1 (.dK g.2)) ∧ R j kvs g := by
  unfold varQ at w
  split at w
  · rename_i v hv
    obtain ⟨x, h1, h2⟩ := re.2 _ _ hv
    cases h2 with
    | @ref a j h2 =>
      obtain ⟨kvs, g, hS, w⟩ := w
      obtain ⟨a', g1, g2, g3⟩ := r.dctF hS
      rw [h2] at g1
      cases g1
      exact ⟨j, kvs, g, a, h1, h2, g2, w⟩
    | _ => exact w.elim
  · exact w.elim
/-- for k, v in d.items() -/
theorem ix_items {i : Nat} {x : Str} {p0 apos tpos : Pos} {elts : List Expr} {kk : Nat} (hN : X.N[i]? = some x) (hv : Vis X.env.scope x) (h1 : (x == ("__debug__" : Str)) = false) (h2 : (x == ("__classdict__" : Str)) = false) (hline : (apos.endLine == pos.line) = true) :
    IX X G W Φ (.Tuple elts kk tpos) (.Call (.Attribute (.Name x p0) "items" apos) [] [] pos) (.dk 1 i) := by
  refine ⟨_, pi_items (pe_var hN hv h1 h2) rfl hline, fun m σ H ρ S Q E Kv r0 re w k kx => ?_⟩
  simp only [wpI] at w
  obtain ⟨j, kvs, g, a, hs, hj, hH, w⟩ := dk_at r0 re w
  exact ⟨_, hs, a, g.1, g.2, rfl, hH, k m H _ _ _ S Ext.refl r0 (itOk_items hj) w⟩
/-- for v in d.values() -/
theorem ix_dvals {i : Nat} {x : Str} {p0 apos : Pos} (hN : X.N[i]? = some x) (hv : Vis X.env.scope x) (h1 : (x == ("__debug__" : Str)) = false) (h2 : (x == ("__classdict__" : Str)) = false) (hline : (apos.endLine == pos.line) = true) :
    IX X G W Φ tg (.Call (.Attribute (.Name x p0) "values" apos) [] [] pos) (.dk 2 i) := by
  refine ⟨_, pi_values (pe_var hN hv h1 h2) rfl hline, fun m σ H ρ S Q E Kv r0 re w k kx => ?_⟩
  simp only [wpI] at w
  obtain ⟨j, kvs, g, a, hs, hj, hH, w⟩ := dk_at r0 re w
  exact ⟨_, hs, a, g.1, g.2, rfl, hH, k m H _ _ _ S Ext.refl r0 (itOk_dvals hj) w⟩
/-- for k in d -/
theorem ix_keys {i : Nat} {x : Str} {p0 : Pos} (hN : X.N[i]? = some x) (hv : Vis X.env.scope x) (h1 : (x == ("__debug__" : Str)) = false) (h2 : (x == ("__classdict__" : Str)) = false) :
    IX X G W Φ tg (.Name x p0) (.dk 0 i) := by
  refine ⟨_, pi_keys (pe_var hN hv h1 h2), fun m σ H ρ S Q E Kv r0 re w k kx => ?_⟩
  simp only [wpI] at w
  obtain ⟨j, kvs, g, a, hs, hj, hH, w⟩ := dk_at r0 re w
  exact ⟨_, hs, a, g.1, rfl, .inl ⟨g.2, hH, k m H _ _ _ S Ext.refl r0 (itOk_keys hj) w⟩⟩
/-- d.setdefault(k, x) -/
theorem ex_setd {o : Expr} {po : IE} {apos : Pos} (ho : EX X G W Φ o po) (ha : EX X G W Φ a p) (hb : EX X G W Φ b q) (hs : notStar a = true) (hs2 : notStar b = true) (hbase : attributeBase o "setdefault" X.env (eval o X.env) = eval o X.env) (hline : (apos.endLine == pos.line) = true) :
    EX X G W Φ (.Call (.Attribute o "setdefault" apos) [a, b] [] pos) (.setd po p q) := by
  obtain ⟨to, Po, Ro⟩ := ho
  obtain ⟨ta, Pa, Ra⟩ := ha
  obtain ⟨tb, Pb, Rb⟩ := hb
  have st : starEach [a, b] X.env = [(false, eval a X.env), (false, eval b X.env)] := by rw [star_cons hs, star_cons hs2]; rfl
  have few : ((backTo pos (starEach [a, b] X.env)).all (fun x => !x.1) && (backToKw pos (keywordEach [] X.env)).all (fun x => x.1.isSome)
      && decide ([a, b].length + ([] : List Keyword).length + (if ([] : List Keyword).isEmpty then 0 else 1) < 30)) = true := by rw [st]; rfl
  refine ⟨_, pe_dsetd Po Pa Pb ⟨hbase, few, hline, by rw [st]; rfl⟩, fun m σ H ρ S Q E Kv r0 re w k kx => ?_⟩
  simp only [wpE] at w
  refine Ro m σ H ρ S _ E _ r0 re w (fun m1 H1 x v S1 e1 r1 hx w1 => ?_) kx
  obtain ⟨hd, w1⟩ := w1
  cases hx with
  | @ref d i h1 =>
    obtain ⟨kvs, hk⟩ := hd
    obtain ⟨d', xs, g1, g2, g3⟩ := r1.dct hk
    rw [h1] at g1
    cases g1
    refine ⟨d, rfl, .inl ⟨xs, .inl g2⟩, ?_⟩
    refine Ra m1 σ H1 ρ S1 _ E _ r1 (re.ext e1) w1 (fun m2 H2 y w S2 e2 r2 hy w2 => ?_) (kx.ext e1)
    refine Rb m2 σ H2 ρ S2 _ E _ r2 (re.ext (e1.trans e2)) w2 (fun m3 H3 z u S3 e3 r3 hz w3 => ?_) (kx.ext (e1.trans e2))
    obtain ⟨kvs3, hk3, kk, ek, hl, w3⟩ := w3
    obtain ⟨d', xs3, l1, l2, l3⟩ := r3.dct hk3
    have h3 := (e2.trans e3).at h1
    rw [h3] at l1
    cases l1
    have ey : y = kV kk := rep_key hy ek
    subst ey
    have e13 := (e1.trans e2).trans e3
    refine ⟨xs3, kk, l2, rfl, by rw [l3.len]; exact hl, fun v hv => ?_, fun hv => ?_⟩
    · rcases l3.get (k := kk) with ⟨z1, z2⟩ | ⟨z', zv, z1, z2, z3⟩
      · rw [z2] at hv; cases hv
      · rw [z2] at hv; cases hv
        rw [z1] at w3
        exact k m3 H3 _ _ S3 e13 r3 z3 w3
    · rcases l3.get (k := kk) with ⟨z1, z2⟩ | ⟨z', zv, z1, z2, z3⟩
      · rw [z1] at w3
        have ep : Ext X.K m3 H3 m3 (upd H3 d (.dK (putK xs3 kk z))) := Ext.putO l2 (.dK _)
        exact k m3 _ _ _ _ (e13.trans ep) (r3.putD hk3 h3 l2 (l3.put hz)) (RepV.ext ep _ _ hz) w3
      · rw [z2] at hv; cases hv
  | _ => exact hd.elim
/-- sorted(d.items()) -/
theorem repD_inl {K : PySem.W.Frag} {H : Hp} {m : List Addr} : ∀ {xs : List (Key × V)} {ps : List (Int × PV)}, RepD K H m xs (ps.map fun p => (.inl p.1, p.2)) → ∃ cs : List ((Int × V) × PV), cs.map (fun c => (c.1.1, c.2)) = ps ∧ xs = (cs.map (·.1)).map inlV ∧ ∀ c, c ∈ cs → RepV K H m c.1.2 c.2
  | _, [], h => by cases h; exact ⟨[], rfl, rfl, fun c hc => by cases hc⟩
  | _, p :: ps, h => by
    cases h with
    | @cons _ x _ _ _ h t =>
      obtain ⟨cs, e1, e2, e3⟩ := repD_inl t
      refine ⟨((p.1, x), p.2) :: cs, by rw [List.map_cons, e1], by rw [e2]; rfl, fun c hc => ?_⟩
      rcases List.mem_cons.1 hc with rfl | hc
      · exact h
      · exact e3 c hc
theorem zip_cs {α β γ : Type} : ∀ {bs : List (α × β)} {cs : List (β × γ)}, bs.map (·.2) = cs.map (·.1) → ∃ ds : List ((α × β) × γ), ds.map (·.1) = bs ∧ ds.map (fun d => (d.1.2, d.2)) = cs
  | [], [], _ => ⟨[], rfl, rfl⟩
  | [], _ :: _, h => by simp at h
  | _ :: _, [], h => by simp at h
  | b :: bs, c :: cs, h => by
    simp only [List.map_cons, List.cons.injEq] at h
    obtain ⟨ds, e1, e2⟩ := zip_cs h.2
    exact ⟨(b, c.2) :: ds, by rw [List.map_cons, e1], by rw [List.map_cons, e2, h.1]⟩
theorem ex_sortI {i : Nat} {x y : Str} {p0 p1 p2 apos : Pos} (hy : y = "sorted") (hg : Gl X y) (hm : X.mg y = none) (hc : X.calm = true) (hu : X.A.units + 190 < cLine) (hN : X.N[i]? = some x) (hv : Vis X.env.scope x) (h1 : (x == ("__debug__" : Str)) = false) (h2 : (x == ("__classdict__" : Str)) = false) (hline : (apos.endLine == p2.line) = true) :
    EX X G W Φ (.Call (.Name y p0) [.Call (.Attribute (.Name x p1) "items" apos) [] [] p2] [] pos) (.sortI i) := by
  subst hy
  have P := pe_bm0 (T := "dict") PySem.F.plainAttrs_dict PySem.F.slot_dict_items PySem.F.type_dict_items mt_itemsK (o := .Name x p1) (pe_var hN hv h1 h2) (apos := apos) (cpos := p2) rfl hline
  refine ⟨_, pe_callB (cr_sortItems hc hu) hg hm (by decide +kernel) (pa_cons P pa_nil), fun m σ H ρ S Q E Kv r0 re w k kx => ?_⟩
  simp only [wpE] at w
  obtain ⟨j, kvs, a, xs, hs, hj, hS, hH, hd, ps, rfl, w⟩ := lock_at r0 re w
  obtain ⟨cs, rfl, rfl, hcs⟩ := repD_inl hd
  refine ⟨_, hs, ?_, a, _, rfl, rfl, hH, fun p hp => ?_⟩
  · exact .inr (.inr (.inl ⟨rfl, .inl ⟨_, hH⟩⟩))
  have e1 : Ext X.K m H m (upd H p (itemsO p a)) := Ext.new _ hp
  refine ⟨p, a, cs.map (·.1), rfl, upd_same, by rw [upd_ne (ne_of_none hH hp)]; exact hH, fun H1 bs g hb hbs l hl => ?_⟩
  obtain ⟨ds, rfl, hds⟩ := zip_cs hb
  have e2 : Ext X.K m (upd H p (itemsO p a)) m H1 := Ext.wide g
  have r1 := (r0.new (itemsO p a) hp).wide g
  have hrep := rep_sortPs (K := X.K) (H := H1) (m := m) (cs := ds) fun c hc => ⟨hbs _ (List.mem_map.2 ⟨c, hc, rfl⟩), RepV.ext (e1.trans e2) _ _ (hcs (c.1.2, c.2) (by rw [← hds]; exact List.mem_map.2 ⟨c, hc, rfl⟩))⟩
  have el : ds.map (fun c => (c.1.2.1, c.2)) = cs.map fun c => (c.1.1, c.2) := by rw [← hds, List.map_map]; rfl
  rw [el] at hrep
  exact (k.ext (e1.trans e2)).newL r1 hrep w hl
end
end Pv
set_option Elab.async false
set_option linter.all false
set_option maxRecDepth 100000
set_option maxHeartbeats 4000000
/-! Pv7k: sorted(set(xs)) of a list of ints, max(xs, default=d). -/
namespace L2
open PySem PySem.Spec PyProof.Rows
/-- the object of an empty set -/
abbrev eSet (w : World) : Obj := { cls := .type "set", dict := none, data := .set #[] 0 (.fresh 0 0 (!w.params.followText "set-order")) }
section
variable {P : Program} {w : World} {A : Around} {E : Value → Shared → Prop} {s : Shared}
/-- what set.__init__ leaves -/
def MadeFrom (w : World) (s : Shared) (ns : List Int) (r : Value) (t : Shared) : Prop :=
  r = .none ∧ ∃ h' tk c, t = { s with heap := h', toks := tk } ∧ SetR w h' s.heap.objs.size (fun j => decide (j ∈ ns)) c ∧ c ≤ ns.length ∧ ∀ b o, s.heap.get? b = some o → h'.get? b = some o
set_option maxHeartbeats 8000000 in
/-- the walk of set.__init__ over a list -/
theorem init_list {l : Addr} {its : Array Value} {ns : List Int} (hh : A.handled = none) (hl : s.heap.IsList l its) (hi : IntsAre its.toList ns) (hb : ns.length + 1 < scanBound) :
    codeAny (model P w) A (.builtin "set.update.loop" ⟨[.ref s.heap.objs.size, .ref (s.heap.push (eSet w)).objs.size], []⟩)
      (fun r t => r = .ok (.ret .none) ∧ MadeFrom w s ns .none t) { s with heap := (s.heap.push (eSet w)).push { cls := .type "list_iterator", data := .fields #[.ref l, .int 0 0] } } := by
  have hn : its.size = ns.length := by have q := IntsAre.length hi; rwa [Array.length_toList] at q
  have z1 : (s.heap.push (eSet w)).objs.size = s.heap.objs.size + 1 := Heap.size_push ..
  have hlt : l < s.heap.objs.size := by obtain ⟨o, ho, _⟩ := hl; exact Heap.lt_size ho
  have hl1 := hl.push (eSet w)
  have hne : l ≠ (s.heap.push (eSet w)).objs.size := by rw [z1]; exact Nat.ne_of_lt (Nat.lt_succ_of_lt hlt)
  have val : ∀ (i : Nat) (v : Value), its[i]? = some v → ∃ k t, ns[i]? = some k ∧ v = .int k t := fun i v hv => by
    obtain ⟨hi', _⟩ := Array.getElem?_eq_some_iff.mp hv
    obtain ⟨t, e⟩ := PyProof.Rows.IntsAre.int_at hi i v (by rw [Array.getElem?_toList]; exact hv)
    have hk : i < ns.length := hn ▸ hi'
    refine ⟨_, t, List.getElem?_eq_getElem hk, e.trans ?_⟩
    rw [List.getD_eq_getElem?_getD, List.getElem?_eq_getElem hk]
    rfl
  refine set_update_ints ((Walks.list (A := A.in1) hh (s.heap.push (eSet w)).objs.size l hne its).toS) s.heap.objs.size ?_ ns hn hb val (its.size - 0) 0 _ (by omega) (Nat.zero_le _)
    ⟨⟨_, Heap.get?_push_size _ rfl, rfl, rfl⟩, hl1.push _⟩ ?_ fun t c hm hc hS => ?_
  · simp only [List.mem_cons, List.not_mem_nil, or_false, not_or]
    exact ⟨by rw [z1]; exact Nat.ne_of_lt (Nat.lt_succ_self _), (Nat.ne_of_lt hlt).symm⟩
  · exact ⟨0, Nat.le_refl 0, setR_new_at (Heap.get?_push_of_some _ (Heap.get?_push_size _ rfl))⟩
  · obtain ⟨h', g, d, tk, os⟩ := t
    have e1 : g = s.gens := hm.gens
    have e2 : d = s.drawn := hm.drawn
    have e3 : os = s.os := hm.os
    subst e1 e2 e3
    refine ⟨rfl, rfl, h', tk, c, rfl, hS, by omega, fun b o hbo => hm.heap b o ?_ (Heap.get?_push_of_some _ (Heap.get?_push_of_some _ hbo))⟩
    have hbl := Heap.lt_size hbo
    simp only [List.mem_cons, List.not_mem_nil, or_false, not_or]
    exact ⟨Nat.ne_of_lt hbl, by rw [z1]; exact Nat.ne_of_lt (Nat.lt_succ_of_lt hbl)⟩
set_option maxRecDepth 100000 in
set_option maxHeartbeats 8000000 in
theorem call_set_lstI {l : Addr} {its : Array Value} {ns : List Int} {Q : Value → Shared → Prop} (hh : A.handled = none) (hl : s.heap.IsList l its) (hi : IntsAre its.toList ns) (hb : ns.length + 1 < scanBound)
    (h : ∀ t, MadeFrom w s ns .none t → Q (.ref s.heap.objs.size) t) : wpAny (model P w) A (call (.type "set") [.ref l]) Q E s := by
  obtain ⟨_, _, mro⟩ := F.called_set.mro
  have made := F.called_set.made
  have isub := F.called_set.sub
  have a1 := F.called_set.notType
  have a2 := F.called_set.canCreate
  have a3 := F.typeCall_set_1 (.ref l)
  refine wpAny_call (codeAny_of_tree ?_)
  show wpAny _ _ (callAny (.type "set") ⟨_, []⟩) _ _ _
  refine wpAny_pure ⟨Code.quiet_builtin _ (by decide +kernel), codeAny_builtin F.entry_type_call ?_⟩
  rw [Around.under_plain (weight_type_call_type "set" [.ref l] []) rfl]
  repeat (any_goals (first | assumption | wp_step))
  refine codeAny_mono (code_set_led1 (.ref l) (E := E) (Q₁ := fun r t => r = .ref s.heap.objs.size ∧ t = { s with heap := s.heap.push (eSet w) }) ⟨rfl, rfl⟩) fun r t hr => ?_
  match r, hr with
  | .error e, hr => exact hr
  | .ok (.ret r), hr =>
    obtain ⟨rfl, rfl⟩ := hr
    have hO : (s.heap.push (eSet w)).get? s.heap.objs.size = some (eSet w) := Heap.get?_push_size _ rfl
    have hT : Shared.TypeIs { s with heap := s.heap.push (eSet w) } (.ref s.heap.objs.size) "set" := ⟨_, hO, rfl⟩
    have b1 := F.called_set.init.lookup
    have b2 := F.called_set.init.bind (.ref s.heap.objs.size)
    repeat (any_goals (first | assumption | wp_step))
    refine codeAny_mono (codeAny_call_builtin (R := wants (MadeFrom w s ns) E) F.called_set.init.plain F.entry_set_init (check_set_init_1 hT ?_)) fun r t hr => ?_
    · obtain ⟨⟨oc, od, odt, os⟩, g1, g2, n, g3⟩ := hl
      simp only at g2 g3
      subst g2 g3
      have g4 : (s.heap.push (eSet w)).get? l = some { cls := .type "list", dict := od, data := .seq its n, slots := os } := Heap.get?_push_of_some _ g1
      have c1 := F.sub_list_set
      have c2 := F.sub_list_frozenset
      have c3 : (Value.type "list" == Value.type "dict") = false := by decide
      have hl0 : s.heap.IsList l its := ⟨_, g1, rfl, n, rfl⟩
      have hl1 : (s.heap.push (eSet w)).IsList l its := ⟨_, g4, rfl, n, rfl⟩
      unfold Builtin.«set.__init__» noKeywords Builtin.Frozenset.updateFrom
      generalize hPI : pyIter = PI
      wp_walk
      subst hPI
      refine wpAny_pyIter_list hl1 ?_
      refine wpAny_bind (wpAny_runValue ?_)
      refine codeAny_mono (init_list (P := P) (A := A.in1.in1) (s := s) hh hl0 hi hb) fun r t hr => ?_
      obtain ⟨rfl, hm⟩ := hr
      show wpAny _ _ _ _ _ _
      refine wpAny_pure ?_
      show wpAny _ _ (ret Value.none) _ _ _
      exact wpAny_pure hm
    · match r, hr with
      | .error e, hr => exact hr
      | .ok (.ret r), hr =>
        have hr' : r = .none := hr.1
        subst hr'
        repeat (any_goals (first | assumption | wp_step))
        exact h _ hr
      | .ok .next, hr => exact hr.elim
      | .ok .brk, hr => exact hr.elim
      | .ok .cont, hr => exact hr.elim
  | .ok .next, hr => exact hr.elim
  | .ok .brk, hr => exact hr.elim
  | .ok .cont, hr => exact hr.elim
end
end L2

namespace L2
open PySem PySem.Spec PyProof.Rows
section
variable {X : Cx}
/-- set(xs) of ints -/
def rSetI (K : PySem.W.Frag) (w : World) : List V → Hp → VK → Prop := fun vs H Q => ∃ (a : Addr) (ns : List Int), vs = [V.ref a] ∧ (SqL K H a (ns.map V.int) ∨ SqT K H a (ns.map V.int)) ∧ ns.length < 64 ∧
  ∀ (p : Addr) (c : Nat), H p = none → c ≤ ns.length → Q (.ref p) (upd H p (SetO w p (fun j => decide (j ∈ ns)) c))
theorem cr_setI (hc : X.calm = true) : CallR X (.type "set") (rSetI X.K X.w) := by
  intro pins s σ H vs us Q I r h
  obtain ⟨a, ns, rfl, hs, h64, q⟩ := h
  rw [Vals.ref1 r]
  have hn : H s.heap.objs.size = none := I.hok.fresh (Nat.le_refl _)
  have hb : ns.length + 1 < scanBound := by unfold scanBound; omega
  rcases hs with hs | hs
  · obtain ⟨its, rv, pl, _⟩ := I.list hs
    refine call_set_lstI (I.ok.hd hc) pl.isList (ns := ns) (by simpa using rv.ints) hb fun t ht => ?_
    obtain ⟨_, h', tk, c, rfl, R, hcn, hk⟩ := ht
    exact ⟨.ref s.heap.objs.size, _, I.laid (t' := tk) hk (Nat.le_refl _) (setO_new R), rfl, q _ _ hn hcn⟩
  · obtain ⟨its, rv, pt, _⟩ := I.tuple hs
    refine call_set_tupI ns (I.ok.hd hc) (show s.heap.IsTuple a its.toArray from pt) (by simpa using rv.ints) hb fun h' tk c R hcn hk => ?_
    exact ⟨.ref s.heap.objs.size, _, I.laid (t' := tk) hk (Nat.le_refl _) (setO_new R), rfl, q _ _ hn hcn⟩
/-- max(xs, default=d) of ints -/
def rMaxDf (K : PySem.W.Frag) : List V → List V → Hp → VK → Prop := fun vs zs H Q => ∃ (a : Addr) (ns : List Int) (z : V), vs = [V.ref a] ∧ zs = [z] ∧ SqL K H a (ns.map V.int) ∧
  (ns = [] → Q z H) ∧ ∀ m, m ∈ ns → (∀ y, y ∈ ns → y ≤ m) → Q (.int m) H
theorem alikeAll_intsK (ns : List Int) : PySem.W.AlikeAll (ns.map PyData.int) := by
  refine ⟨fun x hx y hy => ?_, fun x hx => ?_⟩
  · obtain ⟨i, _, rfl⟩ := List.mem_map.1 hx
    obtain ⟨j, _, rfl⟩ := List.mem_map.1 hy
    rfl
  · obtain ⟨i, _, rfl⟩ := List.mem_map.1 hx
    intro h; cases h
theorem readsAll_ints {h : Heap} : ∀ {vs : List Value} {ns : List Int}, IntsAre vs ns → ReadsAll h vs (ns.map PyData.int) []
  | _, _, .nil => .nil
  | _, _, .cons n t h => .cons (as := []) (bs := []) (.int _ _) (readsAll_ints h)
theorem foldl_max_spec : ∀ (l : List Int) (n : Int), (l.foldl max n = n ∨ l.foldl max n ∈ l) ∧ n ≤ l.foldl max n ∧ ∀ y, y ∈ l → y ≤ l.foldl max n
  | [], n => ⟨.inl rfl, Int.le_refl _, fun y hy => by cases hy⟩
  | i :: l, n => by
    obtain ⟨h1, h2, h3⟩ := foldl_max_spec l (max n i)
    refine ⟨?_, by simp only [List.foldl_cons]; omega, fun y hy => ?_⟩
    · simp only [List.foldl_cons]
      rcases h1 with h1 | h1
      · rw [h1]
        rcases Int.le_total n i with g | g
        · exact .inr (by rw [Int.max_eq_right g]; exact .head _)
        · exact .inl (Int.max_eq_left g)
      · exact .inr (.tail _ h1)
    · simp only [List.foldl_cons]
      rcases List.mem_cons.1 hy with rfl | hy
      · omega
      · exact h3 y hy
theorem cr_maxD (hc : X.calm = true) (hu : X.A.units + 190 < cLine) : CallRK X (.builtin "max") [Str.ofString "default"] (rMaxDf X.K) := by
  intro pins s σ H vs zs us ws Q I r1 r2 h
  obtain ⟨a, ns, z, rfl, rfl, hs, q0, q⟩ := h
  obtain ⟨its, rv, hl, _⟩ := I.list hs
  rw [Vals.ref1 r1]
  cases r2 with
  | @cons _ u _ _ rz r2 =>
    cases r2
    have hd : PyData.depthAll (ns.map PyData.int) = 0 := by rw [PySem.W.depth_ints]
    refine PySem.W.max_list_default (I.ok.hd hc) hl.isList (readsAll_ints (by simpa using rv.ints)) (alikeAll_intsK ns) (by omega) (fun e h' tk hk => ?_) fun y ys i v h' tk bs e hv hr hk => ?_
    · have e2 : ns = [] := by simpa using e
      exact ⟨z, H, I.kept hk, rz, q0 e2⟩
    · cases ns with
      | nil => cases e
      | cons n ns =>
        simp only [List.map_cons, List.cons.injEq] at e
        obtain ⟨rfl, rfl⟩ := e
        rw [PySem.W.maxD_ints] at hr
        cases hr
        obtain ⟨h1, h2, h3⟩ := foldl_max_spec ns n
        refine ⟨.int _, H, I.kept hk, ⟨_, rfl⟩, q _ ?_ fun y hy => ?_⟩
        · rcases h1 with h1 | h1
          · rw [h1]; exact .head _
          · exact .tail _ h1
        · rcases List.mem_cons.1 hy with rfl | hy
          · exact h2
          · exact h3 y hy
end
end L2

namespace Pv
open PySem PySem.Spec PyProof.Rows L2
theorem maxL_ne (n : Int) : ∀ ns : List Int, maxL (n :: ns) ≠ none
  | [] => by simp [maxL]
  | j :: r => by simp [maxL, maxL_ne j r]
theorem insU_mem (i : Int) : ∀ (l : List Int) (k : Int), k ∈ insU i l ↔ k = i ∨ k ∈ l
  | [], k => by simp [insU]
  | j :: r, k => by
    unfold insU
    split
    · simp
    · split
      · rename_i h; subst h; simp
      · simp only [List.mem_cons, insU_mem i r k]
        constructor
        · rintro (h | h | h) <;> simp [h]
        · rintro (h | h | h) <;> simp [h]
theorem sortU_mem : ∀ (l : List Int) (k : Int), k ∈ sortU l ↔ k ∈ l
  | [], k => by simp [sortU]
  | i :: r, k => by simp [sortU, insU_mem, sortU_mem r k]
theorem insU_sorted (i : Int) : ∀ l : List Int, l.Pairwise (· < ·) → (insU i l).Pairwise (· < ·)
  | [], _ => by simp [insU]
  | j :: r, h => by
    obtain ⟨h1, h2⟩ := List.pairwise_cons.1 h
    unfold insU
    split
    · rename_i g
      refine List.pairwise_cons.2 ⟨fun k hk => ?_, h⟩
      rcases List.mem_cons.1 hk with rfl | hk
      · exact g
      · exact Int.lt_trans g (h1 k hk)
    · split
      · exact h
      · rename_i g1 g2
        refine List.pairwise_cons.2 ⟨fun k hk => ?_, insU_sorted i r h2⟩
        rcases (insU_mem i r k).1 hk with rfl | hk
        · omega
        · exact h1 k hk
theorem sortU_sorted : ∀ l : List Int, (sortU l).Pairwise (· < ·)
  | [] => .nil
  | i :: r => insU_sorted i _ (sortU_sorted r)
theorem lt_uniq : ∀ {l r : List Int}, l.Pairwise (· < ·) → r.Pairwise (· < ·) → (∀ k, k ∈ l ↔ k ∈ r) → l = r
  | [], [], _, _, _ => rfl
  | [], j :: r, _, _, h => by have := (h j).2 (.head _); cases this
  | i :: l, [], _, _, h => by have := (h i).1 (.head _); cases this
  | i :: l, j :: r, h1, h2, h => by
    obtain ⟨a1, a2⟩ := List.pairwise_cons.1 h1
    obtain ⟨b1, b2⟩ := List.pairwise_cons.1 h2
    have e : i = j := by
      rcases List.mem_cons.1 ((h i).1 (.head _)) with e | m
      · exact e
      · rcases List.mem_cons.1 ((h j).2 (.head _)) with e | m'
        · exact e.symm
        · have := a1 j m'; have := b1 i m; omega
    subst e
    refine congrArg _ (lt_uniq a2 b2 fun k => ⟨fun m => ?_, fun m => ?_⟩)
    · rcases List.mem_cons.1 ((h k).1 (.tail _ m)) with rfl | m'
      · exact absurd (a1 k m) (Int.lt_irrefl _)
      · exact m'
    · rcases List.mem_cons.1 ((h k).2 (.tail _ m)) with rfl | m'
      · exact absurd (b1 k m) (Int.lt_irrefl _)
      · exact m'
section
variable {X : Cx} {G : GT} {W : WX} {Φ : Call} {T : Tab} {e a b c o tg : Expr} {p q r : IE} {pos : Pos} {es rest : List Expr} {ps : IEs}
/-- sorted(set(xs)) -/
theorem ex_sortS {x y : Str} {p0 p1 p2 : Pos} (hx : x = "sorted") (hy : y = "set") (hc : X.calm = true) (hg : Gl X x) (hm : X.mg x = none) (hg2 : Gl X y) (hm2 : X.mg y = none) (ha : EX X G W Φ a p) (hs : notStar a = true) :
    EX X G W Φ (.Call (.Name x p0) [.Call (.Name y p1) [a] [] p2] [] pos) (.sortS p) := by
  subst hx hy
  obtain ⟨ta, Pa, Ra⟩ := ha
  have P := pe_callTy (p := p1) (pos := p2) (cr_setI hc) hg2 hm2 PyProof.Rows.boot_set (pa_cons Pa pa_nil (star_cons hs)) (he := star_cons hs)
  refine ⟨_, pe_callB (p := p0) (pos := pos) (cr_sortedSet hc) hg hm (by decide +kernel) (pa_cons P pa_nil), fun m σ H ρ S Q E Kv r0 re w k kx => ?_⟩
  simp only [wpE] at w
  refine Ra m σ H ρ S _ E _ r0 re w (fun m1 H1 x v S1 e1 r1 hx w1 => ?_) kx
  obtain ⟨a, xs, vs, rfl, hr, ⟨ns, en, hl, q⟩, hh⟩ := seq_of r1 hx w1
  have ex : xs = ns.map V.int := ints_rep hr en
  subst ex
  show rSetI X.K X.w [V.ref a] H1 fun y H2 => rSortedSet X.w [y] H2 Kv
  refine ⟨a, ns, rfl, hh.elim (fun h => .inr h.1.sq) (fun h => .inl h.1), hl, fun p c hp hcn => ?_⟩
  refine ⟨p, _, c, rfl, upd_same, by omega, fun ks l h1 h2 h3 hl => ?_⟩
  have ek : ks = sortU ns := lt_uniq h1 (sortU_sorted ns) fun k => by rw [h2, sortU_mem]; simp
  subst ek
  have e2 : Ext X.K m1 H1 m1 (upd H1 p (SetO X.w p (fun j => decide (j ∈ ns)) c)) := Ext.new _ hp
  exact (k.ext (e1.trans e2)).newL (r1.new _ hp) (rep_ints _) q hl
/-- max(xs, default=d) -/
theorem ex_maxD {x kw : Str} {p0 kp : Pos} {b : Expr} (hx : x = "max") (hk : kw = "default") (hc : X.calm = true) (hu : X.A.units + 190 < cLine) (hg : Gl X x) (hm : X.mg x = none) (ha : EX X G W Φ a p) (hs : notStar a = true) (hb : EX X G W Φ b q) :
    EX X G W Φ (.Call (.Name x p0) [a] [⟨some kw, b, kp⟩] pos) (.maxD p q) := by
  subst hx hk
  obtain ⟨ta, Pa, Ra⟩ := ha
  obtain ⟨tb, Pb, Rb⟩ := hb
  have hst := star_cons (env := X.env) (es := []) hs
  refine ⟨_, pe_callBK (p := p0) (pos := pos) (cr_maxD hc hu) hg hm (by decide +kernel) (pa_cons Pa pa_nil hst) (pk_cons Pb pk_nil) (he := by rw [hst]; rfl) (hpl := by rw [hst]; rfl), fun m σ H ρ S Q E Kv r0 re w k kx => ?_⟩
  simp only [wpE] at w
  refine Ra m σ H ρ S _ E _ r0 re w (fun m1 H1 x v S1 e1 r1 hx w1 => ?_) kx
  refine Rb m1 σ H1 ρ S1 _ E _ r1 (re.ext e1) w1 (fun m2 H2 y u S2 e2 r2 hy w2 => ?_) (kx.ext e1)
  obtain ⟨i, o, ns, rfl, ho, sq, en, w2⟩ := w2
  cases hx with
  | ref h1 =>
    obtain ⟨xs, g1, g2⟩ := r2.sql ho sq (e2.at h1)
    have ex : xs = ns.map V.int := ints_rep g2 en
    subst ex
    show rMaxDf X.K [_] [y] H2 Kv
    refine ⟨_, ns, y, rfl, rfl, g1, fun e => ?_, fun mm h1 h2 => ?_⟩
    · subst e
      exact k m2 _ _ _ S2 (e1.trans e2) r2 hy w2
    · cases em : maxL ns with
      | none =>
        cases ns with
        | nil => cases h1
        | cons n ns => exact absurd em (maxL_ne n ns)
      | some m' =>
        rw [em] at w2
        obtain ⟨s1, s2⟩ := maxL_spec em
        rw [Int.le_antisymm (s2 mm h1) (h2 m' s1)]
        exact k m2 _ _ _ S2 (e1.trans e2) r2 (.int _) w2
end
end Pv
set_option Elab.async false
set_option linter.all false
set_option maxRecDepth 100000
set_option maxHeartbeats 2000000
/-! Pv8: from the text's expressions to the small language. -/
namespace Pv
open PySem PySem.Spec PyProof.Rows L2

def ixS (N : List Str) (x : Str) : Option Nat := N.findIdx? (· == x)
def visB (sc : Scope) (x : Str) : Bool := match sc.names.lookup x with
  | some .local | some .cell | some .free => true
  | _ => false
def glbB (sc : Scope) (x : Str) : Bool := decide (sc.names.lookup x = some .globalImplicit)
def locB (C : CC) (x : Str) : Bool := match C.sc.names.lookup x with
  | some .local => true
  | some .cell => !C.blk
  | _ => false
def slotB (C : CC) (x : Str) (i : Nat) : Bool := decide (C.N[i]? = some x)
/-- a def by its name -/
def fnIx (G : GT) (x : Str) : Option Nat := G.fns.findIdx? (fun p => p.1 == x)
/-- a def as a value -/
def cFnV (G : GT) (C : CC) (x : Str) : Option IE :=
  if C.calm then (fnIx G x).bind fun i => match G.fns[i]? with
    | some (y, _, _) => if y = x then some (.cst (.fn x)) else none
    | none => none
  else none
def cCon (G : GT) (C : CC) (x : Str) : Option IE := match G.cons.lookup x with
  | some pv => some (.cst pv)
  | none => cFnV G C x
def tblOf (G : GT) (k : Nat) : List (Str × Nat × List PV) := G.vals.filterMap fun j => match G.fns[j]? with
  | some (y, n, dfl) => if k ≤ n ∧ n - k ≤ dfl.length then some (y, j, dfl.drop (dfl.length - (n - k))) else none
  | none => none
theorem tblOf_ok {G : GT} {k : Nat} {y : Str} {j : Nat} {ds : List PV} (h : (y, j, ds) ∈ tblOf G k) : ∃ n dfl, G.fns[j]? = some (y, n, dfl) ∧ k ≤ n ∧ n - k ≤ dfl.length ∧ ds = dfl.drop (dfl.length - (n - k)) := by
  unfold tblOf at h
  rw [List.mem_filterMap] at h
  obtain ⟨i, _, h⟩ := h
  split at h
  · rename_i z n dfl hG
    split at h
    · rename_i hh
      cases h
      exact ⟨n, dfl, hG, hh.1, hh.2, rfl⟩
    · cases h
  · cases h
def cName (G : GT) (C : CC) (x : Str) : Option IE :=
  if (x == ("__debug__" : Str)) || (x == ("__classdict__" : Str)) then none
  else if glbB C.sc x then cCon G C x
  else if visB C.sc x then (ixS C.N x).bind fun i => if slotB C x i then some (.var i) else none
  else none
def cConst : Const → Option IE
  | .none => some (.cst .non)
  | .bool b => some (.cst (.bl b))
  | .int i => some (.cst (.int i))
  | .str x => some (.cst (.str x))
  | _ => none
def cOp : Operator → Option BOp
  | .Add => some .add | .Sub => some .sub | .Mult => some .mul | .FloorDiv => some .fdiv | .Mod => some .mod | .Pow => some .pow
  | _ => none
theorem cOp_ok {op : Operator} {o : BOp} (h : cOp op = some o) : op = Bop o := by cases op <;> simp [cOp] at h <;> subst h <;> rfl
def cCmp : CmpOp → COp
  | .Eq => .eq | .NotEq => .ne | .Lt => .lt | .LtE => .le | .Gt => .gt | .GtE => .ge | .Is => .is | .IsNot => .isnot | .In => .isin | .NotIn => .notin
theorem cCmp_ok (op : CmpOp) : Cop (cCmp op) = op := by cases op <;> rfl
def cL (f : Expr → Option IE) : List Expr → Option IEs
  | [] => some .nil
  | e :: es => if notStar e then (f e).bind fun p => (cL f es).map fun ps => .cons p ps else none
def cBool (op : BoolOp) (f : Expr → Option IE) : List Expr → Option IE
  | [] => none
  | [a] => f a
  | a :: b :: rest => (f a).bind fun p => (cBool op f (b :: rest)).map fun q => match op with
    | .And => .and p q
    | .Or => .or p q
def cO (f : Expr → Option IE) : Option Expr → Option IOp
  | none => some .no
  | some e => (f e).map .so
def biOf (x : Str) (n : Nat) : Option Bi :=
  if x = "len" ∧ n = 1 then some .len else if x = "max" ∧ n = 2 then some .max2 else if x = "min" ∧ n = 2 then some .min2 else if x = "int" ∧ n = 1 then some .int1
  else if x = "list" ∧ n = 1 then some .list1 else if x = "tuple" ∧ n = 1 then some .tuple1 else if x = "all" ∧ n = 1 then some .all1 else if x = "any" ∧ n = 1 then some .any1 else if x = "sum" ∧ n = 1 then some .sum1 else if x = "sorted" ∧ n = 1 then some .sorted1 else if x = "max" ∧ n = 1 then some .max1 else if x = "min" ∧ n = 1 then some .min1 else if x = "dict" ∧ n = 1 then some .dict1 else none
def tyOf (x : Str) : Option Ty :=
  if x = "int" then some .tInt else if x = "str" then some .tStr else if x = "bool" then some .tBool else if x = "tuple" then some .tTuple else if x = "list" then some .tList else none
def mtOf (x : Str) : Option Mt := if x = "append" then some .append else if x = "index" then some .index else if x = "count" then some .count else if x = "extend" then some .extend else none
def bltB (C : CC) (x : Str) : Bool := glbB C.sc x && decide (x ∈ C.blts)
def cIsin (C : CC) (f : Expr → Option IE) : List Expr → Option IE
  | [a, .Name t _] => if notStar a && bltB C t then (f a).bind fun p => (tyOf t).map fun ty => .isin p ty else none
  | _ => none
def cFn (G : GT) (i : Nat) (x : Str) (k : Nat) : Option (List PV) :=
  match G.fns[i]? with
  | some (y, n, dfl) => if y = x ∧ k ≤ n ∧ n - k ≤ dfl.length then some (dfl.drop (dfl.length - (n - k))) else none
  | none => none
def cCall (G : GT) (C : CC) (f : Expr → Option IE) (x : Str) (es : List Expr) : Option IE :=
  if bltB C x then
    if x = "isinstance" then cIsin C f es
    else if C.calm && !es.isEmpty then (biOf x es.length).bind fun b => (cL f es).map fun ps => .bi b ps else none
  else if glbB C.sc x && C.calm && !(x == ("__debug__" : Str)) && !es.isEmpty then
    (fnIx G x).bind fun i => (cFn G i x es.length).bind fun ds => (cL f es).map fun ps => .call i ps ds
  else if visB C.sc x && C.calm && !(x == ("__debug__" : Str)) && !(x == ("__classdict__" : Str)) && !es.isEmpty then
    (ixS C.N x).bind fun i => if slotB C x i then (cL f es).map fun ps => .callV (tblOf G es.length) i ps else none
  else none
def plainB : Expr → Bool
  | .Slice .. => false
  | _ => true
def cNms (C : CC) : List Expr → Option (List Nat)
  | [] => some []
  | .Name x _ :: es => if locB C x then (ixS C.N x).bind fun i => if slotB C x i then (cNms C es).map fun is => i :: is else none else none
  | _ => none
def cTg (C : CC) : Expr → Option Tg
  | .Name x _ => if locB C x then (ixS C.N x).bind fun i => if slotB C x i then some (.nm i) else none else none
  | .Tuple es _ _ => if C.calm then (cNms C es).map .tp else none
  | _ => none
def isTup : Expr → Bool
  | .Tuple .. => true
  | _ => false
def setB : Expr → Bool
  | .Set .. => true
  | _ => false
/-- a slot that is read -/
def cVar (C : CC) (x : Str) : Option Nat :=
  if (x == ("__debug__" : Str)) || (x == ("__classdict__" : Str)) then none
  else if visB C.sc x then (ixS C.N x).bind fun i => if slotB C x i then some i else none
  else none
/-- d.items(), d.values(), d, of a local d: how it is walked, its slot -/
def lockOf (G : GT) (C : CC) (e : Expr) : Option (Nat × Nat) := match e with
  | .Call g as kws cpos => match g with
    | .Attribute o m apos => match o with
      | .Name x _ => if as = [] ∧ kws = [] ∧ (apos.endLine == cpos.line) = true then
          if m = "items" then (cVar C x).map fun i => (1, i) else if m = "values" then (cVar C x).map fun i => (2, i) else none
        else none
      | _ => none
    | _ => none
  | .Name x _ => if (C.N, x) ∈ G.dn then (cVar C x).map fun i => (0, i) else none
  | _ => none
def lkE (o : Option (Nat × Nat)) (p : IE) : IE := match o with
  | some q => .lock q.2 p
  | none => p
def cI0 (C : CC) (f : Expr → Option IE) (tg : Expr) (e : Expr) : Option II :=
  match e with
  | .Call (.Name x _) [a] [] _ =>
    if bltB C x && decide (x = "range") && notStar a then (f a).map .rng1
    else if bltB C x && decide (x = "enumerate") && notStar a && isTup tg then (f a).map .enum
    else (f e).map .val
  | .Call (.Name x _) [a, b] [] _ =>
    if bltB C x && decide (x = "range") && notStar a && notStar b then (f a).bind fun p => (f b).map fun q => .rng2 p q
    else if bltB C x && decide (x = "zip") && notStar a && notStar b && isTup tg then (f a).bind fun p => (f b).map fun q => .zip p q
    else (f e).map .val
  | e => if setB e then none else (f e).map .val
def cI (G : GT) (C : CC) (f : Expr → Option IE) (tg : Expr) (e : Expr) : Option II := match lockOf G C e with
  | some q => if q.1 = 1 ∧ isTup tg = false then none else some (.dk q.1 q.2)
  | none => cI0 C f tg e
def ownOf (N : List Str) (sc : Scope) : List (Str × Nat) := sc.names.filterMap fun p => match p.2 with
  | .local | .cell => (ixS N p.1).map fun i => (p.1, i)
  | _ => none
def cIfs (f : Expr → Option IE) : List Expr → Option IEs
  | [] => some .nil
  | [e] => (f e).map fun p => .cons p .nil
  | _ => none
def objB : Expr → Bool
  | .Name .. => true
  | .Attribute .. => true
  | .Call (.Name _ _) (_ :: _) [] _ => true
  | _ => false
def clsOf (G : GT) (f : Str) : List Str := G.flds.filterMap fun q => if q.2 = f then some q.1 else none
def mtbl (G : GT) (m : Str) (n : Nat) : List (Str × Nat) := G.meths.filterMap fun q => if q.2.1 = m ∧ q.2.2.2 = n then some (q.1, q.2.2.1) else none
def cMeth (G : GT) (C : CC) (f : Expr → Option IE) (po : IE) (m : Str) (apos : Pos) (es : List Expr) (cpos : Pos) : Option IE :=
  if G.meths.any (fun q => decide (q.2.1 = m)) then
    if C.calm && (apos.endLine == cpos.line) && decide (es.length < 30) then (cL f es).map fun ps => .mcall (mtbl G m (es.length + 1)) m po ps else none
  else if (apos.endLine == cpos.line) = true then match es with
    | [] => if m = "pop" then some (.meth .pop po .nil) else none
    | [a] => if notStar a then (mtOf m).bind fun mt => (cL f [a]).map fun ps => .meth mt po ps else none
    | [a, b] => if m = "get" ∧ notStar a = true ∧ notStar b = true then (f a).bind fun p => (f b).map fun q => .get2 po p q
      else if m = "setdefault" ∧ notStar a = true ∧ notStar b = true then (f a).bind fun p => (f b).map fun q => .setd po p q else none
    | _ => none
  else none
def tupRng (C : CC) (x : Str) (es : List Expr) : Option Expr := match es with
  | [e] => match e with
    | .Call g as kws _ => match g with
      | .Name y _ => match as with
        | [a] => if x = "tuple" ∧ y = "range" ∧ kws = [] ∧ (bltB C x && bltB C y && C.calm && notStar a) = true then some a else none
        | _ => none
      | _ => none
    | _ => none
  | _ => none
/-- sorted(d.items()) -/
def sortOf (C : CC) (x : Str) (es : List Expr) : Option Nat := match es with
  | [e] => match e with
    | .Call g as kws cpos => match g with
      | .Attribute o m apos => match o with
        | .Name y _ => if x = "sorted" ∧ m = "items" ∧ as = [] ∧ kws = [] ∧ (apos.endLine == cpos.line && bltB C x && C.calm) = true then cVar C y else none
        | _ => none
      | _ => none
    | _ => none
  | _ => none
/-- sorted(set(e)) -/
def setOf (C : CC) (x : Str) (es : List Expr) : Option Expr := match es with
  | [e] => match e with
    | .Call g as kws _ => match g with
      | .Name y _ => match as with
        | [a] => if x = "sorted" ∧ y = "set" ∧ kws = [] ∧ (bltB C x && bltB C y && C.calm && notStar a) = true then some a else none
        | _ => none
      | _ => none
    | _ => none
  | _ => none
/-- max(e, default=d) -/
def cMaxD (C : CC) (f : Expr → Option IE) (x : Str) (es : List Expr) (kw : Option Str) (d : Expr) : Option IE := match es, kw with
  | [a], some k => if x = "max" ∧ k = "default" ∧ (bltB C x && C.calm && notStar a) = true then (f a).bind fun p => (f d).map fun q => .maxD p q else none
  | _, _ => none
def mkOf (G : GT) (x : Str) (n : Nat) : Option (Str × Nat × Nat) := G.makes.find? fun q => decide (q.1 = x ∧ q.2.2 = n)
def cCallX (G : GT) (C : CC) (f : Expr → Option IE) (x : Str) (es : List Expr) : Option IE := match tupRng C x es with
  | some a => (f a).map .tupR
  | none => match sortOf C x es with
  | some i => some (.sortI i)
  | none => match setOf C x es with
  | some a => (f a).map .sortS
  | none => match mkOf G x (es.length + 1) with
    | some q => if (glbB C.sc x && C.calm && !(x == ("__debug__" : Str))) = true then (cL f es).map (.make x q.2.1) else none
    | none => cCall G C f x es
/-- (e, ..) in x.f -/
def cInT (G : GT) (C : CC) (f : Expr → Option IE) (a : Expr) (op : CmpOp) (b : Expr) : Option IE := match a, b with
  | .Tuple es _ _, .Attribute (.Name x _) fl _ =>
    if C.calm then match op with
      | .In => (cVar C x).bind fun i => (cL f es).map fun ps => .inT false ps (.attr (clsOf G fl) fl (.var i))
      | .NotIn => (cVar C x).bind fun i => (cL f es).map fun ps => .inT true ps (.attr (clsOf G fl) fl (.var i))
      | _ => none
    else none
  | _, _ => none
def cIdx (f : Expr → Option IE) (p : IE) (b : Expr) : Option IE := match b with
  | .Tuple es _ _ => (cL f es).map fun ps => .idxT p ps
  | b => (f b).map fun q => .idx p q
def cE (G : GT) : Nat → CC → Expr → Option IE
  | 0, _, _ => none
  | n + 1, C, e => match e with
    | .Name x _ => cName G C x
    | .Constant c _ _ => cConst c
    | .Tuple es _ _ => (cL (cE G n C) es).map .tup
    | .List es _ => (cL (cE G n C) es).map .lst
    | .BinOp a op b _ => (cOp op).bind fun o => (cE G n C a).bind fun p => (cE G n C b).map fun q => .bin o p q
    | .UnaryOp .Not a _ => (cE G n C a).map .not
    | .UnaryOp .USub a _ => (cE G n C a).map .neg
    | .BoolOp op es _ => cBool op (cE G n C) es
    | .IfExp t a b _ => (cE G n C t).bind fun r => (cE G n C a).bind fun p => (cE G n C b).map fun q => .ifx r p q
    | .Compare a [op] [b] _ => if behindInMarks op b then none else match cInT G C (cE G n C) a op b with
      | some p => some p
      | none => (cE G n C a).bind fun p => (cE G n C b).map fun q => .cmp (cCmp op) p q
    | .Compare a [op, op'] [b, c] _ => if lastMarks [op, op'] [b, c] then none else (cE G n C a).bind fun p => (cE G n C b).bind fun q => (cE G n C c).map fun r => .chain (cCmp op) (cCmp op') p q r
    | .Subscript a (.Slice lo hi none _) _ => (cE G n C a).bind fun p => (cO (cE G n C) lo).bind fun l => (cO (cE G n C) hi).map fun h => .slice p l h
    | .Subscript a (.Slice none none (some (.UnaryOp .USub (.Constant (.int 1) _ _) _)) _) _ => (cE G n C a).map .rev
    | .Dict ks es _ => if ks.isEmpty && es.isEmpty then some (if C.N ∈ G.dt then .dctE else .dct [] .nil)
      else if ks.all (·.isSome) && decide (ks.length = es.length) && decide (ks.length ≤ 15) then (cKs ks).bind fun kk => (cL (cE G n C) es).map fun ps => .dct kk ps else none
    | .Attribute o fl _ => if objB o && C.calm then (cE G n C o).map (.attr (clsOf G fl) fl) else none
    | .Call (.Attribute o m apos) es [] cpos => if objB o then (cE G n C o).bind fun po => cMeth G C (cE G n C) po m apos es cpos else none
    | .Subscript a (.Constant (.int k) _ _) _ => if 0 ≤ k then (cE G n C a).map fun p => .idxc p k.toNat else none
    | .Subscript a b _ => if plainB b then (cE G n C a).bind fun p => cIdx (cE G n C) p b else none
    | .Call (.Name x _) es [] _ => cCallX G C (cE G n C) x es
    | .Call (.Name x _) es [⟨kw, d, _⟩] _ => cMaxD C (cE G n C) x es kw d
    | .ListComp elt [⟨tg, iter, ifs, 0⟩] scope _ =>
      if C.calm && blkC C.N C.sc scope (ownOf C.N scope) then
        (cI G C (cE G n C) tg iter).bind fun it => (cTg { C with sc := scope, blk := true } tg).bind fun t =>
          if (tgIx t).all (fun i => decide (i ∈ (ownOf C.N scope).map (·.2))) then
            (cIfs (cE G n { C with sc := scope, blk := true }) ifs).bind fun pif => (cE G n { C with sc := scope, blk := true } elt).map fun p => lkE (lockOf G C iter) (.lc ((ownOf C.N scope).map (·.2)) t it pif p)
          else none
      else none
    | .DictComp kx vx [⟨tg, iter, ifs, 0⟩] scope _ =>
      if C.calm && blkC C.N C.sc scope (ownOf C.N scope) then
        (cI G C (cE G n C) tg iter).bind fun it => (cTg { C with sc := scope, blk := true } tg).bind fun t =>
          if (tgIx t).all (fun i => decide (i ∈ (ownOf C.N scope).map (·.2))) then
            (cIfs (cE G n { C with sc := scope, blk := true }) ifs).bind fun pif => (cE G n { C with sc := scope, blk := true } kx).bind fun pk => (cE G n { C with sc := scope, blk := true } vx).map fun p => lkE (lockOf G C iter) (.dc ((ownOf C.N scope).map (·.2)) t it pif pk p)
          else none
      else none
    | _ => none

/-! ### it is right -/
section
variable {X : Cx} {G : GT} {W : WX} {Φ : Call} {C : CC} {e a b : Expr} {p q : IE} {pos : Pos} {es : List Expr} {ps : IEs} {x : Str} {i : Nat}
theorem Ctx.gl (c : Ctx G C X W Φ) (h : glbB C.sc x = true) : Gl X x := by
  unfold glbB at h
  exact c.sc.gl x (of_decide_eq_true h)
theorem Ctx.vis (c : Ctx G C X W Φ) (h : visB C.sc x = true) : Vis X.env.scope x := by
  unfold visB at h
  unfold Vis
  split at h
  · rename_i q; exact .inl (c.sc.lo x q)
  · rename_i q; exact .inr (.inl (c.sc.ce x q))
  · rename_i q; exact .inr ((c.sc.fr x q).elim .inr .inl)
  · cases h
theorem Ctx.loc (c : Ctx G C X W Φ) (h : locB C x = true) : L2.Loc X.env.scope x ∧ (X.fn x = true ∨ X.env.scope.names.lookup x = some .local) := by
  unfold locB at h
  unfold L2.Loc
  split at h
  · rename_i q; exact ⟨.inl (c.sc.lo x q), .inr (c.sc.lo x q)⟩
  · rename_i q; exact ⟨.inr (c.sc.ce x q), .inl (c.fn (by simpa using h) x)⟩
  · cases h
theorem Ctx.slot (c : Ctx G C X W Φ) (h : slotB C x i = true) : X.N[i]? = some x := by
  unfold slotB at h
  rw [c.hN]
  exact of_decide_eq_true h
theorem Ctx.bltn (c : Ctx G C X W Φ) (h : bltB C x = true) : Gl X x ∧ X.mg x = none := by
  unfold bltB at h
  rw [Bool.and_eq_true] at h
  exact ⟨c.gl h.1, c.blt x (of_decide_eq_true h.2)⟩
theorem Ctx.nodup (c : Ctx G C X W Φ) : X.N.Nodup := by rw [c.hN]; exact c.nd
theorem lookup_mem {α β : Type} [BEq α] [LawfulBEq α] {k : α} {v : β} : ∀ {l : List (α × β)}, l.lookup k = some v → (k, v) ∈ l
  | [], h => by simp at h
  | (a, b) :: l, h => by
    rw [List.lookup_cons] at h
    split at h
    · rename_i q
      cases h
      rw [eq_of_beq q]
      exact List.mem_cons_self
    · exact List.mem_cons_of_mem _ (lookup_mem h)
theorem cName_ok (c : Ctx G C X W Φ) (h : cName G C x = some p) : EX X G W Φ (.Name x pos) p ∧ TX X G W Φ (.Name x pos) p := by
  unfold cName at h
  split at h
  · cases h
  rename_i hd
  simp only [Bool.or_eq_true, not_or, Bool.not_eq_true] at hd
  split at h
  · rename_i hg
    unfold cCon at h
    split at h
    · rename_i pv hp
      cases h
      obtain ⟨v, u, hm, r, hr⟩ := c.con x pv (lookup_mem hp)
      have ex : EX X G W Φ (.Name x pos) (.cst pv) := ex_cst (pe_glob (c.gl hg) hm r hd.1) hr
      exact ⟨ex, tx_val ex (fun _ => rfl) fun ρ S Q E => by simp only [wpT, wpE]⟩
    · unfold cFnV at h
      split at h
      · rename_i hc
        simp only [Option.bind_eq_some_iff] at h
        obtain ⟨i, _, h⟩ := h
        split at h
        · rename_i y n dfl hG
          split at h
          · rename_i e
            subst e
            cases h
            obtain ⟨f, fd, pars, k, hm, hns, _⟩ := (c.call hc).ok i _ n dfl hG
            have ex : EX X G W Φ (.Name y pos) (.cst (.fn y)) := ex_cst (v := .ref f) (pe_glob (c.gl hg) hm rfl hd.1) fun _ _ => .fn hns
            exact ⟨ex, tx_val ex (fun _ => rfl) fun ρ S Q E => by simp only [wpT, wpE]⟩
          · cases h
        · cases h
      · cases h
  · split at h
    · rename_i hv
      simp only [Option.bind_eq_some_iff] at h
      obtain ⟨i, _, h⟩ := h
      split at h
      · rename_i hs
        cases h
        have ex : EX X G W Φ (.Name x pos) (.var i) := ex_var (c.slot hs) (c.vis hv) hd.1 hd.2
        exact ⟨ex, tx_val ex (fun _ => rfl) fun ρ S Q E => by simp only [wpT, wpE]⟩
      · cases h
    · cases h
theorem cConst_ok {k : PySem.Const} {j : Nat} (h : cConst k = some p) : EX X G W Φ (.Constant k j pos) p ∧ TX X G W Φ (.Constant k j pos) p := by
  have fin : EX X G W Φ (.Constant k j pos) p → (∃ v, p = .cst v) → EX X G W Φ (.Constant k j pos) p ∧ TX X G W Φ (.Constant k j pos) p := fun ex ⟨v, e⟩ => by
    subst e
    exact ⟨ex, tx_val ex (fun _ => rfl) fun ρ S Q E => by simp only [wpT, wpE]⟩
  cases k with
  | none => cases h; exact fin (ex_cst pe_non fun _ _ => .non) ⟨_, rfl⟩
  | bool b => cases h; exact fin (ex_cst pe_bl fun _ _ => .bl b) ⟨_, rfl⟩
  | int i => cases h; exact fin (ex_cst pe_int fun _ _ => .int i) ⟨_, rfl⟩
  | str x => cases h; exact fin (ex_cst pe_str fun _ _ => .str x) ⟨_, rfl⟩
  | _ => cases h
theorem cL_ok {f : Expr → Option IE} (hf : ∀ e p, f e = some p → EX X G W Φ e p) : ∀ {es : List Expr} {ps : IEs}, cL f es = some ps → AX X G W Φ es ps ∧ es.all notStar = true
  | [], ps, h => by cases h; exact ⟨ax_nil, rfl⟩
  | e :: es, ps, h => by
    unfold cL at h
    split at h
    · rename_i hs
      simp only [Option.bind_eq_some_iff, Option.map_eq_some_iff] at h
      obtain ⟨p, hp, ps', hps, rfl⟩ := h
      obtain ⟨h1, h2⟩ := cL_ok hf hps
      exact ⟨ax_cons (hf e p hp) h1 (star_cons hs), by rw [List.all_cons, hs, h2]; rfl⟩
    · cases h
theorem cL_get {f : Expr → Option IE} : ∀ {es : List Expr} {ps : IEs}, cL f es = some ps → es.length = (toL ps).length ∧ ∀ (i : Nat) (e : Expr) (p : IE), es[i]? = some e → (toL ps)[i]? = some p → f e = some p
  | [], ps, h => by cases h; exact ⟨rfl, fun i e p h => by simp at h⟩
  | e :: es, ps, h => by
    unfold cL at h
    split at h
    · simp only [Option.bind_eq_some_iff, Option.map_eq_some_iff] at h
      obtain ⟨p, hp, ps', hps, rfl⟩ := h
      obtain ⟨h1, h2⟩ := cL_get hps
      refine ⟨by simp [toL, h1], fun i e' p' g1 g2 => ?_⟩
      cases i with
      | zero =>
        simp [toL] at g1 g2
        subst g1 g2
        exact hp
      | succ i => exact h2 i e' p' (by simpa using g1) (by simpa [toL] using g2)
    · cases h
theorem cKs_len : ∀ {ks : List (Option Expr)} {kk : List Key}, cKs ks = some kk → kk.length = ks.length
  | [], kk, h => by cases h; rfl
  | k :: ks, kk, h => by
    unfold cKs at h
    split at h
    · rename_i h'; cases h'
    · rename_i h'; cases h'
      simp only [Option.map_eq_some_iff] at h
      obtain ⟨ks2, h1, rfl⟩ := h
      simp [cKs_len h1]
    · rename_i h'; cases h'
      simp only [Option.map_eq_some_iff] at h
      obtain ⟨ks2, h1, rfl⟩ := h
      simp [cKs_len h1]
    · cases h
theorem cBool_ok {op : PySem.BoolOp} {f : Expr → Option IE} (hf : ∀ e p, f e = some p → EX X G W Φ e p ∧ TX X G W Φ e p) :
    ∀ {es : List Expr} {p : IE}, cBool op f es = some p → EX X G W Φ (.BoolOp op es pos) p ∧ WX' X G W Φ (.BoolOp op es pos) p
  | [], p, h => by cases h
  | [a], p, h => ⟨ex_one (hf a p h).1, by cases op; exact wx_and1 (hf a p h).2; exact wx_or1 (hf a p h).2⟩
  | a :: b :: rest, p, h => by
    unfold cBool at h
    simp only [Option.bind_eq_some_iff, Option.map_eq_some_iff] at h
    obtain ⟨pa, ha, q, hq, h⟩ := h
    obtain ⟨h1, h2⟩ := cBool_ok (op := op) hf hq
    cases op with
    | And => subst h; exact ⟨ex_and (hf a pa ha).1 h1, wx_and (hf a pa ha).2 h2⟩
    | Or => subst h; exact ⟨ex_or (hf a pa ha).1 h1, wx_or (hf a pa ha).2 h2⟩
theorem cO_ok {f : Expr → Option IE} (hf : ∀ e p, f e = some p → EX X G W Φ e p) {o : Option Expr} {l : IOp} (h : cO f o = some l) : OX X G W Φ o l := by
  cases o with
  | none => cases h; exact ox_no
  | some e =>
    simp only [cO, Option.map_eq_some_iff] at h
    obtain ⟨p, hp, rfl⟩ := h
    exact ox_so (hf e p hp)
theorem biOf_ok {n : Nat} {b : Bi} (h : biOf x n = some b) : x = biN b ∧ b ≠ .list0 ∧ b ≠ .tuple0 := by
  unfold biOf at h
  by_cases q : x = "len" ∧ n = 1
  · rw [if_pos q] at h; cases h; exact ⟨q.1, by decide, by decide⟩
  rw [if_neg q] at h
  clear q
  by_cases q : x = "max" ∧ n = 2
  · rw [if_pos q] at h; cases h; exact ⟨q.1, by decide, by decide⟩
  rw [if_neg q] at h
  clear q
  by_cases q : x = "min" ∧ n = 2
  · rw [if_pos q] at h; cases h; exact ⟨q.1, by decide, by decide⟩
  rw [if_neg q] at h
  clear q
  by_cases q : x = "int" ∧ n = 1
  · rw [if_pos q] at h; cases h; exact ⟨q.1, by decide, by decide⟩
  rw [if_neg q] at h
  clear q
  by_cases q : x = "list" ∧ n = 1
  · rw [if_pos q] at h; cases h; exact ⟨q.1, by decide, by decide⟩
  rw [if_neg q] at h
  clear q
  by_cases q : x = "tuple" ∧ n = 1
  · rw [if_pos q] at h; cases h; exact ⟨q.1, by decide, by decide⟩
  rw [if_neg q] at h
  clear q
  by_cases q : x = "all" ∧ n = 1
  · rw [if_pos q] at h; cases h; exact ⟨q.1, by decide, by decide⟩
  rw [if_neg q] at h
  clear q
  by_cases q : x = "any" ∧ n = 1
  · rw [if_pos q] at h; cases h; exact ⟨q.1, by decide, by decide⟩
  rw [if_neg q] at h
  clear q
  by_cases q : x = "sum" ∧ n = 1
  · rw [if_pos q] at h; cases h; exact ⟨q.1, by decide, by decide⟩
  rw [if_neg q] at h
  clear q
  by_cases q : x = "sorted" ∧ n = 1
  · rw [if_pos q] at h; cases h; exact ⟨q.1, by decide, by decide⟩
  rw [if_neg q] at h
  clear q
  by_cases q : x = "max" ∧ n = 1
  · rw [if_pos q] at h; cases h; exact ⟨q.1, by decide, by decide⟩
  rw [if_neg q] at h
  clear q
  by_cases q : x = "min" ∧ n = 1
  · rw [if_pos q] at h; cases h; exact ⟨q.1, by decide, by decide⟩
  rw [if_neg q] at h
  clear q
  by_cases q : x = "dict" ∧ n = 1
  · rw [if_pos q] at h; cases h; exact ⟨q.1, by decide, by decide⟩
  rw [if_neg q] at h
  clear q
  cases h
theorem tyOf_ok {t : Ty} (h : tyOf x = some t) : x = tyS t := by
  unfold tyOf at h
  repeat' split at h
  all_goals first
    | (rename_i q; cases h; exact q)
    | cases h
theorem mtOf_ok {t : Mt} (h : mtOf x = some t) : x = mtN t ∧ t ≠ .pop := by
  unfold mtOf at h
  repeat' split at h
  all_goals first
    | (rename_i q; cases h; exact ⟨q, by decide⟩)
    | cases h
theorem cCall_ok (c : Ctx G C X W Φ) {f : Expr → Option IE} (hf : ∀ e p, f e = some p → EX X G W Φ e p) {p0 : Pos} (h : cCall G C f x es = some p) : EX X G W Φ (.Call (.Name x p0) es [] pos) p ∧ TX X G W Φ (.Call (.Name x p0) es [] pos) p := by
  have fin : EX X G W Φ (.Call (.Name x p0) es [] pos) p → (∀ ρ S Q E, wpT Φ p ρ S Q E = wpE Φ p ρ S (fun v S1 => truQ v S1 fun k => Q k S1) E) → EX X G W Φ (.Call (.Name x p0) es [] pos) p ∧ TX X G W Φ (.Call (.Name x p0) es [] pos) p := fun ex hw => ⟨ex, tx_val ex (fun _ => rfl) hw⟩
  unfold cCall at h
  split at h
  · rename_i hb
    obtain ⟨hg, hm⟩ := c.bltn hb
    split at h
    · rename_i hx
      match es, h with
      | [a, .Name t p1], h =>
        simp only [cIsin] at h
        split at h
        · rename_i hs
          rw [Bool.and_eq_true] at hs
          simp only [Option.bind_eq_some_iff, Option.map_eq_some_iff] at h
          obtain ⟨pa, hp, ty, ht, rfl⟩ := h
          obtain ⟨g2, m2⟩ := c.bltn hs.2
          exact fin (ex_isin hx (tyOf_ok ht) hg hm g2 m2 (hf a pa hp) hs.1) fun ρ S Q E => by simp only [wpT, wpE, truQ]
        · cases h
      | [], h => cases h
      | [_], h => cases h
      | _ :: _ :: _ :: _, h => simp [cIsin] at h
      | [a, .Constant _ _ _], h | [a, .Tuple _ _ _], h | [a, .List _ _], h | [a, .BinOp _ _ _ _], h | [a, .UnaryOp _ _ _], h | [a, .BoolOp _ _ _], h | [a, .IfExp _ _ _ _], h | [a, .Compare _ _ _ _], h | [a, .Subscript _ _ _], h | [a, .Call _ _ _ _], h
      | [a, .ListComp _ _ _ _], h | [a, .NamedExpr _ _ _], h | [a, .Lambda _ _ _ _], h | [a, .Dict _ _ _], h | [a, .Set _ _ _], h | [a, .SetComp _ _ _ _], h | [a, .DictComp _ _ _ _ _], h | [a, .GeneratorExp _ _ _ _], h | [a, .Await _ _], h | [a, .Yield _ _], h
      | [a, .YieldFrom _ _], h | [a, .FormattedValue _ _ _ _], h | [a, .JoinedStr _ _], h | [a, .Attribute _ _ _], h | [a, .Starred _ _], h | [a, .Slice _ _ _ _], h => simp [cIsin] at h
    · split at h
      · rename_i hne hcc
        rw [Bool.and_eq_true] at hcc
        simp only [Option.bind_eq_some_iff, Option.map_eq_some_iff] at h
        obtain ⟨b, hbi, ps, hps, rfl⟩ := h
        obtain ⟨ax, hst⟩ := cL_ok hf hps
        obtain ⟨h1, h2, h3⟩ := biOf_ok hbi
        cases es with
        | nil => simp at hcc
        | cons e es => exact fin (ex_bi (c.calm hcc.1) c.units h2 h3 h1 hg hm ax hst) fun ρ S Q E => by simp only [wpT, wpE]
      · cases h
  · split at h
    · rename_i hnb hcc
      simp only [Bool.and_eq_true] at hcc
      simp only [Option.bind_eq_some_iff, Option.map_eq_some_iff] at h
      obtain ⟨i, hi, ds, hds, ps, hps, rfl⟩ := h
      obtain ⟨ax, hst⟩ := cL_ok hf hps
      unfold cFn at hds
      split at hds
      · rename_i y n dfl hG
        split at hds
        · rename_i hh
          obtain ⟨rfl, h1, h2⟩ := hh
          cases hds
          cases es with
          | nil => simp at hcc
          | cons e es => exact fin (ex_call (c.call hcc.1.1.2) c.tk hG (c.gl hcc.1.1.1) (by simpa using hcc.1.2) ax hst h1 h2) fun ρ S Q E => by simp only [wpT, wpE]
        · cases hds
      · cases hds
    · split at h
      · rename_i hnb _ hcc
        simp only [Bool.and_eq_true, Bool.not_eq_true'] at hcc
        simp only [Option.bind_eq_some_iff] at h
        obtain ⟨i, hi, h⟩ := h
        split at h
        · rename_i hs
          simp only [Option.map_eq_some_iff] at h
          obtain ⟨ps, hps, rfl⟩ := h
          obtain ⟨ax, hst⟩ := cL_ok hf hps
          cases es with
          | nil => simp at hcc
          | cons e es => exact fin (ex_callV (c.call hcc.1.1.1.2) c.tk (fun y j ds hm => tblOf_ok hm) (c.slot hs) (c.vis hcc.1.1.1.1) hcc.1.1.2 hcc.1.2 ax hst) fun ρ S Q E => by simp only [wpT, wpE]
        · cases h
      · cases h
theorem plain_ok (h : plainB b = true) : PlainIx b := by
  intro o i
  cases b <;> first | rfl | cases h
theorem cNms_ok (c : Ctx G C X W Φ) : ∀ {es : List Expr} {is : List Nat}, cNms C es = some is → NmOk X es is
  | [], is, h => by cases h; trivial
  | e :: es, is, h => by
    cases e with
    | Name x ps =>
      simp only [cNms] at h
      split at h
      · rename_i hl
        simp only [Option.bind_eq_some_iff] at h
        obtain ⟨i, _, h⟩ := h
        split at h
        · rename_i hs
          simp only [Option.map_eq_some_iff] at h
          obtain ⟨is', h, rfl⟩ := h
          exact ⟨c.slot hs, (c.loc hl).1, (c.loc hl).2, cNms_ok c h⟩
        · cases h
      · cases h
    | _ => simp [cNms] at h
theorem cTg_ok (c : Ctx G C X W Φ) {t : Tg} (h : cTg C e = some t) : GX X e t := by
  cases e with
  | Name x ps =>
    simp only [cTg] at h
    split at h
    · rename_i hl
      simp only [Option.bind_eq_some_iff] at h
      obtain ⟨i, _, h⟩ := h
      split at h
      · rename_i hs
        cases h
        exact gx_name c.nodup (c.slot hs) (c.loc hl).1 (c.loc hl).2
      · cases h
    · cases h
  | Tuple es k ps =>
    simp only [cTg] at h
    split at h
    · rename_i hc
      simp only [Option.map_eq_some_iff] at h
      obtain ⟨is, h, rfl⟩ := h
      exact gx_tup (c.calm hc) c.nodup (cNms_ok c h)
    · cases h
  | _ => simp [cTg] at h
theorem cVar_at (c : Ctx G C X W Φ) (h : cVar C x = some i) : X.N[i]? = some x ∧ Vis X.env.scope x ∧ (x == ("__debug__" : Str)) = false ∧ (x == ("__classdict__" : Str)) = false := by
  unfold cVar at h
  split at h
  · cases h
  · rename_i hd
    simp only [Bool.or_eq_true, not_or, Bool.not_eq_true] at hd
    split at h
    · rename_i hv
      simp only [Option.bind_eq_some_iff] at h
      obtain ⟨j, _, h⟩ := h
      split at h
      · rename_i hs
        cases h
        exact ⟨c.slot hs, c.vis hv, hd.1, hd.2⟩
      · cases h
    · cases h
/-- what is walked where a dict is locked -/
theorem lockOf_ok (c : Ctx G C X W Φ) {tg : Expr} {q : Nat × Nat} (h : lockOf G C e = some q) (ht : ¬ (q.1 = 1 ∧ isTup tg = false)) : IX X G W Φ tg e (.dk q.1 q.2) ∧ ∀ x, foldedSetIterable e X.env x = pure x := by
  unfold lockOf at h
  split at h
  · split at h
    · split at h
      · split at h
        · rename_i hh
          obtain ⟨rfl, rfl, hl⟩ := hh
          split at h
          · rename_i hm
            subst hm
            simp only [Option.map_eq_some_iff] at h
            obtain ⟨i, hi, rfl⟩ := h
            obtain ⟨h1, h2, h3, h4⟩ := cVar_at c hi
            refine ⟨?_, fun _ => rfl⟩
            cases tg with
            | Tuple elts kk tpos => exact ix_items h1 h2 h3 h4 hl
            | _ => exact absurd ⟨rfl, rfl⟩ ht
          · split at h
            · rename_i hm
              subst hm
              simp only [Option.map_eq_some_iff] at h
              obtain ⟨i, hi, rfl⟩ := h
              obtain ⟨h1, h2, h3, h4⟩ := cVar_at c hi
              exact ⟨ix_dvals h1 h2 h3 h4 hl, fun _ => rfl⟩
            · cases h
        · cases h
      · cases h
    · cases h
  · split at h
    · simp only [Option.map_eq_some_iff] at h
      obtain ⟨i, hi, rfl⟩ := h
      obtain ⟨h1, h2, h3, h4⟩ := cVar_at c hi
      exact ⟨ix_keys h1 h2 h3 h4, fun _ => rfl⟩
    · cases h
  · cases h
theorem cI0_ok (c : Ctx G C X W Φ) {f : Expr → Option IE} (hf : ∀ e p, f e = some p → EX X G W Φ e p) {tg : Expr} {it : II} (h : cI0 C f tg e = some it) : IX X G W Φ tg e it ∧ ∀ x, foldedSetIterable e X.env x = pure x := by
  have val : ∀ {e : Expr} {it : II}, (f e).map II.val = some it → setB e = false → IX X G W Φ tg e it ∧ ∀ x, foldedSetIterable e X.env x = pure x := fun {e it} h hs => by
    simp only [Option.map_eq_some_iff] at h
    obtain ⟨p, hp, rfl⟩ := h
    refine ⟨ix_val (hf e p hp), fun x => ?_⟩
    cases e <;> first | rfl | cases hs
  unfold cI0 at h
  split at h
  · split at h
    · rename_i hh
      simp only [Bool.and_eq_true, decide_eq_true_eq] at hh
      simp only [Option.map_eq_some_iff] at h
      obtain ⟨p, hp, rfl⟩ := h
      obtain ⟨g, m⟩ := c.bltn hh.1.1
      exact ⟨ix_rng1 hh.1.2 g m (hf _ p hp) hh.2, fun _ => rfl⟩
    · split at h
      · rename_i hh
        simp only [Bool.and_eq_true, decide_eq_true_eq] at hh
        simp only [Option.map_eq_some_iff] at h
        obtain ⟨p, hp, rfl⟩ := h
        obtain ⟨g, m⟩ := c.bltn hh.1.1.1
        have ht := hh.2
        cases tg with
        | Tuple elts kk tpos => exact ⟨ix_enum hh.1.1.2 g m (hf _ p hp) hh.1.2, fun _ => rfl⟩
        | _ => cases ht
      · exact val h rfl
  · split at h
    · rename_i hh
      simp only [Bool.and_eq_true, decide_eq_true_eq] at hh
      simp only [Option.bind_eq_some_iff, Option.map_eq_some_iff] at h
      obtain ⟨p, hp, q, hq, rfl⟩ := h
      obtain ⟨g, m⟩ := c.bltn hh.1.1.1
      exact ⟨ix_rng2 hh.1.1.2 g m (hf _ p hp) (hf _ q hq) hh.1.2 hh.2, fun _ => rfl⟩
    · split at h
      · rename_i hh
        simp only [Bool.and_eq_true, decide_eq_true_eq] at hh
        simp only [Option.bind_eq_some_iff, Option.map_eq_some_iff] at h
        obtain ⟨p, hp, q, hq, rfl⟩ := h
        obtain ⟨g, m⟩ := c.bltn hh.1.1.1.1
        have ht := hh.2
        cases tg with
        | Tuple elts kk tpos => exact ⟨ix_zip hh.1.1.1.2 g m (hf _ p hp) (hf _ q hq) hh.1.1.2 hh.1.2, fun _ => rfl⟩
        | _ => cases ht
      · exact val h rfl
  · split at h
    · cases h
    · rename_i hs
      exact val h (by simpa using hs)
theorem cI_ok (c : Ctx G C X W Φ) {f : Expr → Option IE} (hf : ∀ e p, f e = some p → EX X G W Φ e p) {tg : Expr} {it : II} (h : cI G C f tg e = some it) : IX X G W Φ tg e it ∧ ∀ x, foldedSetIterable e X.env x = pure x := by
  unfold cI at h
  split at h
  · rename_i q hq
    split at h
    · cases h
    · rename_i ht
      cases h
      exact lockOf_ok c hq ht
  · exact cI0_ok c hf h
theorem lkE_ok {o : Option (Nat × Nat)} (h : EX X G W Φ e p) : EX X G W Φ e (lkE o p) := by
  unfold lkE
  split
  · exact ex_lock h
  · exact h
theorem cIfs_ok {f : Expr → Option IE} (hf : ∀ e p, f e = some p → TX X G W Φ e p) {pif : IEs} (h : cIfs f es = some pif) : PTsX X G W Φ es pif := by
  match es, h with
  | [], h => cases h; exact ptsx_nil
  | [e], h =>
    simp only [cIfs, Option.map_eq_some_iff] at h
    obtain ⟨p, hp, rfl⟩ := h
    exact ptsx_one (hf e p hp)
  | _ :: _ :: _, h => simp [cIfs] at h
theorem lookup_map {f : Str → NameKind → NameKind} {x : Str} : ∀ l : List (Str × NameKind), (l.map fun p => (p.1, f p.1 p.2)).lookup x = (l.lookup x).map (f x)
  | [] => rfl
  | (n, k) :: r => by
    rw [List.map_cons, List.lookup_cons, List.lookup_cons, lookup_map r]
    by_cases hx : x = n
    · subst hx; simp
    · have : (x == n) = false := by simpa using hx
      simp [this]
theorem scOk_relabel (scope : Scope) (env : PySem.Env) : ScOk scope (relabel scope env) := by
  have e : ∀ x, (relabel scope env).names.lookup x = (scope.names.lookup x).map fun k => if (k == NameKind.free && env.scope.kind == .function && env.kindOf x == some .cell) = true then .cell else k := fun x => by
    have h := lookup_map (f := fun n k => if (k == NameKind.free && env.scope.kind == .function && env.kindOf n == some .cell) = true then .cell else k) (x := x) scope.names
    rw [← h]
    unfold relabel
    congr 1
    apply List.map_congr_left
    rintro ⟨n, k⟩ _
    show (if (k == NameKind.free && env.scope.kind == .function && env.kindOf n == some .cell) = true then (n, NameKind.cell) else (n, k)) = _
    split <;> rfl
  refine ⟨fun x h => by rw [e, h]; rfl, fun x h => by rw [e, h]; rfl, fun x h => by rw [e, h]; rfl, fun x h => ?_⟩
  rw [e, h]
  simp only [Option.map_some]
  split
  · exact .inr rfl
  · exact .inl rfl
theorem Ctx.blk (c : Ctx G C X W Φ) {scope : Scope} (hk : scope.kind = .function) (s : Shared) (H : Hp) (D : Addr) (cl : List (Str × Addr)) (fp : List Addr) :
    Ctx G { C with sc := scope, blk := true } (X.blk s H scope (compEnvC scope cl D X.env) fp) WN Φ where
  hN := c.hN
  nd := c.nd
  kind := hk
  sc := scOk_relabel scope X.env
  fn := fun h => by cases h
  calm := c.calm
  units := c.units
  call := fun h => ⟨(c.call h).ok⟩
  obj := fun h => ⟨(c.obj h).fld, (c.obj h).meth, (c.obj h).make⟩
  tk := takes0
  pass := PassesOwn.never
  blt := c.blt
  room := c.room
  frame := fun h => by cases h
  exc := c.exc
  excF := c.excF
  cat := c.cat
  con := c.con
  ck := c.ck
/-- a comprehension in parts -/
def LcP (X : Cx) (G : GT) (W : WX) (Φ : Call) (elt : Expr) (gens : List Comprehension) (scope : Scope) (p : IE) : Prop :=
  ∃ (tg iter : Expr) (ifs : List Expr) (wi : TI) (g : TG) (tt : TT) (te : TE) (own : List (Str × Nat)), gens = [⟨tg, iter, ifs, 0⟩] ∧ X.calm = true ∧ PI X tg iter wi ∧ BlkOk X.N X.env.scope scope own ∧
    (∀ (s : Shared) (H : Hp) (C : Addr) (cl : List (Str × Addr)) (fp : List Addr), PG (X.blk s H scope (compEnvC scope cl C X.env) fp) tg g) ∧
    (∀ (s : Shared) (H : Hp) (C : Addr) (cl : List (Str × Addr)) (fp : List Addr), PTs (X.blk s H scope (compEnvC scope cl C X.env) fp) ifs tt) ∧
    (∀ (s : Shared) (H : Hp) (C : Addr) (cl : List (Str × Addr)) (fp : List Addr), PE (X.blk s H scope (compEnvC scope cl C X.env) fp) elt te) ∧
    (∀ x, foldedSetIterable iter X.env x = pure x) ∧ RfE X G W (tLc wi g tt te (own.map (·.2))) (wpE Φ p)
theorem lcP_of {elt tgE iter : Expr} {tg : Tg} {it : II} {ifs : List Expr} {pif : IEs} {scope : Scope} {own : List (Str × Nat)} (hc : X.calm = true) (hN : X.N.Nodup) (ok : BlkOk X.N X.env.scope scope own) (hi : IX X G W Φ tgE iter it)
    (hsub : ∀ i, i ∈ tgIx tg → i ∈ own.map (·.2))
    (hg : ∀ (s : Shared) (H : Hp) (C : Addr) (cl : List (Str × Addr)) (fp : List Addr), GX (X.blk s H scope (compEnvC scope cl C X.env) fp) tgE tg)
    (ht : ∀ (s : Shared) (H : Hp) (C : Addr) (cl : List (Str × Addr)) (fp : List Addr), PTsX (X.blk s H scope (compEnvC scope cl C X.env) fp) G WN Φ ifs pif)
    (he : ∀ (s : Shared) (H : Hp) (C : Addr) (cl : List (Str × Addr)) (fp : List Addr), EX (X.blk s H scope (compEnvC scope cl C X.env) fp) G WN Φ elt p)
    (hs : ∀ x, foldedSetIterable iter X.env x = pure x) :
    LcP X G W Φ elt [⟨tgE, iter, ifs, 0⟩] scope (.lc (own.map (·.2)) tg it pif p) := by
  obtain ⟨wi, Pi, Ri⟩ := hi
  exact ⟨tgE, iter, ifs, wi, gCan X.K (tupB tgE) tg, tCanT X.K X.mg G WN (wpTs Φ pif), tCan X.K X.mg G WN (wpE Φ p), own, rfl, hc, Pi, ok, fun s H C cl fp => (hg s H C cl fp).can, fun s H C cl fp => ht s H C cl fp, fun s H C cl fp => (he s H C cl fp).can, hs, rf_lc hsub Ri⟩
/-- x = {k: v for ..} -/
theorem ps_setDc {i : Nat} {y : Str} {py spos : Pos} {kx vx tg iter : Expr} {ifs : List Expr} {scope : Scope} {own : List (Str × Nat)} {wi : TI} {g : TG} {tt : TT} {tk tv : TE} (hc : X.calm = true) (hN : X.N.Nodup) (hy : X.N[i]? = some y) (hyl : X.env.scope.names.lookup y = some .local)
    (hsw : swapsWith (.DictComp kx vx [⟨tg, iter, ifs, 0⟩] scope pos) (some (.Name y py)) spos.line X.env = pure true) (hi : PI X tg iter wi) (ok : BlkOk X.N X.env.scope scope own)
    (hg : ∀ (s : Shared) (H : Hp) (C : Addr) (cl : List (Str × Addr)) (fp : List Addr), PG (X.blk s H scope (compEnvC scope cl C X.env) fp) tg g)
    (ht : ∀ (s : Shared) (H : Hp) (C : Addr) (cl : List (Str × Addr)) (fp : List Addr), PTs (X.blk s H scope (compEnvC scope cl C X.env) fp) ifs tt)
    (hk : ∀ (s : Shared) (H : Hp) (C : Addr) (cl : List (Str × Addr)) (fp : List Addr), PE (X.blk s H scope (compEnvC scope cl C X.env) fp) kx tk)
    (he : ∀ (s : Shared) (H : Hp) (C : Addr) (cl : List (Str × Addr)) (fp : List Addr), PE (X.blk s H scope (compEnvC scope cl C X.env) fp) vx tv) (hs : ∀ x, foldedSetIterable iter X.env x = pure x) :
    PS X (.Assign [.Name y py] (.DictComp kx vx [⟨tg, iter, ifs, 0⟩] scope pos) spos) (tAsg (tDc wi g tt tk tv (own.map (·.2))) (gName i)) := by
  refine ⟨fun pins s σ H D I h => ?_⟩
  rw [exec_Assign_Name_used _ _ _ _ hsw]
  refine wpAny_bind (wpAny_standAt (wpAny_bind ?_))
  show wpAny _ X.A (do let _ ← comprehension (.DictComp kx vx [⟨tg, iter, ifs, 0⟩] scope pos) scope X.env (firstIterPos [⟨tg, iter, ifs, 0⟩] pos) newDict false (eval iter X.env) (some (assign (.Name y py) X.env))) _ _ s
  have h' : tDc wi g tt tk tv (own.map (·.2)) σ H (fun x H1 => gName i x σ H1 D.nx) := h
  refine wpAny_bind (thn (dc_core (Qf := fun _ s' => SP X pins D .next s') hc hN I hi ok hg ht hk he hs h' fun L C s' m H' J q hn f => ?_) fun _ s' hq => wpAny_pure (wpAny_pure hq))
  obtain ⟨f0, f1, f2, f3, f4, f5⟩ := f
  refine wpAny_assign_Name (store_ok2 (v := V.ref L) J hN hy (.inl hyl) rfl (fun s2 J2 ⟨a, sb, ha⟩ => ?_) (.inr hyl))
  have haC : C ≠ a := ha.elim (fun z => z ▸ f1) fun z e => f4 y a z e.symm
  exact ⟨m, hn.sameBut sb haC, fun h3 sb3 => ⟨_, H', J2.turned (t' := s2.toks) (fun b o hb e => (sb3.2 b hb).trans e) f0 f1 f3 f4 f5, q⟩⟩
/-- a comprehension that is stored at once -/
def AsgP (X : Cx) (G : GT) (W : WX) (Φ : Call) (e : Expr) (p : IE) : Prop :=
  ∃ ts : TE, RfE X G W ts (wpE Φ p) ∧ ∀ (i : Nat) (x : Str) (p1 pos : Pos), X.N[i]? = some x → X.env.scope.names.lookup x = some .local → swapsWith e (some (.Name x p1)) pos.line X.env = pure true → PS X (.Assign [.Name x p1] e pos) (tAsg ts (gName i))
theorem LcP.asg {elt : Expr} {gens : List Comprehension} {scope : Scope} (hN : X.N.Nodup) (h : LcP X G W Φ elt gens scope p) : AsgP X G W Φ (.ListComp elt gens scope pos) p := by
  obtain ⟨tg, iter, ifs, wi, g, tt, te, own, rfl, hc, hit, ok, hg, ht, he, hfs, R⟩ := h
  exact ⟨_, R, fun i x p1 spos hi hx hs => ps_setLc hc hN hi hx hs hit ok hg ht he hfs⟩
theorem LcP.ex {elt : Expr} {gens : List Comprehension} {scope : Scope} (hN : X.N.Nodup) (h : LcP X G W Φ elt gens scope p) : EX X G W Φ (.ListComp elt gens scope pos) p := by
  obtain ⟨tg, iter, ifs, wi, g, tt, te, own, rfl, hc, hi, ok, hg, ht, he, hs, R⟩ := h
  exact ⟨_, pe_lc hc hN hi ok hg ht he hs, R⟩
theorem clsOf_ok {f x : Str} (h : x ∈ clsOf G f) : (x, f) ∈ G.flds := by
  unfold clsOf at h
  rw [List.mem_filterMap] at h
  obtain ⟨⟨y, g⟩, hq, h⟩ := h
  dsimp only at h
  split at h
  · rename_i e; cases h; subst e; exact hq
  · cases h
theorem mtbl_ok {m x : Str} {n j : Nat} (h : (x, j) ∈ mtbl G m n) : ∃ n, (x, m, j, n) ∈ G.meths := by
  unfold mtbl at h
  rw [List.mem_filterMap] at h
  obtain ⟨⟨y, g, i, l⟩, hq, h⟩ := h
  dsimp only at h
  split at h
  · rename_i e
    obtain ⟨rfl, rfl⟩ := e
    cases h
    exact ⟨_, hq⟩
  · cases h
theorem base_ok {o : Expr} {m : Str} (h : objB o = true) : attributeBase o m X.env (eval o X.env) = eval o X.env := by
  unfold objB at h
  split at h
  · rfl
  · rfl
  · rfl
  · cases h
theorem meth_shape {o : Expr} {m : Str} {apos cpos : Pos} {env : PySem.Env} (hb : attributeBase o m env (eval o env) = eval o env) (hall : es.all notStar = true) (h30 : es.length < 30) (hl : (apos.endLine == cpos.line) = true) :
    eval (.Call (.Attribute o m apos) es [] cpos) env = (do
      let ov ← eval o env
      standAt apos.atName
      let (f, first) ← holding [ov] (getMethod ov m (do return (← importBound o env).getD true))
      callWith cpos f first (backTo cpos (starEach es env)) (backToKw cpos (keywordEach [] env))) := by
  have h1 : ((backTo cpos (starEach es env)).all (fun x => !x.1)) = true := by
    have := star_plain (pos := cpos) (env := env) hall
    rw [List.all_eq_not_any_not]
    simpa using this
  have few : methodCallForm (es.length + ([] : List Keyword).length) (backTo cpos (starEach es env)) (backToKw cpos (keywordEach [] env)) = true := by
    unfold methodCallForm
    rw [h1]
    simp only [keywordEach, backToKw]
    simp [h30]
  rw [arm_eval_Call, hb]
  unfold methodCall calleeOf methodCallPos
  rw [few]
  simp [hl]
  done
theorem cMeth_ok (c : Ctx G C X W Φ) {f : Expr → Option IE} (hf : ∀ e p, f e = some p → EX X G W Φ e p) {o : Expr} {po : IE} {m : Str} {apos cpos : Pos} (ho : objB o = true) (hpo : EX X G W Φ o po) (h : cMeth G C f po m apos es cpos = some p) :
    EX X G W Φ (.Call (.Attribute o m apos) es [] cpos) p ∧ TX X G W Φ (.Call (.Attribute o m apos) es [] cpos) p := by
  unfold cMeth at h
  split at h
  · split at h
    · rename_i hc
      simp only [Bool.and_eq_true, decide_eq_true_eq] at hc
      obtain ⟨⟨hc, hl⟩, h30⟩ := hc
      rw [Option.map_eq_some_iff] at h
      obtain ⟨ps, hps, rfl⟩ := h
      obtain ⟨ax, hst⟩ := cL_ok hf hps
      have sh := meth_shape (m := m) (base_ok (X := X) ho) hst h30 hl
      have ex : EX X G W Φ (.Call (.Attribute o m apos) es [] cpos) (.mcall (mtbl G m (es.length + 1)) m po ps) := by
        cases es with
        | nil => cases hps; exact ex_mcall0 (c.obj hc) c.tk (fun x j h => mtbl_ok h) hpo sh
        | cons e es => exact ex_mcall (c.obj hc) c.tk (fun x j h => mtbl_ok h) hpo ax hst sh
      exact ⟨ex, tx_val ex (fun _ => rfl) fun ρ S Q E => by simp only [wpT, wpE]⟩
    · cases h
  · split at h
    · rename_i hl
      match es, h with
      | [], h =>
        dsimp only at h
        split at h
        · rename_i hm
          cases h
          subst hm
          exact ⟨ex_pop hpo (base_ok ho) hl, tx_never fun ρ S Q E w => by simp only [wpT] at w⟩
        · cases h
      | [a], h =>
        dsimp only at h
        split at h
        · rename_i hs
          simp only [Option.bind_eq_some_iff, Option.map_eq_some_iff] at h
          obtain ⟨mt, hmt, ps, hps, rfl⟩ := h
          exact ⟨ex_meth (mtOf_ok hmt).2 (mtOf_ok hmt).1 hpo (cL_ok hf hps).1 hs (base_ok ho) hl, tx_never fun ρ S Q E w => by simp only [wpT] at w⟩
        · cases h
      | [a, b], h =>
        dsimp only at h
        split at h
        · rename_i hh
          obtain ⟨h1, h2, h3⟩ := hh
          simp only [Option.bind_eq_some_iff, Option.map_eq_some_iff] at h
          obtain ⟨pa, ha, pb, hb, hq⟩ := h
          subst h1
          subst hq
          exact ⟨ex_get2 c.units hpo (hf _ _ ha) (hf _ _ hb) h2 h3 (base_ok ho) hl, tx_never fun ρ S Q E w => by simp only [wpT] at w⟩
        · split at h
          · rename_i hh
            obtain ⟨h1, h2, h3⟩ := hh
            simp only [Option.bind_eq_some_iff, Option.map_eq_some_iff] at h
            obtain ⟨pa, ha, pb, hb, hq⟩ := h
            subst h1
            subst hq
            exact ⟨ex_setd hpo (hf _ _ ha) (hf _ _ hb) h2 h3 (base_ok ho) hl, tx_never fun ρ S Q E w => by simp only [wpT] at w⟩
          · cases h
      | _ :: _ :: _ :: _, h => simp at h
    · cases h
theorem tupRng_ok {a : Expr} (h : tupRng C x es = some a) : ∃ y p1 p2, es = [.Call (.Name y p1) [a] [] p2] ∧ x = "tuple" ∧ y = "range" ∧ (bltB C x && bltB C y && C.calm && notStar a) = true := by
  unfold tupRng at h
  split at h
  · split at h
    · split at h
      · split at h
        · split at h
          · rename_i hh
            cases h
            obtain ⟨h1, h2, rfl, h4⟩ := hh
            exact ⟨_, _, _, rfl, h1, h2, h4⟩
          · cases h
        · cases h
      · cases h
    · cases h
  · cases h
theorem sortOf_ok (c : Ctx G C X W Φ) {i : Nat} {p0 : Pos} (h : sortOf C x es = some i) : EX X G W Φ (.Call (.Name x p0) es [] pos) (.sortI i) := by
  unfold sortOf at h
  split at h
  · split at h
    · split at h
      · split at h
        · split at h
          · rename_i hh
            obtain ⟨hx, rfl, rfl, rfl, hh⟩ := hh
            simp only [Bool.and_eq_true] at hh
            obtain ⟨⟨hl, hb⟩, hc⟩ := hh
            obtain ⟨g1, m1⟩ := c.bltn hb
            obtain ⟨h1, h2, h3, h4⟩ := cVar_at c h
            exact ex_sortI hx g1 m1 (c.calm hc) c.units h1 h2 h3 h4 hl
          · cases h
        · cases h
      · cases h
    · cases h
  · cases h
theorem setOf_ok {a : Expr} (h : setOf C x es = some a) : ∃ y p1 p2, es = [.Call (.Name y p1) [a] [] p2] ∧ x = "sorted" ∧ y = "set" ∧ (bltB C x && bltB C y && C.calm && notStar a) = true := by
  unfold setOf at h
  split at h
  · split at h
    · split at h
      · split at h
        · split at h
          · rename_i hh
            cases h
            obtain ⟨h1, h2, rfl, h4⟩ := hh
            exact ⟨_, _, _, rfl, h1, h2, h4⟩
          · cases h
        · cases h
      · cases h
    · cases h
  · cases h
theorem cMaxD_ok (c : Ctx G C X W Φ) {f : Expr → Option IE} (hf : ∀ e p, f e = some p → EX X G W Φ e p) {p0 kp : Pos} {kw : Option Str} {d : Expr} (h : cMaxD C f x es kw d = some p) : EX X G W Φ (.Call (.Name x p0) es [⟨kw, d, kp⟩] pos) p ∧ TX X G W Φ (.Call (.Name x p0) es [⟨kw, d, kp⟩] pos) p := by
  unfold cMaxD at h
  split at h
  · split at h
    · rename_i hh
      obtain ⟨h1, h2, h3⟩ := hh
      simp only [Bool.and_eq_true] at h3
      obtain ⟨⟨h3, h4⟩, h5⟩ := h3
      simp only [Option.bind_eq_some_iff, Option.map_eq_some_iff] at h
      obtain ⟨pa, ha, pb, hb, rfl⟩ := h
      obtain ⟨g1, m1⟩ := c.bltn h3
      exact ⟨ex_maxD h1 h2 (c.calm h4) c.units g1 m1 (hf _ _ ha) h5 (hf _ _ hb), tx_never fun ρ S Q E w => by simp only [wpT] at w⟩
    · cases h
  · cases h
theorem cCallX_ok (c : Ctx G C X W Φ) {f : Expr → Option IE} (hf : ∀ e p, f e = some p → EX X G W Φ e p) {p0 : Pos} (h : cCallX G C f x es = some p) : EX X G W Φ (.Call (.Name x p0) es [] pos) p ∧ TX X G W Φ (.Call (.Name x p0) es [] pos) p := by
  unfold cCallX at h
  split at h
  · rename_i a ha
    rw [Option.map_eq_some_iff] at h
    obtain ⟨pa, hpa, rfl⟩ := h
    obtain ⟨y, p1, p2, rfl, hx, hy, hh⟩ := tupRng_ok ha
    simp only [Bool.and_eq_true] at hh
    obtain ⟨⟨⟨h1, h2⟩, h3⟩, h4⟩ := hh
    obtain ⟨g1, m1⟩ := c.bltn h1
    obtain ⟨g2, m2⟩ := c.bltn h2
    exact ⟨ex_tupR hx hy (c.calm h3) g1 m1 g2 m2 (hf _ _ hpa) h4, tx_never fun ρ S Q E w => by simp only [wpT] at w⟩
  · split at h
    · rename_i i hi
      cases h
      exact ⟨sortOf_ok c hi, tx_never fun ρ S Q E w => by simp only [wpT] at w⟩
    split at h
    · rename_i a ha
      rw [Option.map_eq_some_iff] at h
      obtain ⟨pa, hpa, rfl⟩ := h
      obtain ⟨y, p1, p2, rfl, hx, hy, hh⟩ := setOf_ok ha
      simp only [Bool.and_eq_true] at hh
      obtain ⟨⟨⟨h1, h2⟩, h3⟩, h4⟩ := hh
      obtain ⟨g1, m1⟩ := c.bltn h1
      obtain ⟨g2, m2⟩ := c.bltn h2
      exact ⟨ex_sortS hx hy (c.calm h3) g1 m1 g2 m2 (hf _ _ hpa) h4, tx_never fun ρ S Q E w => by simp only [wpT] at w⟩
    split at h
    · rename_i q hq
      split at h
      · rename_i hh
        simp only [Bool.and_eq_true, Bool.not_eq_true'] at hh
        obtain ⟨⟨h1, h2⟩, h3⟩ := hh
        rw [Option.map_eq_some_iff] at h
        obtain ⟨ps, hps, rfl⟩ := h
        obtain ⟨ax, hst⟩ := cL_ok hf hps
        obtain ⟨y, j, n⟩ := q
        unfold mkOf at hq
        have hm := List.mem_of_find?_eq_some hq
        have he := List.find?_some hq
        simp only [decide_eq_true_eq] at he
        obtain ⟨rfl, rfl⟩ := he
        refine ⟨?_, tx_never fun ρ S Q E w => by simp only [wpT] at w⟩
        cases es with
        | nil => cases hps; exact ex_make0 (c.obj h2) c.tk hm (c.gl h1) h3
        | cons e es => exact ex_make (c.obj h2) c.tk hm (c.gl h1) h3 ax hst
      · cases h
    · exact cCall_ok c hf h
theorem ex_dc {kx vx tgE iter : Expr} {tg : Tg} {it : II} {ifs : List Expr} {pif : IEs} {q : IE} {scope : Scope} {own : List (Str × Nat)} (hc : X.calm = true) (hN : X.N.Nodup) (ok : BlkOk X.N X.env.scope scope own) (hi : IX X G W Φ tgE iter it)
    (hsub : ∀ i, i ∈ tgIx tg → i ∈ own.map (·.2))
    (hg : ∀ (s : Shared) (H : Hp) (C : Addr) (cl : List (Str × Addr)) (fp : List Addr), GX (X.blk s H scope (compEnvC scope cl C X.env) fp) tgE tg)
    (ht : ∀ (s : Shared) (H : Hp) (C : Addr) (cl : List (Str × Addr)) (fp : List Addr), PTsX (X.blk s H scope (compEnvC scope cl C X.env) fp) G WN Φ ifs pif)
    (hk : ∀ (s : Shared) (H : Hp) (C : Addr) (cl : List (Str × Addr)) (fp : List Addr), EX (X.blk s H scope (compEnvC scope cl C X.env) fp) G WN Φ kx p)
    (he : ∀ (s : Shared) (H : Hp) (C : Addr) (cl : List (Str × Addr)) (fp : List Addr), EX (X.blk s H scope (compEnvC scope cl C X.env) fp) G WN Φ vx q)
    (hs : ∀ x, foldedSetIterable iter X.env x = pure x) :
    EX X G W Φ (.DictComp kx vx [⟨tgE, iter, ifs, 0⟩] scope pos) (.dc (own.map (·.2)) tg it pif p q) := by
  obtain ⟨wi, Pi, Ri⟩ := hi
  exact ⟨_, pe_dc (tt := tCanT X.K X.mg G WN (wpTs Φ pif)) hc hN Pi ok (fun s H C cl fp => (hg s H C cl fp).can) (fun s H C cl fp => ht s H C cl fp) (fun s H C cl fp => (hk s H C cl fp).can) (fun s H C cl fp => (he s H C cl fp).can) hs, rf_dc hsub Ri⟩
theorem asg_dc {kx vx tgE iter : Expr} {tg : Tg} {it : II} {ifs : List Expr} {pif : IEs} {q : IE} {scope : Scope} {own : List (Str × Nat)} (hc : X.calm = true) (hN : X.N.Nodup) (ok : BlkOk X.N X.env.scope scope own) (hi : IX X G W Φ tgE iter it)
    (hsub : ∀ i, i ∈ tgIx tg → i ∈ own.map (·.2))
    (hg : ∀ (s : Shared) (H : Hp) (C : Addr) (cl : List (Str × Addr)) (fp : List Addr), GX (X.blk s H scope (compEnvC scope cl C X.env) fp) tgE tg)
    (ht : ∀ (s : Shared) (H : Hp) (C : Addr) (cl : List (Str × Addr)) (fp : List Addr), PTsX (X.blk s H scope (compEnvC scope cl C X.env) fp) G WN Φ ifs pif)
    (hk : ∀ (s : Shared) (H : Hp) (C : Addr) (cl : List (Str × Addr)) (fp : List Addr), EX (X.blk s H scope (compEnvC scope cl C X.env) fp) G WN Φ kx p)
    (he : ∀ (s : Shared) (H : Hp) (C : Addr) (cl : List (Str × Addr)) (fp : List Addr), EX (X.blk s H scope (compEnvC scope cl C X.env) fp) G WN Φ vx q)
    (hs : ∀ x, foldedSetIterable iter X.env x = pure x) :
    AsgP X G W Φ (.DictComp kx vx [⟨tgE, iter, ifs, 0⟩] scope pos) (.dc (own.map (·.2)) tg it pif p q) := by
  obtain ⟨wi, Pi, Ri⟩ := hi
  exact ⟨_, rf_dc hsub Ri, fun i x p1 spos hx1 hx2 hsw => ps_setDc (tt := tCanT X.K X.mg G WN (wpTs Φ pif)) hc hN hx1 hx2 hsw Pi ok (fun s H C cl fp => (hg s H C cl fp).can) (fun s H C cl fp => ht s H C cl fp) (fun s H C cl fp => (hk s H C cl fp).can) (fun s H C cl fp => (he s H C cl fp).can) hs⟩
def isComp : Expr → Bool
  | .ListComp .. => true
  | .DictComp .. => true
  | _ => false
theorem cVar_ok (c : Ctx G C X W Φ) (h : cVar C x = some i) : SXE X Φ (.Name x pos) (.var i) := by
  unfold cVar at h
  split at h
  · cases h
  · rename_i hd
    simp only [Bool.or_eq_true, not_or, Bool.not_eq_true] at hd
    split at h
    · rename_i hv
      simp only [Option.bind_eq_some_iff] at h
      obtain ⟨j, _, h⟩ := h
      split at h
      · rename_i hs
        cases h
        exact se_var (c.slot hs) (c.vis hv) hd.1 hd.2
      · cases h
    · cases h
theorem cInT_ok (c : Ctx G C X W Φ) {f : Expr → Option IE} (hf : ∀ e p, f e = some p → EX X G W Φ e p) {op : CmpOp} (hm : behindInMarks op b = false) (h : cInT G C f a op b = some p) : EX X G W Φ (.Compare a [op] [b] pos) p ∧ TX X G W Φ (.Compare a [op] [b] pos) p := by
  unfold cInT at h
  split at h
  · split at h
    · rename_i hc
      split at h
      · simp only [Option.bind_eq_some_iff, Option.map_eq_some_iff] at h
        obtain ⟨i, hi, ps, hps, rfl⟩ := h
        exact ex_inT c.units (se_attr (c.obj hc) (fun x h => clsOf_ok h) (cVar_ok c hi) rfl) (cL_ok hf hps).1 hm
      · simp only [Option.bind_eq_some_iff, Option.map_eq_some_iff] at h
        obtain ⟨i, hi, ps, hps, rfl⟩ := h
        exact ex_notinT c.units (se_attr (c.obj hc) (fun x h => clsOf_ok h) (cVar_ok c hi) rfl) (cL_ok hf hps).1 hm
      · cases h
    · cases h
  · cases h
theorem cE_ok (G : GT) (Φ : Call) : ∀ (n : Nat) (C : CC) (e : Expr) (p : IE), cE G n C e = some p → ∀ (X : Cx) (W : WX), Ctx G C X W Φ → EX X G W Φ e p ∧ TX X G W Φ e p ∧ (isComp e = true → ∃ o q, p = lkE o q ∧ AsgP X G W Φ e q)
  | 0, _, _, _, h => by cases h
  | n + 1, C, e, p, h => by
    intro X W c
    have no : ∀ {e : Expr} {p : IE}, EX X G W Φ e p ∧ TX X G W Φ e p → isComp e = false → EX X G W Φ e p ∧ TX X G W Φ e p ∧ (isComp e = true → ∃ o q, p = lkE o q ∧ AsgP X G W Φ e q) := fun h hn => ⟨h.1, h.2, fun z => by rw [hn] at z; cases z⟩
    have ih : ∀ e p, cE G n C e = some p → EX X G W Φ e p ∧ TX X G W Φ e p := fun e p h => ⟨(cE_ok G Φ n C e p h X W c).1, (cE_ok G Φ n C e p h X W c).2.1⟩
    have ihE : ∀ e p, cE G n C e = some p → EX X G W Φ e p := fun e p h => (ih e p h).1
    unfold cE at h
    split at h
    · exact no (cName_ok c h) rfl
    · exact no (cConst_ok h) rfl
    · simp only [Option.map_eq_some_iff] at h
      obtain ⟨ps, hp, rfl⟩ := h
      exact no ⟨ex_tup (cL_ok ihE hp).1, tx_never fun ρ S Q E w => by simp only [wpT] at w⟩ rfl
    · simp only [Option.map_eq_some_iff] at h
      obtain ⟨ps, hp, rfl⟩ := h
      exact no ⟨ex_lst (cL_ok ihE hp).1, tx_never fun ρ S Q E w => by simp only [wpT] at w⟩ rfl
    · simp only [Option.bind_eq_some_iff, Option.map_eq_some_iff] at h
      obtain ⟨o, ho, pa, ha, pb, hb, rfl⟩ := h
      rw [cOp_ok ho]
      exact no ⟨ex_bin (ihE _ _ ha) (ihE _ _ hb), tx_never fun ρ S Q E w => by simp only [wpT] at w⟩ rfl
    · simp only [Option.map_eq_some_iff] at h
      obtain ⟨pa, ha, rfl⟩ := h
      exact no ⟨ex_not (ihE _ _ ha), tx_not (ih _ _ ha).2⟩ rfl
    · simp only [Option.map_eq_some_iff] at h
      obtain ⟨pa, ha, rfl⟩ := h
      exact no ⟨ex_neg (ihE _ _ ha), tx_never fun ρ S Q E w => by simp only [wpT] at w⟩ rfl
    · obtain ⟨h1, h2⟩ := cBool_ok (X := X) (W := W) ih h
      exact no ⟨h1, h2.tx⟩ rfl
    · simp only [Option.bind_eq_some_iff, Option.map_eq_some_iff] at h
      obtain ⟨r, hr, pa, ha, pb, hb, rfl⟩ := h
      exact no ⟨ex_ifx (ih _ _ hr).2 (ihE _ _ ha) (ihE _ _ hb), tx_never fun ρ S Q E w => by simp only [wpT] at w⟩ rfl
    · rename_i a op b ps
      split at h
      · cases h
      · rename_i hm
        split at h
        · rename_i q hq
          cases h
          exact no (cInT_ok c ihE (by simpa using hm) hq) rfl
        simp only [Option.bind_eq_some_iff, Option.map_eq_some_iff] at h
        obtain ⟨pa, ha, pb, hb, rfl⟩ := h
        have hm' : behindInMarks (Cop (cCmp op)) b = false := by rw [cCmp_ok]; simpa using hm
        have z1 := ex_cmp (pos := ps) c.units (ihE _ _ ha) (ihE _ _ hb) hm'
        have z2 := tx_cmp (pos := ps) c.units (ihE _ _ ha) (ihE _ _ hb) hm'
        rw [cCmp_ok] at z1 z2
        exact no ⟨z1, z2⟩ rfl
    · rename_i a op op' b d ps
      split at h
      · cases h
      · rename_i hm
        simp only [Option.bind_eq_some_iff, Option.map_eq_some_iff] at h
        obtain ⟨pa, ha, pb, hb, pd, hd, rfl⟩ := h
        have hm' : lastMarks [Cop (cCmp op), Cop (cCmp op')] [b, d] = false := by rw [cCmp_ok, cCmp_ok]; simpa using hm
        have z1 := ex_chain (pos := ps) c.units (ihE _ _ ha) (ihE _ _ hb) (ihE _ _ hd) hm'
        have z2 := tx_chain (pos := ps) c.units (ihE _ _ ha) (ihE _ _ hb) (ihE _ _ hd) hm'
        rw [cCmp_ok, cCmp_ok] at z1 z2
        exact no ⟨z1, z2⟩ rfl
    · simp only [Option.bind_eq_some_iff, Option.map_eq_some_iff] at h
      obtain ⟨pa, ha, l, hl, hh, hhh, rfl⟩ := h
      exact no ⟨ex_slice (ihE _ _ ha) (cO_ok ihE hl) (cO_ok ihE hhh), tx_never fun ρ S Q E w => by simp only [wpT] at w⟩ rfl
    · simp only [Option.map_eq_some_iff] at h
      obtain ⟨pa, ha, rfl⟩ := h
      exact no ⟨ex_rev (ihE _ _ ha), tx_never fun ρ S Q E w => by simp only [wpT] at w⟩ rfl
    · split at h
      · rename_i ks es ps hh
        cases h
        rw [Bool.and_eq_true, List.isEmpty_iff, List.isEmpty_iff] at hh
        obtain ⟨rfl, rfl⟩ := hh
        split
        · exact no ⟨ex_dctE, tx_never fun ρ S Q E w => by simp only [wpT] at w⟩ rfl
        · exact no ⟨ex_dct0, tx_never fun ρ S Q E w => by simp only [wpT] at w⟩ rfl
      · split at h
        · rename_i ks es ps h0 hh
          simp only [Bool.and_eq_true, decide_eq_true_eq] at hh
          simp only [Option.bind_eq_some_iff, Option.map_eq_some_iff] at h
          obtain ⟨kk, hk, qs, hq, rfl⟩ := h
          obtain ⟨g1, g2⟩ := cL_get hq
          obtain ⟨trs, P, R⟩ := pps_of (X := X) (G := G) (W := W) (Φ := Φ) (pos := ps) ihE hk g1 g2 hh.1.2
          rw [toL_foldr] at R
          refine no ⟨ex_dct P R hh.1.1 hh.1.2 (fun e => ?_) hh.2 (cKs_len hk), tx_never fun ρ S Q E w => by simp only [wpT] at w⟩ rfl
          subst e
          apply h0
          have : es = [] := List.length_eq_zero_iff.1 (by rw [← hh.1.2]; rfl)
          subst this
          rfl
        · cases h
    · rename_i oo fl ps
      split at h
      · rename_i hh
        simp only [Bool.and_eq_true] at hh
        rw [Option.map_eq_some_iff] at h
        obtain ⟨po, hpo, rfl⟩ := h
        have ex := ex_attr (f := fl) (pos := ps) (c.obj hh.2) (fun x h => clsOf_ok h) (ihE _ _ hpo) (base_ok hh.1)
        exact no ⟨ex, tx_val ex (fun _ => rfl) fun ρ S Q E => by simp only [wpT, wpE]⟩ rfl
      · cases h
    · split at h
      · rename_i hh
        simp only [Option.bind_eq_some_iff] at h
        obtain ⟨po, hpo, h⟩ := h
        exact no (cMeth_ok c ihE hh (ihE _ _ hpo) h) rfl
      · cases h
    · split at h
      · rename_i a k j p2 ps hk
        simp only [Option.map_eq_some_iff] at h
        obtain ⟨pa, ha, rfl⟩ := h
        have e : k = ((k.toNat : Nat) : Int) := by omega
        have z := ex_idxc (n := k.toNat) (j := j) (p2 := p2) (pos := ps) (ihE _ _ ha)
        rw [← e] at z
        exact no ⟨z, tx_val z (fun _ => rfl) fun ρ S Q E => by simp only [wpT, wpE]⟩ rfl
      · cases h
    · split at h
      · rename_i hs
        simp only [Option.bind_eq_some_iff] at h
        obtain ⟨pa, ha, h⟩ := h
        unfold cIdx at h
        split at h
        · simp only [Option.map_eq_some_iff] at h
          obtain ⟨ps, hps, rfl⟩ := h
          have z := fun pos => ex_idxT (pos := pos) c.units (ihE _ _ ha) (cL_ok ihE hps).1 (plain_ok hs)
          exact no ⟨z _, tx_val (z _) (fun _ => rfl) fun ρ S Q E => by simp only [wpT, wpE]⟩ rfl
        · simp only [Option.map_eq_some_iff] at h
          obtain ⟨pb, hb, rfl⟩ := h
          have z := ex_idx (pos := by assumption) c.units (ihE _ _ ha) (ihE _ _ hb) (plain_ok hs)
          exact no ⟨z, tx_val z (fun _ => rfl) fun ρ S Q E => by simp only [wpT, wpE]⟩ rfl
      · cases h
    · exact no (cCallX_ok c ihE h) rfl
    · exact no (cMaxD_ok c ihE h) rfl
    · rename_i elt tg iter ifs scope ps
      split at h
      · rename_i hh
        simp only [Bool.and_eq_true] at hh
        simp only [Option.bind_eq_some_iff] at h
        obtain ⟨it, hit, t, ht, h⟩ := h
        split at h
        · rename_i hsub
          simp only [Option.bind_eq_some_iff, Option.map_eq_some_iff] at h
          obtain ⟨pif, hpif, pe, hpe, rfl⟩ := h
          have ok0 := blkOk_by hh.2
          rw [← c.hN] at ok0
          have ok : BlkOk X.N X.env.scope _ _ := ⟨ok0.kind, ok0.uniq, ok0.ix, fun y hy e => (ok0.free y hy e).elim (fun z => .inl (c.sc.ce _ z)) fun z => (c.sc.fr _ z).elim .inr .inl, ok0.own⟩
          obtain ⟨ix, hfs⟩ := cI_ok c ihE hit
          rw [← c.hN] at ht hpif hpe
          rw [← c.hN] at hsub ⊢
          have fin : LcP X G W Φ elt [⟨tg, iter, ifs, 0⟩] scope (.lc ((ownOf X.N scope).map (·.2)) t it pif pe) → EX X G W Φ (.ListComp elt [⟨tg, iter, ifs, 0⟩] scope ps) (lkE (lockOf G C iter) (.lc ((ownOf X.N scope).map (·.2)) t it pif pe)) ∧ TX X G W Φ (.ListComp elt [⟨tg, iter, ifs, 0⟩] scope ps) (lkE (lockOf G C iter) (.lc ((ownOf X.N scope).map (·.2)) t it pif pe)) ∧ (isComp (.ListComp elt [⟨tg, iter, ifs, 0⟩] scope ps) = true → ∃ o q, lkE (lockOf G C iter) (.lc ((ownOf X.N scope).map (·.2)) t it pif pe) = lkE o q ∧ AsgP X G W Φ (.ListComp elt [⟨tg, iter, ifs, 0⟩] scope ps) q) :=
            fun z => ⟨lkE_ok (z.ex c.nodup), tx_never fun ρ S Q E w => by unfold lkE at w; split at w <;> simp only [wpT] at w, fun _ => ⟨_, _, rfl, z.asg c.nodup⟩⟩
          refine fin (lcP_of (c.calm hh.1) c.nodup ok ix (fun i hi => ?_) (fun s H D cl fp => ?_) (fun s H D cl fp => ?_) (fun s H D cl fp => ?_) hfs)
          · exact of_decide_eq_true (List.all_eq_true.mp hsub i hi)
          · exact cTg_ok (c.blk ok.kind s H D cl fp) (by rw [← c.hN]; exact ht)
          · exact cIfs_ok (fun e p h => (cE_ok G Φ n _ e p h _ _ (by rw [c.hN]; exact c.blk ok.kind s H D cl fp)).2.1) hpif
          · exact (cE_ok G Φ n _ _ _ hpe _ _ (by rw [c.hN]; exact c.blk ok.kind s H D cl fp)).1
        · cases h
      · cases h
    · rename_i kx vx tg iter ifs scope ps
      split at h
      · rename_i hh
        simp only [Bool.and_eq_true] at hh
        simp only [Option.bind_eq_some_iff] at h
        obtain ⟨it, hit, t, ht, h⟩ := h
        split at h
        · rename_i hsub
          simp only [Option.bind_eq_some_iff, Option.map_eq_some_iff] at h
          obtain ⟨pif, hpif, pk, hpk, pe, hpe, rfl⟩ := h
          have ok0 := blkOk_by hh.2
          rw [← c.hN] at ok0
          have ok : BlkOk X.N X.env.scope _ _ := ⟨ok0.kind, ok0.uniq, ok0.ix, fun y hy e => (ok0.free y hy e).elim (fun z => .inl (c.sc.ce _ z)) fun z => (c.sc.fr _ z).elim .inr .inl, ok0.own⟩
          obtain ⟨ix, hfs⟩ := cI_ok c ihE hit
          rw [← c.hN] at ht hpif hpe hpk
          rw [← c.hN] at hsub ⊢
          have g1 := fun (i : Nat) (hi : i ∈ tgIx t) => of_decide_eq_true (List.all_eq_true.mp hsub i hi)
          have g2 := fun (s : Shared) (H : Hp) (D : Addr) (cl : List (Str × Addr)) (fp : List Addr) => cTg_ok (c.blk ok.kind s H D cl fp) (by rw [← c.hN]; exact ht)
          have g3 := fun (s : Shared) (H : Hp) (D : Addr) (cl : List (Str × Addr)) (fp : List Addr) => cIfs_ok (X := X.blk s H scope (compEnvC scope cl D X.env) fp) (G := G) (W := WN) (Φ := Φ) (fun e p h => (cE_ok G Φ n _ e p h _ _ (by rw [c.hN]; exact c.blk ok.kind s H D cl fp)).2.1) hpif
          have g4 := fun (s : Shared) (H : Hp) (D : Addr) (cl : List (Str × Addr)) (fp : List Addr) => (cE_ok G Φ n _ _ _ hpk (X.blk s H scope (compEnvC scope cl D X.env) fp) WN (by rw [c.hN]; exact c.blk ok.kind s H D cl fp)).1
          have g5 := fun (s : Shared) (H : Hp) (D : Addr) (cl : List (Str × Addr)) (fp : List Addr) => (cE_ok G Φ n _ _ _ hpe (X.blk s H scope (compEnvC scope cl D X.env) fp) WN (by rw [c.hN]; exact c.blk ok.kind s H D cl fp)).1
          exact ⟨lkE_ok (ex_dc (c.calm hh.1) c.nodup ok ix g1 g2 g3 g4 g5 hfs), tx_never fun ρ S Q E w => by unfold lkE at w; split at w <;> simp only [wpT] at w, fun _ => ⟨_, _, rfl, asg_dc (c.calm hh.1) c.nodup ok ix g1 g2 g3 g4 g5 hfs⟩⟩
        · cases h
      · cases h
    · cases h
end
end Pv
set_option Elab.async false
set_option linter.all false
set_option maxRecDepth 100000
set_option maxHeartbeats 2000000
/-! Pv9: statements. -/
namespace Pv
open PySem PySem.Spec PyProof.Rows L2

structure DOk (K : PySem.W.Frag) (m : List Addr) (H : Hp) (D : PD) (DK : Ends) : Prop where
  nx : ∀ m' σ' H' ρ' S', Ext K m H m' H' → RlS K m' H' S' → RlE K m' H' σ' ρ' → D.nx ρ' S' → DK.nx σ' H'
  rt : KE K m H D.rt DK.rt
  bk : ∀ m' σ' H' ρ' S', Ext K m H m' H' → RlS K m' H' S' → RlE K m' H' σ' ρ' → D.bk ρ' S' → DK.bk σ' H'
  ct : ∀ m' σ' H' ρ' S', Ext K m H m' H' → RlS K m' H' S' → RlE K m' H' σ' ρ' → D.ct ρ' S' → DK.ct σ' H'
def KXS (K : PySem.W.Frag) (mg : Str → Option Value) (G : GT) (m : List Addr) (H : Hp) (E : PEX) (W : WX) : Prop :=
  ∀ ex cls d m' σ' H' ρ' S', Ext K m H m' H' → RlS K m' H' S' → RlE K m' H' σ' ρ' → RepX K mg G H' m' ex cls d → E ex ρ' S' → W cls d σ' H'
def RfS (X : Cx) (G : GT) (W : WX) (t : TS) (p : Env → Store → PD → PEX → Prop) : Prop :=
  ∀ m σ H ρ S D E DK, RlS X.K m H S → RlE X.K m H σ ρ → p ρ S D E → DOk X.K m H D DK → KXS X.K X.mg G m H E W → t DK σ H
def tCanS (K : PySem.W.Frag) (mg : Str → Option Value) (G : GT) (W : WX) (p : Env → Store → PD → PEX → Prop) : TS := fun DK σ H =>
  ∃ m ρ S D E, RlS K m H S ∧ RlE K m H σ ρ ∧ p ρ S D E ∧ DOk K m H D DK ∧ KXS K mg G m H E W
def SX (X : Cx) (G : GT) (W : WX) (Φ : Call) (T : Tab) (st : Stmt) (p : IS) : Prop := ∃ t, PS X st t ∧ RfS X G W t (wpS Φ T p)
def SsX (X : Cx) (G : GT) (W : WX) (Φ : Call) (T : Tab) (sts : List Stmt) (p : ISs) : Prop := ∃ t, PSs X sts t ∧ RfS X G W t (wpSs Φ T p)
section
variable {K : PySem.W.Frag} {mg : Str → Option Value} {G : GT} {m m' : List Addr} {H H' : Hp} {D : PD} {DK : Ends} {E : PEX} {W : WX}
theorem DOk.ext (d : DOk K m H D DK) (e : Ext K m H m' H') : DOk K m' H' D DK :=
  ⟨fun m2 σ2 H2 ρ2 S2 e2 => d.nx m2 σ2 H2 ρ2 S2 (e.trans e2), d.rt.ext e, fun m2 σ2 H2 ρ2 S2 e2 => d.bk m2 σ2 H2 ρ2 S2 (e.trans e2), fun m2 σ2 H2 ρ2 S2 e2 => d.ct m2 σ2 H2 ρ2 S2 (e.trans e2)⟩
theorem KXS.ext (k : KXS K mg G m H E W) (e : Ext K m H m' H') : KXS K mg G m' H' E W := fun x c d m2 σ2 H2 ρ2 S2 e2 => k x c d m2 σ2 H2 ρ2 S2 (e.trans e2)
theorem KXS.at (k : KXS K mg G m H E W) {σ : L2.St} {ρ : Env} (re : RlE K m H σ ρ) : KX K mg G m H (fun x S1 => E x ρ S1) (fun c d H' => W c d σ H') :=
  fun x c d m2 H2 S2 e2 r2 rx q => k x c d m2 σ H2 ρ S2 e2 r2 (re.ext e2) rx q
end
section
variable {X : Cx} {G : GT} {W : WX} {Φ : Call} {C : CC} {T : Tab} {e a b tgE : Expr} {p q : IE} {st : Stmt} {sts : List Stmt} {s : IS} {ss : ISs} {pos : Pos}
theorem SX.can (h : SX X G W Φ T st s) : PS X st (tCanS X.K X.mg G W (wpS Φ T s)) := by
  obtain ⟨t, P, R⟩ := h
  exact ⟨fun pins s σ H D I ⟨m, ρ, S, D', E, h1, h2, h3, h4, h5⟩ => P.run pins s σ H D I (R m σ H ρ S D' E D h1 h2 h3 h4 h5)⟩
theorem SsX.can (h : SsX X G W Φ T sts ss) : PSs X sts (tCanS X.K X.mg G W (wpSs Φ T ss)) := by
  obtain ⟨t, P, R⟩ := h
  exact ⟨fun pins s σ H D I ⟨m, ρ, S, D', E, h1, h2, h3, h4, h5⟩ => P.run pins s σ H D I (R m σ H ρ S D' E D h1 h2 h3 h4 h5)⟩
theorem ssx_nil : SsX X G W Φ T [] .nil := ⟨_, pss_nil, fun m σ H ρ S D E DK r re w d kx => d.nx m σ H ρ S Ext.refl r re (by simpa only [wpSs] using w)⟩
theorem ssx_one (h : SX X G W Φ T st s) : SsX X G W Φ T [st] (.cons s .nil) := by
  obtain ⟨t, P, R⟩ := h
  exact ⟨_, pss_one P, fun m σ H ρ S D E DK r re w d kx => R m σ H ρ S D E DK r re (by simpa only [wpSs] using w) d kx⟩
theorem ssx_cons {s2 : IS} {r : ISs} (h : SX X G W Φ T st s) (hr : SsX X G W Φ T sts (.cons s2 r)) : SsX X G W Φ T (st :: sts) (.cons s (.cons s2 r)) := by
  obtain ⟨t, P, R⟩ := h
  obtain ⟨u, P2, R2⟩ := hr
  refine ⟨_, pss_cons P P2, fun m σ H ρ S D E DK r re w d kx => ?_⟩
  simp only [wpSs] at w
  refine R m σ H ρ S _ E _ r re w ⟨fun m' σ' H' ρ' S' e r' re' q => ?_, d.rt, d.bk, d.ct⟩ kx
  exact R2 m' σ' H' ρ' S' D E DK r' re' q (d.ext e) (kx.ext e)
theorem sx_pass : SX X G W Φ T (.Pass pos) .pass := ⟨_, ps_pass, fun m σ H ρ S D E DK r re w d kx => d.nx m σ H ρ S Ext.refl r re (by simpa only [wpS] using w)⟩
theorem sx_brk : SX X G W Φ T (.Break pos) .brk := ⟨_, ps_break, fun m σ H ρ S D E DK r re w d kx => d.bk m σ H ρ S Ext.refl r re (by simpa only [wpS] using w)⟩
theorem sx_cont : SX X G W Φ T (.Continue pos) .cont := ⟨_, ps_continue, fun m σ H ρ S D E DK r re w d kx => d.ct m σ H ρ S Ext.refl r re (by simpa only [wpS] using w)⟩
theorem sx_expr (h : EX X G W Φ e p) (hs : swapsWith e none pos.line X.env = pure false) : SX X G W Φ T (.Expr e pos) (.expr p) := by
  obtain ⟨t, P, R⟩ := h
  refine ⟨_, ps_expr P hs, fun m σ H ρ S D E DK r re w d kx => ?_⟩
  simp only [wpS] at w
  exact R m σ H ρ S _ _ _ r re w (fun m' H' v pv S' e r' _ q => d.nx m' σ H' ρ S' e r' (re.ext e) q) (kx.at re)
theorem sx_ret (h : EX X G W Φ e p) : SX X G W Φ T (.Return (some e) pos) (.ret p) := by
  obtain ⟨t, P, R⟩ := h
  refine ⟨_, ps_ret P, fun m σ H ρ S D E DK r re w d kx => ?_⟩
  simp only [wpS] at w
  exact R m σ H ρ S _ _ _ r re w d.rt (kx.at re)
theorem sx_retN : SX X G W Φ T (.Return none pos) .retN := ⟨_, ps_retN, fun m σ H ρ S D E DK r re w d kx => d.rt.here r .non (by simpa only [wpS] using w)⟩
theorem sx_if {x y : List Stmt} {sx sy : ISs} (h : TX X G W Φ e p) (hx : SsX X G W Φ T x sx) (hy : SsX X G W Φ T y sy) : SX X G W Φ T (.If e x y pos) (.ifs p sx sy) := by
  obtain ⟨t, P, R⟩ := h
  obtain ⟨t1, P1, R1⟩ := hx
  obtain ⟨t2, P2, R2⟩ := hy
  refine ⟨_, ps_if P P1 P2, fun m σ H ρ S D E DK r re w d kx => ?_⟩
  simp only [wpS] at w
  refine R m σ H ρ S _ _ _ r re w (fun m' H' k S' e r' q => ?_) (kx.at re)
  cases k with
  | true => simp only [if_true] at q ⊢; exact R1 m' σ H' ρ S' D E DK r' (re.ext e) q (d.ext e) (kx.ext e)
  | false => simp only [Bool.false_eq_true, if_false] at q ⊢; exact R2 m' σ H' ρ S' D E DK r' (re.ext e) q (d.ext e) (kx.ext e)
/-- a store of a name, of a tuple of names -/
theorem sx_setN {i : Nat} {x : Str} {p1 : Pos} (h : EX X G W Φ e p) (hN : X.N.Nodup) (hi : X.N[i]? = some x) (hx : L2.Loc X.env.scope x) (hf : X.fn x = true ∨ X.env.scope.names.lookup x = some .local) (hs : swapsWith e (some (.Name x p1)) pos.line X.env = pure false) :
    SX X G W Φ T (.Assign [.Name x p1] e pos) (.asg (.nm i) p) := by
  obtain ⟨t, P, R⟩ := h
  refine ⟨_, ps_set hN hi hx P hs hf, fun m σ H ρ S D E DK r re w d kx => ?_⟩
  simp only [wpS, wpG] at w
  exact R m σ H ρ S _ _ _ r re w (fun m' H' v pv S' e r' hv q => d.nx m' _ H' _ S' e r' ((re.ext e).set hv i) q) (kx.at re)
theorem sx_setLc {i : Nat} {x : Str} {p1 : Pos} {o : Option (Nat × Nat)} (h : AsgP X G W Φ e p) (hi : X.N[i]? = some x) (hx : X.env.scope.names.lookup x = some .local)
    (hs : swapsWith e (some (.Name x p1)) pos.line X.env = pure true) : SX X G W Φ T (.Assign [.Name x p1] e pos) (.asg (.nm i) (lkE o p)) := by
  obtain ⟨ts, R, P⟩ := h
  have P := P i x p1 pos hi hx hs
  cases o with
  | none =>
    refine ⟨_, P, fun m σ H ρ S D E DK r re w d kx => ?_⟩
    simp only [lkE, wpS, wpG] at w
    exact R m σ H ρ S _ _ _ r re w (fun m' H' v pv S' e r' hv q => d.nx m' _ H' _ S' e r' ((re.ext e).set hv i) q) (kx.at re)
  | some o =>
    refine ⟨_, ps_lock P, fun m σ H ρ S D E DK r re w d kx => ?_⟩
    simp only [lkE, wpS, wpG, wpE] at w
    obtain ⟨j, kvs, a, xs, hs, hj, hS, hH, hd, w⟩ := lock_at r re w
    refine ⟨a, .dK xs, hH, trivial, fun od => ?_⟩
    have el : Ext X.K m H m (upd H a (.frz od (.dK xs))) := Ext.putO hH (.dK _)
    refine R m σ _ ρ _ _ _ _ (r.lock hS hj hH hd od) (re.ext el) (w (od, xs)) (fun m' H' v pv S' e' r' hv q => ?_) ((kx.at re).ext el)
    obtain ⟨h1, r2⟩ := open_at hj e' r' q.1
    have eo := open_ext hH e' h1
    exact ⟨h1, d.nx m' _ _ _ _ eo r2 ((re.ext eo).set (RepV.ext (Ext.putO h1 (.dF _ _)) _ _ hv) i) q.2⟩
/-- a statement while a dict is locked -/
theorem sx_lock {i : Nat} (h : SX X G W Φ T st s) : SX X G W Φ T st (.lock i s) := by
  obtain ⟨t, P, R⟩ := h
  refine ⟨_, ps_lock P, fun m σ H ρ S D E DK r re w d kx => ?_⟩
  simp only [wpS] at w
  obtain ⟨j, kvs, a, xs, hs, hj, hS, hH, hd, w⟩ := lock_at r re w
  refine ⟨a, .dK xs, hH, trivial, fun od => ?_⟩
  have el : Ext X.K m H m (upd H a (.frz od (.dK xs))) := Ext.putO hH (.dK _)
  have go : ∀ m' σ' H' ρ' S' (A : Env → Store → Prop) (B : L2.St → Hp → Prop), (∀ m' σ' H' ρ' S', Ext X.K m H m' H' → RlS X.K m' H' S' → RlE X.K m' H' σ' ρ' → A ρ' S' → B σ' H') →
      Ext X.K m (upd H a (.frz od (.dK xs))) m' H' → RlS X.K m' H' S' → RlE X.K m' H' σ' ρ' → (S'[j]? = some (.dctF kvs (od, xs)) ∧ A ρ' (S'.set j (.dct kvs))) → H' a = some (.frz od (.dK xs)) ∧ B σ' (upd H' a (.dK xs)) := fun m' σ' H' ρ' S' A B f e' r' re' q => by
    obtain ⟨h1, r2⟩ := open_at hj e' r' q.1
    exact ⟨h1, f m' _ _ _ _ (open_ext hH e' h1) r2 (re'.ext (Ext.putO h1 (.dF _ _))) q.2⟩
  refine R m σ _ ρ _ (D.unl j kvs (od, xs)) E _ (r.lock hS hj hH hd od) (re.ext el) (w (od, xs)) ⟨fun m' σ' H' ρ' S' e' r' re' q => go m' σ' H' ρ' S' D.nx DK.nx d.nx e' r' re' q, fun m' H' v pv S' e' r' hv q => ?_, fun m' σ' H' ρ' S' e' r' re' q => go m' σ' H' ρ' S' D.bk DK.bk d.bk e' r' re' q, fun m' σ' H' ρ' S' e' r' re' q => go m' σ' H' ρ' S' D.ct DK.ct d.ct e' r' re' q⟩ (kx.ext el)
  obtain ⟨h1, r2⟩ := open_at hj e' r' q.1
  exact ⟨h1, d.rt m' _ _ _ _ (open_ext hH e' h1) r2 (RepV.ext (Ext.putO h1 (.dF _ _)) _ _ hv) q.2⟩
theorem sx_setT {is : List Nat} {es : List Expr} {k1 : Nat} {p1 : Pos} (h : EX X G W Φ e p) (hg : GX X (.Tuple es k1 p1) (.tp is)) (hs : swapsWithSole [.Tuple es k1 p1] e pos.line X.env = pure false) (hw : swappedStores [.Tuple es k1 p1] e X.env = pure none) :
    SX X G W Φ T (.Assign [.Tuple es k1 p1] e pos) (.asg (.tp is) p) := by
  obtain ⟨t, P, R⟩ := h
  obtain ⟨g, Pg, Rg⟩ := hg
  refine ⟨_, ps_asg P Pg hs hw rfl, fun m σ H ρ S D E DK r re w d kx => ?_⟩
  simp only [wpS, wpG] at w
  refine R m σ H ρ S _ _ _ r re w (fun m' H' v pv S' e r' hv q => ?_) (kx.at re)
  exact Rg m' σ H' ρ S' v pv _ _ r' (re.ext e) (.of hv) q fun σ' ρ' re' _ q' => d.nx m' σ' H' ρ' S' e r' re' q'
theorem sx_par {i j : Nat} {x y : Str} {px py pt pt2 : Pos} {kt k2 : Nat} {ps : IEs} (hc : X.calm = true) (hN : X.N.Nodup) (hi : X.N[i]? = some x) (hj : X.N[j]? = some y) (hij : i ≠ j)
    (hx : X.env.scope.names.lookup x = some .local) (hy : X.env.scope.names.lookup y = some .local) (ha : AX X G W Φ [a, b] ps)
    (hw : swappedStores [.Tuple [.Name x px, .Name y py] kt pt] (.Tuple [a, b] k2 pt2) X.env = pure (some [x, y])) :
    SX X G W Φ T (.Assign [.Tuple [.Name x px, .Name y py] kt pt] (.Tuple [a, b] k2 pt2) pos) (.asg (.tp [i, j]) (.tup ps)) := by
  obtain ⟨t, P, R⟩ := ha
  refine ⟨_, ps_par hc hN hi hj hij hx hy P hw rfl, fun m σ H ρ S D E DK r re w d kx => ?_⟩
  simp only [wpS, wpG, wpE] at w
  refine R m σ H ρ S _ _ _ r re w (fun m' H' vs pvs S' e r' hv q => ?_) (kx.at re)
  obtain ⟨_, hl, q⟩ := q
  match pvs, hv, hl, q with
  | [v, w], hv, _, q =>
    obtain ⟨x, y, rfl, h1, h2⟩ := rep2 hv
    exact ⟨x, y, rfl, d.nx m' _ H' _ S' e r' (((re.ext e).set h1 i).set h2 j) q⟩
  | [], _, hl, _ => cases hl
  | [_], _, hl, _ => cases hl
  | _ :: _ :: _ :: _, _, hl, _ => simp at hl
theorem rep3 {K : PySem.W.Frag} {H : Hp} {m : List Addr} {xs : List V} {v w z : PV} (h : RepL K H m xs [v, w, z]) : ∃ x y u, xs = [x, y, u] ∧ RepV K H m x v ∧ RepV K H m y w ∧ RepV K H m u z := by
  cases h with
  | cons h1 h =>
    obtain ⟨x, y, rfl, h2, h3⟩ := rep2 h
    exact ⟨_, _, _, rfl, h1, h2, h3⟩
theorem sx_par3 {i j l : Nat} {x y z : Str} {d : Expr} {px py pz pt pt2 : Pos} {kt k2 : Nat} {ps : IEs} (hc : X.calm = true) (hN : X.N.Nodup) (hi : X.N[i]? = some x) (hj : X.N[j]? = some y) (hl : X.N[l]? = some z) (hij : i ≠ j) (hil : i ≠ l) (hjl : j ≠ l)
    (hx : X.env.scope.names.lookup x = some .local) (hy : X.env.scope.names.lookup y = some .local) (hz : X.env.scope.names.lookup z = some .local) (ha : AX X G W Φ [a, b, d] ps)
    (hw : swappedStores [.Tuple [.Name x px, .Name y py, .Name z pz] kt pt] (.Tuple [a, b, d] k2 pt2) X.env = pure (some [x, y, z])) :
    SX X G W Φ T (.Assign [.Tuple [.Name x px, .Name y py, .Name z pz] kt pt] (.Tuple [a, b, d] k2 pt2) pos) (.asg (.tp [i, j, l]) (.tup ps)) := by
  obtain ⟨t, P, R⟩ := ha
  refine ⟨_, ps_par3 hc hN hi hj hl hij hil hjl hx hy hz P hw rfl, fun m σ H ρ S D E DK r re w d kx => ?_⟩
  simp only [wpS, wpG, wpE] at w
  refine R m σ H ρ S _ _ _ r re w (fun m' H' vs pvs S' e r' hv q => ?_) (kx.at re)
  obtain ⟨_, hl, q⟩ := q
  match pvs, hv, hl, q with
  | [v, w, z], hv, _, q =>
    obtain ⟨x, y, u, rfl, h1, h2, h3⟩ := rep3 hv
    exact ⟨x, y, u, rfl, d.nx m' _ H' _ S' e r' ((((re.ext e).set h1 i).set h2 j).set h3 l) q⟩
  | [], _, hl, _ => cases hl
  | [_], _, hl, _ => cases hl
  | [_, _], _, hl, _ => cases hl
  | _ :: _ :: _ :: _ :: _, _, hl, _ => simp at hl
theorem PSet.or {t t' : TSet} (h : PSet X t) (h' : PSet X t') : PSet X (fun o i v H Q => t o i v H Q ∨ t' o i v H Q) := by
  intro pins s σ H o i v ov iv u Q I ro ri rv q
  rcases q with q | q
  · exact h pins s σ H o i v ov iv u Q I ro ri rv q
  · exact h' pins s σ H o i v ov iv u Q I ro ri rv q
theorem sx_setS {o k : Expr} {po pk : IE} {p1 : Pos} (hu : X.A.units + 190 < cLine) (h : EX X G W Φ e p) (ho : EX X G W Φ o po) (hk : EX X G W Φ k pk) (hs : swapsWithSole [.Subscript o k p1] e pos.line X.env = pure false) (hw : swappedStores [.Subscript o k p1] e X.env = pure none)
    (ha : ∀ v, assign (.Subscript o k p1) X.env v = (do
      let ov ← holding [v] (eval o X.env)
      let iv ← holding [v, ov] (eval k X.env)
      standAt p1
      holding [v, ov, iv] (setItem ov iv v)
      release [v, ov, iv] [])) : SX X G W Φ T (.Assign [.Subscript o k p1] e pos) (.asg (.sub po pk) p) := by
  obtain ⟨t, P, R⟩ := h
  obtain ⟨t1, P1, R1⟩ := ho
  obtain ⟨t2, P2, R2⟩ := hk
  refine ⟨_, ps_asg P (pg_sub P1 P2 (PSet.or set_list (set_dict (by omega))) ha) hs hw rfl, fun m σ H ρ S D E DK r re w d kx => ?_⟩
  simp only [wpS, wpG] at w
  refine R m σ H ρ S _ _ _ r re w (fun m1 H1 v pv S1 e1 r1 hv q1 => ?_) (kx.at re)
  have kx1 : KX X.K X.mg G m1 H1 (fun x S1 => E x ρ S1) (fun c d H' => W c d σ H') := (kx.at re).ext e1
  refine R1 m1 σ H1 ρ S1 _ _ _ r1 (re.ext e1) q1 (fun m2 H2 ov pov S2 e2 r2 hov q2 => ?_) kx1
  refine R2 m2 σ H2 ρ S2 _ _ _ r2 (re.ext (e1.trans e2)) q2 (fun m3 H3 kv pkv S3 e3 r3 hkv q3 => ?_) (kx1.ext e2)
  have hov := RepV.ext e3 _ _ hov
  have hv := RepV.ext (e2.trans e3) _ _ hv
  have e13 := (e1.trans e2).trans e3
  cases hov with
  | @ref l i h1 =>
    obtain ⟨oo, hS, q⟩ := q3
    cases oo with
    | lst us =>
      cases hkv with
      | int n =>
        obtain ⟨j, hj, q⟩ := q
        obtain ⟨l', ys, g1, g2, g3⟩ := r3.at hS
        rw [h1] at g1
        cases g1
        have ep : Ext X.K m3 H3 m3 (upd H3 l (.lst (ys.set j v))) := Ext.put g2
        exact .inl ⟨l, ys, n, j, rfl, rfl, g2, by rw [g3.len]; exact hj, d.nx m3 σ _ ρ _ (e13.trans ep) (r3.put hS h1 g2 (g3.set hv j)) (re.ext (e13.trans ep)) q⟩
      | _ => exact q.elim
    | frz us => exact q.elim
    | dct us =>
      obtain ⟨kk, ek, hz, q⟩ := q
      obtain ⟨l', ys, g1, g2, g3⟩ := r3.dct hS
      rw [h1] at g1
      cases g1
      have ey := rep_key hkv ek
      subst ey
      have ep : Ext X.K m3 H3 m3 (upd H3 l (.dK (putK ys kk v))) := Ext.putO g2 (.dK _)
      exact .inr ⟨l, _, rfl, DPut.k g2 (by rw [g3.len]; exact hz), d.nx m3 σ _ ρ _ (e13.trans ep) (r3.putD hS h1 g2 (g3.put hv)) (re.ext (e13.trans ep)) q⟩
    | ins _ _ => exact q.elim
    | dctT _ => exact q.elim
    | dctF _ _ => exact q.elim
  | _ => exact q3.elim
/-- d[(e, ..)] = v -/
theorem sx_putT {o : Expr} {es : List Expr} {x1 : Nat} {p2 : Pos} {po : IE} {ps : IEs} {p1 : Pos} (hu : X.A.units + 190 < cLine) (h : EX X G W Φ e p) (ho : EX X G W Φ o po) (hk : AX X G W Φ es ps) (hs : swapsWithSole [.Subscript o (.Tuple es x1 p2) p1] e pos.line X.env = pure false) (hw : swappedStores [.Subscript o (.Tuple es x1 p2) p1] e X.env = pure none)
    (ha : ∀ v, assign (.Subscript o (.Tuple es x1 p2) p1) X.env v = (do
      let ov ← holding [v] (eval o X.env)
      let iv ← holding [v, ov] (eval (.Tuple es x1 p2) X.env)
      standAt p1
      holding [v, ov, iv] (setItem ov iv v)
      release [v, ov, iv] [])) : SX X G W Φ T (.Assign [.Subscript o (.Tuple es x1 p2) p1] e pos) (.setT po ps p) := by
  obtain ⟨t, P, R⟩ := h
  obtain ⟨t1, P1, R1⟩ := ho
  obtain ⟨t2, P2, R2⟩ := hk
  refine ⟨_, ps_asg P (pg_sub P1 (pe_tup P2) (PSet.or set_list (set_dict (by omega))) ha) hs hw rfl, fun m σ H ρ S D E DK r re w d kx => ?_⟩
  simp only [wpS, wpG] at w
  refine R m σ H ρ S _ _ _ r re w (fun m1 H1 v pv S1 e1 r1 hv q1 => ?_) (kx.at re)
  have kx1 : KX X.K X.mg G m1 H1 (fun x S1 => E x ρ S1) (fun c d H' => W c d σ H') := (kx.at re).ext e1
  refine R1 m1 σ H1 ρ S1 _ _ _ r1 (re.ext e1) q1 (fun m2 H2 ov pov S2 e2 r2 hov q2 => ?_) kx1
  refine R2 m2 σ H2 ρ S2 _ _ _ r2 (re.ext (e1.trans e2)) q2 (fun m3 H3 kxs ws S3 e3 r3 hkv q3 => ?_) (kx1.ext e2)
  refine ⟨by rw [hkv.len]; exact q3.1, fun pp n => ?_⟩
  have en := Ext.new (K := X.K) (m := m3) (.tup kxs) n
  have r4 := r3.new (.tup kxs) n
  have e34 := e3.trans en
  have hov := RepV.ext e34 _ _ hov
  have hv := RepV.ext (e2.trans e34) _ _ hv
  have e13 := (e1.trans e2).trans e34
  cases hov with
  | @ref l i h1 =>
    obtain ⟨kvs, ks, hS, hks, hz, q⟩ := q3.2
    obtain ⟨l', ys, g1, g2, g3⟩ := r4.dctT hS
    rw [h1] at g1
    cases g1
    have e2' : upd H3 pp (.tup kxs) pp = some (.tup (ks.map kV)) := by rw [repL_keys hkv hks]; exact upd_same
    have ep : Ext X.K m3 (upd H3 pp (.tup kxs)) m3 (upd (upd H3 pp (.tup kxs)) l (.dT (putK ys ks v))) := Ext.putO g2 (.dT _)
    exact .inr ⟨l, _, rfl, DPut.t g2 e2' (by rw [g3.len]; exact hz), d.nx m3 σ _ ρ _ (e13.trans ep) (r4.putT hS h1 g2 (g3.put hv)) (re.ext (e13.trans ep)) q⟩
  | _ => exact q3.2.elim
/-- d[k] += e, of ints in a dict -/
def Aop : BOp → Operator := Bop
theorem sx_augD {dE kE : Expr} {pd pk : IE} {op : BOp} {tpos : Pos} (hop : op = .add ∨ op = .sub) (hu : X.A.units + 190 < cLine) (hd : EX X G W Φ dE pd) (hk : EX X G W Φ kE pk) (h : EX X G W Φ e p)
    (ha : ∀ ov iv new, augStore kE ov iv new = (do holding [new, ov, iv] (setItem ov iv new); release [new, ov, iv] []; pure .next)) : SX X G W Φ T (.AugAssign (.Subscript dE kE tpos) (Bop op) e pos) (.augD pd pk op p) := by
  obtain ⟨t, P, R⟩ := h
  obtain ⟨t1, P1, R1⟩ := hd
  obtain ⟨t2, P2, R2⟩ := hk
  have io : ∃ f : Int → Int → Int, InOp X (Bop op) (rI0 fun i j => .int (f i j)) ∧ ∀ v w S Q, augQ op v w S Q → ∃ i j, v = .int i ∧ w = .int j ∧ Q (.int (f i j)) S := by
    rcases hop with rfl | rfl
    · refine ⟨fun i j => i + j, fun pins s σ H x y u v Q I rx ry h => iop_add pins s σ H x y u v Q I rx ry h, fun v w S Q q => ?_⟩
      cases v <;> cases w <;> first | exact ⟨_, _, rfl, rfl, q.2⟩ | exact q.elim
    · refine ⟨fun i j => i - j, fun pins s σ H x y u v Q I rx ry h => iop_sub pins s σ H x y u v Q I rx ry h, fun v w S Q q => ?_⟩
      cases v <;> cases w <;> first | exact ⟨_, _, rfl, rfl, q.2⟩ | exact q.elim
  obtain ⟨f, io, hq⟩ := io
  refine ⟨_, ps_daug (by omega) P1 P2 P io ha, fun m σ H ρ S D E DK r re w d kx => ?_⟩
  simp only [wpS] at w
  refine R1 m σ H ρ S _ _ _ r re w (fun m1 H1 dv pdv S1 e1 r1 hdv q1 => ?_) (kx.at re)
  have kx1 : KX X.K X.mg G m1 H1 (fun x S1 => E x ρ S1) (fun c d H' => W c d σ H') := (kx.at re).ext e1
  refine R2 m1 σ H1 ρ S1 _ _ _ r1 (re.ext e1) q1 (fun m2 H2 kv pkv S2 e2 r2 hkv q2 => ?_) kx1
  have hdv := RepV.ext e2 _ _ hdv
  cases hdv with
  | @ref l i h1 =>
    obtain ⟨us, kk, hS, ek, z, ez, q2⟩ := q2
    obtain ⟨l', ys, g1, g2, g3⟩ := r2.dct hS
    rw [h1] at g1
    cases g1
    have ey := rep_key hkv ek
    subst ey
    rcases g3.get (k := kk) with ⟨z1, z2⟩ | ⟨z', zv, z1, z2, z3⟩
    · rw [z1] at ez; cases ez
    rw [z1] at ez; cases ez
    refine ⟨l, zv, rfl, by rw [← z2]; exact DGet.k g2, ?_⟩
    refine R m2 σ H2 ρ S2 _ _ _ r2 (re.ext (e1.trans e2)) q2 (fun m3 H3 y py S3 e3 r3 hy q3 => ?_) (kx1.ext e2)
    obtain ⟨i1, j1, ep1, ep2, q4⟩ := hq _ _ _ _ q3
    subst ep1 ep2
    have z3 := RepV.ext e3 _ _ z3
    cases z3
    cases hy
    obtain ⟨us3, kk3, hS3, ek3, hz, q5⟩ := q4
    rw [ek] at ek3
    cases ek3
    have h13 := e3.at h1
    obtain ⟨l', ys3, g1, l2, l3⟩ := r3.dct hS3
    rw [h13] at g1
    cases g1
    have ep : Ext X.K m3 H3 m3 (upd H3 l (.dK (putK ys3 kk (.int (f i1 j1))))) := Ext.putO l2 (.dK _)
    have e13 := (e1.trans e2).trans e3
    exact ⟨_, _, rfl, rfl, _, DPut.k l2 (by rw [l3.len]; exact hz), d.nx m3 σ _ ρ _ (e13.trans ep) (r3.putD hS3 h13 l2 (l3.put (.int _))) (re.ext (e13.trans ep)) q5⟩
  | _ => exact q2.elim
/-! ### loops -/
theorem sx_while {b : List Stmt} {sb : ISs} (hp : PassesOwn (model X.prog X.w) X.A X.env X.xe) (h : TX X G W Φ e p) (hb : SsX X G W Φ T b sb) : SX X G W Φ T (.While e b [] pos) (.whl p sb) := by
  obtain ⟨t, P, R⟩ := h
  obtain ⟨t1, P1, R1⟩ := hb
  refine ⟨_, ps_while hp P P1, fun m σ H ρ S D E DK r re w d kx => ?_⟩
  simp only [wpS] at w
  obtain ⟨n0, w⟩ := w
  generalize hT : (fun (ρ : Env) (S : Store) (K : Bool → Store → Prop) => wpT Φ p ρ S K fun x S1 => E x ρ S1) = Tt at w
  generalize hB : (fun (ρ : Env) (S : Store) (N : Env → Store → Prop) => wpSs Φ T sb ρ S { D with nx := N, ct := N, bk := D.nx } E) = Bb at w
  refine ⟨fun n σ' H' => ∃ m' ρ' S', Ext X.K m H m' H' ∧ RlS X.K m' H' S' ∧ RlE X.K m' H' σ' ρ' ∧ whileN Tt Bb D.nx n ρ' S', ⟨n0, m, ρ, S, Ext.refl, r, re, w⟩, ?_⟩
  rintro n σ1 H1 ⟨m1, ρ1, S1, e1, r1, re1, w1⟩
  cases n with
  | zero => exact w1.elim
  | succ n =>
    simp only [whileN] at w1
    rw [← hT] at w1
    refine R m1 σ1 H1 ρ1 S1 _ _ _ r1 re1 w1 (fun m2 H2 k S2 e2 r2 q => ?_) ((kx.ext e1).at re1)
    have e12 := e1.trans e2
    cases k with
    | true =>
      simp only [if_true] at q ⊢
      refine ⟨fun σ' H' => ∃ m' ρ' S', Ext X.K m H m' H' ∧ RlS X.K m' H' S' ∧ RlE X.K m' H' σ' ρ' ∧ whileN Tt Bb D.nx n ρ' S', fun σ' H' h => ⟨n, by omega, h⟩, ?_⟩
      rw [← hB] at q
      have nxt : ∀ m' σ' H' ρ' S', Ext X.K m2 H2 m' H' → RlS X.K m' H' S' → RlE X.K m' H' σ' ρ' → whileN Tt Bb D.nx n ρ' S' → ∃ m' ρ' S', Ext X.K m H m' H' ∧ RlS X.K m' H' S' ∧ RlE X.K m' H' σ' ρ' ∧ whileN Tt Bb D.nx n ρ' S' :=
        fun m' σ' H' ρ' S' e' r' re' q' => ⟨m', ρ', S', e12.trans e', r', re', q'⟩
      rw [hB] at q
      rw [← hB] at q
      exact R1 m2 σ1 H2 ρ1 S2 _ E _ r2 (re1.ext e2) q ⟨fun m' σ' H' ρ' S' e' r' re' q' => nxt m' σ' H' ρ' S' e' r' re' (by rw [← hT, ← hB]; exact q'), (d.ext e12).rt, (d.ext e12).nx, fun m' σ' H' ρ' S' e' r' re' q' => nxt m' σ' H' ρ' S' e' r' re' (by rw [← hT, ← hB]; exact q')⟩ (kx.ext e12)
    | false =>
      simp only [Bool.false_eq_true, if_false] at q ⊢
      exact d.nx m2 σ1 H2 ρ1 S2 e12 r2 (re1.ext e2) q
theorem sx_for {tg : Tg} {it : II} {b : List Stmt} {sb : ISs} (hc : X.calm = true) (hp : PassesOwn (model X.prog X.w) X.A X.env X.xe) (hi : IX X G W Φ tgE e it) (hg : GX X tgE tg) (hb : SsX X G W Φ T b sb) (hs : ∀ x, foldedSetIterable e X.env x = pure x) :
    SX X G W Φ T (.For tgE e b [] pos) (.for_ tg it sb) := by
  obtain ⟨wi, P, R⟩ := hi
  obtain ⟨g, Pg, Rg⟩ := hg
  obtain ⟨t1, P1, R1⟩ := hb
  refine ⟨_, ps_for hp hc P Pg P1 hs, fun m σ H ρ S D E DK r re w d kx => ?_⟩
  simp only [wpS] at w
  refine R m σ H ρ S _ _ _ r re w (fun m1 H1 J src items S1 e1 r1 io w1 => ?_) (kx.at re)
  generalize hB : (fun (x : PV) (ρ : Env) (S : Store) (N : Env → Store → Prop) => bindQ tg x ρ S fun ρ1 => wpSs Φ T sb ρ1 S { D with nx := N, ct := N, bk := D.nx } E) = Bb at w1
  refine ⟨fun n mm σ' H' => ∃ m' ρ' S', Ext X.K m1 H1 m' H' ∧ RlS X.K m' H' S' ∧ RlE X.K m' H' σ' ρ' ∧ mm = items.length - n ∧ n ≤ items.length ∧ forL src Bb D.nx (items.drop n) ρ' S', ⟨items.length, m1, ρ, S1, Ext.refl, r1, re.ext e1, by simp, Nat.zero_le _, by simpa using w1⟩, ?_⟩
  rintro n mm σ2 H2 ⟨m2, ρ2, S2, e2, r2, re2, rfl, hn, w2⟩
  have io2 := io n m2 H2 S2 e2 r2
  have e12 := e1.trans e2
  by_cases hlt : n < items.length
  · right
    rw [List.drop_eq_getElem_cons hlt] at w2
    simp only [forL] at w2
    obtain ⟨so, w2⟩ := w2
    obtain ⟨go, yld⟩ := (io2 so).2 items[n] (List.getElem?_eq_getElem hlt)
    refine ⟨go, fun σ' H' => ∃ m' ρ' S', Ext X.K m1 H1 m' H' ∧ RlS X.K m' H' S' ∧ RlE X.K m' H' σ' ρ' ∧ forL src Bb D.nx (items.drop (n + 1)) ρ' S', fun σ' H' ⟨m', ρ', S', a, b, c, f⟩ => ⟨items.length - (n + 1), by omega, m', ρ', S', a, b, c, rfl, hlt, f⟩, fun x H3 hy => ?_⟩
    obtain ⟨e3, r3, hx⟩ := yld x H3 hy
    rw [← hB] at w2
    refine Rg m2 σ2 H3 ρ2 S2 x items[n] _ _ r3 (re2.ext e3) hx w2 fun σ' ρ' re' _ q => ?_
    have e23 := e2.trans e3
    have e13 := e1.trans e23
    have nxt : ∀ m' σ' H' ρ' S', Ext X.K m2 H3 m' H' → RlS X.K m' H' S' → RlE X.K m' H' σ' ρ' → forL src Bb D.nx (items.drop (n + 1)) ρ' S' → ∃ m' ρ' S', Ext X.K m1 H1 m' H' ∧ RlS X.K m' H' S' ∧ RlE X.K m' H' σ' ρ' ∧ forL src Bb D.nx (items.drop (n + 1)) ρ' S' :=
      fun m' σ' H' ρ' S' e' r' re' q' => ⟨m', ρ', S', e23.trans e', r', re', q'⟩
    exact R1 m2 σ' H3 ρ' S2 _ E _ r3 re' q ⟨fun m' σ' H' ρ' S' e' r' re' q' => nxt m' σ' H' ρ' S' e' r' re' (by rw [← hB]; exact q'), (d.ext e13).rt, (d.ext e13).nx, fun m' σ' H' ρ' S' e' r' re' q' => nxt m' σ' H' ρ' S' e' r' re' (by rw [← hB]; exact q')⟩ (kx.ext e13)
  · left
    have hn2 : n = items.length := by omega
    subst hn2
    rw [List.drop_length] at w2
    simp only [forL] at w2
    obtain ⟨so, w2⟩ := w2
    exact ⟨(io2 so).1 (Nat.le_refl _), d.nx m2 σ2 H2 ρ2 S2 e12 r2 re2 w2⟩
/-! ### raise -/
theorem sx_raise {x : Str} {c j : Nat} {z : Str} {p0 p1 p2 : Pos} (hc : X.calm = true) (tk : Takes X W) (hG : G.excs[c]? = some (x, none)) (ok : ExcOk X x) (hg : Gl X x) (hdb : (x == ("__debug__" : Str)) = false) :
    SX X G W Φ T (.Raise (some (.Call (.Name x p0) [.Constant (.str z) j p1] [] p2)) none pos) (.raise c) := by
  obtain ⟨A, B, newId, initId, bmB, F, q, gC, kC, rr⟩ := ok
  refine ⟨_, ps_raise hc tk (pmk_own F q gC kC rr hg hdb), fun m σ H ρ S D E DK r re w d kx => ?_⟩
  simp only [wpS] at w
  exact kx ⟨c, none⟩ _ _ m σ H ρ S Ext.refl r re ⟨x, none, hG, gC, .inl ⟨rfl, rfl, rfl⟩⟩ w
theorem sx_raiseF {x f : Str} {c : Nat} {p0 p2 : Pos} (hc : X.calm = true) (hr : Room 0 X.A) (tk : Takes X W) (hG : G.excs[c]? = some (x, some f)) (ok : ExcFOk X.K X.mg x f) (hg : Gl X x) (ha : EX X G W Φ a p) (hs : notStar a = true) :
    SX X G W Φ T (.Raise (some (.Call (.Name x p0) [a] [] p2)) none pos) (.raiseF c p) := by
  obtain ⟨A, gC, _, _, mk⟩ := ok
  obtain ⟨t, P, R⟩ := ha
  refine ⟨_, ps_raise hc tk (mk X rfl rfl hr hg a _ p0 p2 (pa_cons P pa_nil (star_cons hs)) hs), fun m σ H ρ S D E DK r re w d kx => ?_⟩
  simp only [wpS] at w
  refine R m σ H ρ S _ _ _ r re w (fun m1 H1 v pv S1 e1 r1 hv q => ?_) (kx.at re)
  refine ⟨v, rfl, fun dd hd => ?_⟩
  have e2 : Ext X.K m1 H1 m1 (upd H1 dd (.xd [(f, v)])) := Ext.new _ hd
  exact kx ⟨c, some pv⟩ _ _ m1 σ _ ρ S1 (e1.trans e2) (r1.new _ hd) (re.ext (e1.trans e2)) ⟨x, some f, hG, gC, .inr ⟨f, pv, dd, v, rfl, rfl, rfl, upd_same, RepV.ext e2 _ _ hv⟩⟩ q
end
end Pv
set_option Elab.async false
set_option linter.all false
set_option maxRecDepth 100000
set_option maxHeartbeats 1000000
/-! Pv9m: fields of objects are written. -/
namespace Pv
open PySem PySem.Spec PyProof.Rows L2
section
variable {X : Cx} {G : GT} {W : WX} {Φ : Call} {T : Tab} {o e : Expr} {p po : IE} {pos p1 : Pos}
theorem RepF.put {K : PySem.W.Frag} {H : Hp} {m : List Addr} {f : Str} {y : V} {w : PV} (h : RepV K H m y w) : ∀ {xs : List (Str × V)} {vs : List (Str × PV)}, RepF K H m xs vs → RepF K H m (putF f y xs) (setF f w vs)
  | _, _, .nil => .cons h .nil
  | _, _, .cons (k := g) q t => by
    by_cases e : g = f
    · simp only [putF, setF, if_pos e]; exact .cons h t
    · simp only [putF, setF, if_neg e]; exact .cons q (RepF.put h t)
theorem RlS.putI {K : PySem.W.Frag} {m : List Addr} {H : Hp} {S : Store} {i : Nat} {a C dx : Addr} {x : Str} {xs ys : List (Str × V)} {vs ws : List (Str × PV)} (r : RlS K m H S) (hi : S[i]? = some (.ins x vs)) (ha : m[i]? = some a) (hC : PySem.W.nsIn K mainGlobals x = some (some (.ref C))) (hl : H a = some (.ins C dx xs)) (h : RepF K H m ys ws) :
    RlS K m (upd H a (.ins C dx ys)) (S.set i (.ins x ws)) :=
  r.putO hi rfl rfl ha hl (.ins _ _ _) ⟨C, dx, ys, hC, upd_same, h.ext (Ext.putO hl (.ins _ _ _))⟩
theorem sx_setA {xs : List Str} {f : Str} (ok : ObjOkC X G Φ) (hf : ∀ x, x ∈ xs → (x, f) ∈ G.flds) (h : EX X G W Φ e p) (ho : EX X G W Φ o po) (hs : swapsWith e (some (.Attribute o f p1)) pos.line X.env = pure false) : SX X G W Φ T (.Assign [.Attribute o f p1] e pos) (.setA xs f po p) := by
  obtain ⟨t, P, R⟩ := h
  obtain ⟨t1, P1, R1⟩ := ho
  refine ⟨_, ps_fld P1 P hs, fun m σ H ρ S D E DK r re w d kx => ?_⟩
  simp only [wpS] at w
  refine R m σ H ρ S _ _ _ r re w (fun m1 H1 v pv S1 e1 r1 hv q1 => ?_) (kx.at re)
  have kx1 : KX X.K X.mg G m1 H1 (fun x S1 => E x ρ S1) (fun c d H' => W c d σ H') := (kx.at re).ext e1
  refine R1 m1 σ H1 ρ S1 _ _ _ r1 (re.ext e1) q1 (fun m2 H2 ov pov S2 e2 r2 hov q2 => ?_) kx1
  have hv := RepV.ext e2 _ _ hv
  cases hov with
  | @ref l i h1 =>
    obtain ⟨x, fs, hS, hxs, hz, q2⟩ := q2
    obtain ⟨C, hC, cl, na⟩ := ok.fld x f (hf x hxs)
    obtain ⟨l', D', dx, zs, g1, g2, g3, g4⟩ := r2.ins hS
    rw [h1] at g1
    cases g1
    rw [hC] at g2
    cases g2
    have ep : Ext X.K m2 H2 m2 (upd H2 l (.ins C dx (putF f v zs))) := Ext.putO g3 (.ins _ _ _)
    exact ⟨l, C, dx, zs, rfl, g3, cl, na, by rw [g4.len]; omega, d.nx m2 σ _ ρ _ ((e1.trans e2).trans ep) (r2.putI hS h1 hC g3 (g4.put hv)) (re.ext ((e1.trans e2).trans ep)) q2⟩
  | _ => exact q2.elim
theorem sx_augA {xs : List Str} {f : Str} {op : BOp} (hop : op = .add ∨ op = .sub) (ok : ObjOkC X G Φ) (hf : ∀ x, x ∈ xs → (x, f) ∈ G.flds) (h : EX X G W Φ e p) (ho : EX X G W Φ o po) : SX X G W Φ T (.AugAssign (.Attribute o f p1) (Bop op) e pos) (.augA xs f op po p) := by
  obtain ⟨t, P, R⟩ := h
  obtain ⟨t1, P1, R1⟩ := ho
  have io : ∃ g : Int → Int → Int, InOp X (Bop op) (rI0 fun i j => .int (g i j)) ∧ ∀ v w S Q, augQ op v w S Q → ∃ i j, v = .int i ∧ w = .int j ∧ Q (.int (g i j)) S := by
    rcases hop with rfl | rfl
    · refine ⟨fun i j => i + j, fun pins s σ H x y u v Q I rx ry h => iop_add pins s σ H x y u v Q I rx ry h, fun v w S Q q => ?_⟩
      cases v <;> cases w <;> first | exact ⟨_, _, rfl, rfl, q.2⟩ | exact q.elim
    · refine ⟨fun i j => i - j, fun pins s σ H x y u v Q I rx ry h => iop_sub pins s σ H x y u v Q I rx ry h, fun v w S Q q => ?_⟩
      cases v <;> cases w <;> first | exact ⟨_, _, rfl, rfl, q.2⟩ | exact q.elim
  obtain ⟨g, io, hq⟩ := io
  refine ⟨_, ps_fldaug P1 P io, fun m σ H ρ S D E DK r re w d kx => ?_⟩
  simp only [wpS] at w
  refine R1 m σ H ρ S _ _ _ r re w (fun m1 H1 ov pov S1 e1 r1 hov q1 => ?_) (kx.at re)
  have kx1 : KX X.K X.mg G m1 H1 (fun x S1 => E x ρ S1) (fun c d H' => W c d σ H') := (kx.at re).ext e1
  cases hov with
  | @ref l i h1 =>
    obtain ⟨x, fs, z, hS, hxs, hz, q1⟩ := q1
    obtain ⟨C, hC, cl, na⟩ := ok.fld x f (hf x hxs)
    obtain ⟨l', D', dx, zs, g1, g2, g3, g4⟩ := r1.ins hS
    rw [h1] at g1
    cases g1
    rw [hC] at g2
    cases g2
    obtain ⟨y, hy, ry⟩ := g4.some hz
    refine ⟨l, C, dx, zs, y, rfl, g3, cl, na, hy, ?_⟩
    refine R m1 σ H1 ρ S1 _ _ _ r1 (re.ext e1) q1 (fun m2 H2 v2 pv2 S2 e2 r2 hv2 q2 => ?_) kx1
    obtain ⟨i1, j1, rfl, rfl, q3⟩ := hq _ _ _ _ q2
    cases ry
    cases hv2
    obtain ⟨x2, fs2, hS2, hxs2, hz2, q3⟩ := q3
    have h12 := e2.at h1
    obtain ⟨l', D', dx2, xs2, g1, g2, k3, k4⟩ := r2.ins hS2
    rw [h12] at g1
    cases g1
    simp only [List.mem_singleton] at hxs2
    subst hxs2
    rw [hC] at g2
    cases g2
    have ep : Ext X.K m2 H2 m2 (upd H2 l (.ins C dx2 (putF f (.int (g i1 j1)) xs2))) := Ext.putO k3 (.ins _ _ _)
    exact ⟨_, _, rfl, rfl, dx2, xs2, k3, by rw [k4.len]; omega, d.nx m2 σ _ ρ _ ((e1.trans e2).trans ep) (r2.putI hS2 h12 hC k3 (k4.put (.int _))) (re.ext ((e1.trans e2).trans ep)) q3⟩
  | _ => exact q1.elim
end
end Pv
set_option Elab.async false
set_option linter.all false
set_option maxRecDepth 100000
set_option maxHeartbeats 1000000
/-! Pv9k: a def that is handed the caught exception and names its class. -/
namespace Pv
open PySem PySem.Spec PyProof.Rows L2

/-- its body: tests of the exception, one after another, each adds a text -/
def ckGo (e w : Str) : List Stmt → Option (List (Str × Str) × Str × Str)
  | [.Return (some (.IfExp (.Call (.Name i _) [.Name e1 _, .Name B _] [] _) (.Name w1 _) (.Constant (.str z) _ _) _)) _] =>
    if i = "isinstance" ∧ e1 = e ∧ w1 = w then some ([], B, z) else none
  | .If (.Call (.Name i _) [.Name e1 _, .Name C _] [] _) [.Assign [.Name w1 _] (.BinOp (.Name w2 _) .Add (.Constant (.str z) _ _) _) _] [] _ :: r =>
    if i = "isinstance" ∧ e1 = e ∧ w1 = w ∧ w2 = w then (ckGo e w r).map fun q => ((C, z) :: q.1, q.2.1, q.2.2) else none
  | _ => none
def ckBody (e w : Str) : List Stmt → Option (List (Str × Str) × Str × Str)
  | .Assign [.Name w1 _] (.Constant (.str z) _ _) _ :: r => if w1 = w ∧ z = "" then ckGo e w r else none
  | _ => none
/-- what it tells, by the answers of the tests -/
def ckWord (ans : Str → Bool) : List (Str × Str) → Str → Str
  | [], acc => acc
  | (c, z) :: r, acc => ckWord ans r (if ans c = true then acc ++ z else acc)
def ckFits (ans : Str → Bool) : List (Str × Str) → Str → Bool
  | [], _ => true
  | (c, z) :: r, acc => decide (acc.length + z.length ≤ sizeLine) && ckFits ans r (if ans c = true then acc ++ z else acc)

theorem call_isH {X : Cx} {a D : Addr} {oe : Obj} (hp : (a, oe) ∈ X.pn) (C : ExcC X.K D) (hz : Zc (.ref D) none oe) (hf : ∃ vs, oe.data = .fields vs) : CallR X (.builtin "isinstance") (rIsE X.K D a) := by
  intro pins s σ H xs us Q I r h
  obtain ⟨c, cv, b, rfl, hcv, e, q⟩ := h
  obtain ⟨ra, rb⟩ : ∃ u1 u2, us = [u1, u2] ∧ RelV (.ref a) u1 ∧ RelV c u2 := by
    cases r with
    | cons r1 r2 => cases r2 with
      | cons r2 r3 => cases r3; exact ⟨_, _, rfl, r1, r2⟩
  obtain ⟨u2, rfl, rx, rt⟩ := rb
  cases rx
  obtain rfl := hcv _ rt
  have J : PySem.W.InstAt s.heap a oe D none := by
    have hg := (I.pin (a, oe) (List.mem_append_left _ hp)).1
    obtain ⟨vs, hv⟩ := hf
    obtain ⟨oc, od, oda, osl⟩ := oe
    obtain ⟨h1, h2⟩ := hz
    dsimp only at h1 h2 hv
    subst h1 h2 hv
    exact ⟨hg, rfl, rfl, trivial⟩
  refine PySem.W.kia_one (PySem.W.handS_kitx_exc C.hg C.hk C.hs C.hd C.ha C.hn C.ht C.hm) I.kIn J e (fun z => nomatch z) fun tk => ?_
  exact ⟨.bl b, H, I.kept (t' := tk) fun _ _ z => z, rfl, q⟩

section
variable {Y : Cx} {a D : Addr} {oe : Obj} {e w : Str} {ans : Str → Bool}
/-- the context in which the def's body is walked -/
structure CkCx (Y : Cx) (a D : Addr) (oe : Obj) (e w : Str) (ans : Str → Bool) (names : List Str) : Prop where
  pin : (a, oe) ∈ Y.pn
  exc : ExcC Y.K D
  zc : Zc (.ref D) none oe
  fld : ∃ vs, oe.data = .fields vs
  hN : Y.N = [e, w]
  nd : e ≠ w
  le : Y.env.scope.names.lookup e = some .local
  lw : Y.env.scope.names.lookup w = some .local
  de : (e == ("__debug__" : Str)) = false ∧ (e == ("__classdict__" : Str)) = false
  dw : (w == ("__debug__" : Str)) = false ∧ (w == ("__classdict__" : Str)) = false
  isi : Gl Y "isinstance" ∧ Y.mg "isinstance" = none
  own : ∀ x, x ∈ names → (x == ("__debug__" : Str)) = false ∧ Gl Y x ∧ ∃ C, Y.mg x = some (.ref C) ∧ PySem.W.kitOne Y.K (.ref D) (.ref C) = some (ans x)
  val : Gl Y "ValueError" ∧ Y.mg "ValueError" = none ∧ PySem.W.kitOne Y.K (.ref D) (.type "ValueError") = some true
theorem CkCx.hE {names : List Str} (c : CkCx Y a D oe e w ans names) : Y.N[0]? = some e := by rw [c.hN]; rfl
theorem CkCx.hW {names : List Str} (c : CkCx Y a D oe e w ans names) : Y.N[1]? = some w := by rw [c.hN]; rfl
theorem CkCx.nodup {names : List Str} (c : CkCx Y a D oe e w ans names) : Y.N.Nodup := by rw [c.hN]; simp [c.nd]
theorem CkCx.test {names : List Str} (c : CkCx Y a D oe e w ans names) {x : Str} {v : V} {u : Value} {b : Bool} {p1 p2 p3 p4 : Pos} (hv : PE Y (.Name x p3) (tC v)) (hu : ∀ y, RelV v y → y = u) (hk : PySem.W.kitOne Y.K (.ref D) u = some b) :
    ∃ t, PT Y (.Call (.Name "isinstance" p1) [.Name e p2, .Name x p3] [] p4) t ∧ ∀ σ H (Q : Bool → Hp → Prop), σ[0]? = some (some (V.ref a)) → Q b H → t σ H Q := by
  refine ⟨_, pt_val (pe_callB (call_isH c.pin c.exc c.zc c.fld) c.isi.1 c.isi.2 (by decide +kernel) (pa_cons (pe_var c.hE (.inl c.le) c.de.1 c.de.2) (pa_cons hv pa_nil (star_cons rfl)) (star_cons rfl)) (by decide +kernel) (by decide +kernel) (star_cons rfl) (star_plain rfl)) (fun _ => rfl), fun σ H Q hσ q => ?_⟩
  exact ⟨V.ref a, hσ, v, u, b, rfl, hu, hk, b, rfl, q⟩
theorem ckGo_ok (body : List Stmt) (its : List (Str × Str)) (B z : Str) (h : ckGo e w body = some (its, B, z)) (hB : B = "ValueError") (c : CkCx Y a D oe e w ans (its.map (·.1))) :
    PSs Y body (fun DK σ H => ∃ acc : Str, σ = [some (V.ref a), some (V.str acc)] ∧ ckFits ans its acc = true ∧ DK.rt (.str (ckWord ans its acc)) H) := by
    unfold ckGo at h
    split at h
    · rename_i i p1 e1 p2 B' p3 p4 w1 p5 z' k p6 p7 p8
      split at h
      · rename_i hh
        obtain ⟨rfl, rfl, rfl⟩ := hh
        cases h
        subst hB
        obtain ⟨t, P, R⟩ := c.test (x := "ValueError") (v := .ty "ValueError") (u := .type "ValueError") (b := true) (p1 := p1) (p2 := p2) (p3 := p3) (p4 := p4) (pe_bltn c.val.1 c.val.2.1 (by decide +kernel) rfl (by decide +kernel) (by decide +kernel)) (fun y hy => hy) c.val.2.2
        refine ⟨fun pins s σ H DK I ⟨acc, hσ, _, q⟩ => (pss_cons (ps_ret (pe_ifExp P (pe_var c.hW (.inl c.lw) c.dw.1 c.dw.2) pe_str)) pss_nil).run pins s σ H DK I ?_⟩
        subst hσ
        exact R _ _ _ rfl ⟨_, rfl, q⟩
      · cases h
    · rename_i i p1 e1 p2 C p3 p4 w1 p5 w2 p6 z' k p7 p8 p9 p10 r
      split at h
      · rename_i hh
        obtain ⟨h1, h2, h3, h4⟩ := hh
        have h2 := h2.symm
        have h3 := h3.symm
        have h4 := h4.symm
        subst h1 h2 h3 h4
        rw [Option.map_eq_some_iff] at h
        obtain ⟨⟨its', B', z2⟩, hr, h⟩ := h
        cases h
        obtain ⟨hdx, hgx, Cx', hmx, hkx⟩ := c.own C (by simp)
        have P2 := ckGo_ok r its' B' z2 hr hB { c with own := fun x hx => c.own x (List.mem_cons_of_mem _ hx) }
        obtain ⟨t, P, R⟩ := c.test (x := C) (v := .ref Cx') (u := .ref Cx') (b := ans C) (p1 := p1) (p2 := p2) (p3 := p3) (p4 := p4) (pe_glob hgx hmx rfl hdx) (fun y hy => hy) hkx
        have PA1 := ps_set (e := .BinOp (.Name w p6) .Add (.Constant (.str z') k p7) p8) (pos := p9) (pos' := p5) c.nodup c.hW (.inl c.lw) (pe_op op_add_str (pe_var (pos := p6) c.hW (.inl c.lw) c.dw.1 c.dw.2) (pe_str (x := z') (j := k) (pos := p7))) rfl (.inr c.lw)
        refine ⟨fun pins s σ H DK I ⟨acc, hσ, hf, q⟩ => (pss_cons (ps_if P (pss_cons PA1 pss_nil) pss_nil) P2).run pins s σ H DK I ?_⟩
        subst hσ
        unfold ckFits at hf
        rw [Bool.and_eq_true, decide_eq_true_eq] at hf
        unfold ckWord at q
        refine R _ _ _ rfl ?_
        cases hb : ans C with
        | true =>
          rw [hb] at q hf
          rw [if_pos rfl] at q hf
          rw [if_pos rfl]
          exact ⟨_, rfl, acc, z', rfl, rfl, hf.1, _, rfl, hf.2, q⟩
        | false =>
          rw [hb] at q hf
          rw [if_neg Bool.false_ne_true] at q hf
          rw [if_neg Bool.false_ne_true]
          exact ⟨acc, rfl, hf.2, q⟩
      · cases h
    · cases h
theorem ckBody_ok {body : List Stmt} {its : List (Str × Str)} {B z : Str} (h : ckBody e w body = some (its, B, z)) (hB : B = "ValueError") (c : CkCx Y a D oe e w ans (its.map (·.1))) (hf : ckFits ans its "" = true) :
    PSs Y body (fun DK σ H => σ = [some (V.ref a), none] ∧ DK.rt (.str (ckWord ans its "")) H) := by
  unfold ckBody at h
  split at h
  · rename_i w1 p1 z1 k p2 p3 r
    split at h
    · rename_i hh
      obtain ⟨rfl, rfl⟩ := hh
      refine ⟨fun pins s σ H DK I ⟨hσ, q⟩ => (pss_cons (ps_set (pos := p3) (pos' := p1) c.nodup c.hW (.inl c.lw) (pe_str (x := "") (j := k) (pos := p2)) rfl (.inr c.lw)) (ckGo_ok _ _ _ _ h hB c)).run pins s σ H DK I ?_⟩
      subst hσ
      exact ⟨"", rfl, hf, q⟩
    · cases h
  · cases h
end
/-- the facts of such a def, for one class -/
structure CkFacts (K : PySem.W.Frag) (mg : Str → Option Value) (D : Addr) (e w : Str) (scope : Scope) (ans : Str → Bool) (names : List Str) : Prop where
  exc : ExcC K D
  nd : e ≠ w
  le : scope.names.lookup e = some .local
  lw : scope.names.lookup w = some .local
  de : (e == ("__debug__" : Str)) = false ∧ (e == ("__classdict__" : Str)) = false
  dw : (w == ("__debug__" : Str)) = false ∧ (w == ("__classdict__" : Str)) = false
  isi : scope.names.lookup ("isinstance" : Str) = some .globalImplicit ∧ mg "isinstance" = none
  own : ∀ x, x ∈ names → (x == ("__debug__" : Str)) = false ∧ scope.names.lookup x = some .globalImplicit ∧ ∃ C, mg x = some (.ref C) ∧ PySem.W.kitOne K (.ref D) (.ref C) = some (ans x)
  val : scope.names.lookup ("ValueError" : Str) = some .globalImplicit ∧ mg "ValueError" = none ∧ PySem.W.kitOne K (.ref D) (.type "ValueError") = some true
theorem ck_run {P : Program} {wd : World} {K : PySem.W.Frag} {mg : Str → Option Value} {base : Heap} {f D : Addr} {nm ql e w : Str} {params : Arguments} {body : List Stmt} {scope : Scope} {dV kV doc pm cdv ct oc : Value} {an od : Option Addr} {osl : Array (Option Value)} {its : List (Str × Str)} {B z : Str} {ans : Str → Bool}
    (lk : K.lookup f = some ⟨oc, od, .func (PySem.W.fnOf nm ql params body scope dV kV doc pm an cdv ct), osl⟩) (hcd : PySem.W.codeIn K cdv ql = true) (S : FnScope [e, w] [e] scope) (hb : ckBody e w body = some (its, B, z)) (hB : B = "ValueError")
    (F : CkFacts K mg D e w scope ans (its.map (·.1))) (hf : ckFits ans its "" = true) : CkRun P wd K mg base f (PySem.W.fnOf nm ql params body scope dV kV doc pm an cdv ct) e (.ref D) (ckWord ans its "") := by
  intro A outer s H a oe Q E hd hpin e0 hbn hz hfl q
  have KX : K.In s.heap := e0.mod.kin.keeps fun b o e => (e0.bs b o e).1
  have lim : s.heap.NoLimit := e0.mod.nolimit.keeps fun b o e => (e0.bs b o e).1
  have hkind : ∀ y ∈ [(e, Value.ref a)], scope.names.lookup y.1 = some .local ∨ (scope.names.lookup y.1 = some .cell ∧ ((cellsFrom (s.heap.objs.size + 1) scope.names []).lookup y.1).isSome = true) := fun y hy => by
    rw [List.mem_singleton] at hy
    subst hy
    exact .inl F.le
  refine codeAny_call_function (by omega) (KX _ _ lk) rfl S.co S.gen rfl (PySem.W.codeRec_of KX hcd) (hbn _ _ _ _ ?_)
  refine wpAny_newFunctionEnv_cells S.kind hkind fun env he s1 x => ?_
  subst he
  refine ⟨lim.keeps x.toInCall.keep, codeAny_func ?_⟩
  have I := L2H.inv_startH (CX := L2.CX P wd) (E := E) (us := [.ref a]) (vs := [V.ref a]) S hpin e0 rfl (.cons rfl .nil) x
  have PB := ckBody_ok (Y := L2H.cxH (L2.CX P wd) P wd K mg base [e, w] ql scope f cdv A outer s H E (a, oe)) (a := a) (oe := oe) hb hB
    ⟨List.mem_singleton.mpr rfl, F.exc, hz, hfl, rfl, F.nd, F.le, F.lw, F.de, F.dw, F.isi, F.own, F.val⟩ hf
  refine wpAny_mono (PB.run [] s1 _ H { nx := fun _ H' => Q .non H', rt := Q } I ⟨rfl, q⟩) (fun fl s' hs => ?_) fun e s' hs => hs
  cases fl with
  | ret u =>
    obtain ⟨v, σ', H', J, rv, q⟩ := hs
    exact ⟨v, H', J.os, J.bare, J.base, J.hok, rv, q⟩
  | next =>
    obtain ⟨σ', H', J, q⟩ := hs
    exact ⟨V.non, H', J.os, J.bare, J.base, J.hok, rfl, q⟩
  | brk =>
    obtain ⟨_, _, _, q⟩ := hs
    exact False.elim q
  | cont =>
    obtain ⟨_, _, _, q⟩ := hs
    exact False.elim q
/-- the call, in a suite -/
theorem pe_ck {X : Cx} {f : Addr} {fd : FuncData} {a : Addr} {oe : Obj} {cls : Value} {x n e z : Str} {i : Nat} {p1 p2 pos : Pos} (hpn : (a, oe) ∈ X.pn) (hz : Zc cls none oe) (hf : ∃ vs, oe.data = .fields vs) (hd : X.A.depth + 5 < recursionLimit)
    (F : CkRun X.prog X.w X.K X.mg X.base f fd e cls z) (hb : Binds X.K fd [e] []) (hg : Gl X x) (hm : X.mg x = some (.ref f)) (hk : PySem.W.keepIn X.K (.ref f) = true) (hdb : (x == ("__debug__" : Str)) = false)
    (hn : PE X (.Name n p2) (tVar i)) : PE X (.Call (.Name x p1) [.Name n p2] [] pos) (fun σ H Q => σ[i]? = some (some (V.ref a)) ∧ Q (.str z) H) := by
  refine ⟨fun pins s σ H Q I ⟨hσ, q⟩ => ?_⟩
  refine wpAny_Call_Name_kw (ld_glob I hg hm ?_ hdb)
  refine PySem.W.callWith_K (h₀ := X.base) I.ok.mod.kin hk (thn ((pa_cons hn pa_nil (star_cons rfl)).run pos pins s σ H (fun vs H1 => vs = [V.ref a] ∧ H1 = H) I ⟨_, hσ, rfl, rfl⟩) fun us s1 ⟨vs, H1, I1, r, q1⟩ => ⟨I1.kIn, ?_⟩) (star_cons rfl) (star_plain rfl)
  obtain ⟨rfl, rfl⟩ := q1
  obtain ⟨u, rfl, ru⟩ : ∃ u, us = [u] ∧ RelV (V.ref a) u := by
    cases r with
    | cons r1 r2 => cases r2; exact ⟨_, rfl, r1⟩
  cases ru
  have b := hb s1 [Value.ref a] I1.kIn rfl
  have P1 := I1.pin (a, oe) (List.mem_append_left _ hpn)
  have hpin : L2H.PinOk X.stack H1 s1 (a, oe) := ⟨P1.1, P1.2.1, fun hm => (List.mem_cons.mp (I1.stkSub a hm)).elim P1.2.2.1 P1.2.2.2.1, P1.2.2.2.2⟩
  refine wpAny_call (codeAny_mono (F X.A X.stack s1 H1 a oe Q (fun _ _ _ => False) hd hpin I1.env0 b hz hf q) fun r s' hq => ?_)
  cases r with
  | error er =>
    obtain ⟨_, _, _, _, _, _, _, _, _, _, _, _, z⟩ := hq
    exact z.elim
  | ok fl =>
    cases fl with
    | ret u => exact I1.after hq
    | next => exact False.elim hq
    | brk => exact False.elim hq
    | cont => exact False.elim hq
end Pv
set_option Elab.async false
set_option linter.all false
set_option maxRecDepth 100000
set_option maxHeartbeats 2000000
/-! Pv10: try; the text's statements. -/
namespace Pv
open PySem PySem.Spec PyProof.Rows L2

section
variable {X : Cx} {G : GT} {W : WX} {Φ : Call} {C : CC} {T : Tab} {e a b tgE : Expr} {p q : IE} {st : Stmt} {sts : List Stmt} {s : IS} {ss : ISs} {pos : Pos}
/-- items of a list: constants, or the field of the exception -/
inductive HItems (n f : Str) : List Expr → List (Option PV) → Prop
  | nil : HItems n f [] []
  | cst {k : PySem.Const} {kk : Nat} {v : PV} {p : Pos} {es : List Expr} {xs : List (Option PV)} (h : cConst k = some (.cst v)) (r : HItems n f es xs) : HItems n f (.Constant k kk p :: es) (some v :: xs)
  | fld {p2 p3 : Pos} {es : List Expr} {xs : List (Option PV)} (r : HItems n f es xs) : HItems n f (.Attribute (.Name n p2) f p3 :: es) (none :: xs)
/-- a step of an except suite; nm: the clause's name and its slot -/
inductive HOk1 (X : Cx) (G : GT) (c : Nat) (nm : Option (Str × Nat)) : Stmt → HS → Prop
  | setF {y n f : Str} {i j : Nat} {x : Str} {p1 p2 p3 p4 : Pos} (h1 : nm = some (n, i)) (h2 : i ≠ j) (h3 : X.N[i]? = some n) (h4 : X.env.scope.names.lookup n = some .local) (h5 : (n == ("__debug__" : Str)) = false) (h6 : (n == ("__classdict__" : Str)) = false) (h7 : G.excs[c]? = some (x, some f))
      (h8 : X.N[j]? = some y) (h9 : L2.Loc X.env.scope y) (h10 : X.fn y = true ∨ X.env.scope.names.lookup y = some .local) : HOk1 X G c nm (.Assign [.Name y p1] (.Attribute (.Name n p2) f p3) p4) (.setF j)
  | setC {y : Str} {k : PySem.Const} {j kk : Nat} {v : PV} {p1 p2 p4 : Pos} (h1 : ∀ n i, nm = some (n, i) → i ≠ j) (h2 : cConst k = some (.cst v)) (h8 : X.N[j]? = some y) (h9 : L2.Loc X.env.scope y) (h10 : X.fn y = true ∨ X.env.scope.names.lookup y = some .local) : HOk1 X G c nm (.Assign [.Name y p1] (.Constant k kk p2) p4) (.setC j v)
  | retF {n f : Str} {i : Nat} {x : Str} {p2 p3 p4 : Pos} (h1 : nm = some (n, i)) (h3 : X.N[i]? = some n) (h4 : X.env.scope.names.lookup n = some .local) (h5 : (n == ("__debug__" : Str)) = false) (h6 : (n == ("__classdict__" : Str)) = false) (h7 : G.excs[c]? = some (x, some f)) : HOk1 X G c nm (.Return (some (.Attribute (.Name n p2) f p3)) p4) .retF
  | retC {k : PySem.Const} {kk : Nat} {v : PV} {p2 p4 : Pos} (h2 : cConst k = some (.cst v)) : HOk1 X G c nm (.Return (some (.Constant k kk p2)) p4) (.retC v)
  | pass {p : Pos} : HOk1 X G c nm (.Pass p) .pass
  | setL {y n : Str} {i j : Nat} {x f : Str} {es : List Expr} {xs : List (Option PV)} {p1 p3 p4 : Pos} (h1 : nm = some (n, i)) (h2 : i ≠ j) (h3 : X.N[i]? = some n) (h4 : X.env.scope.names.lookup n = some .local) (h5 : (n == ("__debug__" : Str)) = false) (h6 : (n == ("__classdict__" : Str)) = false) (h7 : G.excs[c]? = some (x, some f))
      (h8 : X.N[j]? = some y) (h9 : L2.Loc X.env.scope y) (h10 : X.fn y = true ∨ X.env.scope.names.lookup y = some .local) (h11 : HItems n f es xs) : HOk1 X G c nm (.Assign [.Name y p1] (.List es p3) p4) (.setL j xs)
  | appF {y n f : Str} {i j : Nat} {x : Str} {p1 p2 p3 p4 p5 p6 : Pos} (h1 : nm = some (n, i)) (h3 : X.N[i]? = some n) (h4 : X.env.scope.names.lookup n = some .local) (h5 : (n == ("__debug__" : Str)) = false) (h6 : (n == ("__classdict__" : Str)) = false) (h7 : G.excs[c]? = some (x, some f))
      (h8 : X.N[j]? = some y) (h9 : Vis X.env.scope y) (h10 : (y == ("__debug__" : Str)) = false) (h11 : (y == ("__classdict__" : Str)) = false) (h12 : (p3.endLine == p5.line) = true) : HOk1 X G c nm (.Expr (.Call (.Attribute (.Name y p1) "append" p3) [.Attribute (.Name n p2) f p4] [] p5) p6) (.appF j)
  | setK {y n x : Str} {i j : Nat} {t : List (Nat × Str)} {p1 p2 p3 p4 p5 : Pos} (h1 : nm = some (n, i)) (h2 : i ≠ j) (h3 : X.N[i]? = some n) (h4 : X.env.scope.names.lookup n = some .local) (h5 : (n == ("__debug__" : Str)) = false) (h6 : (n == ("__classdict__" : Str)) = false)
      (h8 : X.N[j]? = some y) (h9 : L2.Loc X.env.scope y) (h10 : X.fn y = true ∨ X.env.scope.names.lookup y = some .local) (h11 : Gl X x) (h12 : (x == ("__debug__" : Str)) = false) (h13 : (x, t) ∈ G.cks) (h14 : X.A.depth + 5 < recursionLimit) : HOk1 X G c nm (.Assign [.Name y p1] (.Call (.Name x p2) [.Name n p3] [] p4) p5) (.setK j t)
inductive HsOk (X : Cx) (G : GT) (c : Nat) (nm : Option (Str × Nat)) : List Stmt → List HS → Prop
  | nil : HsOk X G c nm [] []
  | cons {st : Stmt} {sts : List Stmt} {h : HS} {hs : List HS} (h1 : HOk1 X G c nm st h) (h2 : HsOk X G c nm sts hs) : HsOk X G c nm (st :: sts) (h :: hs)
def tSuite (K : PySem.W.Frag) (mg : Str → Option Value) (G : GT) (c : Nat) (nm : Option Nat) (hs : List HS) (a : Addr) (cls : Value) (d : Option Addr) : TS := fun DK σ H =>
  ∃ m ρ S D x, RlS K m H S ∧ RlE K m H σ ρ ∧ (∀ i, nm = some i → i < σ.length → σ[i]? = some (some (.ref a))) ∧ RepX K mg G H m x cls d ∧ wpH c nm x hs ρ S D ∧ DOk K m H D DK
theorem rep_cst {k : PySem.Const} {v : PV} (h : cConst k = some (.cst v)) (Y : Cx) (j : Nat) (ps : Pos) : ∃ x, PE Y (.Constant k j ps) (tC x) ∧ ∀ K H m, RepV K H m x v := by
  cases k <;> simp only [cConst, Option.some.injEq, IE.cst.injEq, reduceCtorEq] at h <;> subst h
  · exact ⟨_, pe_non, fun _ _ _ => .non⟩
  · exact ⟨_, pe_bl, fun _ _ _ => .bl _⟩
  · exact ⟨_, pe_int, fun _ _ _ => .int _⟩
  · exact ⟨_, pe_str, fun _ _ _ => .str _⟩
theorem slot_set {σ : L2.St} {nm : Option Nat} {a : Addr} {j : Nat} {x : Option V} (h : ∀ i, nm = some i → i < σ.length → σ[i]? = some (some (.ref a))) (hj : ∀ i, nm = some i → i ≠ j) :
    ∀ i, nm = some i → i < (σ.set j x).length → (σ.set j x)[i]? = some (some (.ref a)) := fun i hi hl => by
  rw [List.getElem?_set_ne (Ne.symm (hj i hi))]
  exact h i hi (by simpa using hl)
theorem repX_fld {K : PySem.W.Frag} {mg : Str → Option Value} {H : Hp} {m : List Addr} {ex : PEx} {cls : Value} {d : Option Addr} {c : Nat} {x f : Str} {v : PV} (h : RepX K mg G H m ex cls d) (hc : ex.cls = c) (hG : G.excs[c]? = some (x, some f)) (hv : ex.fld = some v) :
    mg x = some cls ∧ ∃ dd w, d = some dd ∧ H dd = some (.xd [(f, w)]) ∧ RepV K H m w v := by
  obtain ⟨y, fo, h1, h2, h3⟩ := h
  rw [hc, hG] at h1
  cases h1
  rcases h3 with ⟨h3, _⟩ | ⟨f', v', dd, w, h3, h4, h5, h6, h7⟩
  · cases h3
  · cases h3
    rw [hv] at h4
    cases h4
    exact ⟨h2, dd, w, h5, h6, h7⟩
/-- the items' reading -/
theorem items_pa {Y : Cx} {n f : Str} {i : Nat} {ao : Addr} {cls : Value} {d : Option Addr} {C' : Addr} (hP : ∀ p2 p3, PE Y (.Attribute (.Name n p2) f p3) (tXf ao cls d C' f (tVar i))) :
    ∀ {es : List Expr} {xs : List (Option PV)}, HItems n f es xs → ∃ t, PA Y es t ∧ ∀ m σ H v (w : V) dd (Kv : List V → Hp → Prop), σ[i]? = some (some (.ref ao)) → cls = .ref C' → d = some dd → H dd = some (.xd [(f, w)]) → RepV Y.K H m w v →
      (∀ ws, RepL Y.K H m ws (xs.map fun o => o.getD v) → Kv ws H) → t σ H Kv
  | [], _, .nil => ⟨_, pa_nil, fun m σ H v w dd Kv _ _ _ _ _ k => k [] .nil⟩
  | _ :: es, _, .cst (kk := kk) (p := p) hk r => by
    obtain ⟨t, P, R⟩ := items_pa hP r
    obtain ⟨x, pe, hx⟩ := rep_cst hk Y kk p
    exact ⟨_, pa_cons pe P (star_cons rfl), fun m σ H v w dd Kv h1 h2 h3 h4 h5 k => R m σ H v w dd _ h1 h2 h3 h4 h5 fun ws hw => k (x :: ws) (.cons (hx _ _ _) hw)⟩
  | _ :: es, _, .fld (p2 := p2) (p3 := p3) r => by
    obtain ⟨t, P, R⟩ := items_pa hP r
    refine ⟨_, pa_cons (hP p2 p3) P (star_cons rfl), fun m σ H v w dd Kv h1 h2 h3 h4 h5 k => ?_⟩
    exact ⟨_, h1, rfl, h2, dd, _, w, h3, h4, by simp [List.lookup], R m σ H v w dd _ h1 h2 h3 h4 h5 fun ws hw => k (w :: ws) (.cons h5 hw)⟩
theorem suite_ok (hN : X.N.Nodup) (hck : ∀ x t, (x, t) ∈ G.cks → CkOk X G x t) (hF : ∀ (c : Nat) (x f : Str), G.excs[c]? = some (x, some f) → ExcFOk X.K X.mg x f) {c : Nat} {nm : Option (Str × Nat)} (ao : Addr) (oe : Obj) (cls : Value) (d : Option Addr) (pn : List (Addr × Obj)) (hz : Zc cls d oe) (hf : ∃ vs, oe.data = .fields vs) :
    ∀ {sts : List Stmt} {hs : List HS}, HsOk X G c nm sts hs → PSs (X.suite ao ((ao, oe) :: pn)) sts (tSuite X.K X.mg G c (nm.map (·.2)) hs ao cls d) := by
  intro sts hs h
  induction h with
  | nil => exact ⟨fun pins s σ H D I ⟨m, ρ, S, D', x, r, re, _, _, w, dk⟩ => pss_nil.run pins s σ H D I (dk.nx m σ H ρ S Ext.refl r re w)⟩
  | @cons st sts hh hs h1 _ P2 =>
    cases h1 with
    | @setF y n f i j x p1 p2 p3 p4 hnm hij hNi hni hd1 hd2 hG hNj hl hfn =>
      obtain ⟨Cx', gC, xf, hno, _⟩ := hF c x f hG
      have P1 : PS (X.suite ao ((ao, oe) :: pn)) (.Assign [.Name y p1] (.Attribute (.Name n p2) f p3) p4) (tAsg (tXf ao cls d Cx' f (tVar i)) (gName j)) :=
        ps_set (X := X.suite ao ((ao, oe) :: pn)) hN hNj hl (pe_xf xf hno hz hf (pe_var (X := X.suite ao ((ao, oe) :: pn)) hNi (.inl hni) hd1 hd2)) rfl hfn
      refine ⟨fun pins s σ H D I ⟨m, ρ, S, D', ex, r0, re, hsl, rx, w, dk⟩ => (pss_cons P1 P2).run pins s σ H D I ?_⟩
      obtain ⟨hc, hlen, v, hv, w⟩ := w
      subst hnm
      obtain ⟨hm, dd, w', ed, eH, hw⟩ := repX_fld rx hc hG hv
      rw [gC] at hm
      cases hm
      refine ⟨_, hsl i rfl (by rw [re.1]; exact hlen), rfl, rfl, dd, _, w', ed, eH, by simp [List.lookup], ?_⟩
      exact ⟨m, _, S, D', ex, r0, re.set hw j, slot_set hsl (fun i' hi' => by cases hi'; exact hij), rx, w, dk⟩
    | @setC y k j kk v p1 p2 p4 hne hk hNj hl hfn =>
      obtain ⟨x, pe, hx⟩ := rep_cst hk (X.suite ao ((ao, oe) :: pn)) kk p2
      have P1 : PS (X.suite ao ((ao, oe) :: pn)) (.Assign [.Name y p1] (.Constant k kk p2) p4) (tAsg (tC x) (gName j)) :=
        ps_set (X := X.suite ao ((ao, oe) :: pn)) hN hNj hl pe rfl hfn
      refine ⟨fun pins s σ H D I ⟨m, ρ, S, D', ex, r0, re, hsl, rx, w, dk⟩ => (pss_cons P1 P2).run pins s σ H D I ?_⟩
      exact ⟨m, _, S, D', ex, r0, re.set (hx _ _ _) j, slot_set hsl (fun i' hi' => by
        cases nm with
        | none => cases hi'
        | some q => cases hi'; exact hne _ _ rfl), rx, w, dk⟩
    | @retF n f i x p2 p3 p4 hnm hNi hni hd1 hd2 hG =>
      obtain ⟨Cx', gC, xf, hno, _⟩ := hF c x f hG
      have P1 : PS (X.suite ao ((ao, oe) :: pn)) (.Return (some (.Attribute (.Name n p2) f p3)) p4) (tRet (tXf ao cls d Cx' f (tVar i))) :=
        ps_ret (X := X.suite ao ((ao, oe) :: pn)) (pe_xf xf hno hz hf (pe_var (X := X.suite ao ((ao, oe) :: pn)) hNi (.inl hni) hd1 hd2))
      refine ⟨fun pins s σ H D I ⟨m, ρ, S, D', ex, r0, re, hsl, rx, w, dk⟩ => (pss_cons P1 P2).run pins s σ H D I ?_⟩
      obtain ⟨hc, hlen, v, hv, w⟩ := w
      subst hnm
      obtain ⟨hm, dd, w', ed, eH, hw⟩ := repX_fld rx hc hG hv
      rw [gC] at hm
      cases hm
      exact ⟨_, hsl i rfl (by rw [re.1]; exact hlen), rfl, rfl, dd, _, w', ed, eH, by simp [List.lookup], dk.rt.here r0 hw w⟩
    | @retC k kk v p2 p4 hk =>
      obtain ⟨x, pe, hx⟩ := rep_cst hk (X.suite ao ((ao, oe) :: pn)) kk p2
      have P1 : PS (X.suite ao ((ao, oe) :: pn)) (.Return (some (.Constant k kk p2)) p4) (tRet (tC x)) := ps_ret pe
      refine ⟨fun pins s σ H D I ⟨m, ρ, S, D', ex, r0, re, hsl, rx, w, dk⟩ => (pss_cons P1 P2).run pins s σ H D I ?_⟩
      exact dk.rt.here r0 (hx _ _ _) w
    | @pass p4 =>
      refine ⟨fun pins s σ H D I ⟨m, ρ, S, D', ex, r0, re, hsl, rx, w, dk⟩ => (pss_cons ps_pass P2).run pins s σ H D I ?_⟩
      exact ⟨m, ρ, S, D', ex, r0, re, hsl, rx, w, dk⟩
    | @setL y n i j x f es xs p1 p3 p4 hnm hij hNi hni hd1 hd2 hG hNj hl hfn hit =>
      obtain ⟨Cx', gC, xf, hno, _⟩ := hF c x f hG
      obtain ⟨t, PAt, RAt⟩ := items_pa (Y := X.suite ao ((ao, oe) :: pn)) (i := i) (ao := ao) (cls := cls) (d := d) (C' := Cx') (fun p2 p3 => pe_xf xf hno hz hf (pe_var (X := X.suite ao ((ao, oe) :: pn)) hNi (.inl hni) hd1 hd2)) hit
      have P1 : PS (X.suite ao ((ao, oe) :: pn)) (.Assign [.Name y p1] (.List es p3) p4) (tAsg (tLst t) (gName j)) :=
        ps_set (X := X.suite ao ((ao, oe) :: pn)) hN hNj hl (pe_lst PAt) rfl hfn
      refine ⟨fun pins s σ H D I ⟨m, ρ, S, D', ex, r0, re, hsl, rx, w, dk⟩ => (pss_cons P1 P2).run pins s σ H D I ?_⟩
      obtain ⟨hc, hlen, v, hv, hsz, w⟩ := w
      subst hnm
      obtain ⟨hm, dd, w', ed, eH, hw⟩ := repX_fld rx hc hG hv
      rw [gC] at hm
      cases hm
      refine RAt m σ H v w' dd _ (hsl i rfl (by rw [re.1]; exact hlen)) rfl ed eH hw fun ws hws => ⟨by rw [hws.len, List.length_map]; exact hsz, fun p hp => ?_⟩
      have e2 : Ext X.K m H (m ++ [p]) (upd H p (.lst ws)) := Ext.newL _ hp
      have rx2 : RepX X.K X.mg G (upd H p (.lst ws)) (m ++ [p]) ex (.ref Cx') d := by
        obtain ⟨y', fo, g1, g2, g3⟩ := rx
        refine ⟨y', fo, g1, g2, ?_⟩
        rcases g3 with g3 | ⟨f', v', dd', w2, k1, k2, k3, k4, k5⟩
        · exact .inl g3
        · exact .inr ⟨f', v', dd', w2, k1, k2, k3, by rw [upd_ne (ne_of_none k4 hp)]; exact k4, RepV.ext e2 _ _ k5⟩
      exact ⟨m ++ [p], _, _, D', ex, r0.newL hp hws, (re.ext e2).set (.ref (by rw [← r0.len]; exact get_last)) j, slot_set hsl (fun i' hi' => by cases hi'; exact hij), rx2, w, dk.ext e2⟩
    | @appF y n f i j x p1 p2 p3 p4 p5 p6 hnm hNi hni hd1 hd2 hG hNj hvy hy1 hy2 hline =>
      obtain ⟨Cx', gC, xf, hno, _⟩ := hF c x f hG
      have few : ((backTo p5 (starEach [Expr.Attribute (.Name n p2) f p4] (X.suite ao ((ao, oe) :: pn)).env)).all (fun x => !x.1) && (backToKw p5 (keywordEach [] (X.suite ao ((ao, oe) :: pn)).env)).all (fun x => x.1.isSome)
          && decide ([Expr.Attribute (.Name n p2) f p4].length + ([] : List Keyword).length + (if ([] : List Keyword).isEmpty then 0 else 1) < 30)) = true := rfl
      have P1 : PS (X.suite ao ((ao, oe) :: pn)) (.Expr (.Call (.Attribute (.Name y p1) "append" p3) [.Attribute (.Name n p2) f p4] [] p5) p6) _ :=
        ps_expr (pe_bm (X := X.suite ao ((ao, oe) :: pn)) PySem.F.plainAttrs_list PySem.F.slot_list_append PySem.F.type_list_append mt_append (pe_var (X := X.suite ao ((ao, oe) :: pn)) hNj hvy hy1 hy2)
          (pa_cons (pe_xf xf hno hz hf (pe_var (X := X.suite ao ((ao, oe) :: pn)) hNi (.inl hni) hd1 hd2)) pa_nil (star_cons rfl)) rfl few hline (star_cons rfl) rfl) rfl
      refine ⟨fun pins s σ H D I ⟨m, ρ, S, D', ex, r0, re, hsl, rx, w, dk⟩ => (pss_cons P1 P2).run pins s σ H D I ?_⟩
      obtain ⟨hc, hlen, v, hv, w⟩ := w
      subst hnm
      obtain ⟨hm, dd, w', ed, eH, hw⟩ := repX_fld rx hc hG hv
      rw [gC] at hm
      cases hm
      unfold varQ at w
      split at w
      · rename_i u hu
        obtain ⟨k, zs, rfl, hk, hz2, w⟩ := w
        obtain ⟨z, hz3, hz4⟩ := re.2 _ _ hu
        cases hz4 with
        | @ref l _ hl2 =>
          obtain ⟨l', ys, g1, g2, g3⟩ := r0.at hk
          rw [hl2] at g1
          cases g1
          have ep : Ext X.K m H m (upd H l (.lst (ys ++ [w']))) := Ext.put g2
          have rx2 : RepX X.K X.mg G (upd H l (.lst (ys ++ [w']))) m ex (.ref Cx') d := by
            obtain ⟨y', fo, q1, q2, q3⟩ := rx
            refine ⟨y', fo, q1, q2, ?_⟩
            rcases q3 with q3 | ⟨f', v', dd', w2, k1, k2, k3, k4, k5⟩
            · exact .inl q3
            · refine .inr ⟨f', v', dd', w2, k1, k2, k3, ?_, RepV.ext ep _ _ k5⟩
              rw [upd_ne (fun e => by rw [e, g2] at k4; cases k4)]
              exact k4
          refine ⟨_, hz3, .inl ⟨rfl, _, SqL.of g2⟩, _, hsl i rfl (by rw [re.1]; exact hlen), rfl, rfl, dd, _, w', ed, eH, by simp [List.lookup], l, ys, w', rfl, rfl, g2, by rw [g3.len]; exact hz2, ?_⟩
          exact ⟨m, ρ, _, D', ex, r0.put hk hl2 g2 (g3.append (.cons hw .nil)), re.ext ep, hsl, rx2, w, dk.ext ep⟩
      · exact w.elim
    | @setK y n x i j t p1 p2 p3 p4 p5 hnm hij hNi hni hd1 hd2 hNj hl hfn hgx hdx hmem hroom =>
      obtain ⟨f, fd, e, hmf, hkp, hbd, hrun⟩ := hck _ _ hmem
      refine ⟨fun pins s σ H D I ⟨m, ρ, S, D', ex, r0, re, hsl, rx, w, dk⟩ => ?_⟩
      obtain ⟨hlen, hfl, z, hz1, w⟩ := w
      subst hnm
      obtain ⟨yx, fo, g1, g2, g3⟩ := id rx
      rcases g3 with ⟨rfl, _, rfl⟩ | ⟨f', v', dd', w2, k1, k2, _⟩
      · have P1 : PS (X.suite ao ((ao, oe) :: pn)) (.Assign [.Name y p1] (.Call (.Name x p2) [.Name n p3] [] p4) p5) _ :=
          ps_set (X := X.suite ao ((ao, oe) :: pn)) hN hNj hl (pe_ck (X := X.suite ao ((ao, oe) :: pn)) List.mem_cons_self hz hf hroom (hrun _ _ _ _ hz1 g1 g2) hbd hgx hmf hkp hdx (pe_var (X := X.suite ao ((ao, oe) :: pn)) hNi (.inl hni) hd1 hd2)) rfl hfn
        refine (pss_cons P1 P2).run pins s σ H D I ⟨hsl i rfl (by rw [re.1]; exact hlen), ?_⟩
        exact ⟨m, _, S, D', ex, r0, re.set (.str z) j, slot_set hsl (fun i' hi' => by cases hi'; exact hij), rx, w, dk⟩
      · rw [hfl] at k2
        cases k2
theorem RlE.setU {K : PySem.W.Frag} {m : List Addr} {H : Hp} {σ : L2.St} {ρ : Env} (r : RlE K m H σ ρ) (i : Nat) (x : Option V) : RlE K m H (σ.set i x) (ρ.set i none) := by
  refine ⟨by simp [r.1], fun j w e => ?_⟩
  by_cases hj : i = j
  · subst hj
    by_cases hl : i < ρ.length
    · rw [List.getElem?_set_self hl] at e
      cases e
    · rw [List.getElem?_eq_none (by simpa using hl)] at e
      cases e
  · rw [List.getElem?_set_ne hj] at e ⊢
    exact r.2 j w e
theorem sx_tryAs {x n : Str} {c i : Nat} {fo : Option Str} {cv : Value} {body suite : List Stmt} {b₀ : Stmt} {sb : ISs} {hs : List HS} {np pos' : Pos} (ctx : Ctx G C X W Φ) (hG0 : G.tab = T) (hhs : c ∈ G.hs) (hblk : C.blk = false) (hNi : X.N[i]? = some n) (hln : X.env.scope.names.lookup n = some .local)
    (hg : Gl X x) (hdb : (x == ("__debug__" : Str)) = false) (hG : G.excs[c]? = some (x, fo)) (hcv : X.mg x = some cv)
    (hb : ∀ (W' : WX) (pn : List (Addr × Obj)) (xe : Value → Shared → Prop), Takes (X.tr pn xe) W' → PassesOwn (model X.prog X.w) X.A X.env xe → SsX (X.tr pn xe) G W' Φ T body sb)
    (hsu : HsOk X G c (some (n, i)) (b₀ :: suite) hs) : SX X G W Φ T (.Try body [.ExceptHandler (some (.Name x np)) (some n) (b₀ :: suite) pos'] [] [] pos) (.tryE sb c (some i) hs) := by
  obtain ⟨f1, f2⟩ := ctx.frame hblk
  refine ⟨_, ps_try_as (c := cv) (i := i) (tb := fun W' => tCanS X.K X.mg G W' (wpSs Φ T sb)) (ts := tSuite X.K X.mg G c (some i) hs) f1 f2 ctx.nodup hNi hln ⟨hg, hdb, .inl hcv⟩ ctx.tk (fun W' pn xe tk ps => (hb W' pn xe tk ps).can)
    (fun a oe cls d pn hz hf => suite_ok ctx.nodup ctx.ck ctx.excF a oe cls d pn hz hf hsu), fun m σ H ρ S D E DK r re w d kx => ?_⟩
  simp only [wpS] at w
  refine ⟨m, ρ, S, D, _, r, re, w, d, fun ex cls dd m' σ' H' ρ' S' e r' re' rx q => ?_⟩
  obtain ⟨y, fo', h1, h2, _⟩ := id rx
  have cat := ctx.cat c ex.cls x y fo fo' cv cls hhs hG h1 hcv h2
  rw [hG0] at cat
  dsimp only at q
  refine ⟨_, cat, fun hbt ao hao => ?_, fun hbf => ?_⟩
  · rw [if_pos hbt] at q
    refine ⟨m', ρ'.set i none, S', _, ex, r', re'.setU i _, fun j hj hl => ?_, rx, q, ⟨fun m2 σ2 H2 ρ2 S2 e2 r2 re2 q2 => d.nx m2 _ H2 _ S2 (e.trans e2) r2 (re2.unset i) q2, (d.ext e).rt, fun m2 σ2 H2 ρ2 S2 e2 r2 re2 q2 => d.bk m2 _ H2 _ S2 (e.trans e2) r2 (re2.unset i) q2, fun m2 σ2 H2 ρ2 S2 e2 r2 re2 q2 => d.ct m2 _ H2 _ S2 (e.trans e2) r2 (re2.unset i) q2⟩⟩
    cases hj
    exact List.getElem?_set_self (by simpa using hl)
  · rw [if_neg (by rw [hbf]; exact Bool.false_ne_true)] at q
    exact kx ex cls dd m' σ' H' ρ' S' e r' re' rx q
theorem sx_tryOnly {x : Str} {c : Nat} {fo : Option Str} {cv : Value} {body suite : List Stmt} {b₀ : Stmt} {sb : ISs} {hs : List HS} {np pos' : Pos} (ctx : Ctx G C X W Φ) (hG0 : G.tab = T) (hhs : c ∈ G.hs) (hblk : C.blk = false)
    (hg : Gl X x) (hdb : (x == ("__debug__" : Str)) = false) (hG : G.excs[c]? = some (x, fo)) (hcv : X.mg x = some cv)
    (hb : ∀ (W' : WX) (pn : List (Addr × Obj)) (xe : Value → Shared → Prop), Takes (X.tr pn xe) W' → PassesOwn (model X.prog X.w) X.A X.env xe → SsX (X.tr pn xe) G W' Φ T body sb)
    (hsu : HsOk X G c none (b₀ :: suite) hs) : SX X G W Φ T (.Try body [.ExceptHandler (some (.Name x np)) none (b₀ :: suite) pos'] [] [] pos) (.tryE sb c none hs) := by
  obtain ⟨f1, f2⟩ := ctx.frame hblk
  refine ⟨_, ps_try_only (c := cv) (tb := fun W' => tCanS X.K X.mg G W' (wpSs Φ T sb)) (ts := tSuite X.K X.mg G c none hs) f1 f2 ⟨hg, hdb, .inl hcv⟩ ctx.tk (fun W' pn xe tk ps => (hb W' pn xe tk ps).can)
    (fun a oe cls d pn hz hf => suite_ok (nm := none) ctx.nodup ctx.ck ctx.excF a oe cls d pn hz hf hsu), fun m σ H ρ S D E DK r re w d kx => ?_⟩
  simp only [wpS] at w
  refine ⟨m, ρ, S, D, _, r, re, w, d, fun ex cls dd m' σ' H' ρ' S' e r' re' rx q => ?_⟩
  obtain ⟨y, fo', h1, h2, _⟩ := id rx
  have cat := ctx.cat c ex.cls x y fo fo' cv cls hhs hG h1 hcv h2
  rw [hG0] at cat
  dsimp only at q
  refine ⟨_, cat, fun hbt ao hao => ?_, fun hbf => ?_⟩
  · rw [if_pos hbt] at q
    exact ⟨m', ρ', S', _, ex, r', re', (fun j hj => by cases hj), rx, q, ⟨fun m2 σ2 H2 ρ2 S2 e2 r2 re2 q2 => d.nx m2 _ H2 _ S2 (e.trans e2) r2 re2 q2, (d.ext e).rt, fun m2 σ2 H2 ρ2 S2 e2 r2 re2 q2 => d.bk m2 _ H2 _ S2 (e.trans e2) r2 re2 q2, fun m2 σ2 H2 ρ2 S2 e2 r2 re2 q2 => d.ct m2 _ H2 _ S2 (e.trans e2) r2 re2 q2⟩⟩
  · rw [if_neg (by rw [hbf]; exact Bool.false_ne_true)] at q
    exact kx ex cls dd m' σ' H' ρ' S' e r' re' rx q
end
end Pv
set_option Elab.async false
set_option linter.all false
set_option maxRecDepth 100000
set_option maxHeartbeats 2000000
/-! Pv11: from the text's statements to the small language. -/
namespace Pv
open PySem PySem.Spec PyProof.Rows L2

def noCompB : Expr → Bool
  | .ListComp .. | .SetComp .. | .DictComp .. => false
  | _ => true
def lkS (o : Option (Nat × Nat)) (s : IS) : IS := match o with
  | some q => .lock q.2 s
  | none => s
def slotOf (C : CC) (x : Str) : Option Nat := if locB C x then (ixS C.N x).bind fun i => if slotB C x i then some i else none else none
/-- a, b = x, y: stored from the right -/
def parB (C : CC) (x y : Str) (px py : Pos) (a b : Expr) : Bool :=
  decide (C.sc.names.lookup x = some .local) && decide (C.sc.names.lookup y = some .local) && (px.line == py.line) && decide (x ≠ y) && notStar a && notStar b && !([a, b].all (foldedForSure 8)) && !([a, b].all (constantsAlone 8))
def parB3 (C : CC) (x y z : Str) (px py pz : Pos) (a b c : Expr) : Bool :=
  decide (C.sc.names.lookup x = some .local) && decide (C.sc.names.lookup y = some .local) && decide (C.sc.names.lookup z = some .local) && (px.line == py.line) && (px.line == pz.line) && decide (x ≠ y) && decide (x ≠ z) && decide (y ≠ z) && notStar a && notStar b && notStar c && !([a, b, c].all (foldedForSure 8)) && !([a, b, c].all (constantsAlone 8))
/-- a tuple of constants, or of more than three: unpacked as a value -/
def foldB (es : List Expr) : Expr → Bool
  | .Tuple vs _ _ => vs.all (foldedForSure 8) || decide (3 < es.length)
  | _ => true
def cGen (C : CC) (f : Expr → Option IE) (es : List Expr) (k : Nat) (p : Pos) (e : Expr) : Option IS :=
  if foldB es e then match cTg C (.Tuple es k p) with
    | some (.tp is) => (f e).map fun p => .asg (.tp is) p
    | _ => none
  else none
def exIx (G : GT) (x : Str) : Option Nat := G.excs.findIdx? (fun p => p.1 == x)
def exAt (G : GT) (c : Nat) (x : Str) (fo : Option Str) : Bool := decide (G.excs[c]? = some (x, fo))
def strB : Expr → Bool
  | .Constant (.str _) _ _ => true
  | _ => false
def cRaise (G : GT) (C : CC) (f : Expr → Option IE) (x : Str) (a : Expr) : Option IS :=
  if C.calm && glbB C.sc x && !(x == ("__debug__" : Str)) && notStar a then
    (exIx G x).bind fun c => match G.excs[c]? with
      | some (y, none) => if y = x ∧ strB a = true then some (.raise c) else none
      | some (y, some _) => if y = x then (f a).map fun p => .raiseF c p else none
      | none => none
  else none
def nmNe (nm : Option (Str × Nat)) (j : Nat) : Bool := match nm with
  | some (_, i) => decide (i ≠ j)
  | none => true
def nmIs (C : CC) (nm : Option (Str × Nat)) (n : Str) : Bool := match nm with
  | some (m, i) => decide (m = n) && slotB C n i && decide (C.sc.names.lookup n = some .local) && !(n == ("__debug__" : Str)) && !(n == ("__classdict__" : Str))
  | none => false
def fldB (G : GT) (c : Nat) (f : Str) : Bool := match G.excs[c]? with
  | some (_, some g) => decide (g = f)
  | _ => false
def cstV (k : PySem.Const) : Option PV := match cConst k with
  | some (.cst v) => some v
  | _ => none
def cH1F (G : GT) (C : CC) (c : Nat) (nm : Option (Str × Nat)) (y : Option Str) (e : Expr) : Option HS := match e with
  | .Attribute o f _ => match o with
    | .Name n _ => if nmIs C nm n && fldB G c f then match y with
      | some y => (slotOf C y).bind fun j => if nmNe nm j then some (.setF j) else none
      | none => some .retF
      else none
    | _ => none
  | .Constant k _ _ => (cstV k).bind fun v => match y with
      | some y => (slotOf C y).bind fun j => if nmNe nm j then some (.setC j v) else none
      | none => some (.retC v)
  | _ => none
def cItems (n f : Str) : List Expr → Option (List (Option PV))
  | [] => some []
  | e :: r => match e with
    | .Constant k _ _ => (cstV k).bind fun v => (cItems n f r).map fun xs => some v :: xs
    | .Attribute o g _ => match o with
      | .Name m _ => if m = n ∧ g = f then (cItems n f r).map fun xs => none :: xs else none
      | _ => none
    | _ => none
def cHL (G : GT) (C : CC) (c : Nat) (nm : Option (Str × Nat)) (y : Str) (es : List Expr) : Option HS := match nm with
  | some (n, _) => match G.excs[c]? with
    | some (_, some f) => if nmIs C nm n then (slotOf C y).bind fun j => if nmNe nm j then (cItems n f es).map fun xs => .setL j xs else none else none
    | _ => none
  | none => none
def cHA (G : GT) (C : CC) (c : Nat) (nm : Option (Str × Nat)) (y n f : Str) : Option HS :=
  if nmIs C nm n && fldB G c f && visB C.sc y && !(y == ("__debug__" : Str)) && !(y == ("__classdict__" : Str)) then (ixS C.N y).bind fun j => if slotB C y j then some (.appF j) else none else none
def cHC (G : GT) (C : CC) (c : Nat) (nm : Option (Str × Nat)) (e : Expr) : Option HS := match e with
  | .Call g as kws p5 => match g with
    | .Attribute o m p3 => match o with
      | .Name y _ => match as with
        | [a] => match a with
          | .Attribute o2 f _ => match o2 with
            | .Name n _ => if m = "append" ∧ kws = [] ∧ (p3.endLine == p5.line) = true then cHA G C c nm y n f else none
            | _ => none
          | _ => none
        | _ => none
      | _ => none
    | _ => none
  | _ => none
def cHK (G : GT) (C : CC) (nm : Option (Str × Nat)) (y : Str) (g : Expr) (as : List Expr) (kws : List Keyword) : Option HS := match g with
  | .Name x _ => match as with
    | [a] => match a with
      | .Name n _ => if kws = [] ∧ (nmIs C nm n && C.calm && glbB C.sc x && !(x == ("__debug__" : Str))) = true then (slotOf C y).bind fun j => if nmNe nm j then (G.cks.lookup x).map fun t => .setK j t else none else none
      | _ => none
    | _ => none
  | _ => none
def cH1 (G : GT) (C : CC) (c : Nat) (nm : Option (Str × Nat)) (st : Stmt) : Option HS := match st with
  | .Assign ts e _ => match ts with
    | [t] => match t with
      | .Name y _ => match e with
        | .List es _ => cHL G C c nm y es
        | .Call g as kws _ => cHK G C nm y g as kws
        | e => cH1F G C c nm (some y) e
      | _ => none
    | _ => none
  | .Expr e _ => cHC G C c nm e
  | .Return (some e) _ => cH1F G C c nm none e
  | .Pass _ => some .pass
  | _ => none
def cH (G : GT) (C : CC) (c : Nat) (nm : Option (Str × Nat)) : List Stmt → Option (List HS)
  | [] => some []
  | st :: r => (cH1 G C c nm st).bind fun h => (cH G C c nm r).map fun hs => h :: hs
def cB (f : Stmt → Option IS) : List Stmt → Option ISs
  | [] => some .nil
  | s :: r => (f s).bind fun p => (cB f r).map fun ps => .cons p ps
def cAsg (G : GT) (C : CC) (f : Expr → Option IE) (t e : Expr) : Option IS :=
  match t, e with
  | .Name x _, e => if noCompB e || isComp e then (slotOf C x).bind fun i => (f e).map fun p => .asg (.nm i) p else none
  | .Tuple [.Name x px, .Name y py] k p, .Tuple [a, b] k2 p2 =>
    if C.calm && parB C x y px py a b then (slotOf C x).bind fun i => (slotOf C y).bind fun j => (cL f [a, b]).map fun ps => .asg (.tp [i, j]) (.tup ps) else cGen C f [.Name x px, .Name y py] k p (.Tuple [a, b] k2 p2)
  | .Tuple [.Name x px, .Name y py, .Name z pz] k p, .Tuple [a, b, c] k2 p2 =>
    if C.calm && parB3 C x y z px py pz a b c then (slotOf C x).bind fun i => (slotOf C y).bind fun j => (slotOf C z).bind fun l => (cL f [a, b, c]).map fun ps => .asg (.tp [i, j, l]) (.tup ps) else cGen C f [.Name x px, .Name y py, .Name z pz] k p (.Tuple [a, b, c] k2 p2)
  | .Tuple es k p, e => cGen C f es k p e
  | .Subscript o (.Tuple es _ _) _, e => (f e).bind fun p => (f o).bind fun po => (cL f es).map fun ps => .setT po ps p
  | .Subscript o k _, e => if plainB k then (f e).bind fun p => (f o).bind fun po => (f k).map fun pk => .asg (.sub po pk) p else none
  | .Attribute o fl _, e => if C.calm then (f e).bind fun p => (f o).map fun po => .setA (clsOf G fl) fl po p else none
  | _, _ => none
def cAug : Operator → Option BOp
  | .Add => some .add | .Sub => some .sub
  | _ => none
theorem cAug_ok {op : Operator} {o : BOp} (h : cAug op = some o) : op = Bop o ∧ (o = .add ∨ o = .sub) := by
  cases op <;> simp [cAug] at h <;> subst h
  · exact ⟨rfl, .inl rfl⟩
  · exact ⟨rfl, .inr rfl⟩
def cS (G : GT) : Nat → CC → Stmt → Option IS
  | 0, _, _ => none
  | n + 1, C, st => match st with
    | .Pass _ => some .pass
    | .Break _ => some .brk
    | .Continue _ => some .cont
    | .Expr e _ => if noCompB e then (cE G n C e).map .expr else none
    | .Return (some e) _ => (cE G n C e).map .ret
    | .Return none _ => some .retN
    | .If t a b _ => (cE G n C t).bind fun p => (cB (cS G n C) a).bind fun x => (cB (cS G n C) b).map fun y => .ifs p x y
    | .While t b [] _ => (cE G n C t).bind fun p => (cB (cS G n C) b).map fun x => .whl p x
    | .For tg it b [] _ => if C.calm then (cI G C (cE G n C) tg it).bind fun i => (cTg C tg).bind fun t => (cB (cS G n C) b).map fun x => lkS (lockOf G C it) (.for_ t i x) else none
    | .Assign [t] e _ => cAsg G C (cE G n C) t e
    | .AugAssign (.Subscript d k _) op e _ => if plainB k then (cAug op).bind fun o => (cE G n C d).bind fun pd => (cE G n C k).bind fun pk => (cE G n C e).map fun p => .augD pd pk o p else none
    | .AugAssign (.Attribute ob fl _) op e _ => if C.calm then (cAug op).bind fun o => (cE G n C ob).bind fun po => (cE G n C e).map fun p => .augA (clsOf G fl) fl o po p else none
    | .Raise (some (.Call (.Name x _) [a] [] _)) none _ => cRaise G C (cE G n C) x a
    | .Try body [.ExceptHandler (some (.Name x _)) none (b₀ :: suite) _] [] [] _ =>
      if !C.blk && glbB C.sc x && !(x == ("__debug__" : Str)) then
        (exIx G x).bind fun c => if (match G.excs[c]? with | some (y, _) => decide (y = x ∧ c ∈ G.hs) | none => false) then
          (cB (cS G n C) body).bind fun sb => (cH G C c none (b₀ :: suite)).map fun hs => .tryE sb c none hs else none
      else none
    | .Try body [.ExceptHandler (some (.Name x _)) (some nm) (b₀ :: suite) _] [] [] _ =>
      if !C.blk && glbB C.sc x && !(x == ("__debug__" : Str)) && decide (C.sc.names.lookup nm = some .local) then
        (exIx G x).bind fun c => if (match G.excs[c]? with | some (y, _) => decide (y = x ∧ c ∈ G.hs) | none => false) then
          (slotOf C nm).bind fun i => (cB (cS G n C) body).bind fun sb => (cH G C c (some (nm, i)) (b₀ :: suite)).map fun hs => .tryE sb c (some i) hs else none
      else none
    | _ => none

section
variable {X : Cx} {G : GT} {W : WX} {Φ : Call} {C : CC} {T : Tab} {e a b tgE : Expr} {p q : IE} {st : Stmt} {sts : List Stmt} {s : IS} {ss : ISs} {pos : Pos} {x y : Str} {i j : Nat}
theorem slotOf_ok (c : Ctx G C X W Φ) (h : slotOf C x = some i) : X.N[i]? = some x ∧ L2.Loc X.env.scope x ∧ (X.fn x = true ∨ X.env.scope.names.lookup x = some .local) := by
  unfold slotOf at h
  split at h
  · rename_i hl
    simp only [Option.bind_eq_some_iff] at h
    obtain ⟨k, _, h⟩ := h
    split at h
    · rename_i hs
      cases h
      exact ⟨c.slot hs, c.loc hl⟩
    · cases h
  · cases h
theorem swaps_none (h : noCompB e = true) {t : Option Expr} {l : Nat} {env : PySem.Env} : swapsWith e t l env = pure false := by cases e <;> first | rfl | cases h
theorem sole_tup {es : List Expr} {k l : Nat} {p1 : Pos} {env : PySem.Env} : swapsWithSole [.Tuple es k p1] e l env = pure false := by cases e <;> rfl
theorem sole_sub {o k : Expr} {l : Nat} {p1 : Pos} {env : PySem.Env} : swapsWithSole [.Subscript o k p1] e l env = pure false := by cases e <;> rfl
theorem stores_tup {es : List Expr} {k : Nat} {p1 : Pos} {env : PySem.Env} (h : isTup e = false) : swappedStores [.Tuple es k p1] e env = pure none := by cases e <;> first | rfl | cases h
theorem stores_fold {es : List Expr} {k : Nat} {p1 : Pos} {env : PySem.Env} (h : foldB es e = true) : swappedStores [.Tuple es k p1] e env = pure none := by
  cases e with
  | Tuple vs k2 p2 =>
    simp only [foldB, Bool.or_eq_true, decide_eq_true_eq] at h
    unfold swappedStores
    simp only
    split
    · rfl
    · rename_i h1
      split
      · rfl
      · split
        · rfl
        · rcases h with h | h
          · rw [if_pos h]
          · exfalso
            apply h1
            have e2 : (es.length == 2) = false := by simp; omega
            have e3 : (es.length == 3) = false := by simp; omega
            simp [e2, e3]
  | _ => rfl
theorem stores_sub {o k : Expr} {p1 : Pos} {env : PySem.Env} : swappedStores [.Subscript o k p1] e env = pure none := by cases e <;> rfl
theorem comp_swap (c : Ctx G C X W Φ) {e : Expr} {p1 : Pos} {l : Nat} (hc : isComp e = true) (hx : L2.Loc X.env.scope x) :
    (swapsWith e (some (.Name x p1)) l X.env = pure true ∧ X.env.scope.names.lookup x = some .local) ∨ swapsWith e (some (.Name x p1)) l X.env = pure false := by
  have hb : X.env.blockKind = .function := by unfold Env.blockKind; rw [c.kind]; rfl
  have ke : X.env.kindOf x = X.env.scope.names.lookup x := rfl
  have go : ∀ scope : Scope, (swapsWith e (some (.Name x p1)) l X.env = (pure (X.env.blockKind == .function && X.env.kindOf x == some .local && p1.line == e.pos.line && !(scope.names.any fun (n, k) => n == x && (k == .local || k == .cell))) : Sem Bool)) →
      (swapsWith e (some (.Name x p1)) l X.env = pure true ∧ X.env.scope.names.lookup x = some .local) ∨ swapsWith e (some (.Name x p1)) l X.env = pure false := fun scope h => by
    rw [h, ke, hb]
    rcases hx with hx | hx
    · rw [hx]
      cases hq : (p1.line == e.pos.line && !(scope.names.any fun (n, k) => n == x && (k == .local || k == .cell))) with
      | true =>
        left
        refine ⟨?_, rfl⟩
        simp only [Bool.and_eq_true] at hq
        simp [hq.1, hq.2]
      | false =>
        right
        simp only [beq_self_eq_true, Bool.true_and, hq]
    · right
      rw [hx]
      rfl
  cases e with
  | ListComp elt gens scope p2 => exact go scope rfl
  | DictComp kx vx gens scope p2 => exact go scope rfl
  | _ => cases hc
theorem ns1 (h : notStar e = true) : swappedStores.match_5 (fun _ => Bool) e (fun _ _ => true) (fun _ => false) = false := by cases e <;> first | rfl | cases h
theorem par_ok (c : Ctx G C X W Φ) {px py pt pt2 : Pos} {kt k2 : Nat} (h : parB C x y px py a b = true) : swappedStores [.Tuple [.Name x px, .Name y py] kt pt] (.Tuple [a, b] k2 pt2) X.env = pure (some [x, y]) ∧
    X.env.scope.names.lookup x = some .local ∧ X.env.scope.names.lookup y = some .local ∧ x ≠ y ∧ [a, b].all notStar = true := by
  unfold parB at h
  simp only [Bool.and_eq_true, decide_eq_true_eq, Bool.not_eq_true'] at h
  obtain ⟨⟨⟨⟨⟨⟨⟨h1, h2⟩, h3⟩, h4⟩, h5⟩, h6⟩, h7⟩, h8⟩ := h
  have hb : X.env.blockKind = .function := by unfold Env.blockKind; rw [c.kind]; rfl
  have k1 := c.sc.lo x h1
  have k2' := c.sc.lo y h2
  have e1 : X.env.kindOf x = some .local := k1
  have e2 : X.env.kindOf y = some .local := k2'
  refine ⟨?_, k1, k2', h4, by simp [h5, h6]⟩
  have l2 : (py.line == px.line) = true := by rw [beq_iff_eq] at h3 ⊢; exact h3.symm
  have hyx : (y == x) = false := by simpa using fun z => h4 z.symm
  unfold swappedStores
  simp only [List.length_cons, List.length_nil, hb, h7, h8, List.any_cons, List.any_nil, ns1 h5, ns1 h6, List.filterMap_cons, List.filterMap_nil, List.head?_cons, Option.map_some, Option.getD_some, e1, e2, Expr.pos, l2, beq_self_eq_true, Bool.and_self, if_true, List.eraseDups_cons, List.filter_cons, List.filter_nil, hyx]
  rfl
theorem par3_ok (c : Ctx G C X W Φ) {z : Str} {d : Expr} {px py pz pt pt2 : Pos} {kt k2 : Nat} (h : parB3 C x y z px py pz a b d = true) : swappedStores [.Tuple [.Name x px, .Name y py, .Name z pz] kt pt] (.Tuple [a, b, d] k2 pt2) X.env = pure (some [x, y, z]) ∧
    X.env.scope.names.lookup x = some .local ∧ X.env.scope.names.lookup y = some .local ∧ X.env.scope.names.lookup z = some .local ∧ x ≠ y ∧ x ≠ z ∧ y ≠ z ∧ [a, b, d].all notStar = true := by
  unfold parB3 at h
  simp only [Bool.and_eq_true, decide_eq_true_eq, Bool.not_eq_true'] at h
  obtain ⟨⟨⟨⟨⟨⟨⟨⟨⟨⟨⟨⟨h1, h2⟩, h3⟩, h4⟩, h5⟩, h6⟩, h7⟩, h8⟩, h9⟩, h10⟩, h11⟩, h12⟩, h13⟩ := h
  have hb : X.env.blockKind = .function := by unfold Env.blockKind; rw [c.kind]; rfl
  have k1 := c.sc.lo x h1
  have k2' := c.sc.lo y h2
  have k3 := c.sc.lo z h3
  have e1 : X.env.kindOf x = some .local := k1
  have e2 : X.env.kindOf y = some .local := k2'
  have e3 : X.env.kindOf z = some .local := k3
  refine ⟨?_, k1, k2', k3, h6, h7, h8, by simp [h9, h10, h11]⟩
  have l2 : (py.line == px.line) = true := by rw [beq_iff_eq] at h4 ⊢; exact h4.symm
  have l3 : (pz.line == px.line) = true := by rw [beq_iff_eq] at h5 ⊢; exact h5.symm
  have hyx : (y == x) = false := by simpa using fun z => h6 z.symm
  have hzx : (z == x) = false := by simpa using fun w => h7 w.symm
  have hzy : (z == y) = false := by simpa using fun w => h8 w.symm
  unfold swappedStores
  simp only [List.length_cons, List.length_nil, hb, h12, h13, List.any_cons, List.any_nil, ns1 h9, ns1 h10, ns1 h11, List.filterMap_cons, List.filterMap_nil, List.head?_cons, Option.map_some, Option.getD_some, e1, e2, e3, Expr.pos, l2, l3, beq_self_eq_true, Bool.and_self, if_true, List.eraseDups_cons, List.filter_cons, List.filter_nil, hyx, hzx, hzy, Bool.not_false]
  have e : ([x, y, z] : List Str).eraseDups.length = 3 := by simp [List.eraseDups_cons, hyx, hzx, hzy]
  simp only [List.eraseDups_cons, List.filter_cons, List.filter_nil, hzy, Bool.not_false, if_true, List.length_cons, List.eraseDups_nil, List.length_nil]
  rfl
theorem cGen_ok (c : Ctx G C X W Φ) {f : Expr → Option IE} (hf : ∀ e p, f e = some p → EX X G W Φ e p) {es : List Expr} {k : Nat} {p1 : Pos} (h : cGen C f es k p1 e = some s) : SX X G W Φ T (.Assign [.Tuple es k p1] e pos) s := by
  unfold cGen at h
  split at h
  · rename_i hq
    split at h
    · rename_i is ht
      simp only [Option.map_eq_some_iff] at h
      obtain ⟨p, hp, rfl⟩ := h
      exact sx_setT (hf _ _ hp) (cTg_ok c ht) sole_tup (stores_fold hq)
    · cases h
  · cases h
theorem cstV_ok {k : PySem.Const} {v : PV} (h : cstV k = some v) : cConst k = some (.cst v) := by
  unfold cstV at h
  split at h
  · rename_i q; cases h; exact q
  · cases h
theorem fldB_ok {c : Nat} {f : Str} (h : fldB G c f = true) : ∃ x, G.excs[c]? = some (x, some f) := by
  unfold fldB at h
  split at h
  · rename_i q
    cases of_decide_eq_true h
    exact ⟨_, q⟩
  · cases h
theorem nmIs_ok (c : Ctx G C X W Φ) {nm : Option (Str × Nat)} {n : Str} (h : nmIs C nm n = true) : ∃ i, nm = some (n, i) ∧ X.N[i]? = some n ∧ X.env.scope.names.lookup n = some .local ∧ (n == ("__debug__" : Str)) = false ∧ (n == ("__classdict__" : Str)) = false := by
  unfold nmIs at h
  split at h
  · rename_i m i
    simp only [Bool.and_eq_true, decide_eq_true_eq, Bool.not_eq_true'] at h
    obtain ⟨⟨⟨⟨rfl, h1⟩, h2⟩, h3⟩, h4⟩ := h
    exact ⟨i, rfl, c.slot h1, c.sc.lo _ h2, h3, h4⟩
  · cases h
theorem nmNe_ok {nm : Option (Str × Nat)} {j : Nat} (h : nmNe nm j = true) : ∀ n i, nm = some (n, i) → i ≠ j := fun n i e => by
  subst e
  exact of_decide_eq_true h
theorem cItems_ok {n f : Str} : ∀ {es : List Expr} {xs : List (Option PV)}, cItems n f es = some xs → HItems n f es xs
  | [], _, h => by cases h; exact .nil
  | e :: r, _, h => by
    cases e with
    | Constant k kk p =>
      simp only [cItems, Option.bind_eq_some_iff, Option.map_eq_some_iff] at h
      obtain ⟨v, hv, xs, hx, rfl⟩ := h
      exact .cst (cstV_ok hv) (cItems_ok hx)
    | Attribute o g p =>
      cases o with
      | Name m p2 =>
        simp only [cItems] at h
        split at h
        · rename_i hh
          obtain ⟨rfl, rfl⟩ := hh
          simp only [Option.map_eq_some_iff] at h
          obtain ⟨xs, hx, rfl⟩ := h
          exact .fld (cItems_ok hx)
        · cases h
      | _ => simp [cItems] at h
    | _ => simp [cItems] at h
theorem cH1_ok (c : Ctx G C X W Φ) {k : Nat} {nm : Option (Str × Nat)} {h : HS} (hh : cH1 G C k nm st = some h) : HOk1 X G k nm st h := by
  cases st with
  | Assign ts e ps =>
    match ts with
    | [] => cases hh
    | _ :: _ :: _ => cases hh
    | [t] =>
      cases t with
      | Name y p1 =>
        cases e with
        | Attribute o f p3 =>
          cases o with
          | Name n p2 =>
            simp only [cH1, cH1F] at hh
            split at hh
            · rename_i hq
              rw [Bool.and_eq_true] at hq
              simp only [Option.bind_eq_some_iff] at hh
              obtain ⟨j, hj, hh⟩ := hh
              split at hh
              · rename_i hn
                cases hh
                obtain ⟨i, g1, g2, g3, g4, g5⟩ := nmIs_ok c hq.1
                obtain ⟨x, hx⟩ := fldB_ok hq.2
                obtain ⟨s1, s2, s3⟩ := slotOf_ok c hj
                exact .setF g1 (nmNe_ok hn _ _ g1) g2 g3 g4 g5 hx s1 s2 s3
              · cases hh
            · cases hh
          | _ => simp [cH1, cH1F] at hh
        | Constant kk jj p2 =>
          simp only [cH1, cH1F, Option.bind_eq_some_iff] at hh
          obtain ⟨v, hv, j, hj, hh⟩ := hh
          split at hh
          · rename_i hn
            cases hh
            obtain ⟨s1, s2, s3⟩ := slotOf_ok c hj
            exact .setC (nmNe_ok hn) (cstV_ok hv) s1 s2 s3
          · cases hh
        | List es p3 =>
          simp only [cH1] at hh
          unfold cHL at hh
          split at hh
          · rename_i n i
            split at hh
            · rename_i x f hG
              split at hh
              · rename_i hq
                simp only [Option.bind_eq_some_iff] at hh
                obtain ⟨j, hj, hh⟩ := hh
                split at hh
                · rename_i hn
                  simp only [Option.map_eq_some_iff] at hh
                  obtain ⟨xs, hxs, rfl⟩ := hh
                  obtain ⟨i', g1, g2, g3, g4, g5⟩ := nmIs_ok c hq
                  obtain ⟨s1, s2, s3⟩ := slotOf_ok c hj
                  exact .setL g1 (nmNe_ok hn _ _ g1) g2 g3 g4 g5 hG s1 s2 s3 (cItems_ok hxs)
                · cases hh
              · cases hh
            · cases hh
          · cases hh
        | Call g as kws p4 =>
          simp only [cH1] at hh
          cases g with
          | Name x p2 =>
            match as, hh with
            | [a], h9 =>
              cases a with
              | Name n p3 =>
                simp only [cHK] at h9
                split at h9
                · rename_i hq
                  obtain ⟨rfl, hq⟩ := hq
                  simp only [Bool.and_eq_true, Bool.not_eq_true'] at hq
                  obtain ⟨⟨⟨q1, q2⟩, q3⟩, q4⟩ := hq
                  simp only [Option.bind_eq_some_iff] at h9
                  obtain ⟨j, hj, h9⟩ := h9
                  split at h9
                  · rename_i hn
                    simp only [Option.map_eq_some_iff] at h9
                    obtain ⟨t, ht, rfl⟩ := h9
                    obtain ⟨i', g1, g2, g3, g4, g5⟩ := nmIs_ok c q1
                    obtain ⟨s1, s2, s3⟩ := slotOf_ok c hj
                    exact .setK g1 (nmNe_ok hn _ _ g1) g2 g3 g4 g5 s1 s2 s3 (c.gl q3) q4 (lookup_mem ht) (by have := (c.room q2).dp; omega)
                  · cases h9
                · cases h9
              | _ => simp [cHK] at h9
            | [], hh => simp [cHK] at hh
            | _ :: _ :: _, hh => simp [cHK] at hh
          | _ => simp [cHK] at hh
        | _ => simp [cH1, cH1F] at hh
      | _ => simp [cH1] at hh
  | Expr e ps =>
    simp only [cH1] at hh
    cases e with
    | Call g as kws p5 =>
      cases g with
      | Attribute o m p3 =>
        cases o with
        | Name y p1 =>
          match as, hh with
          | [a], h9 =>
            cases a with
            | Attribute o2 f p4 =>
              cases o2 with
              | Name n p2 =>
                simp only [cHC] at h9
                split at h9
                · rename_i hq
                  obtain ⟨rfl, rfl, hl⟩ := hq
                  unfold cHA at h9
                  split at h9
                  · rename_i hz
                    simp only [Bool.and_eq_true, Bool.not_eq_true'] at hz
                    obtain ⟨⟨⟨⟨z1, z2⟩, z3⟩, z4⟩, z5⟩ := hz
                    simp only [Option.bind_eq_some_iff] at h9
                    obtain ⟨j, _, h9⟩ := h9
                    split at h9
                    · rename_i hs
                      cases h9
                      obtain ⟨i', g1, g2, g3, g4, g5⟩ := nmIs_ok c z1
                      obtain ⟨x, hx⟩ := fldB_ok z2
                      exact .appF g1 g2 g3 g4 g5 hx (c.slot hs) (c.vis z3) z4 z5 hl
                    · cases h9
                  · cases h9
                · cases h9
              | _ => simp [cHC] at h9
            | _ => simp [cHC] at h9
          | [], hh => simp [cHC] at hh
          | _ :: _ :: _, hh => simp [cHC] at hh
        | _ => simp [cHC] at hh
      | _ => simp [cHC] at hh
    | _ => simp [cHC] at hh
  | Return o ps =>
    cases o with
    | none => simp [cH1] at hh
    | some e =>
      cases e with
      | Attribute o f p3 =>
        cases o with
        | Name n p2 =>
          simp only [cH1, cH1F] at hh
          split at hh
          · rename_i hq
            rw [Bool.and_eq_true] at hq
            cases hh
            obtain ⟨i, g1, g2, g3, g4, g5⟩ := nmIs_ok c hq.1
            obtain ⟨x, hx⟩ := fldB_ok hq.2
            exact .retF g1 g2 g3 g4 g5 hx
          · cases hh
        | _ => simp [cH1, cH1F] at hh
      | Constant kk jj p2 =>
        simp only [cH1, cH1F, Option.bind_eq_some_iff] at hh
        obtain ⟨v, hv, hh⟩ := hh
        cases hh
        exact .retC (cstV_ok hv)
      | _ => simp [cH1, cH1F] at hh
  | Pass ps => cases hh; exact .pass
  | _ => simp [cH1] at hh
theorem cH_ok (c : Ctx G C X W Φ) {k : Nat} {nm : Option (Str × Nat)} : ∀ {sts : List Stmt} {hs : List HS}, cH G C k nm sts = some hs → HsOk X G k nm sts hs
  | [], _, h => by cases h; exact .nil
  | st :: r, _, h => by
    simp only [cH, Option.bind_eq_some_iff, Option.map_eq_some_iff] at h
    obtain ⟨h1, g1, hs, g2, rfl⟩ := h
    exact .cons (cH1_ok c g1) (cH_ok c g2)
theorem cB_ok {f : Stmt → Option IS} (hf : ∀ st p, f st = some p → SX X G W Φ T st p) : ∀ {sts : List Stmt} {ss : ISs}, cB f sts = some ss → SsX X G W Φ T sts ss
  | [], _, h => by cases h; exact ssx_nil
  | [st], _, h => by
    simp only [cB, Option.bind_eq_some_iff, Option.map_eq_some_iff] at h
    obtain ⟨p, hp, ps, hps, rfl⟩ := h
    cases hps
    exact ssx_one (hf st p hp)
  | st :: st2 :: r, _, h => by
    rw [cB] at h
    simp only [Option.bind_eq_some_iff, Option.map_eq_some_iff] at h
    obtain ⟨p, hp, ps, hps, rfl⟩ := h
    have h2 := cB_ok hf hps
    rw [cB] at hps
    simp only [Option.bind_eq_some_iff, Option.map_eq_some_iff] at hps
    obtain ⟨p2, _, ps2, _, rfl⟩ := hps
    exact ssx_cons (hf st p hp) h2
theorem cRaise_ok (c : Ctx G C X W Φ) {f : Expr → Option IE} (hf : ∀ e p, f e = some p → EX X G W Φ e p) {p0 p2 : Pos} (h : cRaise G C f x a = some s) : SX X G W Φ T (.Raise (some (.Call (.Name x p0) [a] [] p2)) none pos) s := by
  unfold cRaise at h
  split at h
  · rename_i hq
    simp only [Bool.and_eq_true, Bool.not_eq_true'] at hq
    obtain ⟨⟨⟨h1, h2⟩, h3⟩, h4⟩ := hq
    simp only [Option.bind_eq_some_iff] at h
    obtain ⟨k, _, h⟩ := h
    split at h
    · rename_i y hy
      split at h
      · rename_i hh
        obtain ⟨rfl, hs⟩ := hh
        cases h
        cases a with
        | Constant kk jj p1 =>
          cases kk with
          | str z => exact sx_raise (c.calm h1) c.tk hy (c.exc _ _ hy) (c.gl h2) h3
          | _ => cases hs
        | _ => cases hs
      · cases h
    · rename_i y g hy
      split at h
      · rename_i hh
        subst hh
        simp only [Option.map_eq_some_iff] at h
        obtain ⟨p, hp, rfl⟩ := h
        exact sx_raiseF (c.calm h1) (c.room h1) c.tk hy (c.excF _ _ _ hy) (c.gl h2) (hf _ _ hp) h4
      · cases h
    · cases h
  · cases h
theorem cAsg_ok (c : Ctx G C X W Φ) {f : Expr → Option IE} (hf : ∀ e p, f e = some p → EX X G W Φ e p) (hlc : ∀ e p, f e = some p → isComp e = true → ∃ o q, p = lkE o q ∧ AsgP X G W Φ e q) {t : Expr} (h : cAsg G C f t e = some s) : SX X G W Φ T (.Assign [t] e pos) s := by
  unfold cAsg at h
  split at h
  · rename_i x p1
    split at h
    · rename_i hq
      simp only [Option.bind_eq_some_iff, Option.map_eq_some_iff] at h
      obtain ⟨i, hi, p, hp, rfl⟩ := h
      obtain ⟨s1, s2, s3⟩ := slotOf_ok c hi
      by_cases hn : noCompB e = true
      · exact sx_setN (hf _ _ hp) c.nodup s1 s2 s3 (swaps_none hn)
      · have hc : isComp e = true := by
          cases z : noCompB e with
          | true => exact absurd z hn
          | false => rw [z, Bool.false_or] at hq; exact hq
        rcases comp_swap c (p1 := p1) (l := pos.line) hc s2 with ⟨k1, k2⟩ | k1
        · obtain ⟨o, q, rfl, h⟩ := hlc _ _ hp hc
          exact sx_setLc h s1 k2 k1
        · exact sx_setN (hf _ _ hp) c.nodup s1 s2 s3 k1
    · cases h
  · split at h
    · rename_i hq
      rw [Bool.and_eq_true] at hq
      simp only [Option.bind_eq_some_iff, Option.map_eq_some_iff] at h
      obtain ⟨i, hi, j, hj, ps, hps, rfl⟩ := h
      obtain ⟨g1, g2, g3, g4, g5⟩ := par_ok c hq.2
      obtain ⟨s1, _, _⟩ := slotOf_ok c hi
      obtain ⟨s2, _, _⟩ := slotOf_ok c hj
      refine sx_par (c.calm hq.1) c.nodup s1 s2 (fun z => ?_) g2 g3 (cL_ok hf hps).1 g1
      subst z
      rw [s1] at s2
      exact g4 (Option.some.inj s2)
    · exact cGen_ok c hf h
  · split at h
    · rename_i hq
      rw [Bool.and_eq_true] at hq
      simp only [Option.bind_eq_some_iff, Option.map_eq_some_iff] at h
      obtain ⟨i, hi, j, hj, l, hl, ps, hps, rfl⟩ := h
      obtain ⟨g1, g2, g3, g3', g4, g5, g6, g7⟩ := par3_ok c hq.2
      obtain ⟨s1, _, _⟩ := slotOf_ok c hi
      obtain ⟨s2, _, _⟩ := slotOf_ok c hj
      obtain ⟨s3, _, _⟩ := slotOf_ok c hl
      refine sx_par3 (c.calm hq.1) c.nodup s1 s2 s3 (fun z => ?_) (fun z => ?_) (fun z => ?_) g2 g3 g3' (cL_ok hf hps).1 g1
      · subst z; rw [s1] at s2; exact g4 (Option.some.inj s2)
      · subst z; rw [s1] at s3; exact g5 (Option.some.inj s3)
      · subst z; rw [s2] at s3; exact g6 (Option.some.inj s3)
    · exact cGen_ok c hf h
  · exact cGen_ok c hf h
  · rename_i o es x1 p2 p1
    simp only [Option.bind_eq_some_iff, Option.map_eq_some_iff] at h
    obtain ⟨p, hp, po, hpo, ps, hps, rfl⟩ := h
    exact sx_putT c.units (hf _ _ hp) (hf _ _ hpo) (cL_ok hf hps).1 sole_sub stores_sub fun v => rfl
  · rename_i o k p1 _
    split at h
    · rename_i hk
      simp only [Option.bind_eq_some_iff, Option.map_eq_some_iff] at h
      obtain ⟨p, hp, po, hpo, pk, hpk, rfl⟩ := h
      refine sx_setS c.units (hf _ _ hp) (hf _ _ hpo) (hf _ _ hpk) sole_sub stores_sub fun v => ?_
      cases k <;> first | rfl | cases hk
    · cases h
  · rename_i o fl p1
    split at h
    · rename_i hc
      simp only [Option.bind_eq_some_iff, Option.map_eq_some_iff] at h
      obtain ⟨p, hp, po, hpo, rfl⟩ := h
      exact sx_setA (c.obj hc) (fun x h => clsOf_ok h) (hf _ _ hp) (hf _ _ hpo) (by cases e <;> rfl)
    · cases h
  · cases h
theorem Ctx.tr (c : Ctx G C X W Φ) {W' : WX} {pn : List (Addr × Obj)} {xe : Value → Shared → Prop} (tk : Takes (X.tr pn xe) W') (ps : PassesOwn (model X.prog X.w) X.A X.env xe) : Ctx G C (X.tr pn xe) W' Φ where
  hN := c.hN
  nd := c.nd
  kind := c.kind
  sc := c.sc
  fn := c.fn
  calm := c.calm
  units := c.units
  call := fun h => ⟨(c.call h).ok⟩
  obj := fun h => ⟨(c.obj h).fld, (c.obj h).meth, (c.obj h).make⟩
  tk := tk
  pass := ps
  blt := c.blt
  room := c.room
  frame := c.frame
  exc := c.exc
  excF := c.excF
  ck := c.ck
  cat := c.cat
  con := c.con
theorem aug_plain {k : Expr} (hk : plainB k = true) : ∀ ov iv new, augStore k ov iv new = (do holding [new, ov, iv] (setItem ov iv new); release [new, ov, iv] []; pure .next) := by
  intro ov iv new
  cases k <;> first | rfl | cases hk
theorem cS_ok (G : GT) (Φ : Call) : ∀ (n : Nat) (C : CC) (st : Stmt) (s : IS), cS G n C st = some s → ∀ (X : Cx) (W : WX), Ctx G C X W Φ → SX X G W Φ G.tab st s
  | 0, _, _, _, h => by cases h
  | n + 1, C, st, s, h => by
    intro X W c
    have ih : ∀ st s, cS G n C st = some s → SX X G W Φ G.tab st s := fun st s h => cS_ok G Φ n C st s h X W c
    have ie : ∀ e p, cE G n C e = some p → EX X G W Φ e p := fun e p h => (cE_ok G Φ n C e p h X W c).1
    have it : ∀ e p, cE G n C e = some p → TX X G W Φ e p := fun e p h => (cE_ok G Φ n C e p h X W c).2.1
    unfold cS at h
    split at h
    · cases h; exact sx_pass
    · cases h; exact sx_brk
    · cases h; exact sx_cont
    · split at h
      · rename_i hn
        simp only [Option.map_eq_some_iff] at h
        obtain ⟨p, hp, rfl⟩ := h
        exact sx_expr (ie _ _ hp) (swaps_none hn)
      · cases h
    · simp only [Option.map_eq_some_iff] at h
      obtain ⟨p, hp, rfl⟩ := h
      exact sx_ret (ie _ _ hp)
    · cases h; exact sx_retN
    · simp only [Option.bind_eq_some_iff, Option.map_eq_some_iff] at h
      obtain ⟨p, hp, x, hx, y, hy, rfl⟩ := h
      exact sx_if (it _ _ hp) (cB_ok ih hx) (cB_ok ih hy)
    · simp only [Option.bind_eq_some_iff, Option.map_eq_some_iff] at h
      obtain ⟨p, hp, x, hx, rfl⟩ := h
      exact sx_while c.pass (it _ _ hp) (cB_ok ih hx)
    · split at h
      · rename_i hc
        simp only [Option.bind_eq_some_iff, Option.map_eq_some_iff] at h
        obtain ⟨i, hi, t, ht, x, hx, rfl⟩ := h
        obtain ⟨ix, hf⟩ := cI_ok c ie hi
        have z := fun pos => sx_for (pos := pos) (c.calm hc) c.pass ix (cTg_ok c ht) (cB_ok ih hx) hf
        unfold lkS
        split
        · exact sx_lock (z _)
        · exact z _
      · cases h
    · exact cAsg_ok c ie (fun e p hp => (cE_ok G Φ n C _ p hp X W c).2.2) h
    · split at h
      · rename_i hk
        simp only [Option.bind_eq_some_iff, Option.map_eq_some_iff] at h
        obtain ⟨o, ho, pd, hpd, pk, hpk, p, hp, rfl⟩ := h
        obtain ⟨eo, ho2⟩ := cAug_ok ho
        subst eo
        refine sx_augD ho2 c.units (ie _ _ hpd) (ie _ _ hpk) (ie _ _ hp) ?_
        rename_i k _ _ _ _ _
        intro ov iv new
        exact aug_plain hk ov iv new
      · cases h
    · split at h
      · rename_i hc
        simp only [Option.bind_eq_some_iff, Option.map_eq_some_iff] at h
        obtain ⟨o, ho, po, hpo, p, hp, rfl⟩ := h
        obtain ⟨eo, ho2⟩ := cAug_ok ho
        subst eo
        exact sx_augA ho2 (c.obj hc) (fun x h => clsOf_ok h) (ie _ _ hp) (ie _ _ hpo)
      · cases h
    · exact cRaise_ok c ie h
    · split at h
      · rename_i hq
        simp only [Bool.and_eq_true, Bool.not_eq_true'] at hq
        simp only [Option.bind_eq_some_iff] at h
        obtain ⟨k, _, h⟩ := h
        split at h
        · rename_i y fo hy
          split at h
          · rename_i hk
            obtain ⟨ek, hkm⟩ := of_decide_eq_true hk
            subst ek
            simp only [Option.bind_eq_some_iff, Option.map_eq_some_iff] at h
            obtain ⟨sb, hsb, hs, hhs, rfl⟩ := h
            have hm : ∃ cv, X.mg y = some cv := by
              cases fo with
              | none => obtain ⟨A, _, _, _, _, _, _, g, _⟩ := c.exc _ _ hy; exact ⟨_, g⟩
              | some f => obtain ⟨A, g, _⟩ := c.excF _ _ _ hy; exact ⟨_, g⟩
            obtain ⟨cv, hcv⟩ := hm
            exact sx_tryOnly c rfl hkm hq.1.1 (c.gl hq.1.2) hq.2 hy hcv (fun W' pn xe tk ps => cB_ok (fun st s h => cS_ok G Φ n C st s h _ _ (c.tr tk ps)) hsb) (cH_ok c hhs)
          · cases h
        · simp at h
      · cases h
    · split at h
      · rename_i hq
        simp only [Bool.and_eq_true, Bool.not_eq_true', decide_eq_true_eq] at hq
        simp only [Option.bind_eq_some_iff] at h
        obtain ⟨k, _, h⟩ := h
        split at h
        · rename_i y fo hy
          split at h
          · rename_i hk
            obtain ⟨ek, hkm⟩ := of_decide_eq_true hk
            subst ek
            simp only [Option.bind_eq_some_iff, Option.map_eq_some_iff] at h
            obtain ⟨i, hi, sb, hsb, hs, hhs, rfl⟩ := h
            have hm : ∃ cv, X.mg y = some cv := by
              cases fo with
              | none => obtain ⟨A, _, _, _, _, _, _, g, _⟩ := c.exc _ _ hy; exact ⟨_, g⟩
              | some f => obtain ⟨A, g, _⟩ := c.excF _ _ _ hy; exact ⟨_, g⟩
            obtain ⟨cv, hcv⟩ := hm
            obtain ⟨s1, _, _⟩ := slotOf_ok c hi
            exact sx_tryAs c rfl hkm hq.1.1.1 s1 (c.sc.lo _ hq.2) (c.gl hq.1.1.2) hq.1.2 hy hcv (fun W' pn xe tk ps => cB_ok (fun st s h => cS_ok G Φ n C st s h _ _ (c.tr tk ps)) hsb) (cH_ok c hhs)
          · cases h
        · simp at h
      · cases h
    · cases h
end
end Pv
set_option Elab.async false
set_option linter.all false
set_option maxRecDepth 100000
set_option maxHeartbeats 2000000
/-! Pv12: the program's defs, by levels of calls; the law. -/
namespace Pv
open PySem PySem.Spec PyProof.Rows L2

/-- a def: how many parameters, how many slots, its body -/
structure FD where
  n : Nat
  N : Nat
  body : ISs
/-- behind a call the caller's store, with what is new kept or forgotten -/
def Gc (n : Nat) (v : PV) (S' : Store) (Q : PQ) : Prop :=
  Q v S' ∨ ∃ S0 junk, S' = S0 ++ junk ∧ S0.length = n ∧ wfAt n S0 = true ∧ v.under n = true ∧ Q v S0
def fldUnder (n : Nat) : Option PV → Bool
  | some v => v.under n
  | none => true
def GcX (n : Nat) (x : PEx) (S' : Store) (E : PX) : Prop :=
  E x S' ∨ ∃ S0 junk, S' = S0 ++ junk ∧ S0.length = n ∧ wfAt n S0 = true ∧ fldUnder n x.fld = true ∧ E x S0
def startP (N : Nat) (args : List PV) : Env := args.map some ++ List.replicate (N - args.length) none
def runF (T : Tab) (fns : List FD) : Nat → Call
  | 0, _, _, _, _, _ => False
  | k + 1, .mk i, args, S, Q, E => runF T fns k (.f i) args S Q E
  | k + 1, .f i, args, S, Q, E => ∃ d, fns[i]? = some d ∧ args.length = d.n ∧ (WfS S → PV.underL S.length args = true →
      wpSs (runF T fns k) T d.body (startP d.N args) S { nx := fun _ S' => Gc S.length .non S' Q, rt := fun v S' => Gc S.length v S' Q } fun x _ S' => GcX S.length x S' E)

section
variable {K : PySem.W.Frag} {mg : Str → Option Value} {G : GT}
theorem cut_ext {m m' : List Addr} {H H' : Hp} (e : Ext K m H m' H') {n : Nat} (h : m.length = n) : m'.take n = m := by
  obtain ⟨r, e⟩ := e.pre
  rw [e, ← h, List.take_left']
  rfl
theorem gc_ok {m m' : List Addr} {H H' : Hp} {S S' : Store} {Q : PQ} {Kv : VK} {x : V} {v : PV} (r : RlS K m H S) (k : KE K m H Q Kv) (e : Ext K m H m' H') (r' : RlS K m' H' S') (h : RepV K H' m' x v) (g : Gc S.length v S' Q) : Kv x H' := by
  rcases g with g | ⟨S0, junk, rfl, hl, hw, hv, g⟩
  · exact k m' H' x v S' e r' h g
  · have c := r'.cut (S0 := S0) (junk := junk) (by rw [hl]; exact hw)
    rw [hl] at c
    have hc := RepV.cut (n := S.length) v x h hv
    have e0 := cut_ext e r.len
    rw [e0] at c hc
    exact k m H' x v S0 ⟨⟨[], by simp⟩, e.tup, e.sqt⟩ c hc g
theorem gcx_ok {m m' : List Addr} {H H' : Hp} {S S' : Store} {E : PX} {Kx : XK} {x : PEx} {cls : Value} {d : Option Addr} (r : RlS K m H S) (k : KX K mg G m H E Kx) (e : Ext K m H m' H') (r' : RlS K m' H' S') (h : RepX K mg G H' m' x cls d) (g : GcX S.length x S' E) : Kx cls d H' := by
  rcases g with g | ⟨S0, junk, rfl, hl, hw, hv, g⟩
  · exact k x cls d m' H' S' e r' h g
  · have c := r'.cut (S0 := S0) (junk := junk) (by rw [hl]; exact hw)
    rw [hl] at c
    have e0 := cut_ext e r.len
    rw [e0] at c
    refine k x cls d m H' S0 ⟨⟨[], by simp⟩, e.tup, e.sqt⟩ c ?_ g
    obtain ⟨y, fo, h1, h2, h3⟩ := h
    refine ⟨y, fo, h1, h2, ?_⟩
    rcases h3 with h3 | ⟨f, w, dd, z, h3, h4, h5, h6, h7⟩
    · exact .inl h3
    · refine .inr ⟨f, w, dd, z, h3, h4, h5, h6, ?_⟩
      rw [h4] at hv
      have hc := RepV.cut (n := S.length) w z h7 hv
      rw [e0] at hc
      exact hc
theorem start_rep {m : List Addr} {H : Hp} {N : Nat} {Ns : List Str} : ∀ {vs : List V} {args : List PV}, RepL K H m vs args → Ns.length = N → RlE K m H (L2.start Ns vs) (startP N args) := by
  intro vs args h hN
  have hl := h.len
  refine ⟨by simp [L2.start, startP, hl, hN], fun i v e => ?_⟩
  unfold startP at e
  unfold L2.start
  by_cases hi : i < args.length
  · rw [List.getElem?_append_left (by simpa using hi), List.getElem?_map] at e
    cases q : args[i]? with
    | none => rw [q] at e; cases e
    | some w =>
      rw [q] at e
      cases e
      obtain ⟨x, h1, h2⟩ := h.get q
      exact ⟨x, by rw [List.getElem?_append_left (by simpa [hl] using hi), List.getElem?_map, h1]; rfl, h2⟩
  · rw [List.getElem?_append_right (by simpa using hi)] at e
    rw [List.getElem?_replicate] at e
    split at e <;> cases e
end

/-- a def's place in the written part -/
structure FnAt (K : PySem.W.Frag) (mg : Str → Option Value) (x : Str) (ps : List Str) (dfl : List PV) (params : Arguments) (body : List Stmt) (scope : Scope) (f : Addr) (fd : FuncData) : Prop where
  ex : ∃ (oc : Value) (od : Option Addr) (dV kV doc pm : Value) (an : Option Addr) (cdv ct : Value) (osl : Array (Option Value)), fd = PySem.W.fnOf x x params body scope dV kV doc pm an cdv ct ∧
    K.lookup f = some ⟨oc, od, .func fd, osl⟩ ∧ PySem.W.codeIn K cdv x = true
  gm : mg x = some (.ref f)
  ns : PySem.W.nsIn K mainGlobals x = some (some (.ref f))
  kp : PySem.W.keepIn K (.ref f) = true
  bd : ∀ j, j ≤ dfl.length → ∃ ds dvs, Vals dvs ds ∧ (∀ H m, RepL K H m dvs (dfl.drop (dfl.length - j))) ∧ Binds K fd ps ds
/-- a def of a class's text: its place in the written part -/
structure FnM (K : PySem.W.Frag) (nm ql : Str) (ps : List Str) (params : Arguments) (body : List Stmt) (scope : Scope) (f : Addr) (fd : FuncData) : Prop where
  ex : ∃ (oc : Value) (od : Option Addr) (dV kV doc pm : Value) (an : Option Addr) (cdv ct : Value) (osl : Array (Option Value)), fd = PySem.W.fnOf nm ql params body scope dV kV doc pm an cdv ct ∧
    K.lookup f = some ⟨oc, od, .func fd, osl⟩ ∧ PySem.W.codeIn K cdv ql = true
  bd : Binds K fd ps []
/-- a method (an __init__) of the class x: its row -/
structure MRow where
  x : Str
  nm : Str
  ql : Str
  ps : List Str
  N : List Str
  params : Arguments
  body : List Stmt
  scope : Scope
/-- what the law's text has: each def with its slots, compiled -/
structure DefRow where
  x : Str
  ps : List Str
  dfl : List PV
  N : List Str
  params : Arguments
  body : List Stmt
  scope : Scope
/-- the rows against the tables -/
structure TabOk (G : GT) (blts : List Str) (fns : List FD) (rows : List DefRow) (mrows : List MRow) : Prop where
  len : G.fns.length = rows.length
  mrow : ∀ (i : Nat) (r : MRow), mrows[i]? = some r → FnScope r.N r.ps r.scope ∧ ∃ d, fns[rows.length + i]? = some d ∧ d.n = r.ps.length ∧ d.N = r.N.length ∧
    cB (cS G 60 ⟨r.N, r.scope, true, false, blts⟩) r.body = some d.body
  meth : ∀ (x m : Str) (j n : Nat), (x, m, j, n) ∈ G.meths → ∃ i r, mrows[i]? = some r ∧ j = rows.length + i ∧ r.x = x ∧ r.nm = m
  make : ∀ (x : Str) (j n : Nat), (x, j, n) ∈ G.makes → ∃ i r, mrows[i]? = some r ∧ j = rows.length + i ∧ r.x = x ∧ r.nm = ("__init__" : Str)
  row : ∀ (i : Nat) (r : DefRow), rows[i]? = some r → G.fns[i]? = some (r.x, r.ps.length, r.dfl) ∧ FnScope r.N r.ps r.scope ∧ ∃ d, fns[i]? = some d ∧ d.n = r.ps.length ∧ d.N = r.N.length ∧
    cB (cS G 60 ⟨r.N, r.scope, true, false, blts⟩) r.body = some d.body
/-- the written part has what the tables name -/
structure Facts (K : PySem.W.Frag) (mg : Str → Option Value) (G : GT) (blts : List Str) (rows : List DefRow) : Prop where
  fn : ∀ (i : Nat) (r : DefRow), rows[i]? = some r → ∃ f fd, FnAt K mg r.x r.ps r.dfl r.params r.body r.scope f fd
  blt : ∀ x, x ∈ blts → mg x = none
  exc : ∀ (c : Nat) (x : Str), G.excs[c]? = some (x, none) → ∃ C B newId initId bmB, ExcBaseFacts B newId initId bmB ∧ PySem.W.excIn K C bmB newId = true ∧ mg x = some (.ref C) ∧ PySem.W.keepIn K (.ref C) = true ∧ PySem.W.subIn K (.ref C) (.type "BaseException") = some true ∧ PySem.W.typeIn K (.ref C) = some (.type "type")
  excF : ∀ (c : Nat) (x f : Str), G.excs[c]? = some (x, some f) → ExcFOk K mg x f
  cat : ∀ (c d : Nat) (x y : Str) (fo fo' : Option Str) (cv dv : Value), c ∈ G.hs → G.excs[c]? = some (x, fo) → G.excs[d]? = some (y, fo') → mg x = some cv → mg y = some dv → PySem.W.exmOne K dv cv = some (G.tab.catches c d)
  con : ∀ x pv, (x, pv) ∈ G.cons → ∃ v u, mg x = some u ∧ RelV v u ∧ ∀ H m, RepV K H m v pv
  ck : ∀ x t, (x, t) ∈ G.cks → ∃ f fd e, mg x = some (.ref f) ∧ PySem.W.keepIn K (.ref f) = true ∧ Binds K fd [e] [] ∧
    ∀ c y cls z, t.lookup c = some z → G.excs[c]? = some (y, none) → mg y = some cls → ∀ P w base, CkRun P w K mg base f fd e cls z
/-- .. and the own classes -/
structure FactsO (K : PySem.W.Frag) (mg : Str → Option Value) (G : GT) (mrows : List MRow) : Prop where
  fld : ∀ x f, (x, f) ∈ G.flds → ∃ C, PySem.W.nsIn K mainGlobals x = some (some (.ref C)) ∧ Cls K C ∧ NoAttr K C f
  meth : ∀ (i : Nat) (r : MRow), mrows[i]? = some r → ∃ C f fd, PySem.W.nsIn K mainGlobals r.x = some (some (.ref C)) ∧ mg r.x = some (.ref C) ∧ Cls K C ∧ FnM K r.nm r.ql r.ps r.params r.body r.scope f fd ∧
    (r.nm ≠ "__init__" → Meth K C r.nm f) ∧ (r.nm = "__init__" → Mk K C f ∧ Meth K C r.nm f)
section
variable {P : Program} {w : World} {K : PySem.W.Frag} {mg : Str → Option Value} {base : Heap} {G : GT} {blts : List Str} {fns : List FD} {rows : List DefRow} {mrows : List MRow}
/-- one def's body, one level higher -/
theorem ent_level (F : Facts K mg G blts rows) {k i : Nat} {nm ql : Str} {N ps : List Str} {params : Arguments} {body : List Stmt} {scope : Scope} {f : Addr} {fd : FuncData} {d : FD}
    (A : ∃ (oc : Value) (od : Option Addr) (dV kV doc pm : Value) (an : Option Addr) (cdv ct : Value) (osl : Array (Option Value)), fd = PySem.W.fnOf nm ql params body scope dV kV doc pm an cdv ct ∧ K.lookup f = some ⟨oc, od, .func fd, osl⟩ ∧ PySem.W.codeIn K cdv ql = true)
    (sc : FnScope N ps scope) (hd : fns[i]? = some d) (hn : d.n = ps.length) (hN : d.N = N.length) (hc : cB (cS G 60 ⟨N, scope, true, false, blts⟩) body = some d.body)
    (call : ∀ X : Cx, X.prog = P → X.w = w → X.K = K → X.mg = mg → X.base = base → Room k X.A → CallOk X G (runF G.tab fns k) ∧ ObjOkC X G (runF G.tab fns k)) :
    FnOk P w K mg base (L2.CX P w) (k + 1) f fd ps (spF K mg G (runF G.tab fns (k + 1) i)) := by
  obtain ⟨oc, od, dV, kV, doc, pm, an, cdv, ct, osl, rfl, lk, hcd⟩ := A
  refine fn_of lk hcd sc (fun vs H Q E ⟨m, args, S, Q', E', _, hl, ⟨d', h1, h2, _⟩, _⟩ => ?_) fun A' outer s H vs Q E hroom hsp => ?_
  · rw [hd] at h1
    cases h1
    rw [hl.len, h2, hn]
  obtain ⟨m, args, S, Q', E', rS, hl, ⟨d', h1, h2, h3⟩, kE, kX⟩ := hsp
  rw [hd] at h1
  cases h1
  have h3 := h3 rS.wf (by rw [← rS.len]; exact RepL.under _ _ hl)
  have cc := call (cxOf (L2.CX P w) P w K mg base N ql scope f cdv A' outer s H E) rfl rfl rfl rfl rfl hroom
  have ctx : Ctx G ⟨N, scope, true, false, blts⟩ (cxOf (L2.CX P w) P w K mg base N ql scope f cdv A' outer s H E) (fun cls d _ H => E cls d H) (runF G.tab fns k) :=
    { hN := rfl, nd := sc.nd, kind := sc.kind, sc := ScOk.refl, fn := fun _ _ => rfl, calm := fun _ => rfl, units := room190 hroom,
      call := fun _ => cc.1, obj := fun _ => cc.2,
      tk := takes_of rfl rfl rfl rfl, pass := passes_of rfl, blt := F.blt, room := fun _ => hroom.mono (Nat.zero_le _), frame := fun _ => ⟨rfl, rfl⟩,
      exc := fun c x h => by
        obtain ⟨C, B, ni, ii, bm, g1, g2, g3, g4, g5, g6⟩ := F.exc c x h
        exact ⟨C, B, ni, ii, bm, g1, g2, g3, g4, raises_own g5 g6⟩,
      excF := F.excF, cat := F.cat, con := F.con,
      ck := fun x t h => by
        obtain ⟨f, fd, e, h1, h2, h3, h4⟩ := F.ck x t h
        exact ⟨f, fd, e, h1, h2, h3, fun c y cls z a b d => h4 c y cls z a b d _ _ _⟩ }
  obtain ⟨t, PP, R⟩ := cB_ok (fun st p hp => cS_ok G (runF G.tab fns k) 60 _ st p hp _ _ ctx) hc
  refine ⟨t, PP, R m _ H _ S _ _ _ rS (start_rep hl hN.symm) h3 ⟨fun m' σ' H' ρ' S' e r' _ q => ?_, fun m' H' v pv S' e r' hv q => ?_, fun _ _ _ _ _ _ _ _ q => q.elim, fun _ _ _ _ _ _ _ _ q => q.elim⟩ fun ex cls dd m' σ' H' ρ' S' e r' _ rx q => ?_⟩
  · exact gc_ok rS kE e r' .non q
  · exact gc_ok rS kE e r' hv q
  · exact gcx_ok rS kX e r' rx q
/-- all defs keep their promises, at a level -/
def Lev (P : Program) (w : World) (K : PySem.W.Frag) (mg : Str → Option Value) (base : Heap) (G : GT) (fns : List FD) (rows : List DefRow) (mrows : List MRow) (k : Nat) : Prop :=
    (∀ (i : Nat) (r : DefRow), rows[i]? = some r → ∀ f fd, FnAt K mg r.x r.ps r.dfl r.params r.body r.scope f fd → FnOk P w K mg base (L2.CX P w) k f fd r.ps (spF K mg G (runF G.tab fns k i))) ∧
    (∀ (i : Nat) (r : MRow), mrows[i]? = some r → ∀ f fd, FnM K r.nm r.ql r.ps r.params r.body r.scope f fd → FnOk P w K mg base (L2.CX P w) k f fd r.ps (spF K mg G (runF G.tab fns k ((rows.length + i : Nat)))))
theorem lev_zero : Lev P w K mg base G fns rows mrows 0 := by
  have no : ∀ (i : Fi) vs H Q E, ¬ spF K mg G (runF G.tab fns 0 i) vs H Q E := fun i vs H Q E ⟨m, args, S, Q', E', _, _, h, _⟩ => by cases i <;> exact h
  exact ⟨fun i r hr f fd A => ⟨fun vs H Q E h => absurd h (no _ vs H Q E), fun A outer s H args us vs Q E _ _ _ _ h => absurd h (no _ vs H Q E)⟩,
    fun i r hr f fd A => ⟨fun vs H Q E h => absurd h (no _ vs H Q E), fun A outer s H args us vs Q E _ _ _ _ h => absurd h (no _ vs H Q E)⟩⟩
theorem lev_succ (T : TabOk G blts fns rows mrows) (F : Facts K mg G blts rows) (O : FactsO K mg G mrows) {k : Nat} (ih : Lev P w K mg base G fns rows mrows k) (ih2 : ∀ k', k = k' + 1 → Lev P w K mg base G fns rows mrows k') : Lev P w K mg base G fns rows mrows (k + 1) := by
  have call : ∀ X : Cx, X.prog = P → X.w = w → X.K = K → X.mg = mg → X.base = base → Room k X.A → CallOk X G (runF G.tab fns k) ∧ ObjOkC X G (runF G.tab fns k) := by
    intro X hP hw hK hmg hbs hroom
    subst hP hw hK hmg hbs
    refine ⟨⟨fun j x n dfl hj => ?_⟩, ⟨O.fld, fun x m j n hm => ?_, fun x j n hm => ?_⟩⟩
    · have hjl : j < rows.length := by rw [← T.len]; exact (List.getElem?_eq_some_iff.mp hj).1
      obtain ⟨hG2, _⟩ := T.row j _ (List.getElem?_eq_getElem hjl)
      rw [hj] at hG2
      cases hG2
      obtain ⟨f2, fd2, A2⟩ := F.fn j _ (List.getElem?_eq_getElem hjl)
      exact ⟨f2, fd2, _, k, A2.gm, A2.ns, A2.kp, rfl, ih.1 j _ (List.getElem?_eq_getElem hjl) f2 fd2 A2, hroom, A2.bd⟩
    · obtain ⟨i, r, hr, rfl, rfl, rfl⟩ := T.meth x m j n hm
      obtain ⟨C, f, fd, h1, h2, cl, A, h3, h4⟩ := O.meth i r hr
      refine ⟨C, f, fd, r.ps, k, h1, cl, ?_, ih.2 i r hr f fd A, hroom, A.bd⟩
      by_cases e : r.nm = "__init__"
      · exact (h4 e).2
      · exact h3 e
    · obtain ⟨i, r, hr, rfl, rfl, hn⟩ := T.make x j n hm
      obtain ⟨C, f, fd, h1, h2, cl, A, h3, h4⟩ := O.meth i r hr
      refine ⟨C, f, fd, r.ps, h1, h2, (h4 hn).1, A.bd, ?_⟩
      cases k with
      | zero => exact .inr fun vs H Q E ⟨m, args, S, Q', E', _, _, h, _⟩ => h
      | succ k => exact .inl ⟨k, (ih2 k rfl).2 i r hr f fd A, hroom⟩
  exact ⟨fun i r hr f fd A => by
      obtain ⟨hG, sc, d, hd, hn, hN, hc⟩ := T.row i r hr
      exact ent_level F A.ex sc hd hn hN hc call,
    fun i r hr f fd A => by
      obtain ⟨sc, d, hd, hn, hN, hc⟩ := T.mrow i r hr
      exact ent_level F A.ex sc hd hn hN hc call⟩
theorem all_level (T : TabOk G blts fns rows mrows) (F : Facts K mg G blts rows) (O : FactsO K mg G mrows) (k : Nat) : Lev P w K mg base G fns rows mrows k ∧ ∀ k', k = k' + 1 → Lev P w K mg base G fns rows mrows k' := by
  induction k with
  | zero => exact ⟨lev_zero, fun k' e => by cases e⟩
  | succ k ih => exact ⟨lev_succ T F O ih.1 ih.2, fun k' e => by cases e; exact ih.1⟩
theorem fn_level (T : TabOk G blts fns rows mrows) (F : Facts K mg G blts rows) (O : FactsO K mg G mrows) (k i : Nat) (r : DefRow) (hr : rows[i]? = some r) (f : Addr) (fd : FuncData) (A : FnAt K mg r.x r.ps r.dfl r.params r.body r.scope f fd) :
    FnOk P w K mg base (L2.CX P w) k f fd r.ps (spF K mg G (runF G.tab fns k i)) := (all_level T F O k).1.1 i r hr f fd A
/-- what the law promises -/
def spLaw (K : PySem.W.Frag) : Sp := fun vs H Q _ => ∃ (a : Addr) (ns : List Int), vs = [.ref a] ∧ ((∃ o, H a = some (.frz o (.lst (ns.map V.int)))) ∨ KL K a (ns.map V.int)) ∧ ns.length ≤ 63 ∧ ∀ H', Q (.bl true) H'
theorem only_frz {H : Hp} {a : Addr} {ns : List Int} (hO : Only H) (hS : SqL K H a (ns.map V.int)) : (∃ o, H a = some (.frz o (.lst (ns.map V.int)))) ∨ KL K a (ns.map V.int) := by
  rcases hS with (h | ⟨o, h⟩) | h
  · rcases hO a with q | ⟨o, xs, q⟩
    · rw [q] at h; cases h
    · rw [q] at h; cases h
  · exact .inl ⟨o, h⟩
  · exact .inr h
theorem ints_repI {H : Hp} {m : List Addr} : ∀ ns : List Int, RepL K H m (ns.map V.int) (ns.map PV.int)
  | [] => .nil
  | n :: ns => .cons (.int n) (ints_repI ns)
/-- no own classes -/
structure TabOk0 (G : GT) (blts : List Str) (fns : List FD) (rows : List DefRow) : Prop where
  len : G.fns.length = rows.length
  row : ∀ (i : Nat) (r : DefRow), rows[i]? = some r → G.fns[i]? = some (r.x, r.ps.length, r.dfl) ∧ FnScope r.N r.ps r.scope ∧ ∃ d, fns[i]? = some d ∧ d.n = r.ps.length ∧ d.N = r.N.length ∧
    cB (cS G 60 ⟨r.N, r.scope, true, false, blts⟩) r.body = some d.body
theorem TabOk0.ok (T : TabOk0 G blts fns rows) (h : G.meths = [] ∧ G.makes = []) : TabOk G blts fns rows [] :=
  { len := T.len, row := T.row, mrow := fun i r h => by simp at h, meth := fun x m j n q => (by rw [h.1] at q; cases q), make := fun x j n q => (by rw [h.2] at q; cases q) }
theorem factsO0 (h : G.flds = []) : FactsO K mg G [] := ⟨fun x f q => (by rw [h] at q; cases q), fun i r q => by simp at q⟩
theorem law_ok (T : TabOk G blts fns rows mrows) (F : Facts K mg G blts rows) (O : FactsO K mg G mrows) {k i : Nat} {r : DefRow} (hr : rows[i]? = some r) {f : Addr} {fd : FuncData} (A : FnAt K mg r.x r.ps r.dfl r.params r.body r.scope f fd)
    (law : ∀ ns : List Int, ns.length ≤ 63 → runF G.tab fns k i [.ref 0] [.frz (ns.map PV.int)] (fun v _ => v = .bl true) fun _ _ => False) :
    FnOk P w K mg base (L2.CX P w) k f fd r.ps (spLaw K) := by
  refine (fn_level T F O k i r hr f fd A).imp fun vs H Q E ⟨a, ns, e, hS, h63, q⟩ => ?_
  subst e
  refine ⟨[a], [.ref 0], [.frz (ns.map PV.int)], _, _, ⟨rfl, fun j o hj => ?_, fun j1 j2 b xs ys _ _ h3 _ m1 _ => ?_⟩, .cons (.ref rfl) .nil, law ns h63, fun m' H' v pv S' _ _ hv hq => ?_, fun _ _ _ _ _ _ _ _ _ z => z.elim⟩
  · cases j with
    | zero => cases hj; exact ⟨a, rfl, _, hS, ints_repI ns⟩
    | succ j => simp at hj
  · cases j1 with
    | zero => cases h3; cases m1
    | succ j => simp at h3
  · subst hq
    cases hv
    exact q H'
theorem walk {l : PySem.W.OpenLaw} {k : Nat} {x : Str} {q : Program} {loose : List Str} {XP : (Str → Option Value) → Heap → Prop} {YP : World → Heap → Prop} {d : DefRec} {K : Params → PySem.W.Frag} (hn : l.most = some 63) (hdf : d.params.defaults = [])
    (hY : ∀ (w : World) (h : Heap), YP w h → (K w.params).In h) (hroom : Room k callerA)
    (F : ∀ (w : World) (mg : Str → Option Value) (fa : Addr) (h : Heap), (K w.params).In h → h.Ns mainGlobals mg → mg d.name = some (.ref fa) →
      ∃ fd : FuncData, (∀ (s : Shared) (u : Value), BindsTo s fd ⟨[u], []⟩ [(x, u)]) ∧ ∀ base : Heap, (K w.params).In base → base.Ns mainGlobals mg → FnOk l.prog w (K w.params) mg base (L2.CX l.prog w) k fa fd [x] (spLaw (K w.params))) :
    PySem.W.WalkO q loose XP YP l.row.toRowW d [] (fun f vs => PySem.call f vs) :=
  L2.walk_of (n := 63) (k := k) (x := x) (CX := fun w => L2.CX l.prog w) (sp := fun w => spLaw (K w.params)) hn (by decide) hdf hroom hY F (fun w H a ns hl hO hS => ⟨a, ns, rfl, only_frz hO hS, hl, fun _ => rfl⟩) fun w H s e s' ⟨_, _, _, _, _, _, _, _, _, _, _, _, z⟩ => z
end
end Pv
set_option Elab.async false
set_option linter.all false
set_option maxRecDepth 100000
set_option maxHeartbeats 2000000
/-! Pv13: an exception class whose __init__ keeps one field: turned from the worked proof of an own error, its names made letters. -/
namespace PySem
namespace FldX
open PySem.W PySem.Calls PyProof.Rows PySem.HandSPX
/-! ### the text of __init__ -/
def iA (fl : Str) (p1 p2 : Pos) : Arguments := { posonlyargs := [], args := [{ arg := "self", annotation := none, pos := p1 }, { arg := fl, annotation := none, pos := p2 }], vararg := none, kwonlyargs := [], kw_defaults := [], kwarg := none, defaults := [] }
def iB (fl : Str) (q1 q2 q3 q4 : Pos) : List Stmt := [.Assign [.Attribute (.Name "self" q1) fl q2] (.Name fl q3) q4]
def iS (fl : Str) : Scope := { kind := .function, names := [(PySem.Str.ofString "self", .local), (fl, .local)], isGenerator := false, isCoroutine := false, more := [] }
/-- what the written part says of Low, at C, and of its __init__, at fI -/
structure LowTxt (K : Frag) (mg : Str → Option Value) (nm ql fl : Str) (C fI : Addr) : Prop where
  hs : (fl == ("self" : Str)) = false
  bA : ∀ (doc pm : Value) (an : Option Addr) (cdv ct : Value) (p1 p2 q1 q2 q3 q4 : Pos) (x v : Value), bindArgs (fnOf "__init__" ql (iA fl p1 p2) (iB fl q1 q2 q3 q4) (iS fl) .none .none doc pm an cdv ct) ⟨[x, v], []⟩ = pure [(("self" : Str), x), (fl, v)]
  hd : (fl == ("__debug__" : Str)) = false
  hd2 : (nm == ("__debug__" : Str)) = false
  gC : mg nm = some (.ref C)
  cls : ∃ nm q N bs bm sn sub ab col dd k0 k1 k2 k3 k5, K.lookup C = some (excClassObj nm q C N bs bm true sn sub ab col dd k0 k1 k2 k3 k5 "ValueError.__new__") ∧ refsVE bm = true
  sa : findIn K (.ref C) "__setattr__" = some (some (.builtin "object.__setattr__"))
  ga : findIn K (.ref C) "__getattribute__" = some (some (.builtin "BaseException.__getattribute__"))
  gg : findIn K (.ref C) "__getattr__" = some none
  noN : findIn K (.ref C) fl = some none
  iC : findIn K (.ref C) "__init__" = some (some (.ref fI))
  tC : typeIn K (.ref fI) = some (.type "function")
  kC : keepIn K (.ref C) = true
  exC : subIn K (.ref C) (.type "BaseException") = some true
  tyC : typeIn K (.ref C) = some (.type "type")
  hdC : hasDictIn K C = true
  te : exmOne K (.ref C) (.ref C) = some true
  fn : ∃ (oc : Value) (od : Option Addr) (doc pm : Value) (an : Option Addr) (cdv ct : Value) (osl : Array (Option Value)) (p1 p2 q1 q2 q3 q4 : Pos),
    K.lookup fI = some ⟨oc, od, .func (fnOf "__init__" ql (iA fl p1 p2) (iB fl q1 q2 q3 q4) (iS fl) .none .none doc pm an cdv ct), osl⟩ ∧ codeIn K cdv ql = true
theorem one_size (v : Value) : [v].length ≤ sizeLine := by
  rw [sizeLine_eq]
  exact (by decide : 1 ≤ 16777216)
theorem kept_but {K : Frag} {h h' : Heap} {x : Addr} (X : K.In h) (hx : K.lookup x = none) (k : ∀ b o, b ≠ x → h.get? b = some o → h'.get? b = some o) : K.In h' := fun a o e =>
  k a o (fun z => by rw [z, hx] at e; cases e) (X a o e)
theorem ldC {M : Model} {s : Shared} {name : Str} {scope : Scope} {L a : Addr} {cd : Value} {m : Str → Option Value} {x : Str} {pos : Pos} {v : Value} {Q : Value → Shared → Prop} {A : Around} {E : Value → Shared → Prop} (hn : s.heap.Ns L m) (hv : m x = some v) (h : Q v s)
    (hk : scope.kind = .function := by rfl) (hl : (envOfC name scope L a cd).kindOf x = some .local := by rfl) (hd : (x == ("__debug__" : Str)) = false := by decide) :
    wpAny M A (eval (.Name x pos) (envOfC name scope L a cd)) Q E s := wpAny_Name (wpAny_loadName_local hk hl hn hv h) hd
/-- what __init__ leaves of a fresh exception at x -/
structure InitEnd (fl : Str) (h h' : Heap) (x C dx t1 : Addr) (v : Value) : Prop where
  keep : ∀ b o, b ≠ x → h.get? b = some o → h'.get? b = some o
  obj : h'.get? x = some { cls := .ref C, dict := some dx, data := .fields #[.ref t1, .none, .none, .none, .bool false, .none] }
  dbig : h.objs.size ≤ dx
  dne : dx ≠ x
  ns : h'.Ns1 dx (fun y => if y = fl then some v else none)
/-- a made Low -/
structure OwnMade (fl : Str) (h h' : Heap) (e C d : Addr) (v : Value) : Prop where
  keep : ∀ b o, h.get? b = some o → h'.get? b = some o
  new : h.objs.size ≤ e
  obj : ∃ oe vs, h'.get? e = some oe ∧ oe.cls = .ref C ∧ oe.dict = some d ∧ oe.data = .fields vs ∧ vs[1]? = some .none
  dbig : h.objs.size ≤ d
  dne : d ≠ e
  ns : h'.Ns1 d (fun y => if y = fl then some v else none)
section
variable {prog : Program} {w : World} {A : Around} {E : Value → Shared → Prop} {R : Result → Shared → Prop} {s : Shared} {K : Frag} {mg : Str → Option Value} {C fI : Addr}
theorem low_init {nm ql fl : Str} (T : LowTxt K mg nm ql fl C fI) {x t0 : Addr} {v : Value} (X : K.In s.heap) (hlim : s.heap.NoLimit) (hx : s.heap.get? x = some (excO C t0)) (hnx : K.lookup x = none) (hroom : A.depth < recursionLimit)
    (hq : ∀ h' tk dx, InitEnd fl s.heap h' x C dx t0 v → R (.ok (.ret .none)) { s with heap := h', toks := tk }) :
    codeAny (model prog w) A (.call (.ref fI) ⟨[.ref x, v], []⟩) R s := by
  obtain ⟨oc, od, doc, pm, an, cdv, ct, osl, p1, p2, q1, q2, q3, q4, ho, hcd⟩ := T.fn
  obtain ⟨nm, q, N, bs, bm, sn, sub, ab, col, dd, k0, k1, k2, k3, k5, hC, hbm⟩ := T.cls
  have hcl : clsIn K C = some { name := nm, bases := bs, mro := .ref C :: bm, ns := N, qualname := q, hasDict := true, slotNames := sn, subclasses := sub, abstract := ab, collection := col, hasDel := false } := by unfold clsIn; rw [hC] <;> rfl
  refine Att.call_fn (binds := [(("self" : Str), .ref x), (fl, v)]) X hlim ho hcd hroom (BindsTo.of_eq (T.bA ..)) (by simp [iS, List.lookup, T.hs]) (fun s₁ IC => ?_) rfl rfl rfl
  obtain ⟨h₁, tk₁, rfl⟩ := IC.toInCall.same
  have k : ∀ b o, s.heap.get? b = some o → h₁.get? b = some o := IC.toInCall.keep
  have hn := IC.toInCall.ns
  have hxL : s.heap.objs.size ≠ x := Nat.ne_of_gt (Heap.lt_size hx)
  have X₁ : K.In h₁ := X.keeps k
  have hx₁ := k _ _ hx
  -- self.by = by
  show wpAny _ _ (execs _ _) _ _ _
  refine wpAny_execs_cons (plainObj_wpAny_Assign_Attribute ?_)
  have kf : List.lookup fl (iS fl).names = some NameKind.local := by simp [iS, List.lookup, T.hs]
  have ks : List.lookup ("self" : Str) (iS fl).names = some NameKind.local := by simp [iS, List.lookup]
  have sf : ¬ ("self" : Str) = fl := fun z => by have := T.hs; rw [← z] at this; simp at this
  refine ldC (v := v) hn ?m1 (ldC (v := .ref x) hn ?m2 ?_ rfl ks) rfl kf T.hd
  case m1 =>
    simp only [bindL]
    rw [if_pos (show (envOfC ql (iS fl) _ _ _).kindOf fl = some .local from kf)]
    simp
  case m2 =>
    simp only [bindL]
    rw [if_pos (show (envOfC ql (iS fl) _ _ _).kindOf fl = some .local from kf), if_pos (show (envOfC ql (iS fl) _ _ _).kindOf "self" = some .local from ks)]
    simp [sf]
  refine set_plain X₁ (ox := excO C t0) (od := none) ⟨hx₁, rfl, rfl, trivial⟩ T.sa ?_
  refine exc_osa X₁ hx₁ hcl (show refsVE (.ref C :: bm) = true from hbm) rfl T.noN (fun h₃ tk₃ dx k₃ dn dne hx₃ hn₃ => ?_)
  show wpAny _ _ (execs _ _) _ _ _
  have z : s.heap.objs.size < h₁.objs.size := hn.lt
  exact wpAny_execs_nil (hq h₃ tk₃ dx ⟨fun b o hb e => k₃ b o hb (k b o e), hx₃, Nat.le_of_lt (Nat.lt_of_lt_of_le z dn), dne, hn₃⟩)
theorem low_made {nm ql fl : Str} (T : LowTxt K mg nm ql fl C fI) {v : Value} (X : K.In s.heap) (hlim : s.heap.NoLimit) (hroom : A.depth + 1 < recursionLimit)
    (hq : ∀ h' tk e d, OwnMade fl s.heap h' e C d v → R (.ok (.ret (.ref e))) { s with heap := h', toks := tk }) :
    codeAny (model prog w) A (.call (.ref C) ⟨[v], []⟩) R s := by
  obtain ⟨nm, q, N, bs, bm, sn, sub, ab, col, dd, k0, k1, k2, k3, k5, hC, hbm⟩ := T.cls
  obtain ⟨hp, g, dr, tk, os⟩ := s
  have k : ∀ b o, hp.get? b = some o → ((hp.push (kdv_tup [v])).push (excO C hp.objs.size)).get? b = some o := fun b o e => Heap.get?_push_of_some _ (Heap.get?_push_of_some _ e)
  have hget : ((hp.push (kdv_tup [v])).push (excO C hp.objs.size)).get? (hp.objs.size + 1) = some (excO C hp.objs.size) := by heap_get
  have hnx : K.lookup (hp.objs.size + 1) = none := by
    cases e : K.lookup (hp.objs.size + 1) with
    | none => rfl
    | some o =>
      have z : hp.get? (hp.objs.size + 1) = some o := X _ _ e
      exact absurd (Nat.lt_of_succ_lt (Heap.lt_size z)) (Nat.lt_irrefl _)
  refine call_own F.excBase_ValueError (fun X => refsVE_contains X bm hbm) (X _ _ hC) (looks_findIn X T.iC) (fun self => bind_fn X self T.tC) (one_size v) ?_
  refine low_init (s := ⟨(hp.push (kdv_tup [v])).push (excO C hp.objs.size), g, dr, tk, os⟩) T (X.keeps k) (hlim.keeps k) hget hnx ?_ fun h' tk' dx ⟨k', hx, dn, dne, hns⟩ => ?_
  · show A.depth + 1 < recursionLimit
    exact hroom
  · have old : ∀ b o, hp.get? b = some o → h'.get? b = some o := fun b o e => k' b o (Nat.ne_of_lt (Nat.lt_succ_of_lt (Heap.lt_size e))) (k b o e)
    have z : hp.objs.size + 1 + 1 ≤ dx := by
      first
        | (simpa only [Heap.size_push] using dn)
        | exact dn
        | (have q := dn; rw [Heap.size_push, Heap.size_push] at q; exact q)
    exact ⟨rfl, hq h' tk' (hp.objs.size + 1) dx ⟨old, Nat.le_succ _, ⟨_, _, hx, rfl, rfl, rfl, rfl⟩, Nat.le_trans (Nat.le_trans (Nat.le_succ _) (Nat.le_succ _)) z, dne, hns⟩⟩
end
end FldX
end PySem
namespace L2
open PySem PySem.Spec PyProof.Rows
theorem relO_low {fl : Str} {v : V} {v' : Value} (r : RelV v v') (f : Str) : RelO (List.lookup f [(fl, v)]) (if f = fl then some v' else none) := by
  by_cases hw : f = fl
  · rw [hw, if_pos rfl]
    have q : List.lookup fl [(fl, v)] = some v := by simp [List.lookup]
    rw [q]
    exact r
  · rw [if_neg hw]
    have qw : (f == fl) = false := by simpa using hw
    have q2 : List.lookup f [(fl, v)] = none := by simp [List.lookup, qw]
    rw [q2]
    trivial
section
variable {X : Cx} {C fI : Addr}
theorem pmk_low {a : Expr} {ta : TA} {p pos : Pos} {k : Nat} {nm ql fl : Str} (T : PySem.FldX.LowTxt X.K X.mg nm ql fl C fI) (hr : Room k X.A) (ha : PA X [a] ta) (hg : Gl X nm)
    (he : starEach (a :: []) X.env = (false, eval a X.env) :: starEach [] X.env := by rfl) (hpl : (backTo pos (starEach [] X.env)).any (·.1) = false := by rfl) :
    PMk X (.Call (.Name nm p) [a] [] pos) (Pv.tMkF C fl ta) := by
  intro pins s σ H Q I h
  refine wpAny_Call_Name_kw (ld_glob I hg T.gC ?_ T.hd2)
  refine PySem.W.callWith_K (h₀ := X.base) I.ok.mod.kin T.kC (thn (ha.run pos pins s σ H _ I h) fun us s1 hh => ?_) he hpl
  obtain ⟨vs, H1, I1, r1, v, ev, q1⟩ := hh
  subst ev
  refine ⟨I1.kIn, ?_⟩
  cases r1 with
  | cons rv rn =>
    rename_i v' us'
    cases rn
    show wpAny _ _ (call (.ref C) [v']) _ _ _
    have hlim := I1.nolimit
    obtain ⟨hp, g, dr, tk, os⟩ := s1
    refine wpAny_call (PySem.FldX.low_made T I1.kIn hlim (by have := hr.dp; omega) fun h' tk' e d M => ?_)
    show MkP X pins σ Q (.ref e) ⟨h', g, dr, tk', os⟩
    obtain ⟨oe, fv, hoe, hc, hd, hdat, h1⟩ := M.obj
    have hns := M.ns
    obtain ⟨G', g1, g2⟩ := restrict h' fun b => decide (b ≠ e)
    have gk : ∀ b, b ≠ e → G'.get? b = h'.get? b := fun b hb => g1 b (decide_eq_true hb)
    have ge : G'.get? e = none := g2 e (by simp)
    have old : ∀ b o, hp.get? b = some o → G'.get? b = some o := fun b o q => (gk b (Nat.ne_of_lt (Nat.lt_of_lt_of_le (Heap.lt_size q) M.new))).trans (M.keep b o q)
    have ob : ObjOk X.prog X.w (upd H1 d (.xd [(fl, v)])) G' d (.xd [(fl, v)]) :=
      ⟨_, hns.at (fun o q => (gk d M.dne).trans q), fun f => relO_low rv f⟩
    have J : Inv X pins σ (upd H1 d (.xd [(fl, v)])) ⟨G', g, dr, tk', os⟩ := I1.laid (t' := tk') old M.dbig ob
    refine ⟨e, oe, fv, ⟨G', g, dr, tk', os⟩, _, .ref C, some d, rfl, J, fun b o q => ?_, ge, hoe, ⟨hc, hd⟩, hdat, h1, ?_, rfl, I1.bare, raises_own T.exC T.tyC, q1 d (I1.hok.fresh M.dbig)⟩
    · by_cases hb : b = e
      · have q' : G'.get? b = some o := q
        rw [hb, ge] at q'; cases q'
      · exact (gk b hb).symm.trans q
    · rw [upd_ne (Ne.symm M.dne)]
      exact I1.hok.fresh M.new
end
end L2
namespace Pv
open PySem PySem.Spec PyProof.Rows L2
theorem excF_of {K : PySem.W.Frag} {mg : Str → Option Value} {nm ql fl : Str} {C fI : Addr} (T : PySem.FldX.LowTxt K mg nm ql fl C fI) : ExcFOk K mg nm fl :=
  ⟨C, T.gC, ⟨T.ga, T.gg, T.exC, T.hdC⟩, T.noN, fun X eK eM hr hg a ta p pos ha hs => by
    subst eK
    subst eM
    exact pmk_low T hr ha hg (star_cons hs) rfl⟩
end Pv
set_option Elab.async false
set_option linter.all false
set_option maxRecDepth 100000
set_option maxHeartbeats 2000000
/-! Pv14: the facts of the written part, in the form that k_is shows. -/
namespace Pv
open PySem PySem.Spec PyProof.Rows L2

/-- a def without defaults stands behind the top -/
def FnT (K : PySem.W.Frag) (x : Str) (st : Stmt) : Prop := ∃ (f : Addr) (oc : Value) (od : Option Addr) (kV doc pm : Value) (an : Option Addr) (cd ct : Value) (sl : Array (Option Value)),
  PySem.W.nsIn K mainGlobals x = some (some (.ref f)) ∧ K.lookup f = some ⟨oc, od, .func (PySem.W.fnOf x x (defArgs st) (defBody st) (defScope st) .none kV doc pm an cd ct), sl⟩ ∧ PySem.W.codeIn K cd x = true ∧ PySem.W.keepIn K (.ref f) = true
/-- a def with defaults -/
def FnTD (K : PySem.W.Frag) (x : Str) (st : Stmt) (dvs : List V) : Prop := ∃ (f : Addr) (oc : Value) (od : Option Addr) (T : Addr) (kV doc pm : Value) (an : Option Addr) (cd ct : Value) (sl : Array (Option Value)) (o : Obj) (its : List Value) (n : Nat),
  PySem.W.nsIn K mainGlobals x = some (some (.ref f)) ∧ K.lookup f = some ⟨oc, od, .func (PySem.W.fnOf x x (defArgs st) (defBody st) (defScope st) (.ref T) kV doc pm an cd ct), sl⟩ ∧ PySem.W.codeIn K cd x = true ∧ PySem.W.keepIn K (.ref f) = true ∧
    K.lookup T = some o ∧ o.data = .seq its.toArray n ∧ Vals dvs its
/-- an empty tuple of the module -/
def TuE (K : PySem.W.Frag) (a : Addr) : Prop := ∃ (o : Obj) (its : Array Value) (n : Nat), K.lookup a = some o ∧ o.cls = .type "tuple" ∧ o.dict = none ∧ o.data = .seq its n ∧ its.size ≤ sizeLine ∧ Vals [] its.toList
theorem TuE.rep {K : PySem.W.Frag} {a : Addr} (h : TuE K a) (H : Hp) (m : List Addr) : RepV K H m (.ref a) (.tup []) := .tup (.inr h) .nil
/-- an exception class without __init__ -/
def ExT (K : PySem.W.Frag) (x : Str) : Prop := ∃ C : Addr, PySem.W.nsIn K mainGlobals x = some (some (.ref C)) ∧ PySem.W.excIn K C [.type "ValueError", .type "Exception", .type "BaseException", .type "object"] "ValueError.__new__" = true ∧ PySem.W.keepIn K (.ref C) = true ∧
  PySem.W.subIn K (.ref C) (.type "BaseException") = some true ∧ PySem.W.typeIn K (.ref C) = some (.type "type")
/-- one with a field -/
def ExF (K : PySem.W.Frag) (nm ql fl : Str) : Prop := ∃ (C fI : Addr) (nm' q : Str) (N : Addr) (bs bm : List Value) (sn : List Str) (sub : List Value) (ab : Bool) (col : Option Bool) (dd : Option Addr) (k0 k1 k2 k3 k5 : Option Value)
  (oc : Value) (od : Option Addr) (doc pm : Value) (an : Option Addr) (cdv ct : Value) (osl : Array (Option Value)) (p1 p2 q1 q2 q3 q4 : Pos),
  PySem.W.nsIn K mainGlobals nm = some (some (.ref C)) ∧
  K.lookup C = some (excClassObj nm' q C N bs bm true sn sub ab col dd k0 k1 k2 k3 k5 "ValueError.__new__") ∧ PySem.HandSPX.refsVE bm = true ∧
  PySem.W.findIn K (.ref C) "__setattr__" = some (some (.builtin "object.__setattr__")) ∧ PySem.W.findIn K (.ref C) "__getattribute__" = some (some (.builtin "BaseException.__getattribute__")) ∧ PySem.W.findIn K (.ref C) "__getattr__" = some none ∧
  PySem.W.findIn K (.ref C) fl = some none ∧ PySem.W.findIn K (.ref C) "__init__" = some (some (.ref fI)) ∧ PySem.W.typeIn K (.ref fI) = some (.type "function") ∧ PySem.W.keepIn K (.ref C) = true ∧ PySem.W.subIn K (.ref C) (.type "BaseException") = some true ∧
  PySem.W.typeIn K (.ref C) = some (.type "type") ∧ PySem.W.hasDictIn K C = true ∧ PySem.W.isClsIn K C = true ∧ PySem.W.subIn K (.ref C) (.ref C) = some true ∧
  K.lookup fI = some ⟨oc, od, .func (PySem.W.fnOf "__init__" ql (PySem.FldX.iA fl p1 p2) (PySem.FldX.iB fl q1 q2 q3 q4) (PySem.FldX.iS fl) .none .none doc pm an cdv ct), osl⟩ ∧ PySem.W.codeIn K cdv ql = true
/-- does the clause of class c take an exception of class d -/
def CtT (K : PySem.W.Frag) (c d : Str) (b : Bool) : Prop := ∃ C D : Addr, PySem.W.nsIn K mainGlobals c = some (some (.ref C)) ∧ PySem.W.nsIn K mainGlobals d = some (some (.ref D)) ∧ PySem.W.subIn K (.ref C) (.type "BaseException") = some true ∧ PySem.W.isClsIn K C = true ∧ PySem.W.typeIn K (.ref C) = some (.type "type") ∧ PySem.W.subIn K (.ref D) (.ref C) = some b
/-- a built-in's name is not the module's -/
def BlT (K : PySem.W.Frag) (x : Str) : Prop := PySem.W.nsIn K mainGlobals x = some none
/-- a constant: a text, an int -/
def CsS (K : PySem.W.Frag) (x : Str) (z : Str) : Prop := ∃ t : Tok, PySem.W.nsIn K mainGlobals x = some (some (.str z t))
def CsI (K : PySem.W.Frag) (x : Str) (z : Int) : Prop := ∃ t : Tok, PySem.W.nsIn K mainGlobals x = some (some (.int z t))
/-- a constant tuple of texts -/
def CsT (K : PySem.W.Frag) (x : Str) (zs : List Str) : Prop := ∃ (a : Addr) (o : Obj) (its : Array Value) (n : Nat), PySem.W.nsIn K mainGlobals x = some (some (.ref a)) ∧ K.lookup a = some o ∧ o.cls = .type "tuple" ∧ o.dict = none ∧ o.data = .seq its n ∧ its.size ≤ sizeLine ∧ Vals (zs.map V.str) its.toList

/-- an own class; a name that it has not; a method; it can be made -/
def ClT (K : PySem.W.Frag) (x : Str) : Prop := ∃ C : Addr, PySem.W.nsIn K mainGlobals x = some (some (.ref C)) ∧ PySem.W.plainGet K C Str.empty = true ∧ PySem.W.hasDictIn K C = true ∧ PySem.W.plainOver K C = true ∧ PySem.W.findIn K (.ref C) "__setattr__" = some (some (.builtin "object.__setattr__"))
def FdT (K : PySem.W.Frag) (x f : Str) : Prop := ∃ C : Addr, PySem.W.nsIn K mainGlobals x = some (some (.ref C)) ∧ PySem.W.findIn K (.ref C) f = some none
def MeT (K : PySem.W.Frag) (x nm ql : Str) (st : Stmt) : Prop := ∃ (C f : Addr) (oc : Value) (od : Option Addr) (kV doc pm : Value) (an : Option Addr) (cd ct : Value) (sl : Array (Option Value)),
  PySem.W.nsIn K mainGlobals x = some (some (.ref C)) ∧ PySem.W.findIn K (.ref C) nm = some (some (.ref f)) ∧ PySem.W.isFn K (.ref f) = true ∧ K.lookup f = some ⟨oc, od, .func (PySem.W.fnOf nm ql (defArgs st) (defBody st) (defScope st) .none kV doc pm an cd ct), sl⟩ ∧ PySem.W.codeIn K cd ql = true ∧ PySem.W.keepIn K (.ref f) = true
def MkT (K : PySem.W.Frag) (x : Str) : Prop := ∃ C : Addr, PySem.W.nsIn K mainGlobals x = some (some (.ref C)) ∧ PySem.W.makesIn K C = true ∧ PySem.W.keepIn K (.ref C) = true
/-- what isinstance needs of the class of a caught exception -/
def CkC (K : PySem.W.Frag) (dn : Str) : Prop := ∃ D : Addr, PySem.W.nsIn K mainGlobals dn = some (some (.ref D)) ∧ PySem.W.findIn K (.ref D) "__getattribute__" = some (some (.builtin "BaseException.__getattribute__")) ∧ PySem.W.findIn K (.ref D) "__getattr__" = some none ∧
  PySem.W.subIn K (.ref D) (.type "BaseException") = some true ∧ PySem.W.hasDictIn K D = true ∧ PySem.W.findIn K (.ref D) "__class__" = some (some (.builtin "object.__class__")) ∧ PySem.W.specialIn K (.builtin "object.__class__") "__get__" = some (some (.builtin "getset_descriptor.__get__")) ∧
  PySem.W.takesIn K (.builtin "object.__class__") = some true ∧ PySem.W.mroIn K D (.type "object") = some true ∧ PySem.W.kitOne K (.ref D) (.type "ValueError") = some true
/-- what isinstance says of it -/
def CkQ (K : PySem.W.Frag) (dn cn : Str) (b : Bool) : Prop := ∃ D C : Addr, PySem.W.nsIn K mainGlobals dn = some (some (.ref D)) ∧ PySem.W.nsIn K mainGlobals cn = some (some (.ref C)) ∧ PySem.W.kitOne K (.ref D) (.ref C) = some b
/-- .. and of its text's names -/
def ckStat (e w : Str) (sc : Scope) (names : List Str) : Bool := decide (e ≠ w) && decide (sc.names.lookup e = some .local) && decide (sc.names.lookup w = some .local) && !(e == ("__debug__" : Str)) && !(e == ("__classdict__" : Str)) && !(w == ("__debug__" : Str)) && !(w == ("__classdict__" : Str)) &&
  decide (sc.names.lookup ("isinstance" : Str) = some .globalImplicit) && decide (sc.names.lookup ("ValueError" : Str) = some .globalImplicit) && names.all fun x => !(x == ("__debug__" : Str)) && decide (sc.names.lookup x = some .globalImplicit)

/-- what an except clause of the class at S says of an exception of the class at D -/
theorem exm_by {K : PySem.W.Frag} {S D : Addr} {b : Bool} (h1 : PySem.W.subIn K (.ref S) (.type "BaseException") = some true) (h2 : PySem.W.isClsIn K S = true) (h3 : PySem.W.typeIn K (.ref S) = some (.type "type")) (h4 : PySem.W.subIn K (.ref D) (.ref S) = some b) :
    PySem.W.exmOne K (.ref D) (.ref S) = some b := by
  have e1 : (PySem.W.subIn K (.ref S) (.type "BaseException") == some true) = true := by rw [h1] <;> rfl
  have e2 : ((PySem.W.clsIn K S).isSome && PySem.W.typeIn K (.ref S) == some (.type "type")) = true := by
    have h2' : (PySem.W.clsIn K S).isSome = true := h2
    rw [h2', h3] <;> rfl
  show (if (PySem.W.subIn K (.ref S) (.type "BaseException") == some true) = true then (if ((PySem.W.clsIn K S).isSome && PySem.W.typeIn K (.ref S) == some (.type "type")) = true then PySem.W.subIn K (.ref D) (.ref S) else none) else none) = some b
  rw [if_pos e1, if_pos e2]
  exact h4
section
variable {K : PySem.W.Frag} {h : Heap} {mg : Str → Option Value}
theorem fnAt_of (X : K.In h) (Gn : h.Ns mainGlobals mg) {x : Str} {st : Stmt} (F : FnT K x st) {ps : List Str}
    (b : ∀ (kV doc pm : Value) (an : Option Addr) (cd ct : Value) (us : List Value), us.length = ps.length → bindArgs (PySem.W.fnOf x x (defArgs st) (defBody st) (defScope st) .none kV doc pm an cd ct) ⟨us, []⟩ = pure (ps.zip us)) :
    ∃ f fd, FnAt K mg x ps [] (defArgs st) (defBody st) (defScope st) f fd := by
  obtain ⟨f, oc, od, kV, doc, pm, an, cd, ct, sl, h1, h2, h3, h4⟩ := F
  exact ⟨f, _, ⟨oc, od, .none, kV, doc, pm, an, cd, ct, sl, rfl, h2, h3⟩, PySem.W.mg_of X Gn h1, h1, h4, fun j hj => ⟨[], [], .nil, fun _ _ => by simpa using RepL.nil, Binds.all (b kV doc pm an cd ct)⟩⟩
theorem ex_of (X : K.In h) (Gn : h.Ns mainGlobals mg) {x : Str} (E : ExT K x) : ∃ C B newId initId bmB, ExcBaseFacts B newId initId bmB ∧ PySem.W.excIn K C bmB newId = true ∧ mg x = some (.ref C) ∧ PySem.W.keepIn K (.ref C) = true ∧ PySem.W.subIn K (.ref C) (.type "BaseException") = some true ∧ PySem.W.typeIn K (.ref C) = some (.type "type") := by
  obtain ⟨C, h1, h2, h3, h4, h5⟩ := E
  exact ⟨C, _, _, _, _, PySem.F.excBase_ValueError, h2, PySem.W.mg_of X Gn h1, h3, h4, h5⟩
theorem exF_of (X : K.In h) (Gn : h.Ns mainGlobals mg) {nm ql fl : Str} (E : ExF K nm ql fl) (hs : (fl == ("self" : Str)) = false) (hd : (fl == ("__debug__" : Str)) = false) (hd2 : (nm == ("__debug__" : Str)) = false)
    (bA : ∀ (doc pm : Value) (an : Option Addr) (cdv ct : Value) (p1 p2 q1 q2 q3 q4 : Pos) (x v : Value), bindArgs (PySem.W.fnOf "__init__" ql (PySem.FldX.iA fl p1 p2) (PySem.FldX.iB fl q1 q2 q3 q4) (PySem.FldX.iS fl) .none .none doc pm an cdv ct) ⟨[x, v], []⟩ = pure [(("self" : Str), x), (fl, v)]) : ExcFOk K mg nm fl := by
  obtain ⟨C, fI, nm', q, N, bs, bm, sn, sub, ab, col, dd, k0, k1, k2, k3, k5, oc, od, doc, pm, an, cdv, ct, osl, p1, p2, q1, q2, q3, q4, h1, h2, h3, h4, h5, h6, h7, h8, h9, h10, h11, h12, h13, h14a, h14b, h15, h16⟩ := E
  have h14 := exm_by h11 h14a h12 h14b
  exact excF_of (C := C) (fI := fI) (ql := ql) ⟨hs, bA, hd, hd2, PySem.W.mg_of X Gn h1, ⟨nm', q, N, bs, bm, sn, sub, ab, col, dd, k0, k1, k2, k3, k5, h2, h3⟩, h4, h5, h6, h7, h8, h9, h10, h11, h12, h13, h14, ⟨oc, od, doc, pm, an, cdv, ct, osl, p1, p2, q1, q2, q3, q4, h15, h16⟩⟩
theorem ct_of (X : K.In h) (Gn : h.Ns mainGlobals mg) {c d : Str} {b : Bool} (E : CtT K c d b) {cv dv : Value} (hc : mg c = some cv) (hd : mg d = some dv) : PySem.W.exmOne K dv cv = some b := by
  obtain ⟨C, D, h1, h2, h3, h4, h5, h6⟩ := E
  have e1 := PySem.W.mg_of X Gn h1
  have e2 := PySem.W.mg_of X Gn h2
  rw [hc] at e1
  rw [hd] at e2
  cases e1
  cases e2
  exact exm_by h3 h4 h5 h6
theorem bl_of (X : K.In h) (Gn : h.Ns mainGlobals mg) {x : Str} (E : BlT K x) : mg x = none := PySem.W.mg_none_of X Gn E
theorem csS_of (X : K.In h) (Gn : h.Ns mainGlobals mg) {x z : Str} (E : CsS K x z) : ∃ v u, mg x = some u ∧ RelV v u ∧ ∀ H m, RepV K H m v (.str z) := by
  obtain ⟨t, h1⟩ := E
  exact ⟨.str z, _, PySem.W.mg_of X Gn h1, ⟨t, rfl⟩, fun _ _ => .str z⟩
theorem csI_of (X : K.In h) (Gn : h.Ns mainGlobals mg) {x : Str} {z : Int} (E : CsI K x z) : ∃ v u, mg x = some u ∧ RelV v u ∧ ∀ H m, RepV K H m v (.int z) := by
  obtain ⟨t, h1⟩ := E
  exact ⟨.int z, _, PySem.W.mg_of X Gn h1, ⟨t, rfl⟩, fun _ _ => .int z⟩
theorem cls_at {x : Str} {C D : Addr} (h1 : PySem.W.nsIn K mainGlobals x = some (some (.ref C))) (h2 : PySem.W.nsIn K mainGlobals x = some (some (.ref D))) : C = D := by
  rw [h1] at h2
  cases h2
  rfl
theorem fld_of {x f : Str} (A : ClT K x) (B : FdT K x f) : ∃ C, PySem.W.nsIn K mainGlobals x = some (some (.ref C)) ∧ Cls K C ∧ NoAttr K C f := by
  obtain ⟨C, h1, h2, h3, h4, h5⟩ := A
  obtain ⟨D, g1, g2⟩ := B
  obtain rfl := cls_at h1 g1
  exact ⟨C, h1, ⟨h2, h3, h4, h5⟩, g2⟩
theorem meth_of (X : K.In h) (Gn : h.Ns mainGlobals mg) {x nm ql : Str} {st : Stmt} {ps : List Str} (A : ClT K x) (B : MeT K x nm ql st) (M : nm = "__init__" → MkT K x)
    (b : ∀ (kV doc pm : Value) (an : Option Addr) (cd ct : Value) (us : List Value), us.length = ps.length → bindArgs (PySem.W.fnOf nm ql (defArgs st) (defBody st) (defScope st) .none kV doc pm an cd ct) ⟨us, []⟩ = pure (ps.zip us)) :
    ∃ C f fd, PySem.W.nsIn K mainGlobals x = some (some (.ref C)) ∧ mg x = some (.ref C) ∧ Cls K C ∧ FnM K nm ql ps (defArgs st) (defBody st) (defScope st) f fd ∧
      (nm ≠ "__init__" → Meth K C nm f) ∧ (nm = "__init__" → Mk K C f ∧ Meth K C nm f) := by
  obtain ⟨C, h1, h2, h3, h4, h5⟩ := A
  obtain ⟨D, f, oc, od, kV, doc, pm, an, cd, ct, sl, g1, g2, g3, g4, g5, g6⟩ := B
  obtain rfl := cls_at h1 g1
  refine ⟨C, f, _, h1, PySem.W.mg_of X Gn h1, ⟨h2, h3, h4, h5⟩, ⟨⟨oc, od, .none, kV, doc, pm, an, cd, ct, sl, rfl, g4, g5⟩, Binds.all (b kV doc pm an cd ct)⟩, fun _ => ⟨g2, g3, g6⟩, fun e => ?_⟩
  obtain ⟨D, k1, k2, k3⟩ := M e
  obtain rfl := cls_at h1 k1
  subst e
  exact ⟨⟨k2, g2, g3, k3⟩, g2, g3, g6⟩
theorem ck_of {G : GT} (X : K.In h) (Gn : h.Ns mainGlobals mg) {x e w B z0 : Str} {st : Stmt} {its : List (Str × Str)} {t : List (Nat × Str)} (F : FnT K x st) (BI : BlT K "isinstance") (BV : BlT K "ValueError")
    (b : ∀ (kV doc pm : Value) (an : Option Addr) (cd ct : Value) (u : Value), bindArgs (PySem.W.fnOf x x (defArgs st) (defBody st) (defScope st) .none kV doc pm an cd ct) ⟨[u], []⟩ = pure [(e, u)])
    (S : FnScope [e, w] [e] (defScope st)) (hb : ckBody e w (defBody st) = some (its, B, z0)) (hB : B = "ValueError") (hs : ckStat e w (defScope st) (its.map (·.1)) = true)
    (ht : ∀ c y z, t.lookup c = some z → G.excs[c]? = some (y, none) → ∃ ans : Str → Bool, ckWord ans its "" = z ∧ ckFits ans its "" = true ∧ CkC K y ∧ ∀ n, n ∈ its.map (·.1) → CkQ K y n (ans n)) :
    ∃ f fd e, mg x = some (.ref f) ∧ PySem.W.keepIn K (.ref f) = true ∧ Binds K fd [e] [] ∧
      ∀ c y cls z, t.lookup c = some z → G.excs[c]? = some (y, none) → mg y = some cls → ∀ P w base, CkRun P w K mg base f fd e cls z := by
  obtain ⟨f, oc, od, kV, doc, pm, an, cd, ct, sl, h1, h2, h3, h4⟩ := F
  refine ⟨f, _, e, PySem.W.mg_of X Gn h1, h4, Binds.all (fd := PySem.W.fnOf x x (defArgs st) (defBody st) (defScope st) .none kV doc pm an cd ct) fun us hl => ?_, fun c y cls z hc hG hm P wd base => ?_⟩
  · match us, hl with
    | [u], _ => exact b kV doc pm an cd ct u
  · obtain ⟨ans, e1, e2, ⟨D, d1, d2, d3, d4, d5, d6, d7, d8, d9, d10⟩, hq⟩ := ht c y z hc hG
    have em := PySem.W.mg_of X Gn d1
    rw [hm] at em
    cases em
    subst e1
    simp only [ckStat, Bool.and_eq_true, decide_eq_true_eq, Bool.not_eq_true', List.all_eq_true] at hs
    obtain ⟨⟨⟨⟨⟨⟨⟨⟨⟨s1, s2⟩, s3⟩, s4⟩, s5⟩, s6⟩, s7⟩, s8⟩, s9⟩, s10⟩ := hs
    refine ck_run h2 h3 S hb hB ⟨⟨d2, d3, d4, d5, d6, d7, d8, d9⟩, s1, s2, s3, ⟨s4, s5⟩, ⟨s6, s7⟩, ⟨s8, bl_of X Gn BI⟩, fun n hn => ?_, s9, bl_of X Gn BV, d10⟩ e2
    obtain ⟨q1, q2⟩ := s10 n hn
    obtain ⟨D', C, k1, k2, k3⟩ := hq n hn
    rw [d1] at k1
    cases k1
    exact ⟨q1, q2, C, PySem.W.mg_of X Gn k2, k3⟩
theorem strs_rep {H : Hp} {m : List Addr} : ∀ zs : List Str, RepL K H m (zs.map V.str) (zs.map PV.str)
  | [] => .nil
  | z :: zs => .cons (.str z) (strs_rep zs)
theorem csT_of (X : K.In h) (Gn : h.Ns mainGlobals mg) {x : Str} {zs : List Str} (E : CsT K x zs) : ∃ v u, mg x = some u ∧ RelV v u ∧ ∀ H m, RepV K H m v (.tup (zs.map PV.str)) := by
  obtain ⟨a, o, its, n, h1, h2, h3⟩ := E
  exact ⟨.ref a, _, PySem.W.mg_of X Gn h1, rfl, fun _ _ => .tup (.inr ⟨o, its, n, h2, h3⟩) (strs_rep zs)⟩
theorem looks_items0 {α : Type} {M : Model} {T : Addr} {o : Obj} {its : Array Value} {n : Nat} {k : Option (Array Value) → Sem α} {r : α} (X : K.In h) (lT : K.lookup T = some o) (oT : o.data = .seq its n)
    (e : PySem.W.Looks M h (k (some its)) r) : PySem.W.Looks M h (seqItems? (.ref T) >>= k) r := fun A Q E s kp q => wpAny_bind (wpAny_seqItems (kp _ _ (X _ _ lT)) oT (e A Q E s kp q))
/-- with defaults -/
theorem fnAtD_of (X : K.In h) (Gn : h.Ns mainGlobals mg) {x : Str} {st : Stmt} {dvs : List V} {dfl : List PV} (F : FnTD K x st dvs) (hrep : ∀ H m, RepL K H m dvs dfl) {ps : List Str}
    (b : ∀ j, j ≤ dfl.length → ∀ (T : Addr) (kV doc pm : Value) (an : Option Addr) (cd ct : Value) (us its : List Value), us.length + j = ps.length → its.length = dfl.length →
      ∃ k : Option (Array Value) → Sem (List (Str × Value)), bindArgs (PySem.W.fnOf x x (defArgs st) (defBody st) (defScope st) (.ref T) kV doc pm an cd ct) ⟨us, []⟩ = (seqItems? (.ref T) >>= k) ∧ k (some its.toArray) = pure (ps.zip (us ++ its.drop (dfl.length - j)))) :
    ∃ f fd, FnAt K mg x ps dfl (defArgs st) (defBody st) (defScope st) f fd := by
  obtain ⟨f, oc, od, T, kV, doc, pm, an, cd, ct, sl, o, its, n, h1, h2, h3, h4, h5, h6, h7⟩ := F
  have hl : dvs.length = dfl.length := (hrep (fun _ => none) []).len
  refine ⟨f, _, ⟨oc, od, .ref T, kV, doc, pm, an, cd, ct, sl, rfl, h2, h3⟩, PySem.W.mg_of X Gn h1, h1, h4, fun j hj => ?_⟩
  refine ⟨its.drop (dfl.length - j), dvs.drop (dfl.length - j), h7.drop _, fun H m => (hrep H m).drop _, fun s us XK hlen => ?_⟩
  have l1 : its.length = dfl.length := by rw [← h7.length, hl]
  have l2 : us.length + j = ps.length := by
    rw [List.length_append, List.length_drop, l1] at hlen
    omega
  obtain ⟨k, e1, e2⟩ := b j hj T kV doc pm an cd ct us its l2 l1
  intro M A E Q q
  rw [e1]
  exact wpAny_bind (wpAny_seqItems (XK _ _ h5) h6 (by rw [e2]; exact wpAny_pure q))
/-- the law's def, from the tables -/
theorem law_endO {P : Program} {w : World} {G : GT} {blts : List Str} {fns : List FD} {rows : List DefRow} (X : K.In h) (Gn : h.Ns mainGlobals mg) {mrows : List MRow} (T : TabOk G blts fns rows mrows) (F : Facts K mg G blts rows) (O : FactsO K mg G mrows) {x y : Str} {st : Stmt} (FL : FnT K x st) {fa : Addr} (hfa : mg x = some (.ref fa))
    {k i : Nat} {N : List Str} (hr : rows[i]? = some ⟨x, [y], [], N, defArgs st, defBody st, defScope st⟩)
    (b : ∀ (kV doc pm : Value) (an : Option Addr) (cd ct : Value) (u : Value), bindArgs (PySem.W.fnOf x x (defArgs st) (defBody st) (defScope st) .none kV doc pm an cd ct) ⟨[u], []⟩ = pure [(y, u)])
    (law : ∀ ns : List Int, ns.length ≤ 63 → runF G.tab fns k i [.ref 0] [.frz (ns.map PV.int)] (fun v _ => v = .bl true) fun _ _ => False) :
    ∃ fd : FuncData, (∀ (s : Shared) (u : Value), BindsTo s fd ⟨[u], []⟩ [(y, u)]) ∧ ∀ base : Heap, K.In base → base.Ns mainGlobals mg → FnOk P w K mg base (L2.CX P w) k fa fd [y] (spLaw K) := by
  obtain ⟨f, oc, od, kV, doc, pm, an, cd, ct, sl, h1, h2, h3, h4⟩ := FL
  have e := PySem.W.mg_of X Gn h1
  rw [hfa] at e
  cases e
  refine ⟨_, fun s u => .of_eq (b kV doc pm an cd ct u), fun base _ _ => law_ok (r := ⟨x, [y], [], N, defArgs st, defBody st, defScope st⟩) T F O hr ⟨⟨oc, od, .none, kV, doc, pm, an, cd, ct, sl, rfl, h2, h3⟩, hfa, h1, h4, fun j hj => ⟨[], [], .nil, fun _ _ => by simpa using RepL.nil, Binds.all fun us hl => ?_⟩⟩ law⟩
  match us, hl with
  | [u], _ => exact b kV doc pm an cd ct u
theorem law_end {P : Program} {w : World} {G : GT} {blts : List Str} {fns : List FD} {rows : List DefRow} (X : K.In h) (Gn : h.Ns mainGlobals mg) (T : TabOk0 G blts fns rows) (F : Facts K mg G blts rows) {x y : Str} {st : Stmt} (FL : FnT K x st) {fa : Addr} (hfa : mg x = some (.ref fa))
    {k i : Nat} {N : List Str} (hr : rows[i]? = some ⟨x, [y], [], N, defArgs st, defBody st, defScope st⟩)
    (b : ∀ (kV doc pm : Value) (an : Option Addr) (cd ct : Value) (u : Value), bindArgs (PySem.W.fnOf x x (defArgs st) (defBody st) (defScope st) .none kV doc pm an cd ct) ⟨[u], []⟩ = pure [(y, u)])
    (law : ∀ ns : List Int, ns.length ≤ 63 → runF G.tab fns k i [.ref 0] [.frz (ns.map PV.int)] (fun v _ => v = .bl true) fun _ _ => False) (hno : G.flds = [] ∧ G.meths = [] ∧ G.makes = [] := by exact ⟨rfl, rfl, rfl⟩) :
    ∃ fd : FuncData, (∀ (s : Shared) (u : Value), BindsTo s fd ⟨[u], []⟩ [(y, u)]) ∧ ∀ base : Heap, K.In base → base.Ns mainGlobals mg → FnOk P w K mg base (L2.CX P w) k fa fd [y] (spLaw K) :=
  law_endO X Gn (T.ok hno.2) F (factsO0 hno.1) FL hfa hr b law
end
end Pv
set_option Elab.async false
set_option linter.all false
set_option maxRecDepth 100000
set_option maxHeartbeats 4000000
/-! the tables of the text (printed by gen.py) -/
namespace K78
open PySem Pv L2
/-- the texts of the program -/
def st : Nat → Str
  | 0 => "t"
  | 1 => "to"
  | 2 => "shape"
  | 3 => "table"
  | 4 => "cells"
  | 5 => "at"
  | 6 => "rest"
  | 7 => "turn"
  | 8 => "mix"
  | _ => ""
theorem st_all : ∀ i, i < 9 → ∀ j, j < 9 → st i = st j → i = j := by decide +kernel
theorem st_inj (i j : Nat) (hi : i < 9) (hj : j < 9) : (st i = st j) = (i = j) := propext ⟨st_all i hi j hj, fun e => by rw [e]⟩
abbrev blts : List Str := ["all", "bool", "enumerate", "int", "isinstance", "len", "list", "max", "range", "set", "sorted", "str", "tuple", "zip"]
abbrev top (i : Nat) : Stmt := PySem.Challenge.pw_usedapart_k78_whole_wider_schemes.main.body.getD i (.Pass ⟨0, 0, 0, 0⟩)
def r0 : DefRow := ⟨"is_integer", ["value"], [], ["value"], L2.defArgs (top 3), L2.defBody (top 3), L2.defScope (top 3)⟩
/-- is_integer -/
def f0 : FD := ⟨1, 1, (.cons (.ret (.and (.isin (.var 0) .tInt) (.not (.isin (.var 0) .tBool)))) .nil)⟩
def r1 : DefRow := ⟨"is_natural", ["value"], [], ["value"], L2.defArgs (top 4), L2.defBody (top 4), L2.defScope (top 4)⟩
/-- is_natural -/
def f1 : FD := ⟨1, 1, (.cons (.ret (.and (.call 0 (.cons (.var 0) .nil) []) (.cmp .ge (.var 0) (.cst (.int 0))))) .nil)⟩
def r2 : DefRow := ⟨"is_row", ["value", "length"], [], ["value", "length"], L2.defArgs (top 5), L2.defBody (top 5), L2.defScope (top 5)⟩
/-- is_row -/
def f2 : FD := ⟨2, 2, (.cons (.ret (.and (.isin (.var 0) .tTuple) (.cmp .eq (.bi .len (.cons (.var 0) .nil)) (.var 1)))) .nil)⟩
def r3 : DefRow := ⟨"is_ascending", ["items"], [], ["items", "index"], L2.defArgs (top 6), L2.defBody (top 6), L2.defScope (top 6)⟩
/-- is_ascending -/
def f3 : FD := ⟨1, 2, (.cons (.ret (.bi .all1 (.cons (.lc [1] (.nm 1) (.rng1 (.bin .sub (.bi .len (.cons (.var 0) .nil)) (.cst (.int 1)))) .nil (.cmp .lt (.idx (.var 0) (.var 1)) (.idx (.var 0) (.bin .add (.var 1) (.cst (.int 1)))))) .nil))) .nil)⟩
def r4 : DefRow := ⟨"note_atoms", ["shape", "found"], [], ["shape", "found", "waiting", "piece"], L2.defArgs (top 12), L2.defBody (top 12), L2.defScope (top 12)⟩
/-- note_atoms -/
def f4 : FD := ⟨2, 4, (.cons (.asg (.nm 2) (.lst (.cons (.var 0) .nil))) (.cons (.whl (.var 2) (.cons (.asg (.nm 3) (.meth .pop (.var 2) .nil)) (.cons (.ifs (.cmp .eq (.idxc (.var 3) 0) (.cst (.str (st 0)))) (.cons (.asg (.sub (.var 1) (.idxc (.var 3) 1)) (.cst (.bl true))) .nil) (.cons (.expr (.meth .append (.var 2) (.cons (.idxc (.var 3) 2) .nil))) (.cons (.expr (.meth .append (.var 2) (.cons (.idxc (.var 3) 1) .nil))) .nil))) .nil))) .nil))⟩
def r5 : DefRow := ⟨"atom_lot", ["shape"], [], ["shape", "found"], L2.defArgs (top 13), L2.defBody (top 13), L2.defScope (top 13)⟩
/-- atom_lot -/
def f5 : FD := ⟨1, 2, (.cons (.asg (.nm 1) (.dct [] .nil)) (.cons (.expr (.call 4 (.cons (.var 0) (.cons (.var 1) .nil)) [])) (.cons (.ret (.bi .tuple1 (.cons (.bi .sorted1 (.cons (.var 1) .nil)) .nil))) .nil)))⟩
def r6 : DefRow := ⟨"put_atoms", ["shape", "table"], [], ["shape", "table"], L2.defArgs (top 14), L2.defBody (top 14), L2.defScope (top 14)⟩
/-- put_atoms -/
def f6 : FD := ⟨2, 2, (.cons (.ifs (.cmp .eq (.idxc (.var 0) 0) (.cst (.str (st 0)))) (.cons (.ret (.get2 (.var 1) (.idxc (.var 0) 1) (.var 0))) .nil) .nil) (.cons (.ret (.tup (.cons (.cst (.str (st 1))) (.cons (.call 6 (.cons (.idxc (.var 0) 1) (.cons (.var 1) .nil)) []) (.cons (.call 6 (.cons (.idxc (.var 0) 2) (.cons (.var 1) .nil)) []) .nil))))) .nil))⟩
def r7 : DefRow := ⟨"case_dict", ["shape", "other", "held"], [(.tup [])], ["shape", "other", "held", "table", "atom", "waiting", "one", "two"], L2.defArgs (top 15), L2.defBody (top 15), L2.defScope (top 15)⟩
/-- case_dict -/
def f7 : FD := ⟨3, 8, (.cons (.asg (.nm 3) (.dc [4] (.nm 4) (.val (.var 2)) .nil (.var 4) (.tup (.cons (.cst (.str (st 0))) (.cons (.var 4) .nil))))) (.cons (.asg (.nm 5) (.lst (.cons (.tup (.cons (.var 0) (.cons (.var 1) .nil))) .nil))) (.cons (.whl (.var 5) (.cons (.asg (.tp [6, 7]) (.meth .pop (.var 5) .nil)) (.cons (.ifs (.cmp .eq (.idxc (.var 6) 0) (.cst (.str (st 0)))) (.cons (.ifs (.cmp .ne (.setd (.var 3) (.idxc (.var 6) 1) (.var 7)) (.var 7)) (.cons (.ret (.cst .non)) .nil) .nil) .nil) (.cons (.ifs (.cmp .eq (.idxc (.var 7) 0) (.cst (.str (st 0)))) (.cons (.ret (.cst .non)) .nil) (.cons (.expr (.meth .append (.var 5) (.cons (.tup (.cons (.idxc (.var 6) 1) (.cons (.idxc (.var 7) 1) .nil))) .nil))) (.cons (.expr (.meth .append (.var 5) (.cons (.tup (.cons (.idxc (.var 6) 2) (.cons (.idxc (.var 7) 2) .nil))) .nil))) .nil))) .nil)) .nil))) (.cons (.ret (.var 3)) .nil))))⟩
def r8 : DefRow := ⟨"table_rows", ["table"], [], ["table"], L2.defArgs (top 16), L2.defBody (top 16), L2.defScope (top 16)⟩
/-- table_rows -/
def f8 : FD := ⟨1, 1, (.cons (.ret (.bi .tuple1 (.cons (.sortI 0) .nil))) .nil)⟩
def r9 : DefRow := ⟨"next_atom", ["shapes"], [], ["shapes", "found", "shape", "atom"], L2.defArgs (top 17), L2.defBody (top 17), L2.defScope (top 17)⟩
/-- next_atom -/
def f9 : FD := ⟨1, 4, (.cons (.asg (.nm 1) (.dct [] .nil)) (.cons (.for_ (.nm 2) (.val (.var 0)) (.cons (.expr (.call 4 (.cons (.var 2) (.cons (.var 1) .nil)) [])) .nil)) (.cons (.ret (.maxD (.lock 1 (.lc [3] (.nm 3) (.dk 0 1) .nil (.bin .add (.var 3) (.cst (.int 1))))) (.cst (.int 0)))) .nil)))⟩
def r10 : DefRow := ⟨"is_shape", ["value"], [], ["value", "waiting", "piece"], L2.defArgs (top 19), L2.defBody (top 19), L2.defScope (top 19)⟩
/-- is_shape -/
def f10 : FD := ⟨1, 3, (.cons (.asg (.nm 1) (.lst (.cons (.var 0) .nil))) (.cons (.whl (.var 1) (.cons (.asg (.nm 2) (.meth .pop (.var 1) .nil)) (.cons (.ifs (.or (.not (.isin (.var 2) .tTuple)) (.or (.not (.var 2)) (.not (.isin (.idxc (.var 2) 0) .tStr)))) (.cons (.ret (.cst (.bl false))) .nil) .nil) (.cons (.ifs (.and (.cmp .eq (.idxc (.var 2) 0) (.cst (.str (st 1)))) (.cmp .eq (.bi .len (.cons (.var 2) .nil)) (.cst (.int 3)))) (.cons (.expr (.meth .extend (.var 1) (.cons (.slice (.var 2) (.so (.cst (.int 1))) .no) .nil))) .nil) (.cons (.ifs (.or (.cmp .ne (.idxc (.var 2) 0) (.cst (.str (st 0)))) (.or (.cmp .ne (.bi .len (.cons (.var 2) .nil)) (.cst (.int 2))) (.not (.call 1 (.cons (.idxc (.var 2) 1) .nil) [])))) (.cons (.ret (.cst (.bl false))) .nil) .nil) .nil)) .nil)))) (.cons (.ret (.cst (.bl true))) .nil)))⟩
def r11 : DefRow := ⟨"check_shape", ["shape"], [], ["shape"], L2.defArgs (top 20), L2.defBody (top 20), L2.defScope (top 20)⟩
/-- check_shape -/
def f11 : FD := ⟨1, 1, (.cons (.ifs (.not (.call 10 (.cons (.var 0) .nil) [])) (.cons (.raise 1) .nil) .nil) .nil)⟩
def r12 : DefRow := ⟨"held_atoms", ["scheme"], [], ["scheme", "general", "shape", "atom"], L2.defArgs (top 22), L2.defBody (top 22), L2.defScope (top 22)⟩
/-- held_atoms -/
def f12 : FD := ⟨1, 4, (.cons (.asg (.tp [1, 2]) (.var 0)) (.cons (.ret (.lc [3] (.nm 3) (.val (.call 5 (.cons (.var 2) .nil) [])) (.cons (.cmp .notin (.var 3) (.var 1)) .nil) (.var 3))) .nil))⟩
def r13 : DefRow := ⟨"instance_dict", ["scheme", "shape"], [], ["scheme", "shape", "table", "atom"], L2.defArgs (top 23), L2.defBody (top 23), L2.defScope (top 23)⟩
/-- instance_dict -/
def f13 : FD := ⟨2, 4, (.cons (.asg (.nm 2) (.call 7 (.cons (.idxc (.var 0) 1) (.cons (.var 1) (.cons (.call 12 (.cons (.var 0) .nil) []) .nil))) [])) (.cons (.ifs (.cmp .is (.var 2) (.cst .non)) (.cons (.ret (.cst .non)) .nil) .nil) (.cons (.ret (.dc [3] (.nm 3) (.val (.idxc (.var 0) 0)) .nil (.var 3) (.idx (.var 2) (.var 3)))) .nil)))⟩
def r14 : DefRow := ⟨"is_atom_lot", ["value"], [], ["value", "atom"], L2.defArgs (top 25), L2.defBody (top 25), L2.defScope (top 25)⟩
/-- is_atom_lot -/
def f14 : FD := ⟨1, 2, (.cons (.ret (.and (.isin (.var 0) .tTuple) (.and (.bi .all1 (.cons (.lc [1] (.nm 1) (.val (.var 0)) .nil (.call 1 (.cons (.var 1) .nil) [])) .nil)) (.call 3 (.cons (.var 0) .nil) [])))) .nil)⟩
def r15 : DefRow := ⟨"is_scheme", ["value"], [], ["value", "atoms", "atom"], L2.defArgs (top 26), L2.defBody (top 26), L2.defScope (top 26)⟩
/-- is_scheme -/
def f15 : FD := ⟨1, 3, (.cons (.ifs (.or (.not (.call 2 (.cons (.var 0) (.cons (.cst (.int 2)) .nil)) [])) (.or (.not (.call 14 (.cons (.idxc (.var 0) 0) .nil) [])) (.not (.call 10 (.cons (.idxc (.var 0) 1) .nil) [])))) (.cons (.ret (.cst (.bl false))) .nil) .nil) (.cons (.asg (.nm 1) (.call 5 (.cons (.idxc (.var 0) 1) .nil) [])) (.cons (.ret (.bi .all1 (.cons (.lc [2] (.nm 2) (.val (.idxc (.var 0) 0)) .nil (.cmp .isin (.var 2) (.var 1))) .nil))) .nil)))⟩
def r16 : DefRow := ⟨"check_scheme", ["scheme"], [], ["scheme"], L2.defArgs (top 27), L2.defBody (top 27), L2.defScope (top 27)⟩
/-- check_scheme -/
def f16 : FD := ⟨1, 1, (.cons (.ifs (.not (.call 15 (.cons (.var 0) .nil) [])) (.cons (.raise 2) .nil) .nil) .nil)⟩
def r17 : DefRow := ⟨"scheme_of", ["fixed", "shape"], [], ["fixed", "shape", "atom"], L2.defArgs (top 28), L2.defBody (top 28), L2.defScope (top 28)⟩
/-- scheme_of -/
def f17 : FD := ⟨2, 3, (.cons (.ifs (.not (.call 14 (.cons (.var 0) .nil) [])) (.cons (.raise 3) .nil) .nil) (.cons (.expr (.call 11 (.cons (.var 1) .nil) [])) (.cons (.ret (.tup (.cons (.bi .tuple1 (.cons (.lc [2] (.nm 2) (.val (.call 5 (.cons (.var 1) .nil) [])) (.cons (.cmp .notin (.var 2) (.var 0)) .nil) (.var 2)) .nil)) (.cons (.var 1) .nil)))) .nil)))⟩
def r18 : DefRow := ⟨"is_instance", ["scheme", "shape"], [], ["scheme", "shape"], L2.defArgs (top 29), L2.defBody (top 29), L2.defScope (top 29)⟩
/-- is_instance -/
def f18 : FD := ⟨2, 2, (.cons (.expr (.call 16 (.cons (.var 0) .nil) [])) (.cons (.expr (.call 11 (.cons (.var 1) .nil) [])) (.cons (.ret (.cmp .isnot (.call 13 (.cons (.var 0) (.cons (.var 1) .nil)) []) (.cst .non))) .nil)))⟩
def r19 : DefRow := ⟨"is_wider", ["scheme", "other_scheme"], [], ["scheme", "other_scheme", "first", "table", "turn", "atom", "tested", "found"], L2.defArgs (top 30), L2.defBody (top 30), L2.defScope (top 30)⟩
/-- is_wider -/
def f19 : FD := ⟨2, 8, (.cons (.expr (.call 16 (.cons (.var 0) .nil) [])) (.cons (.expr (.call 16 (.cons (.var 1) .nil) [])) (.cons (.asg (.nm 2) (.call 9 (.cons (.tup (.cons (.idxc (.var 0) 1) (.cons (.idxc (.var 1) 1) .nil))) .nil) [])) (.cons (.asg (.nm 3) (.dc [4, 5] (.tp [4, 5]) (.enum (.idxc (.var 1) 0)) .nil (.var 5) (.tup (.cons (.cst (.str (st 0))) (.cons (.bin .add (.var 2) (.var 4)) .nil))))) (.cons (.asg (.nm 6) (.call 6 (.cons (.idxc (.var 1) 1) (.cons (.var 3) .nil)) [])) (.cons (.asg (.nm 7) (.call 13 (.cons (.var 0) (.cons (.var 6) .nil)) [])) (.cons (.ret (.ifx (.cmp .is (.var 7) (.cst .non)) (.tup (.cons (.cst (.str (st 2))) (.cons (.var 6) .nil))) (.tup (.cons (.cst (.str (st 3))) (.cons (.call 8 (.cons (.var 7) .nil) []) .nil))))) .nil)))))))⟩
def r20 : DefRow := ⟨"_law_source", ["script"], [], ["script", "mix", "cell"], L2.defArgs (top 32), L2.defBody (top 32), L2.defScope (top 32)⟩
/-- _law_source -/
def f20 : FD := ⟨1, 3, (.cons (.asg (.nm 1) (.cst (.int 23))) (.cons (.for_ (.nm 2) (.val (.slice (.var 0) .no (.so (.cst (.int 63))))) (.cons (.asg (.nm 1) (.bin .mod (.bi .int1 (.cons (.bin .add (.bin .add (.bin .mul (.var 1) (.cst (.int 1009))) (.var 2)) (.cst (.int 5))) .nil)) (.cst (.int 998244353)))) .nil)) (.cons (.ret (.dct [.inr (st 4), .inr (st 5), .inr (st 6), .inr (st 7), .inr (st 8)] (.cons (.bi .list1 (.cons (.slice (.var 0) .no (.so (.cst (.int 63)))) .nil)) (.cons (.cst (.int 0)) (.cons (.cst (.int 0)) (.cons (.cst (.int 0)) (.cons (.var 1) .nil))))))) .nil)))⟩
def r21 : DefRow := ⟨"_law_draw", ["source", "limit"], [], ["source", "limit", "turn", "cell", "found", "mixed"], L2.defArgs (top 33), L2.defBody (top 33), L2.defScope (top 33)⟩
/-- _law_draw -/
def f21 : FD := ⟨2, 6, (.cons (.ifs (.cmp .lt (.var 1) (.cst (.int 2))) (.cons (.ret (.cst (.int 0))) .nil) .nil) (.cons (.augD (.var 0) (.cst (.str (st 7))) .add (.cst (.int 1))) (.cons (.asg (.nm 2) (.idx (.var 0) (.cst (.str (st 7))))) (.cons (.ifs (.and (.cmp .lt (.idx (.var 0) (.cst (.str (st 6)))) (.var 1)) (.cmp .lt (.idx (.var 0) (.cst (.str (st 5)))) (.bi .len (.cons (.idx (.var 0) (.cst (.str (st 4)))) .nil)))) (.cons (.asg (.nm 3) (.idx (.idx (.var 0) (.cst (.str (st 4)))) (.idx (.var 0) (.cst (.str (st 5)))))) (.cons (.augD (.var 0) (.cst (.str (st 5))) .add (.cst (.int 1))) (.cons (.ifs (.cmp .ge (.var 3) (.bin .pow (.cst (.int 10)) (.cst (.int 18)))) (.cons (.asg (.sub (.var 0) (.cst (.str (st 6)))) (.var 3)) .nil) (.cons (.asg (.sub (.var 0) (.cst (.str (st 8)))) (.bin .mod (.bi .int1 (.cons (.bin .add (.bin .add (.bin .mul (.idx (.var 0) (.cst (.str (st 8)))) (.cst (.int 48271))) (.bin .mul (.var 3) (.cst (.int 30011)))) (.var 2)) .nil)) (.cst (.int 2147483647)))) .nil)) .nil))) .nil) (.cons (.ifs (.cmp .ge (.idx (.var 0) (.cst (.str (st 6)))) (.var 1)) (.cons (.asg (.nm 4) (.bin .mod (.bi .int1 (.cons (.idx (.var 0) (.cst (.str (st 6)))) .nil)) (.var 1))) (.cons (.asg (.sub (.var 0) (.cst (.str (st 6)))) (.bin .fdiv (.idx (.var 0) (.cst (.str (st 6)))) (.var 1))) (.cons (.ret (.var 4)) .nil))) .nil) (.cons (.asg (.nm 5) (.bin .mod (.bi .int1 (.cons (.bin .add (.bin .add (.bin .mul (.idx (.var 0) (.cst (.str (st 8)))) (.cst (.int 69621))) (.bin .mul (.bin .mul (.var 2) (.var 2)) (.cst (.int 7919)))) (.cst (.int 101))) .nil)) (.cst (.int 2147483629)))) (.cons (.ret (.bin .mod (.bin .mod (.bi .int1 (.cons (.bin .add (.bin .mul (.var 5) (.cst (.int 16807))) (.bin .mul (.var 2) (.cst (.int 104729)))) .nil)) (.cst (.int 2147483587))) (.var 1))) .nil)))))))⟩
def r22 : DefRow := ⟨"_law_same", ["told", "due"], [], ["told", "due", "fits", "one", "other"], L2.defArgs (top 34), L2.defBody (top 34), L2.defScope (top 34)⟩
/-- _law_same -/
def f22 : FD := ⟨2, 5, (.cons (.ifs (.or (.isin (.var 1) .tTuple) (.isin (.var 1) .tList)) (.cons (.asg (.nm 2) (.ifx (.isin (.var 1) .tTuple) (.isin (.var 0) .tTuple) (.isin (.var 0) .tList))) (.cons (.ifs (.or (.not (.var 2)) (.cmp .ne (.bi .len (.cons (.var 0) .nil)) (.bi .len (.cons (.var 1) .nil)))) (.cons (.ret (.cst (.bl false))) .nil) .nil) (.cons (.ret (.bi .all1 (.cons (.lc [3, 4] (.tp [3, 4]) (.zip (.var 0) (.var 1)) .nil (.call 22 (.cons (.var 3) (.cons (.var 4) .nil)) [])) .nil))) .nil))) .nil) (.cons (.ifs (.cmp .is (.var 1) (.cst .non)) (.cons (.ret (.cmp .is (.var 0) (.cst .non))) .nil) .nil) (.cons (.ifs (.isin (.var 1) .tBool) (.cons (.ret (.and (.isin (.var 0) .tBool) (.cmp .eq (.var 0) (.var 1)))) .nil) .nil) (.cons (.ifs (.isin (.var 1) .tInt) (.cons (.ret (.and (.isin (.var 0) .tInt) (.and (.not (.isin (.var 0) .tBool)) (.cmp .eq (.var 0) (.var 1))))) .nil) .nil) (.cons (.ret (.and (.isin (.var 0) .tStr) (.cmp .eq (.var 0) (.var 1)))) .nil)))))⟩
def r23 : DefRow := ⟨"_law_any_shape", ["source", "room", "atoms"], [], ["source", "room", "atoms", "left"], L2.defArgs (top 38), L2.defBody (top 38), L2.defScope (top 38)⟩
/-- _law_any_shape -/
def f23 : FD := ⟨3, 4, (.cons (.ifs (.or (.cmp .lt (.var 1) (.cst (.int 2))) (.cmp .eq (.call 21 (.cons (.var 0) (.cons (.cst (.int 4)) .nil)) []) (.cst (.int 0)))) (.cons (.ret (.tup (.cons (.cst (.str (st 0))) (.cons (.call 21 (.cons (.var 0) (.cons (.var 2) .nil)) []) .nil)))) .nil) .nil) (.cons (.asg (.nm 3) (.bin .add (.cst (.int 1)) (.call 21 (.cons (.var 0) (.cons (.bin .sub (.var 1) (.cst (.int 1))) .nil)) []))) (.cons (.ret (.tup (.cons (.cst (.str (st 1))) (.cons (.call 23 (.cons (.var 0) (.cons (.var 3) (.cons (.var 2) .nil))) []) (.cons (.call 23 (.cons (.var 0) (.cons (.bin .sub (.var 1) (.var 3)) (.cons (.var 2) .nil))) []) .nil))))) .nil)))⟩
def r24 : DefRow := ⟨"_law_fill", ["shape", "table"], [], ["shape", "table", "atom", "other"], L2.defArgs (top 39), L2.defBody (top 39), L2.defScope (top 39)⟩
/-- _law_fill -/
def f24 : FD := ⟨2, 4, (.cons (.ifs (.cmp .eq (.idxc (.var 0) 0) (.cst (.str (st 0)))) (.cons (.for_ (.tp [2, 3]) (.val (.var 1)) (.cons (.ifs (.cmp .eq (.var 2) (.idxc (.var 0) 1)) (.cons (.ret (.var 3)) .nil) .nil) .nil)) (.cons (.ret (.var 0)) .nil)) .nil) (.cons (.ret (.tup (.cons (.cst (.str (st 1))) (.cons (.call 24 (.cons (.idxc (.var 0) 1) (.cons (.var 1) .nil)) []) (.cons (.call 24 (.cons (.idxc (.var 0) 2) (.cons (.var 1) .nil)) []) .nil))))) .nil))⟩
def r25 : DefRow := ⟨"_law_atoms", ["shape"], [], ["shape"], L2.defArgs (top 40), L2.defBody (top 40), L2.defScope (top 40)⟩
/-- _law_atoms -/
def f25 : FD := ⟨1, 1, (.cons (.ifs (.cmp .eq (.idxc (.var 0) 0) (.cst (.str (st 0)))) (.cons (.ret (.lst (.cons (.idxc (.var 0) 1) .nil))) .nil) .nil) (.cons (.ret (.sortS (.bin .add (.call 25 (.cons (.idxc (.var 0) 1) .nil) []) (.call 25 (.cons (.idxc (.var 0) 2) .nil) [])))) .nil))⟩
def r26 : DefRow := ⟨"_law_match", ["general", "shape", "other", "table"], [], ["general", "shape", "other", "table", "atom", "known"], L2.defArgs (top 41), L2.defBody (top 41), L2.defScope (top 41)⟩
/-- _law_match -/
def f26 : FD := ⟨4, 6, (.cons (.ifs (.cmp .eq (.idxc (.var 1) 0) (.cst (.str (st 0)))) (.cons (.ifs (.cmp .notin (.idxc (.var 1) 1) (.var 0)) (.cons (.ret (.cmp .eq (.var 1) (.var 2))) .nil) .nil) (.cons (.for_ (.tp [4, 5]) (.val (.var 3)) (.cons (.ifs (.cmp .eq (.var 4) (.idxc (.var 1) 1)) (.cons (.ret (.cmp .eq (.var 5) (.var 2))) .nil) .nil) .nil)) (.cons (.expr (.meth .append (.var 3) (.cons (.tup (.cons (.idxc (.var 1) 1) (.cons (.var 2) .nil))) .nil))) (.cons (.ret (.cst (.bl true))) .nil)))) .nil) (.cons (.ifs (.cmp .eq (.idxc (.var 2) 0) (.cst (.str (st 0)))) (.cons (.ret (.cst (.bl false))) .nil) .nil) (.cons (.ret (.and (.call 26 (.cons (.var 0) (.cons (.idxc (.var 1) 1) (.cons (.idxc (.var 2) 1) (.cons (.var 3) .nil)))) []) (.call 26 (.cons (.var 0) (.cons (.idxc (.var 1) 2) (.cons (.idxc (.var 2) 2) (.cons (.var 3) .nil)))) []))) .nil)))⟩
def r27 : DefRow := ⟨"_law_scheme", ["source"], [], ["source", "shape", "atom"], L2.defArgs (top 42), L2.defBody (top 42), L2.defScope (top 42)⟩
/-- _law_scheme -/
def f27 : FD := ⟨1, 3, (.cons (.asg (.nm 1) (.call 23 (.cons (.var 0) (.cons (.cst (.int 6)) (.cons (.cst (.int 4)) .nil))) [])) (.cons (.ret (.tup (.cons (.bi .tuple1 (.cons (.lc [2] (.nm 2) (.val (.call 25 (.cons (.var 1) .nil) [])) (.cons (.cmp .gt (.call 21 (.cons (.var 0) (.cons (.cst (.int 3)) .nil)) []) (.cst (.int 0))) .nil) (.var 2)) .nil)) (.cons (.var 1) .nil)))) .nil))⟩
def r28 : DefRow := ⟨"_law_instance", ["source", "scheme", "atoms"], [], ["source", "scheme", "atoms", "table", "atom"], L2.defArgs (top 43), L2.defBody (top 43), L2.defScope (top 43)⟩
/-- _law_instance -/
def f28 : FD := ⟨3, 5, (.cons (.asg (.nm 3) (.lc [4] (.nm 4) (.val (.idxc (.var 1) 0)) .nil (.tup (.cons (.var 4) (.cons (.call 23 (.cons (.var 0) (.cons (.cst (.int 2)) (.cons (.var 2) .nil))) []) .nil))))) (.cons (.ret (.call 24 (.cons (.idxc (.var 1) 1) (.cons (.var 3) .nil)) [])) .nil))⟩
def r29 : DefRow := ⟨"_law_narrow", ["source", "scheme"], [], ["source", "scheme", "shape", "atom"], L2.defArgs (top 44), L2.defBody (top 44), L2.defScope (top 44)⟩
/-- _law_narrow -/
def f29 : FD := ⟨2, 4, (.cons (.asg (.nm 2) (.call 28 (.cons (.var 0) (.cons (.var 1) (.cons (.cst (.int 5)) .nil))) [])) (.cons (.ret (.tup (.cons (.bi .tuple1 (.cons (.lc [3] (.nm 3) (.val (.call 25 (.cons (.var 2) .nil) [])) (.cons (.cmp .gt (.call 21 (.cons (.var 0) (.cons (.cst (.int 3)) .nil)) []) (.cst (.int 0))) .nil) (.var 3)) .nil)) (.cons (.var 2) .nil)))) .nil))⟩
def r30 : DefRow := ⟨"_law_due", ["scheme", "other"], [], ["scheme", "other", "first", "tested", "turn", "atom", "table"], L2.defArgs (top 45), L2.defBody (top 45), L2.defScope (top 45)⟩
/-- _law_due -/
def f30 : FD := ⟨2, 7, (.cons (.asg (.nm 2) (.bin .add (.cst (.int 1)) (.bi .max1 (.cons (.bin .add (.call 25 (.cons (.idxc (.var 0) 1) .nil) []) (.call 25 (.cons (.idxc (.var 1) 1) .nil) [])) .nil)))) (.cons (.asg (.nm 3) (.call 24 (.cons (.idxc (.var 1) 1) (.cons (.lc [4, 5] (.tp [4, 5]) (.enum (.idxc (.var 1) 0)) .nil (.tup (.cons (.var 5) (.cons (.tup (.cons (.cst (.str (st 0))) (.cons (.bin .add (.var 2) (.var 4)) .nil))) .nil)))) .nil)) [])) (.cons (.asg (.nm 6) (.lst .nil)) (.cons (.ifs (.call 26 (.cons (.idxc (.var 0) 0) (.cons (.idxc (.var 0) 1) (.cons (.var 3) (.cons (.var 6) .nil)))) []) (.cons (.ret (.tup (.cons (.cst (.str (st 3))) (.cons (.bi .tuple1 (.cons (.bi .sorted1 (.cons (.var 6) .nil)) .nil)) .nil)))) .nil) .nil) (.cons (.ret (.tup (.cons (.cst (.str (st 2))) (.cons (.var 3) .nil)))) .nil)))))⟩
def r31 : DefRow := ⟨"law", ["script"], [], ["script", "source", "one", "two", "three", "schemes", "found", "left", "scheme", "held", "atom", "bad", "right", "other", "due", "shape", "middle"], L2.defArgs (top 46), L2.defBody (top 46), L2.defScope (top 46)⟩
/-- law -/
def f31 : FD := ⟨1, 17, (.cons (.asg (.nm 1) (.call 20 (.cons (.var 0) .nil) [])) (.cons (.asg (.tp [2, 3]) (.tup (.cons (.call 27 (.cons (.var 1) .nil) []) (.cons (.call 27 (.cons (.var 1) .nil) []) .nil)))) (.cons (.ifs (.cmp .eq (.call 21 (.cons (.var 1) (.cons (.cst (.int 2)) .nil)) []) (.cst (.int 0))) (.cons (.asg (.nm 3) (.call 29 (.cons (.var 1) (.cons (.var 2) .nil)) [])) .nil) .nil) (.cons (.asg (.nm 4) (.ifx (.cmp .eq (.call 21 (.cons (.var 1) (.cons (.cst (.int 2)) .nil)) []) (.cst (.int 0))) (.call 29 (.cons (.var 1) (.cons (.var 3) .nil)) []) (.call 27 (.cons (.var 1) .nil) []))) (.cons (.asg (.nm 5) (.lst (.cons (.var 2) (.cons (.var 3) (.cons (.var 4) .nil))))) (.cons (.asg (.nm 6) .dctE) (.cons (.for_ (.tp [7, 8]) (.enum (.var 5)) (.cons (.ifs (.cmp .isnot (.call 15 (.cons (.var 8) .nil) []) (.cst (.bl true))) (.cons (.ret (.cst (.bl false))) .nil) .nil) (.cons (.asg (.nm 9) (.bi .tuple1 (.cons (.lc [10] (.nm 10) (.val (.call 25 (.cons (.idxc (.var 8) 1) .nil) [])) (.cons (.cmp .notin (.var 10) (.idxc (.var 8) 0)) .nil) (.var 10)) .nil))) (.cons (.ifs (.not (.call 22 (.cons (.call 17 (.cons (.bin .add (.var 9) (.tup (.cons (.cst (.int 90)) .nil))) (.cons (.idxc (.var 8) 1) .nil)) []) (.cons (.var 8) .nil)) [])) (.cons (.ret (.cst (.bl false))) .nil) .nil) (.cons (.for_ (.nm 11) (.val (.lst (.cons (.tup (.cons (.bin .add (.idxc (.var 8) 0) (.tup (.cons (.cst (.int 91)) .nil))) (.cons (.idxc (.var 8) 1) .nil))) (.cons (.tup (.cons (.bin .add (.rev (.idxc (.var 8) 0)) (.tup (.cons (.cst (.int 0)) (.cons (.cst (.int 0)) .nil)))) (.cons (.idxc (.var 8) 1) .nil))) (.cons (.lst (.cons (.idxc (.var 8) 0) (.cons (.idxc (.var 8) 1) .nil))) (.cons (.idxc (.var 8) 0) (.cons (.cst .non) .nil))))))) (.cons (.ifs (.cmp .isnot (.call 15 (.cons (.var 11) .nil) []) (.cst (.bl false))) (.cons (.ret (.cst (.bl false))) .nil) .nil) .nil)) (.cons (.for_ (.tp [12, 13]) (.enum (.var 5)) (.cons (.asg (.nm 14) (.call 30 (.cons (.var 8) (.cons (.var 13) .nil)) [])) (.cons (.ifs (.not (.call 22 (.cons (.call 19 (.cons (.var 8) (.cons (.var 13) .nil)) []) (.cons (.var 14) .nil)) [])) (.cons (.ret (.cst (.bl false))) .nil) .nil) (.cons (.setT (.var 6) (.cons (.var 7) (.cons (.var 12) .nil)) (.cmp .eq (.idxc (.var 14) 0) (.cst (.str (st 3))))) (.cons (.for_ (.nm 15) (.val (.lst (.cons (.call 28 (.cons (.var 1) (.cons (.var 13) (.cons (.cst (.int 5)) .nil))) []) (.cons (.call 23 (.cons (.var 1) (.cons (.cst (.int 6)) (.cons (.cst (.int 4)) .nil))) []) (.cons (.idxc (.var 13) 1) .nil))))) (.cons (.ifs (.not (.call 22 (.cons (.call 18 (.cons (.var 8) (.cons (.var 15) .nil)) []) (.cons (.call 26 (.cons (.idxc (.var 8) 0) (.cons (.idxc (.var 8) 1) (.cons (.var 15) (.cons (.lst .nil) .nil)))) []) .nil)) [])) (.cons (.ret (.cst (.bl false))) .nil) .nil) (.cons (.ifs (.and (.cmp .eq (.idxc (.var 14) 0) (.cst (.str (st 3)))) (.and (.cmp .is (.call 18 (.cons (.var 13) (.cons (.var 15) .nil)) []) (.cst (.bl true))) (.cmp .isnot (.call 18 (.cons (.var 8) (.cons (.var 15) .nil)) []) (.cst (.bl true))))) (.cons (.ret (.cst (.bl false))) .nil) .nil) .nil))) (.cons (.ifs (.and (.cmp .eq (.idxc (.var 14) 0) (.cst (.str (st 2)))) (.or (.cmp .isnot (.call 18 (.cons (.var 13) (.cons (.idxc (.var 14) 1) .nil)) []) (.cst (.bl true))) (.cmp .isnot (.call 18 (.cons (.var 8) (.cons (.idxc (.var 14) 1) .nil)) []) (.cst (.bl false))))) (.cons (.ret (.cst (.bl false))) .nil) .nil) .nil)))))) .nil)))))) (.cons (.for_ (.nm 7) (.rng1 (.cst (.int 3))) (.cons (.ifs (.not (.idxT (.var 6) (.cons (.var 7) (.cons (.var 7) .nil)))) (.cons (.ret (.cst (.bl false))) .nil) .nil) (.cons (.for_ (.nm 16) (.rng1 (.cst (.int 3))) (.cons (.for_ (.nm 12) (.rng1 (.cst (.int 3))) (.cons (.ifs (.and (.idxT (.var 6) (.cons (.var 7) (.cons (.var 16) .nil))) (.and (.idxT (.var 6) (.cons (.var 16) (.cons (.var 12) .nil))) (.not (.idxT (.var 6) (.cons (.var 7) (.cons (.var 12) .nil)))))) (.cons (.ret (.cst (.bl false))) .nil) .nil) .nil)) .nil)) .nil))) (.cons (.ret (.cst (.bl true))) .nil)))))))))⟩
def rows : List DefRow := [r0, r1, r2, r3, r4, r5, r6, r7, r8, r9, r10, r11, r12, r13, r14, r15, r16, r17, r18, r19, r20, r21, r22, r23, r24, r25, r26, r27, r28, r29, r30, r31]
def fns : List FD := [f0, f1, f2, f3, f4, f5, f6, f7, f8, f9, f10, f11, f12, f13, f14, f15, f16, f17, f18, f19, f20, f21, f22, f23, f24, f25, f26, f27, f28, f29, f30, f31]
def tab : Tab := ⟨fun c d => decide ((c, d) ∈ ([(0, 0), (1, 1), (0, 1), (2, 2), (0, 2), (3, 3), (0, 3)] : List (Nat × Nat)))⟩
def G : GT := { dt := [["script", "source", "one", "two", "three", "schemes", "found", "left", "scheme", "held", "atom", "bad", "right", "other", "due", "shape", "middle"]], dn := [(["shapes", "found", "shape", "atom"], "found")], fns := [(("is_integer" : Str), (1 : Nat), ([] : List PV)), (("is_natural" : Str), (1 : Nat), ([] : List PV)), (("is_row" : Str), (2 : Nat), ([] : List PV)), (("is_ascending" : Str), (1 : Nat), ([] : List PV)), (("note_atoms" : Str), (2 : Nat), ([] : List PV)), (("atom_lot" : Str), (1 : Nat), ([] : List PV)), (("put_atoms" : Str), (2 : Nat), ([] : List PV)), (("case_dict" : Str), (3 : Nat), ([(.tup [])] : List PV)), (("table_rows" : Str), (1 : Nat), ([] : List PV)), (("next_atom" : Str), (1 : Nat), ([] : List PV)), (("is_shape" : Str), (1 : Nat), ([] : List PV)), (("check_shape" : Str), (1 : Nat), ([] : List PV)), (("held_atoms" : Str), (1 : Nat), ([] : List PV)), (("instance_dict" : Str), (2 : Nat), ([] : List PV)), (("is_atom_lot" : Str), (1 : Nat), ([] : List PV)), (("is_scheme" : Str), (1 : Nat), ([] : List PV)), (("check_scheme" : Str), (1 : Nat), ([] : List PV)), (("scheme_of" : Str), (2 : Nat), ([] : List PV)), (("is_instance" : Str), (2 : Nat), ([] : List PV)), (("is_wider" : Str), (2 : Nat), ([] : List PV)), (("_law_source" : Str), (1 : Nat), ([] : List PV)), (("_law_draw" : Str), (2 : Nat), ([] : List PV)), (("_law_same" : Str), (2 : Nat), ([] : List PV)), (("_law_any_shape" : Str), (3 : Nat), ([] : List PV)), (("_law_fill" : Str), (2 : Nat), ([] : List PV)), (("_law_atoms" : Str), (1 : Nat), ([] : List PV)), (("_law_match" : Str), (4 : Nat), ([] : List PV)), (("_law_scheme" : Str), (1 : Nat), ([] : List PV)), (("_law_instance" : Str), (3 : Nat), ([] : List PV)), (("_law_narrow" : Str), (2 : Nat), ([] : List PV)), (("_law_due" : Str), (2 : Nat), ([] : List PV)), (("law" : Str), (1 : Nat), ([] : List PV))], cons := [], excs := [(("UseError" : Str), (none : Option Str)), (("InvalidShape" : Str), (none : Option Str)), (("InvalidScheme" : Str), (none : Option Str)), (("InvalidFixed" : Str), (none : Option Str))], vals := [], hs := [], flds := [], meths := [], makes := [], cks := [], tab := tab }
theorem row0 : FnScope r0.N r0.ps r0.scope ∧ cB (cS G 60 ⟨r0.N, r0.scope, true, false, blts⟩) r0.body = some f0.body := ⟨⟨rfl, rfl, rfl, by decide +kernel, rfl, by decide +kernel, by decide +kernel⟩, by kernel_rfl⟩
theorem row1 : FnScope r1.N r1.ps r1.scope ∧ cB (cS G 60 ⟨r1.N, r1.scope, true, false, blts⟩) r1.body = some f1.body := ⟨⟨rfl, rfl, rfl, by decide +kernel, rfl, by decide +kernel, by decide +kernel⟩, by kernel_rfl⟩
theorem row2 : FnScope r2.N r2.ps r2.scope ∧ cB (cS G 60 ⟨r2.N, r2.scope, true, false, blts⟩) r2.body = some f2.body := ⟨⟨rfl, rfl, rfl, by decide +kernel, rfl, by decide +kernel, by decide +kernel⟩, by kernel_rfl⟩
theorem row3 : FnScope r3.N r3.ps r3.scope ∧ cB (cS G 60 ⟨r3.N, r3.scope, true, false, blts⟩) r3.body = some f3.body := ⟨⟨rfl, rfl, rfl, by decide +kernel, rfl, by decide +kernel, by decide +kernel⟩, by kernel_rfl⟩
theorem row4 : FnScope r4.N r4.ps r4.scope ∧ cB (cS G 60 ⟨r4.N, r4.scope, true, false, blts⟩) r4.body = some f4.body := ⟨⟨rfl, rfl, rfl, by decide +kernel, rfl, by decide +kernel, by decide +kernel⟩, by kernel_rfl⟩
theorem row5 : FnScope r5.N r5.ps r5.scope ∧ cB (cS G 60 ⟨r5.N, r5.scope, true, false, blts⟩) r5.body = some f5.body := ⟨⟨rfl, rfl, rfl, by decide +kernel, rfl, by decide +kernel, by decide +kernel⟩, by kernel_rfl⟩
theorem row6 : FnScope r6.N r6.ps r6.scope ∧ cB (cS G 60 ⟨r6.N, r6.scope, true, false, blts⟩) r6.body = some f6.body := ⟨⟨rfl, rfl, rfl, by decide +kernel, rfl, by decide +kernel, by decide +kernel⟩, by kernel_rfl⟩
theorem row7 : FnScope r7.N r7.ps r7.scope ∧ cB (cS G 60 ⟨r7.N, r7.scope, true, false, blts⟩) r7.body = some f7.body := ⟨⟨rfl, rfl, rfl, by decide +kernel, rfl, by decide +kernel, by decide +kernel⟩, by kernel_rfl⟩
theorem row8 : FnScope r8.N r8.ps r8.scope ∧ cB (cS G 60 ⟨r8.N, r8.scope, true, false, blts⟩) r8.body = some f8.body := ⟨⟨rfl, rfl, rfl, by decide +kernel, rfl, by decide +kernel, by decide +kernel⟩, by kernel_rfl⟩
theorem row9 : FnScope r9.N r9.ps r9.scope ∧ cB (cS G 60 ⟨r9.N, r9.scope, true, false, blts⟩) r9.body = some f9.body := ⟨⟨rfl, rfl, rfl, by decide +kernel, rfl, by decide +kernel, by decide +kernel⟩, by kernel_rfl⟩
theorem row10 : FnScope r10.N r10.ps r10.scope ∧ cB (cS G 60 ⟨r10.N, r10.scope, true, false, blts⟩) r10.body = some f10.body := ⟨⟨rfl, rfl, rfl, by decide +kernel, rfl, by decide +kernel, by decide +kernel⟩, by kernel_rfl⟩
theorem row11 : FnScope r11.N r11.ps r11.scope ∧ cB (cS G 60 ⟨r11.N, r11.scope, true, false, blts⟩) r11.body = some f11.body := ⟨⟨rfl, rfl, rfl, by decide +kernel, rfl, by decide +kernel, by decide +kernel⟩, by kernel_rfl⟩
theorem row12 : FnScope r12.N r12.ps r12.scope ∧ cB (cS G 60 ⟨r12.N, r12.scope, true, false, blts⟩) r12.body = some f12.body := ⟨⟨rfl, rfl, rfl, by decide +kernel, rfl, by decide +kernel, by decide +kernel⟩, by kernel_rfl⟩
theorem row13 : FnScope r13.N r13.ps r13.scope ∧ cB (cS G 60 ⟨r13.N, r13.scope, true, false, blts⟩) r13.body = some f13.body := ⟨⟨rfl, rfl, rfl, by decide +kernel, rfl, by decide +kernel, by decide +kernel⟩, by kernel_rfl⟩
theorem row14 : FnScope r14.N r14.ps r14.scope ∧ cB (cS G 60 ⟨r14.N, r14.scope, true, false, blts⟩) r14.body = some f14.body := ⟨⟨rfl, rfl, rfl, by decide +kernel, rfl, by decide +kernel, by decide +kernel⟩, by kernel_rfl⟩
theorem row15 : FnScope r15.N r15.ps r15.scope ∧ cB (cS G 60 ⟨r15.N, r15.scope, true, false, blts⟩) r15.body = some f15.body := ⟨⟨rfl, rfl, rfl, by decide +kernel, rfl, by decide +kernel, by decide +kernel⟩, by kernel_rfl⟩
theorem row16 : FnScope r16.N r16.ps r16.scope ∧ cB (cS G 60 ⟨r16.N, r16.scope, true, false, blts⟩) r16.body = some f16.body := ⟨⟨rfl, rfl, rfl, by decide +kernel, rfl, by decide +kernel, by decide +kernel⟩, by kernel_rfl⟩
theorem row17 : FnScope r17.N r17.ps r17.scope ∧ cB (cS G 60 ⟨r17.N, r17.scope, true, false, blts⟩) r17.body = some f17.body := ⟨⟨rfl, rfl, rfl, by decide +kernel, rfl, by decide +kernel, by decide +kernel⟩, by kernel_rfl⟩
theorem row18 : FnScope r18.N r18.ps r18.scope ∧ cB (cS G 60 ⟨r18.N, r18.scope, true, false, blts⟩) r18.body = some f18.body := ⟨⟨rfl, rfl, rfl, by decide +kernel, rfl, by decide +kernel, by decide +kernel⟩, by kernel_rfl⟩
theorem row19 : FnScope r19.N r19.ps r19.scope ∧ cB (cS G 60 ⟨r19.N, r19.scope, true, false, blts⟩) r19.body = some f19.body := ⟨⟨rfl, rfl, rfl, by decide +kernel, rfl, by decide +kernel, by decide +kernel⟩, by kernel_rfl⟩
theorem row20 : FnScope r20.N r20.ps r20.scope ∧ cB (cS G 60 ⟨r20.N, r20.scope, true, false, blts⟩) r20.body = some f20.body := ⟨⟨rfl, rfl, rfl, by decide +kernel, rfl, by decide +kernel, by decide +kernel⟩, by kernel_rfl⟩
theorem row21 : FnScope r21.N r21.ps r21.scope ∧ cB (cS G 60 ⟨r21.N, r21.scope, true, false, blts⟩) r21.body = some f21.body := ⟨⟨rfl, rfl, rfl, by decide +kernel, rfl, by decide +kernel, by decide +kernel⟩, by kernel_rfl⟩
theorem row22 : FnScope r22.N r22.ps r22.scope ∧ cB (cS G 60 ⟨r22.N, r22.scope, true, false, blts⟩) r22.body = some f22.body := ⟨⟨rfl, rfl, rfl, by decide +kernel, rfl, by decide +kernel, by decide +kernel⟩, by kernel_rfl⟩
theorem row23 : FnScope r23.N r23.ps r23.scope ∧ cB (cS G 60 ⟨r23.N, r23.scope, true, false, blts⟩) r23.body = some f23.body := ⟨⟨rfl, rfl, rfl, by decide +kernel, rfl, by decide +kernel, by decide +kernel⟩, by kernel_rfl⟩
theorem row24 : FnScope r24.N r24.ps r24.scope ∧ cB (cS G 60 ⟨r24.N, r24.scope, true, false, blts⟩) r24.body = some f24.body := ⟨⟨rfl, rfl, rfl, by decide +kernel, rfl, by decide +kernel, by decide +kernel⟩, by kernel_rfl⟩
theorem row25 : FnScope r25.N r25.ps r25.scope ∧ cB (cS G 60 ⟨r25.N, r25.scope, true, false, blts⟩) r25.body = some f25.body := ⟨⟨rfl, rfl, rfl, by decide +kernel, rfl, by decide +kernel, by decide +kernel⟩, by kernel_rfl⟩
theorem row26 : FnScope r26.N r26.ps r26.scope ∧ cB (cS G 60 ⟨r26.N, r26.scope, true, false, blts⟩) r26.body = some f26.body := ⟨⟨rfl, rfl, rfl, by decide +kernel, rfl, by decide +kernel, by decide +kernel⟩, by kernel_rfl⟩
theorem row27 : FnScope r27.N r27.ps r27.scope ∧ cB (cS G 60 ⟨r27.N, r27.scope, true, false, blts⟩) r27.body = some f27.body := ⟨⟨rfl, rfl, rfl, by decide +kernel, rfl, by decide +kernel, by decide +kernel⟩, by kernel_rfl⟩
theorem row28 : FnScope r28.N r28.ps r28.scope ∧ cB (cS G 60 ⟨r28.N, r28.scope, true, false, blts⟩) r28.body = some f28.body := ⟨⟨rfl, rfl, rfl, by decide +kernel, rfl, by decide +kernel, by decide +kernel⟩, by kernel_rfl⟩
theorem row29 : FnScope r29.N r29.ps r29.scope ∧ cB (cS G 60 ⟨r29.N, r29.scope, true, false, blts⟩) r29.body = some f29.body := ⟨⟨rfl, rfl, rfl, by decide +kernel, rfl, by decide +kernel, by decide +kernel⟩, by kernel_rfl⟩
theorem row30 : FnScope r30.N r30.ps r30.scope ∧ cB (cS G 60 ⟨r30.N, r30.scope, true, false, blts⟩) r30.body = some f30.body := ⟨⟨rfl, rfl, rfl, by decide +kernel, rfl, by decide +kernel, by decide +kernel⟩, by kernel_rfl⟩
theorem row31 : FnScope r31.N r31.ps r31.scope ∧ cB (cS G 60 ⟨r31.N, r31.scope, true, false, blts⟩) r31.body = some f31.body := ⟨⟨rfl, rfl, rfl, by decide +kernel, rfl, by decide +kernel, by decide +kernel⟩, by kernel_rfl⟩
theorem tab_ok : TabOk0 G blts fns rows where
  len := rfl
  row := fun i r h => by
    match i, h with
    | 0, h => cases h; exact ⟨rfl, row0.1, f0, rfl, rfl, rfl, row0.2⟩
    | 1, h => cases h; exact ⟨rfl, row1.1, f1, rfl, rfl, rfl, row1.2⟩
    | 2, h => cases h; exact ⟨rfl, row2.1, f2, rfl, rfl, rfl, row2.2⟩
    | 3, h => cases h; exact ⟨rfl, row3.1, f3, rfl, rfl, rfl, row3.2⟩
    | 4, h => cases h; exact ⟨rfl, row4.1, f4, rfl, rfl, rfl, row4.2⟩
    | 5, h => cases h; exact ⟨rfl, row5.1, f5, rfl, rfl, rfl, row5.2⟩
    | 6, h => cases h; exact ⟨rfl, row6.1, f6, rfl, rfl, rfl, row6.2⟩
    | 7, h => cases h; exact ⟨rfl, row7.1, f7, rfl, rfl, rfl, row7.2⟩
    | 8, h => cases h; exact ⟨rfl, row8.1, f8, rfl, rfl, rfl, row8.2⟩
    | 9, h => cases h; exact ⟨rfl, row9.1, f9, rfl, rfl, rfl, row9.2⟩
    | 10, h => cases h; exact ⟨rfl, row10.1, f10, rfl, rfl, rfl, row10.2⟩
    | 11, h => cases h; exact ⟨rfl, row11.1, f11, rfl, rfl, rfl, row11.2⟩
    | 12, h => cases h; exact ⟨rfl, row12.1, f12, rfl, rfl, rfl, row12.2⟩
    | 13, h => cases h; exact ⟨rfl, row13.1, f13, rfl, rfl, rfl, row13.2⟩
    | 14, h => cases h; exact ⟨rfl, row14.1, f14, rfl, rfl, rfl, row14.2⟩
    | 15, h => cases h; exact ⟨rfl, row15.1, f15, rfl, rfl, rfl, row15.2⟩
    | 16, h => cases h; exact ⟨rfl, row16.1, f16, rfl, rfl, rfl, row16.2⟩
    | 17, h => cases h; exact ⟨rfl, row17.1, f17, rfl, rfl, rfl, row17.2⟩
    | 18, h => cases h; exact ⟨rfl, row18.1, f18, rfl, rfl, rfl, row18.2⟩
    | 19, h => cases h; exact ⟨rfl, row19.1, f19, rfl, rfl, rfl, row19.2⟩
    | 20, h => cases h; exact ⟨rfl, row20.1, f20, rfl, rfl, rfl, row20.2⟩
    | 21, h => cases h; exact ⟨rfl, row21.1, f21, rfl, rfl, rfl, row21.2⟩
    | 22, h => cases h; exact ⟨rfl, row22.1, f22, rfl, rfl, rfl, row22.2⟩
    | 23, h => cases h; exact ⟨rfl, row23.1, f23, rfl, rfl, rfl, row23.2⟩
    | 24, h => cases h; exact ⟨rfl, row24.1, f24, rfl, rfl, rfl, row24.2⟩
    | 25, h => cases h; exact ⟨rfl, row25.1, f25, rfl, rfl, rfl, row25.2⟩
    | 26, h => cases h; exact ⟨rfl, row26.1, f26, rfl, rfl, rfl, row26.2⟩
    | 27, h => cases h; exact ⟨rfl, row27.1, f27, rfl, rfl, rfl, row27.2⟩
    | 28, h => cases h; exact ⟨rfl, row28.1, f28, rfl, rfl, rfl, row28.2⟩
    | 29, h => cases h; exact ⟨rfl, row29.1, f29, rfl, rfl, rfl, row29.2⟩
    | 30, h => cases h; exact ⟨rfl, row30.1, f30, rfl, rfl, rfl, row30.2⟩
    | 31, h => cases h; exact ⟨rfl, row31.1, f31, rfl, rfl, rfl, row31.2⟩
    | n + 32, h => simp [rows] at h
end K78
set_option Elab.async false
set_option linter.all false
set_option maxRecDepth 100000
/-! Pr1: reckoning with the small language's meaning: rows for simp. -/
namespace Pv
open PySem

theorem run_in {T : Tab} {fns : List FD} {k i : Nat} {args : List PV} {S : Store} {Q : PQ} {E : PX} {d : FD} (h : fns[i]? = some d) (hl : args.length = d.n)
    (b : WfS S → PV.underL S.length args = true → wpSs (runF T fns k) T d.body (startP d.N args) S { nx := fun _ S' => Gc S.length .non S' Q, rt := fun v S' => Gc S.length v S' Q } fun x _ S' => GcX S.length x S' E) : runF T fns (k + 1) i args S Q E :=
  ⟨d, h, hl, b⟩
theorem Gc.same {n : Nat} {v : PV} {S : Store} {Q : PQ} (h : Q v S) : Gc n v S Q := .inl h
theorem Gc.junk {v : PV} {S j : Store} {Q : PQ} (w : WfS S) (hv : v.under S.length = true) (h : Q v S) : Gc S.length v (S ++ j) Q := .inr ⟨S, j, rfl, rfl, w, hv, h⟩
theorem GcX.same {n : Nat} {x : PEx} {S : Store} {E : PX} (h : E x S) : GcX n x S E := .inl h

section
variable {i j : Int} {a b : Bool} {x y : Str} {xs ys : List PV} {S : Store} {Q : PQ} {v w : PV} {n m : Nat} {R : Bool → Prop} {L : List PV → Prop}
@[simp] theorem addQ_ii : addQ (.int i) (.int j) S Q = Q (.int (i + j)) S := rfl
@[simp] theorem addQ_tt : addQ (.tup xs) (.tup ys) S Q = (xs.length + ys.length ≤ sizeLine ∧ Q (.tup (xs ++ ys)) S) := rfl
@[simp] theorem addQ_ss : addQ (.str x) (.str y) S Q = (x.length + y.length ≤ sizeLine ∧ Q (.str (x ++ y)) S) := rfl
@[simp] theorem addQ_rr : addQ (.ref n) (.ref m) S Q = (∃ xs ys, S[n]? = some (.lst xs) ∧ S[m]? = some (.lst ys) ∧ xs.length + ys.length ≤ sizeLine ∧ Q (.ref S.length) (S ++ [.lst (xs ++ ys)])) := rfl
@[simp] theorem intQ_ii {C : Int → Int → Prop} {f : Int → Int → PV} : intQ C f (.int i) (.int j) S Q = (C i j ∧ Q (f i j) S) := rfl
@[simp] theorem binQ_add : binQ .add = addQ := rfl
@[simp] theorem binQ_sub : binQ .sub = intQ (fun _ _ => True) fun i j => .int (i - j) := rfl
@[simp] theorem binQ_mul : binQ .mul = mulQ := rfl
@[simp] theorem mulQ_ii : mulQ (.int i) (.int j) S Q = (L2.CMul i j ∧ Q (.int (i * j)) S) := rfl
@[simp] theorem mulQ_ti : mulQ (.tup xs) (.int j) S Q = (xs ≠ [] ∧ 2 ≤ j ∧ j ≤ 1000 ∧ xs.length ≤ 1000 ∧ Q (.tup (List.replicate j.toNat xs).flatten) S) := rfl
@[simp] theorem binQ_fdiv : binQ .fdiv = intQ L2.CDiv fun i j => .int (i / j) := rfl
@[simp] theorem binQ_mod : binQ .mod = intQ (fun _ j => 0 < j) fun i j => .int (i % j) := rfl
@[simp] theorem binQ_pow : binQ .pow = intQ L2.CPow fun i j => .int (i ^ j.toNat) := rfl
@[simp] theorem eqQ_ss {f : Bool → Bool} : eqQ f (.str x) (.str y) S Q = Q (.bl (f (decide (x = y)))) S := rfl
@[simp] theorem eqQ_ii {f : Bool → Bool} : eqQ f (.int i) (.int j) S Q = Q (.bl (f (decide (i = j)))) S := rfl
@[simp] theorem eqQ_rr {f : Bool → Bool} : eqQ f (.ref n) w S Q = (eqOkD S (.ref n) w ∧ Q (.bl (f (PyData.eqv (dataV S (.ref n)) (dataV S w)))) S) := by cases w <;> rfl
@[simp] theorem eqQ_tr {f : Bool → Bool} : eqQ f (.tup xs) (.ref n) S Q = (eqOkD S (.tup xs) (.ref n) ∧ Q (.bl (f (PyData.eqv (dataV S (.tup xs)) (dataV S (.ref n))))) S) := rfl
@[simp] theorem eqQ_tt {f : Bool → Bool} : eqQ f (.tup xs) (.tup ys) S Q = (eqOk (.tup xs) (.tup ys) ∧ Q (.bl (f (eqB (.tup xs) (.tup ys)))) S) := rfl
@[simp] theorem isQ_bb {f : Bool → Bool} : isQ f (.bl a) (.bl b) S Q = Q (.bl (f (decide (a = b)))) S := rfl
@[simp] theorem isQ_nn {f : Bool → Bool} : isQ f .non .non S Q = Q (.bl (f true)) S := rfl
@[simp] theorem isQ_nb {f : Bool → Bool} : isQ f .non (.bl b) S Q = Q (.bl (f false)) S := rfl
@[simp] theorem isQ_bn {f : Bool → Bool} : isQ f (.bl b) .non S Q = Q (.bl (f false)) S := rfl
@[simp] theorem isQ_in {f : Bool → Bool} : isQ f (.int i) .non S Q = Q (.bl (f false)) S := rfl
@[simp] theorem isQ_sn {f : Bool → Bool} : isQ f (.str x) .non S Q = Q (.bl (f false)) S := rfl
@[simp] theorem isQ_tn {f : Bool → Bool} : isQ f (.tup xs) .non S Q = Q (.bl (f false)) S := rfl
@[simp] theorem isQ_rn {f : Bool → Bool} : isQ f (.ref n) .non S Q = Q (.bl (f false)) S := rfl
@[simp] theorem isQ_ib {f : Bool → Bool} : isQ f (.int i) (.bl b) S Q = Q (.bl (f false)) S := rfl
@[simp] theorem isQ_sb {f : Bool → Bool} : isQ f (.str x) (.bl b) S Q = Q (.bl (f false)) S := rfl
@[simp] theorem isQ_tb {f : Bool → Bool} : isQ f (.tup xs) (.bl b) S Q = Q (.bl (f false)) S := rfl
@[simp] theorem isQ_rb {f : Bool → Bool} : isQ f (.ref n) (.bl b) S Q = Q (.bl (f false)) S := rfl
@[simp] theorem inQ_t {f : Bool → Bool} : inQ f v (.tup xs) S Q = inAny v xs S fun b => Q (.bl (f b)) S := by cases v <;> rfl
@[simp] theorem inQ_r {f : Bool → Bool} : inQ f v (.ref n) S Q = (∃ o, S[n]? = some o ∧ o.inQ v S fun b => Q (.bl (f b)) S) := by cases v <;> rfl
@[simp] theorem cmpQ_eq : cmpQ .eq = eqQ fun b => b := rfl
@[simp] theorem cmpQ_ne : cmpQ .ne = eqQ fun b => !b := rfl
@[simp] theorem cmpQ_lt : cmpQ .lt = ltQ := rfl
@[simp] theorem ltQ_ii : ltQ (.int i) (.int j) S Q = Q (.bl (decide (i < j))) S := rfl
@[simp] theorem ltQ_tt : ltQ (.tup xs) (.tup ys) S Q = (∃ ns ms : List Int, xs = ns.map .int ∧ ys = ms.map .int ∧ Q (.bl (decide (ns < ms))) S) := rfl
@[simp] theorem cmpQ_le : cmpQ .le = intQ (fun _ _ => True) fun i j => .bl (decide (i ≤ j)) := rfl
@[simp] theorem cmpQ_gt : cmpQ .gt = intQ (fun _ _ => True) fun i j => .bl (decide (j < i)) := rfl
@[simp] theorem cmpQ_ge : cmpQ .ge = intQ (fun _ _ => True) fun i j => .bl (decide (j ≤ i)) := rfl
@[simp] theorem cmpQ_is : cmpQ .is = isQ fun b => b := rfl
@[simp] theorem cmpQ_isnot : cmpQ .isnot = isQ fun b => !b := rfl
@[simp] theorem cmpQ_isin : cmpQ .isin = inQ fun b => b := rfl
@[simp] theorem cmpQ_notin : cmpQ .notin = inQ fun b => !b := rfl
@[simp] theorem truQ_b : truQ (.bl b) S R = R b := rfl
@[simp] theorem truQ_n : truQ .non S R = R false := rfl
@[simp] theorem truQ_i : truQ (.int i) S R = R (i != 0) := rfl
@[simp] theorem truQ_t : truQ (.tup xs) S R = R (!xs.isEmpty) := rfl
@[simp] theorem truQ_r : truQ (.ref n) S R = (∃ o, S[n]? = some o ∧ o.sq = true ∧ R (!o.items.isEmpty)) := rfl
@[simp] theorem seqQ_t : seqQ (.tup xs) S L = L xs := rfl
@[simp] theorem seqQ_r : seqQ (.ref n) S L = (∃ o, S[n]? = some o ∧ o.sq = true ∧ L o.items) := rfl
@[simp] theorem items_lst : (Mo.lst xs).items = xs := rfl
@[simp] theorem items_frz : (Mo.frz xs).items = xs := rfl
@[simp] theorem idxcQ_t : idxcQ m (.tup xs) S Q = (∃ x, xs[m]? = some x ∧ Q x S) := rfl
@[simp] theorem idxcQ_r : idxcQ m (.ref n) S Q = (∃ o, S[n]? = some o ∧ o.sq = true ∧ ∃ x, o.items[m]? = some x ∧ Q x S) := rfl
@[simp] theorem idxQ_t : idxQ (.tup xs) (.int i) S Q = (∃ x, atPV xs i = some x ∧ Q x S) := rfl
@[simp] theorem idxQ_r : idxQ (.ref n) v S Q = (∃ o, S[n]? = some o ∧ o.atQ v fun x => Q x S) := by cases v <;> rfl
@[simp] theorem idxQ_s : idxQ (.str x) (.int i) S Q = (x.length ≤ sizeLine ∧ ∃ c, L2.atI x.cps.toList i = some c ∧ Q (.str ⟨#[c]⟩) S) := rfl
variable {kvs : List (L2.Key × PV)} {RV : PV → Prop} {RM : Mo → Prop} {RO : Option PV → Prop} {RS : Store → Prop} {kk : L2.Key} {z : PV}
@[simp] theorem atQ_l : (Mo.lst xs).atQ (.int i) RV = (∃ x, atPV xs i = some x ∧ RV x) := rfl
@[simp] theorem atQ_f : (Mo.frz xs).atQ (.int i) RV = (∃ x, atPV xs i = some x ∧ RV x) := rfl
@[simp] theorem atQ_d : (Mo.dct kvs).atQ v RV = (∃ k x, keyOf v = some k ∧ getP kvs k = some x ∧ RV x) := by cases v <;> rfl
@[simp] theorem putQ_l : (Mo.lst xs).putQ (.int i) v RM = (∃ j, L2.ixN xs.length i = some j ∧ RM (.lst (xs.set j v))) := rfl
@[simp] theorem putQ_d : (Mo.dct kvs).putQ w v RM = (∃ k, keyOf w = some k ∧ kvs.length < sizeLine ∧ RM (.dct (putP kvs k v))) := by cases w <;> rfl
@[simp] theorem inQ_l : (Mo.lst xs).inQ v S R = inAny v xs S R := rfl
@[simp] theorem inQ_f : (Mo.frz xs).inQ v S R = inAny v xs S R := rfl
@[simp] theorem inQ_d : (Mo.dct kvs).inQ v S R = (∃ k, keyOf v = some k ∧ R (getP kvs k).isSome) := rfl
@[simp] theorem sq_l : (Mo.lst xs).sq = true := rfl
@[simp] theorem sq_f : (Mo.frz xs).sq = true := rfl
@[simp] theorem sq_d : (Mo.dct kvs).sq = false := rfl
@[simp] theorem obj_l : (Mo.lst xs).obj = false := rfl
@[simp] theorem obj_f : (Mo.frz xs).obj = false := rfl
@[simp] theorem obj_d : (Mo.dct kvs).obj = false := rfl
@[simp] theorem its_l : (Mo.lst xs).its = xs := rfl
@[simp] theorem its_f : (Mo.frz xs).its = xs := rfl
@[simp] theorem its_d : (Mo.dct kvs).its = keysP kvs := rfl
@[simp] theorem keyOf_i : keyOf (.int i) = some (.inl i) := rfl
@[simp] theorem keyOf_s : keyOf (.str x) = some (.inr x) := rfl
@[simp] theorem dget_r : dgetQ (.ref n) w S RO = (∃ kvs k, S[n]? = some (.dct kvs) ∧ keyOf w = some k ∧ RO (getP kvs k)) := rfl
@[simp] theorem dput_r : dputQ (.ref n) w v S RS = (∃ kvs k, S[n]? = some (.dct kvs) ∧ keyOf w = some k ∧ kvs.length < sizeLine ∧ RS (S.set n (.dct (putP kvs k v)))) := rfl
@[simp] theorem isD_r : isDQ (.ref n) S = (∃ kvs, S[n]? = some (.dct kvs)) := rfl
@[simp] theorem rev_t : revQ (.tup xs) S Q = Q (.tup xs.reverse) S := rfl
@[simp] theorem rev_r : revQ (.ref n) S Q = (∃ o, S[n]? = some o ∧ o.sq = true ∧ Q (.ref S.length) (S ++ [.lst o.items.reverse])) := rfl
@[simp] theorem aug_a : augQ .add (.int i) (.int j) S Q = Q (.int (i + j)) S := by simp [augQ, intQ]
@[simp] theorem aug_s : augQ .sub (.int i) (.int j) S Q = Q (.int (i - j)) S := by simp [augQ, intQ]
@[simp] theorem getP_nil : getP [] kk = none := rfl
@[simp] theorem getP_cons {j : L2.Key} : getP ((j, v) :: kvs) kk = if j = kk then some v else getP kvs kk := rfl
@[simp] theorem setP_nil : setP kk v [] = [] := rfl
@[simp] theorem setP_cons {j : L2.Key} : setP kk v ((j, w) :: kvs) = if j = kk then (j, v) :: setP kk v kvs else (j, w) :: setP kk v kvs := rfl
@[simp] theorem putP_eq : putP kvs kk v = if (getP kvs kk).isSome then setP kk v kvs else kvs ++ [(kk, v)] := rfl
@[simp] theorem mkD_nil {acc : List (L2.Key × PV)} : mkD [] xs acc = acc := by cases xs <;> rfl
@[simp] theorem mkD_cons {acc : List (L2.Key × PV)} {ks : List L2.Key} : mkD (kk :: ks) (v :: xs) acc = mkD ks xs (putP acc kk v) := rfl
@[simp] theorem sliceQ_t {lo hi : Option Int} : sliceQ (.tup xs) lo hi S Q = Q (.tup (cutPV xs lo hi)) S := rfl
@[simp] theorem sliceQ_r {lo hi : Option Int} : sliceQ (.ref n) lo hi S Q = (∃ o, S[n]? = some o ∧ o.sq = true ∧ Q (.ref S.length) (S ++ [.lst (cutPV o.items lo hi)])) := rfl
@[simp] theorem ty_ii : Ty.b .tInt (.int i) S R = R true := rfl
@[simp] theorem ty_ib : Ty.b .tInt (.bl b) S R = R true := rfl
@[simp] theorem ty_in : Ty.b .tInt .non S R = R false := rfl
@[simp] theorem ty_is : Ty.b .tInt (.str x) S R = R false := rfl
@[simp] theorem ty_it : Ty.b .tInt (.tup xs) S R = R false := rfl
@[simp] theorem ty_bi : Ty.b .tBool (.int i) S R = R false := rfl
@[simp] theorem ty_bb : Ty.b .tBool (.bl b) S R = R true := rfl
@[simp] theorem ty_bn : Ty.b .tBool .non S R = R false := rfl
@[simp] theorem ty_bs : Ty.b .tBool (.str x) S R = R false := rfl
@[simp] theorem ty_bt : Ty.b .tBool (.tup xs) S R = R false := rfl
@[simp] theorem ty_si : Ty.b .tStr (.int i) S R = R false := rfl
@[simp] theorem ty_sb : Ty.b .tStr (.bl b) S R = R false := rfl
@[simp] theorem ty_sn : Ty.b .tStr .non S R = R false := rfl
@[simp] theorem ty_ss : Ty.b .tStr (.str x) S R = R true := rfl
@[simp] theorem ty_st : Ty.b .tStr (.tup xs) S R = R false := rfl
@[simp] theorem ty_ti : Ty.b .tTuple (.int i) S R = R false := rfl
@[simp] theorem ty_tb : Ty.b .tTuple (.bl b) S R = R false := rfl
@[simp] theorem ty_tn : Ty.b .tTuple .non S R = R false := rfl
@[simp] theorem ty_ts : Ty.b .tTuple (.str x) S R = R false := rfl
@[simp] theorem ty_tt : Ty.b .tTuple (.tup xs) S R = R true := rfl
@[simp] theorem ty_li : Ty.b .tList (.int i) S R = R false := rfl
@[simp] theorem ty_lb : Ty.b .tList (.bl b) S R = R false := rfl
@[simp] theorem ty_ln : Ty.b .tList .non S R = R false := rfl
@[simp] theorem ty_ls : Ty.b .tList (.str x) S R = R false := rfl
@[simp] theorem ty_lt : Ty.b .tList (.tup xs) S R = R false := rfl
@[simp] theorem ty_r {t : Ty} : Ty.b t (.ref n) S R = (∃ o, S[n]? = some o ∧ o.sq = true ∧ R (decide (t = .tList))) := by cases t <;> rfl
@[simp] theorem biQ_lens : biQ .len [.str x] S Q = (x.length ≤ sizeLine ∧ Q (.int (x.length : Nat)) S) := rfl
@[simp] theorem biQ_lent : biQ .len [.tup xs] S Q = Q (.int (xs.length : Nat)) S := rfl
@[simp] theorem biQ_lenr : biQ .len [.ref n] S Q = (∃ o, S[n]? = some o ∧ o.obj = false ∧ Q (.int (o.its.length : Nat)) S) := rfl
@[simp] theorem biQ_max : biQ .max2 [.int i, .int j] S Q = Q (.int (if j > i then j else i)) S := rfl
@[simp] theorem biQ_min : biQ .min2 [.int i, .int j] S Q = Q (.int (if j < i then j else i)) S := rfl
@[simp] theorem biQ_int : biQ .int1 [.int i] S Q = Q (.int i) S := rfl
@[simp] theorem biQ_intb : biQ .int1 [.bl b] S Q = Q (.int (if b then 1 else 0)) S := rfl
@[simp] theorem biQ_listt : biQ .list1 [.tup xs] S Q = Q (.ref S.length) (S ++ [.lst xs]) := rfl
@[simp] theorem biQ_listr : biQ .list1 [.ref n] S Q = (∃ o, S[n]? = some o ∧ o.obj = false ∧ Q (.ref S.length) (S ++ [.lst o.its])) := rfl
@[simp] theorem biQ_sorted : biQ .sorted1 [.ref n] S Q = ((∃ o, S[n]? = some o ∧ o.obj = false ∧ ∃ ns, intsP o.its = some ns ∧ (o.sq = true ∨ ns.length < 64) ∧ Q (.ref S.length) (S ++ [.lst ((sortI ns).map .int)])) ∨ (∃ pss : List (List Int), S[n]? = some (.lst (pss.map tupI)) ∧ Q (.ref S.length) (S ++ [.lst ((pss.mergeSort fun x y => decide (x ≤ y)).map tupI)])) ∨
    ∃ ps : List (Int × PV), S[n]? = some (.lst (ps.map pairI)) ∧ (ps.map (·.1)).Nodup ∧ Q (.ref S.length) (S ++ [.lst ((sortPs ps).map pairI)])) := rfl
@[simp] theorem biQ_dictt : biQ .dict1 [.tup xs] S Q = (∃ kvs, pairsP xs = some kvs ∧ Q (.ref S.length) (S ++ [.dct (mergeP [] kvs)])) := rfl
@[simp] theorem biQ_dictr : biQ .dict1 [.ref n] S Q = (∃ kvs, S[n]? = some (.dct kvs) ∧ Q (.ref S.length) (S ++ [.dct kvs])) := rfl
@[simp] theorem lockQ_r {R : Nat → List (L2.Key × PV) → Prop} : lockQ (.ref n) S R = (∃ kvs, S[n]? = some (.dct kvs) ∧ R n kvs) := rfl
@[simp] theorem dkQ_r {R : Nat → List (L2.Key × PV) → Obj × List (L2.Key × L2.V) → Prop} : dkQ (.ref n) S R = (∃ kvs g, S[n]? = some (.dctF kvs g) ∧ R n kvs g) := rfl
@[simp] theorem biQ_max1 : biQ .max1 [.ref n] S Q = (∃ o, S[n]? = some o ∧ o.sq = true ∧ ∃ ns m, intsP o.items = some ns ∧ maxL ns = some m ∧ Q (.int m) S) := rfl
@[simp] theorem biQ_min1 : biQ .min1 [.ref n] S Q = (∃ o, S[n]? = some o ∧ o.sq = true ∧ ∃ ns m, intsP o.items = some ns ∧ minL ns = some m ∧ Q (.int m) S) := rfl
@[simp] theorem biQ_tuple : biQ .tuple1 [v] S Q = seqQ v S fun xs => Q (.tup xs) S := rfl
@[simp] theorem biQ_all : biQ .all1 [.ref n] S Q = (∃ o, S[n]? = some o ∧ o.sq = true ∧ ∃ b, allBl o.items = some b ∧ Q (.bl b) S) := rfl
@[simp] theorem biQ_any : biQ .any1 [.ref n] S Q = (∃ o, S[n]? = some o ∧ o.sq = true ∧ ∃ b, anyBl o.items = some b ∧ Q (.bl b) S) := rfl
@[simp] theorem biQ_sum : biQ .sum1 [.ref n] S Q = (∃ o, S[n]? = some o ∧ o.sq = true ∧ ∃ b, sumI o.items = some b ∧ Q (.int b) S) := rfl
@[simp] theorem mtQ_app : mtQ .append n [v] S Q = (∃ xs, S[n]? = some (.lst xs) ∧ xs.length < sizeLine ∧ Q .non (S.set n (.lst (xs ++ [v])))) := rfl
@[simp] theorem mtQ_ix : mtQ .index n [v] S Q = (∃ o, S[n]? = some o ∧ o.sq = true ∧ inOk v o.items ∧ ∃ j, o.items.findIdx? (fun z => eqF z v) = some j ∧ Q (.int (j : Nat)) S) := rfl
@[simp] theorem mtQ_cnt : mtQ .count n [v] S Q = (∃ o, S[n]? = some o ∧ o.sq = true ∧ inOk v o.items ∧ Q (.int ((o.items.countP fun z => eqF z v : Nat))) S) := rfl
@[simp] theorem mtQ_extT {ys : List PV} : mtQ .extend n [.tup ys] S Q = (∃ xs, S[n]? = some (.lst xs) ∧ xs.length + ys.length ≤ sizeLine ∧ Q .non (S.set n (.lst (xs ++ ys)))) := rfl
@[simp] theorem mtQ_ext : mtQ .extend n [.ref m] S Q = (∃ xs ys, S[n]? = some (.lst xs) ∧ S[m]? = some (.lst ys) ∧ xs.length + ys.length ≤ sizeLine ∧ Q .non (S.set n (.lst (xs ++ ys)))) := rfl
@[simp] theorem mtQ_pop : mtQ .pop n [] S Q = (∃ xs y, S[n]? = some (.lst xs) ∧ xs[xs.length - 1]? = some y ∧ Q y (S.set n (.lst xs.dropLast))) := rfl
variable {SI : Src → List PV → Prop}
@[simp] theorem iterQ_t : iterQ (.tup xs) S SI = SI [] xs := rfl
@[simp] theorem iterQ_r : iterQ (.ref n) S SI = (∃ o, S[n]? = some o ∧ o.sq = true ∧ SI [(n, o)] o.items) := rfl
@[simp] theorem enumQ_t : enumQ (.tup xs) S SI = SI [] (enumL 0 xs) := rfl
@[simp] theorem enumQ_r : enumQ (.ref n) S SI = (∃ o, S[n]? = some o ∧ o.sq = true ∧ SI [(n, o)] (enumL 0 o.items)) := rfl
@[simp] theorem zipQ_t : zipQ (.tup xs) (.tup ys) S SI = SI [] (zipL xs ys) := rfl
@[simp] theorem zipQ_r : zipQ (.ref n) (.ref m) S SI = (∃ o u, S[n]? = some o ∧ S[m]? = some u ∧ o.sq = true ∧ u.sq = true ∧ SI [(n, o), (m, u)] (zipL o.items u.items)) := rfl
variable {ρ : Env} {K : Env → Prop} {P : PV → Prop} {is : List Nat} {KS : Store → Prop}
@[simp] theorem bindQ_n : bindQ (.nm n) v ρ S K = K (ρ.set n (some v)) := rfl
@[simp] theorem bindQ_t : bindQ (.tp is) (.tup xs) ρ S K = (xs.length = is.length ∧ K (setAll is xs ρ)) := rfl
@[simp] theorem bindQ_r : bindQ (.tp is) (.ref n) ρ S K = (∃ o, S[n]? = some o ∧ o.sq = true ∧ o.items.length = is.length ∧ K (setAll is o.items ρ)) := rfl
@[simp] theorem setAll_nil : setAll [] xs ρ = ρ := by cases xs <;> rfl
@[simp] theorem setAll_cons : setAll (n :: is) (v :: xs) ρ = setAll is xs (ρ.set n (some v)) := rfl
@[simp] theorem asgQ_r : asgQ (.ref n) w v S KS = (∃ o, S[n]? = some o ∧ o.putQ w v fun o' => KS (S.set n o')) := by cases w <;> rfl
@[simp] theorem varQ_0 {o : Option PV} : varQ 0 (o :: ρ) P = match o with | some v => P v | none => False := by cases o <;> rfl
@[simp] theorem varQ_s {o : Option PV} : varQ (n + 1) (o :: ρ) P = varQ n ρ P := by unfold varQ; rw [List.getElem?_cons_succ]
@[simp] theorem fnQ_nil {R : Nat → List PV → Prop} : fnQ [] v R = False := rfl
@[simp] theorem fnQ_cons {R : Nat → List PV → Prop} {y : Str} {j : Nat} {ds : List PV} {r : List (Str × Nat × List PV)} : fnQ ((y, j, ds) :: r) (.fn x) R = if y = x then R j ds else fnQ r (.fn x) R := rfl
@[simp] theorem ixN_0 : L2.ixN n 0 = if 0 < n then some 0 else none := by unfold L2.ixN; cases n <;> simp
@[simp] theorem ixN_1 : L2.ixN n 1 = if 1 < n then some 1 else none := by unfold L2.ixN; simp; norm_cast
@[simp] theorem ixN_2 : L2.ixN n 2 = if 2 < n then some 2 else none := by unfold L2.ixN; simp; norm_cast
@[simp] theorem ixN_3 : L2.ixN n 3 = if 3 < n then some 3 else none := by unfold L2.ixN; simp; norm_cast
@[simp] theorem ixN_4 : L2.ixN n 4 = if 4 < n then some 4 else none := by unfold L2.ixN; simp; norm_cast
end
theorem ixN_lt {n : Nat} {p : Int} (h0 : 0 ≤ p) (h : p < n) : L2.ixN n p = some p.toNat := by
  unfold L2.ixN
  rw [if_pos h0, if_pos h]
theorem atPV_lt {xs : List PV} {p : Int} (h0 : 0 ≤ p) (h : p < xs.length) : atPV xs p = xs[p.toNat]? := by
  unfold atPV L2.atI
  rw [ixN_lt h0 h]
  rfl
end Pv
set_option Elab.async false
set_option linter.all false
set_option maxRecDepth 100000
/-! Pr3: values that are data, cuts, comprehensions that leave the store. -/
namespace Pv
open PySem
/-- data: no references, tuples not too long, at most n deep -/
inductive Gd : Nat → PV → Prop where
  | non {n} : Gd n .non
  | bl {n} (b : Bool) : Gd n (.bl b)
  | int {n} (i : Int) : Gd n (.int i)
  | str {n} (x : Str) : PyData.strOk x = true → Gd n (.str x)
  | tup {n} (xs : List PV) : xs.length ≤ 1000000 → (∀ x, x ∈ xs → Gd n x) → Gd (n + 1) (.tup xs)
theorem Gd.mono {n m : Nat} {v : PV} (g : Gd n v) : n ≤ m → Gd m v := by
  induction g generalizing m with
  | non => intro _; exact .non
  | bl => intro _; exact .bl _
  | int => intro _; exact .int _
  | str x h => intro _; exact .str _ h
  | @tup n xs l h ih =>
    intro hm
    obtain ⟨m, rfl⟩ : ∃ j, m = j + 1 := ⟨m - 1, by omega⟩
    exact .tup xs l fun x hx => ih x hx (by omega)
theorem toDs_canLay : ∀ xs : List PV, (∀ x, x ∈ xs → x.toD.canLay0 = true) → PyData.canLayAll0 (PV.toDs xs) = true
  | [], _ => rfl
  | x :: xs, h => by
    simp only [PV.toDs, PyData.canLayAll0, Bool.and_eq_true]
    exact ⟨h x (.head _), toDs_canLay xs fun y hy => h y (.tail _ hy)⟩
theorem Gd.canLay {n : Nat} {v : PV} (g : Gd n v) : v.toD.canLay0 = true := by
  induction g with
  | non => rfl
  | bl => rfl
  | int => rfl
  | str x h => exact h
  | tup xs l h ih => exact toDs_canLay xs ih
theorem toDs_depth {k : Nat} : ∀ xs : List PV, (∀ x, x ∈ xs → x.toD.depth ≤ k) → PyData.depthAll (PV.toDs xs) ≤ k
  | [], _ => Nat.zero_le _
  | x :: xs, h => by
    simp only [PV.toDs, PyData.depthAll]
    exact Nat.max_le.2 ⟨h x (.head _), toDs_depth xs fun y hy => h y (.tail _ hy)⟩
theorem Gd.depth {n : Nat} {v : PV} (g : Gd n v) : v.toD.depth ≤ n + 1 := by
  induction g with
  | non => simp [PV.toD, PyData.depth]
  | bl => simp [PV.toD, PyData.depth]
  | int => simp [PV.toD, PyData.depth]
  | str x h => simp [PV.toD, PyData.depth]
  | tup xs l h ih =>
    have := toDs_depth xs ih
    simp only [PV.toD, PyData.depth]
    omega
theorem underL_of {n : Nat} : ∀ xs : List PV, (∀ x, x ∈ xs → x.under n = true) → PV.underL n xs = true
  | [], _ => by simp [PV.underL]
  | x :: xs, h => by
    simp only [PV.underL, Bool.and_eq_true]
    exact ⟨h x (.head _), underL_of xs fun y hy => h y (.tail _ hy)⟩
theorem Gd.under {n : Nat} {v : PV} (m : Nat) (g : Gd n v) : v.under m = true := by
  induction g with
  | non => simp [PV.under]
  | bl => simp [PV.under]
  | int => simp [PV.under]
  | str x h => simp [PV.under]
  | tup xs l h ih => simp only [PV.under]; exact underL_of xs ih
theorem Gd.eqOk {n m : Nat} {v w : PV} (g : Gd n v) (h : Gd m w) (hn : min n m ≤ 189) : eqOk v w :=
  ⟨g.canLay, h.canLay, by have := g.depth; have := h.depth; omega⟩
theorem zip_self : ∀ xs : List PV, zipL xs xs = xs.map fun x => .tup [x, x]
  | [] => rfl
  | x :: xs => by simp only [zipL, List.map_cons, zip_self xs]
/-- a comprehension whose turns leave the store as it is, each turn gives f -/
theorem lc_map {src : Src} {d : Nat} {turn : PV → Store → (Option PV → Store → Prop) → Prop} {Q : PQ} {S0 : Store} (f : PV → PV) (hd : d = S0.length) (hs : ∀ acc, srcOk src (S0 ++ [.lst acc])) :
    ∀ (xs acc : List PV), acc.length + xs.length ≤ sizeLine → (∀ x, x ∈ xs → ∀ acc K, K (some (f x)) (S0 ++ [.lst acc]) → turn x (S0 ++ [.lst acc]) K) → Q (.ref d) (S0 ++ [.lst (acc ++ xs.map f)]) → lcLoop src d turn Q xs (S0 ++ [.lst acc])
  | [], acc, _, _, q => ⟨hs acc, by simpa using q⟩
  | x :: xs, acc, hl, ht, q => by
    refine ⟨hs acc, ht x (.head _) acc _ ?_⟩
    refine ⟨acc, by simp [hd], by simp at hl; omega, ?_⟩
    rw [hd, List.set_append_right _ _ (Nat.le_refl _), Nat.sub_self, List.set_cons_zero, ← hd]
    exact lc_map f hd hs xs _ (by simp at hl ⊢; omega) (fun y hy => ht y (.tail _ hy)) (by simpa using q)
theorem allBl_true : ∀ xs : List PV, allBl (xs.map fun _ => .bl true) = some true
  | [] => rfl
  | x :: xs => by simp [allBl, allBl_true xs]
theorem cut_tail (x : PV) (xs : List PV) : cutPV (x :: xs) (some 1) none = xs := by
  have h : HT.sIx (x :: xs).length 0 (some 1) = 1 := by
    rw [show (1 : Int) = ((1 : Nat) : Int) from rfl, HT.sIx_nat]; simp
  unfold cutPV
  rw [h, HT.sIx_none]
  simp
theorem cut_set {xs : List PV} {i : Nat} (h : i < xs.length) (v : PV) : cutPV xs none (some (i : Int)) ++ v :: cutPV xs (some ((i : Int) + 1)) none = xs.set i v := by
  have h1 : HT.sIx xs.length xs.length (some (i : Int)) = i := by rw [HT.sIx_nat]; omega
  have h2 : HT.sIx xs.length 0 (some ((i : Int) + 1)) = i + 1 := by
    rw [show (i : Int) + 1 = ((i + 1 : Nat) : Int) from by omega, HT.sIx_nat]; omega
  unfold cutPV
  rw [h1, h2, HT.sIx_none, HT.sIx_none]
  simp only [List.drop_zero, Nat.sub_zero]
  rw [List.set_eq_take_append_cons_drop, if_pos h, List.take_of_length_le (l := List.drop (i + 1) xs) (by simp)]
theorem cut_len1 {xs : List PV} {i : Nat} (h : i < xs.length) : (cutPV xs none (some (i : Int))).length = i := by
  have h1 : HT.sIx xs.length xs.length (some (i : Int)) = i := by rw [HT.sIx_nat]; omega
  unfold cutPV
  rw [h1, HT.sIx_none]
  simp; omega
theorem cut_len2 {xs : List PV} {i : Nat} (h : i < xs.length) : (cutPV xs (some ((i : Int) + 1)) none).length = xs.length - (i + 1) := by
  have h2 : HT.sIx xs.length 0 (some ((i : Int) + 1)) = i + 1 := by
    rw [show (i : Int) + 1 = ((i + 1 : Nat) : Int) from by omega, HT.sIx_nat]; omega
  unfold cutPV
  rw [h2, HT.sIx_none]
  simp
theorem atPV_map {α : Type} {f : α → PV} {xs : List α} {i : Nat} (h : i < xs.length) : atPV (xs.map f) (i : Int) = some (f xs[i]) := by
  rw [atPV_lt (by omega) (by simp; omega)]
  simp [h]
theorem at_map {α : Type} {f : α → PV} {xs : List α} {i : Nat} {d : α} (h : i < xs.length) : atPV (xs.map f) (i : Int) = some (f (xs.getD i d)) := by
  rw [atPV_map h]
  simp [List.getD, h]
theorem at_map2 {α : Type} {f : α → PV} {xs : List α} {i : Int} {d : α} (h0 : 0 ≤ i) (h : i < xs.length) : atPV (xs.map f) i = some (f (xs.getD i.toNat d)) := by
  obtain ⟨n, rfl⟩ : ∃ n : Nat, i = n := ⟨i.toNat, by omega⟩
  simpa using at_map (d := d) (f := f) (xs := xs) (i := n) (by omega)
theorem while_ind {t : Env → Store → (Bool → Store → Prop) → Prop} {b : Env → Store → (Env → Store → Prop) → Prop} {Q : Env → Store → Prop} {I : Nat → Env → Store → Prop}
    (h : ∀ n ρ S, I n ρ S → ∀ K : Env → Store → Prop, (∀ ρ' S' j, n = j + 1 → I j ρ' S' → K ρ' S') → t ρ S fun k S1 => if k = true then b ρ S1 K else Q ρ S1) : ∀ n ρ S, I n ρ S → whileN t b Q (n + 1) ρ S
  | 0, ρ, S, hi => h 0 ρ S hi _ fun _ _ j e => absurd e (by omega)
  | n + 1, ρ, S, hi => h (n + 1) ρ S hi _ fun ρ' S' j e hj => by
    obtain rfl : n = j := by omega
    exact while_ind h n ρ' S' hj
theorem for_ind {src : Src} {turn : PV → Env → Store → (Env → Store → Prop) → Prop} {Q : Env → Store → Prop} {I : List PV → Env → Store → Prop}
    (h : ∀ x xs ρ S, I (x :: xs) ρ S → srcOk src S ∧ ∀ K : Env → Store → Prop, (∀ ρ' S', I xs ρ' S' → K ρ' S') → turn x ρ S K) (h0 : ∀ ρ S, I [] ρ S → srcOk src S ∧ Q ρ S) : ∀ xs ρ S, I xs ρ S → forL src turn Q xs ρ S
  | [], ρ, S, hi => h0 ρ S hi
  | x :: xs, ρ, S, hi => ⟨(h x xs ρ S hi).1, (h x xs ρ S hi).2 _ fun ρ' S' hi' => for_ind h h0 xs ρ' S' hi'⟩
end Pv
set_option Elab.async false
set_option linter.all false
set_option maxRecDepth 100000
/-! Pr5: == of small tuples. -/
namespace Pv
open PySem
def eqBL (xs ys : List PV) : Bool := eqB (.tup xs) (.tup ys)
theorem eqB_tt {xs ys : List PV} : eqB (.tup xs) (.tup ys) = eqBL xs ys := rfl
@[simp] theorem eqBL_nil : eqBL [] [] = true := by simp [eqBL, eqB, PV.toD, PV.toDs, PyData.eqv, PyData.eqvAll]
@[simp] theorem eqBL_nc {y : PV} {ys : List PV} : eqBL [] (y :: ys) = false := by simp [eqBL, eqB, PV.toD, PV.toDs, PyData.eqv, PyData.eqvAll]
@[simp] theorem eqBL_cn {y : PV} {ys : List PV} : eqBL (y :: ys) [] = false := by simp [eqBL, eqB, PV.toD, PV.toDs, PyData.eqv, PyData.eqvAll]
@[simp] theorem eqBL_cc {x y : PV} {xs ys : List PV} : eqBL (x :: xs) (y :: ys) = (eqB x y && eqBL xs ys) := by simp [eqBL, eqB, PV.toD, PV.toDs, PyData.eqv, PyData.eqvAll]
@[simp] theorem eqB_ii {i j : Int} : eqB (.int i) (.int j) = decide (i = j) := by simp only [eqB, PV.toD, PyData.eqv]; rfl
@[simp] theorem eqB_ss {i j : Str} : eqB (.str i) (.str j) = decide (i = j) := by simp only [eqB, PV.toD, PyData.eqv]; rfl
@[simp] theorem eqB_is {i : Int} {j : Str} : eqB (.int i) (.str j) = false := by simp [eqB, PV.toD, PyData.eqv]
@[simp] theorem eqB_si {i : Int} {j : Str} : eqB (.str j) (.int i) = false := by simp [eqB, PV.toD, PyData.eqv]
@[simp] theorem eqB_ti {i : Int} {xs : List PV} : eqB (.tup xs) (.int i) = false := by simp [eqB, PV.toD, PyData.eqv]
@[simp] theorem eqB_it {i : Int} {xs : List PV} : eqB (.int i) (.tup xs) = false := by simp [eqB, PV.toD, PyData.eqv]
@[simp] theorem eqB_ts {i : Str} {xs : List PV} : eqB (.tup xs) (.str i) = false := by simp [eqB, PV.toD, PyData.eqv]
@[simp] theorem eqB_st {i : Str} {xs : List PV} : eqB (.str i) (.tup xs) = false := by simp [eqB, PV.toD, PyData.eqv]
@[simp] theorem eqB_bi {i : Int} {b : Bool} : eqB (.bl b) (.int i) = decide ((if b then 1 else 0) = i) := by cases b <;> (simp only [eqB, PV.toD, PyData.eqv]; rfl)
theorem eqB_tup {xs ys : List PV} : eqB (.tup xs) (.tup ys) = eqBL xs ys := rfl
end Pv
set_option Elab.async false
set_option linter.all false
/-! Lt0: lambda terms: plain laws, no program in sight. -/
namespace Pv
inductive Tm where
  | v (i : Int) | l (b : Tm) | a (f x : Tm)
  deriving Inhabited, DecidableEq
namespace Tm
def dep : Tm → Nat
  | v _ => 1
  | l b => b.dep + 1
  | a f x => max f.dep x.dep + 1
def ok : Tm → Prop
  | v i => 0 ≤ i
  | l b => b.ok
  | a f x => f.ok ∧ x.ok
def size : Tm → Int
  | v _ => 1
  | l b => 1 + b.size
  | a f x => 1 + f.size + x.size
def shift (d l : Int) : Tm → Tm
  | v i => if l ≤ i then v (i + d) else v i
  | .l b => .l (b.shift d (l + 1))
  | a f x => a (f.shift d l) (x.shift d l)
def put : Tm → Int → Tm → Tm
  | v i, k, u => if i < k then v i else if i = k then u.shift k 0 else v (i - 1)
  | l b, k, u => l (b.put (k + 1) u)
  | a f x, k, u => a (f.put k u) (x.put k u)
def free (n : Int) : Tm → Bool
  | v i => decide (i = n)
  | l b => b.free (n + 1)
  | a f x => f.free n || x.free n
theorem dep_pos : ∀ t : Tm, 1 ≤ t.dep := by intro t; cases t <;> simp [dep]
theorem size_pos : ∀ t : Tm, 1 ≤ t.size := by
  intro t
  induction t with
  | v => simp [size]
  | l b h => simp only [size]; omega
  | a f x h1 h2 => simp only [size]; omega
theorem dep_size : ∀ t : Tm, (t.dep : Int) ≤ t.size := by
  intro t
  induction t with
  | v => simp [dep, size]
  | l b h => simp only [dep, size]; omega
  | a f x h1 h2 => have := f.size_pos; have := x.size_pos; simp only [dep, size]; omega
theorem shift_dep (d : Int) : ∀ (t : Tm) (l : Int), (t.shift d l).dep = t.dep := by
  intro t
  induction t with
  | v i => intro l; simp only [shift]; split <;> rfl
  | l b h => intro l; simp only [shift, dep, h]
  | a f x h1 h2 => intro l; simp only [shift, dep, h1, h2]
theorem shift_size (d : Int) : ∀ (t : Tm) (l : Int), (t.shift d l).size = t.size := by
  intro t
  induction t with
  | v i => intro l; simp only [shift]; split <;> rfl
  | l b h => intro l; simp only [shift, size, h]
  | a f x h1 h2 => intro l; simp only [shift, size, h1, h2]
theorem shift_ok {d : Int} (hd : 0 ≤ d) : ∀ (t : Tm) (l : Int), t.ok → (t.shift d l).ok := by
  intro t
  induction t with
  | v i => intro l h; simp only [shift, ok] at *; split <;> simp only [ok] <;> omega
  | l b h => intro l hb; simp only [shift, ok] at *; exact h _ hb
  | a f x h1 h2 => intro l hb; simp only [shift, ok] at *; exact ⟨h1 _ hb.1, h2 _ hb.2⟩
theorem shift_zero : ∀ (t : Tm) (l : Int), t.shift 0 l = t := by
  intro t
  induction t with
  | v i => intro l; simp [shift]
  | l b h => intro l; simp only [shift, h]
  | a f x h1 h2 => intro l; simp only [shift, h1, h2]
theorem shift_add {d e : Int} (hd : 0 ≤ d) : ∀ (t : Tm) (l : Int), (t.shift d l).shift e l = t.shift (d + e) l := by
  intro t
  induction t with
  | v i =>
    intro l
    by_cases h : l ≤ i
    · simp only [shift, if_pos h]
      rw [if_pos (by omega)]
      congr 1; omega
    · simp only [shift, if_neg h]
  | l b h => intro l; simp only [shift, h]
  | a f x h1 h2 => intro l; simp only [shift, h1, h2]
theorem shift_back : ∀ (t : Tm) (l : Int), (t.shift 1 l).shift (-1) l = t := by
  intro t l
  rw [shift_add (by omega), show (1 : Int) + -1 = 0 from rfl, shift_zero]
theorem shift_nofree : ∀ (t : Tm) (l : Int), (t.shift 1 l).free l = false := by
  intro t
  induction t with
  | v i =>
    intro l
    by_cases h : l ≤ i
    · simp only [shift, if_pos h, free, decide_eq_false_iff_not]; omega
    · simp only [shift, if_neg h, free, decide_eq_false_iff_not]; omega
  | l b h => intro l; simp only [shift, free, h]
  | a f x h1 h2 => intro l; simp only [shift, free, h1, h2, Bool.or_self]
theorem put_nofree {u : Tm} : ∀ (t : Tm) (k : Int), t.free k = false → t.put k u = t.shift (-1) k := by
  intro t
  induction t with
  | v i =>
    intro k h
    simp only [free, decide_eq_false_iff_not] at h
    by_cases h1 : i < k
    · simp only [put, shift, if_pos h1]; rw [if_neg (by omega)]
    · simp only [put, shift, if_neg h1, if_neg h]; rw [if_pos (by omega)]; rfl
  | l b h => intro k hk; simp only [put, shift]; rw [h _ hk]
  | a f x h1 h2 =>
    intro k hk
    simp only [free, Bool.or_eq_false_iff] at hk
    simp only [put, shift]; rw [h1 _ hk.1, h2 _ hk.2]
theorem free_shift {d : Int} (hd : 0 ≤ d) : ∀ (t : Tm) (k l : Int), k < l → (t.shift d l).free k = t.free k := by
  intro t
  induction t with
  | v i =>
    intro k l h
    by_cases h1 : l ≤ i
    · simp only [shift, if_pos h1, free]
      rw [decide_eq_false (by omega), decide_eq_false (by omega)]
    · simp only [shift, if_neg h1, free]
  | l b h => intro k l hk; simp only [shift, free]; exact h _ _ (by omega)
  | a f x h1 h2 => intro k l hk; simp only [shift, free]; rw [h1 _ _ hk, h2 _ _ hk]
theorem shift_low {d : Int} (hd : 0 ≤ d) : ∀ (t : Tm) (k l : Int), k ≤ l → t.free k = false → (t.shift (-1) k).shift d l = (t.shift d (l + 1)).shift (-1) k := by
  intro t
  induction t with
  | v i =>
    intro k l hk h
    simp only [free, decide_eq_false_iff_not] at h
    by_cases h1 : k ≤ i
    · by_cases h2 : l + 1 ≤ i
      · simp only [shift, if_pos h1, if_pos h2]; rw [if_pos (by omega), if_pos (by omega)]; congr 1; omega
      · simp only [shift, if_pos h1, if_neg h2]; rw [if_neg (by omega)]
    · have h2 : ¬ l + 1 ≤ i := by omega
      simp only [shift, if_neg h1, if_neg h2]; rw [if_neg (by omega)]
  | l b h => intro k l hk hf; simp only [shift]; rw [h _ _ (by omega) hf]
  | a f x h1 h2 =>
    intro k l hk hf
    simp only [free, Bool.or_eq_false_iff] at hf
    simp only [shift]; rw [h1 _ _ hk hf.1, h2 _ _ hk hf.2]

/-! ### eta -/
def etaB : Tm → Bool
  | a g x => decide (x = v 0) && !g.free 0
  | _ => false
def etaL (b : Tm) : Tm := match b with
  | a g x => if etaB (a g x) = true then g.put 0 (v 0) else l (a g x)
  | t => l t
def eta : Tm → Tm
  | v i => v i
  | l b => etaL b.eta
  | a f x => a f.eta x.eta
theorem shift_is0 {d l : Int} (hd : 0 ≤ d) (hl : 0 ≤ l) (x : Tm) : (x.shift d (l + 1) = v 0) = (x = v 0) := by
  cases x with
  | v i =>
    by_cases h : l + 1 ≤ i
    · simp only [shift, if_pos h, v.injEq]; exact propext ⟨fun h => by omega, fun h => by omega⟩
    · simp only [shift, if_neg h, v.injEq]
  | l b => simp [shift]
  | a f x => simp [shift]
theorem etaL_shift {d : Int} (hd : 0 ≤ d) (b : Tm) (l : Int) (hl : 0 ≤ l) : etaL (b.shift d (l + 1)) = (etaL b).shift d l := by
  cases b with
  | v i => simp only [shift]; split <;> simp only [etaL, shift] <;> simp [*]
  | l b => rfl
  | a g x =>
    have e : etaB (a (g.shift d (l + 1)) (x.shift d (l + 1))) = etaB (a g x) := by
      simp only [etaB, shift_is0 hd hl, free_shift hd g 0 (l + 1) (by omega)]
    simp only [shift, etaL, e]
    by_cases h : etaB (a g x) = true
    · rw [if_pos h, if_pos h]
      simp only [etaB, Bool.and_eq_true, Bool.not_eq_true'] at h
      rw [put_nofree _ _ h.2, put_nofree _ _ (by rw [free_shift hd _ _ _ (by omega)]; exact h.2), shift_low hd _ _ _ hl h.2]
    · rw [if_neg h, if_neg h]; rfl
theorem eta_shift {d : Int} (hd : 0 ≤ d) : ∀ (t : Tm) (l : Int), 0 ≤ l → (t.shift d l).eta = t.eta.shift d l := by
  intro t
  induction t with
  | v i => intro l hl; simp only [shift]; split <;> simp only [eta, shift] <;> simp [*]
  | l b h => intro l hl; simp only [shift, eta]; rw [h _ (by omega), etaL_shift hd _ _ hl]
  | a f x h1 h2 => intro l hl; simp only [shift, eta]; rw [h1 _ hl, h2 _ hl]
theorem eta_ext (b : Tm) : eta (l (a (b.shift 1 0) (v 0))) = b.eta := by
  simp only [eta]
  rw [eta_shift (by omega) _ _ (by omega)]
  simp only [etaL, etaB, decide_true, Bool.true_and, shift_nofree, Bool.not_false, if_true]
  rw [put_nofree _ _ (shift_nofree _ _), shift_back]
theorem etaL_dep (b : Tm) : (etaL b).dep ≤ b.dep + 1 := by
  cases b with
  | v i => exact Nat.le_refl _
  | l b => exact Nat.le_refl _
  | a g x =>
    simp only [etaL]
    split
    · rename_i h
      simp only [etaB, Bool.and_eq_true, Bool.not_eq_true'] at h
      rw [put_nofree _ _ h.2, shift_dep]
      simp only [dep]; omega
    · exact Nat.le_refl _
theorem eta_dep : ∀ t : Tm, t.eta.dep ≤ t.dep := by
  intro t
  induction t with
  | v i => exact Nat.le_refl _
  | l b h => have := etaL_dep b.eta; simp only [eta, dep]; omega
  | a f x h1 h2 => simp only [eta, dep]; omega

theorem etaL_size (b : Tm) : (etaL b).size ≤ 1 + b.size := by
  cases b with
  | v i => exact Int.le_refl _
  | l b => exact Int.le_refl _
  | a g x =>
    simp only [etaL]
    split
    · rename_i h
      simp only [etaB, Bool.and_eq_true, Bool.not_eq_true'] at h
      rw [put_nofree _ _ h.2, shift_size]
      have := x.size_pos
      simp only [size]; omega
    · exact Int.le_refl _
theorem eta_size : ∀ t : Tm, t.eta.size ≤ t.size := by
  intro t
  induction t with
  | v i => exact Int.le_refl _
  | l b h => have := etaL_size b.eta; simp only [eta, size]; omega
  | a f x h1 h2 => simp only [eta, size]; omega

/-! ### heads -/
def lams : Nat → Tm → Tm
  | 0, t => t
  | n + 1, t => l (lams n t)
def app (h : Tm) (ps : List Tm) : Tm := ps.foldl a h
def cnt : Tm → Nat
  | l b => b.cnt + 1
  | _ => 0
def core : Tm → Tm
  | l b => b.core
  | t => t
def hd : Tm → Tm
  | a f _ => f.hd
  | t => t
def args : Tm → List Tm
  | a f x => f.args ++ [x]
  | _ => []
theorem lams_core : ∀ t : Tm, lams t.cnt t.core = t := by
  intro t
  induction t with
  | v i => rfl
  | l b h => simp only [cnt, core, lams, h]
  | a f x h1 h2 => rfl
theorem app_args : ∀ t : Tm, app t.hd t.args = t := by
  intro t
  induction t with
  | v i => rfl
  | l b h => rfl
  | a f x h1 h2 => simp only [hd, args, app, List.foldl_append, List.foldl_cons, List.foldl_nil] at *; rw [h1]
theorem lams_add (n m : Nat) (t : Tm) : lams (n + m) t = lams n (lams m t) := by
  induction n with
  | zero => simp [lams]
  | succ n h => rw [show n + 1 + m = (n + m) + 1 from by omega]; simp only [lams, h]
theorem lams_succ (n : Nat) (t : Tm) : lams (n + 1) t = lams n (l t) := lams_add n 1 t
theorem app_snoc (h : Tm) (ps : List Tm) (x : Tm) : app h (ps ++ [x]) = a (app h ps) x := by simp [app]
theorem app_app (h : Tm) (ps qs : List Tm) : app h (ps ++ qs) = app (app h ps) qs := by simp [app]
theorem app_shift (d l : Int) : ∀ (ps : List Tm) (h : Tm), (app h ps).shift d l = app (h.shift d l) (ps.map (shift d l)) := by
  intro ps
  induction ps with
  | nil => intro h; rfl
  | cons p ps ih => intro h; simp only [app, List.foldl_cons, List.map_cons] at *; rw [ih]; rfl
/-- v (m-1) .. v 0 -/
def vars : Nat → List Tm
  | 0 => []
  | m + 1 => v m :: vars m
theorem vars_len (m : Nat) : (vars m).length = m := by induction m with | zero => rfl | succ m h => simp [vars, h]
theorem vars_up (m : Nat) : vars (m + 1) = (vars m).map (shift 1 0) ++ [v 0] := by
  induction m with
  | zero => rfl
  | succ m h =>
    have e : (vars (m + 1)).map (shift 1 0) = v ((m + 1 : Nat) : Int) :: (vars m).map (shift 1 0) := by
      simp only [vars, List.map_cons, shift]
      rw [if_pos (by omega)]; rfl
    rw [e, List.cons_append, ← h]
    rfl
/-- exactly n abstractions at the top -/
def stretch (t : Tm) (n : Nat) : Tm := lams n (app (t.core.hd.shift ((n : Int) - t.cnt) 0) (t.core.args.map (shift ((n : Int) - t.cnt) 0) ++ vars (n - t.cnt)))
theorem stretch_eq (t : Tm) (m : Nat) : stretch t (t.cnt + m) = lams t.cnt (lams m (app (t.core.shift m 0) (vars m))) := by
  have e : ((t.cnt + m : Nat) : Int) - t.cnt = m := by omega
  rw [stretch, lams_add, e, app_app, ← app_shift, app_args, Nat.add_sub_cancel_left]
theorem eta_lams {t u : Tm} (h : t.eta = u.eta) : ∀ n, (lams n t).eta = (lams n u).eta
  | 0 => h
  | n + 1 => by simp only [lams, eta]; rw [eta_lams h n]
theorem eta_E (b : Tm) : ∀ m : Nat, (lams m (app (b.shift m 0) (vars m))).eta = b.eta
  | 0 => by
    simp only [vars, lams, app, List.foldl_nil]
    rw [show ((0 : Nat) : Int) = 0 from rfl, shift_zero]
  | m + 1 => by
    rw [lams_succ, vars_up, app_snoc]
    have e : b.shift ((m + 1 : Nat) : Int) 0 = (b.shift m 0).shift 1 0 := by rw [shift_add (by omega)]; rfl
    rw [e, ← app_shift, eta_lams (eta_ext _) m]
    exact eta_E b m
theorem eta_stretch (t : Tm) {n : Nat} (h : t.cnt ≤ n) : (stretch t n).eta = t.eta := by
  obtain ⟨m, rfl⟩ : ∃ m, n = t.cnt + m := ⟨n - t.cnt, by omega⟩
  rw [stretch_eq, eta_lams (eta_E t.core m), lams_core]
theorem eta_app : ∀ (ps : List Tm) (h : Tm), (app h ps).eta = app h.eta (ps.map eta) := by
  intro ps
  induction ps with
  | nil => intro h; rfl
  | cons p ps ih => intro h; simp only [app, List.foldl_cons, List.map_cons] at *; rw [ih]; rfl
/-- normal terms -/
def isL : Tm → Bool
  | l _ => true
  | _ => false
def nf : Tm → Bool
  | v _ => true
  | l b => b.nf
  | a f x => !f.isL && f.nf && x.nf
theorem nf_lams (n : Nat) (t : Tm) : (lams n t).nf = t.nf := by induction n with | zero => rfl | succ n h => exact h
theorem isL_core : ∀ t : Tm, t.core.isL = false := by
  intro t
  induction t with
  | v i => rfl
  | l b h => exact h
  | a f x h1 h2 => rfl
theorem nf_core : ∀ t : Tm, t.core.nf = t.nf := by
  intro t
  induction t with
  | v i => rfl
  | l b h => exact h
  | a f x h1 h2 => rfl
theorem isL_app {i : Int} (ps : List Tm) : (app (v i) ps).isL = false := by
  rcases List.eq_nil_or_concat ps with rfl | ⟨qs, x, rfl⟩
  · rfl
  · simp only [app, List.concat_eq_append, List.foldl_append, List.foldl_cons, List.foldl_nil]; rfl
theorem nf_app {i : Int} : ∀ ps : List Tm, (∀ p, p ∈ ps → p.nf = true) → (app (v i) ps).nf = true := by
  intro ps
  induction h : ps.length generalizing ps with
  | zero => intro _; rw [List.length_eq_zero_iff.1 h]; rfl
  | succ n ih =>
    intro hp
    rcases List.eq_nil_or_concat ps with rfl | ⟨qs, x, rfl⟩
    · rfl
    · rw [List.concat_eq_append] at *
      rw [app_snoc]
      simp only [nf, isL_app, Bool.not_false, Bool.true_and, Bool.and_eq_true]
      refine ⟨ih qs (by simp at h; omega) fun p hp' => hp p (by simp [hp']), hp x (by simp)⟩
theorem nf_head : ∀ t : Tm, t.isL = false → t.nf = true → (∃ i, t.hd = v i ∧ (t.ok → 0 ≤ i)) ∧ ∀ p, p ∈ t.args → p.nf = true := by
  intro t
  induction t with
  | v i => intro _ _; exact ⟨⟨i, rfl, fun h => h⟩, by simp [args]⟩
  | l b h => intro hl _; cases hl
  | a f x h1 h2 =>
    intro _ hn
    simp only [nf, Bool.and_eq_true, Bool.not_eq_true'] at hn
    obtain ⟨⟨i, e, hi⟩, h⟩ := h1 hn.1.1 hn.1.2
    refine ⟨⟨i, e, fun h => hi h.1⟩, fun p hp => ?_⟩
    simp only [args, List.mem_append, List.mem_singleton] at hp
    rcases hp with hp | rfl
    · exact h p hp
    · exact hn.2
theorem ok_core : ∀ t : Tm, t.ok → t.core.ok := by
  intro t
  induction t with
  | v i => exact id
  | l b h => exact h
  | a f x h1 h2 => exact id
theorem ok_args : ∀ t : Tm, t.ok → ∀ p, p ∈ t.args → p.ok := by
  intro t
  induction t with
  | v i => intro _ p hp; cases hp
  | l b h => intro _ p hp; cases hp
  | a f x h1 h2 =>
    intro h p hp
    simp only [args, List.mem_append, List.mem_singleton] at hp
    rcases hp with hp | rfl
    · exact h1 h.1 p hp
    · exact h.2
theorem ok_lams (n : Nat) {t : Tm} (h : t.ok) : (lams n t).ok := by induction n with | zero => exact h | succ n ih => exact ih
theorem ok_app : ∀ (ps : List Tm) (h : Tm), h.ok → (∀ p, p ∈ ps → p.ok) → (app h ps).ok := by
  intro ps
  induction ps with
  | nil => intro h hh _; exact hh
  | cons p ps ih => intro h hh hp; exact ih _ ⟨hh, hp p (by simp)⟩ fun q hq => hp q (by simp [hq])
theorem ok_vars (m : Nat) : ∀ p, p ∈ vars m → p.ok ∧ p.nf = true ∧ p.dep = 1 := by
  induction m with
  | zero => intro p hp; cases hp
  | succ m h =>
    intro p hp
    simp only [vars, List.mem_cons] at hp
    rcases hp with rfl | hp
    · exact ⟨by simp only [ok]; omega, rfl, rfl⟩
    · exact h p hp
theorem dep_core : ∀ t : Tm, t.core.dep + t.cnt = t.dep := by
  intro t
  induction t with
  | v i => rfl
  | l b h => simp only [core, cnt, dep]; omega
  | a f x h1 h2 => rfl
theorem dep_args : ∀ t : Tm, ∀ p, p ∈ t.args → p.dep < t.dep := by
  intro t
  induction t with
  | v i => intro p hp; cases hp
  | l b h => intro p hp; cases hp
  | a f x h1 h2 =>
    intro p hp
    simp only [args, List.mem_append, List.mem_singleton] at hp
    simp only [dep]
    rcases hp with hp | rfl
    · have := h1 p hp; omega
    · omega
theorem len_args : ∀ t : Tm, t.args.length < t.dep := by
  intro t
  induction t with
  | v i => simp [args, dep]
  | l b h => simp [args, dep]
  | a f x h1 h2 => simp [args, dep]; omega
theorem shift_isL (d l : Int) : ∀ t : Tm, (t.shift d l).isL = t.isL := by
  intro t
  cases t with
  | v i => simp only [shift]; split <;> rfl
  | l b => rfl
  | a f x => rfl
theorem shift_nf (d : Int) : ∀ (t : Tm) (l : Int), (t.shift d l).nf = t.nf := by
  intro t
  induction t with
  | v i => intro l; simp only [shift]; split <;> rfl
  | l b h => intro l; exact h _
  | a f x h1 h2 => intro l; simp only [shift, nf, h1, h2, shift_isL]
theorem dep_lams (n : Nat) (t : Tm) : (lams n t).dep = t.dep + n := by
  induction n with
  | zero => rfl
  | succ n h => simp only [lams, dep, h]; omega
end Tm
end Pv
set_option Elab.async false
set_option linter.all false
set_option maxRecDepth 100000
set_option maxHeartbeats 1000000
/-! Lt1: lambda terms as the programs keep them: the small functions, by their bodies, whatever their number. -/
namespace Pv
open PySem
abbrev tv : Str := "v"
abbrev tl : Str := "l"
abbrev ta : Str := "a"
def tg : Nat → Str
  | 0 => "v"
  | 1 => "l"
  | 2 => "a"
  | 3 => "u"
  | 4 => "cells"
  | 5 => "at"
  | 6 => "rest"
  | 7 => "turn"
  | 8 => "mix"
  | 9 => "beta"
  | 10 => "eta"
  | 11 => "first_beta"
  | 12 => "head_beta"
  | 13 => ""
  | 14 => "term"
  | 15 => "place"
  | 16 => "number"
  | 17 => "terms"
  | 18 => "0"
  | 19 => "b"
  | 20 => "1"
  | 21 => "Filler"
  | 22 => "fill"
  | 23 => "table"
  | 24 => "lost"
  | 25 => "copies"
  | 26 => "variable"
  | 27 => "unknown"
  | 28 => "head"
  | 29 => "t"
  | 30 => "to"
  | 31 => "shape"
  | 32 => "name"
  | 33 => "need"
  | 34 => "value"
  | 35 => "bind"
  | 36 => "give"
  | 37 => "write"
  | 38 => "take"
  | 39 => "push"
  | 40 => "k"
  | 41 => "t41"
  | 42 => "t42"
  | 43 => "t43"
  | 44 => "t44"
  | 45 => "t45"
  | 46 => "t46"
  | 47 => "t47"
  | 48 => "t48"
  | 49 => "t49"
  | 50 => "t50"
  | 51 => "t51"
  | 52 => "t52"
  | 53 => "t53"
  | 54 => "t54"
  | 55 => "t55"
  | 56 => "t56"
  | 57 => "t57"
  | 58 => "t58"
  | 59 => "t59"
  | 60 => "t60"
  | 61 => "t61"
  | 62 => "t62"
  | _ => "t63"
theorem tg_all : ∀ i, i < 64 → ∀ j, j < 64 → tg i = tg j → i = j := by decide +kernel
theorem tg_inj (i j : Nat) (hi : i < 64) (hj : j < 64) : (tg i = tg j) = (i = j) := propext ⟨tg_all i hi j hj, fun e => by rw [e]⟩
theorem tg_ok : ∀ i, i < 64 → PyData.strOk (tg i) = true := by decide +kernel
local macro_rules | `(tactic| walk_at "pv") => `(tactic| simp [wpSs, wpS, wpE, wpT, wpEs, wpTs, wpO, wpI, wpG, startP, L2.CMul, L2.CDiv, L2.CPow, tg_inj, sizeLine, eqB_tup, -List.getD_eq_getElem?_getD])
def Tm.pv : Tm → PV
  | .v i => .tup [.str (tg 0), .int i]
  | .l b => .tup [.str (tg 1), b.pv]
  | .a f x => .tup [.str (tg 2), f.pv, x.pv]
theorem Tm.gd : ∀ t : Tm, Gd t.dep t.pv := by
  intro t
  induction t with
  | v i => exact .tup _ (by simp) (by simp; exact ⟨.str _ (tg_ok 0 (by omega)), .int _⟩)
  | l b ih => exact .tup _ (by simp) (by simp; exact ⟨.str _ (tg_ok 1 (by omega)), ih⟩)
  | a f x ih1 ih2 => exact .tup _ (by simp) (by simp; exact ⟨.str _ (tg_ok 2 (by omega)), ih1.mono (by omega), ih2.mono (by omega)⟩)
theorem tm_eqB : ∀ t u : Tm, eqB t.pv u.pv = decide (t = u) := by
  intro t
  induction t with
  | v i => intro u; cases u <;> simp [Tm.pv, eqB_tup, tg_inj]
  | l b ih => intro u; cases u <;> simp [Tm.pv, eqB_tup, tg_inj, ih]
  | a f x i1 i2 => intro u; cases u <;> simp [Tm.pv, eqB_tup, tg_inj, i1, i2]
/-- == of terms -/
theorem tm_eqQ {g : Bool → Bool} {t u : Tm} {S : Store} {Q : PQ} (h : min t.dep u.dep ≤ 189) : eqQ g t.pv u.pv S Q = Q (.bl (g (decide (t = u)))) S := by
  have e : eqQ g t.pv u.pv S Q = (eqOk t.pv u.pv ∧ Q (.bl (g (eqB t.pv u.pv))) S) := by cases t <;> cases u <;> rfl
  rw [e, tm_eqB]
  exact propext ⟨fun h => h.2, fun q => ⟨t.gd.eqOk u.gd h, q⟩⟩
section
variable {T : Tab} {fns : List FD} {S : Store} {Q : PQ} {E : PX}
/-! ### numbers -/
def isIntD : FD := ⟨1, 1, (.cons (.ret (.and (.isin (.var 0) .tInt) (.not (.isin (.var 0) .tBool)))) .nil)⟩
def isNatD (i : Nat) : FD := ⟨1, 1, (.cons (.ret (.and (.call i (.cons (.var 0) .nil) []) (.cmp .ge (.var 0) (.cst (.int 0))))) .nil)⟩
def checkNumD (i e : Nat) : FD := ⟨1, 1, (.cons (.ifs (.not (.call i (.cons (.var 0) .nil) [])) (.cons (.raise e) .nil) .nil) .nil)⟩
theorem isint_ok {i k : Nat} {n : Int} (h : Q (.bl true) S) (hi : fns[i]? = some isIntD := by first | assumption | rfl) : runF T fns (k + 1) i [.int n] S Q E := by
  refine run_in hi rfl fun wf un => ?_
  simp only [isIntD]
  walk_at "pv"
  exact .inl h
theorem isnat_ok {i j k : Nat} {n : Int} (hn : 0 ≤ n) (h : Q (.bl true) S) (hj : fns[j]? = some (isNatD i) := by first | assumption | rfl) (hi : fns[i]? = some isIntD := by first | assumption | rfl) : runF T fns (k + 2) j [.int n] S Q E := by
  refine run_in hj rfl fun wf un => ?_
  simp only [isNatD]
  walk_at "pv"
  refine isint_ok ?_
  simp [hn]
  exact .inl h
theorem num_ok {i j l e k : Nat} {n : Int} (hn : 0 ≤ n) (h : Q .non S) (hl : fns[l]? = some (checkNumD j e) := by first | assumption | rfl) (hj : fns[j]? = some (isNatD i) := by first | assumption | rfl) (hi : fns[i]? = some isIntD := by first | assumption | rfl) : runF T fns (k + 3) l [.int n] S Q E := by
  refine run_in hl rfl fun wf un => ?_
  simp only [checkNumD]
  walk_at "pv"
  refine isnat_ok hn ?_
  simp
  exact .inl h
/-! ### terms -/
def isTermD (i j : Nat) : FD := ⟨1, 1, (.cons (.ifs (.or (.not (.isin (.var 0) .tTuple)) (.or (.not (.chain .le .le (.cst (.int 2)) (.bi .len (.cons (.var 0) .nil)) (.cst (.int 3)))) (.not (.isin (.idxc (.var 0) 0) .tStr)))) (.cons (.ret (.cst (.bl false))) .nil) .nil) (.cons (.ifs (.cmp .eq (.bi .len (.cons (.var 0) .nil)) (.cst (.int 3))) (.cons (.ret (.and (.cmp .eq (.idxc (.var 0) 0) (.cst (.str (tg 2)))) (.and (.call j (.cons (.idxc (.var 0) 1) .nil) []) (.call j (.cons (.idxc (.var 0) 2) .nil) [])))) .nil) .nil) (.cons (.ifs (.cmp .eq (.idxc (.var 0) 0) (.cst (.str (tg 0)))) (.cons (.ret (.call i (.cons (.idxc (.var 0) 1) .nil) [])) .nil) .nil) (.cons (.ret (.and (.cmp .eq (.idxc (.var 0) 0) (.cst (.str (tg 1)))) (.call j (.cons (.idxc (.var 0) 1) .nil) []))) .nil))))⟩
theorem isterm_aux {i0 i j : Nat} (h0 : fns[i0]? = some isIntD) (h1 : fns[i]? = some (isNatD i0)) (hj : fns[j]? = some (isTermD i j)) : ∀ (t : Tm) (k : Nat) (Q : PQ) (E : PX), t.dep + 2 ≤ k → t.ok → Q (.bl true) S → runF T fns k j [t.pv] S Q E := by
  intro t
  induction t with
  | v n =>
    intro k Q E hk hc h
    obtain ⟨k, rfl⟩ : ∃ j, k = j + 3 := ⟨k - 3, by simp [Tm.dep] at hk; omega⟩
    refine run_in hj rfl fun wf un => ?_
    simp only [isTermD, Tm.pv]
    walk_at "pv"
    exact isnat_ok hc (.inl h)
  | l b ih =>
    intro k Q E hk hc h
    simp only [Tm.dep] at hk
    obtain ⟨k, rfl⟩ : ∃ j, k = j + 1 := ⟨k - 1, by omega⟩
    refine run_in hj rfl fun wf un => ?_
    simp only [isTermD, Tm.pv]
    walk_at "pv"
    exact ih _ _ _ (by omega) hc (.inl h)
  | a f x ih1 ih2 =>
    intro k Q E hk hc h
    simp only [Tm.dep] at hk
    obtain ⟨k, rfl⟩ : ∃ j, k = j + 1 := ⟨k - 1, by omega⟩
    refine run_in hj rfl fun wf un => ?_
    simp only [isTermD, Tm.pv]
    walk_at "pv"
    refine ih1 _ _ _ (by omega) hc.1 ?_
    simp
    exact ih2 _ _ _ (by omega) hc.2 (.inl h)
theorem isterm_ok {i0 i j k : Nat} {t : Tm} (hk : t.dep + 2 ≤ k) (hc : t.ok) (h : Q (.bl true) S) (hj : fns[j]? = some (isTermD i j) := by first | assumption | rfl) (h1 : fns[i]? = some (isNatD i0) := by first | assumption | rfl) (h0 : fns[i0]? = some isIntD := by first | assumption | rfl) : runF T fns k j [t.pv] S Q E := isterm_aux h0 h1 hj t k Q E hk hc h
def checkTermD (j e : Nat) : FD := ⟨1, 1, (.cons (.ifs (.not (.call j (.cons (.var 0) .nil) [])) (.cons (.raise e) .nil) .nil) .nil)⟩
theorem checkterm_ok {i0 i j l e k : Nat} {t : Tm} (hk : t.dep + 3 ≤ k) (hc : t.ok) (h : Q .non S) (hl : fns[l]? = some (checkTermD j e) := by first | assumption | rfl) (hj : fns[j]? = some (isTermD i j) := by first | assumption | rfl) (h1 : fns[i]? = some (isNatD i0) := by first | assumption | rfl) (h0 : fns[i0]? = some isIntD := by first | assumption | rfl) : runF T fns k l [t.pv] S Q E := by
  obtain ⟨k, rfl⟩ : ∃ j, k = j + 1 := ⟨k - 1, by omega⟩
  refine run_in hl rfl fun wf un => ?_
  simp only [checkTermD]
  walk_at "pv"
  refine isterm_ok (by omega) hc ?_
  simp
  exact .inl h
def shiftD (i : Nat) : FD := ⟨3, 3, (.cons (.ifs (.cmp .eq (.idxc (.var 0) 0) (.cst (.str (tg 0)))) (.cons (.ret (.ifx (.cmp .ge (.idxc (.var 0) 1) (.var 2)) (.tup (.cons (.cst (.str (tg 0))) (.cons (.bin .add (.idxc (.var 0) 1) (.var 1)) .nil))) (.var 0))) .nil) .nil) (.cons (.ifs (.cmp .eq (.idxc (.var 0) 0) (.cst (.str (tg 1)))) (.cons (.ret (.tup (.cons (.cst (.str (tg 1))) (.cons (.call i (.cons (.idxc (.var 0) 1) (.cons (.var 1) (.cons (.bin .add (.var 2) (.cst (.int 1))) .nil))) []) .nil)))) .nil) .nil) (.cons (.ret (.tup (.cons (.cst (.str (tg 2))) (.cons (.call i (.cons (.idxc (.var 0) 1) (.cons (.var 1) (.cons (.var 2) .nil))) []) (.cons (.call i (.cons (.idxc (.var 0) 2) (.cons (.var 1) (.cons (.var 2) .nil))) []) .nil))))) .nil)))⟩
theorem shift_aux {i : Nat} (hi : fns[i]? = some (shiftD i)) {d : Int} : ∀ (t : Tm) (l : Int) (k : Nat) (Q : PQ) (E : PX), t.dep ≤ k → Q (t.shift d l).pv S → runF T fns k i [t.pv, .int d, .int l] S Q E := by
  intro t
  induction t with
  | v n =>
    intro l k Q E hk h
    obtain ⟨k, rfl⟩ : ∃ j, k = j + 1 := ⟨k - 1, by simp [Tm.dep] at hk; omega⟩
    refine run_in hi rfl fun wf un => ?_
    simp only [shiftD, Tm.pv, Tm.shift] at h ⊢
    walk_at "pv"
    by_cases hn : l ≤ n
    · rw [if_pos hn] at h
      exact .inr ⟨hn, .inl h⟩
    · rw [if_neg hn] at h
      exact .inl ⟨by omega, .inl h⟩
  | l b ih =>
    intro l k Q E hk h
    simp only [Tm.dep] at hk
    obtain ⟨k, rfl⟩ : ∃ j, k = j + 1 := ⟨k - 1, by omega⟩
    refine run_in hi rfl fun wf un => ?_
    simp only [shiftD, Tm.pv, Tm.shift] at h ⊢
    walk_at "pv"
    exact ih _ _ _ _ (by omega) (.inl h)
  | a f x i1 i2 =>
    intro l k Q E hk h
    simp only [Tm.dep] at hk
    obtain ⟨k, rfl⟩ : ∃ j, k = j + 1 := ⟨k - 1, by omega⟩
    refine run_in hi rfl fun wf un => ?_
    simp only [shiftD, Tm.pv, Tm.shift] at h ⊢
    walk_at "pv"
    refine i1 _ _ _ _ (by omega) ?_
    exact i2 _ _ _ _ (by omega) (.inl h)
theorem shift_ok {i k : Nat} {t : Tm} {d l : Int} (hk : t.dep ≤ k) (h : Q (t.shift d l).pv S) (hi : fns[i]? = some (shiftD i) := by first | assumption | rfl) : runF T fns k i [t.pv, .int d, .int l] S Q E := shift_aux hi t l k Q E hk h
def isFreeD (i : Nat) : FD := ⟨2, 2, (.cons (.ifs (.cmp .eq (.idxc (.var 1) 0) (.cst (.str (tg 0)))) (.cons (.ret (.cmp .eq (.idxc (.var 1) 1) (.var 0))) .nil) .nil) (.cons (.ifs (.cmp .eq (.idxc (.var 1) 0) (.cst (.str (tg 1)))) (.cons (.ret (.call i (.cons (.bin .add (.var 0) (.cst (.int 1))) (.cons (.idxc (.var 1) 1) .nil)) [])) .nil) .nil) (.cons (.ret (.or (.call i (.cons (.var 0) (.cons (.idxc (.var 1) 1) .nil)) []) (.call i (.cons (.var 0) (.cons (.idxc (.var 1) 2) .nil)) []))) .nil)))⟩
theorem isfree_aux {i : Nat} (hi : fns[i]? = some (isFreeD i)) : ∀ (t : Tm) (n : Int) (k : Nat) (Q : PQ) (E : PX), t.dep ≤ k → Q (.bl (t.free n)) S → runF T fns k i [.int n, t.pv] S Q E := by
  intro t
  induction t with
  | v j =>
    intro n k Q E hk h
    obtain ⟨k, rfl⟩ : ∃ j, k = j + 1 := ⟨k - 1, by simp [Tm.dep] at hk; omega⟩
    refine run_in hi rfl fun wf un => ?_
    simp only [isFreeD, Tm.pv, Tm.free] at h ⊢
    walk_at "pv"
    exact .inl h
  | l b ih =>
    intro n k Q E hk h
    simp only [Tm.dep] at hk
    obtain ⟨k, rfl⟩ : ∃ j, k = j + 1 := ⟨k - 1, by omega⟩
    refine run_in hi rfl fun wf un => ?_
    simp only [isFreeD, Tm.pv, Tm.free] at h ⊢
    walk_at "pv"
    exact ih _ _ _ _ (by omega) (.inl h)
  | a f x i1 i2 =>
    intro n k Q E hk h
    simp only [Tm.dep] at hk
    obtain ⟨k, rfl⟩ : ∃ j, k = j + 1 := ⟨k - 1, by omega⟩
    refine run_in hi rfl fun wf un => ?_
    simp only [isFreeD, Tm.pv, Tm.free] at h ⊢
    walk_at "pv"
    refine i1 _ _ _ _ (by omega) ?_
    cases e : f.free n with
    | true => simp; rw [e] at h; exact .inl h
    | false => simp; rw [e] at h; exact i2 _ _ _ _ (by omega) (.inl (by simpa using h))
theorem isfree_ok {i k : Nat} {t : Tm} {n : Int} (hk : t.dep ≤ k) (h : Q (.bl (t.free n)) S) (hi : fns[i]? = some (isFreeD i) := by first | assumption | rfl) : runF T fns k i [.int n, t.pv] S Q E := isfree_aux hi t n k Q E hk h
def putD (s i : Nat) : FD := ⟨3, 4, (.cons (.ifs (.cmp .eq (.idxc (.var 0) 0) (.cst (.str (tg 1)))) (.cons (.ret (.tup (.cons (.cst (.str (tg 1))) (.cons (.call i (.cons (.idxc (.var 0) 1) (.cons (.var 1) (.cons (.bin .add (.var 2) (.cst (.int 1))) .nil))) []) .nil)))) .nil) .nil) (.cons (.ifs (.cmp .eq (.idxc (.var 0) 0) (.cst (.str (tg 2)))) (.cons (.ret (.tup (.cons (.cst (.str (tg 2))) (.cons (.call i (.cons (.idxc (.var 0) 1) (.cons (.var 1) (.cons (.var 2) .nil))) []) (.cons (.call i (.cons (.idxc (.var 0) 2) (.cons (.var 1) (.cons (.var 2) .nil))) []) .nil))))) .nil) .nil) (.cons (.asg (.nm 3) (.bin .sub (.idxc (.var 0) 1) (.var 2))) (.cons (.ifs (.cmp .lt (.var 3) (.cst (.int 0))) (.cons (.ret (.var 0)) .nil) .nil) (.cons (.ifs (.cmp .lt (.var 3) (.bi .len (.cons (.var 1) .nil))) (.cons (.ret (.call s (.cons (.idx (.var 1) (.var 3)) (.cons (.var 2) (.cons (.cst (.int 0)) .nil))) [])) .nil) .nil) (.cons (.ret (.tup (.cons (.cst (.str (tg 0))) (.cons (.bin .sub (.idxc (.var 0) 1) (.bi .len (.cons (.var 1) .nil))) .nil)))) .nil))))))⟩
theorem put_aux {s i : Nat} (hs : fns[s]? = some (shiftD s)) (hi : fns[i]? = some (putD s i)) {u : Tm} : ∀ (t : Tm) (l : Int) (k : Nat) (Q : PQ) (E : PX), t.dep + u.dep ≤ k → Q (t.put l u).pv S → runF T fns k i [t.pv, .tup [u.pv], .int l] S Q E := by
  intro t
  induction t with
  | v n =>
    intro l k Q E hk h
    obtain ⟨k, rfl⟩ : ∃ j, k = j + 1 := ⟨k - 1, by simp [Tm.dep] at hk; omega⟩
    refine run_in hi rfl fun wf un => ?_
    simp only [putD, Tm.pv, Tm.put] at h ⊢
    walk_at "pv"
    have hu := u.dep_pos
    by_cases h1 : n < l
    · rw [if_pos h1] at h
      exact .inr ⟨by omega, .inl h⟩
    · rw [if_neg h1] at h
      by_cases h2 : n = l
      · rw [if_pos h2] at h
        subst h2
        refine .inl ⟨by omega, .inr ⟨by omega, u.pv, ?_, ?_⟩⟩
        · rw [Int.sub_self, atPV_lt (by omega) (by simp)]; rfl
        · exact shift_ok (by simp only [Tm.dep] at hk; omega) (.inl h)
      · rw [if_neg h2] at h
        exact .inl ⟨by omega, .inl ⟨by omega, .inl h⟩⟩
  | l b ih =>
    intro l k Q E hk h
    simp only [Tm.dep] at hk
    obtain ⟨k, rfl⟩ : ∃ j, k = j + 1 := ⟨k - 1, by omega⟩
    refine run_in hi rfl fun wf un => ?_
    simp only [putD, Tm.pv, Tm.put] at h ⊢
    walk_at "pv"
    exact ih _ _ _ _ (by omega) (.inl h)
  | a f x i1 i2 =>
    intro l k Q E hk h
    simp only [Tm.dep] at hk
    obtain ⟨k, rfl⟩ : ∃ j, k = j + 1 := ⟨k - 1, by omega⟩
    refine run_in hi rfl fun wf un => ?_
    simp only [putD, Tm.pv, Tm.put] at h ⊢
    walk_at "pv"
    refine i1 _ _ _ _ (by omega) ?_
    exact i2 _ _ _ _ (by omega) (.inl h)
theorem put_ok {s i k : Nat} {t u : Tm} {l : Int} (hk : t.dep + u.dep ≤ k) (h : Q (t.put l u).pv S) (hi : fns[i]? = some (putD s i) := by first | assumption | rfl) (hs : fns[s]? = some (shiftD s) := by first | assumption | rfl) : runF T fns k i [t.pv, .tup [u.pv], .int l] S Q E := put_aux hs hi t l k Q E hk h
def putFirstD (i : Nat) : FD := ⟨2, 2, (.cons (.ret (.call i (.cons (.var 0) (.cons (.tup (.cons (.var 1) .nil)) (.cons (.cst (.int 0)) .nil))) [])) .nil)⟩
theorem putfirst_ok {s i j k : Nat} {t u : Tm} (hk : t.dep + u.dep + 1 ≤ k) (h : Q (t.put 0 u).pv S) (hj : fns[j]? = some (putFirstD i) := by first | assumption | rfl) (hi : fns[i]? = some (putD s i) := by first | assumption | rfl) (hs : fns[s]? = some (shiftD s) := by first | assumption | rfl) : runF T fns k j [t.pv, u.pv] S Q E := by
  obtain ⟨k, rfl⟩ : ∃ j, k = j + 1 := ⟨k - 1, by omega⟩
  refine run_in hj rfl fun wf un => ?_
  simp only [putFirstD]
  walk_at "pv"
  exact put_ok (by omega) (.inl h)
/-- the law's own putting in -/
def lputD (s i : Nat) : FD := ⟨3, 3, (.cons (.ifs (.cmp .eq (.idxc (.var 0) 0) (.cst (.str (tg 1)))) (.cons (.ret (.tup (.cons (.cst (.str (tg 1))) (.cons (.call i (.cons (.idxc (.var 0) 1) (.cons (.var 1) (.cons (.bin .add (.var 2) (.cst (.int 1))) .nil))) []) .nil)))) .nil) .nil) (.cons (.ifs (.cmp .eq (.idxc (.var 0) 0) (.cst (.str (tg 2)))) (.cons (.ret (.tup (.cons (.cst (.str (tg 2))) (.cons (.call i (.cons (.idxc (.var 0) 1) (.cons (.var 1) (.cons (.var 2) .nil))) []) (.cons (.call i (.cons (.idxc (.var 0) 2) (.cons (.var 1) (.cons (.var 2) .nil))) []) .nil))))) .nil) .nil) (.cons (.ifs (.cmp .eq (.idxc (.var 0) 1) (.var 2)) (.cons (.ret (.call s (.cons (.var 1) (.cons (.var 2) (.cons (.cst (.int 0)) .nil))) [])) .nil) .nil) (.cons (.ret (.ifx (.cmp .gt (.idxc (.var 0) 1) (.var 2)) (.tup (.cons (.cst (.str (tg 0))) (.cons (.bin .sub (.idxc (.var 0) 1) (.cst (.int 1))) .nil))) (.var 0))) .nil))))⟩
theorem lput_aux {s i : Nat} (hs : fns[s]? = some (shiftD s)) (hi : fns[i]? = some (lputD s i)) {u : Tm} : ∀ (t : Tm) (l : Int) (k : Nat) (Q : PQ) (E : PX), t.dep + u.dep ≤ k → Q (t.put l u).pv S → runF T fns k i [t.pv, u.pv, .int l] S Q E := by
  intro t
  induction t with
  | v n =>
    intro l k Q E hk h
    obtain ⟨k, rfl⟩ : ∃ j, k = j + 1 := ⟨k - 1, by simp [Tm.dep] at hk; omega⟩
    refine run_in hi rfl fun wf un => ?_
    simp only [lputD, Tm.pv, Tm.put] at h ⊢
    walk_at "pv"
    have hu := u.dep_pos
    by_cases h2 : n = l
    · rw [if_neg (by omega), if_pos h2] at h
      refine .inr ⟨h2, ?_⟩
      subst h2
      exact shift_ok (by simp only [Tm.dep] at hk; omega) (.inl h)
    · refine .inl ⟨h2, ?_⟩
      by_cases h1 : n < l
      · rw [if_pos h1] at h
        exact .inl ⟨by omega, .inl h⟩
      · rw [if_neg h1, if_neg h2] at h
        exact .inr ⟨by omega, .inl h⟩
  | l b ih =>
    intro l k Q E hk h
    simp only [Tm.dep] at hk
    obtain ⟨k, rfl⟩ : ∃ j, k = j + 1 := ⟨k - 1, by omega⟩
    refine run_in hi rfl fun wf un => ?_
    simp only [lputD, Tm.pv, Tm.put] at h ⊢
    walk_at "pv"
    exact ih _ _ _ _ (by omega) (.inl h)
  | a f x i1 i2 =>
    intro l k Q E hk h
    simp only [Tm.dep] at hk
    obtain ⟨k, rfl⟩ : ∃ j, k = j + 1 := ⟨k - 1, by omega⟩
    refine run_in hi rfl fun wf un => ?_
    simp only [lputD, Tm.pv, Tm.put] at h ⊢
    walk_at "pv"
    refine i1 _ _ _ _ (by omega) ?_
    exact i2 _ _ _ _ (by omega) (.inl h)
theorem lput_ok {s i k : Nat} {t u : Tm} {l : Int} (hk : t.dep + u.dep ≤ k) (h : Q (t.put l u).pv S) (hi : fns[i]? = some (lputD s i) := by first | assumption | rfl) (hs : fns[s]? = some (shiftD s) := by first | assumption | rfl) : runF T fns k i [t.pv, u.pv, .int l] S Q E := lput_aux hs hi t l k Q E hk h
end
end Pv
set_option Elab.async false
set_option linter.all false
set_option maxRecDepth 100000
set_option maxHeartbeats 1000000
/-! Lt2: heads of terms, eta, first beta places; by bodies. -/
namespace Pv
open PySem
local macro_rules | `(tactic| walk_at "pv") => `(tactic| simp [wpSs, wpS, wpE, wpT, wpEs, wpTs, wpO, wpI, wpG, startP, L2.CMul, L2.CDiv, L2.CPow, tg_inj, sizeLine, eqB_tup, -List.getD_eq_getElem?_getD])
theorem sto_get (S J : Store) (i : Nat) : (S ++ J)[S.length + i]? = J[i]? := by
  rw [List.getElem?_append_right (by omega), Nat.add_sub_cancel_left]
theorem sto_get0 (S J : Store) : (S ++ J)[S.length]? = J[0]? := sto_get S J 0
theorem sto_at {A B : Store} {x : Mo} {n : Nat} (h : n = A.length) : (A ++ x :: B)[n]? = some x := by
  rw [h, sto_get0]; rfl
theorem sto_set (S J : Store) (i : Nat) (o : Mo) : (S ++ J).set (S.length + i) o = S ++ J.set i o := by
  rw [List.set_append_right _ _ (by omega), Nat.add_sub_cancel_left]
theorem sto_set0 (S J : Store) (o : Mo) : (S ++ J).set S.length o = S ++ J.set 0 o := sto_set S J 0 o
theorem sto_old {S J : Store} {r : Nat} {o : Mo} (h : S[r]? = some o) : (S ++ J)[r]? = some o := by
  rw [List.getElem?_append_left (List.getElem?_eq_some_iff.1 h).1]; exact h
theorem Tm.under (t : Tm) (n : Nat) : t.pv.under n = true := t.gd.under n
namespace Tm
def frees : Tm → Int → List Int
  | v i, d => if d ≤ i then [i - d] else []
  | l b, d => b.frees (d + 1)
  | a f x, d => f.frees d ++ x.frees d
theorem frees_len : ∀ (t : Tm) (d : Int), ((t.frees d).length : Int) ≤ t.size := by
  intro t
  induction t with
  | v i => intro d; simp only [frees, size]; split <;> simp
  | l b h => intro d; have := h (d + 1); simp only [frees, size]; omega
  | a f x h1 h2 => intro d; have := h1 d; have := h2 d; simp only [frees, size, List.length_append]; omega
theorem frees_mem : ∀ (t : Tm) (d n : Int), 0 ≤ n → (n ∈ t.frees d ↔ t.free (n + d) = true) := by
  intro t
  induction t with
  | v i =>
    intro d n hn
    simp only [frees, free, decide_eq_true_eq]
    split
    · simp; omega
    · simp; omega
  | l b h => intro d n hn; simp only [frees, free]; rw [h _ _ hn]; rw [Int.add_assoc]
  | a f x h1 h2 => intro d n hn; simp only [frees, free, List.mem_append, Bool.or_eq_true]; rw [h1 _ _ hn, h2 _ _ hn]
end Tm
theorem inB_ints (n : Int) (xs : List Int) : inB (.int n) (xs.map .int) = decide (n ∈ xs) := by
  induction xs with
  | nil => rfl
  | cons x xs ih =>
    simp only [inB, List.map_cons, List.any_cons] at ih ⊢
    rw [ih]
    have e : eqF (.int x) (.int n) = decide (x = n) := eqB_ii
    rw [e]
    by_cases h : n = x
    · subst h; simp
    · have h' : ¬ x = n := fun z => h z.symm
      simp [h, h']
theorem flat_ints (xs : List Int) : (xs.map PV.int).all flatP = true := by simp [flatP]
theorem in_ints {n : Int} {xs : List Int} {S : Store} {R : Bool → Prop} (h : R (decide (n ∈ xs))) : inAny (.int n) (xs.map .int) S R := .inl ⟨⟨rfl, flat_ints _⟩, by rw [inB_ints]; exact h⟩
section
variable {T : Tab} {fns : List FD} {S : Store} {Q : PQ} {E : PX}
/-- _law_size -/
def sizeD (i : Nat) : FD := ⟨1, 1, (.cons (.ifs (.cmp .eq (.idxc (.var 0) 0) (.cst (.str (tg 0)))) (.cons (.ret (.cst (.int 1))) .nil) .nil) (.cons (.ifs (.cmp .eq (.idxc (.var 0) 0) (.cst (.str (tg 1)))) (.cons (.ret (.bin .add (.cst (.int 1)) (.call i (.cons (.idxc (.var 0) 1) .nil) []))) .nil) .nil) (.cons (.ret (.bin .add (.bin .add (.cst (.int 1)) (.call i (.cons (.idxc (.var 0) 1) .nil) [])) (.call i (.cons (.idxc (.var 0) 2) .nil) []))) .nil)))⟩
theorem size_aux {i : Nat} (hi : fns[i]? = some (sizeD i)) : ∀ (t : Tm) (k : Nat) (Q : PQ) (E : PX), t.dep ≤ k → Q (.int t.size) S → runF T fns k i [t.pv] S Q E := by
  intro t
  induction t with
  | v n =>
    intro k Q E hk h
    obtain ⟨k, rfl⟩ : ∃ j, k = j + 1 := ⟨k - 1, by simp [Tm.dep] at hk; omega⟩
    refine run_in hi rfl fun wf un => ?_
    simp only [sizeD, Tm.pv, Tm.size] at h ⊢
    walk_at "pv"
    exact .inl h
  | l b ih =>
    intro k Q E hk h
    simp only [Tm.dep] at hk
    obtain ⟨k, rfl⟩ : ∃ j, k = j + 1 := ⟨k - 1, by omega⟩
    refine run_in hi rfl fun wf un => ?_
    simp only [sizeD, Tm.pv, Tm.size] at h ⊢
    walk_at "pv"
    refine ih _ _ _ (by omega) ?_
    walk_at "pv"
    exact .inl h
  | a f x i1 i2 =>
    intro k Q E hk h
    simp only [Tm.dep] at hk
    obtain ⟨k, rfl⟩ : ∃ j, k = j + 1 := ⟨k - 1, by omega⟩
    refine run_in hi rfl fun wf un => ?_
    simp only [sizeD, Tm.pv, Tm.size] at h ⊢
    walk_at "pv"
    refine i1 _ _ _ (by omega) ?_
    walk_at "pv"
    refine i2 _ _ _ (by omega) ?_
    walk_at "pv"
    exact .inl h
theorem size_ok {i k : Nat} {t : Tm} (hk : t.dep ≤ k) (h : Q (.int t.size) S) (hi : fns[i]? = some (sizeD i) := by first | assumption | rfl) : runF T fns k i [t.pv] S Q E := size_aux hi t k Q E hk h
/-- _law_frees -/
def freesD (i : Nat) : FD := ⟨2, 2, (.cons (.ifs (.cmp .eq (.idxc (.var 0) 0) (.cst (.str (tg 0)))) (.cons (.ret (.ifx (.cmp .ge (.idxc (.var 0) 1) (.var 1)) (.lst (.cons (.bin .sub (.idxc (.var 0) 1) (.var 1)) .nil)) (.lst .nil))) .nil) .nil) (.cons (.ifs (.cmp .eq (.idxc (.var 0) 0) (.cst (.str (tg 1)))) (.cons (.ret (.call i (.cons (.idxc (.var 0) 1) (.cons (.bin .add (.var 1) (.cst (.int 1))) .nil)) [])) .nil) .nil) (.cons (.ret (.bin .add (.call i (.cons (.idxc (.var 0) 1) (.cons (.var 1) .nil)) []) (.call i (.cons (.idxc (.var 0) 2) (.cons (.var 1) .nil)) []))) .nil)))⟩
theorem frees_aux {i : Nat} (hi : fns[i]? = some (freesD i)) : ∀ (t : Tm) (d : Int) (k : Nat) (S : Store) (Q : PQ) (E : PX), t.dep ≤ k → t.size ≤ 1000000 →
    (∀ J, Q (.ref (S.length + J.length)) (S ++ J ++ [.lst ((t.frees d).map .int)])) → runF T fns k i [t.pv, .int d] S Q E := by
  intro t
  induction t with
  | v n =>
    intro d k S Q E hk hs h
    obtain ⟨k, rfl⟩ : ∃ j, k = j + 1 := ⟨k - 1, by simp [Tm.dep] at hk; omega⟩
    refine run_in hi rfl fun wf un => ?_
    simp only [freesD, Tm.pv, Tm.frees] at h ⊢
    have h := h []
    walk_at "pv"
    by_cases hn : d ≤ n
    · rw [if_pos hn] at h
      exact .inr ⟨hn, .inl (by simpa using h)⟩
    · rw [if_neg hn] at h
      exact .inl ⟨by omega, .inl (by simpa using h)⟩
  | l b ih =>
    intro d k S Q E hk hs h
    simp only [Tm.dep, Tm.size] at hk hs
    obtain ⟨k, rfl⟩ : ∃ j, k = j + 1 := ⟨k - 1, by omega⟩
    refine run_in hi rfl fun wf un => ?_
    simp only [freesD, Tm.pv, Tm.frees] at h ⊢
    walk_at "pv"
    exact ih _ _ _ _ _ (by omega) (by omega) fun J => .inl (h J)
  | a f x i1 i2 =>
    intro d k S Q E hk hs h
    have z1 := f.size_pos
    have z2 := x.size_pos
    simp only [Tm.dep, Tm.size] at hk hs
    obtain ⟨k, rfl⟩ : ∃ j, k = j + 1 := ⟨k - 1, by omega⟩
    refine run_in hi rfl fun wf un => ?_
    simp only [freesD, Tm.pv, Tm.frees] at h ⊢
    walk_at "pv"
    refine i1 _ _ _ _ _ (by omega) (by omega) fun J1 => ?_
    refine i2 _ _ _ _ _ (by omega) (by omega) fun J2 => ?_
    have y1 := f.frees_len d
    have y2 := x.frees_len d
    refine ⟨_, _, sto_old (sto_old (sto_at (by simp))), sto_at (by simp; omega), by simp [sizeLine]; omega, .inl ?_⟩
    have h := h (J1 ++ [.lst ((f.frees d).map .int)] ++ J2 ++ [.lst ((x.frees d).map .int)])
    simpa [Nat.add_assoc] using h
theorem frees_ok {i k : Nat} {t : Tm} {d : Int} (hk : t.dep ≤ k) (hs : t.size ≤ 1000000) (h : ∀ J, Q (.ref (S.length + J.length)) (S ++ J ++ [.lst ((t.frees d).map .int)])) (hi : fns[i]? = some (freesD i) := by first | assumption | rfl) : runF T fns k i [t.pv, .int d] S Q E := frees_aux hi t d k S Q E hk hs h
/-- is_beta -/
def isBetaD : FD := ⟨1, 1, (.cons (.ret (.and (.cmp .eq (.idxc (.var 0) 0) (.cst (.str (tg 2)))) (.cmp .eq (.idxc (.idxc (.var 0) 1) 0) (.cst (.str (tg 1)))))) .nil)⟩
def Tm.isB : Tm → Bool
  | .a f _ => f.isL
  | _ => false
theorem Tm.nf_a (f x : Tm) : (Tm.a f x).nf = (!f.isL && f.nf && x.nf) := rfl
theorem isbeta_ok {i k : Nat} {t : Tm} (h : Q (.bl t.isB) S) (hi : fns[i]? = some isBetaD := by first | assumption | rfl) : runF T fns (k + 1) i [t.pv] S Q E := by
  refine run_in hi rfl fun wf un => ?_
  simp only [isBetaD]
  cases t with
  | v n => simp only [Tm.pv, Tm.isB] at h ⊢; walk_at "pv"; exact .inl h
  | l b => simp only [Tm.pv, Tm.isB] at h ⊢; walk_at "pv"; exact .inl h
  | a f x => cases f <;> (simp only [Tm.pv, Tm.isB, Tm.isL] at h ⊢; walk_at "pv"; exact .inl h)
/-- first_beta -/
def firstBetaD (c_is_beta i : Nat) : FD := ⟨2, 3, (.cons (.ifs (.cmp .eq (.idxc (.var 0) 0) (.cst (.str (tg 0)))) (.cons (.ret (.cst .non)) .nil) .nil) (.cons (.ifs (.cmp .eq (.idxc (.var 0) 0) (.cst (.str (tg 1)))) (.cons (.ret (.call i (.cons (.idxc (.var 0) 1) (.cons (.bin .add (.var 1) (.tup (.cons (.cst (.int 0)) .nil))) .nil)) [])) .nil) .nil) (.cons (.ifs (.call c_is_beta (.cons (.var 0) .nil) []) (.cons (.ret (.var 1)) .nil) .nil) (.cons (.asg (.nm 2) (.call i (.cons (.idxc (.var 0) 1) (.cons (.bin .add (.var 1) (.tup (.cons (.cst (.int 0)) .nil))) .nil)) [])) (.cons (.ret (.ifx (.cmp .is (.var 2) (.cst .non)) (.call i (.cons (.idxc (.var 0) 2) (.cons (.bin .add (.var 1) (.tup (.cons (.cst (.int 1)) .nil))) .nil)) []) (.var 2))) .nil)))))⟩
/-- the first beta place -/
def Tm.fb : Tm → List Int → Option (List Int)
  | .v _, _ => none
  | .l b, p => b.fb (p ++ [0])
  | .a f x, p => if f.isL = true then some p else match f.fb (p ++ [0]) with
    | none => x.fb (p ++ [1])
    | some q => some q
def plPV (p : List Int) : PV := .tup (p.map .int)
def optPl : Option (List Int) → PV
  | none => .non
  | some p => plPV p
theorem Tm.fb_nf : ∀ (t : Tm) (p : List Int), t.nf = true → t.fb p = none := by
  intro t
  induction t with
  | v i => intro p _; rfl
  | l b h => intro p hn; exact h _ hn
  | a f x h1 h2 =>
    intro p hn
    simp only [Tm.nf, Bool.and_eq_true, Bool.not_eq_true'] at hn
    simp only [Tm.fb, hn.1.1, h1 _ hn.1.2, h2 _ hn.2]
    rfl
theorem firstbeta_aux {b i : Nat} (hi : fns[i]? = some (firstBetaD b i)) (hb : fns[b]? = some isBetaD) : ∀ (t : Tm) (p : List Int) (k : Nat) (Q : PQ) (E : PX), t.dep + 1 ≤ k → p.length + t.dep ≤ 1000000 → Q (optPl (t.fb p)) S → runF T fns k i [t.pv, plPV p] S Q E := by
  intro t
  induction t with
  | v n =>
    intro p k Q E hk hp h
    obtain ⟨k, rfl⟩ : ∃ j, k = j + 1 := ⟨k - 1, by simp [Tm.dep] at hk; omega⟩
    refine run_in hi rfl fun wf un => ?_
    simp only [firstBetaD, Tm.pv, Tm.fb, optPl] at h ⊢
    walk_at "pv"
    exact .inl h
  | l b ih =>
    intro p k Q E hk hp h
    simp only [Tm.dep] at hk hp
    obtain ⟨k, rfl⟩ : ∃ j, k = j + 1 := ⟨k - 1, by omega⟩
    refine run_in hi rfl fun wf un => ?_
    simp only [firstBetaD, Tm.pv, Tm.fb, plPV] at h ⊢
    walk_at "pv"
    have := ih (p ++ [0]) k (fun v S' => Gc S.length v S' Q) (fun x S' => GcX S.length x S' E) (by omega) (by simp; omega) (.inl h)
    simp only [plPV, List.map_append, List.map_cons, List.map_nil] at this
    exact ⟨by omega, this⟩
  | a f x i1 i2 =>
    intro p k Q E hk hp h
    simp only [Tm.dep] at hk hp
    obtain ⟨k, rfl⟩ : ∃ j, k = j + 2 := ⟨k - 2, by omega⟩
    refine run_in hi rfl fun wf un => ?_
    simp only [firstBetaD]
    rw [show (Tm.a f x).pv = .tup [.str (tg 2), f.pv, x.pv] from rfl]
    walk_at "pv"
    rw [show PV.tup [.str (tg 2), f.pv, x.pv] = (Tm.a f x).pv from rfl]
    refine isbeta_ok ?_
    simp only [Tm.isB, Tm.fb, Tm.pv, plPV] at h ⊢
    cases hf : f.isL with
    | true => rw [hf] at h; simp; exact .inl h
    | false =>
      rw [hf] at h
      walk_at "pv"
      refine ⟨by omega, ?_⟩
      have h1 := i1 (p ++ [0]) (k + 1)
      simp only [plPV, List.map_append, List.map_cons, List.map_nil] at h1
      refine h1 _ _ (by omega) (by simp; omega) ?_
      cases e : f.fb (p ++ [0]) with
      | none =>
        simp only [e] at h
        simp only [optPl]
        walk_at "pv"
        have h2 := i2 (p ++ [1]) (k + 1)
        simp only [plPV, List.map_append, List.map_cons, List.map_nil] at h2
        exact ⟨by omega, h2 _ _ (by omega) (by simp; omega) (.inl h)⟩
      | some q =>
        simp only [e] at h
        simp only [optPl, plPV]
        walk_at "pv"
        exact .inl h
theorem firstbeta_ok {b i k : Nat} {t : Tm} {p : List Int} (hk : t.dep + 1 ≤ k) (hp : p.length + t.dep ≤ 1000000) (h : Q (optPl (t.fb p)) S) (hi : fns[i]? = some (firstBetaD b i) := by first | assumption | rfl) (hb : fns[b]? = some isBetaD := by first | assumption | rfl) : runF T fns k i [t.pv, plPV p] S Q E := firstbeta_aux hi hb t p k Q E hk hp h
theorem firstbeta0_ok {b i k : Nat} {t : Tm} (hk : t.dep + 1 ≤ k) (hp : t.dep ≤ 1000000) (h : Q (optPl (t.fb [])) S) (hi : fns[i]? = some (firstBetaD b i) := by first | assumption | rfl) (hb : fns[b]? = some isBetaD := by first | assumption | rfl) : runF T fns k i [t.pv, .tup []] S Q E := firstbeta_aux hi hb t [] k Q E hk (by simpa using hp) h
/-- is_normal -/
def isNormalD (c_is_term c_first_beta : Nat) : FD := ⟨1, 1, (.cons (.ret (.and (.call c_is_term (.cons (.var 0) .nil) []) (.cmp .is (.call c_first_beta (.cons (.var 0) .nil) [(.tup [])]) (.cst .non)))) .nil)⟩
theorem isnormal_ok {j b i k t0 n0 n1 : Nat} {t : Tm} (hk : t.dep + 3 ≤ k) (hp : t.dep ≤ 1000000) (hc : t.ok) (h : Q (.bl (t.fb []).isNone) S) (hi : fns[i]? = some (isNormalD t0 j) := by first | assumption | rfl) (hj : fns[j]? = some (firstBetaD b j) := by first | assumption | rfl) (hb : fns[b]? = some isBetaD := by first | assumption | rfl)
    (ht : fns[t0]? = some (isTermD n1 t0) := by first | assumption | rfl) (h1 : fns[n1]? = some (isNatD n0) := by first | assumption | rfl) (h0 : fns[n0]? = some isIntD := by first | assumption | rfl) : runF T fns k i [t.pv] S Q E := by
  obtain ⟨k, rfl⟩ : ∃ j, k = j + 1 := ⟨k - 1, by omega⟩
  refine run_in hi rfl fun wf un => ?_
  simp only [isNormalD]
  walk_at "pv"
  refine isterm_ok (by omega) hc ?_
  simp
  refine firstbeta0_ok (by omega) hp ?_
  cases e : t.fb [] with
  | none => rw [e] at h; simp only [optPl]; simp; exact .inl h
  | some q => rw [e] at h; simp only [optPl, plPV]; simp; exact .inl h
/-- check_normal -/
def checkNormalD (c_is_term c_first_beta x_InvalidNormal : Nat) : FD := ⟨1, 1, (.cons (.ifs (.or (.not (.call c_is_term (.cons (.var 0) .nil) [])) (.cmp .isnot (.call c_first_beta (.cons (.var 0) .nil) [(.tup [])]) (.cst .non))) (.cons (.raise x_InvalidNormal) .nil) .nil) .nil)⟩
theorem checknormal_ok {j b i k t0 n0 n1 e0 : Nat} {t : Tm} (hk : t.dep + 3 ≤ k) (hp : t.dep ≤ 1000000) (hc : t.ok) (hn : t.nf = true) (h : Q .non S) (hi : fns[i]? = some (checkNormalD t0 j e0) := by first | assumption | rfl) (hj : fns[j]? = some (firstBetaD b j) := by first | assumption | rfl) (hb : fns[b]? = some isBetaD := by first | assumption | rfl)
    (ht : fns[t0]? = some (isTermD n1 t0) := by first | assumption | rfl) (h1 : fns[n1]? = some (isNatD n0) := by first | assumption | rfl) (h0 : fns[n0]? = some isIntD := by first | assumption | rfl) : runF T fns k i [t.pv] S Q E := by
  obtain ⟨k, rfl⟩ : ∃ j, k = j + 1 := ⟨k - 1, by omega⟩
  refine run_in hi rfl fun wf un => ?_
  simp only [checkNormalD]
  walk_at "pv"
  refine isterm_ok (by omega) hc ?_
  simp
  refine firstbeta0_ok (by omega) hp ?_
  rw [t.fb_nf _ hn]
  simp [optPl]
  exact .inl h
end
end Pv
set_option Elab.async false
set_option linter.all false
set_option maxRecDepth 100000
set_option maxHeartbeats 1000000
/-! Lt3: eta forms, opened and closed terms; by bodies. -/
namespace Pv
open PySem
local macro_rules | `(tactic| walk_at "pv") => `(tactic| simp [wpSs, wpS, wpE, wpT, wpEs, wpTs, wpO, wpI, wpG, startP, L2.CMul, L2.CDiv, L2.CPow, tg_inj, sizeLine, eqB_tup, -List.getD_eq_getElem?_getD])
def Tm.isE : Tm → Bool
  | .l b => b.etaB
  | _ => false
section
variable {T : Tab} {fns : List FD} {S : Store} {Q : PQ} {E : PX}
@[simp] theorem eqQ_var {g : Bool → Bool} {x : Tm} {i : Int} : eqQ g x.pv (.tup [.str (tg 0), .int i]) S Q = Q (.bl (g (decide (x = .v i)))) S :=
  tm_eqQ (t := x) (u := .v i) (by simp only [Tm.dep]; omega)
/-- is_eta -/
def isEtaD (c_is_free : Nat) : FD := ⟨1, 1, (.cons (.ifs (.or (.cmp .ne (.idxc (.var 0) 0) (.cst (.str (tg 1)))) (.or (.cmp .ne (.idxc (.idxc (.var 0) 1) 0) (.cst (.str (tg 2)))) (.cmp .ne (.idxc (.idxc (.var 0) 1) 2) (.tup (.cons (.cst (.str (tg 0))) (.cons (.cst (.int 0)) .nil)))))) (.cons (.ret (.cst (.bl false))) .nil) .nil) (.cons (.ret (.not (.call c_is_free (.cons (.cst (.int 0)) (.cons (.idxc (.idxc (.var 0) 1) 1) .nil)) []))) .nil))⟩
theorem iseta_ok {i j k : Nat} {t : Tm} (hk : t.dep ≤ k) (h : Q (.bl t.isE) S) (hi : fns[i]? = some (isEtaD j) := by first | assumption | rfl) (hj : fns[j]? = some (isFreeD j) := by first | assumption | rfl) : runF T fns (k + 1) i [t.pv] S Q E := by
  refine run_in hi rfl fun wf un => ?_
  simp only [isEtaD]
  cases t with
  | v n => simp only [Tm.pv, Tm.isE] at h ⊢; walk_at "pv"; exact .inl h
  | a f x => simp only [Tm.pv, Tm.isE] at h ⊢; walk_at "pv"; exact .inl h
  | l b =>
    cases b with
    | v n => simp only [Tm.pv, Tm.isE, Tm.etaB] at h ⊢; walk_at "pv"; exact .inl h
    | l b => simp only [Tm.pv, Tm.isE, Tm.etaB] at h ⊢; walk_at "pv"; exact .inl h
    | a g x =>
      simp only [Tm.pv, Tm.isE, Tm.etaB] at h ⊢
      simp only [Tm.dep] at hk
      walk_at "pv"
      by_cases e : x = .v 0
      · refine .inl ⟨e, ?_⟩
        subst e
        refine isfree_ok (by omega) ?_
        simp at h ⊢
        exact .inl h
      · refine .inr ⟨e, ?_⟩
        simp [e] at h
        exact .inl h
/-- eta_part -/
def etaPartD (c_put_first : Nat) : FD := ⟨1, 1, (.cons (.ret (.call c_put_first (.cons (.idxc (.idxc (.var 0) 1) 1) (.cons (.tup (.cons (.cst (.str (tg 0))) (.cons (.cst (.int 0)) .nil))) .nil)) [])) .nil)⟩
theorem etapart_ok {i j p s k : Nat} {g x : Tm} (hk : g.dep + 3 ≤ k) (h : Q (g.put 0 (.v 0)).pv S) (hi : fns[i]? = some (etaPartD j) := by first | assumption | rfl) (hj : fns[j]? = some (putFirstD p) := by first | assumption | rfl) (hp : fns[p]? = some (putD s p) := by first | assumption | rfl) (hs : fns[s]? = some (shiftD s) := by first | assumption | rfl) : runF T fns k i [(Tm.l (.a g x)).pv] S Q E := by
  obtain ⟨k, rfl⟩ : ∃ j, k = j + 1 := ⟨k - 1, by omega⟩
  refine run_in hi rfl fun wf un => ?_
  simp only [etaPartD, Tm.pv]
  walk_at "pv"
  exact putfirst_ok (t := g) (u := .v 0) (by simp only [Tm.dep]; omega) (.inl h)
/-- eta_form -/
def etaFormD (c_is_eta c_eta_part i : Nat) : FD := ⟨1, 2, (.cons (.ifs (.cmp .eq (.idxc (.var 0) 0) (.cst (.str (tg 0)))) (.cons (.ret (.var 0)) .nil) .nil) (.cons (.ifs (.cmp .eq (.idxc (.var 0) 0) (.cst (.str (tg 2)))) (.cons (.ret (.tup (.cons (.cst (.str (tg 2))) (.cons (.call i (.cons (.idxc (.var 0) 1) .nil) []) (.cons (.call i (.cons (.idxc (.var 0) 2) .nil) []) .nil))))) .nil) .nil) (.cons (.asg (.nm 1) (.tup (.cons (.cst (.str (tg 1))) (.cons (.call i (.cons (.idxc (.var 0) 1) .nil) []) .nil)))) (.cons (.ret (.ifx (.call c_is_eta (.cons (.var 1) .nil) []) (.call c_eta_part (.cons (.var 1) .nil) []) (.var 1))) .nil))))⟩
theorem etaform_aux {e p i j q s f : Nat} (hi : fns[i]? = some (etaFormD e p i)) (he : fns[e]? = some (isEtaD f)) (hf : fns[f]? = some (isFreeD f)) (hp : fns[p]? = some (etaPartD j)) (hj : fns[j]? = some (putFirstD q)) (hq : fns[q]? = some (putD s q)) (hs : fns[s]? = some (shiftD s)) :
    ∀ (t : Tm) (k : Nat) (Q : PQ) (E : PX), t.dep + 4 ≤ k → Q t.eta.pv S → runF T fns k i [t.pv] S Q E := by
  intro t
  induction t with
  | v n =>
    intro k Q E hk h
    obtain ⟨k, rfl⟩ : ∃ j, k = j + 1 := ⟨k - 1, by omega⟩
    refine run_in hi rfl fun wf un => ?_
    simp only [etaFormD, Tm.pv, Tm.eta] at h ⊢
    walk_at "pv"
    exact .inl h
  | a f x i1 i2 =>
    intro k Q E hk h
    simp only [Tm.dep] at hk
    obtain ⟨k, rfl⟩ : ∃ j, k = j + 1 := ⟨k - 1, by omega⟩
    refine run_in hi rfl fun wf un => ?_
    simp only [etaFormD, Tm.pv, Tm.eta] at h ⊢
    walk_at "pv"
    refine i1 _ _ _ (by omega) ?_
    exact i2 _ _ _ (by omega) (.inl h)
  | l b ih =>
    intro k Q E hk h
    simp only [Tm.dep] at hk
    obtain ⟨k, rfl⟩ : ∃ j, k = j + 2 := ⟨k - 2, by omega⟩
    refine run_in hi rfl fun wf un => ?_
    simp only [etaFormD, Tm.pv, Tm.eta] at h ⊢
    walk_at "pv"
    refine ih _ _ _ (by omega) ?_
    have hd := b.eta_dep
    generalize b.eta = c at h hd
    rw [show PV.tup [.str (tg 1), c.pv] = (Tm.l c).pv from rfl]
    refine iseta_ok (by simp only [Tm.dep]; omega) ?_
    simp only [Tm.isE]
    cases c with
    | v n => simp only [Tm.etaL, Tm.etaB] at h ⊢; simp; exact .inl h
    | l b => simp only [Tm.etaL, Tm.etaB] at h ⊢; simp; exact .inl h
    | a g x =>
      simp only [Tm.etaL] at h
      cases eb : (Tm.a g x).etaB with
      | true =>
        rw [eb] at h
        simp
        simp only [Tm.dep] at hd
        exact etapart_ok (by omega) (.inl h)
      | false => rw [eb] at h; simp; exact .inl h
theorem etaform_ok {e p i j q s f k : Nat} {t : Tm} (hk : t.dep + 4 ≤ k) (h : Q t.eta.pv S) (hi : fns[i]? = some (etaFormD e p i) := by first | assumption | rfl) (he : fns[e]? = some (isEtaD f) := by first | assumption | rfl) (hf : fns[f]? = some (isFreeD f) := by first | assumption | rfl) (hp : fns[p]? = some (etaPartD j) := by first | assumption | rfl) (hj : fns[j]? = some (putFirstD q) := by first | assumption | rfl) (hq : fns[q]? = some (putD s q) := by first | assumption | rfl) (hs : fns[s]? = some (shiftD s) := by first | assumption | rfl) :
    runF T fns k i [t.pv] S Q E := etaform_aux hi he hf hp hj hq hs t k Q E hk h
/-- are_alike -/
def areAlikeD (c_eta_form : Nat) : FD := ⟨2, 2, (.cons (.ret (.cmp .eq (.call c_eta_form (.cons (.var 0) .nil) []) (.call c_eta_form (.cons (.var 1) .nil) []))) .nil)⟩
theorem alike_ok {e p i j q s f k l : Nat} {t u : Tm} (hk : t.dep + 5 ≤ k) (hk2 : u.dep + 5 ≤ k) (hm : min t.dep u.dep ≤ 63) (h : Q (.bl (decide (t.eta = u.eta))) S) (hl : fns[l]? = some (areAlikeD i) := by first | assumption | rfl) (hi : fns[i]? = some (etaFormD e p i) := by first | assumption | rfl) (he : fns[e]? = some (isEtaD f) := by first | assumption | rfl) (hf : fns[f]? = some (isFreeD f) := by first | assumption | rfl) (hp : fns[p]? = some (etaPartD j) := by first | assumption | rfl) (hj : fns[j]? = some (putFirstD q) := by first | assumption | rfl) (hq : fns[q]? = some (putD s q) := by first | assumption | rfl) (hs : fns[s]? = some (shiftD s) := by first | assumption | rfl) :
    runF T fns k l [t.pv, u.pv] S Q E := by
  obtain ⟨k, rfl⟩ : ∃ j, k = j + 1 := ⟨k - 1, by omega⟩
  refine run_in hl rfl fun wf un => ?_
  simp only [areAlikeD]
  walk_at "pv"
  refine etaform_ok (by omega) ?_
  refine etaform_ok (by omega) ?_
  have := t.eta_dep
  have := u.eta_dep
  rw [tm_eqQ (by omega)]
  exact .inl h
/-- _law_eta -/
def lEtaD (c_law_frees c_law_put i : Nat) : FD := ⟨1, 2, (.cons (.ifs (.cmp .eq (.idxc (.var 0) 0) (.cst (.str (tg 0)))) (.cons (.ret (.var 0)) .nil) .nil) (.cons (.ifs (.cmp .eq (.idxc (.var 0) 0) (.cst (.str (tg 2)))) (.cons (.ret (.tup (.cons (.cst (.str (tg 2))) (.cons (.call i (.cons (.idxc (.var 0) 1) .nil) []) (.cons (.call i (.cons (.idxc (.var 0) 2) .nil) []) .nil))))) .nil) .nil) (.cons (.asg (.nm 1) (.call i (.cons (.idxc (.var 0) 1) .nil) [])) (.cons (.ifs (.and (.cmp .eq (.idxc (.var 1) 0) (.cst (.str (tg 2)))) (.and (.cmp .eq (.idxc (.var 1) 2) (.tup (.cons (.cst (.str (tg 0))) (.cons (.cst (.int 0)) .nil)))) (.cmp .notin (.cst (.int 0)) (.call c_law_frees (.cons (.idxc (.var 1) 1) (.cons (.cst (.int 0)) .nil)) [])))) (.cons (.ret (.call c_law_put (.cons (.idxc (.var 1) 1) (.cons (.tup (.cons (.cst (.str (tg 0))) (.cons (.cst (.int 0)) .nil))) (.cons (.cst (.int 0)) .nil))) [])) .nil) .nil) (.cons (.ret (.tup (.cons (.cst (.str (tg 1))) (.cons (.var 1) .nil)))) .nil)))))⟩
theorem leta_aux {f p s i : Nat} (hi : fns[i]? = some (lEtaD f p i)) (hf : fns[f]? = some (freesD f)) (hp : fns[p]? = some (lputD s p)) (hs : fns[s]? = some (shiftD s)) :
    ∀ (t : Tm) (k : Nat) (Q : PQ) (E : PX), t.dep + 2 ≤ k → t.size ≤ 1000000 → Q t.eta.pv S → runF T fns k i [t.pv] S Q E := by
  intro t
  induction t with
  | v n =>
    intro k Q E hk hz h
    obtain ⟨k, rfl⟩ : ∃ j, k = j + 1 := ⟨k - 1, by omega⟩
    refine run_in hi rfl fun wf un => ?_
    simp only [lEtaD, Tm.pv, Tm.eta] at h ⊢
    walk_at "pv"
    exact .inl h
  | a f x i1 i2 =>
    intro k Q E hk hz h
    have z1 := f.size_pos
    have z2 := x.size_pos
    simp only [Tm.dep, Tm.size] at hk hz
    obtain ⟨k, rfl⟩ : ∃ j, k = j + 1 := ⟨k - 1, by omega⟩
    refine run_in hi rfl fun wf un => ?_
    simp only [lEtaD, Tm.pv, Tm.eta] at h ⊢
    walk_at "pv"
    refine i1 _ _ _ (by omega) (by omega) ?_
    exact i2 _ _ _ (by omega) (by omega) (.inl h)
  | l b ih =>
    intro k Q E hk hz h
    simp only [Tm.dep, Tm.size] at hk hz
    obtain ⟨k, rfl⟩ : ∃ j, k = j + 1 := ⟨k - 1, by omega⟩
    refine run_in hi rfl fun wf un => ?_
    simp only [lEtaD, Tm.pv, Tm.eta] at h ⊢
    walk_at "pv"
    refine ih _ _ _ (by omega) (by omega) ?_
    have hd := b.eta_dep
    have hsz := b.eta_size
    generalize b.eta = c at h hd hsz
    cases c with
    | v n => simp only [Tm.etaL, Tm.etaB, Tm.pv] at h ⊢; walk_at "pv"; exact .inl h
    | l b => simp only [Tm.etaL, Tm.etaB, Tm.pv] at h ⊢; walk_at "pv"; exact .inl h
    | a g x =>
      have z2 := x.size_pos
      simp only [Tm.dep, Tm.size] at hd hsz
      simp only [Tm.pv, Tm.etaL, Tm.etaB] at h ⊢
      walk_at "pv"
      by_cases e : x = .v 0
      · refine .inr ⟨e, ?_⟩
        subst e
        refine frees_ok (by omega) (by omega) fun J => ?_
        walk_at "pv"
        refine in_ints ?_
        have fm := g.frees_mem 0 0 (Int.le_refl 0)
        cases eb : g.free 0 with
        | true =>
          have m : (0 : Int) ∈ g.frees 0 := fm.2 eb
          simp [m]
          simp [eb] at h
          exact Gc.junk wf ((Tm.l (.a g (.v 0))).under S.length) h
        | false =>
          have m : ¬ (0 : Int) ∈ g.frees 0 := fun z => by have := fm.1 z; simp at this; rw [eb] at this; cases this
          simp [m]
          simp [eb] at h
          refine lput_ok (t := g) (u := .v 0) (by simp only [Tm.dep]; omega) ?_
          exact Gc.junk wf (Tm.under _ _) h
      · refine .inl ⟨e, ?_⟩
        simp [e] at h
        exact .inl h
theorem leta_ok {f p s i k : Nat} {t : Tm} (hk : t.dep + 2 ≤ k) (hz : t.size ≤ 1000000) (h : Q t.eta.pv S) (hi : fns[i]? = some (lEtaD f p i) := by first | assumption | rfl) (hf : fns[f]? = some (freesD f) := by first | assumption | rfl) (hp : fns[p]? = some (lputD s p) := by first | assumption | rfl) (hs : fns[s]? = some (shiftD s) := by first | assumption | rfl) : runF T fns k i [t.pv] S Q E := leta_aux hi hf hp hs t k Q E hk hz h
end
end Pv
set_option Elab.async false
set_option linter.all false
set_option maxRecDepth 100000
set_option maxHeartbeats 1000000
/-! Lt4: opened and closed terms; by bodies. -/
namespace Pv
open PySem
local macro_rules | `(tactic| walk_at "pv") => `(tactic| simp [wpSs, wpS, wpE, wpT, wpEs, wpTs, wpO, wpI, wpG, startP, wipeP, L2.CMul, L2.CDiv, L2.CPow, tg_inj, sizeLine, eqB_tup, -List.getD_eq_getElem?_getD])
def Tm.tag : Tm → Nat
  | .v _ => 0
  | .l _ => 1
  | .a _ _ => 2
@[simp] theorem Tm.tag_lt (u : Tm) : u.tag < 64 := by cases u <;> simp [Tm.tag]
theorem Tm.tag_l {u : Tm} : (∃ b, u = .l b) ∨ u.tag ≠ 1 := by cases u <;> simp [Tm.tag]
theorem Tm.tag_a {u : Tm} : (∃ f x, u = .a f x) ∨ u.tag ≠ 2 := by cases u <;> simp [Tm.tag]
theorem Tm.tag_v {u : Tm} : (∃ i, u = .v i) ∨ u.tag ≠ 0 := by cases u <;> simp [Tm.tag]
theorem Tm.core_no {u : Tm} (h : u.tag ≠ 1) : u.core = u ∧ u.cnt = 0 := by cases u <;> simp [Tm.tag, Tm.core, Tm.cnt] at *
theorem Tm.args_no {u : Tm} (h : u.tag ≠ 2) : u.hd = u ∧ u.args = [] := by cases u <;> simp [Tm.tag, Tm.hd, Tm.args] at *
/-- a list or a tuple of these items -/
def IsSeq (S : Store) (w : PV) (xs : List PV) : Prop := w = .tup xs ∨ ∃ r, w = .ref r ∧ S[r]? = some (.lst xs)
theorem IsSeq.more {S J : Store} {w : PV} {xs : List PV} (h : IsSeq S w xs) : IsSeq (S ++ J) w xs := by
  rcases h with h | ⟨r, h1, h2⟩
  · exact .inl h
  · exact .inr ⟨r, h1, sto_old h2⟩
section
variable {T : Tab} {fns : List FD} {S : Store} {Q : PQ} {E : PX}
@[simp] theorem idxc0_tm {u : Tm} : idxcQ 0 u.pv S Q = Q (.str (tg u.tag)) S := by cases u <;> simp [Tm.pv, Tm.tag]
theorem lc_all {α : Type} {src : Src} {d : Nat} {turn : PV → Store → (Option PV → Store → Prop) → Prop} {S0 Sx : Store} {g f : α → PV} {ps : List α} {xs : List PV} (hx : Sx = S0 ++ [.lst []]) (hg : xs = ps.map g) (hd : d = S0.length) (hs : ∀ acc, srcOk src (S0 ++ [.lst acc])) (hl : ps.length ≤ 1000000)
    (ht : ∀ p, p ∈ ps → ∀ acc K, K (some (f p)) (S0 ++ [.lst acc]) → turn (g p) (S0 ++ [.lst acc]) K) (q : Q (.ref d) (S0 ++ [.lst (ps.map f)])) : lcLoop src d turn Q xs Sx := by
  subst hx hg hd
  have main : ∀ (ps : List α) (acc : List PV), acc.length + ps.length ≤ 1000000 → (∀ p, p ∈ ps → ∀ acc K, K (some (f p)) (S0 ++ [.lst acc]) → turn (g p) (S0 ++ [.lst acc]) K) → Q (.ref S0.length) (S0 ++ [.lst (acc ++ ps.map f)]) → lcLoop src S0.length turn Q (ps.map g) (S0 ++ [.lst acc]) := by
    intro ps
    induction ps with
    | nil => intro acc _ _ q; exact ⟨hs acc, by simpa using q⟩
    | cons p ps ih =>
      intro acc hl ht q
      refine ⟨hs acc, ht p (.head _) acc _ ?_⟩
      refine ⟨acc, by simp, by simp at hl; simp [sizeLine]; omega, ?_⟩
      rw [sto_set0]
      exact ih _ (by simp at hl ⊢; omega) (fun y hy => ht y (.tail _ hy)) (by simpa using q)
  exact main ps [] (by simpa using hl) ht (by simpa using q)
theorem iter_seq {w : PV} {xs : List PV} {R : Src → List PV → Prop} (h : IsSeq S w xs) (hr : ∀ src, srcOk src S → (∀ J, srcOk src (S ++ J)) → R src xs) : iterQ w S R := by
  rcases h with rfl | ⟨r, rfl, h⟩
  · exact hr [] trivial fun _ => trivial
  · exact ⟨_, h, rfl, hr _ ⟨h, trivial⟩ fun J => ⟨sto_old h, trivial⟩⟩
/-- opened_part -/
def openedPartD : FD := ⟨1, 3, (.cons (.asg (.nm 1) (.cst (.int 0))) (.cons (.whl (.cmp .eq (.idxc (.var 0) 0) (.cst (.str (tg 1)))) (.cons (.asg (.nm 0) (.idxc (.var 0) 1)) (.cons (.asg (.nm 1) (.bin .add (.var 1) (.cst (.int 1)))) .nil))) (.cons (.asg (.nm 2) (.lst .nil)) (.cons (.whl (.cmp .eq (.idxc (.var 0) 0) (.cst (.str (tg 2)))) (.cons (.expr (.meth .append (.var 2) (.cons (.idxc (.var 0) 2) .nil))) (.cons (.asg (.nm 0) (.idxc (.var 0) 1)) .nil))) (.cons (.ret (.tup (.cons (.var 1) (.cons (.var 0) (.cons (.rev (.var 2)) .nil))))) .nil)))))⟩
theorem opened_ok {i k : Nat} {t : Tm} (hd : t.dep ≤ 1000000) (h : ∀ A, Q (.tup [.int t.cnt, t.core.hd.pv, .ref (S.length + 1)]) (S ++ [.lst A, .lst (t.core.args.map Tm.pv)])) (hi : fns[i]? = some openedPartD := by first | assumption | rfl) : runF T fns (k + 1) i [t.pv] S Q E := by
  refine run_in hi rfl fun wf un => ?_
  simp only [openedPartD]
  walk_at "pv"
  refine ⟨_, while_ind (I := fun n ρ S' => S = S' ∧ ∃ (u : Tm) (c : Nat), n = u.cnt ∧ ρ = [some u.pv, some (.int c), none] ∧ u.core = t.core ∧ c + u.cnt = t.cnt) ?_ t.cnt _ _ ⟨rfl, t, 0, rfl, rfl, rfl, by omega⟩⟩
  rintro n _ _ ⟨rfl, u, c, rfl, rfl, e1, e2⟩ K hK
  rcases u.tag_l with ⟨b, rfl⟩ | hu
  · simp only [Tm.pv, Tm.cnt] at e2 ⊢
    walk_at "pv"
    exact hK _ _ b.cnt rfl ⟨rfl, b, c + 1, rfl, rfl, e1, by omega⟩
  · obtain ⟨e3, e4⟩ := Tm.core_no hu
    have e5 : u = t.core := e3 ▸ e1
    have e6 : c = t.cnt := by omega
    rw [e4] at hK
    subst e5 e6
    walk_at "pv"
    refine .inl ⟨hu, ?_⟩
    have hc := t.core.len_args
    have hcd := t.dep_core
    refine ⟨_, while_ind (I := fun n ρ S' => ∃ (u : Tm) (acc : List Tm), n = u.args.length ∧ ρ = [some u.pv, some (.int t.cnt), some (.ref S.length)] ∧ S' = S ++ [.lst (acc.map Tm.pv)] ∧ u.hd = t.core.hd ∧ u.args ++ acc.reverse = t.core.args) ?_ t.core.args.length _ _ ⟨t.core, [], rfl, rfl, rfl, rfl, by simp⟩⟩
    rintro n _ _ ⟨u, acc, rfl, rfl, rfl, e1, e2⟩ K hK
    have hl := congrArg List.length e2
    simp at hl
    rcases u.tag_a with ⟨f, x, rfl⟩ | hu
    · simp only [Tm.pv, Tm.args] at e2 hl hK ⊢
      simp at hl
      walk_at "pv"
      refine ⟨by omega, ?_⟩
      refine hK _ _ f.args.length (by simp) ⟨f, acc ++ [x], rfl, rfl, by simp, e1, by simpa using e2⟩
    · obtain ⟨e3, e4⟩ := Tm.args_no hu
      rw [e4] at e2
      rw [e3] at e1
      subst e1
      walk_at "pv"
      refine .inl ⟨hu, .inl ?_⟩
      simp at e2
      have := h (acc.map Tm.pv)
      rw [← e2] at this
      simpa [List.map_reverse] using this
/-- closed_part -/
def closedPartD : FD := ⟨3, 5, (.cons (.for_ (.nm 3) (.val (.var 2)) (.cons (.asg (.nm 1) (.tup (.cons (.cst (.str (tg 2))) (.cons (.var 1) (.cons (.var 3) .nil))))) .nil)) (.cons (.for_ (.nm 4) (.rng1 (.var 0)) (.cons (.asg (.nm 1) (.tup (.cons (.cst (.str (tg 1))) (.cons (.var 1) .nil)))) .nil)) (.cons (.ret (.var 1)) .nil)))⟩
theorem closed_ok {i k : Nat} {h0 : Tm} {ps : List Tm} {n : Nat} {w : PV} (hw : IsSeq S w (ps.map Tm.pv)) (hn : n < 1000000) (h : Q (Tm.lams n (Tm.app h0 ps)).pv S) (hi : fns[i]? = some closedPartD := by first | assumption | rfl) : runF T fns (k + 1) i [.int n, h0.pv, w] S Q E := by
  refine run_in hi rfl fun wf un => ?_
  simp only [closedPartD]
  walk_at "pv"
  refine iter_seq hw fun src hs _ => ?_
  refine for_ind (I := fun xs ρ S' => S = S' ∧ ∃ (ds rs : List Tm) (x : Option PV), ps = ds ++ rs ∧ xs = rs.map Tm.pv ∧ ρ = [some (.int n), some (Tm.app h0 ds).pv, some w, x, none]) ?_ ?_ _ _ _ ⟨rfl, [], ps, none, rfl, rfl, rfl⟩
  · rintro y ys _ _ ⟨rfl, ds, rs, x, e1, e2, rfl⟩
    refine ⟨hs, fun K hK => ?_⟩
    cases rs with
    | nil => cases e2
    | cons r rs =>
      simp only [List.map_cons, List.cons.injEq] at e2
      obtain ⟨rfl, rfl⟩ := e2
      walk_at "pv"
      exact hK _ _ ⟨rfl, ds ++ [r], rs, some r.pv, by simp [e1], rfl, by simp [Tm.app_snoc, Tm.pv]⟩
  · rintro _ _ ⟨rfl, ds, rs, x, e1, e2, rfl⟩
    refine ⟨hs, ?_⟩
    have : rs = [] := by cases rs with | nil => rfl | cons r rs => cases e2
    subst this
    simp at e1
    subst e1
    walk_at "pv"
    refine ⟨by simp [rngOk]; omega, ?_⟩
    refine for_ind (I := fun xs ρ S' => S = S' ∧ ∃ (j : Nat) (y : Option PV), xs.length + j = n ∧ ρ = [some (.int n), some (Tm.lams j (Tm.app h0 ps)).pv, some w, x, y]) ?_ ?_ _ _ _ ⟨rfl, 0, none, by simp [rngL], rfl⟩
    · rintro y ys _ _ ⟨rfl, j, z, e1, rfl⟩
      refine ⟨trivial, fun K hK => ?_⟩
      walk_at "pv"
      exact hK _ _ ⟨rfl, j + 1, some y, by simp at e1; omega, rfl⟩
    · rintro _ _ ⟨rfl, j, z, e1, rfl⟩
      refine ⟨trivial, ?_⟩
      simp at e1
      subst e1
      walk_at "pv"
      exact .inl h
/-- raised -/
def raisedD (c_opened_part c_closed_part i : Nat) : FD := ⟨3, 7, (.cons (.ifs (.cmp .eq (.var 1) (.cst (.int 0))) (.cons (.ret (.var 0)) .nil) .nil) (.cons (.asg (.tp [3, 4, 5]) (.call c_opened_part (.cons (.var 0) .nil) [])) (.cons (.asg (.nm 2) (.bin .add (.var 2) (.var 3))) (.cons (.ifs (.cmp .eq (.idxc (.var 4) 0) (.cst (.str (tg 1)))) (.cons (.asg (.nm 4) (.call i (.cons (.var 4) (.cons (.var 1) (.cons (.var 2) .nil))) [])) .nil) (.cons (.ifs (.and (.cmp .eq (.idxc (.var 4) 0) (.cst (.str (tg 0)))) (.cmp .ge (.idxc (.var 4) 1) (.var 2))) (.cons (.asg (.nm 4) (.tup (.cons (.cst (.str (tg 0))) (.cons (.bin .add (.idxc (.var 4) 1) (.var 1)) .nil)))) .nil) .nil) .nil)) (.cons (.ret (.call c_closed_part (.cons (.var 3) (.cons (.var 4) (.cons (.lc [6] (.nm 6) (.val (.var 5)) .nil (.call i (.cons (.var 6) (.cons (.var 1) (.cons (.var 2) .nil))) [])) .nil))) [])) .nil)))))⟩
/-- shift at depth, by opened terms -/
theorem Tm.lams_shift (d l : Int) (n : Nat) (t : Tm) : (Tm.lams n t).shift d l = Tm.lams n (t.shift d (l + n)) := by
  induction n generalizing l with
  | zero => simp [Tm.lams]
  | succ n ih => simp only [Tm.lams, Tm.shift]; rw [ih]; congr 2; congr 1; omega
theorem Tm.shift_open (d l : Int) (t : Tm) : t.shift d l = Tm.lams t.cnt (Tm.app (t.core.hd.shift d (l + t.cnt)) (t.core.args.map (Tm.shift d (l + t.cnt)))) := by
  rw [← Tm.app_shift, Tm.app_args, ← Tm.lams_shift, Tm.lams_core]
theorem Tm.hd_dep : ∀ t : Tm, t.hd.dep ≤ t.dep := by
  intro t
  induction t with
  | v i => exact Nat.le_refl _
  | l b h => exact Nat.le_refl _
  | a f x h1 h2 => simp only [Tm.hd, Tm.dep]; omega
theorem Tm.hd_tag : ∀ t : Tm, t.hd.tag ≠ 2 := by
  intro t
  induction t with
  | v i => simp [Tm.hd, Tm.tag]
  | l b h => simp [Tm.hd, Tm.tag]
  | a f x h1 h2 => exact h1
theorem Tm.hd_l {t b : Tm} (ht : t.tag ≠ 1) (h : t.hd = .l b) : t.args ≠ [] := by
  cases t with
  | v i => cases h
  | l b => exact absurd rfl ht
  | a f x => simp [Tm.args]
theorem Tm.hd_dep_l {t b : Tm} (ht : t.tag ≠ 1) (h : t.hd = .l b) : t.hd.dep < t.dep := by
  cases t with
  | v i => cases h
  | l b => exact absurd rfl ht
  | a f x => have := f.hd_dep; simp only [Tm.hd, Tm.dep]; omega
theorem Tm.core_tag (t : Tm) : t.core.tag ≠ 1 := by
  have := t.isL_core
  revert this
  cases t.core <;> simp [Tm.isL, Tm.tag]
theorem Tm.nf_hd {t : Tm} (h : t.nf = true) : ∃ i, t.core.hd = .v i := by
  have := (Tm.nf_head t.core t.isL_core (by rw [Tm.nf_core]; exact h)).1
  obtain ⟨i, e, _⟩ := this
  exact ⟨i, e⟩
theorem Tm.nf_args {t : Tm} (h : t.nf = true) : ∀ p, p ∈ t.core.args → p.nf = true := (Tm.nf_head t.core t.isL_core (by rw [Tm.nf_core]; exact h)).2
theorem raised_aux {o c i : Nat} (hi : fns[i]? = some (raisedD o c i)) (ho : fns[o]? = some openedPartD) (hc : fns[c]? = some closedPartD) {d : Int} : ∀ (n : Nat) (t : Tm) (l : Int) (k : Nat) (S : Store) (Q : PQ) (E : PX), t.dep ≤ n → n + 1 ≤ k → n ≤ 900000 → t.nf = true → Q (t.shift d l).pv S → runF T fns k i [t.pv, .int d, .int l] S Q E
  | 0, t, l, k, S, Q, E, hn, hk, _, hnf, h => by have := t.dep_pos; omega
  | n + 1, t, l, k, S, Q, E, hn, hk, hb, hnf, h => by
    obtain ⟨k, rfl⟩ : ∃ j, k = j + 2 := ⟨k - 2, by omega⟩
    refine run_in hi rfl fun wf un => ?_
    simp only [raisedD]
    walk_at "pv"
    by_cases h0 : d = 0
    · subst h0; rw [Tm.shift_zero] at h; exact .inr ⟨rfl, .inl h⟩
    · refine .inl ⟨h0, ?_⟩
      refine opened_ok (by omega) fun A => ?_
      have hcd := t.dep_core
      have ha := t.core.len_args
      have hna := Tm.nf_args hnf
      obtain ⟨j, ej⟩ := Tm.nf_hd hnf
      have eo := t.shift_open d l
      rw [ej] at eo
      simp only [Tm.shift] at eo
      rw [ej]
      simp only [Tm.pv]
      have fin : ∀ (z : Int) E', t.shift d l = Tm.lams t.cnt (Tm.app (.v z) (t.core.args.map (Tm.shift d (l + t.cnt)))) → runF T fns (k + 1) c [.int t.cnt, .tup [.str (tg 0), .int z], .ref (S.length + 2)] (S ++ [.lst A, .lst (t.core.args.map Tm.pv)] ++ [.lst (t.core.args.map fun p => (p.shift d (l + t.cnt)).pv)])
          (fun v S' => Gc S.length v S' Q) E' := fun z E' ez => by
        refine closed_ok (h0 := .v z) (ps := t.core.args.map (Tm.shift d (l + t.cnt))) (.inr ⟨_, rfl, ?_⟩) (by omega) ?_
        · exact (sto_at (by simp)).trans (by simp [Function.comp_def])
        · rw [← ez, List.append_assoc]
          exact Gc.junk wf (Tm.under _ _) h
      have step : ∀ p, p ∈ t.core.args → ∀ (acc : List PV) (K : Option PV → Store → Prop) E', K (some (p.shift d (l + t.cnt)).pv) (S ++ [.lst A, .lst (t.core.args.map Tm.pv)] ++ [.lst acc]) → runF T fns (k + 1) i [p.pv, .int d, .int (l + t.cnt)] (S ++ [.lst A, .lst (t.core.args.map Tm.pv)] ++ [.lst acc]) (fun y S4 => K (some y) S4) E' := fun p hp acc K E' hK => by
        have := t.core.dep_args p hp
        exact raised_aux hi ho hc n p _ _ _ _ _ (by omega) (by omega) (by omega) (hna p hp) hK
      walk_at "pv"
      by_cases hj : l + t.cnt ≤ j
      · rw [if_pos hj] at eo
        refine .inr ⟨hj, ?_⟩
        refine lc_all (S0 := S ++ [.lst A, .lst (t.core.args.map Tm.pv)]) (ps := t.core.args) (by simp) rfl (by simp) (fun acc => ⟨by simp, trivial⟩) (by omega) (fun p hp acc K hK => step p hp acc K _ hK) ?_
        exact fin _ _ eo
      · rw [if_neg hj] at eo
        refine .inl ⟨by omega, ?_⟩
        refine lc_all (S0 := S ++ [.lst A, .lst (t.core.args.map Tm.pv)]) (ps := t.core.args) (by simp) rfl (by simp) (fun acc => ⟨by simp, trivial⟩) (by omega) (fun p hp acc K hK => step p hp acc K _ hK) ?_
        exact fin _ _ eo
theorem raised_ok {o c i k : Nat} {t : Tm} {d l : Int} (hk : t.dep + 1 ≤ k) (hb : t.dep ≤ 900000) (hnf : t.nf = true) (h : Q (t.shift d l).pv S) (hi : fns[i]? = some (raisedD o c i) := by first | assumption | rfl) (ho : fns[o]? = some openedPartD := by first | assumption | rfl) (hc : fns[c]? = some closedPartD := by first | assumption | rfl) : runF T fns k i [t.pv, .int d, .int l] S Q E :=
  raised_aux hi ho hc t.dep t l k S Q E (Nat.le_refl _) hk hb hnf h
end
end Pv
set_option Elab.async false
set_option linter.all false
set_option maxRecDepth 100000
set_option maxHeartbeats 1000000
/-! Lt5: terms stretched and held together; by bodies. -/
namespace Pv
open PySem
local macro_rules | `(tactic| walk_at "pv") => `(tactic| simp [wpSs, wpS, wpE, wpT, wpEs, wpTs, wpO, wpI, wpG, startP, wipeP, L2.CMul, L2.CDiv, L2.CPow, tg_inj, sizeLine, eqB_tup, -List.getD_eq_getElem?_getD])
theorem Tm.vars_range (m : Nat) : (List.range m).map (fun (k : Nat) => PV.tup [.str (tg 0), .int ((m : Int) - 1 - k)]) = (Tm.vars m).map Tm.pv := by
  induction m with
  | zero => rfl
  | succ m ih =>
    rw [List.range_succ_eq_map]
    simp only [List.map_cons, List.map_map, Tm.vars, Tm.pv]
    rw [← ih]
    congr 1
    · congr 4; omega
    · apply List.map_congr_left
      intro k _
      simp only [Function.comp_def]
      congr 4; omega
def Tm.hix (t : Tm) : Int := match t.core.hd with
  | .v i => i
  | _ => 0
theorem Tm.hix_nf {t : Tm} (h : t.nf = true) : t.core.hd = .v t.hix := by
  obtain ⟨i, e⟩ := Tm.nf_hd h
  simp only [Tm.hix, e]
namespace Tm
def sHix (t : Tm) (N : Nat) : Int := if 0 ≤ t.hix then t.hix + ((N : Int) - t.cnt) else t.hix
def sArgs (t : Tm) (N : Nat) : List Tm := t.core.args.map (shift ((N : Int) - t.cnt) 0) ++ vars (N - t.cnt)
theorem stretch_nf {t : Tm} (h : t.nf = true) (N : Nat) : stretch t N = lams N (app (v (t.sHix N)) (t.sArgs N)) := by
  rw [stretch, sArgs, hix_nf h]
  simp only [shift, sHix]
  split <;> rfl
theorem app_no {i : Int} (ps : List Tm) : (app (v i) ps).tag ≠ 1 := by
  have := isL_app (i := i) ps
  revert this
  cases app (v i) ps <;> simp [isL, tag]
theorem hd_app {i : Int} (ps : List Tm) : (app (v i) ps).hd = v i ∧ (app (v i) ps).args = ps := by
  induction h : ps.length generalizing ps with
  | zero => rw [List.length_eq_zero_iff.1 h]; exact ⟨rfl, rfl⟩
  | succ n ih =>
    rcases List.eq_nil_or_concat ps with rfl | ⟨qs, x, rfl⟩
    · cases h
    · rw [List.concat_eq_append] at *
      have := ih qs (by simp at h; omega)
      rw [app_snoc]
      simp only [hd, args, this, true_and]
theorem lams_cnt {i : Int} (n : Nat) (ps : List Tm) : (lams n (app (v i) ps)).cnt = n ∧ (lams n (app (v i) ps)).core = app (v i) ps := by
  induction n with
  | zero => have := core_no (app_no (i := i) ps); simp only [lams]; exact ⟨this.2, this.1⟩
  | succ n ih => simp only [lams, cnt, core, ih]; exact ⟨trivial, trivial⟩
theorem lams_hix {i : Int} (n : Nat) (ps : List Tm) : (lams n (app (v i) ps)).hix = i := by
  simp only [hix, (lams_cnt n ps).2, (hd_app ps).1]
theorem sArgs_len (t : Tm) (N : Nat) : (t.sArgs N).length = t.core.args.length + (N - t.cnt) := by simp [sArgs, vars_len]
theorem sArgs_mem {t : Tm} (hn : t.nf = true) {N : Nat} {p : Tm} (hp : p ∈ t.sArgs N) : p.nf = true ∧ p.dep ≤ t.dep - 1 + 1 ∧ (p.dep < t.dep ∨ p.dep = 1) := by
  simp only [sArgs, List.mem_append, List.mem_map] at hp
  rcases hp with ⟨q, hq, rfl⟩ | hp
  · have := t.core.dep_args q hq
    have := t.dep_core
    rw [shift_nf, shift_dep]
    exact ⟨nf_args hn q hq, by omega, .inl (by omega)⟩
  · have := ok_vars _ p hp
    have := t.dep_pos
    exact ⟨‹p.ok ∧ p.nf = true ∧ p.dep = 1›.2.1, by omega, .inr ‹p.ok ∧ p.nf = true ∧ p.dep = 1›.2.2⟩
theorem sArgs_ok {t : Tm} (ho : t.ok) {N : Nat} (hN : t.cnt ≤ N) {p : Tm} (hp : p ∈ t.sArgs N) : p.ok := by
  simp only [sArgs, List.mem_append, List.mem_map] at hp
  rcases hp with ⟨q, hq, rfl⟩ | hp
  · exact shift_ok (by omega) _ _ (ok_args _ (ok_core _ ho) q hq)
  · exact (ok_vars _ p hp).1
theorem stretch_nfT {t : Tm} (h : t.nf = true) (N : Nat) : (stretch t N).nf = true := by
  rw [stretch_nf h, nf_lams]
  exact nf_app _ fun p hp => (sArgs_mem h hp).1
theorem hix_ok {t : Tm} (h : t.nf = true) (ho : t.ok) : 0 ≤ t.hix := by
  obtain ⟨⟨i, e, hi⟩, _⟩ := nf_head t.core t.isL_core (by rw [nf_core]; exact h)
  simp only [hix, e]
  exact hi (ok_core _ ho)
theorem stretch_okT {t : Tm} (h : t.nf = true) (ho : t.ok) {N : Nat} (hN : t.cnt ≤ N) : (stretch t N).ok := by
  rw [stretch_nf h]
  refine ok_lams _ (ok_app _ _ ?_ fun p hp => sArgs_ok ho hN hp)
  have := hix_ok h ho
  simp only [ok, sHix]
  split <;> omega
theorem dep_app : ∀ (ps : List Tm) (h : Tm) (m : Nat), h.dep ≤ m → (∀ p, p ∈ ps → p.dep ≤ m) → (app h ps).dep ≤ m + ps.length := by
  intro ps
  induction ps with
  | nil => intro h m hh _; exact hh
  | cons p ps ih =>
    intro h m hh hp
    have := ih (a h p) (m + 1) (by have := hp p (by simp); simp only [dep]; omega) fun q hq => by have := hp q (by simp [hq]); omega
    simp only [app, List.foldl_cons, List.length_cons] at this ⊢
    omega
theorem stretch_dep {t : Tm} {N : Nat} (hN : t.cnt ≤ N) : (stretch t N).dep ≤ t.dep + 2 * (N - t.cnt) := by
  have e : N = t.cnt + (N - t.cnt) := by omega
  rw [e, stretch_eq, dep_lams, dep_lams]
  have h1 := dep_app (vars (N - t.cnt)) (t.core.shift (N - t.cnt : Nat) 0) t.core.dep (by rw [shift_dep]; exact Nat.le_refl _) fun p hp => by rw [(ok_vars _ p hp).2.2]; exact t.core.dep_pos
  rw [vars_len] at h1
  have := t.dep_core
  omega
end Tm
section
variable {T : Tab} {fns : List FD} {S : Store} {Q : PQ} {E : PX}
theorem u_gd : Gd 1 (.tup [.str (tg 3)]) := .tup _ (by simp) (by simp; exact .str _ (tg_ok 3 (by omega)))
theorem eqQ_u {g : Bool → Bool} {t : Tm} : eqQ g t.pv (.tup [.str (tg 3)]) S Q = Q (.bl (g false)) S := by
  have e : eqQ g t.pv (.tup [.str (tg 3)]) S Q = (eqOk t.pv (.tup [.str (tg 3)]) ∧ Q (.bl (g (eqB t.pv (.tup [.str (tg 3)])))) S) := by cases t <;> rfl
  have b : eqB t.pv (.tup [.str (tg 3)]) = false := by cases t <;> simp [Tm.pv, eqB_tup]
  rw [e, b]
  exact propext ⟨fun h => h.2, fun q => ⟨t.gd.eqOk u_gd (by omega), q⟩⟩
/-- stretch -/
def stretchD (c_opened_part c_raised c_closed_part : Nat) : FD := ⟨2, 8, (.cons (.ifs (.cmp .eq (.var 0) (.tup (.cons (.cst (.str (tg 3))) .nil))) (.cons (.ret (.var 0)) .nil) .nil) (.cons (.asg (.tp [2, 3, 4]) (.call c_opened_part (.cons (.var 0) .nil) [])) (.cons (.asg (.nm 5) (.bin .sub (.var 1) (.var 2))) (.cons (.asg (.nm 4) (.lc [6] (.nm 6) (.val (.var 4)) .nil (.call c_raised (.cons (.var 6) (.cons (.var 5) (.cons (.cst (.int 0)) .nil))) []))) (.cons (.expr (.meth .extend (.var 4) (.cons (.lc [7] (.nm 7) (.rng1 (.var 5)) .nil (.tup (.cons (.cst (.str (tg 0))) (.cons (.bin .sub (.bin .sub (.var 5) (.cst (.int 1))) (.var 7)) .nil)))) .nil))) (.cons (.ret (.call c_closed_part (.cons (.var 1) (.cons (.call c_raised (.cons (.var 3) (.cons (.var 5) (.cons (.cst (.int 0)) .nil))) []) (.cons (.var 4) .nil))) [])) .nil))))))⟩
theorem stretch_ok {i o r c k : Nat} {t : Tm} {N : Nat} (hk : t.dep + 3 ≤ k) (hd : t.dep ≤ 300000) (hN : t.cnt ≤ N) (hb : N ≤ 300000) (hnf : t.nf = true) (h : Q (Tm.stretch t N).pv S) (hi : fns[i]? = some (stretchD o r c) := by first | assumption | rfl) (ho : fns[o]? = some openedPartD := by first | assumption | rfl) (hr : fns[r]? = some (raisedD o c r) := by first | assumption | rfl) (hc : fns[c]? = some closedPartD := by first | assumption | rfl) : runF T fns k i [t.pv, .int N] S Q E := by
  obtain ⟨k, rfl⟩ : ∃ j, k = j + 2 := ⟨k - 2, by omega⟩
  refine run_in hi rfl fun wf un => ?_
  simp only [stretchD]
  walk_at "pv"
  rw [eqQ_u]
  walk_at "pv"
  refine opened_ok (by omega) fun A => ?_
  have hcd := t.dep_core
  have ha := t.core.len_args
  have hna := Tm.nf_args hnf
  walk_at "pv"
  refine lc_all (S0 := S ++ [.lst A, .lst (t.core.args.map Tm.pv)]) (f := fun p => (p.shift ((N : Int) - t.cnt) 0).pv) (ps := t.core.args) (by simp) rfl (by simp) (fun acc => ⟨by simp, trivial⟩) (by omega) (fun p hp acc K hK => ?_) ?_
  · have := t.core.dep_args p hp
    exact raised_ok (by omega) (by omega) (hna p hp) hK
  walk_at "pv"
  refine ⟨by simp [rngOk]; omega, ?_⟩
  refine lc_all (S0 := S ++ [.lst A, .lst (t.core.args.map Tm.pv), .lst (t.core.args.map fun p => (p.shift ((N : Int) - t.cnt) 0).pv)]) (ps := List.range (N - t.cnt)) (g := fun (k : Nat) => .int k) (f := fun (k : Nat) => PV.tup [.str (tg 0), .int (((N - t.cnt : Nat) : Int) - 1 - k)]) (by simp) (by rw [rngL, show ((N : Int) - t.cnt - 0).toNat = N - t.cnt from by omega]; simp) (by simp) (fun acc => trivial) (by simp; omega) (fun p hp acc K hK => ?_) ?_
  · walk_at "pv"
    rw [show ((N - t.cnt : Nat) : Int) = (N : Int) - t.cnt from by omega] at hK
    simpa using hK
  rw [Tm.vars_range]
  walk_at "pv"
  refine ⟨by simp [Tm.vars_len]; omega, ?_⟩
  rw [Tm.hix_nf hnf]
  refine raised_ok (by simp [Tm.dep]; omega) (by simp [Tm.dep]) rfl ?_
  refine closed_ok (ps := t.core.args.map (Tm.shift ((N : Int) - t.cnt) 0) ++ Tm.vars (N - t.cnt)) (.inr ⟨_, rfl, ?_⟩) (by omega) ?_
  · simp [Function.comp_def]
  · have e : Tm.lams N (Tm.app ((Tm.v t.hix).shift ((N : Int) - t.cnt) 0) (t.core.args.map (Tm.shift ((N : Int) - t.cnt) 0) ++ Tm.vars (N - t.cnt))) = Tm.stretch t N := by
      rw [Tm.stretch, Tm.hix_nf hnf]
    rw [e]
    exact Gc.junk wf (Tm.under _ _) h
end
end Pv
set_option Elab.async false
set_option linter.all false
set_option maxRecDepth 100000
set_option maxHeartbeats 1000000
/-! Lt6: where normal terms agree; by bodies. -/
namespace Pv
open PySem
local macro_rules | `(tactic| walk_at "pv") => `(tactic| simp [wpSs, wpS, wpE, wpT, wpEs, wpTs, wpO, wpI, wpG, startP, wipeP, L2.CMul, L2.CDiv, L2.CPow, tg_inj, sizeLine, eqB_tup, -List.getD_eq_getElem?_getD])
namespace Tm
def agree (t u : Tm) : Bool := decide (t.sHix (max t.cnt u.cnt) = u.sHix (max t.cnt u.cnt)) && decide ((t.sArgs (max t.cnt u.cnt)).length = (u.sArgs (max t.cnt u.cnt)).length)
def firstNe : List Tm → List Tm → Nat
  | p :: ps, q :: qs => if p.eta = q.eta then firstNe ps qs + 1 else 0
  | _, _ => 0
def unl : Nat → Tm → Tm → List Int
  | 0, _, _ => []
  | n + 1, t, u => if agree t u = true then
      let N := max t.cnt u.cnt
      let k := firstNe (t.sArgs N) (u.sArgs N)
      (k : Int) :: unl n ((t.sArgs N).getD k default) ((u.sArgs N).getD k default)
    else []
def shows : Tm → Tm → List PV → Bool
  | t, u, [] => !agree t u
  | t, u, x :: r => match x with
    | .int i => if agree t u = true ∧ 0 ≤ i ∧ i < (t.sArgs (max t.cnt u.cnt)).length then shows ((t.sArgs (max t.cnt u.cnt)).getD i.toNat default) ((u.sArgs (max t.cnt u.cnt)).getD i.toNat default) r else false
    | _ => false
theorem maps_eta : ∀ ps qs : List Tm, ps.length = qs.length → (¬ firstNe ps qs < ps.length) → ps.map eta = qs.map eta
  | [], [], _, _ => rfl
  | [], _ :: _, h, _ => by cases h
  | _ :: _, [], h, _ => by cases h
  | p :: ps, q :: qs, h, hn => by
    simp only [firstNe] at hn
    by_cases e : p.eta = q.eta
    · rw [if_pos e] at hn
      simp only [List.map_cons, e]
      rw [maps_eta ps qs (by simpa using h) (by simp at hn; omega)]
    · rw [if_neg e] at hn
      simp at hn
theorem agree_alike {t u : Tm} (ht : t.nf = true) (hu : u.nf = true) (ha : agree t u = true) (h : ¬ firstNe (t.sArgs (max t.cnt u.cnt)) (u.sArgs (max t.cnt u.cnt)) < (t.sArgs (max t.cnt u.cnt)).length) : t.eta = u.eta := by
  simp only [agree, Bool.and_eq_true, decide_eq_true_eq] at ha
  have e := maps_eta _ _ ha.2 h
  rw [← eta_stretch t (n := max t.cnt u.cnt) (by omega), ← eta_stretch u (n := max t.cnt u.cnt) (by omega), stretch_nf ht, stretch_nf hu, ha.1]
  refine eta_lams ?_ _
  rw [eta_app, eta_app, e]
theorem firstNe_spec : ∀ ps qs : List Tm, ps.length = qs.length → firstNe ps qs < ps.length → (ps.getD (firstNe ps qs) default).eta ≠ (qs.getD (firstNe ps qs) default).eta ∧ ∀ j, j < firstNe ps qs → (ps.getD j default).eta = (qs.getD j default).eta
  | [], _, _, h => by simp at h
  | _ :: _, [], h, _ => by cases h
  | p :: ps, q :: qs, h, hn => by
    simp only [firstNe] at hn ⊢
    by_cases e : p.eta = q.eta
    · rw [if_pos e] at hn ⊢
      obtain ⟨h1, h2⟩ := firstNe_spec ps qs (by simpa using h) (by simpa using hn)
      refine ⟨by simpa using h1, fun j hj => ?_⟩
      cases j with
      | zero => simpa using e
      | succ j => simpa using h2 j (by omega)
    · rw [if_neg e] at hn ⊢
      exact ⟨by simpa using e, fun j hj => absurd hj (by omega)⟩
theorem getD_mem {ps : List Tm} {k : Nat} (h : k < ps.length) : ps.getD k default ∈ ps := by
  rw [List.getD_eq_getElem?_getD, List.getElem?_eq_getElem h]
  exact List.getElem_mem h
/-- an unlike part's terms are less deep -/
theorem part_dep {t u : Tm} (ht : t.nf = true) {n k : Nat} (h1 : t.dep ≤ n + 1) (h2 : u.dep ≤ n + 1) (hk : k < (t.sArgs (max t.cnt u.cnt)).length) : ((t.sArgs (max t.cnt u.cnt)).getD k default).dep ≤ n := by
  have := sArgs_mem ht (getD_mem hk)
  have hp := ((t.sArgs (max t.cnt u.cnt)).getD k default).dep_pos
  rcases this.2.2 with h | h
  · omega
  · by_cases hn : n = 0
    · subst hn
      have d1 := t.dep_core
      have d2 := u.dep_core
      have d3 := t.core.dep_pos
      have d4 := u.core.dep_pos
      have d5 := t.core.len_args
      rw [sArgs_len] at hk
      omega
    · omega
end Tm

/-- an opened term as a tuple -/
def OpenAt (S : Store) (v : PV) (n : Nat) (i : Int) (ps : List Tm) : Prop := ∃ r, v = .tup [.int n, (Tm.v i).pv, .ref r] ∧ S[r]? = some (.lst (ps.map Tm.pv))
theorem OpenAt.more {S J : Store} {v : PV} {n : Nat} {i : Int} {ps : List Tm} (h : OpenAt S v n i ps) : OpenAt (S ++ J) v n i ps := by
  obtain ⟨r, e, h⟩ := h
  exact ⟨r, e, sto_old h⟩
section
variable {T : Tab} {fns : List FD} {S : Store} {Q : PQ} {E : PX}
/-- opened_together -/
def openedTogetherD (c_opened_part c_stretch : Nat) : FD := ⟨2, 3, (.cons (.asg (.nm 2) (.bi .max2 (.cons (.idxc (.call c_opened_part (.cons (.var 0) .nil) []) 0) (.cons (.idxc (.call c_opened_part (.cons (.var 1) .nil) []) 0) .nil)))) (.cons (.ret (.tup (.cons (.call c_opened_part (.cons (.call c_stretch (.cons (.var 0) (.cons (.var 2) .nil)) []) .nil) []) (.cons (.call c_opened_part (.cons (.call c_stretch (.cons (.var 1) (.cons (.var 2) .nil)) []) .nil) []) .nil)))) .nil))⟩
theorem together_ok {i s o r c k : Nat} {t u : Tm} (hk : t.dep + 5 ≤ k) (hk2 : u.dep + 5 ≤ k) (hd : t.dep ≤ 30000) (hd2 : u.dep ≤ 30000) (ht : t.nf = true) (hu : u.nf = true)
    (h : ∀ J v w, OpenAt (S ++ J) v (max t.cnt u.cnt) (t.sHix (max t.cnt u.cnt)) (t.sArgs (max t.cnt u.cnt)) → OpenAt (S ++ J) w (max t.cnt u.cnt) (u.sHix (max t.cnt u.cnt)) (u.sArgs (max t.cnt u.cnt)) → Q (.tup [v, w]) (S ++ J))
    (hi : fns[i]? = some (openedTogetherD o s) := by first | assumption | rfl) (ho : fns[o]? = some openedPartD := by first | assumption | rfl) (hs : fns[s]? = some (stretchD o r c) := by first | assumption | rfl) (hr : fns[r]? = some (raisedD o c r) := by first | assumption | rfl) (hc : fns[c]? = some closedPartD := by first | assumption | rfl) : runF T fns k i [t.pv, u.pv] S Q E := by
  obtain ⟨k, rfl⟩ : ∃ j, k = j + 2 := ⟨k - 2, by omega⟩
  refine run_in hi rfl fun wf un => ?_
  simp only [openedTogetherD]
  walk_at "pv"
  refine opened_ok (by omega) fun A1 => ?_
  walk_at "pv"
  refine opened_ok (by omega) fun A2 => ?_
  have c1 := t.dep_core
  have c2 := u.dep_core
  walk_at "pv"
  have e : (if t.cnt < u.cnt then (u.cnt : Int) else t.cnt) = ((max t.cnt u.cnt : Nat) : Int) := by split <;> omega
  rw [e]
  have N1 : t.cnt ≤ max t.cnt u.cnt := Nat.le_max_left _ _
  have N2 : u.cnt ≤ max t.cnt u.cnt := Nat.le_max_right _ _
  have N3 : max t.cnt u.cnt ≤ 30000 := by omega
  generalize max t.cnt u.cnt = N at *
  have d1 := Tm.stretch_dep N1
  have d2 := Tm.stretch_dep N2
  have l1 := Tm.lams_cnt (i := t.sHix N) N (t.sArgs N)
  have l2 := Tm.lams_cnt (i := u.sHix N) N (u.sArgs N)
  have g1 := Tm.hd_app (i := t.sHix N) (t.sArgs N)
  have g2 := Tm.hd_app (i := u.sHix N) (u.sArgs N)
  refine stretch_ok (by omega) (by omega) N1 (by omega) ht ?_
  refine opened_ok (by omega) fun A3 => ?_
  refine stretch_ok (by omega) (by omega) N2 (by omega) hu ?_
  refine opened_ok (by omega) fun A4 => .inl ?_
  rw [Tm.stretch_nf ht, Tm.stretch_nf hu, l1.1, l1.2, g1.1, g1.2, l2.1, l2.2, g2.1, g2.2]
  simp only [List.append_assoc, List.cons_append, List.nil_append]
  exact h _ _ _ ⟨_, rfl, by simp only [List.length_append, List.length_cons, List.length_nil, Nat.add_assoc]; exact sto_get _ _ _⟩ ⟨_, rfl, by simp only [List.length_append, List.length_cons, List.length_nil, Nat.add_assoc]; exact sto_get _ _ _⟩
/-- heads_agree -/
def headsAgreeD : FD := ⟨2, 2, (.cons (.ret (.and (.cmp .eq (.idxc (.var 0) 1) (.idxc (.var 1) 1)) (.cmp .eq (.bi .len (.cons (.idxc (.var 0) 2) .nil)) (.bi .len (.cons (.idxc (.var 1) 2) .nil))))) .nil)⟩
theorem headsagree_ok {i k n m : Nat} {v w : PV} {x y : Int} {ps qs : List Tm} (hv : OpenAt S v n x ps) (hw : OpenAt S w m y qs) (h : Q (.bl (decide (x = y) && decide (ps.length = qs.length))) S) (hi : fns[i]? = some headsAgreeD := by first | assumption | rfl) : runF T fns (k + 1) i [v, w] S Q E := by
  obtain ⟨r, rfl, hr⟩ := hv
  obtain ⟨s, rfl, hs⟩ := hw
  refine run_in hi rfl fun wf un => ?_
  simp only [headsAgreeD]
  walk_at "pv"
  rw [tm_eqQ (by simp only [Tm.dep]; omega)]
  walk_at "pv"
  by_cases e : x = y
  · subst e
    simp [hr, hs]
    refine .inl ?_
    simp at h
    exact_mod_cast h
  · simp [e] at h ⊢
    exact .inl h
/-- first_unlike_part -/
def firstUnlikePartD (c_are_alike : Nat) : FD := ⟨2, 3, (.cons (.asg (.nm 2) (.cst (.int 0))) (.cons (.whl (.call c_are_alike (.cons (.idx (.var 0) (.var 2)) (.cons (.idx (.var 1) (.var 2)) .nil)) []) (.cons (.asg (.nm 2) (.bin .add (.var 2) (.cst (.int 1)))) .nil)) (.cons (.ret (.var 2)) .nil)))⟩
theorem firstunlike_ok {e p i j q s f k l m a b : Nat} {ps qs : List Tm} (ha : S[a]? = some (.lst (ps.map Tm.pv))) (hb : S[b]? = some (.lst (qs.map Tm.pv))) (hl : ps.length = qs.length) (hlt : Tm.firstNe ps qs < ps.length)
    (hp1 : ∀ t, t ∈ ps → t.dep ≤ 63 ∧ t.dep + 6 ≤ k) (hq1 : ∀ t, t ∈ qs → t.dep + 6 ≤ k) (h : Q (.int (Tm.firstNe ps qs)) S) (hm : fns[m]? = some (firstUnlikePartD l) := by first | assumption | rfl) (hl0 : fns[l]? = some (areAlikeD i) := by first | assumption | rfl) (hi : fns[i]? = some (etaFormD e p i) := by first | assumption | rfl) (he : fns[e]? = some (isEtaD f) := by first | assumption | rfl) (hf : fns[f]? = some (isFreeD f) := by first | assumption | rfl) (hp : fns[p]? = some (etaPartD j) := by first | assumption | rfl) (hj : fns[j]? = some (putFirstD q) := by first | assumption | rfl) (hq : fns[q]? = some (putD s q) := by first | assumption | rfl) (hs : fns[s]? = some (shiftD s) := by first | assumption | rfl) :
    runF T fns k m [.ref a, .ref b] S Q E := by
  obtain ⟨k, rfl⟩ : ∃ j, k = j + 1 := ⟨k - 1, by have := hp1 _ (Tm.getD_mem hlt); omega⟩
  obtain ⟨s1, s2⟩ := Tm.firstNe_spec ps qs hl hlt
  refine run_in hm rfl fun wf un => ?_
  simp only [firstUnlikePartD]
  walk_at "pv"
  refine ⟨_, while_ind (I := fun n ρ S' => S = S' ∧ ∃ c : Nat, n + c = Tm.firstNe ps qs ∧ ρ = [some (.ref a), some (.ref b), some (.int c)]) ?_ (Tm.firstNe ps qs) _ _ ⟨rfl, 0, by omega, rfl⟩⟩
  rintro n _ _ ⟨rfl, c, e1, rfl⟩ K hK
  have hc : c < ps.length := by omega
  have hc2 : c < qs.length := by omega
  walk_at "pv"
  simp only [ha, hb]
  simp
  rw [at_map (d := default) hc, at_map (d := default) hc2]
  simp [-List.getD_eq_getElem?_getD]
  have m1 := hp1 _ (Tm.getD_mem hc)
  have m2 := hq1 _ (Tm.getD_mem hc2)
  refine alike_ok (by omega) (by omega) (by omega) ?_
  simp [-List.getD_eq_getElem?_getD]
  cases n with
  | zero =>
    obtain rfl : c = Tm.firstNe ps qs := by omega
    rw [if_neg s1]; exact .inl h
  | succ n =>
    rw [if_pos (s2 c (by omega))]
    exact hK _ _ n rfl ⟨rfl, c + 1, by omega, rfl⟩
/-- unlike_path -/
def unlikePathD (c_opened_together c_heads_agree c_first_unlike_part : Nat) : FD := ⟨2, 6, (.cons (.asg (.nm 2) (.tup .nil)) (.cons (.asg (.tp [3, 4]) (.call c_opened_together (.cons (.var 0) (.cons (.var 1) .nil)) [])) (.cons (.whl (.call c_heads_agree (.cons (.var 3) (.cons (.var 4) .nil)) []) (.cons (.asg (.nm 5) (.call c_first_unlike_part (.cons (.idxc (.var 3) 2) (.cons (.idxc (.var 4) 2) .nil)) [])) (.cons (.asg (.nm 2) (.bin .add (.var 2) (.tup (.cons (.var 5) .nil)))) (.cons (.asg (.tp [3, 4]) (.call c_opened_together (.cons (.idx (.idxc (.var 3) 2) (.var 5)) (.cons (.idx (.idxc (.var 4) 2) (.var 5)) .nil)) [])) .nil)))) (.cons (.ret (.var 2)) .nil))))⟩
theorem unlikepath_ok {y g o g1 r c a m e p i j q s f l k : Nat} {t u : Tm} {n : Nat} (hn1 : t.dep ≤ n) (hn2 : u.dep ≤ n) (hk : n + 7 ≤ k) (hnb : n ≤ 20000) (hd : t.dep ≤ 63) (ht : t.nf = true) (hu : u.nf = true) (hne : t.eta ≠ u.eta)
    (h : Q (plPV (Tm.unl n t u)) S) (hy : fns[y]? = some (unlikePathD g a m) := by first | assumption | rfl) (hg : fns[g]? = some (openedTogetherD o g1) := by first | assumption | rfl) (ho : fns[o]? = some openedPartD := by first | assumption | rfl) (hg1 : fns[g1]? = some (stretchD o r c) := by first | assumption | rfl) (hr : fns[r]? = some (raisedD o c r) := by first | assumption | rfl) (hc : fns[c]? = some closedPartD := by first | assumption | rfl) (ha : fns[a]? = some headsAgreeD := by first | assumption | rfl) (hm : fns[m]? = some (firstUnlikePartD l) := by first | assumption | rfl) (hl0 : fns[l]? = some (areAlikeD i) := by first | assumption | rfl) (hi : fns[i]? = some (etaFormD e p i) := by first | assumption | rfl) (he : fns[e]? = some (isEtaD f) := by first | assumption | rfl) (hf : fns[f]? = some (isFreeD f) := by first | assumption | rfl) (hp : fns[p]? = some (etaPartD j) := by first | assumption | rfl) (hj : fns[j]? = some (putFirstD q) := by first | assumption | rfl) (hq : fns[q]? = some (putD s q) := by first | assumption | rfl) (hs : fns[s]? = some (shiftD s) := by first | assumption | rfl) : runF T fns k y [t.pv, u.pv] S Q E := by
  obtain ⟨k, rfl⟩ : ∃ j, k = j + 2 := ⟨k - 2, by omega⟩
  refine run_in hy rfl fun wf un => ?_
  simp only [unlikePathD]
  walk_at "pv"
  refine together_ok (by omega) (by omega) (by omega) (by omega) ht hu fun J v w o1 o2 => ?_
  walk_at "pv"
  refine ⟨_, while_ind (I := fun z ρ S' => ∃ (t' u' : Tm) (n' : Nat) (pth : List Int) (J : Store) (v w : PV) (x : Option PV), S' = S ++ J ∧ ρ = [some t.pv, some u.pv, some (plPV pth), some v, some w, x] ∧ z = n' ∧ t'.dep ≤ n' ∧ u'.dep ≤ n' ∧ n' ≤ n ∧ pth.length + n' = n ∧ t'.dep ≤ 63 ∧ t'.nf = true ∧ u'.nf = true ∧ t'.eta ≠ u'.eta ∧
    pth ++ Tm.unl n' t' u' = Tm.unl n t u ∧ OpenAt (S ++ J) v (max t'.cnt u'.cnt) (t'.sHix (max t'.cnt u'.cnt)) (t'.sArgs (max t'.cnt u'.cnt)) ∧ OpenAt (S ++ J) w (max t'.cnt u'.cnt) (u'.sHix (max t'.cnt u'.cnt)) (u'.sArgs (max t'.cnt u'.cnt))) ?_ n _ _ ⟨t, u, n, [], J, v, w, none, rfl, rfl, rfl, hn1, hn2, Nat.le_refl _, by simp, hd, ht, hu, hne, rfl, o1, o2⟩⟩
  rintro z _ _ ⟨t', u', n', pth, J, v, w, x, rfl, rfl, rfl, n1, n2, n3, n4, d1, nf1, nf2, ne, ep, o1, o2⟩ K hK
  obtain ⟨n', rfl⟩ : ∃ j, z = j + 1 := ⟨z - 1, by have := t'.dep_pos; omega⟩
  walk_at "pv"
  refine headsagree_ok o1 o2 ?_
  rw [show (decide (t'.sHix (max t'.cnt u'.cnt) = u'.sHix (max t'.cnt u'.cnt)) && decide ((t'.sArgs (max t'.cnt u'.cnt)).length = (u'.sArgs (max t'.cnt u'.cnt)).length)) = Tm.agree t' u' from rfl]
  cases ag : Tm.agree t' u' with
  | false =>
    simp only [Tm.unl, ag] at ep
    simp at ep
    rw [ep]
    simp
    exact Gc.junk wf (by simp [plPV, PV.under]; exact underL_of _ (by simp [PV.under])) h
  | true =>
    simp only [Tm.unl, ag, if_true] at ep
    have lt : Tm.firstNe (t'.sArgs (max t'.cnt u'.cnt)) (u'.sArgs (max t'.cnt u'.cnt)) < (t'.sArgs (max t'.cnt u'.cnt)).length := Classical.byContradiction fun z => ne (Tm.agree_alike nf1 nf2 ag z)
    have ag2 := ag
    simp only [Tm.agree, Bool.and_eq_true, decide_eq_true_eq] at ag2
    have hlen := ag2.2
    have s1 := (Tm.firstNe_spec _ _ hlen lt).1
    have p1 := Tm.part_dep nf1 n1 n2 lt
    have lt2 := lt
    rw [hlen] at lt2
    have p2 := Tm.part_dep (t := u') (u := t') nf2 n2 n1 (by rw [Nat.max_comm]; exact lt2)
    rw [Nat.max_comm] at p2
    have m1 := Tm.sArgs_mem nf1 (Tm.getD_mem lt)
    have m2 := Tm.sArgs_mem nf2 (Tm.getD_mem lt2)
    have c1 := t'.dep_pos
    obtain ⟨r1, rfl, q1⟩ := o1
    obtain ⟨r2, rfl, q2⟩ := o2
    simp
    refine firstunlike_ok q1 q2 hlen lt (fun t0 h0 => ?_) (fun t0 h0 => ?_) ?_
    · have := Tm.sArgs_mem nf1 h0; have := t'.dep_pos; omega
    · have := Tm.sArgs_mem nf2 h0; have := u'.dep_pos; omega
    · generalize Tm.firstNe (t'.sArgs (max t'.cnt u'.cnt)) (u'.sArgs (max t'.cnt u'.cnt)) = fk at *
      simp only [plPV, addQ_tt]
      refine ⟨by simp [sizeLine]; omega, _, q1, ?_⟩
      rw [atQ_l, at_map (d := default) lt]
      refine ⟨_, rfl, _, q2, ?_⟩
      rw [atQ_l, at_map (d := default) lt2]
      refine ⟨_, rfl, ?_⟩
      refine together_ok (by omega) (by omega) (by omega) (by omega) m1.1 m2.1 fun J2 v w o1 o2 => ?_
      simp only [bindQ_t, List.length_cons, List.length_nil, setAll_cons, setAll_nil, true_and]
      exact hK _ _ n' rfl ⟨_, _, n', pth ++ [(fk : Int)], J ++ J2, v, w, some (.int fk), by simp, by simp [plPV], rfl, p1, p2, by omega, by simp; omega, by omega, m1.1, m2.1, s1, by simpa using ep, by simpa using o1, by simpa using o2⟩
end
end Pv
set_option Elab.async false
set_option linter.all false
set_option maxRecDepth 100000
set_option maxHeartbeats 1000000
/-! Lt7: the laws' own opened and stretched terms; by bodies. -/
namespace Pv
open PySem
local macro_rules | `(tactic| walk_at "pv") => `(tactic| simp [wpSs, wpS, wpE, wpT, wpEs, wpTs, wpO, wpI, wpG, startP, wipeP, L2.CMul, L2.CDiv, L2.CPow, tg_inj, sizeLine, eqB_tup, -List.getD_eq_getElem?_getD])
theorem rngL_cons {lo hi : Int} (h : lo < hi) : rngL lo hi = .int lo :: rngL (lo + 1) hi := by
  unfold rngL
  obtain ⟨n, hn⟩ : ∃ n, (hi - lo).toNat = n + 1 := ⟨(hi - lo).toNat - 1, by omega⟩
  rw [hn, show (hi - (lo + 1)).toNat = n from by omega, List.range_succ_eq_map]
  simp only [List.map_cons, List.map_map]
  congr 1
  · simp
  · apply List.map_congr_left
    intro k _
    simp only [Function.comp_def]
    congr 1; omega
theorem rngL_nil {lo hi : Int} (h : hi ≤ lo) : rngL lo hi = [] := by
  unfold rngL
  rw [show (hi - lo).toNat = 0 from by omega]
  rfl
theorem Tm.args_size : ∀ t : Tm, ∀ p, p ∈ t.args → p.size < t.size := by
  intro t
  induction t with
  | v i => intro p hp; cases hp
  | l b h => intro p hp; cases hp
  | a f x h1 h2 =>
    intro p hp
    have := f.size_pos
    have := x.size_pos
    simp only [Tm.args, List.mem_append, List.mem_singleton] at hp
    simp only [Tm.size]
    rcases hp with hp | rfl
    · have := h1 p hp; omega
    · omega
theorem Tm.core_size : ∀ t : Tm, t.core.size + t.cnt = t.size := by
  intro t
  induction t with
  | v i => simp [Tm.core, Tm.cnt]
  | l b h => simp only [Tm.core, Tm.cnt, Tm.size]; omega
  | a f x h1 h2 => simp [Tm.core, Tm.cnt]
theorem Tm.sArgs_size {t : Tm} (hn : t.nf = true) {N : Nat} {p : Tm} (hp : p ∈ t.sArgs N) : p.size ≤ t.size := by
  simp only [Tm.sArgs, List.mem_append, List.mem_map] at hp
  rcases hp with ⟨q, hq, rfl⟩ | hp
  · have := t.core.args_size q hq
    have := t.core_size
    rw [Tm.shift_size]; omega
  · obtain ⟨h1, h2, h3⟩ := Tm.ok_vars _ p hp
    have := t.size_pos
    cases p with
    | v i => simp only [Tm.size]; omega
    | l b => have := b.dep_pos; simp only [Tm.dep] at h3; omega
    | a f x => have := f.dep_pos; simp only [Tm.dep] at h3; omega
theorem Tm.unl_len : ∀ (n : Nat) (t u : Tm), (Tm.unl n t u).length ≤ n
  | 0, _, _ => Nat.le_refl _
  | n + 1, t, u => by
    simp only [Tm.unl]
    split
    · simp only [List.length_cons]
      have := unl_len n ((t.sArgs (max t.cnt u.cnt)).getD (firstNe (t.sArgs (max t.cnt u.cnt)) (u.sArgs (max t.cnt u.cnt))) default) ((u.sArgs (max t.cnt u.cnt)).getD (firstNe (t.sArgs (max t.cnt u.cnt)) (u.sArgs (max t.cnt u.cnt))) default)
      omega
    · simp
/-- an opened term as the laws keep it -/
def LOpen (S : Store) (v : PV) (n : Nat) (i : Int) (ps : List Tm) : Prop := ∃ r1 r2, v = .ref r1 ∧ S[r1]? = some (.lst [.int n, .int i, .ref r2]) ∧ S[r2]? = some (.lst (ps.map Tm.pv))
theorem LOpen.more {S J : Store} {v : PV} {n : Nat} {i : Int} {ps : List Tm} (h : LOpen S v n i ps) : LOpen (S ++ J) v n i ps := by
  obtain ⟨r1, r2, e, h1, h2⟩ := h
  exact ⟨r1, r2, e, sto_old h1, sto_old h2⟩
section
variable {T : Tab} {fns : List FD} {S : Store} {Q : PQ} {E : PX}
/-- _law_opened -/
def lOpenedD : FD := ⟨1, 3, (.cons (.asg (.nm 1) (.cst (.int 0))) (.cons (.whl (.cmp .eq (.idxc (.var 0) 0) (.cst (.str (tg 1)))) (.cons (.asg (.nm 0) (.idxc (.var 0) 1)) (.cons (.asg (.nm 1) (.bin .add (.var 1) (.cst (.int 1)))) .nil))) (.cons (.asg (.nm 2) (.lst .nil)) (.cons (.whl (.cmp .eq (.idxc (.var 0) 0) (.cst (.str (tg 2)))) (.cons (.asg (.nm 2) (.bin .add (.lst (.cons (.idxc (.var 0) 2) .nil)) (.var 2))) (.cons (.asg (.nm 0) (.idxc (.var 0) 1)) .nil))) (.cons (.ret (.lst (.cons (.var 1) (.cons (.idxc (.var 0) 1) (.cons (.var 2) .nil))))) .nil)))))⟩
theorem lopened_ok {i k : Nat} {t : Tm} (hd : t.dep ≤ 1000000) (hn : t.nf = true) (h : ∀ J v, LOpen (S ++ J) v t.cnt t.hix t.core.args → Q v (S ++ J)) (hi : fns[i]? = some lOpenedD := by first | assumption | rfl) : runF T fns (k + 1) i [t.pv] S Q E := by
  refine run_in hi rfl fun wf un => ?_
  simp only [lOpenedD]
  walk_at "pv"
  refine ⟨_, while_ind (I := fun n ρ S' => S = S' ∧ ∃ (u : Tm) (c : Nat), n = u.cnt ∧ ρ = [some u.pv, some (.int c), none] ∧ u.core = t.core ∧ c + u.cnt = t.cnt) ?_ t.cnt _ _ ⟨rfl, t, 0, rfl, rfl, rfl, by omega⟩⟩
  rintro n _ _ ⟨rfl, u, c, rfl, rfl, e1, e2⟩ K hK
  rcases u.tag_l with ⟨b, rfl⟩ | hu
  · simp only [Tm.pv, Tm.cnt] at e2 ⊢
    walk_at "pv"
    exact hK _ _ b.cnt rfl ⟨rfl, b, c + 1, rfl, rfl, e1, by omega⟩
  · obtain ⟨e3, e4⟩ := Tm.core_no hu
    have e5 : u = t.core := e3 ▸ e1
    have e6 : c = t.cnt := by omega
    rw [e4] at hK
    subst e5 e6
    walk_at "pv"
    refine .inl ⟨hu, ?_⟩
    have hc := t.core.len_args
    have hcd := t.dep_core
    have hh := Tm.hix_nf hn
    refine ⟨_, while_ind (I := fun n ρ S' => ∃ (u : Tm) (acc : List Tm) (J : Store) (r : Nat), n = u.args.length ∧ ρ = [some u.pv, some (.int t.cnt), some (.ref r)] ∧ S' = S ++ J ∧ S'[r]? = some (.lst (acc.map Tm.pv)) ∧ u.hd = t.core.hd ∧ u.args ++ acc = t.core.args) ?_ t.core.args.length _ _ ⟨t.core, [], [.lst []], _, rfl, rfl, rfl, by simp, rfl, by simp⟩⟩
    rintro n _ _ ⟨u, acc, J, r, rfl, rfl, rfl, hr, e1, e2⟩ K hK
    have hl := congrArg List.length e2
    simp at hl
    rcases u.tag_a with ⟨f, x, rfl⟩ | hu
    · simp only [Tm.pv, Tm.args] at e2 hl hK ⊢
      simp at hl
      walk_at "pv"
      have hr' : (S ++ (J ++ [Mo.lst [x.pv]]))[r]? = some (.lst (acc.map Tm.pv)) := by rw [← List.append_assoc]; exact sto_old hr
      refine ⟨_, hr', by simp; omega, ?_⟩
      refine hK _ _ f.args.length (by simp) ⟨f, x :: acc, J ++ [.lst [x.pv], .lst (x.pv :: acc.map Tm.pv)], S.length + (J.length + 1), rfl, rfl, by simp, ?_, e1, by simpa using e2⟩
      simp only [sto_get]; rfl
    · obtain ⟨e3, e4⟩ := Tm.args_no hu
      rw [e4] at e2
      rw [e3, hh] at e1
      subst e1
      simp only [Tm.pv] at hu ⊢
      walk_at "pv"
      simp at e2
      subst e2
      exact .inl (h (J ++ [.lst [.int t.cnt, .int t.hix, .ref r]]) _ ⟨_, r, rfl, by rw [← List.append_assoc]; exact sto_at (by simp), by rw [← List.append_assoc]; exact sto_old hr⟩)
/-- _law_closed -/
def lClosedD : FD := ⟨3, 6, (.cons (.asg (.nm 3) (.tup (.cons (.cst (.str (tg 0))) (.cons (.var 1) .nil)))) (.cons (.for_ (.nm 4) (.val (.var 2)) (.cons (.asg (.nm 3) (.tup (.cons (.cst (.str (tg 2))) (.cons (.var 3) (.cons (.var 4) .nil))))) .nil)) (.cons (.for_ (.nm 5) (.rng1 (.var 0)) (.cons (.asg (.nm 3) (.tup (.cons (.cst (.str (tg 1))) (.cons (.var 3) .nil)))) .nil)) (.cons (.ret (.var 3)) .nil))))⟩
theorem lclosed_ok {i k : Nat} {z : Int} {ps : List Tm} {n : Nat} {w : PV} (hw : IsSeq S w (ps.map Tm.pv)) (hn : n < 1000000) (h : Q (Tm.lams n (Tm.app (.v z) ps)).pv S) (hi : fns[i]? = some lClosedD := by first | assumption | rfl) : runF T fns (k + 1) i [.int n, .int z, w] S Q E := by
  refine run_in hi rfl fun wf un => ?_
  simp only [lClosedD]
  walk_at "pv"
  refine iter_seq hw fun src hs _ => ?_
  refine for_ind (I := fun xs ρ S' => S = S' ∧ ∃ (ds rs : List Tm) (x : Option PV), ps = ds ++ rs ∧ xs = rs.map Tm.pv ∧ ρ = [some (.int n), some (.int z), some w, some (Tm.app (.v z) ds).pv, x, none]) ?_ ?_ _ _ _ ⟨rfl, [], ps, none, rfl, rfl, rfl⟩
  · rintro y ys _ _ ⟨rfl, ds, rs, x, e1, e2, rfl⟩
    refine ⟨hs, fun K hK => ?_⟩
    cases rs with
    | nil => cases e2
    | cons r rs =>
      simp only [List.map_cons, List.cons.injEq] at e2
      obtain ⟨rfl, rfl⟩ := e2
      walk_at "pv"
      exact hK _ _ ⟨rfl, ds ++ [r], rs, some r.pv, by simp [e1], rfl, by simp [Tm.app_snoc, Tm.pv]⟩
  · rintro _ _ ⟨rfl, ds, rs, x, e1, e2, rfl⟩
    refine ⟨hs, ?_⟩
    have : rs = [] := by cases rs with | nil => rfl | cons r rs => cases e2
    subst this
    simp at e1
    subst e1
    walk_at "pv"
    refine ⟨by simp [rngOk]; omega, ?_⟩
    refine for_ind (I := fun xs ρ S' => S = S' ∧ ∃ (j : Nat) (y : Option PV), xs.length + j = n ∧ ρ = [some (.int n), some (.int z), some w, some (Tm.lams j (Tm.app (.v z) ps)).pv, x, y]) ?_ ?_ _ _ _ ⟨rfl, 0, none, by simp [rngL], rfl⟩
    · rintro y ys _ _ ⟨rfl, j, z, e1, rfl⟩
      refine ⟨trivial, fun K hK => ?_⟩
      walk_at "pv"
      exact hK _ _ ⟨rfl, j + 1, some y, by simp at e1; omega, rfl⟩
    · rintro _ _ ⟨rfl, j, z, e1, rfl⟩
      refine ⟨trivial, ?_⟩
      simp at e1
      subst e1
      walk_at "pv"
      exact .inl h
/-- _law_stretched -/
def lStretchedD (c_law_opened c_law_shift c_law_closed : Nat) : FD := ⟨2, 9, (.cons (.asg (.tp [2, 3, 4]) (.call c_law_opened (.cons (.var 0) .nil) [])) (.cons (.asg (.nm 5) (.bin .sub (.var 1) (.var 2))) (.cons (.asg (.nm 6) (.bin .add (.lc [7] (.nm 7) (.val (.var 4)) .nil (.call c_law_shift (.cons (.var 7) (.cons (.var 5) (.cons (.cst (.int 0)) .nil))) [])) (.lc [8] (.nm 8) (.rng1 (.var 5)) .nil (.tup (.cons (.cst (.str (tg 0))) (.cons (.bin .sub (.bin .sub (.var 5) (.cst (.int 1))) (.var 8)) .nil)))))) (.cons (.ret (.call c_law_closed (.cons (.var 1) (.cons (.bin .add (.var 3) (.var 5)) (.cons (.var 6) .nil))) [])) .nil))))⟩
theorem lstretched_ok {i o s c k : Nat} {t : Tm} {N : Nat} (hk : t.dep + 2 ≤ k) (hd : t.dep ≤ 300000) (hN : t.cnt ≤ N) (hb : N ≤ 300000) (hnf : t.nf = true) (hok : t.ok) (h : Q (Tm.stretch t N).pv S) (hi : fns[i]? = some (lStretchedD o s c) := by first | assumption | rfl) (ho : fns[o]? = some lOpenedD := by first | assumption | rfl) (hs : fns[s]? = some (shiftD s) := by first | assumption | rfl) (hc : fns[c]? = some lClosedD := by first | assumption | rfl) : runF T fns k i [t.pv, .int N] S Q E := by
  obtain ⟨k, rfl⟩ : ∃ j, k = j + 2 := ⟨k - 2, by omega⟩
  refine run_in hi rfl fun wf un => ?_
  simp only [lStretchedD]
  walk_at "pv"
  refine lopened_ok (by omega) hnf fun J v ⟨r1, r2, e, h1, h2⟩ => ?_
  subst e
  have hcd := t.dep_core
  have ha := t.core.len_args
  have hx := Tm.hix_ok hnf hok
  walk_at "pv"
  simp only [h1, h2]
  walk_at "pv"
  refine ⟨_, h2, rfl, ?_⟩
  refine lc_all (S0 := S ++ J) (f := fun p => (p.shift ((N : Int) - t.cnt) 0).pv) (ps := t.core.args) (by simp) rfl (by simp) (fun acc => ⟨sto_old h2, trivial⟩) (by omega) (fun p hp acc K hK => ?_) ?_
  · have := t.core.dep_args p hp
    exact shift_ok (by omega) hK
  walk_at "pv"
  refine ⟨by simp [rngOk]; omega, ?_⟩
  refine lc_all (S0 := S ++ J ++ [.lst (t.core.args.map fun p => (p.shift ((N : Int) - t.cnt) 0).pv)]) (ps := List.range (N - t.cnt)) (g := fun (k : Nat) => .int k) (f := fun (k : Nat) => PV.tup [.str (tg 0), .int (((N - t.cnt : Nat) : Int) - 1 - k)]) (by simp) (by rw [rngL, show ((N : Int) - t.cnt - 0).toNat = N - t.cnt from by omega]; simp) (by simp) (fun acc => trivial) (by simp; omega) (fun p hp acc K hK => ?_) ?_
  · walk_at "pv"
    rw [show ((N - t.cnt : Nat) : Int) = (N : Int) - t.cnt from by omega] at hK
    simpa using hK
  rw [Tm.vars_range]
  walk_at "pv"
  refine ⟨by simp [Tm.vars_len]; omega, ?_⟩
  rw [show t.hix + ((N : Int) - t.cnt) = t.sHix N from by simp [Tm.sHix, hx]]
  refine lclosed_ok (ps := t.sArgs N) (.inr ⟨_, rfl, ?_⟩) (by omega) ?_
  · simp only [sto_get]; simp [Tm.sArgs, Function.comp_def]
  · rw [← Tm.stretch_nf hnf]
    exact Gc.junk wf (Tm.under _ _) h
/-- _law_both -/
def lBothD (c_law_opened c_law_stretched : Nat) : FD := ⟨2, 3, (.cons (.asg (.nm 2) (.bi .max2 (.cons (.idxc (.call c_law_opened (.cons (.var 0) .nil) []) 0) (.cons (.idxc (.call c_law_opened (.cons (.var 1) .nil) []) 0) .nil)))) (.cons (.ret (.lst (.cons (.call c_law_opened (.cons (.call c_law_stretched (.cons (.var 0) (.cons (.var 2) .nil)) []) .nil) []) (.cons (.call c_law_opened (.cons (.call c_law_stretched (.cons (.var 1) (.cons (.var 2) .nil)) []) .nil) []) .nil)))) .nil))⟩
theorem lboth_ok {i o s c g k : Nat} {t u : Tm} (hk : t.dep + 4 ≤ k) (hk2 : u.dep + 4 ≤ k) (hd : t.dep ≤ 30000) (hd2 : u.dep ≤ 30000) (ht : t.nf = true) (hu : u.nf = true) (o1 : t.ok) (o2 : u.ok)
    (h : ∀ J v w r, LOpen (S ++ J) v (max t.cnt u.cnt) (t.sHix (max t.cnt u.cnt)) (t.sArgs (max t.cnt u.cnt)) → LOpen (S ++ J) w (max t.cnt u.cnt) (u.sHix (max t.cnt u.cnt)) (u.sArgs (max t.cnt u.cnt)) → (S ++ J)[r]? = some (.lst [v, w]) → Q (.ref r) (S ++ J))
    (hg : fns[g]? = some (lBothD o i) := by first | assumption | rfl) (ho : fns[o]? = some lOpenedD := by first | assumption | rfl) (hi : fns[i]? = some (lStretchedD o s c) := by first | assumption | rfl) (hs : fns[s]? = some (shiftD s) := by first | assumption | rfl) (hc : fns[c]? = some lClosedD := by first | assumption | rfl) : runF T fns k g [t.pv, u.pv] S Q E := by
  obtain ⟨k, rfl⟩ : ∃ j, k = j + 2 := ⟨k - 2, by omega⟩
  refine run_in hg rfl fun wf un => ?_
  simp only [lBothD]
  have c1 := t.dep_core
  have c2 := u.dep_core
  walk_at "pv"
  refine lopened_ok (by omega) ht fun J1 v1 ⟨a1, a2, e1, q1, q2⟩ => ?_
  subst e1
  simp [q1]
  refine lopened_ok (by omega) hu fun J2 v2 ⟨b1, b2, e2, q3, q4⟩ => ?_
  subst e2
  simp at q3
  simp [q3]
  have e : (if t.cnt < u.cnt then (u.cnt : Int) else t.cnt) = ((max t.cnt u.cnt : Nat) : Int) := by split <;> omega
  rw [e]
  have N1 : t.cnt ≤ max t.cnt u.cnt := Nat.le_max_left _ _
  have N2 : u.cnt ≤ max t.cnt u.cnt := Nat.le_max_right _ _
  have N3 : max t.cnt u.cnt ≤ 30000 := by omega
  generalize max t.cnt u.cnt = N at *
  have d1 := Tm.stretch_dep N1
  have d2 := Tm.stretch_dep N2
  have l1 := Tm.lams_cnt (i := t.sHix N) N (t.sArgs N)
  have l2 := Tm.lams_cnt (i := u.sHix N) N (u.sArgs N)
  have g1 := Tm.hd_app (i := t.sHix N) (t.sArgs N)
  have g2 := Tm.hd_app (i := u.sHix N) (u.sArgs N)
  have x1 := Tm.lams_hix (i := t.sHix N) N (t.sArgs N)
  have x2 := Tm.lams_hix (i := u.sHix N) N (u.sArgs N)
  refine lstretched_ok (by omega) (by omega) N1 (by omega) ht o1 ?_
  refine lopened_ok (by omega) (Tm.stretch_nfT ht N) fun J3 v3 p3 => ?_
  refine lstretched_ok (by omega) (by omega) N2 (by omega) hu o2 ?_
  refine lopened_ok (by omega) (Tm.stretch_nfT hu N) fun J4 v4 p4 => ?_
  rw [Tm.stretch_nf ht, l1.1, l1.2, g1.2, x1] at p3
  rw [Tm.stretch_nf hu, l2.1, l2.2, g2.2, x2] at p4
  have p3 := (p3.more (J := J4)).more (J := [.lst [v3, v4]])
  have p4 := p4.more (J := [.lst [v3, v4]])
  simp only [List.append_assoc] at p3 p4 ⊢
  refine .inl (h _ _ _ _ p3 p4 ?_)
  simp
/-- _law_agree -/
def lAgreeD (c_law_both : Nat) : FD := ⟨2, 4, (.cons (.asg (.tp [2, 3]) (.call c_law_both (.cons (.var 0) (.cons (.var 1) .nil)) [])) (.cons (.ret (.and (.cmp .eq (.idxc (.var 2) 1) (.idxc (.var 3) 1)) (.cmp .eq (.bi .len (.cons (.idxc (.var 2) 2) .nil)) (.bi .len (.cons (.idxc (.var 3) 2) .nil))))) .nil))⟩
theorem lagree_ok {i o s c g f k : Nat} {t u : Tm} (hk : t.dep + 5 ≤ k) (hk2 : u.dep + 5 ≤ k) (hd : t.dep ≤ 30000) (hd2 : u.dep ≤ 30000) (ht : t.nf = true) (hu : u.nf = true) (o1 : t.ok) (o2 : u.ok) (h : Q (.bl (Tm.agree t u)) S)
    (hf : fns[f]? = some (lAgreeD g) := by first | assumption | rfl) (hg : fns[g]? = some (lBothD o i) := by first | assumption | rfl) (ho : fns[o]? = some lOpenedD := by first | assumption | rfl) (hi : fns[i]? = some (lStretchedD o s c) := by first | assumption | rfl) (hs : fns[s]? = some (shiftD s) := by first | assumption | rfl) (hc : fns[c]? = some lClosedD := by first | assumption | rfl) : runF T fns k f [t.pv, u.pv] S Q E := by
  obtain ⟨k, rfl⟩ : ∃ j, k = j + 1 := ⟨k - 1, by omega⟩
  refine run_in hf rfl fun wf un => ?_
  simp only [lAgreeD]
  walk_at "pv"
  refine lboth_ok (by omega) (by omega) hd hd2 ht hu o1 o2 fun J v w r ⟨a1, a2, e1, q1, q2⟩ ⟨b1, b2, e2, q3, q4⟩ hr => ?_
  subst e1 e2
  simp only [Tm.agree] at h
  simp [hr]
  simp [q1]
  simp [q3]
  generalize max t.cnt u.cnt = N at *
  by_cases e : t.sHix N = u.sHix N
  · simp [e, q1, q2, q3, q4]
    simp [e] at h
    have := Gc.junk (j := J) wf (by simp [PV.under]) h
    exact_mod_cast this
  · simp [e] at h ⊢
    exact Gc.junk wf (by simp [PV.under]) h
/-- _law_unlike -/
def lUnlikeD (c_law_eta c_law_agree c_law_both i : Nat) : FD := ⟨2, 6, (.cons (.ifs (.cmp .eq (.call c_law_eta (.cons (.var 0) .nil) []) (.call c_law_eta (.cons (.var 1) .nil) [])) (.cons (.ret (.cst .non)) .nil) .nil) (.cons (.ifs (.not (.call c_law_agree (.cons (.var 0) (.cons (.var 1) .nil)) [])) (.cons (.ret (.tup .nil)) .nil) .nil) (.cons (.asg (.tp [2, 3]) (.call c_law_both (.cons (.var 0) (.cons (.var 1) .nil)) [])) (.cons (.for_ (.nm 4) (.rng1 (.bi .len (.cons (.idxc (.var 2) 2) .nil))) (.cons (.asg (.nm 5) (.call i (.cons (.idx (.idxc (.var 2) 2) (.var 4)) (.cons (.idx (.idxc (.var 3) 2) (.var 4)) .nil)) [])) (.cons (.ifs (.cmp .isnot (.var 5) (.cst .non)) (.cons (.ret (.bin .add (.tup (.cons (.var 4) .nil)) (.var 5))) .nil) .nil) .nil))) (.cons (.ret (.cst .non)) .nil)))))⟩
/-- the path, or None -/
def Tm.path (n : Nat) (t u : Tm) : PV := if t.eta = u.eta then .non else plPV (Tm.unl n t u)
theorem lunlike_aux {y e0 ef ep g0 b o i c s : Nat} (hy : fns[y]? = some (lUnlikeD e0 g0 b y)) (he : fns[e0]? = some (lEtaD ef ep e0)) (hef : fns[ef]? = some (freesD ef)) (hep : fns[ep]? = some (lputD s ep)) (hs : fns[s]? = some (shiftD s))
    (hg : fns[g0]? = some (lAgreeD b)) (hb : fns[b]? = some (lBothD o i)) (ho : fns[o]? = some lOpenedD) (hi : fns[i]? = some (lStretchedD o s c)) (hc : fns[c]? = some lClosedD) :
    ∀ (n : Nat) (t u : Tm) (k : Nat) (S : Store) (Q : PQ) (E : PX), t.dep ≤ n → u.dep ≤ n → n + 8 ≤ k → n ≤ 20000 → t.size ≤ 1000000 → u.size ≤ 1000000 → t.dep ≤ 63 → t.nf = true → u.nf = true → t.ok → u.ok → Q (Tm.path n t u) S → runF T fns k y [t.pv, u.pv] S Q E
  | 0, t, u, k, S, Q, E, h1, _, _, _, _, _, _, _, _, _, _, _ => by have := t.dep_pos; omega
  | n + 1, t, u, k, S, Q, E, h1, h2, hk, hn, z1, z2, hd, ht, hu, o1, o2, h => by
    obtain ⟨k, rfl⟩ : ∃ j, k = j + 1 := ⟨k - 1, by omega⟩
    refine run_in hy rfl fun wf un => ?_
    simp only [lUnlikeD]
    walk_at "pv"
    refine leta_ok (by omega) z1 ?_
    refine leta_ok (by omega) z2 ?_
    have := t.eta_dep
    have := u.eta_dep
    rw [tm_eqQ (by omega)]
    simp only [Tm.path] at h
    by_cases e : t.eta = u.eta
    · rw [if_pos e] at h
      simp [e]
      exact .inl h
    · rw [if_neg e] at h
      simp [e]
      refine lagree_ok (by omega) (by omega) (by omega) (by omega) ht hu o1 o2 ?_
      simp only [Tm.unl] at h
      cases ag : Tm.agree t u with
      | false => rw [ag] at h; simp; exact .inl h
      | true =>
        simp only [ag, if_true] at h
        simp
        have lt : Tm.firstNe (t.sArgs (max t.cnt u.cnt)) (u.sArgs (max t.cnt u.cnt)) < (t.sArgs (max t.cnt u.cnt)).length := Classical.byContradiction fun z => e (Tm.agree_alike ht hu ag z)
        have ag2 := ag
        simp only [Tm.agree, Bool.and_eq_true, decide_eq_true_eq] at ag2
        have hlen := ag2.2
        have s1 := Tm.firstNe_spec _ _ hlen lt
        refine lboth_ok (by omega) (by omega) (by omega) (by omega) ht hu o1 o2 fun J v w r ⟨a1, a2, e1, q1, q2⟩ ⟨b1, b2, e2, q3, q4⟩ hr => ?_
        subst e1 e2
        walk_at "pv"
        simp only [hr, q1, q2]
        walk_at "pv"
        have lt2 := lt
        rw [hlen] at lt2
        have len1 := t.sArgs_len (max t.cnt u.cnt)
        have dc1 := t.dep_core
        have dc2 := u.dep_core
        have dc3 := t.core.len_args
        refine ⟨_, q1, rfl, _, rfl, ?_⟩
        simp [q2]
        refine ⟨by simp [rngOk]; omega, ?_⟩
        refine for_ind (I := fun xs ρ S' => S ++ J = S' ∧ ∃ (j : Nat) (x y : Option PV), xs = rngL j (t.sArgs (max t.cnt u.cnt)).length ∧ j ≤ Tm.firstNe (t.sArgs (max t.cnt u.cnt)) (u.sArgs (max t.cnt u.cnt)) ∧ ρ = [some t.pv, some u.pv, some (.ref a1), some (.ref b1), x, y]) ?_ ?_ _ _ _ ⟨rfl, 0, none, none, rfl, by omega, rfl⟩
        · rintro x xs _ _ ⟨rfl, j, x4, x5, ex, hj, rfl⟩
          refine ⟨trivial, fun K hK => ?_⟩
          have hjl : j < (t.sArgs (max t.cnt u.cnt)).length := by omega
          rw [rngL_cons (by omega)] at ex
          simp only [List.cons.injEq] at ex
          obtain ⟨rfl, rfl⟩ := ex
          have m1 := Tm.sArgs_mem ht (Tm.getD_mem hjl)
          have m2 := Tm.sArgs_mem hu (Tm.getD_mem (hlen ▸ hjl))
          have p1 := Tm.part_dep ht h1 h2 hjl
          have p2 := Tm.part_dep (t := u) (u := t) hu h2 h1 (k := j) (by rw [Nat.max_comm]; exact hlen ▸ hjl)
          rw [Nat.max_comm] at p2
          have w1 := Tm.sArgs_ok o1 (Nat.le_max_left _ _) (Tm.getD_mem hjl)
          have w2 := Tm.sArgs_ok o2 (Nat.le_max_right _ _) (Tm.getD_mem (hlen ▸ hjl))
          have y1 := Tm.sArgs_size ht (Tm.getD_mem hjl)
          have y2 := Tm.sArgs_size hu (Tm.getD_mem (hlen ▸ hjl))
          walk_at "pv"
          simp [q1, q2, q3, q4, -List.getD_eq_getElem?_getD]
          rw [at_map (d := default) hjl, at_map (d := default) (hlen ▸ hjl)]
          simp [-List.getD_eq_getElem?_getD]
          refine lunlike_aux hy he hef hep hs hg hb ho hi hc n _ _ _ _ _ _ p1 p2 (by omega) (by omega) (by omega) (by omega) (by omega) m1.1 m2.1 w1 w2 ?_
          simp only [Tm.path]
          by_cases hj2 : j = Tm.firstNe (t.sArgs (max t.cnt u.cnt)) (u.sArgs (max t.cnt u.cnt))
          · subst hj2
            rw [if_neg s1.1]
            simp only [plPV]
            walk_at "pv"
            have ul := Tm.unl_len n ((t.sArgs (max t.cnt u.cnt)).getD (Tm.firstNe (t.sArgs (max t.cnt u.cnt)) (u.sArgs (max t.cnt u.cnt))) default) ((u.sArgs (max t.cnt u.cnt)).getD (Tm.firstNe (t.sArgs (max t.cnt u.cnt)) (u.sArgs (max t.cnt u.cnt))) default)
            refine ⟨by omega, Gc.junk wf ?_ (by simpa only [plPV, List.map_cons] using h)⟩
            simp only [PV.under]
            exact underL_of _ (by simp [PV.under])
          · rw [if_pos (s1.2 j (by omega))]
            walk_at "pv"
            exact hK _ _ ⟨rfl, j + 1, _, _, rfl, by omega, rfl⟩
        · rintro _ _ ⟨rfl, j, x4, x5, ex, hj, rfl⟩
          rw [rngL_cons (by omega)] at ex
          cases ex
end
end Pv
set_option Elab.async false
set_option linter.all false
set_option maxRecDepth 100000
set_option maxHeartbeats 1000000
/-! Lt8: paths to unlike places; by bodies. -/
namespace Pv
open PySem
local macro_rules | `(tactic| walk_at "pv") => `(tactic| simp [wpSs, wpS, wpE, wpT, wpEs, wpTs, wpO, wpI, wpG, startP, wipeP, L2.CMul, L2.CDiv, L2.CPow, tg_inj, sizeLine, eqB_tup, -List.getD_eq_getElem?_getD])
def PV.noRef : PV → Bool
  | .ref _ => false
  | .fn _ => false
  | _ => true
def PV.isI : PV → Bool
  | .int _ => true
  | _ => false
/-- a value that may be a path -/
inductive PathV (S : Store) : PV → Prop where
  | tup (vs : List PV) : (∀ v, v ∈ vs → v.noRef = true) → PathV S (.tup vs)
  | non : PathV S .non
  | lst (r : Nat) (xs : List PV) : S[r]? = some (.lst xs) → PathV S (.ref r)
def Tm.showsV (t u : Tm) : PV → Bool
  | .tup vs => Tm.shows t u vs
  | _ => false
section
variable {T : Tab} {fns : List FD} {S : Store} {Q : PQ} {E : PX}
theorem isint_any {i k : Nat} {v : PV} (hv : v.noRef = true) (h : Q (.bl v.isI) S) (hi : fns[i]? = some isIntD := by first | assumption | rfl) : runF T fns (k + 1) i [v] S Q E := by
  refine run_in hi rfl fun wf un => ?_
  simp only [isIntD]
  cases v <;> simp only [PV.isI] at h <;> simp only [PV.noRef] at hv <;> first | cases hv | skip
  all_goals (walk_at "pv"; first | exact .inl h | exact .inl (.inl h) | exact .inl ⟨_, .inl h⟩ | skip)
/-- is_below -/
def isBelowD (c_is_integer : Nat) : FD := ⟨2, 2, (.cons (.ret (.and (.call c_is_integer (.cons (.var 0) .nil) []) (.chain .le .lt (.cst (.int 0)) (.var 0) (.var 1)))) .nil)⟩
theorem isbelow_ok {i j k : Nat} {v : PV} {n : Nat} (hv : v.noRef = true) (h : Q (.bl (match v with | .int x => decide (0 ≤ x) && decide (x < n) | _ => false)) S) (hi : fns[i]? = some (isBelowD j) := by first | assumption | rfl) (hj : fns[j]? = some isIntD := by first | assumption | rfl) : runF T fns (k + 2) i [v, .int n] S Q E := by
  refine run_in hi rfl fun wf un => ?_
  simp only [isBelowD]
  walk_at "pv"
  refine isint_any hv ?_
  cases v with
  | int x =>
    simp only [PV.isI] at h ⊢
    walk_at "pv"
    by_cases h0 : 0 ≤ x
    · simp [h0] at h ⊢; exact .inr (.inl h)
    · simp [h0] at h ⊢; exact ⟨by omega, .inl h⟩
  | _ => simp only [PV.isI] at h ⊢; simp; exact .inl h
/-- shows_unlike -/
def showsUnlikeD (c_check_normal c_opened_together c_heads_agree c_is_below : Nat) : FD := ⟨3, 6, (.cons (.expr (.call c_check_normal (.cons (.var 0) .nil) [])) (.cons (.expr (.call c_check_normal (.cons (.var 1) .nil) [])) (.cons (.ifs (.not (.isin (.var 2) .tTuple)) (.cons (.ret (.cst (.bl false))) .nil) .nil) (.cons (.asg (.tp [3, 4]) (.call c_opened_together (.cons (.var 0) (.cons (.var 1) .nil)) [])) (.cons (.for_ (.nm 5) (.val (.var 2)) (.cons (.ifs (.or (.not (.call c_heads_agree (.cons (.var 3) (.cons (.var 4) .nil)) [])) (.not (.call c_is_below (.cons (.var 5) (.cons (.bi .len (.cons (.idxc (.var 3) 2) .nil)) .nil)) []))) (.cons (.ret (.cst (.bl false))) .nil) .nil) (.cons (.asg (.tp [3, 4]) (.call c_opened_together (.cons (.idx (.idxc (.var 3) 2) (.var 5)) (.cons (.idx (.idxc (.var 4) 2) (.var 5)) .nil)) [])) .nil))) (.cons (.ret (.not (.call c_heads_agree (.cons (.var 3) (.cons (.var 4) .nil)) []))) .nil))))))⟩
theorem shows_ok {y cn t0 j0 e0 b0 n1 n0 g o g1 r c a ib D k : Nat} {t u : Tm} {w : PV} (hw : PathV S w) (h1 : t.dep ≤ D) (h2 : u.dep ≤ D) (hk : D + 7 ≤ k) (hD : D ≤ 20000) (ht : t.nf = true) (hu : u.nf = true) (o1 : t.ok) (o2 : u.ok) (h : Q (.bl (Tm.showsV t u w)) S)
    (hy : fns[y]? = some (showsUnlikeD cn g a ib) := by first | assumption | rfl) (hcn : fns[cn]? = some (checkNormalD t0 j0 e0) := by first | assumption | rfl) (hj0 : fns[j0]? = some (firstBetaD b0 j0) := by first | assumption | rfl) (hb0 : fns[b0]? = some isBetaD := by first | assumption | rfl) (ht0 : fns[t0]? = some (isTermD n1 t0) := by first | assumption | rfl) (hn1 : fns[n1]? = some (isNatD n0) := by first | assumption | rfl) (hn0 : fns[n0]? = some isIntD := by first | assumption | rfl) (hg : fns[g]? = some (openedTogetherD o g1) := by first | assumption | rfl) (ho : fns[o]? = some openedPartD := by first | assumption | rfl) (hg1 : fns[g1]? = some (stretchD o r c) := by first | assumption | rfl) (hr : fns[r]? = some (raisedD o c r) := by first | assumption | rfl) (hc : fns[c]? = some closedPartD := by first | assumption | rfl) (ha : fns[a]? = some headsAgreeD := by first | assumption | rfl) (hib : fns[ib]? = some (isBelowD n0) := by first | assumption | rfl) : runF T fns k y [t.pv, u.pv, w] S Q E := by
  obtain ⟨k, rfl⟩ : ∃ j, k = j + 3 := ⟨k - 3, by omega⟩
  have c1 := t.dep_pos
  refine run_in hy rfl fun wf un => ?_
  simp only [showsUnlikeD]
  walk_at "pv"
  refine checknormal_ok (by omega) (by omega) o1 ht ?_
  refine checknormal_ok (by omega) (by omega) o2 hu ?_
  cases hw with
  | non => walk_at "pv"; exact .inl h
  | lst r xs hr => walk_at "pv"; exact ⟨_, hr, rfl, .inl h⟩
  | tup vs hvs =>
    simp only [Tm.showsV] at h
    walk_at "pv"
    refine together_ok (by omega) (by omega) (by omega) (by omega) ht hu fun J v x p1 p2 => ?_
    walk_at "pv"
    refine for_ind (I := fun xs ρ S' => ∃ (t' u' : Tm) (J : Store) (v x : PV) (z : Option PV), S' = S ++ J ∧ ρ = [some t.pv, some u.pv, some (.tup vs), some v, some x, z] ∧ (∀ v, v ∈ xs → v.noRef = true) ∧ t'.dep ≤ D ∧ u'.dep ≤ D ∧ t'.nf = true ∧ u'.nf = true ∧ t'.ok ∧ u'.ok ∧ Tm.shows t' u' xs = Tm.shows t u vs ∧
      OpenAt (S ++ J) v (max t'.cnt u'.cnt) (t'.sHix (max t'.cnt u'.cnt)) (t'.sArgs (max t'.cnt u'.cnt)) ∧ OpenAt (S ++ J) x (max t'.cnt u'.cnt) (u'.sHix (max t'.cnt u'.cnt)) (u'.sArgs (max t'.cnt u'.cnt))) ?_ ?_ _ _ _ ⟨t, u, J, v, x, none, rfl, rfl, hvs, h1, h2, ht, hu, o1, o2, rfl, p1, p2⟩
    · rintro z zs _ _ ⟨t', u', J, v, x, z0, rfl, rfl, hz, h1, h2, ht, hu, o1, o2, es, p1, p2⟩
      refine ⟨trivial, fun K hK => ?_⟩
      have hlast : Tm.shows t u vs = false → Gc S.length (.bl false) (S ++ J) Q := fun e => by rw [e] at h; exact Gc.junk wf (by simp [PV.under]) h
      walk_at "pv"
      refine headsagree_ok p1 p2 ?_
      rw [show (decide (t'.sHix (max t'.cnt u'.cnt) = u'.sHix (max t'.cnt u'.cnt)) && decide ((t'.sArgs (max t'.cnt u'.cnt)).length = (u'.sArgs (max t'.cnt u'.cnt)).length)) = Tm.agree t' u' from rfl]
      rw [← es] at hlast
      cases ag : Tm.agree t' u' with
      | false =>
        simp
        refine hlast ?_
        cases z <;> simp [Tm.shows, ag]
      | true =>
        have ag2 := ag
        simp only [Tm.agree, Bool.and_eq_true, decide_eq_true_eq] at ag2
        have hlen := ag2.2
        obtain ⟨r1, rfl, q1⟩ := p1
        obtain ⟨r2, rfl, q2⟩ := p2
        simp [q1]
        refine isbelow_ok (hz z (.head _)) ?_
        cases z with
        | int i =>
          simp only [Tm.shows, ag] at hlast es
          by_cases hi : 0 ≤ i ∧ i < (t'.sArgs (max t'.cnt u'.cnt)).length
          · simp only [hi, and_self, if_true] at es
            simp [hi, q1, q2]
            obtain ⟨m, rfl⟩ : ∃ m : Nat, i = m := ⟨i.toNat, by omega⟩
            have hml : m < (t'.sArgs (max t'.cnt u'.cnt)).length := by omega
            rw [at_map (d := default) hml, at_map (d := default) (hlen ▸ hml)]
            have m1 := Tm.sArgs_mem ht (Tm.getD_mem hml)
            have m2 := Tm.sArgs_mem hu (Tm.getD_mem (hlen ▸ hml))
            have d1 := t'.dep_pos
            have d2 := u'.dep_pos
            simp [-List.getD_eq_getElem?_getD]
            refine together_ok (by omega) (by omega) (by omega) (by omega) m1.1 m2.1 fun J2 v x p1 p2 => ?_
            simp [-List.getD_eq_getElem?_getD]
            exact hK _ _ ⟨_, _, J ++ J2, v, x, some (.int m), by simp, rfl, fun v hv => hz v (.tail _ hv), by omega, by omega, m1.1, m2.1, Tm.sArgs_ok o1 (Nat.le_max_left _ _) (Tm.getD_mem hml), Tm.sArgs_ok o2 (Nat.le_max_right _ _) (Tm.getD_mem (hlen ▸ hml)), by simpa using es, by simpa using p1, by simpa using p2⟩
          · have : (decide (0 ≤ i) && decide (i < ((t'.sArgs (max t'.cnt u'.cnt)).length : Int))) = false := by simp; omega
            simp only [this]
            simp
            exact hlast (by simp; omega)
        | _ => simp; exact hlast (by simp [Tm.shows])
    · rintro _ _ ⟨t', u', J, v, x, z0, rfl, rfl, hz, h1, h2, ht, hu, o1, o2, es, p1, p2⟩
      refine ⟨trivial, ?_⟩
      walk_at "pv"
      refine headsagree_ok p1 p2 ?_
      rw [show (decide (t'.sHix (max t'.cnt u'.cnt) = u'.sHix (max t'.cnt u'.cnt)) && decide ((t'.sArgs (max t'.cnt u'.cnt)).length = (u'.sArgs (max t'.cnt u'.cnt)).length)) = Tm.agree t' u' from rfl]
      simp
      rw [← es] at h
      simp only [Tm.shows] at h
      exact Gc.junk wf (by simp [PV.under]) h
/-- _law_shows -/
def lShowsD (c_law_agree c_law_both : Nat) : FD := ⟨3, 6, (.cons (.ifs (.not (.isin (.var 2) .tTuple)) (.cons (.ret (.cst (.bl false))) .nil) .nil) (.cons (.for_ (.nm 3) (.val (.var 2)) (.cons (.ifs (.or (.not (.isin (.var 3) .tInt)) (.or (.isin (.var 3) .tBool) (.not (.call c_law_agree (.cons (.var 0) (.cons (.var 1) .nil)) [])))) (.cons (.ret (.cst (.bl false))) .nil) .nil) (.cons (.asg (.tp [4, 5]) (.call c_law_both (.cons (.var 0) (.cons (.var 1) .nil)) [])) (.cons (.ifs (.not (.chain .le .lt (.cst (.int 0)) (.var 3) (.bi .len (.cons (.idxc (.var 4) 2) .nil)))) (.cons (.ret (.cst (.bl false))) .nil) .nil) (.cons (.asg (.tp [0, 1]) (.tup (.cons (.idx (.idxc (.var 4) 2) (.var 3)) (.cons (.idx (.idxc (.var 5) 2) (.var 3)) .nil)))) .nil))))) (.cons (.ret (.not (.call c_law_agree (.cons (.var 0) (.cons (.var 1) .nil)) []))) .nil)))⟩
theorem lshows_ok {y ga b o i c s D k : Nat} {t u : Tm} {w : PV} (hw : PathV S w) (h1 : t.dep ≤ D) (h2 : u.dep ≤ D) (hk : D + 7 ≤ k) (hD : D ≤ 20000) (ht : t.nf = true) (hu : u.nf = true) (o1 : t.ok) (o2 : u.ok) (h : Q (.bl (Tm.showsV t u w)) S)
    (hy : fns[y]? = some (lShowsD ga b) := by first | assumption | rfl) (hga : fns[ga]? = some (lAgreeD b) := by first | assumption | rfl) (hb : fns[b]? = some (lBothD o i) := by first | assumption | rfl) (ho : fns[o]? = some lOpenedD := by first | assumption | rfl) (hi : fns[i]? = some (lStretchedD o s c) := by first | assumption | rfl) (hs : fns[s]? = some (shiftD s) := by first | assumption | rfl) (hc : fns[c]? = some lClosedD := by first | assumption | rfl) : runF T fns k y [t.pv, u.pv, w] S Q E := by
  obtain ⟨k, rfl⟩ : ∃ j, k = j + 3 := ⟨k - 3, by omega⟩
  have c1 := t.dep_pos
  refine run_in hy rfl fun wf un => ?_
  simp only [lShowsD]
  cases hw with
  | non => walk_at "pv"; exact .inl h
  | lst r xs hr => walk_at "pv"; exact ⟨_, hr, rfl, .inl h⟩
  | tup vs hvs =>
    simp only [Tm.showsV] at h
    walk_at "pv"
    refine for_ind (I := fun xs ρ S' => ∃ (t' u' : Tm) (J : Store) (z v x : Option PV), S' = S ++ J ∧ ρ = [some t'.pv, some u'.pv, some (.tup vs), z, v, x] ∧ (∀ v, v ∈ xs → v.noRef = true) ∧ t'.dep ≤ D ∧ u'.dep ≤ D ∧ t'.nf = true ∧ u'.nf = true ∧ t'.ok ∧ u'.ok ∧ Tm.shows t' u' xs = Tm.shows t u vs) ?_ ?_ _ _ _ ⟨t, u, [], none, none, none, by simp, rfl, hvs, h1, h2, ht, hu, o1, o2, rfl⟩
    · rintro z zs _ _ ⟨t', u', J, z0, v, x, rfl, rfl, hz, h1, h2, ht, hu, o1, o2, es⟩
      refine ⟨trivial, fun K hK => ?_⟩
      have hlast : Tm.shows t u vs = false → Gc S.length (.bl false) (S ++ J) Q := fun e => by rw [e] at h; exact Gc.junk wf (by simp [PV.under]) h
      rw [← es] at hlast
      cases z with
      | int i =>
        walk_at "pv"
        refine lagree_ok (by omega) (by omega) (by omega) (by omega) ht hu o1 o2 ?_
        cases ag : Tm.agree t' u' with
        | false =>
          simp
          exact hlast (by simp [Tm.shows, ag])
        | true =>
          have ag2 := ag
          simp only [Tm.agree, Bool.and_eq_true, decide_eq_true_eq] at ag2
          have hlen := ag2.2
          simp
          refine lboth_ok (by omega) (by omega) (by omega) (by omega) ht hu o1 o2 fun J2 v w r ⟨a1, a2, e1, q1, q2⟩ ⟨b1, b2, e2, q3, q4⟩ hr => ?_
          subst e1 e2
          have hlast2 : Tm.shows t u vs = false → Gc S.length (.bl false) (S ++ J ++ J2) Q := fun e => by rw [e] at h; rw [List.append_assoc]; exact Gc.junk wf (by simp [PV.under]) h
          rw [← es] at hlast2
          simp only [Tm.shows, ag] at hlast2 es
          have hi0 : ∃ P : Prop, P := ⟨True, trivial⟩
          walk_at "pv"
          simp only [List.append_assoc] at hr q1 q2 q3 q4 hlast2
          refine ⟨_, hr, rfl, rfl, ?_⟩
          by_cases hi : 0 ≤ i ∧ i < (t'.sArgs (max t'.cnt u'.cnt)).length
          · simp only [hi, and_self, if_true] at es
            obtain ⟨m, rfl⟩ : ∃ m : Nat, i = m := ⟨i.toNat, by omega⟩
            have hml : m < (t'.sArgs (max t'.cnt u'.cnt)).length := by omega
            simp [q1, q2, q3, q4]
            simp [hml, q1, q2, q3, q4]
            rw [at_map (d := default) hml, at_map (d := default) (hlen ▸ hml)]
            have m1 := Tm.sArgs_mem ht (Tm.getD_mem hml)
            have m2 := Tm.sArgs_mem hu (Tm.getD_mem (hlen ▸ hml))
            have d1 := t'.dep_pos
            have d2 := u'.dep_pos
            simp [-List.getD_eq_getElem?_getD]
            refine .inr (hK _ _ ⟨_, _, J ++ J2, some (.int m), some (.ref a1), some (.ref b1), rfl, rfl, fun v hv => hz v (.tail _ hv), by omega, by omega, m1.1, m2.1, Tm.sArgs_ok o1 (Nat.le_max_left _ _) (Tm.getD_mem hml), Tm.sArgs_ok o2 (Nat.le_max_right _ _) (Tm.getD_mem (hlen ▸ hml)), by simpa using es⟩)
          · have hl2 := hlast2 (by simp; omega)
            by_cases h0 : 0 ≤ i
            · have h3 : ¬ i < (t'.sArgs (max t'.cnt u'.cnt)).length := fun z => hi ⟨h0, z⟩
              simp [h0, h3, q1, q2, hl2]
              omega
            · simp [h0]
              exact hl2
      | bl b => walk_at "pv"; exact hlast (by simp [Tm.shows])
      | non => walk_at "pv"; exact hlast (by simp [Tm.shows])
      | str x => walk_at "pv"; exact hlast (by simp [Tm.shows])
      | tup x => walk_at "pv"; exact hlast (by simp [Tm.shows])
      | ref x => exact absurd (hz _ (.head _)) (by simp [PV.noRef])
      | fn x => exact absurd (hz _ (.head _)) (by simp [PV.noRef])
    · rintro _ _ ⟨t', u', J, z0, v, x, rfl, rfl, hz, h1, h2, ht, hu, o1, o2, es⟩
      refine ⟨trivial, ?_⟩
      walk_at "pv"
      refine lagree_ok (by omega) (by omega) (by omega) (by omega) ht hu o1 o2 ?_
      simp
      rw [← es] at h
      simp only [Tm.shows] at h
      exact Gc.junk wf (by simp [PV.under]) h
end
end Pv
set_option Elab.async false
set_option linter.all false
set_option maxRecDepth 100000
set_option maxHeartbeats 1000000
/-! Ld: the laws' stream of draws (list form), kept at 3: only its cell changes. -/
namespace Pv
open PySem
local macro_rules | `(tactic| walk_at "pv") => `(tactic| simp [wpSs, wpS, wpE, wpT, wpEs, wpTs, wpO, wpI, wpG, startP, L2.CMul, L2.CDiv, L2.CPow, sizeLine, -List.getD_eq_getElem?_getD])
/-- the stream stands at 3, its cells at 2; at most C draws have been made -/
def StA (C : Int) (S : Store) : Prop :=
  ∃ (cells : List Int) (p big ticks seed : Int), S[2]? = some (.lst (cells.map .int)) ∧ S[3]? = some (.lst [.ref 2, .int p, .int big, .int ticks, .int seed]) ∧ 0 ≤ p ∧ 0 ≤ ticks ∧ ticks ≤ C
theorem StA.mono {C C' : Int} {S : Store} (h : StA C S) (hc : C ≤ C') : StA C' S := by
  obtain ⟨cells, p, big, ticks, seed, h1, h2, h3, h4, h5⟩ := h
  exact ⟨cells, p, big, ticks, seed, h1, h2, h3, h4, by omega⟩
theorem StA.len {C : Int} {S : Store} (h : StA C S) : 3 < S.length := by
  obtain ⟨cells, p, big, ticks, seed, h1, h2, h3, h4, h5⟩ := h
  exact (List.getElem?_eq_some_iff.1 h2).1
theorem StA.more {C : Int} {S J : Store} (h : StA C S) : StA C (S ++ J) := by
  obtain ⟨cells, p, big, ticks, seed, h1, h2, h3, h4, h5⟩ := h
  have l1 := (List.getElem?_eq_some_iff.1 h1).1
  have l2 := (List.getElem?_eq_some_iff.1 h2).1
  exact ⟨cells, p, big, ticks, seed, by rw [List.getElem?_append_left l1]; exact h1, by rw [List.getElem?_append_left l2]; exact h2, h3, h4, h5⟩
theorem StA.cut {C : Int} {S J : Store} (h : StA C (S ++ J)) (hl : 3 < S.length) : StA C S := by
  obtain ⟨cells, p, big, ticks, seed, h1, h2, h3, h4, h5⟩ := h
  rw [List.getElem?_append_left (by omega)] at h1 h2
  exact ⟨cells, p, big, ticks, seed, h1, h2, h3, h4, h5⟩
theorem StA.wf {C : Int} {S : Store} {o : Mo} (h : StA C (S.set 3 o)) (w : WfS S) : WfS (S.set 3 o) := by
  have hl := h.len
  obtain ⟨cells, p, big, ticks, seed, h1, h2, h3, h4, h5⟩ := h
  simp only [List.length_set] at hl
  rw [List.getElem?_set_self hl] at h2
  cases h2
  show wfAt (S.set 3 _).length (S.set 3 _) = true
  rw [List.length_set]
  have w : wfAt S.length S = true := w
  unfold wfAt at *
  rw [List.all_eq_true] at *
  intro x hx
  rcases List.mem_or_eq_of_mem_set hx with hx | rfl
  · exact w x hx
  · simp [Mo.under, Mo.vals, PV.underL, PV.under]; omega
theorem set_self {S : Store} {o : Mo} {r : Nat} (h : S[r]? = some o) : S.set r o = S := by
  obtain ⟨hl, e⟩ := List.getElem?_eq_some_iff.1 h
  rw [← e, List.set_getElem_self]
theorem StA.self {C : Int} {S : Store} (h : StA C S) : ∃ o, S.set 3 o = S := by
  obtain ⟨cells, p, big, ticks, seed, h1, h2, _⟩ := h
  exact ⟨_, set_self h2⟩
theorem set_app {S J : Store} {o : Mo} (h : 3 < S.length) : (S ++ J).set 3 o = S.set 3 o ++ J := List.set_append_left _ _ h
theorem set_get {S : Store} {o u : Mo} {r : Nat} (h : S[r]? = some u) (hr : r ≠ 3) : (S.set 3 o)[r]? = some u := by
  rw [List.getElem?_set_ne (Ne.symm hr)]; exact h
theorem Gc.junk3 {C : Int} {S J : Store} {o : Mo} {v : PV} {Q : PQ} (wf : WfS S) (h : StA C (S.set 3 o)) (hv : v.under S.length = true) (q : Q v (S.set 3 o)) : Gc S.length v (S.set 3 o ++ J) Q :=
  .inr ⟨S.set 3 o, J, rfl, List.length_set, by have := h.wf wf; rw [WfS, List.length_set] at this; exact this, hv, q⟩
def takeD : FD := ⟨2, 7, (.cons (.asg (.sub (.var 0) (.cst (.int 3))) (.bin .add (.idxc (.var 0) 3) (.cst (.int 1)))) (.cons (.ifs (.cmp .ge (.idxc (.var 0) 2) (.var 1)) (.cons (.asg (.nm 2) (.bin .mod (.bi .int1 (.cons (.idxc (.var 0) 2) .nil)) (.var 1))) (.cons (.asg (.sub (.var 0) (.cst (.int 2))) (.bin .fdiv (.idxc (.var 0) 2) (.var 1))) (.cons (.ret (.var 2)) .nil))) .nil) (.cons (.asg (.nm 3) (.idxc (.var 0) 4)) (.cons (.ifs (.cmp .lt (.idxc (.var 0) 1) (.bi .len (.cons (.idxc (.var 0) 0) .nil))) (.cons (.asg (.nm 4) (.idx (.idxc (.var 0) 0) (.idxc (.var 0) 1))) (.cons (.asg (.sub (.var 0) (.cst (.int 1))) (.bin .add (.idxc (.var 0) 1) (.cst (.int 1)))) (.cons (.ifs (.cmp .ge (.var 4) (.bin .pow (.cst (.int 10)) (.cst (.int 18)))) (.cons (.asg (.sub (.var 0) (.cst (.int 2))) (.bin .fdiv (.var 4) (.var 1))) (.cons (.ret (.bin .mod (.bi .int1 (.cons (.var 4) .nil)) (.var 1))) .nil)) .nil) (.cons (.asg (.nm 3) (.bin .mod (.bi .int1 (.cons (.bin .add (.var 3) (.bin .mul (.var 4) (.cst (.int 69997)))) .nil)) (.cst (.int 2147483647)))) .nil)))) .nil) (.cons (.asg (.nm 5) (.idxc (.var 0) 3)) (.cons (.asg (.nm 6) (.bin .mod (.bi .int1 (.cons (.bin .add (.bin .add (.bin .mul (.var 3) (.cst (.int 48271))) (.bin .mul (.bin .mul (.var 5) (.var 5)) (.cst (.int 69621)))) (.cst (.int 12345))) .nil)) (.cst (.int 2147483647)))) (.cons (.ret (.bin .mod (.bin .mod (.bi .int1 (.cons (.bin .add (.bin .mul (.var 6) (.cst (.int 16807))) (.bin .mul (.var 5) (.cst (.int 7919)))) .nil)) (.cst (.int 2147483629))) (.var 1))) .nil)))))))⟩
theorem take_aux {T : Tab} {fns : List FD} {i k : Nat} (hf : fns[i]? = some takeD) {a b : Mo} {C lim : Int} {rest : Store} {cells : List Int} {p big ticks seed : Int} {Q : PQ} {E : PX} (h0 : 0 < lim) (h1 : lim < 1073741824) (hC : C < 2 ^ 60) (hp : 0 ≤ p) (ht0 : 0 ≤ ticks) (ht : ticks ≤ C)
    (q : ∀ r p' big' seed', 0 ≤ r → r < lim → 0 ≤ p' → Q (.int r) (a :: b :: .lst (cells.map .int) :: .lst [.ref 2, .int p', .int big', .int (ticks + 1), .int seed'] :: rest)) : runF T fns (k + 1) i [.ref 3, .int lim] (a :: b :: .lst (cells.map .int) :: .lst [.ref 2, .int p, .int big, .int ticks, .int seed] :: rest) Q E := by
  refine run_in hf rfl fun wf un => ?_
  have m0 : ∀ x : Int, 0 ≤ x % lim := fun x => Int.emod_nonneg _ (by omega)
  have m1 : ∀ x : Int, x % lim < lim := fun x => Int.emod_lt_of_pos _ h0
  simp only [takeD]
  walk_at "pv"
  have K : ∀ (p' big' seed' : Int) (r : Int), 0 ≤ p' → 0 ≤ r → r < lim → Gc (List.length rest + 1 + 1 + 1 + 1) (.int r) (a :: b :: .lst (cells.map .int) :: .lst [.ref 2, .int p', .int big', .int (ticks + 1), .int seed'] :: rest) Q :=
    fun p' big' seed' r hp' hr hr' => .inl (q _ _ _ _ hr hr' hp')
  rcases Int.lt_or_le big lim with hb | hb
  · refine .inl ⟨hb, ?_⟩
    rcases Int.lt_or_le p cells.length with hc | hc
    · refine .inr ⟨hc, _, at_map2 (d := 0) hp hc, ?_⟩
      generalize cells.getD p.toNat 0 = x
      walk_at "pv"
      rcases Int.lt_or_le x 1000000000000000000 with hx | hx
      · exact .inl ⟨hx, by omega, h0, K _ _ _ _ (by omega) (m0 _) (m1 _)⟩
      · exact .inr ⟨hx, ⟨h0, h1⟩, h0, K _ _ _ _ (by omega) (m0 _) (m1 _)⟩
    · exact .inl ⟨hc, by omega, h0, K _ _ _ _ hp (m0 _) (m1 _)⟩
  · exact .inr ⟨hb, h0, ⟨h0, h1⟩, K _ _ _ _ hp (m0 _) (m1 _)⟩
theorem take_ok {T : Tab} {fns : List FD} {i k : Nat} {C lim : Int} {S : Store} {Q : PQ} {E : PX} (h0 : 0 < lim) (h1 : lim < 1073741824) (hC : C < 2 ^ 60)
    (h : StA C S) (q : ∀ r o, 0 ≤ r → r < lim → StA (C + 1) (S.set 3 o) → Q (.int r) (S.set 3 o)) (hf : fns[i]? = some takeD := by first | assumption | rfl) : runF T fns (k + 1) i [.ref 3, .int lim] S Q E := by
  obtain ⟨cells, p, big, ticks, seed, e1, e2, h3, h4, h5⟩ := h
  match S, e1, e2 with
  | [], e1, _ => cases e1
  | [_], e1, _ => cases e1
  | [_, _], e1, _ => cases e1
  | [_, _, _], _, e2 => cases e2
  | a :: b :: c :: d :: rest, e1, e2 =>
    simp at e1 e2
    subst e1 e2
    exact take_aux hf h0 h1 hC h3 h4 h5 fun r p' big' seed' hr hr' hp' => q r _ hr hr' ⟨cells, p', big', ticks + 1, seed', rfl, rfl, hp', by omega, by omega⟩
def streamD : FD := ⟨1, 5, (.cons (.asg (.nm 1) (.bi .list1 (.cons (.slice (.var 0) .no (.so (.cst (.int 63)))) .nil))) (.cons (.asg (.nm 2) (.cst (.int 11))) (.cons (.for_ (.tp [3, 4]) (.enum (.var 1)) (.cons (.asg (.nm 2) (.bin .mod (.bi .int1 (.cons (.bin .add (.bin .add (.bin .mul (.var 2) (.cst (.int 31))) (.bin .mul (.var 4) (.bin .add (.var 3) (.cst (.int 3))))) (.cst (.int 7))) .nil)) (.cst (.int 2147483629)))) .nil)) (.cons (.ret (.lst (.cons (.var 1) (.cons (.cst (.int 0)) (.cons (.cst (.int 0)) (.cons (.cst (.int 0)) (.cons (.var 2) .nil))))))) .nil))))⟩
theorem enumL_mem : ∀ (xs : List Int) (k : Nat) (z : PV), z ∈ enumL k (xs.map .int) → ∃ j x : Int, z = .tup [.int j, .int x] ∧ 0 ≤ j ∧ j < k + xs.length
  | [], _, _, h => by simp [enumL] at h
  | x :: xs, k, z, h => by
    simp only [List.map_cons, enumL, List.mem_cons] at h
    rcases h with rfl | h
    · exact ⟨k, x, rfl, by omega, by simp; omega⟩
    · obtain ⟨j, y, e, h0, h1⟩ := enumL_mem xs (k + 1) z h
      exact ⟨j, y, e, h0, by simp at h1 ⊢; omega⟩
theorem cut_63 {xs : List Int} : ∃ ys : List Int, cutPV (xs.map .int) none (some 63) = ys.map .int ∧ ys.length ≤ 63 := by
  refine ⟨xs.take (HT.sIx (xs.map PV.int).length (xs.map PV.int).length (some 63)), ?_, ?_⟩
  · unfold cutPV
    simp [HT.sIx_none, List.map_take]
  · rw [show (63 : Int) = ((63 : Nat) : Int) from rfl, HT.sIx_nat]
    simp; omega
theorem stream_ok {T : Tab} {fns : List FD} {i k : Nat} {ns : List Int} {Q : PQ} {E : PX}
    (q : ∀ S', S'.length = 4 → WfS S' → StA 0 S' → Q (.ref 3) S') (hf : fns[i]? = some streamD := by first | assumption | rfl) : runF T fns (k + 1) i [.ref 0] [.frz (ns.map .int)] Q E := by
  refine run_in hf rfl fun wf un => ?_
  simp only [streamD]
  walk_at "pv"
  obtain ⟨ys, hy, hl⟩ := cut_63 (xs := ns)
  rw [hy]
  refine for_ind (I := fun items ρ S => (∀ z, z ∈ items → ∃ j x : Int, z = .tup [.int j, .int x] ∧ 0 ≤ j ∧ j < 100) ∧ S = [Mo.frz (ns.map .int), Mo.lst (ys.map .int), Mo.lst (ys.map .int)] ∧
    ∃ (s : Int) (x3 x4 : Option PV), ρ = [some (.ref 0), some (.ref 2), some (.int s), x3, x4] ∧ 0 ≤ s ∧ s < 2147483648) ?_ ?_ _ _ _ ⟨?_, rfl, 11, none, none, rfl, by omega, by omega⟩
  · rintro x xs _ _ ⟨hz, rfl, s, x3, x4, rfl, s0, s1⟩
    refine ⟨by simp [srcOk], fun K hK => ?_⟩
    obtain ⟨j, y, rfl, j0, j1⟩ := hz x (.head _)
    walk_at "pv"
    refine ⟨by omega, hK _ _ ⟨fun z hz' => hz z (.tail _ hz'), rfl, _, _, _, rfl, Int.emod_nonneg _ (by omega), ?_⟩⟩
    have := Int.emod_lt_of_pos (s * 31 + y * (j + 3) + 7) (show (0 : Int) < 2147483629 by omega)
    omega
  · rintro _ _ ⟨hz, rfl, s, x3, x4, rfl, s0, s1⟩
    refine ⟨by simp [srcOk], ?_⟩
    walk_at "pv"
    have ul : ∀ zs : List Int, PV.underL 4 (zs.map .int) = true := fun zs => underL_of _ (by simp [PV.under])
    refine .inl (q _ rfl ?_ ⟨ys, 0, 0, 0, s, rfl, rfl, by omega, by omega, by omega⟩)
    show wfAt 4 _ = true
    simp [wfAt, Mo.under, Mo.vals, ul, PV.underL, PV.under]
  · intro z hz
    obtain ⟨j, x, e, h0, h1⟩ := enumL_mem ys 0 z hz
    exact ⟨j, x, e, h0, by omega⟩
/-- _law_same -/
def sameD (i : Nat) : FD := ⟨2, 4, (.cons (.ifs (.isin (.var 1) .tTuple) (.cons (.ifs (.or (.not (.isin (.var 0) .tTuple)) (.cmp .ne (.bi .len (.cons (.var 0) .nil)) (.bi .len (.cons (.var 1) .nil)))) (.cons (.ret (.cst (.bl false))) .nil) .nil) (.cons (.ret (.bi .all1 (.cons (.lc [2, 3] (.tp [2, 3]) (.zip (.var 0) (.var 1)) .nil (.call i (.cons (.var 2) (.cons (.var 3) .nil)) [])) .nil))) .nil)) .nil) (.cons (.ifs (.isin (.var 1) .tList) (.cons (.ifs (.or (.not (.isin (.var 0) .tList)) (.cmp .ne (.bi .len (.cons (.var 0) .nil)) (.bi .len (.cons (.var 1) .nil)))) (.cons (.ret (.cst (.bl false))) .nil) .nil) (.cons (.ret (.bi .all1 (.cons (.lc [2, 3] (.tp [2, 3]) (.zip (.var 0) (.var 1)) .nil (.call i (.cons (.var 2) (.cons (.var 3) .nil)) [])) .nil))) .nil)) .nil) (.cons (.ifs (.cmp .is (.var 1) (.cst .non)) (.cons (.ret (.cmp .is (.var 0) (.cst .non))) .nil) .nil) (.cons (.ifs (.cmp .is (.var 1) (.cst (.bl true))) (.cons (.ret (.cmp .is (.var 0) (.cst (.bl true)))) .nil) .nil) (.cons (.ifs (.cmp .is (.var 1) (.cst (.bl false))) (.cons (.ret (.cmp .is (.var 0) (.cst (.bl false)))) .nil) .nil) (.cons (.ifs (.isin (.var 1) .tInt) (.cons (.ret (.and (.isin (.var 0) .tInt) (.and (.not (.isin (.var 0) .tBool)) (.cmp .eq (.var 0) (.var 1))))) .nil) .nil) (.cons (.ret (.and (.isin (.var 0) .tStr) (.cmp .eq (.var 0) (.var 1)))) .nil)))))))⟩
theorem same_aux {T : Tab} {fns : List FD} {i : Nat} (hf : fns[i]? = some (sameD i)) : ∀ (n : Nat) (v : PV) (k : Nat) (S : Store) (Q : PQ) (E : PX), Gd n v → n + 1 ≤ k → Q (.bl true) S → runF T fns k i [v, v] S Q E := by
  intro n
  induction n with
  | zero =>
    intro v k S Q E g hk q
    obtain ⟨k, rfl⟩ : ∃ j, k = j + 1 := ⟨k - 1, by omega⟩
    refine run_in hf rfl fun wf un => ?_
    simp only [sameD]
    cases g with
    | non => walk_at "pv"; exact .inl q
    | bl b => cases b <;> (walk_at "pv"; exact .inl q)
    | int i => walk_at "pv"; exact .inl q
    | str x h => walk_at "pv"; exact .inl q
  | succ n ih =>
    intro v k S Q E g hk q
    obtain ⟨k, rfl⟩ : ∃ j, k = j + 1 := ⟨k - 1, by omega⟩
    refine run_in hf rfl fun wf un => ?_
    simp only [sameD]
    cases g with
    | non => walk_at "pv"; exact .inl q
    | bl b => cases b <;> (walk_at "pv"; exact .inl q)
    | int i => walk_at "pv"; exact .inl q
    | str x h => walk_at "pv"; exact .inl q
    | tup xs hl h =>
      walk_at "pv"
      rw [zip_self]
      refine lc_map (src := []) (fun _ => .bl true) rfl (fun _ => trivial) _ [] (by simp [sizeLine]; omega) ?_ ?_
      · intro z hz acc K hK
        obtain ⟨x, hx, rfl⟩ := List.mem_map.1 hz
        simp [wipeP]
        exact ih x k _ _ _ (h x hx) (by omega) hK
      · simp only [List.nil_append]
        refine ⟨.lst (xs.map fun _ => .bl true), by simp [Function.comp_def], rfl, true, allBl_true _, ?_⟩
        exact Gc.junk wf rfl q
theorem same_ok {T : Tab} {fns : List FD} {i n k : Nat} {v : PV} {S : Store} {Q : PQ} {E : PX} (g : Gd n v) (hk : n + 1 ≤ k) (q : Q (.bl true) S) (hf : fns[i]? = some (sameD i) := by first | assumption | rfl) : runF T fns k i [v, v] S Q E := same_aux hf n v k S Q E g hk q
end Pv
set_option Elab.async false
set_option linter.all false
set_option maxRecDepth 100000
set_option maxHeartbeats 1000000
/-! Lb: the laws' source of draws (dict form), kept at 2 with its cells at 4: only its cell changes. -/
namespace Pv
open PySem
local macro_rules | `(tactic| walk_at "pv") => `(tactic| simp [wpSs, wpS, wpE, wpT, wpEs, wpTs, wpO, wpI, wpG, startP, L2.CMul, L2.CDiv, L2.CPow, sizeLine, tg_inj, getP, putP, setP, mkD, keyOf, -List.getD_eq_getElem?_getD])
/-- what the source holds -/
abbrev srcM (p rest turn mix : Int) : Mo := .dct [(.inr (tg 4), .ref 4), (.inr (tg 5), .int p), (.inr (tg 6), .int rest), (.inr (tg 7), .int turn), (.inr (tg 8), .int mix)]
/-- the source stands at 2, its cells at 4; at most C draws have been made -/
def StB (C : Int) (S : Store) : Prop :=
  ∃ (cells : List Int) (p rest turn mix : Int), S[4]? = some (.lst (cells.map .int)) ∧ S[2]? = some (srcM p rest turn mix) ∧ 0 ≤ p ∧ 0 ≤ turn ∧ turn ≤ C
theorem StB.mono {C C' : Int} {S : Store} (h : StB C S) (hc : C ≤ C') : StB C' S := by
  obtain ⟨cells, p, rest, turn, mix, h1, h2, h3, h4, h5⟩ := h
  exact ⟨cells, p, rest, turn, mix, h1, h2, h3, h4, by omega⟩
theorem StB.len {C : Int} {S : Store} (h : StB C S) : 4 < S.length := by
  obtain ⟨cells, p, rest, turn, mix, h1, h2, h3, h4, h5⟩ := h
  exact (List.getElem?_eq_some_iff.1 h1).1
theorem StB.more {C : Int} {S J : Store} (h : StB C S) : StB C (S ++ J) := by
  obtain ⟨cells, p, rest, turn, mix, h1, h2, h3, h4, h5⟩ := h
  have l1 := (List.getElem?_eq_some_iff.1 h1).1
  have l2 := (List.getElem?_eq_some_iff.1 h2).1
  exact ⟨cells, p, rest, turn, mix, by rw [List.getElem?_append_left l1]; exact h1, by rw [List.getElem?_append_left l2]; exact h2, h3, h4, h5⟩
theorem StB.cut {C : Int} {S J : Store} (h : StB C (S ++ J)) (hl : 4 < S.length) : StB C S := by
  obtain ⟨cells, p, rest, turn, mix, h1, h2, h3, h4, h5⟩ := h
  rw [List.getElem?_append_left (by omega)] at h1 h2
  exact ⟨cells, p, rest, turn, mix, h1, h2, h3, h4, h5⟩
theorem StB.wf {C : Int} {S : Store} {o : Mo} (h : StB C (S.set 2 o)) (w : WfS S) : WfS (S.set 2 o) := by
  have hl := h.len
  obtain ⟨cells, p, rest, turn, mix, h1, h2, h3, h4, h5⟩ := h
  simp only [List.length_set] at hl
  rw [List.getElem?_set_self (by omega)] at h2
  cases h2
  show wfAt (S.set 2 _).length (S.set 2 _) = true
  rw [List.length_set]
  have w : wfAt S.length S = true := w
  unfold wfAt at *
  rw [List.all_eq_true] at *
  intro x hx
  rcases List.mem_or_eq_of_mem_set hx with hx | rfl
  · exact w x hx
  · simp [Mo.under, Mo.vals, PV.underL, PV.under]; omega
theorem StB.self {C : Int} {S : Store} (h : StB C S) : ∃ o, S.set 2 o = S := by
  obtain ⟨cells, p, rest, turn, mix, h1, h2, _⟩ := h
  exact ⟨_, set_self h2⟩
theorem set_app2 {S J : Store} {o : Mo} (h : 4 < S.length) : (S ++ J).set 2 o = S.set 2 o ++ J := List.set_append_left _ _ (by omega)
theorem set_get2 {S : Store} {o u : Mo} {r : Nat} (h : S[r]? = some u) (hr : r ≠ 2) : (S.set 2 o)[r]? = some u := by
  rw [List.getElem?_set_ne (Ne.symm hr)]; exact h
theorem Gc.junk2 {C : Int} {S J : Store} {o : Mo} {v : PV} {Q : PQ} (wf : WfS S) (h : StB C (S.set 2 o)) (hv : v.under S.length = true) (q : Q v (S.set 2 o)) : Gc S.length v (S.set 2 o ++ J) Q :=
  .inr ⟨S.set 2 o, J, rfl, List.length_set, by have := h.wf wf; rw [WfS, List.length_set] at this; exact this, hv, q⟩
/-- _law_draw -/
def drawD : FD := ⟨2, 6, (.cons (.ifs (.cmp .lt (.var 1) (.cst (.int 2))) (.cons (.ret (.cst (.int 0))) .nil) .nil) (.cons (.augD (.var 0) (.cst (.str (tg 7))) .add (.cst (.int 1))) (.cons (.asg (.nm 2) (.idx (.var 0) (.cst (.str (tg 7))))) (.cons (.ifs (.and (.cmp .lt (.idx (.var 0) (.cst (.str (tg 6)))) (.var 1)) (.cmp .lt (.idx (.var 0) (.cst (.str (tg 5)))) (.bi .len (.cons (.idx (.var 0) (.cst (.str (tg 4)))) .nil)))) (.cons (.asg (.nm 3) (.idx (.idx (.var 0) (.cst (.str (tg 4)))) (.idx (.var 0) (.cst (.str (tg 5)))))) (.cons (.augD (.var 0) (.cst (.str (tg 5))) .add (.cst (.int 1))) (.cons (.ifs (.cmp .ge (.var 3) (.bin .pow (.cst (.int 10)) (.cst (.int 18)))) (.cons (.asg (.sub (.var 0) (.cst (.str (tg 6)))) (.var 3)) .nil) (.cons (.asg (.sub (.var 0) (.cst (.str (tg 8)))) (.bin .mod (.bi .int1 (.cons (.bin .add (.bin .add (.bin .mul (.idx (.var 0) (.cst (.str (tg 8)))) (.cst (.int 48271))) (.bin .mul (.var 3) (.cst (.int 30011)))) (.var 2)) .nil)) (.cst (.int 2147483647)))) .nil)) .nil))) .nil) (.cons (.ifs (.cmp .ge (.idx (.var 0) (.cst (.str (tg 6)))) (.var 1)) (.cons (.asg (.nm 4) (.bin .mod (.bi .int1 (.cons (.idx (.var 0) (.cst (.str (tg 6)))) .nil)) (.var 1))) (.cons (.asg (.sub (.var 0) (.cst (.str (tg 6)))) (.bin .fdiv (.idx (.var 0) (.cst (.str (tg 6)))) (.var 1))) (.cons (.ret (.var 4)) .nil))) .nil) (.cons (.asg (.nm 5) (.bin .mod (.bi .int1 (.cons (.bin .add (.bin .add (.bin .mul (.idx (.var 0) (.cst (.str (tg 8)))) (.cst (.int 69621))) (.bin .mul (.bin .mul (.var 2) (.var 2)) (.cst (.int 7919)))) (.cst (.int 101))) .nil)) (.cst (.int 2147483629)))) (.cons (.ret (.bin .mod (.bin .mod (.bi .int1 (.cons (.bin .add (.bin .mul (.var 5) (.cst (.int 16807))) (.bin .mul (.var 2) (.cst (.int 104729)))) .nil)) (.cst (.int 2147483587))) (.var 1))) .nil)))))))⟩
theorem draw_aux {T : Tab} {fns : List FD} {i k : Nat} (hf : fns[i]? = some drawD) {a b c : Mo} {C lim : Int} {rest : Store} {cells : List Int} {p big turn mix : Int} {Q : PQ} {E : PX} (h0 : 0 < lim) (h1 : lim < 1073741824) (hC : C < 2 ^ 60) (hp : 0 ≤ p) (ht0 : 0 ≤ turn) (ht : turn ≤ C)
    (q : ∀ r p' big' t' mix', 0 ≤ r → r < lim → 0 ≤ p' → turn ≤ t' → t' ≤ turn + 1 → Q (.int r) (a :: b :: srcM p' big' t' mix' :: c :: .lst (cells.map .int) :: rest)) : runF T fns (k + 1) i [.ref 2, .int lim] (a :: b :: srcM p big turn mix :: c :: .lst (cells.map .int) :: rest) Q E := by
  refine run_in hf rfl fun wf un => ?_
  simp only [drawD]
  walk_at "pv"
  have m0 : ∀ x : Int, 0 ≤ x % lim := fun x => Int.emod_nonneg _ (by omega)
  have m1 : ∀ x : Int, x % lim < lim := fun x => Int.emod_lt_of_pos _ h0
  have K : ∀ (p' big' mix' : Int) (r : Int), 0 ≤ p' → 0 ≤ r → r < lim → Gc (List.length rest + 1 + 1 + 1 + 1 + 1) (.int r) (a :: b :: srcM p' big' (turn + 1) mix' :: c :: .lst (cells.map .int) :: rest) Q :=
    fun p' big' mix' r hp' hr hr' => .inl (q _ _ _ _ _ hr hr' hp' (by omega) (by omega))
  rcases Int.lt_or_le lim 2 with hl | hl
  · exact .inr ⟨hl, .inl (q 0 p big turn mix (by omega) (by omega) hp (by omega) (by omega))⟩
  · refine .inl ⟨hl, ?_⟩
    rcases Int.lt_or_le big lim with hb | hb
    · refine .inr ⟨hb, ?_⟩
      rcases Int.lt_or_le p cells.length with hc | hc
      · refine .inr ⟨hc, _, at_map2 (d := 0) hp hc, ?_⟩
        generalize cells.getD p.toNat 0 = x
        walk_at "pv"
        rcases Int.lt_or_le x 1000000000000000000 with hx | hx
        · exact .inl ⟨hx, .inl ⟨hb, by omega, h0, K _ _ _ _ (by omega) (m0 _) (m1 _)⟩⟩
        · exact .inr ⟨hx, .inr ⟨by omega, h0, ⟨h0, h1⟩, K _ _ _ _ (by omega) (m0 _) (m1 _)⟩⟩
      · exact .inl ⟨hc, .inl ⟨hb, by omega, h0, K _ _ _ _ hp (m0 _) (m1 _)⟩⟩
    · exact .inl ⟨hb, .inr ⟨hb, h0, ⟨h0, h1⟩, K _ _ _ _ hp (m0 _) (m1 _)⟩⟩
theorem draw_ok {T : Tab} {fns : List FD} {i k : Nat} {C lim : Int} {S : Store} {Q : PQ} {E : PX} (h0 : 0 < lim) (h1 : lim < 1073741824) (hC : C < 2 ^ 60)
    (h : StB C S) (q : ∀ r o, 0 ≤ r → r < lim → StB (C + 1) (S.set 2 o) → Q (.int r) (S.set 2 o)) (hf : fns[i]? = some drawD := by first | assumption | rfl) : runF T fns (k + 1) i [.ref 2, .int lim] S Q E := by
  obtain ⟨cells, p, big, turn, mix, e1, e2, h3, h4, h5⟩ := h
  match S, e1, e2 with
  | [], e1, _ => cases e1
  | [_], e1, _ => cases e1
  | [_, _], e1, _ => cases e1
  | [_, _, _], e1, _ => cases e1
  | [_, _, _, _], e1, _ => cases e1
  | a :: b :: d :: c :: e :: rest, e1, e2 =>
    simp at e1 e2
    subst e1 e2
    exact draw_aux hf h0 h1 hC h3 h4 h5 fun r p' big' t' mix' hr hr' hp' ht ht' => q r _ hr hr' ⟨cells, p', big', t', mix', rfl, rfl, hp', by omega, by omega⟩
/-- _law_source -/
def sourceD : FD := ⟨1, 3, (.cons (.asg (.nm 1) (.cst (.int 23))) (.cons (.for_ (.nm 2) (.val (.slice (.var 0) .no (.so (.cst (.int 63))))) (.cons (.asg (.nm 1) (.bin .mod (.bi .int1 (.cons (.bin .add (.bin .add (.bin .mul (.var 1) (.cst (.int 1009))) (.var 2)) (.cst (.int 5))) .nil)) (.cst (.int 998244353)))) .nil)) (.cons (.ret (.dct [.inr (tg 4), .inr (tg 5), .inr (tg 6), .inr (tg 7), .inr (tg 8)] (.cons (.bi .list1 (.cons (.slice (.var 0) .no (.so (.cst (.int 63)))) .nil)) (.cons (.cst (.int 0)) (.cons (.cst (.int 0)) (.cons (.cst (.int 0)) (.cons (.var 1) .nil))))))) .nil)))⟩
theorem source_ok {T : Tab} {fns : List FD} {i k : Nat} {ns : List Int} {Q : PQ} {E : PX}
    (q : ∀ S', S'.length = 5 → WfS S' → StB 0 S' → Q (.ref 2) S') (hf : fns[i]? = some sourceD := by first | assumption | rfl) : runF T fns (k + 1) i [.ref 0] [.frz (ns.map .int)] Q E := by
  refine run_in hf rfl fun wf un => ?_
  simp only [sourceD]
  walk_at "pv"
  obtain ⟨ys, hy, hl⟩ := cut_63 (xs := ns)
  rw [hy]
  refine for_ind (I := fun items ρ S => (∀ z, z ∈ items → ∃ x : Int, z = .int x) ∧ S = [Mo.frz (ns.map .int), Mo.lst (ys.map .int)] ∧
    ∃ (s : Int) (x2 : Option PV), ρ = [some (.ref 0), some (.int s), x2]) ?_ ?_ _ _ _ ⟨?_, rfl, 23, none, rfl⟩
  · rintro x xs _ _ ⟨hz, rfl, s, x2, rfl⟩
    refine ⟨by simp [srcOk], fun K hK => ?_⟩
    obtain ⟨y, rfl⟩ := hz x (.head _)
    walk_at "pv"
    exact hK _ _ ⟨fun z hz' => hz z (.tail _ hz'), rfl, _, _, rfl⟩
  · rintro _ _ ⟨hz, rfl, s, x2, rfl⟩
    refine ⟨by simp [srcOk], ?_⟩
    walk_at "pv"
    rw [hy]
    have ul : ∀ zs : List Int, PV.underL 5 (zs.map .int) = true := fun zs => underL_of _ (by simp [PV.under])
    refine .inl (q _ rfl ?_ ⟨ys, 0, 0, 0, s, rfl, rfl, by omega, by omega, by omega⟩)
    show wfAt 5 _ = true
    simp [wfAt, Mo.under, Mo.vals, ul, PV.underL, PV.under]
  · intro z hz
    obtain ⟨x, _, rfl⟩ := List.mem_map.1 hz
    exact ⟨x, rfl⟩
/-- _law_same -/
def sameBD (i : Nat) : FD := ⟨2, 5, (.cons (.ifs (.or (.isin (.var 1) .tTuple) (.isin (.var 1) .tList)) (.cons (.asg (.nm 2) (.ifx (.isin (.var 1) .tTuple) (.isin (.var 0) .tTuple) (.isin (.var 0) .tList))) (.cons (.ifs (.or (.not (.var 2)) (.cmp .ne (.bi .len (.cons (.var 0) .nil)) (.bi .len (.cons (.var 1) .nil)))) (.cons (.ret (.cst (.bl false))) .nil) .nil) (.cons (.ret (.bi .all1 (.cons (.lc [3, 4] (.tp [3, 4]) (.zip (.var 0) (.var 1)) .nil (.call i (.cons (.var 3) (.cons (.var 4) .nil)) [])) .nil))) .nil))) .nil) (.cons (.ifs (.cmp .is (.var 1) (.cst .non)) (.cons (.ret (.cmp .is (.var 0) (.cst .non))) .nil) .nil) (.cons (.ifs (.isin (.var 1) .tBool) (.cons (.ret (.and (.isin (.var 0) .tBool) (.cmp .eq (.var 0) (.var 1)))) .nil) .nil) (.cons (.ifs (.isin (.var 1) .tInt) (.cons (.ret (.and (.isin (.var 0) .tInt) (.and (.not (.isin (.var 0) .tBool)) (.cmp .eq (.var 0) (.var 1))))) .nil) .nil) (.cons (.ret (.and (.isin (.var 0) .tStr) (.cmp .eq (.var 0) (.var 1)))) .nil)))))⟩
@[simp] theorem eqQ_bb {f : Bool → Bool} {a b : Bool} {S : Store} {Q : PQ} : eqQ f (.bl a) (.bl b) S Q = Q (.bl (f (decide (a = b)))) S := by
  have e : eqQ f (.bl a) (.bl b) S Q = (eqOk (.bl a) (.bl b) ∧ Q (.bl (f (eqB (.bl a) (.bl b)))) S) := rfl
  rw [e]
  have o : eqOk (.bl a) (.bl b) := by cases a <;> cases b <;> exact ⟨rfl, rfl, by decide⟩
  have q : eqB (.bl a) (.bl b) = decide (a = b) := by cases a <;> cases b <;> rfl
  rw [q]
  exact propext ⟨fun h => h.2, fun h => ⟨o, h⟩⟩
theorem sameB_aux {T : Tab} {fns : List FD} {i : Nat} (hf : fns[i]? = some (sameBD i)) : ∀ (n : Nat) (v : PV) (k : Nat) (S : Store) (Q : PQ) (E : PX), Gd n v → n + 1 ≤ k → Q (.bl true) S → runF T fns k i [v, v] S Q E := by
  intro n
  induction n with
  | zero =>
    intro v k S Q E g hk q
    obtain ⟨k, rfl⟩ : ∃ j, k = j + 1 := ⟨k - 1, by omega⟩
    refine run_in hf rfl fun wf un => ?_
    simp only [sameBD]
    cases g with
    | non => walk_at "pv"; exact .inl q
    | bl b => cases b <;> (walk_at "pv"; exact .inl q)
    | int i => walk_at "pv"; exact .inl q
    | str x h => walk_at "pv"; exact .inl q
  | succ n ih =>
    intro v k S Q E g hk q
    obtain ⟨k, rfl⟩ : ∃ j, k = j + 1 := ⟨k - 1, by omega⟩
    refine run_in hf rfl fun wf un => ?_
    simp only [sameBD]
    cases g with
    | non => walk_at "pv"; exact .inl q
    | bl b => cases b <;> (walk_at "pv"; exact .inl q)
    | int i => walk_at "pv"; exact .inl q
    | str x h => walk_at "pv"; exact .inl q
    | tup xs hl h =>
      walk_at "pv"
      rw [zip_self]
      refine lc_map (src := []) (fun _ => .bl true) rfl (fun _ => trivial) _ [] (by simp [sizeLine]; omega) ?_ ?_
      · intro z hz acc K hK
        obtain ⟨x, hx, rfl⟩ := List.mem_map.1 hz
        simp [wipeP]
        exact ih x k _ _ _ (h x hx) (by omega) hK
      · simp only [List.nil_append]
        refine ⟨.lst (xs.map fun _ => .bl true), by simp [Function.comp_def], rfl, true, allBl_true _, ?_⟩
        exact Gc.junk wf rfl q
theorem sameB_ok {T : Tab} {fns : List FD} {i n k : Nat} {v : PV} {S : Store} {Q : PQ} {E : PX} (g : Gd n v) (hk : n + 1 ≤ k) (q : Q (.bl true) S) (hf : fns[i]? = some (sameBD i) := by first | assumption | rfl) : runF T fns k i [v, v] S Q E := sameB_aux hf n v k S Q E g hk q
/-- of two lists of the same things -/
theorem sameB_lst {T : Tab} {fns : List FD} {i n k r1 r2 : Nat} {xs : List PV} {S : Store} {Q : PQ} {E : PX} (h1 : S[r1]? = some (.lst xs)) (h2 : S[r2]? = some (.lst xs)) (hl : xs.length ≤ 1000) (g : ∀ x, x ∈ xs → Gd n x) (hk : n + 2 ≤ k) (q : Q (.bl true) S) (hf : fns[i]? = some (sameBD i) := by first | assumption | rfl) : runF T fns k i [.ref r1, .ref r2] S Q E := by
  obtain ⟨k, rfl⟩ : ∃ j, k = j + 1 := ⟨k - 1, by omega⟩
  refine run_in hf rfl fun wf un => ?_
  simp only [sameBD]
  walk_at "pv"
  refine ⟨_, h2, rfl, _, h2, rfl, _, h2, rfl, _, h1, rfl, _, h1, rfl, _, h2, rfl, .inl ⟨rfl, _, h1, _, h2, rfl, rfl, ?_⟩⟩
  simp only [Mo.items]
  rw [zip_self]
  refine lc_map (src := _) (fun _ => .bl true) rfl (fun J => ?_) _ [] (by simp [sizeLine]; omega) ?_ ?_
  · simp only [srcOk, List.forall_mem_cons]; exact ⟨sto_old h1, sto_old h2, by simp⟩
  · intro z hz acc K hK
    obtain ⟨x, hx, rfl⟩ := List.mem_map.1 hz
    simp [wipeP]
    exact sameB_ok (g x hx) (by omega) hK hf
  · simp only [List.nil_append]
    refine ⟨.lst (xs.map fun _ => .bl true), by simp [Function.comp_def], rfl, true, allBl_true _, ?_⟩
    exact Gc.junk wf rfl q
end Pv
set_option Elab.async false
set_option linter.all false
set_option maxRecDepth 100000
set_option maxHeartbeats 1000000
/-! Ls0: shapes, plain. -/
namespace Pv
open PySem
inductive Sh where
  | t (n : Int) | to (a b : Sh)
  deriving DecidableEq, Inhabited
namespace Sh
def pv : Sh → PV
  | t n => .tup [.str (tg 29), .int n]
  | to a b => .tup [.str (tg 30), a.pv, b.pv]
def ats : Sh → List Int
  | t n => [n]
  | to a b => a.ats ++ b.ats
def dep : Sh → Nat
  | t _ => 1
  | to a b => max a.dep b.dep + 1
def sz : Sh → Nat
  | t _ => 1
  | to a b => a.sz + b.sz + 1
/-- how many atoms -/
def cn : Sh → Nat
  | t _ => 1
  | to a b => a.cn + b.cn
def ok (s : Sh) : Prop := ∀ n, n ∈ s.ats → 0 ≤ n
/-- shapes in the places of atoms -/
def fillS (f : Int → Option Sh) : Sh → Sh
  | t n => (f n).getD (t n)
  | to a b => to (a.fillS f) (b.fillS f)
def lot (s : Sh) : List Int := sortU s.ats
theorem sz_pos : ∀ s : Sh, 1 ≤ s.sz
  | t _ => Nat.le_refl _
  | to _ _ => by simp [sz]
theorem cn_pos : ∀ s : Sh, 1 ≤ s.cn
  | t _ => Nat.le_refl _
  | to a b => by have := a.cn_pos; simp only [cn]; omega
theorem dep_cn : ∀ s : Sh, s.dep ≤ s.cn
  | t _ => Nat.le_refl _
  | to a b => by have := a.dep_cn; have := b.dep_cn; have := a.cn_pos; have := b.cn_pos; simp only [dep, cn]; omega
theorem sz_cn : ∀ s : Sh, s.sz + 1 = 2 * s.cn
  | t _ => rfl
  | to a b => by have := a.sz_cn; have := b.sz_cn; simp only [sz, cn]; omega
theorem ats_len : ∀ s : Sh, s.ats.length = s.cn
  | t _ => rfl
  | to a b => by simp only [ats, cn, List.length_append, a.ats_len, b.ats_len]
theorem ats_ne : ∀ s : Sh, s.ats ≠ []
  | t _ => by simp [ats]
  | to a b => by simp [ats, a.ats_ne]
theorem gd : ∀ s : Sh, Gd s.dep s.pv
  | t n => .tup _ (by simp) (by simp; exact ⟨.str _ (tg_ok 29 (by omega)), .int _⟩)
  | to a b => .tup _ (by simp) (by simp; exact ⟨.str _ (tg_ok 30 (by omega)), a.gd.mono (by omega), b.gd.mono (by omega)⟩)
end Sh
theorem sh_eqB : ∀ s u : Sh, eqB s.pv u.pv = decide (s = u) := by
  intro s
  induction s with
  | t n => intro u; cases u <;> simp [Sh.pv, eqB_tup, tg_inj]
  | to a b i1 i2 => intro u; cases u <;> simp [Sh.pv, eqB_tup, tg_inj, i1, i2]
theorem sh_eqQ {g : Bool → Bool} {s u : Sh} {S : Store} {Q : PQ} (h : min s.dep u.dep ≤ 189) : eqQ g s.pv u.pv S Q = Q (.bl (g (decide (s = u)))) S := by
  have e : eqQ g s.pv u.pv S Q = (eqOk s.pv u.pv ∧ Q (.bl (g (eqB s.pv u.pv))) S) := by cases s <;> cases u <;> rfl
  rw [e, sh_eqB]
  exact propext ⟨fun h => h.2, fun q => ⟨s.gd.eqOk u.gd h, q⟩⟩
/-- noted in the sequence in which they first stand -/
def addK (ks : List Int) (n : Int) : List Int := if n ∈ ks then ks else ks ++ [n]
theorem addK_mem {ks : List Int} {n k : Int} : k ∈ addK ks n ↔ k ∈ ks ∨ k = n := by
  unfold addK
  split
  · rename_i h
    constructor
    · exact .inl
    · rintro (h2 | rfl)
      · exact h2
      · exact h
  · simp
theorem addK_nodup {ks : List Int} {n : Int} (h : ks.Nodup) : (addK ks n).Nodup := by
  unfold addK
  split
  · exact h
  · rename_i g
    rw [List.nodup_append]
    refine ⟨h, by simp, fun a ha b hb => ?_⟩
    simp only [List.mem_cons, List.not_mem_nil, or_false] at hb
    subst hb
    intro e; subst e; exact g ha
theorem addKs_mem : ∀ (xs ks : List Int) (k : Int), k ∈ xs.foldl addK ks ↔ k ∈ ks ∨ k ∈ xs
  | [], ks, k => by simp
  | x :: xs, ks, k => by
    rw [List.foldl_cons, addKs_mem xs, addK_mem, List.mem_cons]
    constructor
    · rintro ((h | h) | h) <;> simp [h]
    · rintro (h | h | h) <;> simp [h]
theorem addKs_nodup : ∀ (xs ks : List Int), ks.Nodup → (xs.foldl addK ks).Nodup
  | [], ks, h => h
  | x :: xs, ks, h => addKs_nodup xs _ (addK_nodup h)
theorem addKs_len : ∀ (xs ks : List Int), (xs.foldl addK ks).length ≤ ks.length + xs.length
  | [], ks => by simp
  | x :: xs, ks => by
    have := addKs_len xs (addK ks x)
    have h : (addK ks x).length ≤ ks.length + 1 := by unfold addK; split <;> simp
    simp only [List.foldl_cons, List.length_cons]; omega
theorem le_nodup_lt : ∀ {l : List Int}, l.Pairwise (· ≤ ·) → l.Nodup → l.Pairwise (· < ·)
  | [], _, _ => .nil
  | i :: l, h, d => by
    obtain ⟨h1, h2⟩ := List.pairwise_cons.1 h
    obtain ⟨d1, d2⟩ := List.nodup_cons.1 d
    refine List.pairwise_cons.2 ⟨fun j hj => ?_, le_nodup_lt h2 d2⟩
    have := h1 j hj
    have : i ≠ j := fun e => d1 (e ▸ hj)
    omega
theorem sortI_addK (xs : List Int) : sortI (xs.foldl addK []) = sortU xs := by
  refine lt_uniq (le_nodup_lt (sortI_sorted _) ((sortI_perm _).nodup_iff.2 (addKs_nodup xs [] .nil))) (sortU_sorted _) fun k => ?_
  rw [(sortI_perm _).mem_iff, addKs_mem, sortU_mem]; simp
theorem sortU_app (xs ys : List Int) : sortU (sortU xs ++ sortU ys) = sortU (xs ++ ys) :=
  lt_uniq (sortU_sorted _) (sortU_sorted _) fun k => by simp only [sortU_mem, List.mem_append]
theorem insU_len (i : Int) : ∀ l : List Int, (insU i l).length ≤ l.length + 1
  | [] => by simp [insU]
  | j :: r => by
    unfold insU
    split
    · simp
    · split
      · simp
      · have := insU_len i r; simp only [List.length_cons]; omega
theorem sortU_len : ∀ l : List Int, (sortU l).length ≤ l.length
  | [] => Nat.le_refl _
  | i :: r => by have := sortU_len r; have := insU_len i (sortU r); simp only [sortU, List.length_cons]; omega
theorem Sh.lot_mem {s : Sh} {n : Int} : n ∈ s.lot ↔ n ∈ s.ats := sortU_mem _ _
theorem Sh.lot_len (s : Sh) : s.lot.length ≤ s.cn := by have := sortU_len s.ats; rw [s.ats_len] at this; exact this
end Pv
set_option Elab.async false
set_option linter.all false
set_option maxRecDepth 100000
set_option maxHeartbeats 1000000
/-! Ls1: shapes: the program's functions. -/
namespace Pv
open PySem
local macro_rules | `(tactic| walk_at "pv") => `(tactic| simp [wpSs, wpS, wpE, wpT, wpEs, wpTs, wpO, wpI, wpG, startP, wipeP, L2.CMul, L2.CDiv, L2.CPow, tg_inj, sizeLine, eqB_tup, -List.getD_eq_getElem?_getD])
section
variable {T : Tab} {fns : List FD} {S : Store} {Q : PQ} {E : PX}
/-- note_atoms -/
def noteAtomsD : FD := ⟨2, 4, (.cons (.asg (.nm 2) (.lst (.cons (.var 0) .nil))) (.cons (.whl (.var 2) (.cons (.asg (.nm 3) (.meth .pop (.var 2) .nil)) (.cons (.ifs (.cmp .eq (.idxc (.var 3) 0) (.cst (.str (tg 29)))) (.cons (.asg (.sub (.var 1) (.idxc (.var 3) 1)) (.cst (.bl true))) .nil) (.cons (.expr (.meth .append (.var 2) (.cons (.idxc (.var 3) 2) .nil))) (.cons (.expr (.meth .append (.var 2) (.cons (.idxc (.var 3) 1) .nil))) .nil))) .nil))) .nil))⟩
/-- atom_lot -/
def atomLotD (c_note_atoms : Nat) : FD := ⟨1, 2, (.cons (.asg (.nm 1) (.dct [] .nil)) (.cons (.expr (.call c_note_atoms (.cons (.var 0) (.cons (.var 1) .nil)) [])) (.cons (.ret (.bi .tuple1 (.cons (.bi .sorted1 (.cons (.var 1) .nil)) .nil))) .nil)))⟩
/-- put_atoms -/
def putAtomsD (i : Nat) : FD := ⟨2, 2, (.cons (.ifs (.cmp .eq (.idxc (.var 0) 0) (.cst (.str (tg 29)))) (.cons (.ret (.get2 (.var 1) (.idxc (.var 0) 1) (.var 0))) .nil) .nil) (.cons (.ret (.tup (.cons (.cst (.str (tg 30))) (.cons (.call i (.cons (.idxc (.var 0) 1) (.cons (.var 1) .nil)) []) (.cons (.call i (.cons (.idxc (.var 0) 2) (.cons (.var 1) .nil)) []) .nil))))) .nil))⟩
def nextAtomD (c_note_atoms : Nat) : FD := ⟨1, 4, (.cons (.asg (.nm 1) (.dct [] .nil)) (.cons (.for_ (.nm 2) (.val (.var 0)) (.cons (.expr (.call c_note_atoms (.cons (.var 2) (.cons (.var 1) .nil)) [])) .nil)) (.cons (.ret (.maxD (.lock 1 (.lc [3] (.nm 3) (.dk 0 1) .nil (.bin .add (.var 3) (.cst (.int 1))))) (.cst (.int 0)))) .nil)))⟩
/-- is_shape -/
def isShapeD (c_is_natural : Nat) : FD := ⟨1, 3, (.cons (.asg (.nm 1) (.lst (.cons (.var 0) .nil))) (.cons (.whl (.var 1) (.cons (.asg (.nm 2) (.meth .pop (.var 1) .nil)) (.cons (.ifs (.or (.not (.isin (.var 2) .tTuple)) (.or (.not (.var 2)) (.not (.isin (.idxc (.var 2) 0) .tStr)))) (.cons (.ret (.cst (.bl false))) .nil) .nil) (.cons (.ifs (.and (.cmp .eq (.idxc (.var 2) 0) (.cst (.str (tg 30)))) (.cmp .eq (.bi .len (.cons (.var 2) .nil)) (.cst (.int 3)))) (.cons (.expr (.meth .extend (.var 1) (.cons (.slice (.var 2) (.so (.cst (.int 1))) .no) .nil))) .nil) (.cons (.ifs (.or (.cmp .ne (.idxc (.var 2) 0) (.cst (.str (tg 29)))) (.or (.cmp .ne (.bi .len (.cons (.var 2) .nil)) (.cst (.int 2))) (.not (.call c_is_natural (.cons (.idxc (.var 2) 1) .nil) [])))) (.cons (.ret (.cst (.bl false))) .nil) .nil) .nil)) .nil)))) (.cons (.ret (.cst (.bl true))) .nil)))⟩
/-- check_shape -/
def checkShapeD (c_is_shape x_InvalidShape : Nat) : FD := ⟨1, 1, (.cons (.ifs (.not (.call c_is_shape (.cons (.var 0) .nil) [])) (.cons (.raise x_InvalidShape) .nil) .nil) .nil)⟩
/-- held_atoms -/
def heldAtomsD (c_atom_lot : Nat) : FD := ⟨1, 4, (.cons (.asg (.tp [1, 2]) (.var 0)) (.cons (.ret (.lc [3] (.nm 3) (.val (.call c_atom_lot (.cons (.var 2) .nil) [])) (.cons (.cmp .notin (.var 3) (.var 1)) .nil) (.var 3))) .nil))⟩
/-- is_ascending -/
def isAscD : FD := ⟨1, 2, (.cons (.ret (.bi .all1 (.cons (.lc [1] (.nm 1) (.rng1 (.bin .sub (.bi .len (.cons (.var 0) .nil)) (.cst (.int 1)))) .nil (.cmp .lt (.idx (.var 0) (.var 1)) (.idx (.var 0) (.bin .add (.var 1) (.cst (.int 1)))))) .nil))) .nil)⟩
theorem wf_setO {r : Nat} {o : Mo} (w : WfS S) (ho : o.under S.length = true) : WfS (S.set r o) := by
  have w : wfAt S.length S = true := w
  show wfAt (S.set r o).length (S.set r o) = true
  rw [List.length_set]
  unfold wfAt at *
  rw [List.all_eq_true] at *
  intro x hx
  rcases List.mem_or_eq_of_mem_set hx with hx | rfl
  · exact w x hx
  · exact ho
/-- leaving with one thing changed -/
theorem Gc.junkS {S1 J : Store} {r : Nat} {o : Mo} {v : PV} {Q : PQ} (w : WfS S) (ho : o.under S.length = true) (hv : v.under S.length = true) (e : S1 = S.set r o) (q : Q v (S.set r o)) : Gc S.length v (S1 ++ J) Q := by
  subst e
  exact .inr ⟨S.set r o, J, rfl, List.length_set, by have := wf_setO (r := r) w ho; rwa [WfS, List.length_set] at this, hv, q⟩
/-- atoms as keys -/
def keyT (n : Int) : L2.Key × PV := (.inl n, .bl true)
theorem getP_keyT (n : Int) : ∀ ks : List Int, getP (ks.map keyT) (.inl n) = if n ∈ ks then some (.bl true) else none
  | [] => rfl
  | k :: ks => by
    simp only [List.map_cons, keyT, getP_cons, Sum.inl.injEq, List.mem_cons]
    by_cases h : k = n
    · simp [h]
    · rw [if_neg h, show (List.map keyT ks) = ks.map keyT from rfl, getP_keyT n ks]
      have : ¬ n = k := fun e => h e.symm
      simp [this]
theorem setP_keyT (n : Int) : ∀ ks : List Int, setP (.inl n) (.bl true) (ks.map keyT) = ks.map keyT
  | [] => rfl
  | k :: ks => by
    simp only [List.map_cons, keyT, setP_cons, Sum.inl.injEq]
    rw [setP_keyT n ks]
    split <;> rfl
theorem putP_keyT (n : Int) (ks : List Int) : putP (ks.map keyT) (.inl n) (.bl true) = (addK ks n).map keyT := by
  rw [putP_eq, getP_keyT]
  unfold addK
  by_cases h : n ∈ ks
  · simp [h, setP_keyT]
  · simp [h, keyT]
theorem under_keyT (n : Nat) (ks : List Int) : (Mo.dct (ks.map keyT)).under n = true := underL_of _ (by simp [Mo.vals, keyT, PV.under])
theorem note_ok {i k r : Nat} {s : Sh} {ks : List Int} (hs : s.cn ≤ 100000) (hk : ks.length ≤ 100000) (hr : S[r]? = some (.dct (ks.map keyT))) (q : Q .non (S.set r (.dct ((s.ats.foldl addK ks).map keyT)))) (hi : fns[i]? = some noteAtomsD := by first | assumption | rfl) : runF T fns (k + 1) i [s.pv, .ref r] S Q E := by
  refine run_in hi rfl fun wf un => ?_
  simp only [noteAtomsD]
  walk_at "pv"
  refine ⟨_, while_ind (I := fun n ρ S' => ∃ (ts : List Sh) (ks' : List Int) (S1 : Store) (y : Option PV), (ts.map Sh.sz).sum = n ∧ n ≤ 200000 ∧ (ts.reverse.flatMap Sh.ats).foldl addK ks' = s.ats.foldl addK ks ∧
    ks'.length + (ts.flatMap Sh.ats).length ≤ 200000 ∧ S1.length = S.length ∧ S1[r]? = some (.dct (ks'.map keyT)) ∧ S1 = S.set r (.dct (ks'.map keyT)) ∧ ρ = [some s.pv, some (.ref r), some (.ref S.length), y] ∧ S' = S1 ++ [.lst (ts.map Sh.pv)]) ?_ s.sz _ _ ?_⟩
  · rintro n _ _ ⟨ts, ks', S1, y, h1, h2, h3, h4, h5, h6, h7, rfl, rfl⟩ K hK
    rw [← h5]
    rcases List.eq_nil_or_concat ts with rfl | ⟨ts, u, rfl⟩
    · walk_at "pv"
      simp only [List.reverse_nil, List.flatMap_nil, List.foldl_nil] at h3
      subst h3
      rw [h5]
      exact Gc.junkS wf (under_keyT _ _) rfl h7 q
    · simp only [List.concat_eq_append] at *
      walk_at "pv"
      simp only [List.map_append, List.sum_append, List.map_cons, List.map_nil, List.sum_cons, List.sum_nil] at h1
      simp only [List.reverse_append, List.reverse_cons, List.reverse_nil, List.nil_append, List.cons_append, List.flatMap_cons] at h3
      simp only [List.flatMap_append, List.flatMap_cons, List.flatMap_nil, List.length_append, List.append_nil] at h4
      have hup := u.sz_pos
      obtain ⟨n, rfl⟩ : ∃ j, n = j + 1 := ⟨n - 1, by omega⟩
      cases u with
      | t m =>
        simp only [Sh.pv]
        walk_at "pv"
        have hrl : r < S1.length := (List.getElem?_eq_some_iff.1 h6).1
        refine ⟨_, sto_old h6, ?_⟩
        simp only [putQ_d, keyOf_i]
        refine ⟨_, rfl, by simp [sizeLine]; simp [Sh.ats] at h4; omega, ?_⟩
        rw [putP_keyT, List.set_append_left _ _ hrl, h5]
        refine hK _ _ n rfl ⟨ts, addK ks' m, _, _, by simp [Sh.sz] at h1; omega, by omega, by simpa [Sh.ats] using h3, ?_, by rw [List.length_set, h5], by rw [List.getElem?_set_self hrl], by rw [h7, List.set_set], rfl, rfl⟩
        have := addKs_len [m] ks'
        simp only [List.foldl_cons, List.foldl_nil, List.length_cons, List.length_nil, Sh.ats] at this h4
        omega
      | to a b =>
        simp only [Sh.pv]
        walk_at "pv"
        have hl : ts.length ≤ (ts.map Sh.sz).sum := by
          clear h1 h2 h3 h4 hK
          induction ts with
          | nil => simp
          | cons z l ih => have := z.sz_pos; simp only [List.map_cons, List.sum_cons, List.length_cons]; omega
        have z1 := a.sz_pos
        have z2 := b.sz_pos
        simp only [Sh.sz] at h1
        refine ⟨by omega, by omega, ?_⟩
        rw [h5]
        refine hK _ _ n rfl ⟨ts ++ [b, a], ks', S1, _, by simp; omega, by omega, by simpa [Sh.ats] using h3, ?_, h5, h6, h7, rfl, by simp⟩
        simp [Sh.ats] at h4 ⊢
        omega
  · refine ⟨[s], ks, S, none, by simp, by have := s.sz_cn; omega, by simp, by have := s.ats_len; simp; omega, rfl, hr, (set_self hr).symm, rfl, rfl⟩
theorem keysP_keyT : ∀ ks : List Int, keysP (ks.map keyT) = ks.map .int
  | [] => rfl
  | k :: ks => by simp only [List.map_cons, keysP, keyT, keyPV]; exact congrArg _ (keysP_keyT ks)
theorem intsP_map : ∀ ks : List Int, intsP (ks.map .int) = some ks
  | [] => rfl
  | k :: ks => by simp [intsP, intsP_map ks]
theorem under_ints (n : Nat) (ks : List Int) : (PV.tup (ks.map .int)).under n = true := by simp only [PV.under]; exact underL_of _ (by simp [PV.under])
theorem lot_ok {i n k : Nat} {s : Sh} (hs : s.cn ≤ 63) (q : Q (.tup (s.lot.map .int)) S) (hi : fns[i]? = some (atomLotD n) := by first | assumption | rfl) (hn : fns[n]? = some noteAtomsD := by first | assumption | rfl) : runF T fns (k + 2) i [s.pv] S Q E := by
  refine run_in hi rfl fun wf un => ?_
  simp only [atomLotD]
  walk_at "pv"
  refine note_ok (ks := []) (by omega) (by simp) (by simp) ?_ hn
  simp only [List.set_append_right, Nat.le_refl, Nat.sub_self, List.set_cons_zero]
  walk_at "pv"
  have hl := addKs_len s.ats []
  rw [s.ats_len] at hl
  refine ⟨_, by rw [keysP_keyT, intsP_map], by simp at hl; omega, ?_⟩
  rw [sortI_addK]
  exact Gc.junk wf (under_ints _ _) q
theorem isShape_ok {i0 n i k : Nat} {s : Sh} (ho : s.ok) (hs : s.cn ≤ 100000) (q : Q (.bl true) S) (hi : fns[i]? = some (isShapeD n) := by first | assumption | rfl) (hn : fns[n]? = some (isNatD i0) := by first | assumption | rfl) (h0 : fns[i0]? = some isIntD := by first | assumption | rfl) : runF T fns (k + 3) i [s.pv] S Q E := by
  refine run_in hi rfl fun wf un => ?_
  simp only [isShapeD]
  walk_at "pv"
  refine ⟨_, while_ind (I := fun n ρ S' => ∃ (ts : List Sh) (y : Option PV), (ts.map Sh.sz).sum = n ∧ n ≤ 200000 ∧ (∀ u, u ∈ ts → u.ok) ∧ ρ = [some s.pv, some (.ref S.length), y] ∧ S' = S ++ [.lst (ts.map Sh.pv)]) ?_ s.sz _ _ ⟨[s], none, by simp, by have := s.sz_cn; omega, fun u hu => by simp at hu; rw [hu]; exact ho, rfl, rfl⟩⟩
  rintro n _ _ ⟨ts, y, h1, h2, h3, rfl, rfl⟩ K hK
  rcases List.eq_nil_or_concat ts with rfl | ⟨ts, u, rfl⟩
  · walk_at "pv"
    exact Gc.junk wf rfl q
  · simp only [List.concat_eq_append] at *
    walk_at "pv"
    have hu := h3 u (by simp)
    have hts := fun z hz => h3 z (List.mem_append_left [u] hz)
    simp only [List.map_append, List.sum_append, List.map_cons, List.map_nil, List.sum_cons, List.sum_nil] at h1
    have hup := u.sz_pos
    obtain ⟨n, rfl⟩ : ∃ j, n = j + 1 := ⟨n - 1, by omega⟩
    cases u with
    | t m =>
      simp only [Sh.pv]
      walk_at "pv"
      refine isnat_ok (hu m (by simp [Sh.ats])) ?_ hn h0
      walk_at "pv"
      exact hK _ _ n rfl ⟨ts, _, by simp [Sh.sz] at h1; omega, by omega, hts, rfl, rfl⟩
    | to a b =>
      simp only [Sh.pv]
      walk_at "pv"
      have hl : ts.length ≤ (ts.map Sh.sz).sum := by
        clear h1 h2 h3 hts hK
        induction ts with
        | nil => simp
        | cons z l ih => have := z.sz_pos; simp only [List.map_cons, List.sum_cons, List.length_cons]; omega
      simp only [Sh.sz] at h1
      refine ⟨by simp [sizeLine, cutPV, HT.sIx]; omega, ?_⟩
      have := hK _ _ n rfl ⟨ts ++ [a, b], some (Sh.to a b).pv, by simp; omega, by omega, fun z hz => by
        rw [List.mem_append] at hz
        rcases hz with hz | hz
        · exact hts z hz
        · simp at hz
          rcases hz with rfl | rfl
          · exact fun m hm => hu m (by simp [Sh.ats, hm])
          · exact fun m hm => hu m (by simp [Sh.ats, hm]), rfl, rfl⟩
      simpa [cutPV, HT.sIx, Sh.pv] using this
theorem checkShape_ok {i0 n i c x k : Nat} {s : Sh} (ho : s.ok) (hs : s.cn ≤ 100000) (q : Q .non S) (hc : fns[c]? = some (checkShapeD i x) := by first | assumption | rfl) (hi : fns[i]? = some (isShapeD n) := by first | assumption | rfl) (hn : fns[n]? = some (isNatD i0) := by first | assumption | rfl) (h0 : fns[i0]? = some isIntD := by first | assumption | rfl) : runF T fns (k + 4) c [s.pv] S Q E := by
  refine run_in hc rfl fun wf un => ?_
  simp only [checkShapeD]
  walk_at "pv"
  refine isShape_ok ho hs ?_ hi hn h0
  walk_at "pv"
  exact .inl q
theorem allBl_map {α : Type} (g : α → Bool) : ∀ l : List α, allBl (l.map fun x => .bl (g x)) = some (l.all g)
  | [] => rfl
  | x :: l => by simp [allBl, allBl_map g l]
theorem asc_all (ns : List Int) : (List.range (ns.length - 1)).all (fun i => decide (ns.getD i 0 < ns.getD (i + 1) 0)) = decide (ns.Pairwise (· < ·)) := by
  rw [Bool.eq_iff_iff]
  simp only [List.all_eq_true, List.mem_range, decide_eq_true_eq]
  induction ns with
  | nil => simp
  | cons a l ih =>
    cases l with
    | nil => simp
    | cons b l =>
      constructor
      · intro h
        have h1 := ih.1 fun i hi => by
          have := h (i + 1) (by simp at hi ⊢; omega)
          simpa using this
        have h0 : a < b := by simpa using h 0 (by simp)
        refine List.pairwise_cons.2 ⟨fun c hc => ?_, h1⟩
        rcases List.mem_cons.1 hc with rfl | hc
        · exact h0
        · have := (List.pairwise_cons.1 h1).1 c hc; omega
      · intro h i hi
        obtain ⟨h1, h2⟩ := List.pairwise_cons.1 h
        cases i with
        | zero => simpa using h1 b (.head _)
        | succ i => simpa using ih.2 h2 i (by simp at hi ⊢; omega)
/-- is_ascending of ints -/
theorem ascI_ok {i k : Nat} {ns : List Int} (hl : ns.length ≤ 100000) (q : Q (.bl (decide (ns.Pairwise (· < ·)))) S) (hi : fns[i]? = some isAscD := by first | assumption | rfl) : runF T fns (k + 1) i [.tup (ns.map .int)] S Q E := by
  refine run_in hi rfl fun wf un => ?_
  simp only [isAscD]
  walk_at "pv"
  refine ⟨⟨by omega, by omega⟩, ?_⟩
  refine lc_all (g := fun i : Nat => .int (0 + i)) (f := fun i => .bl (decide (ns.getD i 0 < ns.getD (i + 1) 0))) (ps := List.range (((ns.length : Int) - 1) - 0).toNat) rfl rfl rfl (fun acc => trivial) (by simp; omega) (fun i hi acc K hK => ?_) ?_
  · simp [wipeP]
    simp at hi
    have h1 : i < ns.length := by omega
    have h2 : i + 1 < ns.length := by omega
    refine ⟨_, at_map (d := 0) h1, _, by rw [show ((i : Int) + 1) = ((i + 1 : Nat) : Int) from by omega]; exact at_map (d := 0) h2, ?_⟩
    simpa using hK
  · simp only [biQ_all]
    refine ⟨.lst ((List.range (((ns.length : Int) - 1) - 0).toNat).map fun i => .bl (decide (ns.getD i 0 < ns.getD (i + 1) 0))), sto_at rfl, rfl, _, allBl_map _ _, ?_⟩
    rw [show (((ns.length : Int) - 1) - 0).toNat = ns.length - 1 from by omega, asc_all]
    exact Gc.junk wf rfl q
end
end Pv
set_option Elab.async false
set_option linter.all false
set_option maxRecDepth 100000
set_option maxHeartbeats 1000000
/-! Ls2: shapes: cases of shapes, the tables of their atoms. -/
namespace Pv
open PySem
local macro_rules | `(tactic| walk_at "pv") => `(tactic| simp [wpSs, wpS, wpE, wpT, wpEs, wpTs, wpO, wpI, wpG, startP, wipeP, L2.CMul, L2.CDiv, L2.CPow, tg_inj, sizeLine, eqB_tup, -List.getD_eq_getElem?_getD])
/-- rows (atom, shape) -/
abbrev RowS := List (Int × Sh)
def lookS : RowS → Int → Option Sh
  | [], _ => none
  | (k, x) :: r, n => if k = n then some x else lookS r n
def keyR (r : Int × Sh) : L2.Key × PV := (.inl r.1, r.2.pv)
def rowS (r : Int × Sh) : PV := .tup [.int r.1, r.2.pv]
theorem getP_keyR (n : Int) : ∀ rs : RowS, getP (rs.map keyR) (.inl n) = (lookS rs n).map Sh.pv
  | [] => rfl
  | r :: rs => by
    simp only [List.map_cons, keyR, getP_cons, lookS, Sum.inl.injEq]
    by_cases h : r.1 = n
    · simp [h]
    · rw [if_neg h, if_neg h]; exact getP_keyR n rs
theorem putP_keyR {n : Int} {x : Sh} {rs : RowS} (h : lookS rs n = none) : putP (rs.map keyR) (.inl n) x.pv = (rs ++ [(n, x)]).map keyR := by
  rw [putP_eq, getP_keyR, h]; simp [keyR]
/-- a shape for each atom -/
def Sh.sub (σ : Int → Sh) : Sh → Sh
  | .t n => σ n
  | .to a b => .to (a.sub σ) (b.sub σ)
theorem Sh.sub_congr {σ τ : Int → Sh} : ∀ {s : Sh}, (∀ n, n ∈ s.ats → σ n = τ n) → s.sub σ = s.sub τ
  | .t n, h => h n (by simp [ats])
  | .to a b, h => by
    simp only [sub]
    rw [Sh.sub_congr (s := a) fun n hn => h n (by simp [ats, hn]), Sh.sub_congr (s := b) fun n hn => h n (by simp [ats, hn])]
theorem Sh.sub_inj {σ τ : Int → Sh} : ∀ {s : Sh}, s.sub σ = s.sub τ → ∀ n, n ∈ s.ats → σ n = τ n
  | .t n, h => fun m hm => by simp [ats] at hm; subst hm; exact h
  | .to a b, h => fun m hm => by
    simp only [sub, Sh.to.injEq] at h
    rcases List.mem_append.1 hm with hm | hm
    · exact Sh.sub_inj h.1 m hm
    · exact Sh.sub_inj h.2 m hm
theorem Sh.sub_id : ∀ {s : Sh} {σ : Int → Sh}, (∀ n, n ∈ s.ats → σ n = .t n) → s.sub σ = s
  | .t n, σ, h => h n (by simp [ats])
  | .to a b, σ, h => by
    simp only [sub]
    rw [Sh.sub_id (s := a) fun n hn => h n (by simp [ats, hn]), Sh.sub_id (s := b) fun n hn => h n (by simp [ats, hn])]
theorem Sh.sub_sub {σ τ : Int → Sh} : ∀ {s : Sh}, (s.sub σ).sub τ = s.sub fun n => (σ n).sub τ
  | .t n => rfl
  | .to a b => by simp only [sub, Sh.sub_sub (s := a), Sh.sub_sub (s := b)]
theorem Sh.fillS_sub (f : Int → Option Sh) : ∀ s : Sh, s.fillS f = s.sub fun n => (f n).getD (.t n)
  | .t n => rfl
  | .to a b => by simp only [fillS, sub, Sh.fillS_sub f a, Sh.fillS_sub f b]
theorem Sh.sub_ats {σ : Int → Sh} {s : Sh} {m : Int} : m ∈ (s.sub σ).ats ↔ ∃ n, n ∈ s.ats ∧ m ∈ (σ n).ats := by
  induction s with
  | t n => simp [sub, ats]
  | to a b h1 h2 =>
    simp only [sub, ats, List.mem_append, h1, h2]
    constructor
    · rintro (⟨n, a1, a2⟩ | ⟨n, a1, a2⟩)
      · exact ⟨n, .inl a1, a2⟩
      · exact ⟨n, .inr a1, a2⟩
    · rintro ⟨n, a1 | a1, a2⟩
      · exact .inl ⟨n, a1, a2⟩
      · exact .inr ⟨n, a1, a2⟩
theorem Sh.sub_cn {σ : Int → Sh} {m : Nat} : ∀ {s : Sh}, (∀ n, n ∈ s.ats → (σ n).cn ≤ m) → (s.sub σ).cn ≤ s.cn * m
  | .t n, h => by have := h n (by simp [ats]); simp [sub, cn]; exact this
  | .to a b, h => by
    have h1 := Sh.sub_cn (s := a) (m := m) fun n hn => h n (by simp [ats, hn])
    have h2 := Sh.sub_cn (s := b) (m := m) fun n hn => h n (by simp [ats, hn])
    simp only [sub, cn, Nat.add_mul]; omega
/-- the table agrees with a shape for each atom -/
def AgS (tb : RowS) (σ : Int → Sh) : Prop := ∀ n x, lookS tb n = some x → σ n = x
def insR (tb : RowS) (n : Int) (o : Sh) : Option RowS := match lookS tb n with
  | some x => if x = o then some tb else none
  | none => some (tb ++ [(n, o)])
/-- the cases of a shape: right parts first -/
def caseS : Sh → Sh → RowS → Option RowS
  | .t n, o, tb => insR tb n o
  | .to _ _, .t _, _ => none
  | .to a b, .to c d, tb => (caseS b d tb).bind (caseS a c)
theorem lookS_snoc (n m : Int) (o : Sh) : ∀ tb : RowS, lookS (tb ++ [(n, o)]) m = match lookS tb m with | some x => some x | none => if n = m then some o else none
  | [] => rfl
  | (k, x) :: r => by
    simp only [List.cons_append, lookS]
    by_cases h : k = m
    · simp [h]
    · rw [if_neg h, if_neg h, lookS_snoc n m o r]
theorem insR_some {tb tb' : RowS} {n : Int} {o : Sh} (h : insR tb n o = some tb') : (∀ m x, lookS tb m = some x → lookS tb' m = some x) ∧ lookS tb' n = some o ∧ (∀ m x, lookS tb' m = some x → lookS tb m = some x ∨ m = n) := by
  unfold insR at h
  split at h
  · rename_i x e
    split at h
    · rename_i e2
      cases h
      exact ⟨fun m x h => h, by rw [e, e2], fun m x h => .inl h⟩
    · cases h
  · rename_i e
    cases h
    refine ⟨fun m x h => by rw [lookS_snoc, h], by rw [lookS_snoc, e]; simp, fun m x h => ?_⟩
    rw [lookS_snoc] at h
    split at h
    · rename_i y e2; rw [e2]; exact .inl h
    · split at h
      · rename_i e3; exact .inr e3.symm
      · cases h
theorem caseS_some : ∀ {s o : Sh} {tb tb' : RowS}, caseS s o tb = some tb' → (∀ m x, lookS tb m = some x → lookS tb' m = some x) ∧ (∀ n, n ∈ s.ats → (lookS tb' n).isSome) ∧ (∀ σ, AgS tb' σ → s.sub σ = o) ∧ (∀ m x, lookS tb' m = some x → lookS tb m = some x ∨ m ∈ s.ats)
  | .t n, o, tb, tb', h => by
    obtain ⟨h1, h2, h3⟩ := insR_some h
    refine ⟨h1, fun m hm => ?_, fun σ hσ => hσ n o h2, fun m x hx => (h3 m x hx).imp id fun e => by simp [Sh.ats, e]⟩
    simp [Sh.ats] at hm; subst hm; rw [h2]; rfl
  | .to a b, .t _, tb, tb', h => by cases h
  | .to a b, .to c d, tb, tb', h => by
    simp only [caseS, Option.bind_eq_some_iff] at h
    obtain ⟨t1, e1, e2⟩ := h
    obtain ⟨a1, a2, a3, a4⟩ := caseS_some e1
    obtain ⟨b1, b2, b3, b4⟩ := caseS_some e2
    refine ⟨fun m x h => b1 m x (a1 m x h), fun n hn => ?_, fun σ hσ => ?_, fun m x hx => ?_⟩
    · rcases List.mem_append.1 hn with hn | hn
      · exact b2 n hn
      · obtain ⟨x, hx⟩ := Option.isSome_iff_exists.1 (a2 n hn)
        rw [b1 n x hx]; rfl
    · simp only [Sh.sub]
      rw [b3 σ hσ, a3 σ fun n x hx => hσ n x (b1 n x hx)]
    · rcases b4 m x hx with h | h
      · exact (a4 m x h).imp id fun h => by simp [Sh.ats, h]
      · exact .inr (by simp [Sh.ats, h])
theorem insR_of {tb : RowS} {σ : Int → Sh} {n : Int} (h : AgS tb σ) : ∃ tb', insR tb n (σ n) = some tb' ∧ AgS tb' σ := by
  unfold insR
  split
  · rename_i x e
    rw [if_pos (h n x e).symm]
    exact ⟨_, rfl, h⟩
  · rename_i e
    refine ⟨_, rfl, fun m x hx => ?_⟩
    rw [lookS_snoc] at hx
    split at hx
    · rename_i y e2; cases hx; exact h m _ e2
    · split at hx
      · rename_i e3; subst e3; cases hx; rfl
      · cases hx
theorem caseS_of {σ : Int → Sh} : ∀ {s : Sh} {tb : RowS}, AgS tb σ → ∃ tb', caseS s (s.sub σ) tb = some tb' ∧ AgS tb' σ
  | .t n, tb, h => insR_of h
  | .to a b, tb, h => by
    obtain ⟨t1, e1, h1⟩ := caseS_of (s := b) h
    obtain ⟨t2, e2, h2⟩ := caseS_of (s := a) h1
    exact ⟨t2, by simp only [Sh.sub, caseS, e1, Option.bind_some, e2], h2⟩
theorem insR_len {tb tb' : RowS} {n : Int} {o : Sh} (h : insR tb n o = some tb') : tb'.length ≤ tb.length + 1 := by
  unfold insR at h
  split at h
  · split at h
    · cases h; omega
    · cases h
  · cases h; simp
theorem caseS_len : ∀ {s o : Sh} {tb tb' : RowS}, caseS s o tb = some tb' → tb'.length ≤ tb.length + s.cn
  | .t n, o, tb, tb', h => insR_len h
  | .to a b, .t _, tb, tb', h => by cases h
  | .to a b, .to c d, tb, tb', h => by
    simp only [caseS, Option.bind_eq_some_iff] at h
    obtain ⟨t1, e1, e2⟩ := h
    have := caseS_len e1; have := caseS_len e2; simp only [Sh.cn]; omega
section
variable {T : Tab} {fns : List FD} {S : Store} {Q : PQ} {E : PX}
def caseDictD : FD := ⟨3, 8, (.cons (.asg (.nm 3) (.dc [4] (.nm 4) (.val (.var 2)) .nil (.var 4) (.tup (.cons (.cst (.str (tg 29))) (.cons (.var 4) .nil))))) (.cons (.asg (.nm 5) (.lst (.cons (.tup (.cons (.var 0) (.cons (.var 1) .nil))) .nil))) (.cons (.whl (.var 5) (.cons (.asg (.tp [6, 7]) (.meth .pop (.var 5) .nil)) (.cons (.ifs (.cmp .eq (.idxc (.var 6) 0) (.cst (.str (tg 29)))) (.cons (.ifs (.cmp .ne (.setd (.var 3) (.idxc (.var 6) 1) (.var 7)) (.var 7)) (.cons (.ret (.cst .non)) .nil) .nil) .nil) (.cons (.ifs (.cmp .eq (.idxc (.var 7) 0) (.cst (.str (tg 29)))) (.cons (.ret (.cst .non)) .nil) (.cons (.expr (.meth .append (.var 5) (.cons (.tup (.cons (.idxc (.var 6) 1) (.cons (.idxc (.var 7) 1) .nil))) .nil))) (.cons (.expr (.meth .append (.var 5) (.cons (.tup (.cons (.idxc (.var 6) 2) (.cons (.idxc (.var 7) 2) .nil))) .nil))) .nil))) .nil)) .nil))) (.cons (.ret (.var 3)) .nil))))⟩
def tableRowsD : FD := ⟨1, 1, (.cons (.ret (.bi .tuple1 (.cons (.sortI 0) .nil))) .nil)⟩
def instDictD (c_case_dict c_held_atoms : Nat) : FD := ⟨2, 4, (.cons (.asg (.nm 2) (.call c_case_dict (.cons (.idxc (.var 0) 1) (.cons (.var 1) (.cons (.call c_held_atoms (.cons (.var 0) .nil) []) .nil))) [])) (.cons (.ifs (.cmp .is (.var 2) (.cst .non)) (.cons (.ret (.cst .non)) .nil) .nil) (.cons (.ret (.dc [3] (.nm 3) (.val (.idxc (.var 0) 0)) .nil (.var 3) (.idx (.var 2) (.var 3)))) .nil)))⟩
theorem putAtoms_ok {i r : Nat} {rs : RowS} (hr : S[r]? = some (.dct (rs.map keyR))) (hi : fns[i]? = some (putAtomsD i) := by first | assumption | rfl) : ∀ {s : Sh} {k : Nat} {Q : PQ} {E : PX}, s.dep ≤ k → Q (s.fillS (lookS rs)).pv S → runF T fns k i [s.pv, .ref r] S Q E
  | .t n, k, Q, E, hk, q => by
    simp only [Sh.dep] at hk
    obtain ⟨k, rfl⟩ : ∃ j, k = j + 1 := ⟨k - 1, by omega⟩
    refine run_in hi rfl fun wf un => ?_
    simp only [putAtomsD, Sh.pv]
    walk_at "pv"
    refine ⟨⟨_, hr⟩, _, hr, .inl ?_⟩
    rw [getP_keyR]
    simp only [Sh.fillS] at q
    cases h : lookS rs n with
    | none => rw [h] at q; exact q
    | some x => rw [h] at q; exact q
  | .to a b, k, Q, E, hk, q => by
    simp only [Sh.dep] at hk
    obtain ⟨k, rfl⟩ : ∃ j, k = j + 1 := ⟨k - 1, by omega⟩
    refine run_in hi rfl fun wf un => ?_
    simp only [putAtomsD, Sh.pv]
    walk_at "pv"
    refine putAtoms_ok hr hi (s := a) (k := k) (by omega) ?_
    refine putAtoms_ok hr hi (s := b) (k := k) (by omega) ?_
    exact .inl q
theorem lookS_app (as bs : RowS) (n : Int) : lookS (as ++ bs) n = (lookS as n).or (lookS bs n) := by
  induction as with
  | nil => rfl
  | cons r as ih => simp only [List.cons_append, lookS]; split <;> simp [ih]
theorem dc_rowS {α : Type} {src : Src} {d : Nat} {turn : PV → Store → (Option (L2.Key × PV) → Store → Prop) → Prop} {S0 Sx : Store} {Q : PQ} {g : α → PV} {f : α → Int × Sh} {ps : List α} {xs : List PV} (hx : Sx = S0 ++ [.dct []]) (hg : xs = ps.map g) (hd : d = S0.length) (hs : ∀ acc, srcOk src (S0 ++ [.dct acc])) (hl : ps.length ≤ 1000000) (hn : ((ps.map f).map (·.1)).Nodup)
    (ht : ∀ p, p ∈ ps → ∀ acc K, K (some (.inl (f p).1, (f p).2.pv)) (S0 ++ [.dct acc]) → turn (g p) (S0 ++ [.dct acc]) K) (q : Q (.ref d) (S0 ++ [.dct ((ps.map f).map keyR)])) : dcLoop src d turn Q xs Sx := by
  subst hx hg hd
  have main : ∀ (ps : List α) (acc : RowS), acc.length + ps.length ≤ 1000000 → (∀ p, p ∈ ps → lookS acc (f p).1 = none) → ((ps.map f).map (·.1)).Nodup → (∀ p, p ∈ ps → ∀ acc K, K (some (.inl (f p).1, (f p).2.pv)) (S0 ++ [.dct acc]) → turn (g p) (S0 ++ [.dct acc]) K) → Q (.ref S0.length) (S0 ++ [.dct ((acc ++ ps.map f).map keyR)]) → dcLoop src S0.length turn Q (ps.map g) (S0 ++ [.dct (acc.map keyR)]) := by
    intro ps
    induction ps with
    | nil => intro acc _ _ _ _ q; exact ⟨hs _, by simpa using q⟩
    | cons p ps ih =>
      intro acc hl h0 hn ht q
      simp only [List.map_cons, List.nodup_cons] at hn
      refine ⟨hs _, ht p (.head _) _ _ ?_⟩
      refine ⟨acc.map keyR, by simp, by simp at hl; simp [sizeLine]; omega, ?_⟩
      rw [sto_set0, putP_keyR (h0 p (.head _))]
      refine ih _ (by simp at hl ⊢; omega) (fun y hy => ?_) hn.2 (fun y hy => ht y (.tail _ hy)) (by simpa using q)
      rw [lookS_app, h0 y (.tail _ hy)]
      simp only [Option.none_or, lookS]
      rw [if_neg]
      intro e
      exact hn.1 (by rw [e]; exact List.mem_map_of_mem (List.mem_map_of_mem hy))
  exact main ps [] (by simpa using hl) (fun _ _ => rfl) hn ht (by simpa using q)
def heldR (hs : List Int) : RowS := hs.map fun n => (n, .t n)
theorem lookS_held (n : Int) : ∀ hs : List Int, lookS (heldR hs) n = if n ∈ hs then some (.t n) else none
  | [] => rfl
  | h :: hs => by
    show (if h = n then some (Sh.t h) else lookS (heldR hs) n) = _
    rw [lookS_held n hs]
    by_cases e : h = n
    · simp [e]
    · have : ¬ n = h := fun q => e q.symm
      simp [e, this]
theorem under_rows (n : Nat) (rs : RowS) : (Mo.dct (rs.map keyR)).under n = true := underL_of _ (by
  intro x hx
  simp only [Mo.vals, List.map_map, List.mem_map] at hx
  obtain ⟨r, _, rfl⟩ := hx
  exact r.2.gd.under _)
def pairS (p : Sh × Sh) : PV := .tup [p.1.pv, p.2.pv]
/-- the stack of case_dict: its last pair first -/
def stackS : List (Sh × Sh) → RowS → Option RowS
  | [], tb => some tb
  | p :: r, tb => (caseS p.1 p.2 tb).bind (stackS r)
theorem stackS_none : ∀ (r r' : List (Sh × Sh)) (tb : RowS), stackS r tb = none → stackS (r ++ r') tb = none
  | [], r', tb, h => by cases h
  | p :: r, r', tb, h => by
    simp only [List.cons_append, stackS, Option.bind_eq_none_iff] at h ⊢
    exact fun t ht => stackS_none r r' t (h t ht)
def fuelS (ts : List (Sh × Sh)) : Nat := (ts.map fun p => p.1.sz).sum
theorem caseDict_ok {i k : Nat} {s o : Sh} {hs : List Int} {hv : PV} (hw : IsSeq S hv (hs.map .int)) (hc : s.cn ≤ 10000) (hn : hs.length ≤ 10000) (hd : hs.Nodup) (ho : o.dep ≤ 180)
    (q0 : caseS s o (heldR hs) = none → Q .non S) (q1 : ∀ tb J, caseS s o (heldR hs) = some tb → Q (.ref S.length) (S ++ .dct (tb.map keyR) :: J)) (hi : fns[i]? = some caseDictD := by first | assumption | rfl) : runF T fns (k + 1) i [s.pv, o.pv, hv] S Q E := by
  refine run_in hi rfl fun wf un => ?_
  simp only [caseDictD]
  walk_at "pv"
  refine iter_seq hw fun src _ hsrc => ?_
  refine dc_rowS (g := PV.int) (f := fun n => (n, Sh.t n)) (ps := hs) rfl rfl rfl (fun acc => hsrc _) (by omega) (by rw [List.map_map]; simpa [Function.comp_def] using hd) (fun n hn acc K hK => ?_) ?_
  · walk_at "pv"
    exact hK
  walk_at "pv"
  refine ⟨_, while_ind (I := fun n ρ S' => ∃ (ts : List (Sh × Sh)) (tb : RowS) (y z w : Option PV), fuelS ts = n ∧ n ≤ 20000 ∧ tb.length + n ≤ 40000 ∧ (∀ p, p ∈ ts → p.2.dep ≤ 180) ∧ stackS ts.reverse tb = caseS s o (heldR hs) ∧
    ρ = [some s.pv, some o.pv, some hv, some (.ref S.length), y, some (.ref (S.length + 1)), z, w] ∧ S' = S ++ [.dct (tb.map keyR), .lst (ts.map pairS)]) ?_ s.sz _ _ ?_⟩
  · rintro n _ _ ⟨ts, tb, y, z, w, h1, h2, h3, h4, h5, rfl, rfl⟩ K hK
    rcases List.eq_nil_or_concat ts with rfl | ⟨ts, u, rfl⟩
    · walk_at "pv"
      exact .inl (q1 _ _ h5.symm)
    · simp only [List.concat_eq_append] at *
      obtain ⟨u, v⟩ := u
      have hv : v.dep ≤ 180 := h4 _ (List.mem_append_right ts (.head _))
      have hts := fun p hp => h4 p (List.mem_append_left [(u, v)] hp)
      simp only [List.reverse_append, List.reverse_cons, List.reverse_nil, List.nil_append, List.cons_append, stackS] at h5
      simp only [fuelS, List.map_append, List.sum_append, List.map_cons, List.map_nil, List.sum_cons, List.sum_nil] at h1
      have hup := u.sz_pos
      obtain ⟨n, rfl⟩ : ∃ j, n = j + 1 := ⟨n - 1, by omega⟩
      walk_at "pv"
      simp only [pairS]
      cases u with
      | t m =>
        simp only [Sh.pv]
        walk_at "pv"
        simp only [Sh.sz] at h1
        refine ⟨by omega, ?_⟩
        simp only [caseS, insR] at h5
        rw [getP_keyR]
        cases hl : lookS tb m with
        | none =>
          rw [hl] at h5
          simp only [Option.bind_some] at h5
          have hp := putP_keyR (x := v) hl
          rw [putP_eq, getP_keyR, hl] at hp
          simp only [Option.map_none, Option.isSome_none, if_false, Bool.false_eq_true] at hp ⊢
          rw [hp, sh_eqQ (by omega)]
          simp only [decide_true, Bool.not_true]
          refine .inl ⟨trivial, hK _ _ n rfl ⟨ts, tb ++ [(m, v)], _, _, _, by simp only [fuelS]; omega, by omega, by simp; omega, hts, h5, rfl, rfl⟩⟩
        | some x =>
          rw [hl] at h5
          simp only [Option.map_some] at h5 ⊢
          rw [sh_eqQ (by omega)]
          by_cases e : x = v
          · rw [if_pos e] at h5
            simp only [Option.bind_some] at h5
            exact .inl ⟨by simp [e], hK _ _ n rfl ⟨ts, tb, _, _, _, by simp only [fuelS]; omega, by omega, by omega, hts, h5, rfl, rfl⟩⟩
          · rw [if_neg e] at h5
            exact .inr ⟨by simp [e], Gc.junk wf rfl (q0 (by rw [← h5]; rfl))⟩
      | to a b =>
        cases v with
        | t m =>
          simp only [Sh.pv]
          walk_at "pv"
          exact Gc.junk wf rfl (q0 (by rw [← h5]; rfl))
        | to c d =>
          simp only [Sh.pv]
          walk_at "pv"
          simp only [Sh.sz] at h1
          have hl : ts.length ≤ (ts.map fun p => p.1.sz).sum := by
            clear h1 h4 h5 hts hK
            induction ts with
            | nil => simp
            | cons z l ih => have := z.1.sz_pos; simp only [List.map_cons, List.sum_cons, List.length_cons]; omega
          simp only [Sh.dep] at hv
          refine ⟨by omega, by omega, ?_⟩
          refine hK _ _ n rfl ⟨ts ++ [(a, c), (b, d)], tb, _, _, _, by simp [fuelS]; omega, by omega, by omega, fun p hp => ?_, ?_, rfl, by simp [pairS]⟩
          · rw [List.mem_append] at hp
            rcases hp with hp | hp
            · exact hts p hp
            · simp at hp
              rcases hp with rfl | rfl
              · show c.dep ≤ 180; omega
              · show d.dep ≤ 180; omega
          · rw [← h5]
            simp only [List.reverse_append, List.reverse_cons, List.reverse_nil, List.nil_append, List.cons_append, stackS, caseS, Option.bind_assoc]
  · refine ⟨[(s, o)], heldR hs, _, _, _, by simp [fuelS], by have := s.sz_cn; omega, by have := s.sz_cn; simp [heldR]; omega, by simpa using ho, ?_, rfl, ?_⟩
    · simp [stackS]
    · simp [heldR, pairS]
/-- table_rows -/
theorem sortPs_keyR (rs : RowS) : (rs.map keyR) = (rs.map fun r => ((r.1, r.2.pv) : Int × PV)).map fun p => (.inl p.1, p.2) := by rw [List.map_map]; rfl
def sortRS (rs : RowS) : RowS := rs.mergeSort fun a b => decide (a.1 ≤ b.1)
theorem sortRS_pv (rs : RowS) : (sortPs (rs.map fun r => ((r.1, r.2.pv) : Int × PV))).map pairI = (sortRS rs).map rowS := by
  unfold sortPs sortRS
  rw [← PySem.W.sort_maps (r := fun x y : Int × Sh => decide (x.1 ≤ y.1)) (s := fun x y : Int × PV => decide (x.1 ≤ y.1)) (fun r : Int × Sh => ((r.1, r.2.pv) : Int × PV)) (l := rs) (fun _ _ _ _ => rfl), List.map_map]
  rfl
theorem under_rowsT (n : Nat) (rs : RowS) : (PV.tup (rs.map rowS)).under n = true := by
  simp only [PV.under]
  refine underL_of _ fun x hx => ?_
  obtain ⟨r, _, rfl⟩ := List.mem_map.1 hx
  simp only [rowS, PV.under, PV.underL, r.2.gd.under n, Bool.and_self]
theorem tableRows_ok {i k r : Nat} {rs : RowS} (hr : S[r]? = some (.dct (rs.map keyR))) (q : Q (.tup ((sortRS rs).map rowS)) S) (hi : fns[i]? = some tableRowsD := by first | assumption | rfl) : runF T fns (k + 1) i [.ref r] S Q E := by
  refine run_in hi rfl fun wf un => ?_
  simp only [tableRowsD]
  walk_at "pv"
  refine ⟨_, hr, _, sortPs_keyR rs, ?_⟩
  rw [sortRS_pv]
  exact Gc.junk wf (under_rowsT _ _) q
/-- a comprehension whose turns leave the store as it is, with a test -/
theorem lc_filt {α : Type} {src : Src} {d : Nat} {turn : PV → Store → (Option PV → Store → Prop) → Prop} {S0 Sx : Store} {Q : PQ} {g : α → PV} {f : α → Option PV} {ps : List α} {xs : List PV} (hx : Sx = S0 ++ [.lst []]) (hg : xs = ps.map g) (hd : d = S0.length) (hs : ∀ acc, srcOk src (S0 ++ [.lst acc])) (hl : ps.length ≤ 1000000)
    (ht : ∀ p, p ∈ ps → ∀ acc K, K (f p) (S0 ++ [.lst acc]) → turn (g p) (S0 ++ [.lst acc]) K) (q : Q (.ref d) (S0 ++ [.lst (ps.filterMap f)])) : lcLoop src d turn Q xs Sx := by
  subst hx hg hd
  have main : ∀ (ps : List α) (acc : List PV), acc.length + ps.length ≤ 1000000 → (∀ p, p ∈ ps → ∀ acc K, K (f p) (S0 ++ [.lst acc]) → turn (g p) (S0 ++ [.lst acc]) K) → Q (.ref S0.length) (S0 ++ [.lst (acc ++ ps.filterMap f)]) → lcLoop src S0.length turn Q (ps.map g) (S0 ++ [.lst acc]) := by
    intro ps
    induction ps with
    | nil => intro acc _ _ q; exact ⟨hs acc, by simpa using q⟩
    | cons p ps ih =>
      intro acc hl ht q
      refine ⟨hs acc, ht p (.head _) acc _ ?_⟩
      cases e : f p with
      | none => exact ih acc (by simp at hl; omega) (fun y hy => ht y (.tail _ hy)) (by simpa [e] using q)
      | some y =>
        refine ⟨acc, by simp, by simp at hl; simp [sizeLine]; omega, ?_⟩
        rw [sto_set0]
        exact ih _ (by simp at hl ⊢; omega) (fun y hy => ht y (.tail _ hy)) (by simpa [e] using q)
  exact main ps [] (by simpa using hl) ht (by simpa using q)
theorem filtMap_ints (p : Int → Bool) : ∀ ns : List Int, ns.filterMap (fun n => if p n = true then some (PV.int n) else none) = (ns.filter p).map .int
  | [] => rfl
  | n :: ns => by
    simp only [List.filterMap_cons, List.filter_cons]
    by_cases h : p n = true
    · simp only [h, if_true, List.map_cons, filtMap_ints p ns]
    · simp only [h, if_false, filtMap_ints p ns, Bool.false_eq_true]
/-- the atoms that are not general -/
def heldL (g : List Int) (s : Sh) : List Int := s.lot.filter fun n => !decide (n ∈ g)
/-- held_atoms -/
theorem held_ok {i a n k : Nat} {s : Sh} {g : List Int} (hs : s.cn ≤ 63) (q : Q (.ref S.length) (S ++ [.lst ((heldL g s).map .int)])) (hi : fns[i]? = some (heldAtomsD a) := by first | assumption | rfl) (ha : fns[a]? = some (atomLotD n) := by first | assumption | rfl) (hn : fns[n]? = some noteAtomsD := by first | assumption | rfl) : runF T fns (k + 3) i [.tup [.tup (g.map .int), s.pv]] S Q E := by
  refine run_in hi rfl fun wf un => ?_
  simp only [heldAtomsD]
  walk_at "pv"
  refine lot_ok hs ?_ ha hn
  walk_at "pv"
  have hl := s.lot_len
  refine lc_filt (g := PV.int) (f := fun n => if (!decide (n ∈ g)) = true then some (PV.int n) else none) rfl rfl rfl (fun acc => trivial) (by omega) (fun n hn acc K hK => ?_) ?_
  · refine in_ints ?_
    by_cases h : n ∈ g
    · exact .inl ⟨by simp [h], by simpa [h] using hK⟩
    · exact .inr ⟨by simp [h], by simpa [h] using hK⟩
  · rw [filtMap_ints]
    exact .inl q
/-- what instance_dict tells -/
def instR (g : List Int) (s o : Sh) : Option RowS := (caseS s o (heldR (heldL g s))).map fun tb => g.map fun n => (n, (lookS tb n).getD (.t n))
theorem inst_ok {i c h a n k : Nat} {s o : Sh} {g : List Int} (hs : s.cn ≤ 63) (ho : o.dep ≤ 180) (hg : ∀ n, n ∈ g → n ∈ s.ats) (gd : g.Nodup) (gl : g.length ≤ 1000)
    (q0 : instR g s o = none → ∀ J, Q .non (S ++ J)) (q1 : ∀ tb J, instR g s o = some tb → Q (.ref (S.length + J.length)) (S ++ (J ++ [.dct (tb.map keyR)])))
    (hi : fns[i]? = some (instDictD c h) := by first | assumption | rfl) (hc : fns[c]? = some caseDictD := by first | assumption | rfl) (hh : fns[h]? = some (heldAtomsD a) := by first | assumption | rfl) (ha : fns[a]? = some (atomLotD n) := by first | assumption | rfl) (hn : fns[n]? = some noteAtomsD := by first | assumption | rfl) :
    runF T fns (k + 4) i [.tup [.tup (g.map .int), s.pv], o.pv] S Q E := by
  refine run_in hi rfl fun wf un => ?_
  simp only [instDictD]
  walk_at "pv"
  refine held_ok hs ?_ hh ha hn
  have hl := s.lot_len
  have hf : (heldL g s).length ≤ s.lot.length := List.length_filter_le _ _
  have hnd : (heldL g s).Nodup := ((sortU_sorted s.ats).imp (fun h => Int.ne_of_lt h)).filter _
  refine caseDict_ok (hw := .inr ⟨_, rfl, sto_at rfl⟩) (by omega) (by omega) hnd ho (fun e => ?_) (fun tb J e => ?_) hc
  · walk_at "pv"
    exact .inl (q0 (by simp [instR, e]) _)
  · obtain ⟨c1, c2, c3, c4⟩ := caseS_some e
    walk_at "pv"
    refine dc_rowS (S0 := S ++ Mo.lst ((heldL g s).map .int) :: Mo.dct (tb.map keyR) :: J) (g := PV.int) (f := fun n => (n, (lookS tb n).getD (.t n))) (ps := g) (by simp) rfl (by simp) (fun acc => trivial) (by omega) (by rw [List.map_map]; simpa [Function.comp_def] using gd) (fun n hn acc K hK => ?_) ?_
    · have hn' := c2 n (hg n hn)
      obtain ⟨x, hx⟩ := Option.isSome_iff_exists.1 hn'
      simp only [hx, Option.getD_some] at hK
      refine ⟨_, sto_old (show (S ++ Mo.lst ((heldL g s).map .int) :: Mo.dct (tb.map keyR) :: J)[S.length + 1]? = some (.dct (tb.map keyR)) from by rw [sto_get]; rfl), ?_⟩
      simp only [atQ_d, keyOf_i]
      exact ⟨_, _, rfl, by rw [getP_keyR, hx]; rfl, _, rfl, hK⟩
    · have := q1 _ (Mo.lst ((heldL g s).map .int) :: Mo.dct (tb.map keyR) :: J) (show instR g s o = _ from by unfold instR; rw [e]; rfl)
      refine .inl ?_
      simpa [Nat.add_assoc, Nat.add_comm, Nat.add_left_comm] using this
end
end Pv
set_option Elab.async false
set_option linter.all false
set_option maxRecDepth 100000
set_option maxHeartbeats 1000000
/-! Ls3: shapes: what the laws work out: drawn shapes, fill, atoms, match. -/
namespace Pv
open PySem
local macro_rules | `(tactic| walk_at "pv") => `(tactic| simp [wpSs, wpS, wpE, wpT, wpEs, wpTs, wpO, wpI, wpG, startP, wipeP, L2.CMul, L2.CDiv, L2.CPow, tg_inj, sizeLine, eqB_tup, -List.getD_eq_getElem?_getD])
section
variable {T : Tab} {fns : List FD} {S : Store} {Q : PQ} {E : PX}
/-- _law_any_shape -/
def lAnyShapeD (c_law_draw i : Nat) : FD := ⟨3, 4, (.cons (.ifs (.or (.cmp .lt (.var 1) (.cst (.int 2))) (.cmp .eq (.call c_law_draw (.cons (.var 0) (.cons (.cst (.int 4)) .nil)) []) (.cst (.int 0)))) (.cons (.ret (.tup (.cons (.cst (.str (tg 29))) (.cons (.call c_law_draw (.cons (.var 0) (.cons (.var 2) .nil)) []) .nil)))) .nil) .nil) (.cons (.asg (.nm 3) (.bin .add (.cst (.int 1)) (.call c_law_draw (.cons (.var 0) (.cons (.bin .sub (.var 1) (.cst (.int 1))) .nil)) []))) (.cons (.ret (.tup (.cons (.cst (.str (tg 30))) (.cons (.call i (.cons (.var 0) (.cons (.var 3) (.cons (.var 2) .nil))) []) (.cons (.call i (.cons (.var 0) (.cons (.bin .sub (.var 1) (.var 3)) (.cons (.var 2) .nil))) []) .nil))))) .nil)))⟩
/-- _law_fill -/
def lFillD (i : Nat) : FD := ⟨2, 4, (.cons (.ifs (.cmp .eq (.idxc (.var 0) 0) (.cst (.str (tg 29)))) (.cons (.for_ (.tp [2, 3]) (.val (.var 1)) (.cons (.ifs (.cmp .eq (.var 2) (.idxc (.var 0) 1)) (.cons (.ret (.var 3)) .nil) .nil) .nil)) (.cons (.ret (.var 0)) .nil)) .nil) (.cons (.ret (.tup (.cons (.cst (.str (tg 30))) (.cons (.call i (.cons (.idxc (.var 0) 1) (.cons (.var 1) .nil)) []) (.cons (.call i (.cons (.idxc (.var 0) 2) (.cons (.var 1) .nil)) []) .nil))))) .nil))⟩
/-- _law_atoms -/
def lAtomsD (i : Nat) : FD := ⟨1, 1, (.cons (.ifs (.cmp .eq (.idxc (.var 0) 0) (.cst (.str (tg 29)))) (.cons (.ret (.lst (.cons (.idxc (.var 0) 1) .nil))) .nil) .nil) (.cons (.ret (.sortS (.bin .add (.call i (.cons (.idxc (.var 0) 1) .nil) []) (.call i (.cons (.idxc (.var 0) 2) .nil) [])))) .nil))⟩
/-- _law_match -/
def lMatchD (i : Nat) : FD := ⟨4, 6, (.cons (.ifs (.cmp .eq (.idxc (.var 1) 0) (.cst (.str (tg 29)))) (.cons (.ifs (.cmp .notin (.idxc (.var 1) 1) (.var 0)) (.cons (.ret (.cmp .eq (.var 1) (.var 2))) .nil) .nil) (.cons (.for_ (.tp [4, 5]) (.val (.var 3)) (.cons (.ifs (.cmp .eq (.var 4) (.idxc (.var 1) 1)) (.cons (.ret (.cmp .eq (.var 5) (.var 2))) .nil) .nil) .nil)) (.cons (.expr (.meth .append (.var 3) (.cons (.tup (.cons (.idxc (.var 1) 1) (.cons (.var 2) .nil))) .nil))) (.cons (.ret (.cst (.bl true))) .nil)))) .nil) (.cons (.ifs (.cmp .eq (.idxc (.var 2) 0) (.cst (.str (tg 29)))) (.cons (.ret (.cst (.bl false))) .nil) .nil) (.cons (.ret (.and (.call i (.cons (.var 0) (.cons (.idxc (.var 1) 1) (.cons (.idxc (.var 2) 1) (.cons (.var 3) .nil)))) []) (.call i (.cons (.var 0) (.cons (.idxc (.var 1) 2) (.cons (.idxc (.var 2) 2) (.cons (.var 3) .nil)))) []))) .nil)))⟩
/-- a drawn shape -/
structure ShB (m : Int) (at_ : Int) (s : Sh) : Prop where
  cn : (s.cn : Int) ≤ m
  lo : ∀ n, n ∈ s.ats → 0 ≤ n
  hi : ∀ n, n ∈ s.ats → n < at_
theorem lAnyShape_ok {i d : Nat} {at_ : Int} (ha : 0 < at_) (ha2 : at_ < 1000) (hi : fns[i]? = some (lAnyShapeD d i) := by first | assumption | rfl) (hd : fns[d]? = some drawD := by first | assumption | rfl) :
    ∀ (m : Nat) {room : Int} {k : Nat} {C : Int} {S : Store} {Q : PQ} {E : PX}, 1 ≤ room → room ≤ m → m ≤ 100 → m + 2 ≤ k → C + 4 * room < 2 ^ 38 → StB C S → (∀ s o, ShB room at_ s → StB (C + (4 * room - 2)) (S.set 2 o) → Q s.pv (S.set 2 o)) → runF T fns k i [.ref 2, .int room, .int at_] S Q E
  | 0, room, k, C, S, Q, E, h1, h2, _, _, _, _, _ => by omega
  | m + 1, room, k, C, S, Q, E, h1, h2, hm, hk, hC, hst, q => by
    obtain ⟨k, rfl⟩ : ∃ j, k = j + 1 := ⟨k - 1, by omega⟩
    refine run_in hi rfl fun wf un => ?_
    simp only [lAnyShapeD]
    walk_at "pv"
    have atom : ∀ (S' : Store) (o : Mo) (C' : Int), S' = S.set 2 o → StB C' S' → C' < 2 ^ 50 → C' + 1 ≤ C + (4 * room - 2) → runF T fns k (Fi.f d) [.ref 2, .int at_] S' (fun v S1 => Gc S.length (.tup [.str (tg 29), v]) S1 Q) fun x S1 => GcX S.length x S1 E := by
      intro S' o C' e h hC' hle
      subst e
      obtain ⟨k', rfl⟩ : ∃ j, k = j + 1 := ⟨k - 1, by omega⟩
      refine draw_ok ha (by omega) (by omega) h (fun r o2 r0 r1 h2 => ?_) hd
      rw [List.set_set] at h2 ⊢
      exact .inl (q (.t r) o2 ⟨by simp [Sh.cn]; omega, by simp [Sh.ats]; omega, by simp [Sh.ats]; omega⟩ (h2.mono hle))
    obtain ⟨o0, ho0⟩ := hst.self
    rcases Int.lt_or_le room 2 with hr | hr
    · exact .inr ⟨hr, atom S o0 C ho0.symm hst (by omega) (by omega)⟩
    · refine .inl ⟨hr, ?_⟩
      obtain ⟨k', rfl⟩ : ∃ j, k = j + 1 := ⟨k - 1, by omega⟩
      refine draw_ok (by omega) (by omega) (by omega) hst (fun r o1 r0 r1 st1 => ?_) hd
      simp only [eqQ_ii]
      by_cases hz : r = 0
      · exact .inr ⟨by simp [hz], atom _ o1 (C + 1) rfl st1 (by omega) (by omega)⟩
      refine .inl ⟨by simp [hz], ?_⟩
      refine draw_ok (by omega) (by omega) (by omega) st1 (fun l o2 l0 l1 st2 => ?_) hd
      rw [List.set_set] at st2 ⊢
      simp only [addQ_ii]
      refine lAnyShape_ok ha ha2 hi hd m (room := 1 + l) (k := k' + 1) (by omega) (by omega) (by omega) (by omega) (by omega) st2 fun s o3 sb st3 => ?_
      simp only [intQ_ii, true_and]
      rw [List.set_set] at st3 ⊢
      refine lAnyShape_ok ha ha2 hi hd m (room := room - (1 + l)) (k := k' + 1) (by omega) (by omega) (by omega) (by omega) (by omega) st3 fun s' o4 sb' st4 => ?_
      rw [List.set_set] at st4 ⊢
      refine .inl (q (.to s s') o4 ⟨?_, fun n hn => ?_, fun n hn => ?_⟩ (st4.mono (by omega)))
      · have := sb.cn; have := sb'.cn; simp only [Sh.cn, Int.natCast_add]; omega
      · rcases List.mem_append.1 hn with h | h
        · exact sb.lo n h
        · exact sb'.lo n h
      · rcases List.mem_append.1 hn with h | h
        · exact sb.hi n h
        · exact sb'.hi n h
theorem lFill_ok {i r : Nat} {rs : RowS} (hr : S[r]? = some (.lst (rs.map rowS))) (hi : fns[i]? = some (lFillD i) := by first | assumption | rfl) : ∀ {s : Sh} {k : Nat} {Q : PQ} {E : PX}, s.dep ≤ k → Q (s.fillS (lookS rs)).pv S → runF T fns k i [s.pv, .ref r] S Q E
  | .t n, k, Q, E, hk, q => by
    simp only [Sh.dep] at hk
    obtain ⟨k, rfl⟩ : ∃ j, k = j + 1 := ⟨k - 1, by omega⟩
    refine run_in hi rfl fun wf un => ?_
    simp only [lFillD, Sh.pv]
    walk_at "pv"
    refine ⟨_, hr, rfl, ?_⟩
    simp only [Sh.fillS] at q
    refine for_ind (I := fun xs ρ S' => S = S' ∧ ∃ (us : RowS) (x y : Option PV), xs = us.map rowS ∧ lookS rs n = lookS us n ∧ ρ = [some (.tup [.str (tg 29), .int n]), some (.ref r), x, y]) ?_ ?_ _ _ _ ⟨rfl, rs, none, none, rfl, rfl, rfl⟩
    · rintro x xs _ _ ⟨rfl, us, x', y', hx, e2, rfl⟩
      cases us with
      | nil => cases hx
      | cons u us =>
        simp only [List.map_cons, List.cons.injEq] at hx
        obtain ⟨rfl, rfl⟩ := hx
        refine ⟨⟨hr, trivial⟩, fun K hK => ?_⟩
        simp only [rowS]
        walk_at "pv"
        simp only [lookS] at e2
        by_cases h : u.1 = n
        · rw [if_pos h] at e2
          rw [e2] at q
          exact .inr ⟨h, .inl q⟩
        · rw [if_neg h] at e2
          exact .inl ⟨h, hK _ _ ⟨rfl, us, _, _, rfl, e2, rfl⟩⟩
    · rintro _ _ ⟨rfl, us, x', y', hx, e2, rfl⟩
      refine ⟨⟨hr, trivial⟩, ?_⟩
      cases us with
      | cons u us => cases hx
      | nil =>
        rw [e2] at q
        walk_at "pv"
        exact .inl q
  | .to a b, k, Q, E, hk, q => by
    simp only [Sh.dep] at hk
    obtain ⟨k, rfl⟩ : ∃ j, k = j + 1 := ⟨k - 1, by omega⟩
    refine run_in hi rfl fun wf un => ?_
    simp only [lFillD, Sh.pv]
    walk_at "pv"
    refine lFill_ok hr hi (s := a) (k := k) (by omega) ?_
    refine lFill_ok hr hi (s := b) (k := k) (by omega) ?_
    exact .inl q
theorem lAtoms_ok {i : Nat} (hi : fns[i]? = some (lAtomsD i) := by first | assumption | rfl) : ∀ {s : Sh} {k : Nat} {S : Store} {Q : PQ} {E : PX}, s.dep ≤ k → s.cn ≤ 63 → (∀ J, Q (.ref (S.length + J.length)) (S ++ (J ++ [.lst (s.lot.map .int)]))) → runF T fns k i [s.pv] S Q E
  | .t n, k, S, Q, E, hk, hc, q => by
    simp only [Sh.dep] at hk
    obtain ⟨k, rfl⟩ : ∃ j, k = j + 1 := ⟨k - 1, by omega⟩
    refine run_in hi rfl fun wf un => ?_
    simp only [lAtomsD, Sh.pv]
    walk_at "pv"
    exact .inl (q [])
  | .to a b, k, S, Q, E, hk, hc, q => by
    simp only [Sh.dep] at hk
    simp only [Sh.cn] at hc
    have h1 := a.cn_pos
    have h2 := b.cn_pos
    have l1 := a.lot_len
    have l2 := b.lot_len
    obtain ⟨k, rfl⟩ : ∃ j, k = j + 1 := ⟨k - 1, by omega⟩
    refine run_in hi rfl fun wf un => ?_
    simp only [lAtomsD, Sh.pv]
    walk_at "pv"
    refine lAtoms_ok hi (s := a) (k := k) (by omega) (by omega) fun J1 => ?_
    refine lAtoms_ok hi (s := b) (k := k) (by omega) (by omega) fun J2 => ?_
    simp only [addQ_rr]
    refine ⟨_, _, by rw [← List.append_assoc S]; exact sto_old (sto_at (by simp)), by rw [← List.append_assoc (S ++ _)]; exact sto_at (by simp; omega), by simp [sizeLine]; omega, ?_⟩
    walk_at "pv"
    refine ⟨a.lot ++ b.lot, by rw [← List.map_append, intsP_map], by simp; omega, ?_⟩
    have := q (J1 ++ Mo.lst (a.lot.map .int) :: (J2 ++ [Mo.lst (b.lot.map .int), Mo.lst (a.lot.map .int ++ b.lot.map .int)]))
    rw [show (a.to b).lot = sortU (a.lot ++ b.lot) from (sortU_app _ _).symm] at this
    refine .inl ?_
    simpa using this
/-- what _law_match does -/
def matchS (g : List Int) : Sh → Sh → RowS → Bool × RowS
  | .t n, o, tb => if n ∈ g then (match lookS tb n with | some x => (decide (x = o), tb) | none => (true, tb ++ [(n, o)])) else (decide (Sh.t n = o), tb)
  | .to _ _, .t _, tb => (false, tb)
  | .to a b, .to c d, tb => if (matchS g a c tb).1 = true then matchS g b d (matchS g a c tb).2 else (false, (matchS g a c tb).2)
theorem matchS_len (g : List Int) : ∀ (s o : Sh) (tb : RowS), (matchS g s o tb).2.length ≤ tb.length + s.cn
  | .t n, o, tb => by
    simp only [matchS]
    split
    · split <;> simp [Sh.cn]
    · simp
  | .to a b, .t _, tb => by simp [matchS]
  | .to a b, .to c d, tb => by
    have h1 := matchS_len g a c tb
    have h2 := matchS_len g b d (matchS g a c tb).2
    simp only [matchS, Sh.cn]
    split
    · omega
    · show (matchS g a c tb).2.length ≤ _; omega
theorem matchS_in (g : List Int) : ∀ (s o : Sh) (tb : RowS) (p : Int × Sh), p ∈ (matchS g s o tb).2 → p ∈ tb ∨ (p.2.dep ≤ o.dep ∧ p.1 ∈ g ∧ p.1 ∈ s.ats)
  | .t n, o, tb, p, hp => by
    simp only [matchS] at hp
    split at hp
    · rename_i hg
      split at hp
      · exact .inl hp
      · rcases List.mem_append.1 hp with h | h
        · exact .inl h
        · simp at h; subst h; exact .inr ⟨Nat.le_refl _, hg, by simp [Sh.ats]⟩
    · exact .inl hp
  | .to a b, .t _, tb, p, hp => .inl hp
  | .to a b, .to c d, tb, p, hp => by
    simp only [matchS] at hp
    have h1 := matchS_in g a c tb p
    split at hp
    · rcases matchS_in g b d _ p hp with h | ⟨h, h', h''⟩
      · rcases h1 h with h | ⟨h, h', h''⟩
        · exact .inl h
        · exact .inr ⟨by simp only [Sh.dep]; omega, h', by simp [Sh.ats, h'']⟩
      · exact .inr ⟨by simp only [Sh.dep]; omega, h', by simp [Sh.ats, h'']⟩
    · rcases h1 hp with h | ⟨h, h', h''⟩
      · exact .inl h
      · exact .inr ⟨by simp only [Sh.dep]; omega, h', by simp [Sh.ats, h'']⟩
theorem lMatch_ok {i r : Nat} {g : List Int} (hi : fns[i]? = some (lMatchD i) := by first | assumption | rfl) : ∀ {s o : Sh} {tb : RowS} {k : Nat} {S : Store} {Q : PQ} {E : PX}, s.dep ≤ k → o.dep ≤ 180 → tb.length + s.cn ≤ 100000 → (∀ p, p ∈ tb → p.2.dep ≤ 180) → S[r]? = some (.lst (tb.map rowS)) →
    Q (.bl (matchS g s o tb).1) (S.set r (.lst ((matchS g s o tb).2.map rowS))) → runF T fns k i [.tup (g.map .int), s.pv, o.pv, .ref r] S Q E
  | .t n, o, tb, k, S, Q, E, hk, ho, ht, hd, hr, q => by
    simp only [Sh.dep] at hk
    simp only [Sh.cn] at ht
    obtain ⟨k, rfl⟩ : ∃ j, k = j + 1 := ⟨k - 1, by omega⟩
    refine run_in hi rfl fun wf un => ?_
    simp only [lMatchD, Sh.pv]
    walk_at "pv"
    refine in_ints ?_
    simp only [matchS] at q
    by_cases hg : n ∈ g
    · rw [if_pos hg] at q
      refine .inl ⟨by simp [hg], ?_⟩
      refine ⟨_, hr, rfl, ?_⟩
      refine for_ind (I := fun xs ρ S' => S = S' ∧ ∃ (us : RowS) (x y : Option PV), xs = us.map rowS ∧ lookS tb n = lookS us n ∧ (∀ p, p ∈ us → p.2.dep ≤ 180) ∧ ρ = [some (.tup (g.map .int)), some (.tup [.str (tg 29), .int n]), some o.pv, some (.ref r), x, y]) ?_ ?_ _ _ _ ⟨rfl, tb, none, none, rfl, rfl, hd, rfl⟩
      · rintro x xs _ _ ⟨rfl, us, x', y', hx, e2, hu, rfl⟩
        cases us with
        | nil => cases hx
        | cons u us =>
          simp only [List.map_cons, List.cons.injEq] at hx
          obtain ⟨rfl, rfl⟩ := hx
          refine ⟨⟨hr, trivial⟩, fun K hK => ?_⟩
          simp only [rowS]
          walk_at "pv"
          simp only [lookS] at e2
          by_cases h : u.1 = n
          · rw [if_pos h] at e2
            rw [e2] at q
            refine .inr ⟨h, ?_⟩
            rw [sh_eqQ (by have := hu u (.head _); omega)]
            rw [set_self hr] at q
            exact .inl q
          · rw [if_neg h] at e2
            exact .inl ⟨h, hK _ _ ⟨rfl, us, _, _, rfl, e2, fun p hp => hu p (.tail _ hp), rfl⟩⟩
      · rintro _ _ ⟨rfl, us, x', y', hx, e2, hu, rfl⟩
        refine ⟨⟨hr, trivial⟩, ?_⟩
        cases us with
        | cons u us => cases hx
        | nil =>
          rw [e2] at q
          simp only [lookS] at q
          walk_at "pv"
          refine ⟨_, hr, rfl, _, hr, by simp [sizeLine]; omega, ?_⟩
          refine .inl ?_
          simpa [rowS, Sh.pv] using q
    · rw [if_neg hg] at q
      refine .inr ⟨by simp [hg], ?_⟩
      have e := sh_eqQ (g := fun b => b) (s := .t n) (u := o) (S := S) (Q := fun v S' => Gc S.length v S' Q) (by omega)
      simp only [Sh.pv] at e
      rw [e]
      rw [set_self hr] at q
      exact .inl q
  | .to a b, .t m, tb, k, S, Q, E, hk, ho, ht, hd, hr, q => by
    simp only [Sh.dep] at hk
    obtain ⟨k, rfl⟩ : ∃ j, k = j + 1 := ⟨k - 1, by omega⟩
    refine run_in hi rfl fun wf un => ?_
    simp only [lMatchD, Sh.pv]
    walk_at "pv"
    simp only [matchS] at q
    rw [set_self hr] at q
    exact .inl q
  | .to a b, .to c d, tb, k, S, Q, E, hk, ho, ht, hd, hr, q => by
    simp only [Sh.dep] at hk ho
    simp only [Sh.cn] at ht
    obtain ⟨k, rfl⟩ : ∃ j, k = j + 1 := ⟨k - 1, by omega⟩
    refine run_in hi rfl fun wf un => ?_
    simp only [lMatchD, Sh.pv]
    walk_at "pv"
    simp only [matchS] at q
    have hb := b.cn_pos
    have hrl := (List.getElem?_eq_some_iff.1 hr).1
    refine lMatch_ok hi (s := a) (o := c) (k := k) (by omega) (by omega) (by omega) hd hr ?_
    by_cases hm : (matchS g a c tb).1 = true
    · rw [if_pos hm] at q
      refine .inr ⟨by rw [hm], ?_⟩
      have l1 := matchS_len g a c tb
      refine lMatch_ok hi (s := b) (o := d) (tb := (matchS g a c tb).2) (k := k) (by omega) (by omega) (by omega) (fun p hp => ?_) (by rw [List.getElem?_set_self hrl]) ?_
      · rcases matchS_in g a c tb p hp with h | ⟨h, _, _⟩
        · exact hd p h
        · omega
      · rw [List.set_set]
        exact .inl q
    · rw [if_neg hm] at q
      exact .inl ⟨by simpa using hm, .inl q⟩
end
end Pv
set_option Elab.async false
set_option linter.all false
set_option maxRecDepth 100000
set_option maxHeartbeats 1000000
/-! Ls4: shapes: instances, plain. -/
namespace Pv
open PySem
/-- o comes of s by shapes for the atoms in g -/
def Inst (g : List Int) (s o : Sh) : Prop := ∃ σ : Int → Sh, (∀ n, n ∈ s.ats → n ∉ g → σ n = .t n) ∧ s.sub σ = o
theorem lookS_mem {tb : RowS} {n : Int} {x : Sh} (h : lookS tb n = some x) : (n, x) ∈ tb := by
  induction tb with
  | nil => cases h
  | cons r tb ih =>
    simp only [lookS] at h
    split at h
    · rename_i e
      cases h
      subst e
      exact .head _
    · exact .tail _ (ih h)
theorem lookS_of {tb : RowS} (hn : (tb.map (·.1)).Nodup) {p : Int × Sh} (hp : p ∈ tb) : lookS tb p.1 = some p.2 := by
  induction tb with
  | nil => cases hp
  | cons r tb ih =>
    simp only [List.map_cons, List.nodup_cons] at hn
    simp only [lookS]
    rcases List.mem_cons.1 hp with rfl | hp
    · rw [if_pos rfl]
    · rw [if_neg, ih hn.2 hp]
      intro e
      exact hn.1 (by rw [e]; exact List.mem_map_of_mem hp)
theorem heldL_mem {g : List Int} {s : Sh} {n : Int} : n ∈ heldL g s ↔ n ∈ s.ats ∧ n ∉ g := by
  unfold heldL
  rw [List.mem_filter, Sh.lot_mem]; simp
theorem instR_some {g : List Int} {s o : Sh} {tb : RowS} (h : instR g s o = some tb) : ∃ σ : Int → Sh, (∀ n, n ∈ s.ats → n ∉ g → σ n = .t n) ∧ s.sub σ = o ∧ tb = g.map fun n => (n, σ n) := by
  unfold instR at h
  rw [Option.map_eq_some_iff] at h
  obtain ⟨t1, e, rfl⟩ := h
  obtain ⟨c1, c2, c3, c4⟩ := caseS_some e
  have key : ∀ n x, n ∉ g → lookS t1 n = some x → x = .t n := fun n x hg hx => by
    rcases c4 n x hx with h | h
    · rw [lookS_held] at h
      split at h
      · cases h; rfl
      · cases h
    · have := c1 n (.t n) (by rw [lookS_held, if_pos (heldL_mem.2 ⟨h, hg⟩)])
      rw [hx] at this; cases this; rfl
  refine ⟨fun n => (lookS t1 n).getD (.t n), fun n _ hg => ?_, c3 _ fun n x hx => by show (lookS t1 n).getD _ = x; rw [hx]; rfl, rfl⟩
  show (lookS t1 n).getD (.t n) = .t n
  cases e1 : lookS t1 n with
  | none => rfl
  | some x => exact key n x hg e1
theorem instR_none {g : List Int} {s o : Sh} (h : instR g s o = none) : ¬ Inst g s o := by
  rintro ⟨σ, h1, rfl⟩
  unfold instR at h
  rw [Option.map_eq_none_iff] at h
  obtain ⟨tb, e, _⟩ := caseS_of (s := s) (tb := heldR (heldL g s)) (σ := σ) fun n x hx => by
    rw [lookS_held] at hx
    split at hx
    · rename_i hm
      cases hx
      obtain ⟨a, b⟩ := heldL_mem.1 hm
      exact h1 n a b
    · cases hx
  rw [e] at h; cases h
theorem matchS_true {g : List Int} : ∀ {s o : Sh} {tb : RowS}, (matchS g s o tb).1 = true → (tb.map (·.1)).Nodup →
    (∀ m x, lookS tb m = some x → lookS (matchS g s o tb).2 m = some x) ∧ (∀ n, n ∈ s.ats → n ∈ g → (lookS (matchS g s o tb).2 n).isSome) ∧ ((matchS g s o tb).2.map (·.1)).Nodup ∧
    ∀ σ, AgS (matchS g s o tb).2 σ → (∀ n, n ∈ s.ats → n ∉ g → σ n = .t n) → s.sub σ = o
  | .t n, o, tb, h, hd => by
    simp only [matchS] at h ⊢
    split at h
    · rename_i hg
      simp only [if_pos hg]
      split at h
      · rename_i x e
        simp only [decide_eq_true_eq] at h
        subst h
        refine ⟨fun m y hy => hy, fun m hm _ => ?_, hd, fun σ hσ _ => hσ n x e⟩
        simp [Sh.ats] at hm; subst hm; rw [e]; rfl
      · rename_i e
        refine ⟨fun m y hy => by rw [lookS_snoc, hy], fun m hm _ => ?_, ?_, fun σ hσ _ => hσ n o (by rw [lookS_snoc, e]; simp)⟩
        · simp [Sh.ats] at hm; subst hm; rw [lookS_snoc, e]; simp
        · rw [List.map_append, List.nodup_append]
          refine ⟨hd, by simp, fun a ha b hb => ?_⟩
          simp at hb
          subst hb
          rintro rfl
          obtain ⟨p, hp, rfl⟩ := List.mem_map.1 ha
          rw [lookS_of hd hp] at e; cases e
    · rename_i hg
      simp only [if_neg hg]
      simp only [decide_eq_true_eq] at h
      subst h
      refine ⟨fun m y hy => hy, fun m hm hm' => ?_, hd, fun σ _ h2 => h2 n (by simp [Sh.ats]) hg⟩
      simp [Sh.ats] at hm; subst hm; exact absurd hm' hg
  | .to a b, .t _, tb, h, hd => by simp [matchS] at h
  | .to a b, .to c d, tb, h, hd => by
    simp only [matchS] at h ⊢
    by_cases hm : (matchS g a c tb).1 = true
    · simp only [if_pos hm] at h ⊢
      obtain ⟨a1, a2, a3, a4⟩ := matchS_true hm hd
      obtain ⟨b1, b2, b3, b4⟩ := matchS_true h a3
      refine ⟨fun m x hx => b1 m x (a1 m x hx), fun n hn hg => ?_, b3, fun σ hσ h2 => ?_⟩
      · rcases List.mem_append.1 hn with hn | hn
        · obtain ⟨x, hx⟩ := Option.isSome_iff_exists.1 (a2 n hn hg)
          rw [b1 n x hx]; rfl
        · exact b2 n hn hg
      · simp only [Sh.sub]
        rw [a4 σ (fun n x hx => hσ n x (b1 n x hx)) fun n hn => h2 n (by simp [Sh.ats, hn]), b4 σ hσ fun n hn => h2 n (by simp [Sh.ats, hn])]
    · rw [if_neg hm] at h; cases h
theorem matchS_of {g : List Int} {σ : Int → Sh} : ∀ {s : Sh} {tb : RowS}, AgS tb σ → (∀ n, n ∈ s.ats → n ∉ g → σ n = .t n) → (matchS g s (s.sub σ) tb).1 = true ∧ AgS (matchS g s (s.sub σ) tb).2 σ
  | .t n, tb, h, h2 => by
    simp only [matchS, Sh.sub]
    split
    · split
      · rename_i x e
        exact ⟨by simp [(h n x e)], h⟩
      · rename_i e
        refine ⟨rfl, fun m x hx => ?_⟩
        rw [lookS_snoc] at hx
        split at hx
        · rename_i y e2; cases hx; exact h m _ e2
        · split at hx
          · rename_i e3; subst e3; cases hx; rfl
          · cases hx
    · rename_i hg
      exact ⟨by simp [h2 n (by simp [Sh.ats]) hg], h⟩
  | .to a b, tb, h, h2 => by
    obtain ⟨a1, a2⟩ := matchS_of (s := a) h fun n hn => h2 n (by simp [Sh.ats, hn])
    obtain ⟨b1, b2⟩ := matchS_of (s := b) a2 fun n hn => h2 n (by simp [Sh.ats, hn])
    simp only [matchS, Sh.sub, if_pos a1]
    exact ⟨b1, b2⟩
theorem match_inst {g : List Int} {s o : Sh} : (matchS g s o []).1 = true ↔ Inst g s o := by
  constructor
  · intro h
    obtain ⟨a1, a2, a3, a4⟩ := matchS_true h .nil
    refine ⟨fun n => if n ∈ g then (lookS (matchS g s o []).2 n).getD (.t n) else .t n, fun n _ hg => by simp [hg], a4 _ (fun n x hx => ?_) fun n _ hg => by simp [hg]⟩
    have := matchS_in g s o [] _ (lookS_mem hx)
    rcases this with h | ⟨_, h, _⟩
    · cases h
    · simp only [h, if_true, hx]; rfl
  · rintro ⟨σ, h1, rfl⟩
    exact (matchS_of (fun _ _ h => by cases h) h1).1
theorem rows_uniq : ∀ {l r : RowS}, (l.map (·.1)).Pairwise (· < ·) → (r.map (·.1)).Pairwise (· < ·) → (∀ p, p ∈ l ↔ p ∈ r) → l = r
  | [], [], _, _, _ => rfl
  | [], j :: r, _, _, h => by have := (h j).2 (.head _); cases this
  | i :: l, [], _, _, h => by have := (h i).1 (.head _); cases this
  | i :: l, j :: r, h1, h2, h => by
    simp only [List.map_cons] at h1 h2
    obtain ⟨a1, a2⟩ := List.pairwise_cons.1 h1
    obtain ⟨b1, b2⟩ := List.pairwise_cons.1 h2
    have e : i = j := by
      rcases List.mem_cons.1 ((h i).1 (.head _)) with e | m
      · exact e
      · rcases List.mem_cons.1 ((h j).2 (.head _)) with e | m'
        · exact e.symm
        · have := a1 j.1 (List.mem_map_of_mem m'); have := b1 i.1 (List.mem_map_of_mem m); omega
    subst e
    refine congrArg _ (rows_uniq a2 b2 fun k => ⟨fun m => ?_, fun m => ?_⟩)
    · rcases List.mem_cons.1 ((h k).1 (.tail _ m)) with rfl | m'
      · exact absurd (a1 k.1 (List.mem_map_of_mem m)) (Int.lt_irrefl _)
      · exact m'
    · rcases List.mem_cons.1 ((h k).2 (.tail _ m)) with rfl | m'
      · exact absurd (b1 k.1 (List.mem_map_of_mem m)) (Int.lt_irrefl _)
      · exact m'
theorem sortRS_asc {tb : RowS} (h : (tb.map (·.1)).Nodup) : ((sortRS tb).map (·.1)).Pairwise (· < ·) := by
  have p := List.mergeSort_perm tb fun a b => decide (a.1 ≤ b.1)
  refine le_nodup_lt ?_ ((p.map _).nodup_iff.2 h)
  have s := List.pairwise_mergeSort (le := fun a b : Int × Sh => decide (a.1 ≤ b.1)) (fun a b c h1 h2 => by simp at *; omega) (fun a b => by simp; omega) tb
  rw [List.pairwise_map]
  exact s.imp fun h => by simpa using h
theorem sortRS_mem {tb : RowS} {p : Int × Sh} : p ∈ sortRS tb ↔ p ∈ tb := (List.mergeSort_perm tb _).mem_iff
/-- both tables are the same -/
theorem tables_eq {g : List Int} {s o : Sh} {tb : RowS} (hg : ∀ n, n ∈ g → n ∈ s.ats) (ga : g.Pairwise (· < ·)) (h : instR g s o = some tb) : (matchS g s o []).1 = true ∧ sortRS (matchS g s o []).2 = sortRS tb := by
  obtain ⟨σ, h1, h2, rfl⟩ := instR_some h
  have hm : (matchS g s o []).1 = true := match_inst.2 ⟨σ, h1, h2⟩
  refine ⟨hm, ?_⟩
  obtain ⟨a1, a2, a3, a4⟩ := matchS_true hm .nil
  have ag : AgS (matchS g s o []).2 σ := by
    have := (matchS_of (g := g) (s := s) (tb := []) (σ := σ) (fun _ _ h => by cases h) h1).2
    rwa [h2] at this
  have gm : (List.map (·.1) (g.map fun n => (n, σ n))) = g := by rw [List.map_map]; simp [Function.comp_def]
  have gn : g.Nodup := ga.imp Int.ne_of_lt
  refine rows_uniq (sortRS_asc a3) (sortRS_asc (by rw [gm]; exact gn)) fun p => ?_
  rw [sortRS_mem, sortRS_mem, List.mem_map]
  constructor
  · intro hp
    rcases matchS_in g s o [] p hp with h | ⟨_, h, _⟩
    · cases h
    · exact ⟨p.1, h, by rw [ag p.1 p.2 (lookS_of a3 hp)]⟩
  · rintro ⟨n, hn, rfl⟩
    obtain ⟨x, hx⟩ := Option.isSome_iff_exists.1 (a2 n (hg n hn) hn)
    rw [ag n x hx]
    exact lookS_mem hx
/-- the least number above all atoms of both, less 1 -/
def topA (s w : Sh) : Int := (maxL (s.lot ++ w.lot)).getD 0
theorem topA_max (s w : Sh) : maxL (s.lot ++ w.lot) = some (topA s w) := by
  unfold topA
  cases h : maxL (s.lot ++ w.lot) with
  | some m => rfl
  | none =>
    cases hl : s.lot ++ w.lot with
    | nil =>
      have := s.ats_ne
      obtain ⟨n, r, e⟩ := List.exists_cons_of_ne_nil this
      have hm : n ∈ s.lot ++ w.lot := List.mem_append_left _ (Sh.lot_mem.2 (by rw [e]; exact .head _))
      rw [hl] at hm; cases hm
    | cons n r => rw [hl] at h; exact absurd h (maxL_ne n r)
theorem topA_ge {s w : Sh} {n : Int} (h : n ∈ s.ats ∨ n ∈ w.ats) : n ≤ topA s w :=
  (maxL_spec (topA_max s w)).2 n (List.mem_append.2 (h.imp Sh.lot_mem.2 Sh.lot_mem.2))
/-- fresh atoms in the places of those in h -/
def frR (c : Int) (h : List Int) : RowS := h.zipIdx.map fun p => (p.1, .t (c + (p.2 : Nat)))
def testS (c : Int) (h : List Int) (w : Sh) : Sh := w.fillS (lookS (frR c h))
theorem frR_keys (c : Int) (h : List Int) : (frR c h).map (·.1) = h := by
  unfold frR
  rw [List.map_map]
  exact List.zipIdx_map_fst 0 h
theorem look_frR {c : Int} {h : List Int} (hn : h.Nodup) {i : Nat} {n : Int} (e : h[i]? = some n) : lookS (frR c h) n = some (.t (c + i)) := by
  have hm : (n, Sh.t (c + i)) ∈ frR c h := List.mem_map.2 ⟨(n, i), by rw [List.mem_zipIdx_iff_getElem?]; exact e, rfl⟩
  exact lookS_of (p := (n, Sh.t (c + i))) (by rw [frR_keys]; exact hn) hm
theorem look_frR_none {c : Int} {h : List Int} {n : Int} (hn : n ∉ h) : lookS (frR c h) n = none := by
  cases e : lookS (frR c h) n with
  | none => rfl
  | some x =>
    have := List.mem_map_of_mem (f := (·.1)) (lookS_mem e)
    rw [frR_keys] at this
    exact absurd this hn
theorem test_inst {c : Int} {h : List Int} {w : Sh} : Inst h w (testS c h w) :=
  ⟨fun n => (lookS (frR c h) n).getD (.t n), fun n _ hn => by simp [look_frR_none hn], (Sh.fillS_sub _ _).symm⟩
/-- wider: the tested shape is an instance just if all instances are -/
theorem wider_all {c : Int} {g h : List Int} {s w : Sh} (hn : h.Nodup) (h1 : ∀ n, n ∈ s.ats → n < c) (h2 : ∀ n, n ∈ w.ats → n < c) : Inst g s (testS c h w) ↔ ∀ x, Inst h w x → Inst g s x := by
  constructor
  · rintro ⟨σ, s1, s2⟩ x ⟨τ, t1, rfl⟩
    let ρ : Int → Sh := fun m => if c ≤ m then (match h[(m - c).toNat]? with | some n => τ n | none => .t m) else .t m
    have hρ : ∀ m, m < c → ρ m = .t m := fun m hm => if_neg (by omega)
    refine ⟨fun n => (σ n).sub ρ, fun n hn hg => by show (σ n).sub ρ = .t n; rw [s1 n hn hg]; exact hρ n (h1 n hn), ?_⟩
    rw [← Sh.sub_sub, s2, testS, Sh.fillS_sub, Sh.sub_sub]
    refine Sh.sub_congr fun n hn' => ?_
    show ((lookS (frR c h) n).getD (.t n)).sub ρ = τ n
    by_cases hm : n ∈ h
    · obtain ⟨i, hi⟩ := List.getElem?_of_mem hm
      rw [look_frR hn hi]
      show ρ (c + i) = τ n
      show (if c ≤ c + (i : Int) then (match h[(c + (i : Int) - c).toNat]? with | some n => τ n | none => .t (c + i)) else .t (c + i)) = τ n
      rw [if_pos (by omega), show (c + (i : Int) - c).toNat = i from by omega, hi]
    · rw [look_frR_none hm]
      show ρ n = τ n
      rw [hρ n (h2 n hn'), t1 n hn' hm]
  · intro h
    exact h _ test_inst
end Pv
set_option Elab.async false
set_option linter.all false
set_option maxRecDepth 100000
set_option maxHeartbeats 1000000
/-! Lc0: comprehensions whose turns draw from the source (kept at 2). -/
namespace Pv
open PySem
/-- what is picked of a list: each thing gives one or (unless al) none -/
inductive Sel {α β : Type} (al : Bool) (P : α → β → Prop) : List α → List β → Prop where
  | nil : Sel al P [] []
  | skip {x xs ws} : al = false → Sel al P xs ws → Sel al P (x :: xs) ws
  | take {x b xs ws} : P x b → Sel al P xs ws → Sel al P (x :: xs) (b :: ws)
theorem Sel.sublist {α : Type} {al : Bool} {xs ws : List α} (h : Sel al (fun x b => b = x) xs ws) : ws.Sublist xs := by
  induction h with
  | nil => exact .refl _
  | skip _ _ ih => exact ih.cons _
  | take e _ ih => subst e; exact ih.cons₂ _
theorem srcOk_set2 {o : Mo} : ∀ {src : Src} {S : Store}, srcOk src S → (∀ p, p ∈ src → p.1 ≠ 2) → srcOk src (S.set 2 o)
  | [], _, _, _ => trivial
  | (i, u) :: r, S, h, hp => ⟨set_get2 h.1 (hp (i, u) (.head _)), srcOk_set2 h.2 fun p hq => hp p (.tail _ hq)⟩
theorem srcOk_app {J : Store} : ∀ {src : Src} {S : Store}, srcOk src S → srcOk src (S ++ J)
  | [], _, _ => trivial
  | (i, u) :: r, S, h => ⟨sto_old h.1, srcOk_app h.2⟩
theorem lcB {α β : Type} {al : Bool} {src : Src} (h2 : ∀ p, p ∈ src → p.1 ≠ 2) (P : α → β → Prop) (f : β → PV) (g : α → PV) {c : Int} (hc : 0 ≤ c) {turn : PV → Store → (Option PV → Store → Prop) → Prop} {d : Nat} {Q : PQ} : ∀ (items : List α) (us : List β) (S : Store) (C : Int), d = S.length → StB C S → srcOk src S → us.length + items.length ≤ 1000 →
    (∀ x, x ∈ items → ∀ S' K C', StB C' S' → srcOk src S' → C ≤ C' → C' ≤ C + c * items.length → (∀ (y : Option β) (o : Mo), (y = none → al = false) → (∀ b, y = some b → P x b) → StB (C' + c) (S'.set 2 o) → K (y.map f) (S'.set 2 o)) → turn (g x) S' K) →
    (∀ (ws : List β) (o : Mo), Sel al P items ws → StB (C + c * items.length) (S.set 2 o) → Q (.ref d) (S.set 2 o ++ [.lst ((us ++ ws).map f)])) →
    lcLoop src d turn Q (items.map g) (S ++ [.lst (us.map f)])
  | [], us, S, C, hd, hst, hr, hl, ht, q => by
    obtain ⟨o, ho⟩ := hst.self
    refine ⟨srcOk_app hr, ?_⟩
    have := q [] o .nil (by rw [ho]; simpa using hst)
    rw [ho] at this
    simpa using this
  | x :: xs, us, S, C, hd, hst, hr, hl, ht, q => by
    have hlen := hst.len
    have hm : c * ((x :: xs).length : Int) = c + c * (xs.length : Int) := by simp only [List.length_cons]; rw [Int.natCast_add, Int.mul_add]; omega
    have hnn : 0 ≤ c * (xs.length : Int) := Int.mul_nonneg hc (by omega)
    refine ⟨srcOk_app hr, ht x (.head _) _ _ C hst.more (srcOk_app hr) (Int.le_refl _) (by rw [hm]; omega) fun y o hy1 hy2 hst2 => ?_⟩
    rw [set_app2 hlen] at hst2 ⊢
    have hst3 := hst2.cut (by simpa using hlen)
    simp only [List.length_cons] at hl
    cases y with
    | some b =>
      refine ⟨us.map f, by rw [hd]; exact sto_at (by simp), by simp [sizeLine]; omega, ?_⟩
      rw [show ((S.set 2 o) ++ [Mo.lst (us.map f)]).set d (.lst (us.map f ++ [f b])) = S.set 2 o ++ [.lst ((us ++ [b]).map f)] by
        rw [hd, List.set_append_right _ _ (by simp)]; simp]
      refine lcB h2 P f g hc xs (us ++ [b]) (S.set 2 o) (C + c) (by simpa using hd) hst3 (srcOk_set2 hr h2) (by simp; omega) (fun y hy S' K C' h1 h1' h0 h2 h3 => ht y (.tail _ hy) S' K C' h1 h1' (by omega) (by rw [hm]; omega) h3) fun ws o2 hws hst4 => ?_
      rw [List.set_set] at hst4 ⊢
      have := q (b :: ws) o2 (.take (hy2 b rfl) hws) (by rw [hm]; exact hst4.mono (by omega))
      simpa using this
    | none =>
      refine lcB h2 P f g hc xs us (S.set 2 o) (C + c) (by simpa using hd) hst3 (srcOk_set2 hr h2) (by omega) (fun y hy S' K C' h1 h1' h0 h2 h3 => ht y (.tail _ hy) S' K C' h1 h1' (by omega) (by rw [hm]; omega) h3) fun ws o2 hws hst4 => ?_
      rw [List.set_set] at hst4 ⊢
      exact q ws o2 (.skip (hy1 rfl) hws) (by rw [hm]; exact hst4.mono (by omega))
end Pv
set_option Elab.async false
set_option linter.all false
set_option maxRecDepth 100000
set_option maxHeartbeats 1000000
/-! K78a: schemes: drawn, narrower. -/
namespace K78
open PySem Pv
@[simp] theorem st_0 : st 0 = tg 29 := rfl
@[simp] theorem st_1 : st 1 = tg 30 := rfl
@[simp] theorem st_2 : st 2 = tg 31 := rfl
@[simp] theorem st_3 : st 3 = tg 23 := rfl
local macro_rules | `(tactic| walk_at "pv") => `(tactic| simp [wpSs, wpS, wpE, wpT, wpEs, wpTs, wpO, wpI, wpG, startP, wipeP, L2.CMul, L2.CDiv, L2.CPow, tg_inj, sizeLine, eqB_tup, -List.getD_eq_getElem?_getD])
/-- a scheme: its general atoms, its shape -/
structure Scm where
  g : List Int
  s : Sh
def Scm.pv (c : Scm) : PV := .tup [.tup (c.g.map .int), c.s.pv]
structure Scm.Ok (m : Int) (c : Scm) : Prop where
  asc : c.g.Pairwise (· < ·)
  sub : ∀ n, n ∈ c.g → n ∈ c.s.ats
  sb : ShB m 5 c.s
variable {S : Store} {Q : PQ} {E : PX}
theorem Scm.Ok.cn {m : Int} {c : Scm} (h : c.Ok m) (hm : m ≤ 48) : c.s.cn ≤ 48 := by have := h.sb.cn; omega
theorem Scm.Ok.gl {m : Int} {c : Scm} (h : c.Ok m) : c.g.length ≤ c.s.cn := by
  have : c.g.Sublist c.s.lot := by
    have h1 : c.g = c.s.lot.filter fun n => decide (n ∈ c.g) := by
      refine lt_uniq h.asc ((sortU_sorted _).filter _) fun k => ?_
      rw [List.mem_filter, Sh.lot_mem]
      constructor
      · intro hk; exact ⟨h.sub k hk, by simpa using hk⟩
      · rintro ⟨_, h⟩; simpa using h
    rw [h1]; exact List.filter_sublist
  have := this.length_le
  have := c.s.lot_len
  omega
/-- the general atoms drawn -/
theorem pick_ok {k r : Nat} {C : Int} {s : Sh} {D : Nat} {K : PQ} (hC : C < 2 ^ 50) (hs : s.cn ≤ 63) (hd : D = S.length) (hst : StB C S) (hr : S[r]? = some (.lst (s.lot.map .int))) (h2 : r ≠ 2)
    (q : ∀ (g : List Int) (o : Mo), g.Pairwise (· < ·) → (∀ n, n ∈ g → n ∈ s.ats) → StB (C + 63) (S.set 2 o) → K (.ref D) (S.set 2 o ++ [.lst (g.map .int)])) :
    lcLoop [(r, .lst (s.lot.map .int))] D (fun x S2 K => runF tab fns (k + 1) (Fi.f 21) [.ref 2, .int 3] S2 (fun v S1 => intQ (fun x x_1 => True) (fun i j => .bl (decide (j < i))) v (.int 0) S1 fun r S3 => r = .bl false ∧ K none S3 ∨ r = .bl true ∧ K (some x) S3) fun x S' => False) K (s.lot.map .int) (S ++ [.lst []]) := by
  have hl := s.lot_len
  refine lcB (al := false) (fun p hp => by simp at hp; subst hp; exact h2) (fun x b => b = x) PV.int PV.int (c := 1) (by omega) s.lot [] S C hd hst ⟨hr, trivial⟩ (by simp; omega) (fun x hx S' K C' h1 h1' h0 h2 hK => ?_) (fun ws o hws hst2 => ?_)
  · refine draw_ok (by omega) (by omega) (by omega) h1 (fun r o r0 r1 h3 => ?_)
    simp only [intQ_ii, true_and]
    by_cases h : 0 < r
    · exact .inr ⟨by simp [h], hK (some x) o (fun h => by cases h) (fun b hb => by cases hb; rfl) h3⟩
    · exact .inl ⟨by simp [h], hK none o (fun _ => rfl) (fun b hb => by cases hb) h3⟩
  · have hsub := hws.sublist
    have := q ws o ((sortU_sorted s.ats).sublist hsub) (fun n hn => Sh.lot_mem.1 (hsub.subset hn)) (hst2.mono (by omega))
    simpa using this
theorem lshape_ok {k : Nat} {room at_ C : Int} (h1 : 1 ≤ room) (h2 : room ≤ 6) (ha : 0 < at_) (ha5 : at_ ≤ 5) (hk : 10 ≤ k) (hC : C < 2 ^ 30) (hst : StB C S) (q : ∀ s o, ShB room at_ s → StB (C + 24) (S.set 2 o) → Q s.pv (S.set 2 o)) : runF tab fns k 23 [.ref 2, .int room, .int at_] S Q E :=
  lAnyShape_ok ha (by omega) rfl rfl 6 h1 (by omega) (by omega) (by omega) (by omega) hst fun s o hs h => q s o hs (h.mono (by omega))
/-- _law_scheme -/
theorem scheme_ok {k : Nat} {C : Int} (hk : 20 ≤ k) (hC : C < 2 ^ 30) (hst : StB C S) (q : ∀ (c : Scm) o, c.Ok 6 → StB (C + 100) (S.set 2 o) → Q c.pv (S.set 2 o)) : runF tab fns k 27 [.ref 2] S Q E := by
  obtain ⟨k, rfl⟩ : ∃ j, k = j + 1 := ⟨k - 1, by omega⟩
  refine run_in (d := f27) rfl rfl fun wf un => ?_
  simp only [f27]
  walk_at "pv"
  refine lshape_ok (by omega) (by omega) (by omega) (by omega) (by omega) hC hst fun s o hs h1 => ?_
  have hcn := hs.cn
  refine lAtoms_ok (i := 25) rfl (s := s) (k := k) (by have := s.dep_cn; omega) (by omega) fun J => ?_
  have hl : 4 < S.length := hst.len
  have h3 : StB (C + 24) (S.set 2 o ++ (J ++ [.lst (s.lot.map .int)])) := h1.more
  obtain ⟨k, rfl⟩ : ∃ j, k = j + 1 := ⟨k - 1, by omega⟩
  have hp := pick_ok (k := k) (r := S.length + J.length) (D := S.length + (J.length + 1)) (s := s) (S := S.set 2 o ++ (J ++ [.lst (s.lot.map .int)]))
    (K := fun v S1 => seqQ v S1 fun xs => Gc S.length (.tup [.tup xs, s.pv]) S1 Q) (by omega) (by omega) (by simp) h3 (by rw [← List.append_assoc]; exact sto_at (by simp)) (by omega) fun g o2 ha hb h4 => ?_
  · walk_at "pv"
    simpa using hp
  · refine ⟨_, sto_at (by simp), rfl, ?_⟩
    rw [set_app2 (by simpa using hl), List.set_set] at h4 ⊢
    have h5 := h4.cut (by simpa using hl)
    rw [List.append_assoc]
    refine Gc.junk2 wf h5 ?_ (q ⟨g, s⟩ o2 ⟨ha, hb, ⟨hcn, hs.lo, fun n hn => by have := hs.hi n hn; omega⟩⟩ (h5.mono (by omega)))
    have := under_ints S.length g
    simp [PV.under, PV.underL, s.gd.under S.length] at this ⊢
    simpa [Mo.items] using this
theorem sel_rows {xs : List Int} {ws : RowS} (h : Sel true (fun x b => b.1 = x ∧ ShB 2 5 b.2) xs ws) : ws.map (·.1) = xs ∧ ∀ b, b ∈ ws → ShB 2 5 b.2 := by
  induction h with
  | nil => exact ⟨rfl, fun b hb => by cases hb⟩
  | skip e => cases e
  | take e _ ih =>
    obtain ⟨e1, e2⟩ := e
    refine ⟨by rw [List.map_cons, ih.1, e1], fun b hb => ?_⟩
    rcases List.mem_cons.1 hb with rfl | hb
    · exact e2
    · exact ih.2 b hb
theorem inst_rows {m : Int} {c : Scm} {rs : RowS} (hc : c.Ok m) (h1 : rs.map (·.1) = c.g) (h2 : ∀ b, b ∈ rs → ShB 2 5 b.2) : Inst c.g c.s (c.s.fillS (lookS rs)) ∧ ShB (2 * m) 5 (c.s.fillS (lookS rs)) := by
  have hn : ∀ n, n ∉ c.g → lookS rs n = none := fun n hn => by
    cases e : lookS rs n with
    | none => rfl
    | some x => have := List.mem_map_of_mem (f := (·.1)) (lookS_mem e); rw [h1] at this; exact absurd this hn
  have hs : ∀ n, n ∈ c.s.ats → ShB 2 5 ((lookS rs n).getD (.t n)) := fun n hn => by
    cases e : lookS rs n with
    | none => exact ⟨by simp [Sh.cn], by simp [Sh.ats]; exact hc.sb.lo n hn, by simp [Sh.ats]; exact hc.sb.hi n hn⟩
    | some x => exact h2 _ (lookS_mem e)
  rw [Sh.fillS_sub]
  refine ⟨⟨_, fun n _ hg => by simp [hn n hg], rfl⟩, ⟨?_, fun n hn => ?_, fun n hn => ?_⟩⟩
  · have := Sh.sub_cn (σ := fun n => (lookS rs n).getD (.t n)) (m := 2) (s := c.s) fun n hn => by have := (hs n hn).cn; omega
    have := hc.sb.cn
    omega
  · obtain ⟨k, hk, hk2⟩ := Sh.sub_ats.1 hn
    exact (hs k hk).lo n hk2
  · obtain ⟨k, hk, hk2⟩ := Sh.sub_ats.1 hn
    exact (hs k hk).hi n hk2
/-- _law_instance -/
theorem instance_ok {k : Nat} {m C : Int} {c : Scm} (hc : c.Ok m) (hm : m ≤ 24) (hk : 60 ≤ k) (hC : C < 2 ^ 29) (hst : StB C S) (q : ∀ (x : Sh) o, Inst c.g c.s x → ShB (2 * m) 5 x → StB (C + 1000) (S.set 2 o) → Q x.pv (S.set 2 o)) : runF tab fns k 28 [.ref 2, c.pv, .int 5] S Q E := by
  obtain ⟨k, rfl⟩ : ∃ j, k = j + 1 := ⟨k - 1, by omega⟩
  have hgl := hc.gl
  have hcn := hc.sb.cn
  refine run_in (d := f28) rfl rfl fun wf un => ?_
  simp only [f28, Scm.pv]
  walk_at "pv"
  refine lcB (al := true) (src := []) (fun p hp => by cases hp) (fun x (b : Int × Sh) => b.1 = x ∧ ShB 2 5 b.2) rowS PV.int (c := 24) (by omega) c.g [] S C rfl hst trivial (by simp; omega) (fun x hx S' K C' h1 h1' h0 h2 hK => ?_) (fun ws o hws hst2 => ?_)
  · refine lshape_ok (by omega) (by omega) (by omega) (by omega) (by omega) (by omega) h1 fun s o hs h3 => ?_
    exact hK (some (x, s)) o (fun h => by cases h) (fun b hb => by cases hb; exact ⟨rfl, hs⟩) h3
  · obtain ⟨e1, e2⟩ := sel_rows hws
    obtain ⟨i1, i2⟩ := inst_rows hc e1 e2
    refine lFill_ok (i := 24) (r := S.length) (rs := ws) (sto_at (by simp)) rfl (s := c.s) (k := k) (by have := c.s.dep_cn; omega) ?_
    exact Gc.junk2 wf hst2 ((Sh.gd _).under _) (q _ o i1 i2 (hst2.mono (by omega)))
/-- _law_narrow -/
theorem narrow_ok {k : Nat} {m C : Int} {c : Scm} (hc : c.Ok m) (hm : m ≤ 24) (hk : 70 ≤ k) (hC : C < 2 ^ 29) (hst : StB C S) (q : ∀ (c : Scm) o, c.Ok (2 * m) → StB (C + 1100) (S.set 2 o) → Q c.pv (S.set 2 o)) : runF tab fns k 29 [.ref 2, c.pv] S Q E := by
  obtain ⟨k, rfl⟩ : ∃ j, k = j + 1 := ⟨k - 1, by omega⟩
  refine run_in (d := f29) rfl rfl fun wf un => ?_
  simp only [f29]
  walk_at "pv"
  refine instance_ok hc hm (by omega) hC hst fun s o _ hs h1 => ?_
  have hcn := hs.cn
  refine lAtoms_ok (i := 25) rfl (s := s) (k := k) (by have := s.dep_cn; omega) (by omega) fun J => ?_
  have hl : 4 < S.length := hst.len
  have h3 : StB (C + 1000) (S.set 2 o ++ (J ++ [.lst (s.lot.map .int)])) := h1.more
  obtain ⟨k, rfl⟩ : ∃ j, k = j + 1 := ⟨k - 1, by omega⟩
  have hp := pick_ok (k := k) (r := S.length + J.length) (D := S.length + (J.length + 1)) (s := s) (S := S.set 2 o ++ (J ++ [.lst (s.lot.map .int)]))
    (K := fun v S1 => seqQ v S1 fun xs => Gc S.length (.tup [.tup xs, s.pv]) S1 Q) (by omega) (by omega) (by simp) h3 (by rw [← List.append_assoc]; exact sto_at (by simp)) (by omega) fun g o2 ha hb h4 => ?_
  · walk_at "pv"
    simpa using hp
  · refine ⟨_, sto_at (by simp), rfl, ?_⟩
    rw [set_app2 (by simpa using hl), List.set_set] at h4 ⊢
    have h5 := h4.cut (by simpa using hl)
    rw [List.append_assoc]
    refine Gc.junk2 wf h5 ?_ (q ⟨g, s⟩ o2 ⟨ha, hb, hs⟩ (h5.mono (by omega)))
    have := under_ints S.length g
    simp [PV.under, PV.underL, s.gd.under S.length] at this ⊢
    simpa [Mo.items] using this
theorem maxL_of {l : List Int} {m : Int} (h1 : m ∈ l) (h2 : ∀ y, y ∈ l → y ≤ m) : maxL l = some m := by
  cases e : maxL l with
  | none =>
    cases l with
    | nil => cases h1
    | cons n l => exact absurd e (maxL_ne n l)
  | some m' =>
    obtain ⟨a, b⟩ := maxL_spec e
    have := b m h1
    have := h2 m' a
    rw [show m' = m by omega]
/-- next_atom -/
theorem next_ok {k : Nat} {s w : Sh} (h1 : s.cn ≤ 60) (h2 : w.cn ≤ 60) (q : Q (.int (topA s w + 1)) S) : runF tab fns (k + 3) 9 [.tup [s.pv, w.pv]] S Q E := by
  refine run_in (d := f9) rfl rfl fun wf un => ?_
  simp only [f9]
  walk_at "pv"
  have l1 := addKs_len s.ats []
  have l2 := addKs_len w.ats (s.ats.foldl addK [])
  rw [s.ats_len] at l1
  rw [w.ats_len] at l2
  simp only [List.length_nil] at l1
  refine ⟨trivial, ?_⟩
  walk_at "pv"
  refine note_ok (ks := []) (k := k + 1) (by omega) (by simp) (by simp) ?_
  rw [sto_set0]
  simp only [List.set_cons_zero]
  refine ⟨trivial, ?_⟩
  walk_at "pv"
  refine note_ok (ks := s.ats.foldl addK []) (k := k + 1) (by omega) (by omega) (by simp) ?_
  rw [sto_set0]
  simp only [List.set_cons_zero]
  refine ⟨trivial, ?_⟩
  walk_at "pv"
  intro a b
  refine ⟨_, _, _, ⟨rfl, rfl, rfl⟩, ?_⟩
  have hmem : ∀ n, n ∈ w.ats.foldl addK (s.ats.foldl addK []) ↔ n ∈ s.ats ∨ n ∈ w.ats := fun n => by rw [addKs_mem, addKs_mem]; simp
  generalize hK : w.ats.foldl addK (s.ats.foldl addK []) = ks at hmem l2 ⊢
  have hat : ∀ o : Mo, (S ++ [Mo.dctF (ks.map keyT) (a, b), o])[S.length]? = some (.dctF (ks.map keyT) (a, b)) := fun o => sto_at rfl
  refine lc_all (S0 := S ++ [Mo.dctF (ks.map keyT) (a, b)]) (g := PV.int) (f := fun n => .int (n + 1)) (ps := ks) (by simp) (by simp only [dIts]; exact keysP_keyT ks) (by simp) (fun acc => ⟨by simpa using hat (.lst acc), trivial⟩) (by omega) (fun n hn acc K hK => ?_) ?_
  · simpa using hK
  · have e1 : (S ++ [Mo.dctF (ks.map keyT) (a, b)] ++ [Mo.lst (ks.map fun n => PV.int (n + 1))]) = S ++ [Mo.dctF (ks.map keyT) (a, b), .lst ((ks.map (· + 1)).map .int)] := by
      rw [List.map_map, List.append_assoc]; rfl
    rw [e1]
    refine ⟨hat _, _, rfl, ?_⟩
    rw [sto_set0]
    simp only [List.set_cons_zero]
    refine ⟨.lst ((ks.map (· + 1)).map .int), by rw [sto_get]; rfl, rfl, ks.map (· + 1), intsP_map _, ?_⟩
    have hm := maxL_spec (topA_max s w)
    have hml : maxL (ks.map (· + 1)) = some (topA s w + 1) := by
      refine maxL_of (List.mem_map.2 ⟨topA s w, (hmem _).2 ?_, rfl⟩) fun y hy => ?_
      · exact (List.mem_append.1 hm.1).imp Sh.lot_mem.1 Sh.lot_mem.1
      · obtain ⟨n, hn, rfl⟩ := List.mem_map.1 hy
        have := topA_ge ((hmem n).1 hn)
        show n + 1 ≤ _
        omega
    rw [hml]
    exact Gc.junk wf rfl q
/-- _law_due -/
def dueV (c d : Scm) : PV := if (matchS c.g c.s (testS (topA c.s d.s + 1) d.g d.s) []).1 = true then .tup [.str (tg 23), .tup ((sortRS (matchS c.g c.s (testS (topA c.s d.s + 1) d.g d.s) []).2).map rowS)] else .tup [.str (tg 31), (testS (topA c.s d.s + 1) d.g d.s).pv]
theorem testS_dep (c : Int) (h : List Int) (w : Sh) : (testS c h w).dep = w.dep := by
  have : ∀ n, ((lookS (frR c h) n).getD (.t n)).dep = 1 := fun n => by
    cases e : lookS (frR c h) n with
    | none => rfl
    | some x =>
      obtain ⟨p, _, hp⟩ := List.mem_map.1 (lookS_mem e)
      cases hp
      rfl
  unfold testS
  rw [Sh.fillS_sub]
  induction w with
  | t n => exact this n
  | to a b h1 h2 => simp only [Sh.sub, Sh.dep, h1, h2]
theorem testS_cn (c : Int) (h : List Int) (w : Sh) : (testS c h w).cn = w.cn := by
  have : ∀ n, ((lookS (frR c h) n).getD (.t n)).cn = 1 := fun n => by
    cases e : lookS (frR c h) n with
    | none => rfl
    | some x =>
      obtain ⟨p, _, hp⟩ := List.mem_map.1 (lookS_mem e)
      cases hp
      rfl
  unfold testS
  rw [Sh.fillS_sub]
  induction w with
  | t n => exact this n
  | to a b h1 h2 => simp only [Sh.sub, Sh.cn, h1, h2]
theorem enum_zip (g : List Int) : enumL 0 (g.map .int) = g.zipIdx.map fun p : Int × Nat => .tup [.int (p.2 : Nat), .int p.1] := by
  have : ∀ (g : List Int) (n : Nat), enumL n (g.map .int) = (g.zipIdx n).map fun p : Int × Nat => .tup [.int (p.2 : Nat), .int p.1] := by
    intro g
    induction g with
    | nil => intro n; rfl
    | cons a g ih => intro n; simp only [List.map_cons, enumL, List.zipIdx_cons]; exact congrArg _ (ih (n + 1))
  exact this g 0
theorem due_ok {k : Nat} {c d : Scm} (hc : c.Ok 24) (hd : d.Ok 24) (hk : 70 ≤ k) (q : ∀ J, Q (dueV c d) (S ++ J)) : runF tab fns k 30 [c.pv, d.pv] S Q E := by
  obtain ⟨k, rfl⟩ : ∃ j, k = j + 1 := ⟨k - 1, by omega⟩
  have c1 := hc.sb.cn
  have c2 := hd.sb.cn
  have z1 := c.s.dep_cn
  have z2 := d.s.dep_cn
  have l1 := c.s.lot_len
  have l2 := d.s.lot_len
  refine run_in (d := f30) rfl rfl fun wf un => ?_
  simp only [f30, Scm.pv]
  walk_at "pv"
  refine lAtoms_ok (i := 25) rfl (s := c.s) (k := k) (by omega) (by omega) fun J1 => ?_
  refine lAtoms_ok (i := 25) rfl (s := d.s) (k := k) (by omega) (by omega) fun J2 => ?_
  simp only [addQ_rr]
  refine ⟨_, _, by rw [← List.append_assoc S]; exact sto_old (sto_at (by simp)), by rw [← List.append_assoc (S ++ _)]; exact sto_at (by simp; omega), by simp [sizeLine]; omega, ?_⟩
  generalize hS2 : S ++ (J1 ++ [Mo.lst (c.s.lot.map .int)]) ++ (J2 ++ [Mo.lst (d.s.lot.map .int)]) = S2
  rw [← List.map_append]
  simp only [biQ_max1]
  refine ⟨_, sto_at rfl, rfl, _, _, intsP_map _, topA_max c.s d.s, ?_⟩
  simp only [addQ_ii]
  walk_at "pv"
  rw [Int.add_comm 1 (topA c.s d.s)]
  have hdl := hd.gl
  refine lc_all (S0 := S2 ++ [Mo.lst (c.s.lot.map .int ++ d.s.lot.map .int)]) (g := fun p : Int × Nat => .tup [.int (p.2 : Nat), .int p.1]) (f := fun p => rowS (p.1, .t (topA c.s d.s + 1 + (p.2 : Nat)))) (ps := d.g.zipIdx) (by simp) (enum_zip d.g) (by simp) (fun acc => trivial) (by simp; omega) (fun p hp acc K hK => ?_) ?_
  · walk_at "pv"
    simpa [rowS, Sh.pv] using hK
  · generalize hS3 : S2 ++ [Mo.lst (c.s.lot.map .int ++ d.s.lot.map .int)] = S3
    have e1 : (d.g.zipIdx.map fun p => rowS (p.1, .t (topA c.s d.s + 1 + (p.2 : Nat)))) = (frR (topA c.s d.s + 1) d.g).map rowS := by unfold frR; rw [List.map_map]; rfl
    rw [e1]
    refine lFill_ok (i := 24) (rs := frR (topA c.s d.s + 1) d.g) (by rw [← hS3]; exact sto_at (by simp)) rfl (s := d.s) (k := k) (by omega) ?_
    have hq : ∀ J, Q (dueV c d) (S3 ++ J) := fun J => by
      have := q (J1 ++ [Mo.lst (c.s.lot.map .int)] ++ (J2 ++ [Mo.lst (d.s.lot.map .int)]) ++ [Mo.lst (c.s.lot.map .int ++ d.s.lot.map .int)] ++ J)
      rw [← hS3, ← hS2]
      simpa using this
    have e2 : (frR (topA c.s d.s + 1) d.g) = frR (topA c.s d.s + 1) d.g := rfl
    rw [show d.s.fillS (lookS (frR (topA c.s d.s + 1) d.g)) = testS (topA c.s d.s + 1) d.g d.s from rfl]
    have td := testS_dep (topA c.s d.s + 1) d.g d.s
    unfold dueV at hq
    generalize testS (topA c.s d.s + 1) d.g d.s = u at td hq ⊢
    generalize hS4 : S3 ++ [Mo.lst ((frR (topA c.s d.s + 1) d.g).map rowS)] = S4
    refine lMatch_ok (i := 26) (r := S4.length) rfl (s := c.s) (o := u) (tb := []) (k := k) (by omega) (by omega) (by simp; omega) (fun p hp => by cases hp) (sto_at rfl) ?_
    rw [sto_set0]
    simp only [List.set_cons_zero, truQ_b]
    have hq2 : ∀ J, Q _ (S4 ++ J) := fun J => by
      have := hq ([Mo.lst ((frR (topA c.s d.s + 1) d.g).map rowS)] ++ J)
      rw [← List.append_assoc, hS4] at this
      exact this
    by_cases hm : (matchS c.g c.s u []).1 = true
    · rw [if_pos hm]
      simp only [if_pos hm] at hq2
      refine .inr (.inr ⟨(matchS c.g c.s u []).2.map fun r => (r.1, r.2.pv), ?_, ?_, ?_⟩)
      · rw [List.map_map]; exact sto_at rfl
      · rw [List.map_map]; exact (matchS_true hm .nil).2.2.1
      · rw [sortRS_pv, List.append_assoc]
        exact .inl (hq2 _)
    · rw [if_neg hm]
      simp only [if_neg hm] at hq2
      exact .inl (hq2 _)
end K78
set_option Elab.async false
set_option linter.all false
set_option maxRecDepth 100000
set_option maxHeartbeats 1000000
/-! K78b: the program's functions of schemes. -/
namespace K78
open PySem Pv
local macro_rules | `(tactic| walk_at "pv") => `(tactic| simp [wpSs, wpS, wpE, wpT, wpEs, wpTs, wpO, wpI, wpG, startP, wipeP, L2.CMul, L2.CDiv, L2.CPow, tg_inj, sizeLine, eqB_tup, -List.getD_eq_getElem?_getD])
variable {S : Store} {Q : PQ} {E : PX}
theorem row_ok {k : Nat} {xs : List PV} {n : Int} (q : Q (.bl (decide ((xs.length : Int) = n))) S) : runF tab fns (k + 1) 2 [.tup xs, .int n] S Q E := by
  refine run_in (d := f2) rfl rfl fun wf un => ?_
  simp only [f2]
  walk_at "pv"
  exact .inl q
theorem allBl_t {α : Type} : ∀ l : List α, allBl (l.map fun _ => .bl true) = some true
  | [] => rfl
  | x :: l => by simp [allBl, allBl_t l]
theorem atomLot_ok {k : Nat} {ns : List Int} (h0 : ∀ n, n ∈ ns → 0 ≤ n) (hl : ns.length ≤ 1000) (q : Q (.bl (decide (ns.Pairwise (· < ·)))) S) : runF tab fns (k + 3) 14 [.tup (ns.map .int)] S Q E := by
  refine run_in (d := f14) rfl rfl fun wf un => ?_
  simp only [f14]
  walk_at "pv"
  refine lc_all (g := PV.int) (f := fun _ => .bl true) (ps := ns) rfl rfl rfl (fun acc => trivial) (by omega) (fun n hn acc K hK => ?_) ?_
  · refine isnat_ok (i := 0) (h0 n hn) hK
  · walk_at "pv"
    refine .inr ⟨allBl_t _, ?_⟩
    refine ascI_ok (i := 3) (by omega) ?_
    exact Gc.junk wf rfl q
theorem isScheme_ok {k : Nat} {ns : List Int} {s : Sh} (h0 : ∀ n, n ∈ ns → 0 ≤ n) (hl : ns.length ≤ 1000) (hs : s.ok) (hc : s.cn ≤ 60) (q : Q (.bl (decide (ns.Pairwise (· < ·) ∧ ∀ n, n ∈ ns → n ∈ s.ats))) S) : runF tab fns (k + 4) 15 [.tup [.tup (ns.map .int), s.pv]] S Q E := by
  refine run_in (d := f15) rfl rfl fun wf un => ?_
  simp only [f15]
  walk_at "pv"
  refine row_ok ?_
  walk_at "pv"
  refine atomLot_ok (k := k) h0 hl ?_
  walk_at "pv"
  by_cases ha : ns.Pairwise (· < ·)
  · rw [if_pos ha]
    refine isShape_ok (i := 10) (n := 1) (i0 := 0) hs (by omega) ?_
    simp only [truQ_b, if_true]
    refine lot_ok (i := 5) (n := 4) (by omega) ?_
    refine lc_all (g := PV.int) (f := fun n => .bl (decide (n ∈ s.lot))) (ps := ns) rfl rfl rfl (fun acc => trivial) (by omega) (fun n hn acc K hK => ?_) ?_
    · rw [inQ_t]
      exact in_ints hK
    · simp only [biQ_all]
      refine ⟨_, sto_at rfl, rfl, _, allBl_map _ _, ?_⟩
      refine Gc.junk wf rfl ?_
      have e : (ns.all fun n => decide (n ∈ s.lot)) = decide (ns.Pairwise (· < ·) ∧ ∀ n, n ∈ ns → n ∈ s.ats) := by
        rw [Bool.eq_iff_iff]
        simp only [List.all_eq_true, decide_eq_true_eq, Sh.lot_mem]
        exact ⟨fun h => ⟨ha, h⟩, fun h => h.2⟩
      rw [e]
      exact q
  · rw [if_neg ha]
    have e : decide (ns.Pairwise (· < ·) ∧ ∀ n, n ∈ ns → n ∈ s.ats) = false := decide_eq_false fun h => ha h.1
    rw [e] at q
    exact .inl q
theorem isScheme_row {k : Nat} {ns : List Int} (q : Q (.bl false) S) : runF tab fns (k + 4) 15 [.tup (ns.map .int)] S Q E := by
  refine run_in (d := f15) rfl rfl fun wf un => ?_
  simp only [f15]
  walk_at "pv"
  refine row_ok ?_
  simp only [truQ_b, List.length_map]
  by_cases h2 : ns.length = 2
  · obtain ⟨a, b, rfl⟩ : ∃ a b, ns = [a, b] := by
      match ns, h2 with
      | [a, b], _ => exact ⟨a, b, rfl⟩
    walk_at "pv"
    refine run_in (d := f14) rfl rfl fun wf un => ?_
    simp only [f14]
    walk_at "pv"
    exact .inl (.inl q)
  · have e : ¬ ((ns.length : Nat) : Int) = 2 := by omega
    rw [decide_eq_false e]
    simp only [Bool.false_eq_true, if_false]
    exact .inl q
theorem isScheme_none {k : Nat} (q : Q (.bl false) S) : runF tab fns (k + 4) 15 [.non] S Q E := by
  refine run_in (d := f15) rfl rfl fun wf un => ?_
  simp only [f15]
  walk_at "pv"
  refine run_in (d := f2) rfl rfl fun wf un => ?_
  simp only [f2]
  walk_at "pv"
  exact .inl (.inl q)
theorem isScheme_lst {k r : Nat} {xs : List PV} (hr : S[r]? = some (.lst xs)) (q : Q (.bl false) S) : runF tab fns (k + 4) 15 [.ref r] S Q E := by
  refine run_in (d := f15) rfl rfl fun wf un => ?_
  simp only [f15]
  walk_at "pv"
  refine run_in (d := f2) rfl rfl fun wf un => ?_
  simp only [f2]
  walk_at "pv"
  refine ⟨_, hr, rfl, ?_⟩
  exact .inl (.inl q)
theorem checkScheme_ok {k : Nat} {m : Int} {c : Scm} (hc : c.Ok m) (hm : m ≤ 48) (q : Q .non S) : runF tab fns (k + 5) 16 [c.pv] S Q E := by
  refine run_in (d := f16) rfl rfl fun wf un => ?_
  simp only [f16, Scm.pv]
  walk_at "pv"
  have := hc.cn hm
  have := hc.gl
  refine isScheme_ok (k := k) (fun n hn => hc.sb.lo n (hc.sub n hn)) (by omega) hc.sb.lo (by omega) ?_
  rw [decide_eq_true ⟨hc.asc, hc.sub⟩]
  walk_at "pv"
  exact .inl q
/-- scheme_of -/
theorem schemeOf_ok {k : Nat} {m : Int} {c : Scm} (hc : c.Ok m) (hm : m ≤ 48) (q : Q c.pv S) : runF tab fns (k + 8) 17 [.tup ((heldL c.g c.s ++ [90]).map .int), c.s.pv] S Q E := by
  have := hc.cn hm
  have hl := c.s.lot_len
  have hhl : (heldL c.g c.s).length ≤ c.s.lot.length := List.length_filter_le _ _
  have hasc : (heldL c.g c.s ++ [90]).Pairwise (· < ·) := by
    rw [List.pairwise_append]
    refine ⟨(sortU_sorted _).filter _, by simp, fun a ha b hb => ?_⟩
    simp at hb; subst hb
    have := hc.sb.hi a (heldL_mem.1 ha).1
    omega
  refine run_in (d := f17) rfl rfl fun wf un => ?_
  simp only [f17]
  walk_at "pv"
  rw [show (heldL c.g c.s).map PV.int ++ [PV.int 90] = (heldL c.g c.s ++ [90]).map .int by simp]
  refine atomLot_ok (k := k + 4) (fun n hn => ?_) (by simp; omega) ?_
  · rcases List.mem_append.1 hn with h | h
    · exact hc.sb.lo n (heldL_mem.1 h).1
    · simp at h; omega
  rw [decide_eq_true hasc]
  simp only [truQ_b, if_true]
  refine checkShape_ok (i := 10) (n := 1) (i0 := 0) (c := 11) (x := 1) (k := k + 3) hc.sb.lo (by omega) ?_
  refine lot_ok (i := 5) (n := 4) (by omega) ?_
  refine lc_filt (g := PV.int) (f := fun n => if (!decide (n ∈ heldL c.g c.s ++ [90])) = true then some (PV.int n) else none) (ps := c.s.lot) rfl rfl rfl (fun acc => trivial) (by omega) (fun n hn acc K hK => ?_) ?_
  · refine in_ints ?_
    by_cases h : n ∈ heldL c.g c.s ++ [90]
    · exact .inl ⟨by simp only [h, decide_true], by simpa [h] using hK⟩
    · exact .inr ⟨by simp only [h, decide_false], by simpa [h] using hK⟩
  · rw [filtMap_ints]
    refine ⟨_, sto_at rfl, rfl, ?_⟩
    have e : (c.s.lot.filter fun n => !decide (n ∈ heldL c.g c.s ++ [90])) = c.g := by
      refine lt_uniq ((sortU_sorted _).filter _) hc.asc fun k => ?_
      rw [List.mem_filter, Sh.lot_mem]
      simp only [List.mem_append, heldL_mem, List.mem_cons, List.not_mem_nil, or_false, Bool.not_eq_true', decide_eq_false_iff_not]
      constructor
      · rintro ⟨h1, h2⟩
        by_cases hg : k ∈ c.g
        · exact hg
        · exact absurd (.inl ⟨h1, hg⟩) h2
      · intro hg
        refine ⟨hc.sub k hg, ?_⟩
        rintro (⟨_, h⟩ | h)
        · exact h hg
        · have := hc.sb.hi k (hc.sub k hg); omega
    simp only [Mo.items]
    rw [e]
    refine Gc.junk wf ?_ q
    have := under_ints S.length c.g
    simp only [PV.under, PV.underL, c.s.gd.under S.length, Bool.and_true] at this ⊢
    exact this
/-- is_instance -/
theorem isInst_ok {k : Nat} {m : Int} {c : Scm} {x : Sh} (hc : c.Ok m) (hm : m ≤ 48) (hx : ShB 60 1000 x) (q : ∀ J, Q (.bl (instR c.g c.s x).isSome) (S ++ J)) : runF tab fns (k + 8) 18 [c.pv, x.pv] S Q E := by
  have := hc.cn hm
  have := hc.gl
  have := hx.cn
  have := x.dep_cn
  refine run_in (d := f18) rfl rfl fun wf un => ?_
  simp only [f18]
  walk_at "pv"
  refine checkScheme_ok (k := k + 2) hc hm ?_
  refine checkShape_ok (i := 10) (n := 1) (i0 := 0) (c := 11) (x := 1) (k := k + 3) hx.lo (by omega) ?_
  refine inst_ok (i := 13) (c := 7) (h := 12) (a := 5) (n := 4) (k := k + 3) (by omega) (by omega) hc.sub (hc.asc.imp Int.ne_of_lt) (by omega) (fun e J => ?_) (fun tb J e => ?_)
  · rw [e] at q
    simp only [isQ_nn]
    exact .inl (q J)
  · rw [e] at q
    simp only [isQ_rn]
    exact .inl (q _)
theorem inst_isSome {g : List Int} {s o : Sh} : (instR g s o).isSome = (matchS g s o []).1 := by
  rw [Bool.eq_iff_iff, match_inst]
  cases e : instR g s o with
  | none => simp [instR_none e]
  | some tb =>
    obtain ⟨σ, h1, h2, _⟩ := instR_some e
    simp only [Option.isSome_some, true_iff]
    exact ⟨σ, h1, h2⟩
/-- is_wider -/
theorem isWider_ok {k : Nat} {c d : Scm} (hc : c.Ok 24) (hd : d.Ok 24) (hk : 70 ≤ k) (q : ∀ J, Q (dueV c d) (S ++ J)) : runF tab fns k 19 [c.pv, d.pv] S Q E := by
  obtain ⟨k, rfl⟩ : ∃ j, k = j + 10 := ⟨k - 10, by omega⟩
  have c1 := hc.sb.cn
  have c2 := hd.sb.cn
  have z2 := d.s.dep_cn
  have gl := hc.gl
  have gl2 := hd.gl
  refine run_in (d := f19) rfl rfl fun wf un => ?_
  simp only [f19]
  walk_at "pv"
  refine checkScheme_ok (k := k + 4) hc (by omega) ?_
  refine checkScheme_ok (k := k + 4) hd (by omega) ?_
  simp only [Scm.pv]
  walk_at "pv"
  refine next_ok (k := k + 6) (by omega) (by omega) ?_
  refine dc_rowS (S0 := S) (g := fun p : Int × Nat => .tup [.int (p.2 : Nat), .int p.1]) (f := fun p => (p.1, .t (topA c.s d.s + 1 + (p.2 : Nat)))) (ps := d.g.zipIdx) rfl (enum_zip d.g) rfl (fun acc => trivial) (by simp; omega) (by have := frR_keys (topA c.s d.s + 1) d.g; unfold frR at this; rw [this]; exact hd.asc.imp Int.ne_of_lt) (fun p hp acc K hK => ?_) ?_
  · walk_at "pv"
    exact hK
  · refine putAtoms_ok (i := 6) (r := S.length) (rs := frR (topA c.s d.s + 1) d.g) (sto_at rfl) rfl (s := d.s) (k := k + 9) (by omega) ?_
    rw [show d.s.fillS (lookS (frR (topA c.s d.s + 1) d.g)) = testS (topA c.s d.s + 1) d.g d.s from rfl]
    have td := testS_dep (topA c.s d.s + 1) d.g d.s
    unfold dueV at q
    generalize testS (topA c.s d.s + 1) d.g d.s = u at td q ⊢
    refine inst_ok (i := 13) (c := 7) (h := 12) (a := 5) (n := 4) (k := k + 5) (by omega) (by omega) hc.sub (hc.asc.imp Int.ne_of_lt) (by omega) (fun e J => ?_) (fun tb J e => ?_)
    · have hm : ¬ (matchS c.g c.s u []).1 = true := by rw [← inst_isSome, e]; simp
      simp only [if_neg hm] at q
      simp only [isQ_nn]
      refine .inr ⟨by simp, ?_⟩
      rw [List.append_assoc]
      exact .inl (q _)
    · obtain ⟨hm, ht⟩ := tables_eq hc.sub hc.asc e
      simp only [if_pos hm, ht] at q
      simp only [isQ_rn]
      refine .inl ⟨by simp, ?_⟩
      refine tableRows_ok (i := 8) (rs := tb) (by rw [← List.append_assoc (S ++ _)]; exact sto_at (by simp; omega)) ?_
      rw [List.append_assoc]
      exact .inl (q _)
end K78
set_option Elab.async false
set_option linter.all false
set_option maxRecDepth 100000
set_option maxHeartbeats 1000000
/-! K78c: the law. -/
namespace K78
open PySem Pv
def d31_1 : ISs := (.cons (.ifs (.and (.cmp .eq (.idxc (.var 14) 0) (.cst (.str (st 3)))) (.and (.cmp .is (.call 18 (.cons (.var 13) (.cons (.var 15) .nil)) []) (.cst (.bl true))) (.cmp .isnot (.call 18 (.cons (.var 8) (.cons (.var 15) .nil)) []) (.cst (.bl true))))) (.cons (.ret (.cst (.bl false))) .nil) .nil) .nil)
theorem d31_1_eq {Φ : Pv.Call} {T : Tab} {s : IS} {ρ : Pv.Env} {S : Store} {D : PD} {E : PEX} : wpSs Φ T (.cons s d31_1) ρ S D E = wpS Φ T s ρ S { D with nx := fun ρ1 S1 => wpSs Φ T d31_1 ρ1 S1 D E } E := rfl
def d31 : ISs := (.cons (.ifs (.not (.call 22 (.cons (.call 18 (.cons (.var 8) (.cons (.var 15) .nil)) []) (.cons (.call 26 (.cons (.idxc (.var 8) 0) (.cons (.idxc (.var 8) 1) (.cons (.var 15) (.cons (.lst .nil) .nil)))) []) .nil)) [])) (.cons (.ret (.cst (.bl false))) .nil) .nil) d31_1)
def c31_4 : ISs := (.cons (.ifs (.and (.cmp .eq (.idxc (.var 14) 0) (.cst (.str (st 2)))) (.or (.cmp .isnot (.call 18 (.cons (.var 13) (.cons (.idxc (.var 14) 1) .nil)) []) (.cst (.bl true))) (.cmp .isnot (.call 18 (.cons (.var 8) (.cons (.idxc (.var 14) 1) .nil)) []) (.cst (.bl false))))) (.cons (.ret (.cst (.bl false))) .nil) .nil) .nil)
theorem c31_4_eq {Φ : Pv.Call} {T : Tab} {s : IS} {ρ : Pv.Env} {S : Store} {D : PD} {E : PEX} : wpSs Φ T (.cons s c31_4) ρ S D E = wpS Φ T s ρ S { D with nx := fun ρ1 S1 => wpSs Φ T c31_4 ρ1 S1 D E } E := rfl
def c31_3 : ISs := (.cons (.for_ (.nm 15) (.val (.lst (.cons (.call 28 (.cons (.var 1) (.cons (.var 13) (.cons (.cst (.int 5)) .nil))) []) (.cons (.call 23 (.cons (.var 1) (.cons (.cst (.int 6)) (.cons (.cst (.int 4)) .nil))) []) (.cons (.idxc (.var 13) 1) .nil))))) d31) c31_4)
theorem c31_3_eq {Φ : Pv.Call} {T : Tab} {s : IS} {ρ : Pv.Env} {S : Store} {D : PD} {E : PEX} : wpSs Φ T (.cons s c31_3) ρ S D E = wpS Φ T s ρ S { D with nx := fun ρ1 S1 => wpSs Φ T c31_3 ρ1 S1 D E } E := rfl
def c31_2 : ISs := (.cons (.setT (.var 6) (.cons (.var 7) (.cons (.var 12) .nil)) (.cmp .eq (.idxc (.var 14) 0) (.cst (.str (st 3))))) c31_3)
theorem c31_2_eq {Φ : Pv.Call} {T : Tab} {s : IS} {ρ : Pv.Env} {S : Store} {D : PD} {E : PEX} : wpSs Φ T (.cons s c31_2) ρ S D E = wpS Φ T s ρ S { D with nx := fun ρ1 S1 => wpSs Φ T c31_2 ρ1 S1 D E } E := rfl
def c31_1 : ISs := (.cons (.ifs (.not (.call 22 (.cons (.call 19 (.cons (.var 8) (.cons (.var 13) .nil)) []) (.cons (.var 14) .nil)) [])) (.cons (.ret (.cst (.bl false))) .nil) .nil) c31_2)
theorem c31_1_eq {Φ : Pv.Call} {T : Tab} {s : IS} {ρ : Pv.Env} {S : Store} {D : PD} {E : PEX} : wpSs Φ T (.cons s c31_1) ρ S D E = wpS Φ T s ρ S { D with nx := fun ρ1 S1 => wpSs Φ T c31_1 ρ1 S1 D E } E := rfl
def c31 : ISs := (.cons (.asg (.nm 14) (.call 30 (.cons (.var 8) (.cons (.var 13) .nil)) [])) c31_1)
def b31_4 : ISs := (.cons (.for_ (.tp [12, 13]) (.enum (.var 5)) c31) .nil)
theorem b31_4_eq {Φ : Pv.Call} {T : Tab} {s : IS} {ρ : Pv.Env} {S : Store} {D : PD} {E : PEX} : wpSs Φ T (.cons s b31_4) ρ S D E = wpS Φ T s ρ S { D with nx := fun ρ1 S1 => wpSs Φ T b31_4 ρ1 S1 D E } E := rfl
def b31_3 : ISs := (.cons (.for_ (.nm 11) (.val (.lst (.cons (.tup (.cons (.bin .add (.idxc (.var 8) 0) (.tup (.cons (.cst (.int 91)) .nil))) (.cons (.idxc (.var 8) 1) .nil))) (.cons (.tup (.cons (.bin .add (.rev (.idxc (.var 8) 0)) (.tup (.cons (.cst (.int 0)) (.cons (.cst (.int 0)) .nil)))) (.cons (.idxc (.var 8) 1) .nil))) (.cons (.lst (.cons (.idxc (.var 8) 0) (.cons (.idxc (.var 8) 1) .nil))) (.cons (.idxc (.var 8) 0) (.cons (.cst .non) .nil))))))) (.cons (.ifs (.cmp .isnot (.call 15 (.cons (.var 11) .nil) []) (.cst (.bl false))) (.cons (.ret (.cst (.bl false))) .nil) .nil) .nil)) b31_4)
theorem b31_3_eq {Φ : Pv.Call} {T : Tab} {s : IS} {ρ : Pv.Env} {S : Store} {D : PD} {E : PEX} : wpSs Φ T (.cons s b31_3) ρ S D E = wpS Φ T s ρ S { D with nx := fun ρ1 S1 => wpSs Φ T b31_3 ρ1 S1 D E } E := rfl
def b31_1 : ISs := (.cons (.asg (.nm 9) (.bi .tuple1 (.cons (.lc [10] (.nm 10) (.val (.call 25 (.cons (.idxc (.var 8) 1) .nil) [])) (.cons (.cmp .notin (.var 10) (.idxc (.var 8) 0)) .nil) (.var 10)) .nil))) (.cons (.ifs (.not (.call 22 (.cons (.call 17 (.cons (.bin .add (.var 9) (.tup (.cons (.cst (.int 90)) .nil))) (.cons (.idxc (.var 8) 1) .nil)) []) (.cons (.var 8) .nil)) [])) (.cons (.ret (.cst (.bl false))) .nil) .nil) b31_3))
theorem b31_1_eq {Φ : Pv.Call} {T : Tab} {s : IS} {ρ : Pv.Env} {S : Store} {D : PD} {E : PEX} : wpSs Φ T (.cons s b31_1) ρ S D E = wpS Φ T s ρ S { D with nx := fun ρ1 S1 => wpSs Φ T b31_1 ρ1 S1 D E } E := rfl
def b31 : ISs := (.cons (.ifs (.cmp .isnot (.call 15 (.cons (.var 8) .nil) []) (.cst (.bl true))) (.cons (.ret (.cst (.bl false))) .nil) .nil) b31_1)
def t31_7 : ISs := (.cons (.for_ (.nm 7) (.rng1 (.cst (.int 3))) (.cons (.ifs (.not (.idxT (.var 6) (.cons (.var 7) (.cons (.var 7) .nil)))) (.cons (.ret (.cst (.bl false))) .nil) .nil) (.cons (.for_ (.nm 16) (.rng1 (.cst (.int 3))) (.cons (.for_ (.nm 12) (.rng1 (.cst (.int 3))) (.cons (.ifs (.and (.idxT (.var 6) (.cons (.var 7) (.cons (.var 16) .nil))) (.and (.idxT (.var 6) (.cons (.var 16) (.cons (.var 12) .nil))) (.not (.idxT (.var 6) (.cons (.var 7) (.cons (.var 12) .nil)))))) (.cons (.ret (.cst (.bl false))) .nil) .nil) .nil)) .nil)) .nil))) (.cons (.ret (.cst (.bl true))) .nil))
theorem t31_7_eq {Φ : Pv.Call} {T : Tab} {s : IS} {ρ : Pv.Env} {S : Store} {D : PD} {E : PEX} : wpSs Φ T (.cons s t31_7) ρ S D E = wpS Φ T s ρ S { D with nx := fun ρ1 S1 => wpSs Φ T t31_7 ρ1 S1 D E } E := rfl
def t31_5 : ISs := (.cons (.asg (.nm 6) .dctE) (.cons (.for_ (.tp [7, 8]) (.enum (.var 5)) b31) t31_7))
theorem t31_5_eq {Φ : Pv.Call} {T : Tab} {s : IS} {ρ : Pv.Env} {S : Store} {D : PD} {E : PEX} : wpSs Φ T (.cons s t31_5) ρ S D E = wpS Φ T s ρ S { D with nx := fun ρ1 S1 => wpSs Φ T t31_5 ρ1 S1 D E } E := rfl
def t31_3 : ISs := (.cons (.asg (.nm 4) (.ifx (.cmp .eq (.call 21 (.cons (.var 1) (.cons (.cst (.int 2)) .nil)) []) (.cst (.int 0))) (.call 29 (.cons (.var 1) (.cons (.var 3) .nil)) []) (.call 27 (.cons (.var 1) .nil) []))) (.cons (.asg (.nm 5) (.lst (.cons (.var 2) (.cons (.var 3) (.cons (.var 4) .nil))))) t31_5))
theorem t31_3_eq {Φ : Pv.Call} {T : Tab} {s : IS} {ρ : Pv.Env} {S : Store} {D : PD} {E : PEX} : wpSs Φ T (.cons s t31_3) ρ S D E = wpS Φ T s ρ S { D with nx := fun ρ1 S1 => wpSs Φ T t31_3 ρ1 S1 D E } E := rfl
theorem f31_eq : f31 = ⟨1, 17, (.cons (.asg (.nm 1) (.call 20 (.cons (.var 0) .nil) [])) (.cons (.asg (.tp [2, 3]) (.tup (.cons (.call 27 (.cons (.var 1) .nil) []) (.cons (.call 27 (.cons (.var 1) .nil) []) .nil)))) (.cons (.ifs (.cmp .eq (.call 21 (.cons (.var 1) (.cons (.cst (.int 2)) .nil)) []) (.cst (.int 0))) (.cons (.asg (.nm 3) (.call 29 (.cons (.var 1) (.cons (.var 2) .nil)) [])) .nil) .nil) t31_3)))⟩ := rfl
local macro_rules | `(tactic| walk_at "pv") => `(tactic| simp [wpSs, wpS, wpE, wpT, wpEs, wpTs, wpO, wpI, wpG, startP, wipeP, L2.CMul, L2.CDiv, L2.CPow, tg_inj, sizeLine, eqB_tup, t31_3_eq, t31_5_eq, t31_7_eq, b31_1_eq, b31_3_eq, b31_4_eq, c31_1_eq, c31_2_eq, c31_3_eq, c31_4_eq, d31_1_eq, -List.getD_eq_getElem?_getD])
/-- wider, as worked out -/
def wd (c d : Scm) : Bool := (matchS c.g c.s (testS (topA c.s d.s + 1) d.g d.s) []).1
theorem wd_iff {c d : Scm} {m' : Int} (hd : d.Ok m') : wd c d = true ↔ ∀ x, Inst d.g d.s x → Inst c.g c.s x := by
  unfold wd
  rw [match_inst]
  refine wider_all (hd.asc.imp Int.ne_of_lt) (fun n hn => ?_) fun n hn => ?_
  · have := topA_ge (s := c.s) (w := d.s) (.inl hn); omega
  · have := topA_ge (s := c.s) (w := d.s) (.inr hn); omega
theorem due_gd {c d : Scm} (hd : d.s.cn ≤ 24) (hc : c.s.cn ≤ 24) : Gd 60 (dueV c d) := by
  have h1 := testS_dep (topA c.s d.s + 1) d.g d.s
  have h2 := d.s.dep_cn
  unfold dueV
  split
  · refine .tup _ (by simp) fun x hx => ?_
    simp only [List.mem_cons, List.not_mem_nil, or_false] at hx
    rcases hx with rfl | rfl
    · exact .str _ (tg_ok 23 (by omega))
    · have hlen := matchS_len c.g c.s (testS (topA c.s d.s + 1) d.g d.s) []
      refine .tup _ (by simp [sortRS]; simp at hlen; omega) fun x hx => ?_
      obtain ⟨p, hp, rfl⟩ := List.mem_map.1 hx
      rcases matchS_in _ _ _ _ p (sortRS_mem.1 hp) with h | ⟨h, _, _⟩
      · cases h
      · refine .tup _ (by simp) fun x hx => ?_
        simp only [List.mem_cons, List.not_mem_nil, or_false] at hx
        rcases hx with rfl | rfl
        · exact .int _
        · exact (Sh.gd _).mono (by omega)
  · refine .tup _ (by simp) fun x hx => ?_
    simp only [List.mem_cons, List.not_mem_nil, or_false] at hx
    rcases hx with rfl | rfl
    · exact .str _ (tg_ok 31 (by omega))
    · exact (Sh.gd _).mono (by omega)
theorem due_cases (c d : Scm) : (wd c d = true ∧ ∃ v, dueV c d = .tup [.str (tg 23), v]) ∨ (wd c d = false ∧ dueV c d = .tup [.str (tg 31), (testS (topA c.s d.s + 1) d.g d.s).pv]) := by
  unfold wd dueV
  split
  · rename_i h; exact .inl ⟨h, _, rfl⟩
  · rename_i h; exact .inr ⟨by simpa using h, rfl⟩
def Stt (a b : Nat) (cs : List Scm) (kvs : List (List L2.Key × PV)) (C : Int) (S : Store) : Prop := StB C S ∧ S[a]? = some (.lst (cs.map Scm.pv)) ∧ S[b]? = some (.dctT kvs)
theorem Stt.more {a b : Nat} {cs kvs C} {S J : Store} (h : Stt a b cs kvs C S) : Stt a b cs kvs C (S ++ J) := ⟨h.1.more, sto_old h.2.1, sto_old h.2.2⟩
theorem Stt.set2 {a b : Nat} {cs kvs C C'} {S : Store} {o : Mo} (h : Stt a b cs kvs C S) (ha : a ≠ 2) (hb : b ≠ 2) (h2 : StB C' (S.set 2 o)) : Stt a b cs kvs C' (S.set 2 o) := ⟨h2, set_get2 h.2.1 ha, set_get2 h.2.2 hb⟩
variable {S : Store} {D : PD} {E : PEX} {x0 x1 x2 x3 x4 x5 x6 x7 x8 x9 x10 x11 x12 x13 x14 x15 x16 : Option PV} {c d : Scm} {x : Sh}
theorem same78 {n k : Nat} {v : PV} {Q : PQ} {E : PX} (g : Gd n v) (hk : n + 1 ≤ k) (q : Q (.bl true) S) : runF tab fns k 22 [v, v] S Q E := sameB_ok g hk q
/-- a shape asked -/
theorem d_ok (hc : c.Ok 24) (hd : d.Ok 24) (hx : ShB 48 1000 x) (h : ∀ J, D.nx [x0, x1, x2, x3, x4, x5, x6, x7, some c.pv, x9, x10, x11, x12, some d.pv, some (dueV c d), some x.pv, x16] (S ++ J)) :
    wpSs (runF tab fns 229) tab d31 [x0, x1, x2, x3, x4, x5, x6, x7, some c.pv, x9, x10, x11, x12, some d.pv, some (dueV c d), some x.pv, x16] S D E := by
  have c1 := hc.sb.cn
  have c2 := hx.cn
  have z1 := c.s.dep_cn
  have z2 := x.dep_cn
  have hx6 : ShB 60 1000 x := ⟨by omega, hx.lo, hx.hi⟩
  simp only [d31]
  walk_at "pv"
  refine isInst_ok (k := 221) hc (by omega) hx6 fun J => ?_
  simp only [Scm.pv]
  walk_at "pv"
  refine lMatch_ok (i := 26) rfl (s := c.s) (o := x) (tb := []) (k := 229) (by omega) (by omega) (by simp; omega) (fun p hp => by cases hp) (by simp) ?_
  rw [inst_isSome]
  refine same78 (.bl _) (n := 0) (by omega) ?_
  rw [sto_set]
  rw [show (J ++ [Mo.lst []]).set J.length (.lst ((matchS c.g c.s x []).2.map rowS)) = J ++ [.lst ((matchS c.g c.s x []).2.map rowS)] by simp]
  generalize hJ : J ++ [Mo.lst ((matchS c.g c.s x []).2.map rowS)] = J1
  simp only [truQ_b, if_true, d31_1]
  walk_at "pv"
  rcases due_cases c d with ⟨hw, v, e⟩ | ⟨hw, e⟩
  · rw [e] at h ⊢
    walk_at "pv"
    refine isInst_ok (c := d) (k := 221) hd (by omega) hx6 fun J2 => ?_
    rw [inst_isSome]
    cases hi : (matchS d.g d.s x []).1 with
    | false =>
      walk_at "pv"
      have := h (J1 ++ J2)
      exact this
    | true =>
      walk_at "pv"
      refine isInst_ok (c := c) (k := 221) hc (by omega) hx6 fun J3 => ?_
      have hx' : (matchS c.g c.s x []).1 = true := match_inst.2 ((wd_iff hd).1 hw x (match_inst.1 hi))
      rw [inst_isSome, hx']
      walk_at "pv"
      have := h (J1 ++ (J2 ++ J3))
      exact this
  · rw [e] at h ⊢
    walk_at "pv"
    exact h J1
theorem getPT_put {kvs : List (List L2.Key × PV)} {k k' : List L2.Key} {v : PV} : getP (putP kvs k v) k' = if k = k' then some v else getP kvs k' := by
  have hs : ∀ kvs : List (List L2.Key × PV), getP (setP k v kvs) k' = if k = k' ∧ (getP kvs k).isSome = true then some v else getP kvs k' := by
    intro kvs
    induction kvs with
    | nil => simp [setP, getP]
    | cons q kvs ih =>
      obtain ⟨j, w⟩ := q
      simp only [setP]
      by_cases h : j = k
      · subst h
        simp only [if_true, getP]
        by_cases h2 : j = k'
        · simp [h2]
        · simp only [h2, if_false, ih, false_and]
      · simp only [if_neg h, getP]
        by_cases h2 : j = k'
        · subst h2
          simp [Ne.symm h]
        · simp only [if_neg h2, ih]
  have ha : ∀ kvs : List (List L2.Key × PV), getP (kvs ++ [(k, v)]) k' = (getP kvs k').or (if k = k' then some v else none) := by
    intro kvs
    induction kvs with
    | nil => simp [getP]
    | cons q kvs ih => obtain ⟨j, w⟩ := q; simp only [List.cons_append, getP, ih]; split <;> simp
  unfold putP
  split
  · rename_i h; rw [hs]; simp only [h, and_true]
  · rename_i h
    rw [ha]
    by_cases e : k = k'
    · subst e
      have : getP kvs k = none := by simpa using h
      simp [this]
    · simp [e]
theorem putP_lenT {kvs : List (List L2.Key × PV)} {k : List L2.Key} {v : PV} : (putP kvs k v).length ≤ kvs.length + 1 := by
  have hs : ∀ kvs : List (List L2.Key × PV), (setP k v kvs).length = kvs.length := by
    intro kvs
    induction kvs with
    | nil => rfl
    | cons q kvs ih => obtain ⟨j, w⟩ := q; simp only [setP]; split <;> simp [ih]
  unfold putP
  split
  · rw [hs]; omega
  · simp
theorem Scm.Ok.mono {m m' : Int} {c : Scm} (h : c.Ok m) (hm : m ≤ m') : c.Ok m' := ⟨h.asc, h.sub, ⟨by have := h.sb.cn; omega, h.sb.lo, h.sb.hi⟩⟩
theorem test_b (hc : c.Ok 24) (hd : d.Ok 24) : ShB 60 1000 (testS (topA c.s d.s + 1) d.g d.s) := by
  have c2 := hd.sb.cn
  have gl := hd.gl
  have ht : 0 ≤ topA c.s d.s ∧ topA c.s d.s < 5 := by
    rcases List.mem_append.1 (maxL_spec (topA_max c.s d.s)).1 with h | h
    · exact ⟨hc.sb.lo _ (Sh.lot_mem.1 h), hc.sb.hi _ (Sh.lot_mem.1 h)⟩
    · exact ⟨hd.sb.lo _ (Sh.lot_mem.1 h), hd.sb.hi _ (Sh.lot_mem.1 h)⟩
  have key : ∀ n, n ∈ (testS (topA c.s d.s + 1) d.g d.s).ats → 0 ≤ n ∧ n < 1000 := fun n hn => by
    unfold testS at hn
    rw [Sh.fillS_sub] at hn
    obtain ⟨k, hk, hn⟩ := Sh.sub_ats.1 hn
    cases e : lookS (frR (topA c.s d.s + 1) d.g) k with
    | none =>
      rw [e] at hn
      simp [Sh.ats] at hn
      subst hn
      have := hd.sb.lo n hk; have := hd.sb.hi n hk; omega
    | some y =>
      rw [e] at hn
      obtain ⟨p, hp, he⟩ := List.mem_map.1 (lookS_mem e)
      cases he
      simp [Sh.ats] at hn
      have hz := (List.mem_zipIdx_iff_getElem?.1 hp)
      have := (List.getElem?_eq_some_iff.1 hz).1
      omega
  exact ⟨by rw [testS_cn]; omega, fun n hn => (key n hn).1, fun n hn => (key n hn).2⟩
/-- a pair of schemes -/
theorem c_ok {a b : Nat} {cs : List Scm} {kvs : List (List L2.Key × PV)} {C i j : Int} (hc : c.Ok 24) (hd : d.Ok 24) (ha : a ≠ 2) (hb : b ≠ 2) (hk : kvs.length ≤ 100) (hC : C < 2 ^ 29) (hS : Stt a b cs kvs C S)
    (h : ∀ S' x14 x15, Stt a b cs (putP kvs [.inl i, .inl j] (.bl (wd c d))) (C + 1100) S' → D.nx [x0, some (.ref 2), x2, x3, x4, x5, some (.ref b), some (.int i), some c.pv, x9, x10, x11, some (.int j), some d.pv, x14, x15, x16] S') :
    wpSs (runF tab fns 229) tab c31 [x0, some (.ref 2), x2, x3, x4, x5, some (.ref b), some (.int i), some c.pv, x9, x10, x11, some (.int j), some d.pv, x14, x15, x16] S D E := by
  have c1 := hc.sb.cn
  have c2 := hd.sb.cn
  have z1 := c.s.dep_cn
  have z2 := d.s.dep_cn
  simp only [c31]
  walk_at "pv"
  refine due_ok hc hd (by omega) fun J1 => ?_
  simp only [c31_1]
  walk_at "pv"
  refine isWider_ok hc hd (by omega) fun J2 => ?_
  refine same78 (due_gd (by omega) (by omega)) (by omega) ?_
  simp only [truQ_b, if_true, c31_2]
  walk_at "pv"
  have hidx : ∀ (S1 : Store) (R : PV → Store → Prop), R (.bl (wd c d)) S1 → idxcQ 0 (dueV c d) S1 fun v S1 => eqQ (fun b => b) v (.str (tg 23)) S1 R := fun S1 R hR => by
    rcases due_cases c d with ⟨hw, v, e⟩ | ⟨hw, e⟩
    · rw [e]; rw [hw] at hR; simpa using hR
    · rw [e]; rw [hw] at hR; simpa [tg_inj] using hR
  refine hidx _ _ ?_
  obtain ⟨st0, hca, hfb⟩ := hS.more (J := J1 ++ J2)
  generalize S ++ (J1 ++ J2) = S1 at st0 hca hfb ⊢
  have hbl := (List.getElem?_eq_some_iff.1 hfb).1
  refine ⟨kvs, _, hfb, rfl, by simp [sizeLine]; omega, ?_⟩
  generalize hS2 : S1.set b (.dctT (putP kvs [.inl i, .inl j] (.bl (wd c d)))) = S2
  have hS2' : Stt a b cs (putP kvs [.inl i, .inl j] (.bl (wd c d))) C S2 := by
    subst hS2
    obtain ⟨cells, p, rest, turn, mix, e1, e2, h3, h4, h5⟩ := st0
    have n2 : b ≠ 2 := hb
    have n4 : b ≠ 4 := fun e => by subst e; rw [hfb] at e1; cases e1
    have na : b ≠ a := fun e => by subst e; rw [hfb] at hca; cases hca
    exact ⟨⟨cells, p, rest, turn, mix, by rw [List.getElem?_set_ne n4]; exact e1, by rw [List.getElem?_set_ne n2]; exact e2, h3, h4, h5⟩, by rw [List.getElem?_set_ne na]; exact hca, List.getElem?_set_self hbl⟩
  simp only [c31_3]
  walk_at "pv"
  refine instance_ok hd (by omega) (by omega) hC hS2'.1 fun x1 o1 _ hx1 st1 => ?_
  refine lshape_ok (by omega) (by omega) (by omega) (by omega) (by omega) (by omega) st1 fun x2' o2 hx2 st2 => ?_
  rw [List.set_set] at st2 ⊢
  have hS3 := hS2'.set2 ha hb st2
  generalize S2.set 2 o2 = S3 at hS3 ⊢
  simp only [Scm.pv]
  walk_at "pv"
  have y1 : ShB 48 1000 x1 := ⟨by have := hx1.cn; omega, hx1.lo, fun n hn => by have := hx1.hi n hn; omega⟩
  have y2 : ShB 48 1000 x2' := ⟨by have := hx2.cn; omega, hx2.lo, fun n hn => by have := hx2.hi n hn; omega⟩
  have y3 : ShB 48 1000 d.s := ⟨by omega, hd.sb.lo, fun n hn => by have := hd.sb.hi n hn; omega⟩
  refine ⟨⟨sto_at rfl, trivial⟩, d_ok hc hd y1 fun J1 => ?_⟩
  refine ⟨⟨sto_old (sto_at rfl), trivial⟩, d_ok hc hd y2 fun J2 => ?_⟩
  refine ⟨⟨sto_old (sto_old (sto_at rfl)), trivial⟩, d_ok hc hd y3 fun J3 => ?_⟩
  refine ⟨⟨sto_old (sto_old (sto_old (sto_at rfl))), trivial⟩, ?_⟩
  have hS4 := (((hS3.more (J := [Mo.lst [x1.pv, x2'.pv, d.s.pv]])).more (J := J1)).more (J := J2)).more (J := J3)
  generalize S3 ++ [Mo.lst [x1.pv, x2'.pv, d.s.pv]] ++ J1 ++ J2 ++ J3 = S5 at hS4 ⊢
  have hS6 : ∀ J, Stt a b cs (putP kvs [.inl i, .inl j] (.bl (wd c d))) (C + 1100) (S5 ++ J) := fun J => ⟨hS4.more.1.mono (by omega), hS4.more.2⟩
  simp only [c31_4]
  rcases due_cases c d with ⟨hw, v, e⟩ | ⟨hw, e⟩
  · rw [e]
    walk_at "pv"
    have := h (S5 ++ []) (some (dueV c d)) (some d.s.pv) (hS6 [])
    rw [e, List.append_nil] at this
    exact this
  · rw [e]
    walk_at "pv"
    have hu : ShB 60 1000 (testS (topA c.s d.s + 1) d.g d.s) := test_b hc hd
    refine isInst_ok (c := d) (k := 221) hd (by omega) hu fun J4 => ?_
    have i1 : (matchS d.g d.s (testS (topA c.s d.s + 1) d.g d.s) []).1 = true := match_inst.2 test_inst
    rw [inst_isSome, i1]
    walk_at "pv"
    refine isInst_ok (c := c) (k := 221) hc (by omega) hu fun J5 => ?_
    rw [inst_isSome, show (matchS c.g c.s (testS (topA c.s d.s + 1) d.g d.s) []).1 = false from hw]
    walk_at "pv"
    have := h (S5 ++ (J4 ++ J5)) (some (dueV c d)) (some d.s.pv) (hS6 _)
    rw [e] at this
    exact this
theorem hold_ok {k : Nat} {Q : PQ} {E : PX} (hc : c.Ok 24) (hk : 60 ≤ k) (q : ∀ J, Q (.ref (S.length + J.length)) (S ++ (J ++ [.lst ((heldL c.g c.s).map .int)]))) :
    runF tab fns k 25 [c.s.pv] S (fun v S1 => iterQ v S1 fun src xs => lcLoop src S1.length (fun x S2 K => inAny x (c.g.map .int) S2 fun b => b = true ∧ K none S2 ∨ b = false ∧ K (some x) S2) Q xs (S1 ++ [.lst []])) E := by
  have c1 := hc.sb.cn
  have z1 := c.s.dep_cn
  have l1 := c.s.lot_len
  refine lAtoms_ok (i := 25) rfl (s := c.s) (k := k) (by omega) (by omega) fun J => ?_
  have hat : (S ++ (J ++ [Mo.lst (c.s.lot.map .int)]))[S.length + J.length]? = some (.lst (c.s.lot.map .int)) := by rw [← List.append_assoc]; exact sto_at (by simp)
  refine ⟨_, hat, rfl, ?_⟩
  refine lc_filt (g := PV.int) (f := fun n => if (!decide (n ∈ c.g)) = true then some (PV.int n) else none) (ps := c.s.lot) rfl rfl rfl (fun acc => ⟨sto_old hat, trivial⟩) (by omega) (fun n hn acc K hK => ?_) ?_
  · refine in_ints ?_
    by_cases h : n ∈ c.g
    · exact .inl ⟨by simp [h], by simpa [h] using hK⟩
    · exact .inr ⟨by simp [h], by simpa [h] using hK⟩
  · rw [filtMap_ints]
    have := q (J ++ [Mo.lst (c.s.lot.map .int)])
    simpa [heldL, Nat.add_assoc] using this
theorem Scm.gd (c : Scm) {m : Int} (hc : c.Ok m) (hm : m ≤ 48) : Gd 50 c.pv := by
  have := hc.sb.cn
  have := c.s.dep_cn
  have := hc.gl
  refine .tup _ (by simp) fun x hx => ?_
  simp only [List.mem_cons, List.not_mem_nil, or_false] at hx
  rcases hx with rfl | rfl
  · refine .tup _ (by simp; omega) fun x hx => ?_
    obtain ⟨n, _, rfl⟩ := List.mem_map.1 hx
    exact .int _
  · exact (Sh.gd _).mono (by omega)
theorem b_ok {a b : Nat} {s1 s2 s3 : Scm} {kvs : List (List L2.Key × PV)} {C i : Int} (hc : c.Ok 24) (h1 : s1.Ok 24) (h2 : s2.Ok 24) (h3 : s3.Ok 24) (ha : a ≠ 2) (hb : b ≠ 2) (hk : kvs.length ≤ 90) (hC : C < 2 ^ 28) (hS : Stt a b [s1, s2, s3] kvs C S)
    (h : ∀ S' x9 x11 x12 x13 x14 x15, Stt a b [s1, s2, s3] (putP (putP (putP kvs [.inl i, .inl 0] (.bl (wd c s1))) [.inl i, .inl 1] (.bl (wd c s2))) [.inl i, .inl 2] (.bl (wd c s3))) (C + 3300) S' →
      D.nx [x0, some (.ref 2), x2, x3, x4, some (.ref a), some (.ref b), some (.int i), some c.pv, x9, x10, x11, x12, x13, x14, x15, x16] S') :
    wpSs (runF tab fns 229) tab b31 [x0, some (.ref 2), x2, x3, x4, some (.ref a), some (.ref b), some (.int i), some c.pv, x9, x10, x11, x12, x13, x14, x15, x16] S D E := by
  have c1 := hc.sb.cn
  have gl := hc.gl
  simp only [b31]
  walk_at "pv"
  simp only [Scm.pv]
  refine isScheme_ok (k := 225) (ns := c.g) (s := c.s) (fun n hn => hc.sb.lo n (hc.sub n hn)) (by omega) hc.sb.lo (by omega) ?_
  rw [decide_eq_true ⟨hc.asc, hc.sub⟩]
  simp only [b31_1]
  walk_at "pv"
  refine hold_ok hc (by omega) fun J1 => ?_
  refine ⟨_, by rw [← List.append_assoc]; exact sto_at (by simp), rfl, ?_⟩
  have l1 := c.s.lot_len
  have hhl : (heldL c.g c.s).length ≤ c.s.lot.length := List.length_filter_le _ _
  simp only [Mo.items, List.length_map]
  refine ⟨by omega, ?_⟩
  rw [show (heldL c.g c.s).map PV.int ++ [PV.int 90] = (heldL c.g c.s ++ [90]).map .int by simp]
  refine schemeOf_ok (k := 221) hc (by omega) ?_
  refine same78 (c.gd hc (by omega)) (by omega) ?_
  have hS1 := hS.more (J := J1 ++ [Mo.lst ((heldL c.g c.s).map .int)])
  generalize S ++ (J1 ++ [Mo.lst ((heldL c.g c.s).map .int)]) = S1 at hS1 ⊢
  simp only [truQ_b, if_true, b31_3]
  walk_at "pv"
  refine ⟨by omega, by omega, ?_⟩
  generalize hbad : Mo.lst [PV.tup [PV.tup (c.g.map PV.int ++ [PV.int 91]), c.s.pv], PV.tup [PV.tup ((c.g.map PV.int).reverse ++ [PV.int 0, PV.int 0]), c.s.pv], PV.ref S1.length, PV.tup (c.g.map PV.int), PV.non] = bad
  have hb1 : (S1 ++ [Mo.lst [PV.tup (c.g.map .int), c.s.pv], bad])[S1.length + 1]? = some bad := by rw [sto_get]; rfl
  have hb0 : (S1 ++ [Mo.lst [PV.tup (c.g.map .int), c.s.pv], bad])[S1.length]? = some (.lst [PV.tup (c.g.map .int), c.s.pv]) := sto_at rfl
  have hS2 := hS1.more (J := [Mo.lst [PV.tup (c.g.map .int), c.s.pv], bad])
  have g0 : ∀ n, n ∈ c.g → 0 ≤ n := fun n hn => hc.sb.lo n (hc.sub n hn)
  refine ⟨⟨hb1, trivial⟩, ?_⟩
  show runF tab fns 229 (Fi.f 15) [PV.tup [PV.tup (c.g.map PV.int ++ [PV.int 91]), c.s.pv]] _ _ _
  rw [show c.g.map PV.int ++ [PV.int 91] = (c.g ++ [91]).map .int by simp]
  refine isScheme_ok (k := 225) (ns := c.g ++ [91]) (s := c.s) (fun n hn => ?_) (by simp; omega) hc.sb.lo (by omega) ?_
  · rcases List.mem_append.1 hn with h | h
    · exact g0 n h
    · simp at h; omega
  rw [decide_eq_false (fun h => by have := hc.sb.hi 91 (h.2 91 (by simp)); omega)]
  simp only [isQ_bb]
  refine .inl ⟨rfl, ⟨hb1, trivial⟩, ?_⟩
  show runF tab fns 229 (Fi.f 15) [PV.tup [PV.tup ((c.g.map PV.int).reverse ++ [PV.int 0, PV.int 0]), c.s.pv]] _ _ _
  rw [show (c.g.map PV.int).reverse ++ [PV.int 0, PV.int 0] = (c.g.reverse ++ [0, 0]).map .int by simp]
  refine isScheme_ok (k := 225) (ns := c.g.reverse ++ [0, 0]) (s := c.s) (fun n hn => ?_) (by simp; omega) hc.sb.lo (by omega) ?_
  · rcases List.mem_append.1 hn with h | h
    · exact g0 n (by simpa using h)
    · simp at h; omega
  rw [decide_eq_false (fun h => by
    have := (List.pairwise_append.1 h.1).2.1
    simp at this)]
  simp only [isQ_bb]
  refine .inl ⟨rfl, ⟨hb1, trivial⟩, ?_⟩
  show runF tab fns 229 (Fi.f 15) [PV.ref S1.length] _ _ _
  refine isScheme_lst (k := 225) hb0 ?_
  simp only [isQ_bb]
  refine .inl ⟨rfl, ⟨hb1, trivial⟩, ?_⟩
  show runF tab fns 229 (Fi.f 15) [PV.tup (c.g.map PV.int)] _ _ _
  refine isScheme_row (k := 225) ?_
  simp only [isQ_bb]
  refine .inl ⟨rfl, ⟨hb1, trivial⟩, ?_⟩
  show runF tab fns 229 (Fi.f 15) [PV.non] _ _ _
  refine isScheme_none (k := 225) ?_
  simp only [isQ_bb]
  refine .inl ⟨rfl, ⟨hb1, trivial⟩, ?_⟩
  generalize S1 ++ [Mo.lst [PV.tup (c.g.map .int), c.s.pv], bad] = S2 at hS2 ⊢
  show wpSs (runF tab fns 229) tab b31_4 [x0, some (.ref 2), x2, x3, x4, some (.ref a), some (.ref b), some (.int i), some c.pv, some (PV.tup ((heldL c.g c.s).map PV.int)), x10, some .non, x12, x13, x14, x15, x16] S2 D E
  simp only [b31_4]
  walk_at "pv"
  refine ⟨_, hS2.2.1, rfl, ⟨hS2.2.1, trivial⟩, ?_⟩
  show bindQ (.tp [12, 13]) (.tup [.int 0, s1.pv]) _ _ _
  refine ⟨rfl, ?_⟩
  refine c_ok (i := i) (j := 0) hc h1 ha hb (by omega) (by omega) hS2 fun S3 y1 y2 hS3 => ⟨⟨hS3.2.1, trivial⟩, ?_⟩
  show bindQ (.tp [12, 13]) (.tup [.int 1, s2.pv]) _ _ _
  refine ⟨rfl, ?_⟩
  have l3 := putP_lenT (kvs := kvs) (k := [.inl i, .inl 0]) (v := .bl (wd c s1))
  refine c_ok (i := i) (j := 1) hc h2 ha hb (by omega) (by omega) hS3 fun S4 y3 y4 hS4 => ⟨⟨hS4.2.1, trivial⟩, ?_⟩
  show bindQ (.tp [12, 13]) (.tup [.int 2, s3.pv]) _ _ _
  refine ⟨rfl, ?_⟩
  have l4 := putP_lenT (kvs := putP kvs [.inl i, .inl 0] (.bl (wd c s1))) (k := [.inl i, .inl 1]) (v := .bl (wd c s2))
  refine c_ok (i := i) (j := 2) hc h3 ha hb (by omega) (by omega) hS4 fun S5 y5 y6 hS5 => ⟨⟨hS5.2.1, trivial⟩, ?_⟩
  exact h S5 _ _ _ _ _ _ ⟨hS5.1.mono (by omega), hS5.2⟩
def DL (L : Nat) : PD := { nx := fun _ S' => Gc L .non S' fun v _ => v = .bl true, rt := fun v S' => Gc L v S' fun v _ => v = .bl true }
def EL (L : Nat) : PEX := fun x _ S' => GcX L x S' fun _ _ => False
/-- the last part -/
theorem tail7 {L b : Nat} {kvs : List (List L2.Key × PV)} {W : Int → Int → Bool} (hb : S[b]? = some (.dctT kvs)) (hW : ∀ i j, 0 ≤ i → i < 3 → 0 ≤ j → j < 3 → getP kvs [.inl i, .inl j] = some (.bl (W i j)))
    (hr : ∀ i, 0 ≤ i → i < 3 → W i i = true) (ht : ∀ i j k, 0 ≤ i → i < 3 → 0 ≤ j → j < 3 → 0 ≤ k → k < 3 → W i j = true → W j k = true → W i k = true) :
    wpSs (runF tab fns 229) tab t31_7 [x0, x1, x2, x3, x4, x5, some (.ref b), x7, x8, x9, x10, x11, x12, x13, x14, x15, x16] S (DL L) (EL L) := by
  have hat : ∀ i j (R : PV → Prop), 0 ≤ i → i < 3 → 0 ≤ j → j < 3 → R (.bl (W i j)) → tgetQ (.ref b) [.int i, .int j] S fun r => ∃ x, r = some x ∧ R x := fun i j R h1 h2 h3 h4 hR => ⟨kvs, _, hb, rfl, _, hW i j h1 h2 h3 h4, hR⟩
  have three : ∀ x, x ∈ rngL 0 3 → ∃ i : Int, x = .int i ∧ 0 ≤ i ∧ i < 3 := fun x hx => by
    unfold rngL at hx
    obtain ⟨n, hn, rfl⟩ := List.mem_map.1 hx
    simp at hn
    exact ⟨_, rfl, by omega, by omega⟩
  simp only [t31_7]
  walk_at "pv"
  refine ⟨by simp [rngOk], ?_⟩
  refine for_ind (I := fun xs ρ S' => S = S' ∧ (∀ x, x ∈ xs → x ∈ rngL 0 3) ∧ ∃ y7 y12 y16, ρ = [x0, x1, x2, x3, x4, x5, some (.ref b), y7, x8, x9, x10, x11, y12, x13, x14, x15, y16]) ?_ ?_ _ _ _ ⟨rfl, fun x hx => hx, _, _, _, rfl⟩
  · rintro x xs _ _ ⟨rfl, hxs, y7, y12, y16, rfl⟩
    refine ⟨trivial, fun K hK => ?_⟩
    obtain ⟨i, rfl, i0, i3⟩ := three x (hxs x (.head _))
    walk_at "pv"
    refine hat i i _ i0 i3 i0 i3 ?_
    rw [hr i i0 i3]
    simp only [truQ_b, if_true]
    refine ⟨by simp [rngOk], ?_⟩
    refine for_ind (I := fun xs ρ S' => S = S' ∧ (∀ x, x ∈ xs → x ∈ rngL 0 3) ∧ ∃ y12 y16, ρ = [x0, x1, x2, x3, x4, x5, some (.ref b), some (.int i), x8, x9, x10, x11, y12, x13, x14, x15, y16]) ?_ ?_ _ _ _ ⟨rfl, fun x hx => hx, _, _, rfl⟩
    · rintro x ys _ _ ⟨rfl, hys, y12, y16, rfl⟩
      refine ⟨trivial, fun K2 hK2 => ?_⟩
      obtain ⟨j, rfl, j0, j3⟩ := three x (hys x (.head _))
      refine ⟨by simp [rngOk], ?_⟩
      refine for_ind (I := fun xs ρ S' => S = S' ∧ (∀ x, x ∈ xs → x ∈ rngL 0 3) ∧ ∃ y12, ρ = [x0, x1, x2, x3, x4, x5, some (.ref b), some (.int i), x8, x9, x10, x11, y12, x13, x14, x15, some (.int j)]) ?_ ?_ _ _ _ ⟨rfl, fun x hx => hx, _, rfl⟩
      · rintro x zs _ _ ⟨rfl, hzs, y12, rfl⟩
        refine ⟨trivial, fun K3 hK3 => ?_⟩
        obtain ⟨k, rfl, k0, k3⟩ := three x (hzs x (.head _))
        have fin := hK3 _ _ ⟨rfl, fun x hx => hzs x (.tail _ hx), some (.int k), rfl⟩
        walk_at "pv"
        refine hat i j _ i0 i3 j0 j3 ?_
        cases h1 : W i j with
        | false => simpa using fin
        | true =>
          simp only [truQ_b, if_true]
          refine hat j k _ j0 j3 k0 k3 ?_
          cases h2 : W j k with
          | false => simpa using fin
          | true =>
            simp only [truQ_b, if_true]
            refine hat i k _ i0 i3 k0 k3 ?_
            rw [ht i j k i0 i3 j0 j3 k0 k3 h1 h2]
            simpa using fin
      · rintro _ _ ⟨rfl, _, y12, rfl⟩
        exact ⟨trivial, hK2 _ _ ⟨rfl, fun x hx => hys x (.tail _ hx), _, _, rfl⟩⟩
    · rintro _ _ ⟨rfl, _, y12, y16, rfl⟩
      exact ⟨trivial, hK _ _ ⟨rfl, fun x hx => hxs x (.tail _ hx), _, _, _, rfl⟩⟩
  · rintro _ _ ⟨rfl, _, y7, y12, y16, rfl⟩
    exact ⟨trivial, .inl rfl⟩
def csf (s1 s2 s3 : Scm) (i : Int) : Scm := if i = 0 then s1 else if i = 1 then s2 else s3
theorem tail5 {C : Int} {L : Nat} {s1 s2 s3 : Scm} (h1 : s1.Ok 24) (h2 : s2.Ok 24) (h3 : s3.Ok 24) (hC : C < 2 ^ 27) (hst : StB C S) (hat : S[S.length - 1]? = some (.lst [s1.pv, s2.pv, s3.pv])) (hl : 5 < S.length) :
    wpSs (runF tab fns 229) tab t31_5 [x0, some (.ref 2), x2, x3, x4, some (.ref (S.length - 1)), x6, x7, x8, x9, x10, x11, x12, x13, x14, x15, x16] S (DL L) (EL L) := by
  simp only [t31_5]
  walk_at "pv"
  have hS : Stt (S.length - 1) S.length [s1, s2, s3] [] C (S ++ [.dctT []]) := ⟨hst.more, sto_old hat, sto_at rfl⟩
  have ha : S.length - 1 ≠ 2 := by omega
  have hb : S.length ≠ 2 := by omega
  generalize S ++ [Mo.dctT []] = S1 at hS ⊢
  generalize S.length - 1 = a at ha hS ⊢
  generalize S.length = b at hb hS ⊢
  refine ⟨_, hS.2.1, rfl, ⟨hS.2.1, trivial⟩, ?_⟩
  show bindQ (.tp [7, 8]) (.tup [.int 0, s1.pv]) _ _ _
  refine ⟨rfl, ?_⟩
  refine b_ok (i := 0) h1 h1 h2 h3 ha hb (by simp) (by omega) hS fun S2 y1 y2 y3 y4 y5 y6 hS2 => ⟨⟨hS2.2.1, trivial⟩, ?_⟩
  show bindQ (.tp [7, 8]) (.tup [.int 1, s2.pv]) _ _ _
  refine ⟨rfl, ?_⟩
  refine b_ok (i := 1) h2 h1 h2 h3 ha hb ?_ (by omega) hS2 fun S3 y1 y2 y3 y4 y5 y6 hS3 => ⟨⟨hS3.2.1, trivial⟩, ?_⟩
  · simp [putP, getP]
  show bindQ (.tp [7, 8]) (.tup [.int 2, s3.pv]) _ _ _
  refine ⟨rfl, ?_⟩
  refine b_ok (i := 2) h3 h1 h2 h3 ha hb ?_ (by omega) hS3 fun S4 y1 y2 y3 y4 y5 y6 hS4 => ⟨⟨hS4.2.1, trivial⟩, ?_⟩
  · simp [putP, getP]
  have hok : ∀ i, (csf s1 s2 s3 i).Ok 24 := fun i => by unfold csf; split; exact h1; split; exact h2; exact h3
  refine tail7 (W := fun i j => wd (csf s1 s2 s3 i) (csf s1 s2 s3 j)) hS4.2.2 (fun i j i0 i3 j0 j3 => ?_) (fun i _ _ => ?_) (fun i j k _ _ _ _ _ _ e1 e2 => ?_)
  · have hi : i = 0 ∨ i = 1 ∨ i = 2 := by omega
    have hj : j = 0 ∨ j = 1 ∨ j = 2 := by omega
    rcases hi with rfl | rfl | rfl <;> rcases hj with rfl | rfl | rfl <;> simp [getPT_put, csf]
  · exact (wd_iff (hok i)).2 fun x hx => hx
  · exact (wd_iff (hok k)).2 fun x hx => (wd_iff (hok j)).1 e1 x ((wd_iff (hok k)).1 e2 x hx)
theorem tail3 {C : Int} {L : Nat} {s1 s2 : Scm} (h1 : s1.Ok 6) (h2 : s2.Ok 12) (hC : C < 2 ^ 26) (hst : StB C S) :
    wpSs (runF tab fns 229) tab t31_3 [x0, some (.ref 2), some s1.pv, some s2.pv, x4, x5, x6, x7, x8, x9, x10, x11, x12, x13, x14, x15, x16] S (DL L) (EL L) := by
  have fin : ∀ (S' : Store) (s3 : Scm) (C' : Int), C' < 2 ^ 27 → StB C' S' → s3.Ok 24 → wpSs (runF tab fns 229) tab t31_5 [x0, some (.ref 2), some s1.pv, some s2.pv, some s3.pv, some (.ref S'.length), x6, x7, x8, x9, x10, x11, x12, x13, x14, x15, x16] (S' ++ [.lst [s1.pv, s2.pv, s3.pv]]) (DL L) (EL L) := fun S' s3 C' hC' hst' h3 => by
    have hl := hst'.len
    have := tail5 (x0 := x0) (x2 := some s1.pv) (x3 := some s2.pv) (x4 := some s3.pv) (x6 := x6) (x7 := x7) (x8 := x8) (x9 := x9) (x10 := x10) (x11 := x11) (x12 := x12) (x13 := x13) (x14 := x14) (x15 := x15) (x16 := x16) (L := L) (S := S' ++ [.lst [s1.pv, s2.pv, s3.pv]]) (h1.mono (by omega)) (h2.mono (by omega)) h3 hC' hst'.more (by simp) (by simp; omega)
    simpa using this
  simp only [t31_3]
  walk_at "pv"
  refine draw_ok (by omega) (by omega) (by omega) hst fun r o r0 r1 st => ?_
  simp only [eqQ_ii]
  by_cases hr : r = 0
  · refine .inr ⟨by simp [hr], ?_⟩
    refine narrow_ok h2 (by omega) (by omega) (by omega) st fun s3 o3 h3 st3 => ?_
    exact fin _ _ _ (by omega) st3 h3
  · refine .inl ⟨by simp [hr], ?_⟩
    refine scheme_ok (by omega) (by omega) st fun s3 o3 h3 st3 => ?_
    exact fin _ _ _ (by omega) st3 (h3.mono (by omega))
theorem law_main : ∀ ns : List Int, ns.length ≤ 63 → runF G.tab fns 230 31 [.ref 0] [.frz (ns.map PV.int)] (fun v _ => v = .bl true) fun _ _ => False := by
  intro ns hns
  refine run_in (d := f31) rfl rfl fun wf un => ?_
  simp only [f31_eq]
  walk_at "pv"
  refine source_ok fun S hl wfS hst => ?_
  refine scheme_ok (by omega) (by omega) hst fun s1 o1 h1 st1 => ?_
  refine scheme_ok (by omega) (by omega) st1 fun s2 o2 h2 st2 => ?_
  walk_at "pv"
  rw [List.set_set] at st2
  refine draw_ok (by omega) (by omega) (by omega) st2 fun r o r0 r1 st3 => ?_
  simp only [eqQ_ii]
  by_cases hr : r = 0
  · refine .inr ⟨by simp [hr], ?_⟩
    refine narrow_ok h1 (by omega) (by omega) (by omega) st3 fun s2' o3 h3 st4 => ?_
    exact tail3 h1 h3 (by omega) st4
  · refine .inl ⟨by simp [hr], ?_⟩
    exact tail3 h1 (h2.mono (by omega)) (by omega) st3
end K78
namespace K78
open PySem Pv L2
set_option maxHeartbeats 8000000 in
theorem facts {K : PySem.W.Frag} {h : Heap} {mg : Str → Option Value} (X : K.In h) (Gn : h.Ns mainGlobals mg)
    (F0 : FnT K "is_integer" (top 3))
    (F1 : FnT K "is_natural" (top 4))
    (F2 : FnT K "is_row" (top 5))
    (F3 : FnT K "is_ascending" (top 6))
    (F4 : FnT K "note_atoms" (top 12))
    (F5 : FnT K "atom_lot" (top 13))
    (F6 : FnT K "put_atoms" (top 14))
    (F7 : ∃ a, FnTD K "case_dict" (top 15) [.ref a] ∧ TuE K a)
    (F8 : FnT K "table_rows" (top 16))
    (F9 : FnT K "next_atom" (top 17))
    (F10 : FnT K "is_shape" (top 19))
    (F11 : FnT K "check_shape" (top 20))
    (F12 : FnT K "held_atoms" (top 22))
    (F13 : FnT K "instance_dict" (top 23))
    (F14 : FnT K "is_atom_lot" (top 25))
    (F15 : FnT K "is_scheme" (top 26))
    (F16 : FnT K "check_scheme" (top 27))
    (F17 : FnT K "scheme_of" (top 28))
    (F18 : FnT K "is_instance" (top 29))
    (F19 : FnT K "is_wider" (top 30))
    (F20 : FnT K "_law_source" (top 32))
    (F21 : FnT K "_law_draw" (top 33))
    (F22 : FnT K "_law_same" (top 34))
    (F23 : FnT K "_law_any_shape" (top 38))
    (F24 : FnT K "_law_fill" (top 39))
    (F25 : FnT K "_law_atoms" (top 40))
    (F26 : FnT K "_law_match" (top 41))
    (F27 : FnT K "_law_scheme" (top 42))
    (F28 : FnT K "_law_instance" (top 43))
    (F29 : FnT K "_law_narrow" (top 44))
    (F30 : FnT K "_law_due" (top 45))
    (F31 : FnT K "law" (top 46))
    (B0 : BlT K "all")
    (B1 : BlT K "bool")
    (B2 : BlT K "enumerate")
    (B3 : BlT K "int")
    (B4 : BlT K "isinstance")
    (B5 : BlT K "len")
    (B6 : BlT K "list")
    (B7 : BlT K "max")
    (B8 : BlT K "range")
    (B9 : BlT K "set")
    (B10 : BlT K "sorted")
    (B11 : BlT K "str")
    (B12 : BlT K "tuple")
    (B13 : BlT K "zip")
    (E0 : ExT K "UseError")
    (E1 : ExT K "InvalidShape")
    (E2 : ExT K "InvalidScheme")
    (E3 : ExT K "InvalidFixed")
    : Facts K mg G blts rows where
  fn := fun i r h => by
    match i, h with
    | 0, h => cases h; exact fnAt_of X Gn F0 (fun _ _ _ _ _ _ us hl => match us, hl with | [_], _ => rfl)
    | 1, h => cases h; exact fnAt_of X Gn F1 (fun _ _ _ _ _ _ us hl => match us, hl with | [_], _ => rfl)
    | 2, h => cases h; exact fnAt_of X Gn F2 (fun _ _ _ _ _ _ us hl => match us, hl with | [_, _], _ => rfl)
    | 3, h => cases h; exact fnAt_of X Gn F3 (fun _ _ _ _ _ _ us hl => match us, hl with | [_], _ => rfl)
    | 4, h => cases h; exact fnAt_of X Gn F4 (fun _ _ _ _ _ _ us hl => match us, hl with | [_, _], _ => rfl)
    | 5, h => cases h; exact fnAt_of X Gn F5 (fun _ _ _ _ _ _ us hl => match us, hl with | [_], _ => rfl)
    | 6, h => cases h; exact fnAt_of X Gn F6 (fun _ _ _ _ _ _ us hl => match us, hl with | [_, _], _ => rfl)
    | 7, h => cases h; exact (let ⟨_, F2, F1⟩ := F7; fnAtD_of X Gn F2 (fun H m => .cons (F1.rep H m) .nil) (fun j hj => by
      match j, hj with
      | 0, _ => exact fun _ _ _ _ _ _ _ us its hu hi => match us, its, hu, hi with | [_, _, _], [_], _, _ => ⟨_, rfl, rfl⟩
      | 1, _ => exact fun _ _ _ _ _ _ _ us its hu hi => match us, its, hu, hi with | [_, _], [_], _, _ => ⟨_, rfl, rfl⟩
      | n + 2, h => exact absurd h (by simp)))
    | 8, h => cases h; exact fnAt_of X Gn F8 (fun _ _ _ _ _ _ us hl => match us, hl with | [_], _ => rfl)
    | 9, h => cases h; exact fnAt_of X Gn F9 (fun _ _ _ _ _ _ us hl => match us, hl with | [_], _ => rfl)
    | 10, h => cases h; exact fnAt_of X Gn F10 (fun _ _ _ _ _ _ us hl => match us, hl with | [_], _ => rfl)
    | 11, h => cases h; exact fnAt_of X Gn F11 (fun _ _ _ _ _ _ us hl => match us, hl with | [_], _ => rfl)
    | 12, h => cases h; exact fnAt_of X Gn F12 (fun _ _ _ _ _ _ us hl => match us, hl with | [_], _ => rfl)
    | 13, h => cases h; exact fnAt_of X Gn F13 (fun _ _ _ _ _ _ us hl => match us, hl with | [_, _], _ => rfl)
    | 14, h => cases h; exact fnAt_of X Gn F14 (fun _ _ _ _ _ _ us hl => match us, hl with | [_], _ => rfl)
    | 15, h => cases h; exact fnAt_of X Gn F15 (fun _ _ _ _ _ _ us hl => match us, hl with | [_], _ => rfl)
    | 16, h => cases h; exact fnAt_of X Gn F16 (fun _ _ _ _ _ _ us hl => match us, hl with | [_], _ => rfl)
    | 17, h => cases h; exact fnAt_of X Gn F17 (fun _ _ _ _ _ _ us hl => match us, hl with | [_, _], _ => rfl)
    | 18, h => cases h; exact fnAt_of X Gn F18 (fun _ _ _ _ _ _ us hl => match us, hl with | [_, _], _ => rfl)
    | 19, h => cases h; exact fnAt_of X Gn F19 (fun _ _ _ _ _ _ us hl => match us, hl with | [_, _], _ => rfl)
    | 20, h => cases h; exact fnAt_of X Gn F20 (fun _ _ _ _ _ _ us hl => match us, hl with | [_], _ => rfl)
    | 21, h => cases h; exact fnAt_of X Gn F21 (fun _ _ _ _ _ _ us hl => match us, hl with | [_, _], _ => rfl)
    | 22, h => cases h; exact fnAt_of X Gn F22 (fun _ _ _ _ _ _ us hl => match us, hl with | [_, _], _ => rfl)
    | 23, h => cases h; exact fnAt_of X Gn F23 (fun _ _ _ _ _ _ us hl => match us, hl with | [_, _, _], _ => rfl)
    | 24, h => cases h; exact fnAt_of X Gn F24 (fun _ _ _ _ _ _ us hl => match us, hl with | [_, _], _ => rfl)
    | 25, h => cases h; exact fnAt_of X Gn F25 (fun _ _ _ _ _ _ us hl => match us, hl with | [_], _ => rfl)
    | 26, h => cases h; exact fnAt_of X Gn F26 (fun _ _ _ _ _ _ us hl => match us, hl with | [_, _, _, _], _ => rfl)
    | 27, h => cases h; exact fnAt_of X Gn F27 (fun _ _ _ _ _ _ us hl => match us, hl with | [_], _ => rfl)
    | 28, h => cases h; exact fnAt_of X Gn F28 (fun _ _ _ _ _ _ us hl => match us, hl with | [_, _, _], _ => rfl)
    | 29, h => cases h; exact fnAt_of X Gn F29 (fun _ _ _ _ _ _ us hl => match us, hl with | [_, _], _ => rfl)
    | 30, h => cases h; exact fnAt_of X Gn F30 (fun _ _ _ _ _ _ us hl => match us, hl with | [_, _], _ => rfl)
    | 31, h => cases h; exact fnAt_of X Gn F31 (fun _ _ _ _ _ _ us hl => match us, hl with | [_], _ => rfl)
    | n + 32, h => simp [rows] at h
  blt := fun x hx => by
    simp only [blts, List.mem_cons, List.not_mem_nil, or_false] at hx
    rcases hx with rfl | rfl | rfl | rfl | rfl | rfl | rfl | rfl | rfl | rfl | rfl | rfl | rfl | rfl
    · exact bl_of X Gn B0
    · exact bl_of X Gn B1
    · exact bl_of X Gn B2
    · exact bl_of X Gn B3
    · exact bl_of X Gn B4
    · exact bl_of X Gn B5
    · exact bl_of X Gn B6
    · exact bl_of X Gn B7
    · exact bl_of X Gn B8
    · exact bl_of X Gn B9
    · exact bl_of X Gn B10
    · exact bl_of X Gn B11
    · exact bl_of X Gn B12
    · exact bl_of X Gn B13
  exc := fun c x h => by
    match c, h with
    | 0, h => cases h; exact ex_of X Gn E0
    | 1, h => cases h; exact ex_of X Gn E1
    | 2, h => cases h; exact ex_of X Gn E2
    | 3, h => cases h; exact ex_of X Gn E3
    | n + 4, h => simp [G] at h
  excF := fun c x f h => by
    match c, h with
    | 0, h => cases h
    | 1, h => cases h
    | 2, h => cases h
    | 3, h => cases h
    | n + 4, h => simp [G] at h
  cat := fun c d x y fo fo' cv dv hm h1 h2 h3 h4 => by
    cases hm
  con := fun x pv h => by
    cases h
  ck := fun x t h => by
    cases h
end K78
open PySem PySem.W PyProof.Rows
set_option maxRecDepth 100000 in
set_option maxHeartbeats 0 in
theorem PySem.Challenge.cw_usedapart_k78_whole_wider_schemes_holds : PySem.Challenge.rw_usedapart_k78_whole_wider_schemes.Holds := by
  w_on; o_law; k_head; (case hw => w_witness2)
  k_fill
  refine Pv.walk (l := PySem.Challenge.rw_usedapart_k78_whole_wider_schemes) (k := 230) (x := "script") rfl rfl (fun w h Y => PySem.W.kIn_of Y) ⟨rfl, by decide, by decide⟩ ?F
  case F =>
    intro w mg fa h KX G hmg
    refine Pv.law_end (st := K78.top 46) KX G K78.tab_ok (K78.facts KX G ?f0 ?f1 ?f2 ?f3 ?f4 ?f5 ?f6 ?f7 ?f8 ?f9 ?f10 ?f11 ?f12 ?f13 ?f14 ?f15 ?f16 ?f17 ?f18 ?f19 ?f20 ?f21 ?f22 ?f23 ?f24 ?f25 ?f26 ?f27 ?f28 ?f29 ?f30 ?f31 ?b0 ?b1 ?b2 ?b3 ?b4 ?b5 ?b6 ?b7 ?b8 ?b9 ?b10 ?b11 ?b12 ?b13 ?e0 ?e1 ?e2 ?e3) ?fl hmg (i := 31) rfl (fun _ _ _ _ _ _ _ => rfl) K78.law_main
    (case fl => exact ⟨_, _, _, _, _, _, _, _, _, _, by k_is, by k_is, by k_is, by k_is⟩)
    (case f0 => exact ⟨_, _, _, _, _, _, _, _, _, _, by k_is, by k_is, by k_is, by k_is⟩)
    (case f1 => exact ⟨_, _, _, _, _, _, _, _, _, _, by k_is, by k_is, by k_is, by k_is⟩)
    (case f2 => exact ⟨_, _, _, _, _, _, _, _, _, _, by k_is, by k_is, by k_is, by k_is⟩)
    (case f3 => exact ⟨_, _, _, _, _, _, _, _, _, _, by k_is, by k_is, by k_is, by k_is⟩)
    (case f4 => exact ⟨_, _, _, _, _, _, _, _, _, _, by k_is, by k_is, by k_is, by k_is⟩)
    (case f5 => exact ⟨_, _, _, _, _, _, _, _, _, _, by k_is, by k_is, by k_is, by k_is⟩)
    (case f6 => exact ⟨_, _, _, _, _, _, _, _, _, _, by k_is, by k_is, by k_is, by k_is⟩)
    (case f7 => exact ⟨_, ⟨_, _, _, _, _, _, _, _, _, _, _, _, [_], _, by k_is, by k_is, by k_is, by k_is, by k_is, rfl, (.cons rfl .nil)⟩, ⟨_, #[], _, by k_is, by rfl, by rfl, by rfl, by decide, .nil⟩⟩)
    (case f8 => exact ⟨_, _, _, _, _, _, _, _, _, _, by k_is, by k_is, by k_is, by k_is⟩)
    (case f9 => exact ⟨_, _, _, _, _, _, _, _, _, _, by k_is, by k_is, by k_is, by k_is⟩)
    (case f10 => exact ⟨_, _, _, _, _, _, _, _, _, _, by k_is, by k_is, by k_is, by k_is⟩)
    (case f11 => exact ⟨_, _, _, _, _, _, _, _, _, _, by k_is, by k_is, by k_is, by k_is⟩)
    (case f12 => exact ⟨_, _, _, _, _, _, _, _, _, _, by k_is, by k_is, by k_is, by k_is⟩)
    (case f13 => exact ⟨_, _, _, _, _, _, _, _, _, _, by k_is, by k_is, by k_is, by k_is⟩)
    (case f14 => exact ⟨_, _, _, _, _, _, _, _, _, _, by k_is, by k_is, by k_is, by k_is⟩)
    (case f15 => exact ⟨_, _, _, _, _, _, _, _, _, _, by k_is, by k_is, by k_is, by k_is⟩)
    (case f16 => exact ⟨_, _, _, _, _, _, _, _, _, _, by k_is, by k_is, by k_is, by k_is⟩)
    (case f17 => exact ⟨_, _, _, _, _, _, _, _, _, _, by k_is, by k_is, by k_is, by k_is⟩)
    (case f18 => exact ⟨_, _, _, _, _, _, _, _, _, _, by k_is, by k_is, by k_is, by k_is⟩)
    (case f19 => exact ⟨_, _, _, _, _, _, _, _, _, _, by k_is, by k_is, by k_is, by k_is⟩)
    (case f20 => exact ⟨_, _, _, _, _, _, _, _, _, _, by k_is, by k_is, by k_is, by k_is⟩)
    (case f21 => exact ⟨_, _, _, _, _, _, _, _, _, _, by k_is, by k_is, by k_is, by k_is⟩)
    (case f22 => exact ⟨_, _, _, _, _, _, _, _, _, _, by k_is, by k_is, by k_is, by k_is⟩)
    (case f23 => exact ⟨_, _, _, _, _, _, _, _, _, _, by k_is, by k_is, by k_is, by k_is⟩)
    (case f24 => exact ⟨_, _, _, _, _, _, _, _, _, _, by k_is, by k_is, by k_is, by k_is⟩)
    (case f25 => exact ⟨_, _, _, _, _, _, _, _, _, _, by k_is, by k_is, by k_is, by k_is⟩)
    (case f26 => exact ⟨_, _, _, _, _, _, _, _, _, _, by k_is, by k_is, by k_is, by k_is⟩)
    (case f27 => exact ⟨_, _, _, _, _, _, _, _, _, _, by k_is, by k_is, by k_is, by k_is⟩)
    (case f28 => exact ⟨_, _, _, _, _, _, _, _, _, _, by k_is, by k_is, by k_is, by k_is⟩)
    (case f29 => exact ⟨_, _, _, _, _, _, _, _, _, _, by k_is, by k_is, by k_is, by k_is⟩)
    (case f30 => exact ⟨_, _, _, _, _, _, _, _, _, _, by k_is, by k_is, by k_is, by k_is⟩)
    (case f31 => exact ⟨_, _, _, _, _, _, _, _, _, _, by k_is, by k_is, by k_is, by k_is⟩)
    (case b0 => unfold Pv.BlT; k_is)
    (case b1 => unfold Pv.BlT; k_is)
    (case b2 => unfold Pv.BlT; k_is)
    (case b3 => unfold Pv.BlT; k_is)
    (case b4 => unfold Pv.BlT; k_is)
    (case b5 => unfold Pv.BlT; k_is)
    (case b6 => unfold Pv.BlT; k_is)
    (case b7 => unfold Pv.BlT; k_is)
    (case b8 => unfold Pv.BlT; k_is)
    (case b9 => unfold Pv.BlT; k_is)
    (case b10 => unfold Pv.BlT; k_is)
    (case b11 => unfold Pv.BlT; k_is)
    (case b12 => unfold Pv.BlT; k_is)
    (case b13 => unfold Pv.BlT; k_is)
    (case e0 => exact ⟨_, by k_is, by k_exc, by k_is, by k_is, by k_is⟩)
    (case e1 => exact ⟨_, by k_is, by k_exc, by k_is, by k_is, by k_is⟩)
    (case e2 => exact ⟨_, by k_is, by k_exc, by k_is, by k_is, by k_is⟩)
    (case e3 => exact ⟨_, by k_is, by k_exc, by k_is, by k_is, by k_is⟩)
