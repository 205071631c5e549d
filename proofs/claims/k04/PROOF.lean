import PyProof.Rows.All
import Wide.All
import OpenK.AllK
import Wide.FinOn
import HandS.ForMost
import HandS.ForExc
import HandS.TupAny
import HandS.Deep
import HandS.IsInst
import HandS.Zip
import HandS.TupLe
import HandS.Flow
import HandS.ExcField
import HandS.TryOnly
import HandS.More
import HandS.SortInts
import HandS.WordsDict
import HandS.Style
import HandS.Rev
import HandS.RevTup
import HandS.Small
import PySem.Challenge.RW_usedapart_k04_combinators
set_option Elab.async false
set_option linter.all false
set_option maxRecDepth 100000
/-! Pv1: pure values, stores, the small language, its meaning (no machine in sight). -/
namespace Pv
open PySem

/-- a value: tuples are trees, a changeable object is a number in the store -/
inductive PV where
  | non | bl (b : Bool) | int (i : Int) | str (x : Str) | tup (xs : List PV) | ref (i : Nat)
  deriving Inhabited
/-- what the store holds -/
inductive Mo where
  | lst (xs : List PV) | frz (xs : List PV) | dct (kvs : List (L2.Key × PV))
  deriving Inhabited
abbrev Store := List Mo
abbrev Env := List (Option PV)
/-- an exception: its class's number, its field -/
structure PEx where
  cls : Nat
  fld : Option PV
abbrev PQ := PV → Store → Prop
abbrev PX := PEx → Store → Prop
abbrev PEX := PEx → Env → Store → Prop
abbrev Call := Nat → List PV → Store → PQ → PX → Prop

mutual
/-- all references are below n -/
def PV.under (n : Nat) : PV → Bool
  | .ref i => decide (i < n)
  | .tup xs => PV.underL n xs
  | .non | .bl _ | .int _ | .str _ => true
def PV.underL (n : Nat) : List PV → Bool
  | [] => true
  | x :: xs => PV.under n x && PV.underL n xs
end
mutual
/-- as data; a reference is nothing that can be laid -/
def PV.toD : PV → PyData
  | .non => .none
  | .bl b => .bool b
  | .int i => .int i
  | .str x => .str x
  | .tup xs => .tuple (PV.toDs xs)
  | .ref _ => .dict []
def PV.toDs : List PV → List PyData
  | [] => []
  | x :: xs => PV.toD x :: PV.toDs xs
end
def Mo.items : Mo → List PV
  | .lst xs => xs
  | .frz xs => xs
  | .dct _ => []
/-- what a thing holds -/
def Mo.vals : Mo → List PV
  | .lst xs => xs
  | .frz xs => xs
  | .dct kvs => kvs.map (·.2)
/-- a list -/
def Mo.sq : Mo → Bool
  | .dct _ => false
  | _ => true
/-- may be written -/
def Mo.mut : Mo → Bool
  | .frz _ => false
  | _ => true
def Mo.under (n : Nat) (o : Mo) : Bool := PV.underL n o.vals
def wfAt (n : Nat) (S : Store) : Bool := S.all (Mo.under n)
abbrev WfS (S : Store) : Prop := wfAt S.length S = true

/-! ### the language -/
inductive BOp where
  | add | sub | mul | fdiv | mod | pow
  deriving DecidableEq
inductive COp where
  | eq | ne | lt | le | gt | ge | is | isnot | isin | notin
  deriving DecidableEq
/-- built-in functions by name -/
inductive Bi where
  | len | max2 | min2 | int1 | list1 | tuple1 | all1 | any1 | sum1 | list0 | tuple0 | sorted1 | max1 | min1
  deriving DecidableEq
/-- methods of lists -/
inductive Mt where
  | append | index | count | pop | extend
  deriving DecidableEq
/-- built-in classes that isinstance is asked about -/
inductive Ty where
  | tInt | tStr | tBool | tTuple | tList
  deriving DecidableEq
inductive Tg where
  | nm (i : Nat) | tp (is : List Nat)
mutual
inductive IE where
  | var (i : Nat)
  | cst (v : PV)
  | tup (es : IEs)
  | lst (es : IEs)
  | bin (o : BOp) (a b : IE)
  | neg (a : IE)
  | cmp (o : COp) (a b : IE)
  | chain (o p : COp) (a b c : IE)
  | and (a b : IE)
  | or (a b : IE)
  | not (a : IE)
  | ifx (t a b : IE)
  | idxc (a : IE) (n : Nat)
  | idx (a b : IE)
  | slice (a : IE) (lo hi : IOp)
  | call (f : Nat) (es : IEs) (ds : List PV)
  | bi (b : Bi) (es : IEs)
  | meth (m : Mt) (a : IE) (es : IEs)
  | isin (a : IE) (t : Ty)
  | fld (i : Nat)
  | lc (vs : List Nat) (tg : Tg) (it : II) (ifs : IEs) (elt : IE)
  | dct (ks : List L2.Key) (es : IEs)
  | get2 (a k d : IE)
  | rev (a : IE)
inductive IEs where
  | nil | cons (e : IE) (es : IEs)
inductive IOp where
  | no | so (e : IE)
inductive II where
  | val (a : IE) | rng1 (a : IE) | rng2 (a b : IE) | enum (a : IE) | zip (a b : IE)
end

/-! ### operations on values -/
def atPV (xs : List PV) (i : Int) : Option PV := L2.atI xs i
def cutPV (xs : List PV) (lo hi : Option Int) : List PV := (xs.drop (HT.sIx xs.length 0 lo)).take (HT.sIx xs.length xs.length hi - HT.sIx xs.length 0 lo)

/-! dicts -/
def keyPV : L2.Key → PV
  | .inl i => .int i
  | .inr x => .str x
def keyOf : PV → Option L2.Key
  | .int i => some (.inl i)
  | .str x => some (.inr x)
  | _ => none
def keysP (kvs : List (L2.Key × PV)) : List PV := kvs.map fun kv => keyPV kv.1
def getP : List (L2.Key × PV) → L2.Key → Option PV
  | [], _ => none
  | (j, v) :: r, k => if j = k then some v else getP r k
def setP (k : L2.Key) (v : PV) : List (L2.Key × PV) → List (L2.Key × PV)
  | [] => []
  | (j, w) :: r => if j = k then (j, v) :: setP k v r else (j, w) :: setP k v r
def putP (kvs : List (L2.Key × PV)) (k : L2.Key) (v : PV) : List (L2.Key × PV) := if (getP kvs k).isSome then setP k v kvs else kvs ++ [(k, v)]
def mkD : List L2.Key → List PV → List (L2.Key × PV) → List (L2.Key × PV)
  | k :: ks, v :: vs, acc => mkD ks vs (putP acc k v)
  | _, _, acc => acc
/-- the list of what a walk meets -/
def Mo.its : Mo → List PV
  | .lst xs => xs
  | .frz xs => xs
  | .dct kvs => keysP kvs
def Mo.atQ : Mo → PV → (PV → Prop) → Prop
  | .lst xs, .int k, R => ∃ x, atPV xs k = some x ∧ R x
  | .frz xs, .int k, R => ∃ x, atPV xs k = some x ∧ R x
  | .dct kvs, w, R => ∃ k x, keyOf w = some k ∧ getP kvs k = some x ∧ R x
  | _, _, _ => False
def Mo.putQ : Mo → PV → PV → (Mo → Prop) → Prop
  | .lst xs, .int k, v, R => ∃ j, L2.ixN xs.length k = some j ∧ R (.lst (xs.set j v))
  | .dct kvs, w, v, R => ∃ k, keyOf w = some k ∧ kvs.length < sizeLine ∧ R (.dct (putP kvs k v))
  | _, _, _, _ => False
def isDQ : PV → Store → Prop
  | .ref i, S => ∃ kvs, S[i]? = some (.dct kvs)
  | _, _ => False
def dgetQ : PV → PV → Store → (Option PV → Prop) → Prop
  | .ref i, w, S, R => ∃ kvs k, S[i]? = some (.dct kvs) ∧ keyOf w = some k ∧ R (getP kvs k)
  | _, _, _, _ => False
def dputQ : PV → PV → PV → Store → (Store → Prop) → Prop
  | .ref i, w, v, S, R => ∃ kvs k, S[i]? = some (.dct kvs) ∧ keyOf w = some k ∧ kvs.length < sizeLine ∧ R (S.set i (.dct (putP kvs k v)))
  | _, _, _, _, _ => False
def addQ : PV → PV → Store → PQ → Prop
  | .int i, .int j, S, Q => Q (.int (i + j)) S
  | .tup xs, .tup ys, S, Q => xs.length + ys.length ≤ sizeLine ∧ Q (.tup (xs ++ ys)) S
  | .str x, .str y, S, Q => x.length + y.length ≤ sizeLine ∧ Q (.str (x ++ y)) S
  | .ref i, .ref j, S, Q => ∃ xs ys, S[i]? = some (.lst xs) ∧ S[j]? = some (.lst ys) ∧ xs.length + ys.length ≤ sizeLine ∧ Q (.ref S.length) (S ++ [.lst (xs ++ ys)])
  | _, _, _, _ => False
def intQ (C : Int → Int → Prop) (f : Int → Int → PV) : PV → PV → Store → PQ → Prop
  | .int i, .int j, S, Q => C i j ∧ Q (f i j) S
  | _, _, _, _ => False
def binQ : BOp → PV → PV → Store → PQ → Prop
  | .add => addQ
  | .sub => intQ (fun _ _ => True) fun i j => .int (i - j)
  | .mul => intQ L2.CMul fun i j => .int (i * j)
  | .fdiv => intQ L2.CDiv fun i j => .int (i / j)
  | .mod => intQ (fun _ j => 0 < j) fun i j => .int (i % j)
  | .pow => intQ L2.CPow fun i j => .int (i ^ j.toNat)
/-- v op= w, of ints -/
def augQ : BOp → PV → PV → Store → PQ → Prop
  | .add => intQ (fun _ _ => True) fun i j => .int (i + j)
  | .sub => intQ (fun _ _ => True) fun i j => .int (i - j)
  | _ => fun _ _ _ _ => False
def eqOk (v w : PV) : Prop := v.toD.canLay0 = true ∧ w.toD.canLay0 = true ∧ min v.toD.depth w.toD.depth ≤ 64
def eqB (v w : PV) : Bool := PyData.eqv v.toD w.toD
def eqQ (f : Bool → Bool) : PV → PV → Store → PQ → Prop
  | .str x, .str y, S, Q => Q (.bl (f (decide (x = y)))) S
  | .int i, .int j, S, Q => Q (.bl (f (decide (i = j)))) S
  | v, w, S, Q => eqOk v w ∧ Q (.bl (f (eqB v w))) S
def isQ (f : Bool → Bool) : PV → PV → Store → PQ → Prop
  | .bl a, .bl b, S, Q => Q (.bl (f (decide (a = b)))) S
  | .non, .non, S, Q => Q (.bl (f true)) S
  | .non, .bl _, S, Q => Q (.bl (f false)) S
  | .bl _, .non, S, Q => Q (.bl (f false)) S
  | .int _, .non, S, Q => Q (.bl (f false)) S
  | .str _, .non, S, Q => Q (.bl (f false)) S
  | .tup _, .non, S, Q => Q (.bl (f false)) S
  | .ref _, .non, S, Q => Q (.bl (f false)) S
  | .int _, .bl _, S, Q => Q (.bl (f false)) S
  | .str _, .bl _, S, Q => Q (.bl (f false)) S
  | .tup _, .bl _, S, Q => Q (.bl (f false)) S
  | .ref _, .bl _, S, Q => Q (.bl (f false)) S
  | _, _, _, _ => False
def flatP : PV → Bool
  | .non | .bl _ | .int _ | .str _ => true
  | _ => false
/-- x in a tuple, a list: of flat values -/
def eqF (v w : PV) : Bool := PyData.eqv v.toD w.toD
def inB (v : PV) (xs : List PV) : Bool := xs.any fun z => eqF z v
def inOk (v : PV) (xs : List PV) : Prop := flatP v = true ∧ xs.all flatP = true
def Mo.inQ (v : PV) : Mo → (Bool → Prop) → Prop
  | .lst xs, R => inOk v xs ∧ R (inB v xs)
  | .frz xs, R => inOk v xs ∧ R (inB v xs)
  | .dct kvs, R => ∃ k, keyOf v = some k ∧ R (getP kvs k).isSome
def inQ (f : Bool → Bool) : PV → PV → Store → PQ → Prop
  | v, .tup xs, S, Q => inOk v xs ∧ Q (.bl (f (inB v xs))) S
  | v, .ref i, S, Q => ∃ o, S[i]? = some o ∧ o.inQ v fun b => Q (.bl (f b)) S
  | _, _, _, _ => False
def cmpQ : COp → PV → PV → Store → PQ → Prop
  | .eq => eqQ fun b => b
  | .ne => eqQ fun b => !b
  | .lt => intQ (fun _ _ => True) fun i j => .bl (decide (i < j))
  | .le => intQ (fun _ _ => True) fun i j => .bl (decide (i ≤ j))
  | .gt => intQ (fun _ _ => True) fun i j => .bl (decide (j < i))
  | .ge => intQ (fun _ _ => True) fun i j => .bl (decide (j ≤ i))
  | .is => isQ fun b => b
  | .isnot => isQ fun b => !b
  | .isin => inQ fun b => b
  | .notin => inQ fun b => !b
def truQ : PV → Store → (Bool → Prop) → Prop
  | .bl b, _, Q => Q b
  | .non, _, Q => Q false
  | .int i, _, Q => Q (i != 0)
  | .tup xs, _, Q => Q (!xs.isEmpty)
  | .str x, _, Q => x.length ≤ sizeLine ∧ Q ((x.length : Int) != 0)
  | .ref i, S, Q => ∃ o, S[i]? = some o ∧ o.sq = true ∧ Q (!o.items.isEmpty)
/-- the items of a list or a tuple -/
def seqQ : PV → Store → (List PV → Prop) → Prop
  | .tup xs, _, Q => Q xs
  | .ref i, S, Q => ∃ o, S[i]? = some o ∧ o.sq = true ∧ Q o.items
  | _, _, _ => False
def idxcQ (n : Nat) (v : PV) (S : Store) (Q : PQ) : Prop := seqQ v S fun xs => ∃ x, xs[n]? = some x ∧ Q x S
def idxQ : PV → PV → Store → PQ → Prop
  | .tup xs, .int k, S, Q => ∃ x, atPV xs k = some x ∧ Q x S
  | .ref i, w, S, Q => ∃ o, S[i]? = some o ∧ o.atQ w fun x => Q x S
  | .str z, .int k, S, Q => z.length ≤ sizeLine ∧ ∃ c, L2.atI z.cps.toList k = some c ∧ Q (.str ⟨#[c]⟩) S
  | _, _, _, _ => False
def sliceQ : PV → Option Int → Option Int → Store → PQ → Prop
  | .tup xs, lo, hi, S, Q => Q (.tup (cutPV xs lo hi)) S
  | .ref i, lo, hi, S, Q => ∃ o, S[i]? = some o ∧ o.sq = true ∧ Q (.ref S.length) (S ++ [.lst (cutPV o.items lo hi)])
  | _, _, _, _, _ => False
def Ty.b : Ty → PV → Store → (Bool → Prop) → Prop
  | .tInt, .int _, _, Q => Q true
  | .tInt, .bl _, _, Q => Q true
  | .tBool, .bl _, _, Q => Q true
  | .tStr, .str _, _, Q => Q true
  | .tTuple, .tup _, _, Q => Q true
  | t, .ref i, S, Q => ∃ o, S[i]? = some o ∧ o.sq = true ∧ Q (decide (t = .tList))
  | _, _, _, Q => Q false
def allBl : List PV → Option Bool
  | [] => some true
  | .bl b :: r => (allBl r).map (b && ·)
  | _ => none
def anyBl : List PV → Option Bool
  | [] => some false
  | .bl b :: r => (anyBl r).map (b || ·)
  | _ => none
def sumI : List PV → Option Int
  | [] => some 0
  | .int i :: r => (sumI r).map (i + ·)
  | _ => none
def intsP : List PV → Option (List Int)
  | [] => some []
  | .int i :: r => (intsP r).map (i :: ·)
  | _ => none
def insI (i : Int) : List Int → List Int
  | [] => [i]
  | j :: r => if i ≤ j then i :: j :: r else j :: insI i r
def sortI : List Int → List Int
  | [] => []
  | i :: r => insI i (sortI r)
def maxL : List Int → Option Int
  | [] => none
  | [i] => some i
  | i :: j :: r => (maxL (j :: r)).map fun m => if i < m then m else i
def minL : List Int → Option Int
  | [] => none
  | [i] => some i
  | i :: j :: r => (minL (j :: r)).map fun m => if m < i then m else i
def revQ : PV → Store → PQ → Prop
  | .ref i, S, Q => ∃ o, S[i]? = some o ∧ o.sq = true ∧ Q (.ref S.length) (S ++ [.lst o.items.reverse])
  | _, _, _ => False
def biQ : Bi → List PV → Store → PQ → Prop
  | .len, [.str x], S, Q => x.length ≤ sizeLine ∧ Q (.int (x.length : Nat)) S
  | .len, [.tup xs], S, Q => Q (.int (xs.length : Nat)) S
  | .len, [.ref i], S, Q => ∃ o, S[i]? = some o ∧ Q (.int (o.its.length : Nat)) S
  | .max2, [.int i, .int j], S, Q => Q (.int (if j > i then j else i)) S
  | .min2, [.int i, .int j], S, Q => Q (.int (if j < i then j else i)) S
  | .int1, [.int i], S, Q => Q (.int i) S
  | .int1, [.bl b], S, Q => Q (.int (if b then 1 else 0)) S
  | .list1, [.tup xs], S, Q => Q (.ref S.length) (S ++ [.lst xs])
  | .list1, [.ref i], S, Q => ∃ o, S[i]? = some o ∧ Q (.ref S.length) (S ++ [.lst o.its])
  | .tuple1, [v], S, Q => seqQ v S fun xs => Q (.tup xs) S
  | .all1, [.ref i], S, Q => ∃ o, S[i]? = some o ∧ o.sq = true ∧ ∃ b, allBl o.items = some b ∧ Q (.bl b) S
  | .any1, [.ref i], S, Q => ∃ o, S[i]? = some o ∧ o.sq = true ∧ ∃ b, anyBl o.items = some b ∧ Q (.bl b) S
  | .sum1, [.ref i], S, Q => ∃ o, S[i]? = some o ∧ o.sq = true ∧ ∃ n, sumI o.items = some n ∧ Q (.int n) S
  | .sorted1, [.ref i], S, Q => ∃ o, S[i]? = some o ∧ ∃ ns, intsP o.its = some ns ∧ (o.sq = true ∨ ns.length < 64) ∧ Q (.ref S.length) (S ++ [.lst ((sortI ns).map .int)])
  | .max1, [.ref i], S, Q => ∃ o, S[i]? = some o ∧ o.sq = true ∧ ∃ ns m, intsP o.items = some ns ∧ maxL ns = some m ∧ Q (.int m) S
  | .min1, [.ref i], S, Q => ∃ o, S[i]? = some o ∧ o.sq = true ∧ ∃ ns m, intsP o.items = some ns ∧ minL ns = some m ∧ Q (.int m) S
  | .list0, [], S, Q => Q (.ref S.length) (S ++ [.lst []])
  | .tuple0, [], S, Q => Q (.tup []) S
  | _, _, _, _ => False
def mtQ : Mt → Nat → List PV → Store → PQ → Prop
  | .append, i, [v], S, Q => ∃ xs, S[i]? = some (.lst xs) ∧ xs.length < sizeLine ∧ Q .non (S.set i (.lst (xs ++ [v])))
  | .index, i, [v], S, Q => ∃ o, S[i]? = some o ∧ o.sq = true ∧ inOk v o.items ∧ ∃ j, o.items.findIdx? (fun z => eqF z v) = some j ∧ Q (.int (j : Nat)) S
  | .count, i, [v], S, Q => ∃ o, S[i]? = some o ∧ o.sq = true ∧ inOk v o.items ∧ Q (.int ((o.items.countP fun z => eqF z v : Nat))) S
  | .extend, i, [.ref j], S, Q => ∃ xs ys, S[i]? = some (.lst xs) ∧ S[j]? = some (.lst ys) ∧ xs.length + ys.length ≤ sizeLine ∧ Q .non (S.set i (.lst (xs ++ ys)))
  | .pop, i, [], S, Q => ∃ xs y, S[i]? = some (.lst xs) ∧ xs[xs.length - 1]? = some y ∧ Q y (S.set i (.lst xs.dropLast))
  | _, _, _, _, _ => False
def enumL : Nat → List PV → List PV
  | _, [] => []
  | k, x :: xs => .tup [.int k, x] :: enumL (k + 1) xs
def zipL : List PV → List PV → List PV
  | x :: xs, y :: ys => .tup [x, y] :: zipL xs ys
  | _, _ => []
/-- the list object that is walked and must stay as it is -/
abbrev Src := List (Nat × Mo)
def srcOk : Src → Store → Prop
  | [], _ => True
  | (i, o) :: r, S => S[i]? = some o ∧ srcOk r S
def iterQ : PV → Store → (Src → List PV → Prop) → Prop
  | .tup xs, _, Q => Q [] xs
  | .ref i, S, Q => ∃ o, S[i]? = some o ∧ o.sq = true ∧ Q [(i, o)] o.items
  | _, _, _ => False
def zipQ : PV → PV → Store → (Src → List PV → Prop) → Prop
  | .tup xs, .tup ys, _, Q => Q [] (zipL xs ys)
  | .ref i, .ref j, S, Q => ∃ o u, S[i]? = some o ∧ S[j]? = some u ∧ o.sq = true ∧ u.sq = true ∧ Q [(i, o), (j, u)] (zipL o.items u.items)
  | _, _, _, _ => False
def rngL (lo hi : Int) : List PV := (List.range (hi - lo).toNat).map fun (k : Nat) => .int (lo + k)
def rngOk (i : Int) : Prop := -(2 ^ 62) ≤ i ∧ i < 2 ^ 62
def setAll : List Nat → List PV → Env → Env
  | i :: is, v :: vs, ρ => setAll is vs (ρ.set i (some v))
  | _, _, ρ => ρ
def bindQ : Tg → PV → Env → (Env → Prop) → Prop
  | .nm i, v, ρ, Q => Q (ρ.set i (some v))
  | .tp is, .tup vs, ρ, Q => vs.length = is.length ∧ Q (setAll is vs ρ)
  | _, _, _, _ => False
def wipeP (ρ : Env) : List Nat → Env
  | [] => ρ
  | v :: vs => (wipeP ρ vs).set v none
def varQ (i : Nat) (ρ : Env) (Q : PV → Prop) : Prop :=
  match ρ[i]? with
  | some (some v) => Q v
  | _ => False
/-- the walk of a comprehension: d is the number of the list that it makes -/
def lcLoop (src : Src) (d : Nat) (turn : PV → Store → (Option PV → Store → Prop) → Prop) (Q : PQ) : List PV → Store → Prop
  | [], S => srcOk src S ∧ Q (.ref d) S
  | x :: xs, S => srcOk src S ∧ turn x S fun oy S' => match oy with
    | none => lcLoop src d turn Q xs S'
    | some y => ∃ acc, S'[d]? = some (.lst acc) ∧ acc.length < sizeLine ∧ lcLoop src d turn Q xs (S'.set d (.lst (acc ++ [y])))

mutual
/-- the meaning of an expression -/
def wpE (Φ : Call) : IE → Env → Store → PQ → PX → Prop
  | .var i, ρ, S, Q, _ => varQ i ρ fun v => Q v S
  | .cst v, _, S, Q, _ => Q v S
  | .tup es, ρ, S, Q, E => wpEs Φ es ρ S (fun vs S1 => vs.length ≤ sizeLine ∧ Q (.tup vs) S1) E
  | .lst es, ρ, S, Q, E => wpEs Φ es ρ S (fun vs S1 => vs.length ≤ sizeLine ∧ Q (.ref S1.length) (S1 ++ [.lst vs])) E
  | .bin o a b, ρ, S, Q, E => wpE Φ a ρ S (fun v S1 => wpE Φ b ρ S1 (fun w S2 => binQ o v w S2 Q) E) E
  | .neg a, ρ, S, Q, E => wpE Φ a ρ S (fun v S1 => ∃ i, v = .int i ∧ Q (.int (-i)) S1) E
  | .cmp o a b, ρ, S, Q, E => wpE Φ a ρ S (fun v S1 => wpE Φ b ρ S1 (fun w S2 => cmpQ o v w S2 Q) E) E
  | .chain o p a b c, ρ, S, Q, E => wpE Φ a ρ S (fun v S1 => wpE Φ b ρ S1 (fun w S2 => cmpQ o v w S2 fun r S3 => ∃ k, r = .bl k ∧
      if k = true then wpE Φ c ρ S3 (fun z S4 => cmpQ p w z S4 Q) E else Q (.bl false) S3) E) E
  | .and a b, ρ, S, Q, E => wpE Φ a ρ S (fun v S1 => ∃ k, v = .bl k ∧ if k = true then wpE Φ b ρ S1 Q E else Q (.bl false) S1) E
  | .or a b, ρ, S, Q, E => wpE Φ a ρ S (fun v S1 => ∃ k, v = .bl k ∧ if k = true then Q (.bl true) S1 else wpE Φ b ρ S1 Q E) E
  | .not a, ρ, S, Q, E => wpE Φ a ρ S (fun v S1 => truQ v S1 fun k => Q (.bl (!k)) S1) E
  | .ifx t a b, ρ, S, Q, E => wpT Φ t ρ S (fun k S1 => if k = true then wpE Φ a ρ S1 Q E else wpE Φ b ρ S1 Q E) E
  | .idxc a n, ρ, S, Q, E => wpE Φ a ρ S (fun v S1 => idxcQ n v S1 Q) E
  | .idx a b, ρ, S, Q, E => wpE Φ a ρ S (fun v S1 => wpE Φ b ρ S1 (fun w S2 => idxQ v w S2 Q) E) E
  | .slice a lo hi, ρ, S, Q, E => wpE Φ a ρ S (fun v S1 => wpO Φ lo ρ S1 (fun l S2 => wpO Φ hi ρ S2 (fun h S3 => sliceQ v l h S3 Q) E) E) E
  | .call f es ds, ρ, S, Q, E => wpEs Φ es ρ S (fun vs S1 => Φ f (vs ++ ds) S1 Q E) E
  | .bi b es, ρ, S, Q, E => wpEs Φ es ρ S (fun vs S1 => biQ b vs S1 Q) E
  | .meth m a es, ρ, S, Q, E => wpE Φ a ρ S (fun v S1 => ∃ i o, v = .ref i ∧ S1[i]? = some o ∧ o.sq = true ∧ wpEs Φ es ρ S1 (fun vs S2 => mtQ m i vs S2 Q) E) E
  | .isin a t, ρ, S, Q, E => wpE Φ a ρ S (fun v S1 => t.b v S1 fun b => Q (.bl b) S1) E
  | .fld _, _, _, _, _ => False
  | .lc vs tg it ifs elt, ρ, S, Q, E => wpI Φ it ρ S (fun src items S1 =>
      lcLoop src S1.length (fun x S2 K => bindQ tg x (wipeP ρ vs) fun ρ1 => wpTs Φ ifs ρ1 S2 (fun k S3 =>
        if k = true then wpE Φ elt ρ1 S3 (fun y S4 => K (some y) S4) (fun _ _ => False) else K none S3) (fun _ _ => False)) Q items (S1 ++ [.lst []])) E
  | .dct ks es, ρ, S, Q, E => wpEs Φ es ρ (S ++ [.dct []]) (fun vs S1 => S1[S.length]? = some (.dct []) ∧ vs.length = ks.length ∧ Q (.ref S.length) (S1.set S.length (.dct (mkD ks vs [])))) E
  | .get2 a b c, ρ, S, Q, E => wpE Φ a ρ S (fun v S1 => isDQ v S1 ∧ wpE Φ b ρ S1 (fun w S2 => wpE Φ c ρ S2 (fun d S3 => dgetQ v w S3 fun r => Q (r.getD d) S3) E) E) E
  | .rev a, ρ, S, Q, E => wpE Φ a ρ S (fun v S1 => revQ v S1 Q) E
/-- as a test -/
def wpT (Φ : Call) : IE → Env → Store → (Bool → Store → Prop) → PX → Prop
  | .and a b, ρ, S, Q, E => wpT Φ a ρ S (fun k S1 => if k = true then wpT Φ b ρ S1 Q E else Q false S1) E
  | .or a b, ρ, S, Q, E => wpT Φ a ρ S (fun k S1 => if k = true then Q true S1 else wpT Φ b ρ S1 Q E) E
  | .not a, ρ, S, Q, E => wpT Φ a ρ S (fun k S1 => Q (!k) S1) E
  | .var i, ρ, S, Q, _ => varQ i ρ fun v => truQ v S fun k => Q k S
  | .cst v, _, S, Q, _ => truQ v S fun k => Q k S
  | .cmp o a b, ρ, S, Q, E => wpE Φ a ρ S (fun v S1 => wpE Φ b ρ S1 (fun w S2 => cmpQ o v w S2 fun r S3 => ∃ k, r = .bl k ∧ Q k S3) E) E
  | .chain o p a b c, ρ, S, Q, E => wpE Φ a ρ S (fun v S1 => wpE Φ b ρ S1 (fun w S2 => cmpQ o v w S2 fun r S3 => ∃ k, r = .bl k ∧
      if k = true then wpE Φ c ρ S3 (fun z S4 => cmpQ p w z S4 fun r S5 => ∃ k, r = .bl k ∧ Q k S5) E else Q false S3) E) E
  | .idxc a n, ρ, S, Q, E => wpE Φ a ρ S (fun v S1 => idxcQ n v S1 fun r S2 => truQ r S2 fun k => Q k S2) E
  | .idx a b, ρ, S, Q, E => wpE Φ a ρ S (fun v S1 => wpE Φ b ρ S1 (fun w S2 => idxQ v w S2 fun r S3 => truQ r S3 fun k => Q k S3) E) E
  | .call f es ds, ρ, S, Q, E => wpEs Φ es ρ S (fun vs S1 => Φ f (vs ++ ds) S1 (fun r S2 => truQ r S2 fun k => Q k S2) E) E
  | .bi b es, ρ, S, Q, E => wpEs Φ es ρ S (fun vs S1 => biQ b vs S1 fun r S2 => truQ r S2 fun k => Q k S2) E
  | .isin a t, ρ, S, Q, E => wpE Φ a ρ S (fun v S1 => t.b v S1 fun b => Q b S1) E
  | _, _, _, _, _ => False
/-- several tests, one after another (a comprehension's) -/
def wpTs (Φ : Call) : IEs → Env → Store → (Bool → Store → Prop) → PX → Prop
  | .nil, _, S, Q, _ => Q true S
  | .cons e es, ρ, S, Q, E => wpT Φ e ρ S (fun k S1 => if k = true then wpTs Φ es ρ S1 Q E else Q false S1) E
def wpEs (Φ : Call) : IEs → Env → Store → (List PV → Store → Prop) → PX → Prop
  | .nil, _, S, Q, _ => Q [] S
  | .cons e es, ρ, S, Q, E => wpE Φ e ρ S (fun v S1 => wpEs Φ es ρ S1 (fun vs S2 => Q (v :: vs) S2) E) E
def wpO (Φ : Call) : IOp → Env → Store → (Option Int → Store → Prop) → PX → Prop
  | .no, _, S, Q, _ => Q none S
  | .so e, ρ, S, Q, E => wpE Φ e ρ S (fun v S1 => ∃ i, v = .int i ∧ Q (some i) S1) E
def wpI (Φ : Call) : II → Env → Store → (Src → List PV → Store → Prop) → PX → Prop
  | .val a, ρ, S, Q, E => wpE Φ a ρ S (fun v S1 => iterQ v S1 fun src xs => Q src xs S1) E
  | .rng1 a, ρ, S, Q, E => wpE Φ a ρ S (fun v S1 => ∃ i, v = .int i ∧ rngOk i ∧ Q [] (rngL 0 i) S1) E
  | .rng2 a b, ρ, S, Q, E => wpE Φ a ρ S (fun v S1 => wpE Φ b ρ S1 (fun w S2 => ∃ i j, v = .int i ∧ w = .int j ∧ rngOk i ∧ rngOk j ∧ Q [] (rngL i j) S2) E) E
  | .enum a, ρ, S, Q, E => wpE Φ a ρ S (fun v S1 => ∃ i o, v = .ref i ∧ S1[i]? = some o ∧ o.sq = true ∧ Q [(i, o)] (enumL 0 o.items) S1) E
  | .zip a b, ρ, S, Q, E => wpE Φ a ρ S (fun v S1 => wpE Φ b ρ S1 (fun w S2 => zipQ v w S2 fun src xs => Q src xs S2) E) E
end

/-! ### statements -/
inductive Ta where
  | nm (i : Nat) | tp (is : List Nat) | sub (o k : IE)
/-- steps of an except suite: a name gets the exception's field, a constant; the field, a constant is handed back -/
inductive HS where
  | setF (j : Nat) | setC (j : Nat) (v : PV) | retF | retC (v : PV) | pass
mutual
inductive IS where
  | pass | brk | cont
  | expr (e : IE)
  | asg (t : Ta) (e : IE)
  | aug (i : Nat) (o : BOp) (e : IE)
  | augD (d k : IE) (o : BOp) (e : IE)
  | ret (e : IE)
  | retN
  | ifs (t : IE) (a b : ISs)
  | whl (t : IE) (b : ISs)
  | for_ (tg : Tg) (it : II) (b : ISs)
  | raise (c : Nat)
  | raiseF (c : Nat) (e : IE)
  | tryE (b : ISs) (c : Nat) (i : Option Nat) (h : List HS)
inductive ISs where
  | nil | cons (s : IS) (r : ISs)
end
structure PD where
  nx : Env → Store → Prop
  rt : PV → Store → Prop
  bk : Env → Store → Prop := fun _ _ => False
  ct : Env → Store → Prop := fun _ _ => False
def asgQ : PV → PV → PV → Store → (Store → Prop) → Prop
  | .ref i, w, v, S, Q => ∃ o, S[i]? = some o ∧ o.putQ w v fun o' => Q (S.set i o')
  | _, _, _, _, _ => False
def wpG (Φ : Call) (t : Ta) (v : PV) (ρ : Env) (S : Store) (Q : Env → Store → Prop) (E : PX) : Prop :=
  match t with
  | .nm i => Q (ρ.set i (some v)) S
  | .tp is => bindQ (.tp is) v ρ fun ρ1 => Q ρ1 S
  | .sub o k => wpE Φ o ρ S (fun a S1 => wpE Φ k ρ S1 (fun b S2 => asgQ a b v S2 fun S3 => Q ρ S3) E) E
def whileN (t : Env → Store → (Bool → Store → Prop) → Prop) (b : Env → Store → (Env → Store → Prop) → Prop) (Q : Env → Store → Prop) : Nat → Env → Store → Prop
  | 0, _, _ => False
  | n + 1, ρ, S => t ρ S fun k S1 => if k = true then b ρ S1 (whileN t b Q n) else Q ρ S1
def forL (src : Src) (turn : PV → Env → Store → (Env → Store → Prop) → Prop) (Q : Env → Store → Prop) : List PV → Env → Store → Prop
  | [], ρ, S => srcOk src S ∧ Q ρ S
  | x :: xs, ρ, S => srcOk src S ∧ turn x ρ S (forL src turn Q xs)
/-- does an except clause of class c take an exception of class d: by the law's table -/
structure Tab where
  catches : Nat → Nat → Bool
/-- an except suite: the clause's class is c, its name stands in slot i -/
def wpH (c : Nat) (i : Option Nat) (x : PEx) : List HS → Env → Store → PD → Prop
  | [], ρ, S, D => D.nx ρ S
  | .setF j :: r, ρ, S, D => x.cls = c ∧ i.getD 0 < ρ.length ∧ ∃ v, x.fld = some v ∧ wpH c i x r (ρ.set j (some v)) S D
  | .setC j v :: r, ρ, S, D => wpH c i x r (ρ.set j (some v)) S D
  | .retF :: _, ρ, S, D => x.cls = c ∧ i.getD 0 < ρ.length ∧ ∃ v, x.fld = some v ∧ D.rt v S
  | .retC v :: _, _, S, D => D.rt v S
  | .pass :: r, ρ, S, D => wpH c i x r ρ S D
def unset (i : Option Nat) (ρ : Env) : Env := match i with
  | some i => ρ.set i none
  | none => ρ
mutual
def wpS (Φ : Call) (T : Tab) : IS → Env → Store → PD → PEX → Prop
  | .pass, ρ, S, D, _ => D.nx ρ S
  | .brk, ρ, S, D, _ => D.bk ρ S
  | .cont, ρ, S, D, _ => D.ct ρ S
  | .expr e, ρ, S, D, E => wpE Φ e ρ S (fun _ S1 => D.nx ρ S1) fun x S1 => E x ρ S1
  | .asg t e, ρ, S, D, E => wpE Φ e ρ S (fun v S1 => wpG Φ t v ρ S1 D.nx fun x S1 => E x ρ S1) fun x S1 => E x ρ S1
  | .aug i o e, ρ, S, D, E => varQ i ρ fun v => wpE Φ e ρ S (fun w S1 => augQ o v w S1 fun z S2 => D.nx (ρ.set i (some z)) S2) fun x S1 => E x ρ S1
  | .augD d k o e, ρ, S, D, E => wpE Φ d ρ S (fun v S1 => wpE Φ k ρ S1 (fun w S2 => dgetQ v w S2 fun r => ∃ x, r = some x ∧ wpE Φ e ρ S2 (fun y S3 => augQ o x y S3 fun z S4 => dputQ v w z S4 fun S5 => D.nx ρ S5) fun x S1 => E x ρ S1)
      fun x S1 => E x ρ S1) fun x S1 => E x ρ S1
  | .ret e, ρ, S, D, E => wpE Φ e ρ S D.rt fun x S1 => E x ρ S1
  | .retN, _, S, D, _ => D.rt .non S
  | .ifs t a b, ρ, S, D, E => wpT Φ t ρ S (fun k S1 => if k = true then wpSs Φ T a ρ S1 D E else wpSs Φ T b ρ S1 D E) fun x S1 => E x ρ S1
  | .whl t b, ρ, S, D, E => ∃ n, whileN (fun ρ S K => wpT Φ t ρ S K fun x S1 => E x ρ S1) (fun ρ S N => wpSs Φ T b ρ S { D with nx := N, ct := N, bk := D.nx } E) D.nx n ρ S
  | .for_ tg it b, ρ, S, D, E => wpI Φ it ρ S (fun src items S1 =>
      forL src (fun x ρ S N => bindQ tg x ρ fun ρ1 => wpSs Φ T b ρ1 S { D with nx := N, ct := N, bk := D.nx } E) D.nx items ρ S1) fun x S1 => E x ρ S1
  | .raise c, ρ, S, _, E => E ⟨c, none⟩ ρ S
  | .raiseF c e, ρ, S, _, E => wpE Φ e ρ S (fun v S1 => E ⟨c, some v⟩ ρ S1) fun x S1 => E x ρ S1
  | .tryE b c i h, ρ, S, D, E => wpSs Φ T b ρ S D fun x ρ1 S1 => if T.catches c x.cls = true then wpH c i x h (unset i ρ1) S1 { nx := fun ρ2 S2 => D.nx (unset i ρ2) S2, rt := D.rt, bk := fun ρ2 S2 => D.bk (unset i ρ2) S2, ct := fun ρ2 S2 => D.ct (unset i ρ2) S2 } else E x ρ1 S1
def wpSs (Φ : Call) (T : Tab) : ISs → Env → Store → PD → PEX → Prop
  | .nil, ρ, S, D, _ => D.nx ρ S
  | .cons s .nil, ρ, S, D, E => wpS Φ T s ρ S D E
  | .cons s (.cons s2 r), ρ, S, D, E => wpS Φ T s ρ S { D with nx := fun ρ1 S1 => wpSs Φ T (.cons s2 r) ρ1 S1 D E } E
end
end Pv
set_option Elab.async false
set_option linter.all false
set_option maxRecDepth 100000
/-! Pv2: how pure values and stores lie in the abstract heap of the hand layer. -/
namespace Pv
open PySem L2

mutual
inductive RepV (K : PySem.W.Frag) (H : Hp) (m : List Addr) : V → PV → Prop
  | non : RepV K H m .non .non
  | bl (b : Bool) : RepV K H m (.bl b) (.bl b)
  | int (i : Int) : RepV K H m (.int i) (.int i)
  | str (x : Str) : RepV K H m (.str x) (.str x)
  | tup {a : Addr} {xs : List V} {vs : List PV} : SqT K H a xs → RepL K H m xs vs → RepV K H m (.ref a) (.tup vs)
  | ref {a : Addr} {i : Nat} : m[i]? = some a → RepV K H m (.ref a) (.ref i)
inductive RepL (K : PySem.W.Frag) (H : Hp) (m : List Addr) : List V → List PV → Prop
  | nil : RepL K H m [] []
  | cons {x : V} {xs : List V} {v : PV} {vs : List PV} : RepV K H m x v → RepL K H m xs vs → RepL K H m (x :: xs) (v :: vs)
end

inductive RepD (K : PySem.W.Frag) (H : Hp) (m : List Addr) : List (Key × V) → List (Key × PV) → Prop
  | nil : RepD K H m [] []
  | cons {k : Key} {x : V} {v : PV} {xs : List (Key × V)} {vs : List (Key × PV)} : RepV K H m x v → RepD K H m xs vs → RepD K H m ((k, x) :: xs) ((k, v) :: vs)
/-- a list of the module -/
def KL (K : PySem.W.Frag) (a : Addr) (xs : List V) : Prop :=
  ∃ (o : Obj) (its : Array Value) (n : Nat), K.lookup a = some o ∧ o.cls = .type "list" ∧ o.dict = none ∧ o.data = .seq its n ∧ its.size ≤ sizeLine ∧ Vals xs its.toList
def RepO (K : PySem.W.Frag) (H : Hp) (m : List Addr) (a : Addr) : Mo → Prop
  | .lst vs => ∃ xs, H a = some (.lst xs) ∧ RepL K H m xs vs
  | .frz vs => ∃ xs, ((∃ o, H a = some (.frz o (.lst xs))) ∨ KL K a xs) ∧ RepL K H m xs vs
  | .dct vs => ∃ xs, H a = some (.dK xs) ∧ RepD K H m xs vs
structure RlS (K : PySem.W.Frag) (m : List Addr) (H : Hp) (S : Store) : Prop where
  len : m.length = S.length
  obj : ∀ (i : Nat) (o : Mo), S[i]? = some o → ∃ a, m[i]? = some a ∧ RepO K H m a o
  inj : ∀ (i j : Nat) (a : Addr) (o u : Mo), m[i]? = some a → m[j]? = some a → S[i]? = some o → S[j]? = some u → o.mut = true → u.mut = true → i = j
def RlE (K : PySem.W.Frag) (m : List Addr) (H : Hp) (σ : St) (ρ : Env) : Prop :=
  σ.length = ρ.length ∧ ∀ (i : Nat) (v : PV), ρ[i]? = some (some v) → ∃ x, σ[i]? = some (some x) ∧ RepV K H m x v
structure Ext (K : PySem.W.Frag) (m : List Addr) (H : Hp) (m' : List Addr) (H' : Hp) : Prop where
  pre : ∃ r, m' = m ++ r
  tup : ∀ a xs, SqT K H a xs → SqT K H' a xs

section
variable {K : PySem.W.Frag} {m m' m2 : List Addr} {H H' H2 : Hp} {S : Store} {σ : St} {ρ : Env}
theorem Ext.refl : Ext K m H m H := ⟨⟨[], by simp⟩, fun _ _ h => h⟩
theorem Ext.trans (a : Ext K m H m' H') (b : Ext K m' H' m2 H2) : Ext K m H m2 H2 := by
  obtain ⟨r, e⟩ := a.pre
  obtain ⟨r2, e2⟩ := b.pre
  exact ⟨⟨r ++ r2, by rw [e2, e, List.append_assoc]⟩, fun x xs h => b.tup _ _ (a.tup _ _ h)⟩
theorem Ext.at (e : Ext K m H m' H') {i : Nat} {a : Addr} (h : m[i]? = some a) : m'[i]? = some a := by
  obtain ⟨r, e⟩ := e.pre
  rw [e, List.getElem?_append_left (List.getElem?_eq_some_iff.mp h).1]
  exact h
mutual
theorem RepV.ext (e : Ext K m H m' H') : ∀ (pv : PV) (v : V), RepV K H m v pv → RepV K H' m' v pv
  | .non, _, h => by cases h; exact .non
  | .bl b, _, h => by cases h; exact .bl b
  | .int i, _, h => by cases h; exact .int i
  | .str x, _, h => by cases h; exact .str x
  | .tup vs, _, h => by cases h with | tup h1 h2 => exact .tup (e.tup _ _ h1) (RepL.ext e vs _ h2)
  | .ref i, _, h => by cases h with | ref h1 => exact .ref (e.at h1)
theorem RepL.ext (e : Ext K m H m' H') : ∀ (pvs : List PV) (vs : List V), RepL K H m vs pvs → RepL K H' m' vs pvs
  | [], _, h => by cases h; exact .nil
  | v :: vs, _, h => by cases h with | cons h1 h2 => exact .cons (RepV.ext e v _ h1) (RepL.ext e vs _ h2)
end
mutual
theorem RepV.under : ∀ (pv : PV) (v : V), RepV K H m v pv → pv.under m.length = true
  | .non, _, h => by simp [PV.under]
  | .bl b, _, h => by simp [PV.under]
  | .int i, _, h => by simp [PV.under]
  | .str x, _, h => by simp [PV.under]
  | .tup vs, _, h => by cases h with | tup h1 h2 => simpa [PV.under] using RepL.under vs _ h2
  | .ref i, _, h => by cases h with | ref h1 => simpa [PV.under] using (List.getElem?_eq_some_iff.mp h1).1
theorem RepL.under : ∀ (pvs : List PV) (vs : List V), RepL K H m vs pvs → PV.underL m.length pvs = true
  | [], _, h => by simp [PV.underL]
  | v :: vs, _, h => by
    cases h with
    | cons h1 h2 => simp [PV.underL, RepV.under v _ h1, RepL.under vs _ h2]
end
mutual
theorem RepV.cut {n : Nat} : ∀ (pv : PV) (v : V), RepV K H m v pv → pv.under n = true → RepV K H (m.take n) v pv
  | .non, _, h, _ => by cases h; exact .non
  | .bl b, _, h, _ => by cases h; exact .bl b
  | .int i, _, h, _ => by cases h; exact .int i
  | .str x, _, h, _ => by cases h; exact .str x
  | .tup vs, _, h, u => by cases h with | tup h1 h2 => exact .tup h1 (RepL.cut vs _ h2 (by simpa [PV.under] using u))
  | .ref i, _, h, u => by
    cases h with
    | ref h1 =>
      refine .ref ?_
      have hi : i < n := by simpa [PV.under] using u
      rw [List.getElem?_take, if_pos hi]
      exact h1
theorem RepL.cut {n : Nat} : ∀ (pvs : List PV) (vs : List V), RepL K H m vs pvs → PV.underL n pvs = true → RepL K H (m.take n) vs pvs
  | [], _, h, _ => by cases h; exact .nil
  | v :: vs, _, h, u => by
    cases h with
    | cons h1 h2 =>
      have u' : v.under n = true ∧ PV.underL n vs = true := by simpa [PV.underL] using u
      exact .cons (RepV.cut v _ h1 u'.1) (RepL.cut vs _ h2 u'.2)
end
theorem RepD.ext (e : Ext K m H m' H') : ∀ {xs : List (Key × V)} {vs : List (Key × PV)}, RepD K H m xs vs → RepD K H' m' xs vs
  | _, _, .nil => .nil
  | _, _, .cons h t => .cons (RepV.ext e _ _ h) (RepD.ext e t)
theorem RepD.under : ∀ {xs : List (Key × V)} {vs : List (Key × PV)}, RepD K H m xs vs → PV.underL m.length (vs.map (·.2)) = true
  | _, _, .nil => by simp [PV.underL]
  | _, _, .cons h t => by simp only [List.map_cons, PV.underL, Bool.and_eq_true]; exact ⟨RepV.under _ _ h, RepD.under t⟩
theorem RepD.cut {n : Nat} : ∀ {xs : List (Key × V)} {vs : List (Key × PV)}, RepD K H m xs vs → PV.underL n (vs.map (·.2)) = true → RepD K H (m.take n) xs vs
  | _, _, .nil, _ => .nil
  | _, _, .cons h t, w => by
    simp only [List.map_cons, PV.underL, Bool.and_eq_true] at w
    exact .cons (RepV.cut _ _ h w.1) (RepD.cut t w.2)
theorem RepD.get {k : Key} : ∀ {xs : List (Key × V)} {vs : List (Key × PV)}, RepD K H m xs vs → (getP vs k = none ∧ valV xs k = none) ∨ ∃ v x, getP vs k = some v ∧ valV xs k = some x ∧ RepV K H m x v
  | _, _, .nil => .inl ⟨rfl, rfl⟩
  | _, _, .cons (k := j) h t => by
    by_cases e : j = k
    · exact .inr ⟨_, _, by simp [getP, e], valV_pos e, h⟩
    · rcases RepD.get (k := k) t with ⟨h1, h2⟩ | ⟨v, x, h1, h2, h3⟩
      · exact .inl ⟨by simp [getP, e, h1], by rw [valV_neg e]; exact h2⟩
      · exact .inr ⟨v, x, by simp [getP, e, h1], by rw [valV_neg e]; exact h2, h3⟩
theorem RepD.setK {k : Key} {y : V} {w : PV} (h : RepV K H m y w) : ∀ {xs : List (Key × V)} {vs : List (Key × PV)}, RepD K H m xs vs → RepD K H m (xs.map fun kv => if kv.1 = k then (kv.1, y) else kv) (setP k w vs)
  | _, _, .nil => .nil
  | _, _, .cons (k := j) q t => by
    by_cases e : j = k
    · simp only [List.map_cons, e, if_true, setP]
      exact .cons h (RepD.setK h t)
    · simp only [List.map_cons, e, if_false, setP]
      exact .cons q (RepD.setK h t)
theorem RepD.snoc {k : Key} {y : V} {w : PV} (h : RepV K H m y w) : ∀ {xs : List (Key × V)} {vs : List (Key × PV)}, RepD K H m xs vs → RepD K H m (xs ++ [(k, y)]) (vs ++ [(k, w)])
  | _, _, .nil => .cons h .nil
  | _, _, .cons q t => .cons q (RepD.snoc h t)
theorem RepD.put {k : Key} {y : V} {w : PV} (h : RepV K H m y w) {xs : List (Key × V)} {vs : List (Key × PV)} (r : RepD K H m xs vs) : RepD K H m (putK xs k y) (putP vs k w) := by
  unfold putK putP
  rw [valV_any]
  rcases RepD.get (k := k) r with ⟨h1, h2⟩ | ⟨v, x, h1, h2, h3⟩
  · rw [h1, h2]
    exact RepD.snoc h r
  · rw [h1, h2]
    exact RepD.setK h r
theorem RepD.len : ∀ {xs : List (Key × V)} {vs : List (Key × PV)}, RepD K H m xs vs → xs.length = vs.length
  | _, _, .nil => rfl
  | _, _, .cons _ t => by rw [List.length_cons, List.length_cons, RepD.len t]
theorem RepD.keys : ∀ {xs : List (Key × V)} {vs : List (Key × PV)}, RepD K H m xs vs → xs.map (·.1) = vs.map (·.1)
  | _, _, .nil => rfl
  | _, _, .cons _ t => by rw [List.map_cons, List.map_cons, RepD.keys t]
theorem RepL.len : ∀ {vs : List V} {pvs : List PV}, RepL K H m vs pvs → vs.length = pvs.length
  | _, _, .nil => rfl
  | _, _, .cons _ t => by simp [RepL.len t]
theorem RepL.get : ∀ {vs : List V} {pvs : List PV} {i : Nat} {p : PV}, RepL K H m vs pvs → pvs[i]? = some p → ∃ x, vs[i]? = some x ∧ RepV K H m x p
  | _, _, _, _, .nil, e => by simp at e
  | _, _, 0, _, .cons h t, e => by simp at e; subst e; exact ⟨_, rfl, h⟩
  | _, _, i + 1, _, .cons h t, e => by
    obtain ⟨x, h1, h2⟩ := RepL.get (i := i) t (by simpa using e)
    exact ⟨x, by simpa using h1, h2⟩
theorem RepL.get' : ∀ {vs : List V} {pvs : List PV} {i : Nat} {x : V}, RepL K H m vs pvs → vs[i]? = some x → ∃ p, pvs[i]? = some p ∧ RepV K H m x p
  | _, _, _, _, .nil, e => by simp at e
  | _, _, 0, _, .cons h t, e => by simp at e; subst e; exact ⟨_, rfl, h⟩
  | _, _, i + 1, _, .cons h t, e => by
    obtain ⟨x, h1, h2⟩ := RepL.get' (i := i) t (by simpa using e)
    exact ⟨x, by simpa using h1, h2⟩
theorem RepL.append : ∀ {vs ws : List V} {ps qs : List PV}, RepL K H m vs ps → RepL K H m ws qs → RepL K H m (vs ++ ws) (ps ++ qs)
  | _, _, _, _, .nil, h => h
  | _, _, _, _, .cons a t, h => .cons a (RepL.append t h)
theorem RepL.set {x : V} {p : PV} (h : RepV K H m x p) : ∀ {vs : List V} {ps : List PV} (i : Nat), RepL K H m vs ps → RepL K H m (vs.set i x) (ps.set i p)
  | _, _, _, .nil => .nil
  | _, _, 0, .cons _ t => .cons h t
  | _, _, i + 1, .cons a t => .cons a (RepL.set h i t)
theorem RepL.take : ∀ {vs : List V} {ps : List PV} (n : Nat), RepL K H m vs ps → RepL K H m (vs.take n) (ps.take n)
  | _, _, 0, _ => .nil
  | _, _, _ + 1, .nil => .nil
  | _, _, n + 1, .cons a t => .cons a (RepL.take n t)
theorem RepL.drop : ∀ {vs : List V} {ps : List PV} (n : Nat), RepL K H m vs ps → RepL K H m (vs.drop n) (ps.drop n)
  | _, _, 0, h => h
  | _, _, _ + 1, .nil => .nil
  | _, _, n + 1, .cons _ t => RepL.drop n t
theorem RepL.cutV {vs : List V} {ps : List PV} (h : RepL K H m vs ps) (lo hi : Option Int) : RepL K H m (L2.cutV vs lo hi) (cutPV ps lo hi) := by
  unfold L2.cutV cutPV
  rw [h.len]
  exact (h.drop _).take _
theorem RepL.at_ {vs : List V} {ps : List PV} {k : Int} {p : PV} (h : RepL K H m vs ps) (e : atPV ps k = some p) : ∃ x, L2.atI vs k = some x ∧ RepV K H m x p := by
  unfold atPV at e
  unfold L2.atI at e ⊢
  rw [h.len]
  cases q : ixN ps.length k with
  | none => rw [q] at e; cases e
  | some j =>
    rw [q] at e
    exact h.get (by simpa using e)
theorem RepL.nil_iff {vs : List V} {ps : List PV} (h : RepL K H m vs ps) : vs.isEmpty = ps.isEmpty := by cases h <;> rfl
theorem RepL.inj_left {vs ws : List V} {ps : List PV} (h : RepL K H m vs ps) : RepL K H m ws ps → vs.length = ws.length := fun h' => h.len.trans h'.len.symm

mutual
theorem RepV.dp : ∀ (pv : PV) (v : V), RepV K H m v pv → pv.toD.canLay0 = true → Dp K H v pv.toD
  | .non, _, h, _ => by cases h; exact .non
  | .bl b, _, h, _ => by cases h; exact .bl b
  | .int i, _, h, _ => by cases h; exact .int i
  | .str x, _, h, _ => by cases h; exact .str x
  | .tup vs, _, h, u => by
    cases h with
    | tup h1 h2 => exact .tup h1 (RepL.dp vs _ h2 (by simpa [PV.toD, PyData.canLay0] using u))
  | .ref i, _, h, u => by simp [PV.toD, PyData.canLay0] at u
theorem RepL.dp : ∀ (pvs : List PV) (vs : List V), RepL K H m vs pvs → PyData.canLayAll0 (PV.toDs pvs) = true → DpAll K H vs (PV.toDs pvs)
  | [], _, h, _ => by cases h; exact .nil
  | v :: vs, _, h, u => by
    cases h with
    | cons h1 h2 =>
      have u' : v.toD.canLay0 = true ∧ PyData.canLayAll0 (PV.toDs vs) = true := by simpa [PV.toDs, PyData.canLayAll0] using u
      exact .cons (RepV.dp v _ h1 u'.1) (RepL.dp vs _ h2 u'.2)
end

theorem RlE.ext (e : Ext K m H m' H') (r : RlE K m H σ ρ) : RlE K m' H' σ ρ := ⟨r.1, fun i v h => let ⟨x, h1, h2⟩ := r.2 i v h; ⟨x, h1, RepV.ext e v x h2⟩⟩
theorem RlE.set (r : RlE K m H σ ρ) {x : V} {v : PV} (h : RepV K H m x v) (i : Nat) : RlE K m H (σ.set i (some x)) (ρ.set i (some v)) := by
  refine ⟨by simp [r.1], fun j w e => ?_⟩
  by_cases hj : i = j
  · subst hj
    by_cases hl : i < ρ.length
    · rw [List.getElem?_set_self hl] at e
      cases e
      exact ⟨x, by rw [List.getElem?_set_self (by rw [r.1]; exact hl)], h⟩
    · rw [List.getElem?_eq_none (by simpa using hl)] at e
      cases e
  · rw [List.getElem?_set_ne hj] at e ⊢
    exact r.2 j w e
theorem RlE.unset (r : RlE K m H σ ρ) (i : Nat) : RlE K m H (σ.set i none) (ρ.set i none) := by
  refine ⟨by simp [r.1], fun j w e => ?_⟩
  by_cases hj : i = j
  · subst hj
    by_cases hl : i < ρ.length
    · rw [List.getElem?_set_self hl] at e
      cases e
    · rw [List.getElem?_eq_none (by simpa using hl)] at e
      cases e
  · rw [List.getElem?_set_ne hj] at e ⊢
    exact r.2 j w e
theorem RlE.wipe (r : RlE K m H σ ρ) : ∀ vs : List Nat, RlE K m H (L2.wipe σ vs) (wipeP ρ vs)
  | [] => r
  | v :: vs => (RlE.wipe r vs).unset v

theorem sqT_upd {p : Addr} (o : HO) (n : H p = none) {a : Addr} {xs : List V} (h : SqT K H a xs) : SqT K (upd H p o) a xs := by
  rcases h with (h | ⟨u, h⟩) | h
  · exact .inl (.inl (by rw [upd_ne (ne_of_none h n)]; exact h))
  · exact .inl (.inr ⟨u, by rw [upd_ne (ne_of_none h n)]; exact h⟩)
  · exact .inr h
theorem Ext.new {p : Addr} (o : HO) (n : H p = none) : Ext K m H m (upd H p o) := ⟨⟨[], by simp⟩, fun a xs h => sqT_upd o n h⟩
theorem Ext.newL {p : Addr} (o : HO) (n : H p = none) : Ext K m H (m ++ [p]) (upd H p o) := ⟨⟨[p], rfl⟩, fun a xs h => sqT_upd o n h⟩
theorem RepO.ext (e : Ext K m H m' H') {a : Addr} {o : Mo} (h : RepO K H m a o) (k : ∀ u, H a = some u → H' a = some u) : RepO K H' m' a o := by
  cases o with
  | lst vs => obtain ⟨xs, h1, h2⟩ := h; exact ⟨xs, k _ h1, RepL.ext e _ _ h2⟩
  | frz vs =>
    obtain ⟨xs, h1, h2⟩ := h
    refine ⟨xs, ?_, RepL.ext e _ _ h2⟩
    rcases h1 with ⟨o, h1⟩ | h1
    · exact .inl ⟨o, k _ h1⟩
    · exact .inr h1
  | dct vs => obtain ⟨xs, h1, h2⟩ := h; exact ⟨xs, k _ h1, h2.ext e⟩
theorem RlS.new {p : Addr} (o : HO) (n : H p = none) (r : RlS K m H S) : RlS K m (upd H p o) S :=
  ⟨r.len, fun i u h => let ⟨a, h1, h2⟩ := r.obj i u h; ⟨a, h1, h2.ext (Ext.new o n) fun w e => by rw [upd_ne (ne_of_none e n)]; exact e⟩, r.inj⟩
theorem RlS.at {i : Nat} {vs : List PV} (r : RlS K m H S) (h : S[i]? = some (.lst vs)) : ∃ a xs, m[i]? = some a ∧ H a = some (.lst xs) ∧ RepL K H m xs vs := by
  obtain ⟨a, h1, xs, h2, h3⟩ := r.obj i _ h
  exact ⟨a, xs, h1, h2, h3⟩
theorem RepO.sql {a : Addr} {o : Mo} (h : RepO K H m a o) (hs : o.sq = true) : ∃ xs, SqL K H a xs ∧ RepL K H m xs o.items := by
  cases o with
  | lst vs => obtain ⟨xs, h1, h2⟩ := h; exact ⟨xs, SqL.of h1, h2⟩
  | frz vs =>
    obtain ⟨xs, h1, h2⟩ := h
    rcases h1 with ⟨o, h1⟩ | h1
    · exact ⟨xs, .inl (.inr ⟨o, h1⟩), h2⟩
    · exact ⟨xs, .inr h1, h2⟩
  | dct vs => cases hs
theorem RlS.dct {i : Nat} {vs : List (Key × PV)} (r : RlS K m H S) (h : S[i]? = some (.dct vs)) : ∃ a xs, m[i]? = some a ∧ H a = some (.dK xs) ∧ RepD K H m xs vs := by
  obtain ⟨a, h1, xs, h2, h3⟩ := r.obj i _ h
  exact ⟨a, xs, h1, h2, h3⟩
theorem RlS.sql {i : Nat} {o : Mo} {a : Addr} (r : RlS K m H S) (h : S[i]? = some o) (hs : o.sq = true) (ha : m[i]? = some a) : ∃ xs, SqL K H a xs ∧ RepL K H m xs o.items := by
  obtain ⟨b, h1, h2⟩ := r.obj i o h
  rw [ha] at h1
  cases h1
  exact h2.sql hs
theorem get_snoc {α : Type} {l : List α} {x y : α} {i : Nat} (h : (l ++ [x])[i]? = some y) : l[i]? = some y ∨ (i = l.length ∧ y = x) := by
  by_cases hi : i < l.length
  · rw [List.getElem?_append_left hi] at h; exact .inl h
  · rw [List.getElem?_append_right (by omega)] at h
    have : i - l.length = 0 := by
      cases q : i - l.length with
      | zero => rfl
      | succ k => rw [q] at h; simp at h
    rw [this] at h
    simp at h
    exact .inr ⟨by omega, h.symm⟩
theorem get_last {α : Type} {l : List α} {x : α} : (l ++ [x])[l.length]? = some x := by simp
theorem RepO.mut_at {a : Addr} {o : Mo} (h : RepO K H m a o) (hm : o.mut = true) : (∃ xs, H a = some (.lst xs)) ∨ ∃ xs, H a = some (.dK xs) := by
  cases o with
  | lst vs => obtain ⟨xs, h1, _⟩ := h; exact .inl ⟨xs, h1⟩
  | frz vs => cases hm
  | dct vs => obtain ⟨xs, h1, _⟩ := h; exact .inr ⟨xs, h1⟩
/-- a new thing -/
theorem RlS.newO {p : Addr} {w : HO} {o : Mo} (n : H p = none) (r : RlS K m H S) (h : RepO K (upd H p w) (m ++ [p]) p o) : RlS K (m ++ [p]) (upd H p w) (S ++ [o]) := by
  have e : Ext K m H (m ++ [p]) (upd H p w) := Ext.newL _ n
  have no : ∀ {i : Nat} {u : Mo}, m[i]? = some p → S[i]? = some u → u.mut = true → False := fun {i u} g1 g2 g3 => by
    obtain ⟨a, k1, k2⟩ := r.obj i u g2
    rw [g1] at k1; cases k1
    rcases k2.mut_at g3 with ⟨z, k⟩ | ⟨z, k⟩ <;> (rw [n] at k; cases k)
  refine ⟨by simp [r.len], fun i u hu => ?_, fun i j a o' u' h3 h4 h1 h2 m1 m2 => ?_⟩
  · rcases get_snoc hu with hu | ⟨hi, hu⟩
    · obtain ⟨a, h1, h2⟩ := r.obj i u hu
      exact ⟨a, e.at h1, h2.ext e fun w q => by rw [upd_ne (ne_of_none q n)]; exact q⟩
    · subst hu
      rw [hi, ← r.len]
      exact ⟨p, get_last, h⟩
  · rcases get_snoc h1 with g1 | ⟨g1, q1⟩
    · rcases get_snoc h2 with g2 | ⟨g2, q2⟩
      · have l1 := (List.getElem?_eq_some_iff.mp g1).1
        have l2 := (List.getElem?_eq_some_iff.mp g2).1
        rw [List.getElem?_append_left (by rw [r.len]; exact l1)] at h3
        rw [List.getElem?_append_left (by rw [r.len]; exact l2)] at h4
        exact r.inj i j a _ _ h3 h4 g1 g2 m1 m2
      · exfalso
        have l1 := (List.getElem?_eq_some_iff.mp g1).1
        rw [List.getElem?_append_left (by rw [r.len]; exact l1)] at h3
        rw [g2, ← r.len, get_last] at h4
        cases h4
        exact no h3 g1 m1
    · rcases get_snoc h2 with g2 | ⟨g2, q2⟩
      · exfalso
        have l2 := (List.getElem?_eq_some_iff.mp g2).1
        rw [List.getElem?_append_left (by rw [r.len]; exact l2)] at h4
        rw [g1, ← r.len, get_last] at h3
        cases h3
        exact no h4 g2 m2
      · rw [g1, g2]
theorem RlS.newL {p : Addr} {xs : List V} {vs : List PV} (n : H p = none) (r : RlS K m H S) (h : RepL K H m xs vs) : RlS K (m ++ [p]) (upd H p (.lst xs)) (S ++ [.lst vs]) :=
  r.newO n ⟨xs, upd_same, RepL.ext (Ext.newL _ n) _ _ h⟩
/-- a thing is written -/
theorem Ext.putO {a : Addr} {w w' : HO} (h : H a = some w) (hw : (∃ xs, w = .lst xs) ∨ ∃ xs, w = .dK xs) : Ext K m H m (upd H a w') := by
  refine ⟨⟨[], by simp⟩, fun b zs q => ?_⟩
  have ne : ∀ {u : HO}, H b = some u → (∀ l, u ≠ .lst l) → (∀ l, u ≠ .dK l) → b ≠ a := fun {u} e hn hn' z => by
    subst z; rw [h] at e; cases e
    rcases hw with ⟨xs, rfl⟩ | ⟨xs, rfl⟩
    · exact hn _ rfl
    · exact hn' _ rfl
  rcases q with (q | ⟨u, q⟩) | q
  · exact .inl (.inl (by rw [upd_ne (ne q (fun l z => by cases z) fun l z => by cases z)]; exact q))
  · exact .inl (.inr ⟨u, by rw [upd_ne (ne q (fun l z => by cases z) fun l z => by cases z)]; exact q⟩)
  · exact .inr q
theorem Ext.put {a : Addr} {xs ys : List V} (h : H a = some (.lst xs)) : Ext K m H m (upd H a (.lst ys)) := Ext.putO h (.inl ⟨_, rfl⟩)
theorem RlS.putO {i : Nat} {a : Addr} {w w' : HO} {o o' : Mo} (r : RlS K m H S) (hi : S[i]? = some o) (ho : o.mut = true) (ho' : o'.mut = true) (ha : m[i]? = some a) (hl : H a = some w) (hw : (∃ xs, w = .lst xs) ∨ ∃ xs, w = .dK xs)
    (h : RepO K (upd H a w') m a o') : RlS K m (upd H a w') (S.set i o') := by
  have e : Ext K m H m (upd H a w') := Ext.putO hl hw
  have il : i < S.length := (List.getElem?_eq_some_iff.mp hi).1
  have shape : ∀ (j : Nat) (z : Mo), (S.set i o')[j]? = some z → z.mut = true → ∃ z', S[j]? = some z' ∧ z'.mut = true := fun j z q mz => by
    by_cases hj : i = j
    · subst hj; exact ⟨o, hi, ho⟩
    · rw [List.getElem?_set_ne hj] at q; exact ⟨z, q, mz⟩
  refine ⟨by simp [r.len], fun j u hu => ?_, fun j k b o1 u1 h1 h2 h3 h4 m1 m2 => ?_⟩
  · by_cases hj : i = j
    · subst hj
      rw [List.getElem?_set_self il] at hu
      cases hu
      exact ⟨a, ha, h⟩
    · rw [List.getElem?_set_ne hj] at hu
      obtain ⟨b, h1, h2⟩ := r.obj j u hu
      refine ⟨b, h1, ?_⟩
      have nb : u.mut = true → b ≠ a := fun mu z => by subst z; exact hj (r.inj i j b _ _ ha h1 hi hu ho mu)
      cases u with
      | lst zs => exact h2.ext e fun w q => by rw [upd_ne (nb rfl)]; exact q
      | dct zs => exact h2.ext e fun w q => by rw [upd_ne (nb rfl)]; exact q
      | frz zs =>
        obtain ⟨us, q1, q2⟩ := h2
        refine ⟨us, ?_, RepL.ext e _ _ q2⟩
        rcases q1 with ⟨o, q1⟩ | q1
        · refine .inl ⟨o, ?_⟩
          rw [upd_ne]
          · exact q1
          · intro z; subst z; rw [hl] at q1; cases q1
            rcases hw with ⟨xs, hw⟩ | ⟨xs, hw⟩ <;> cases hw
        · exact .inr q1
  · obtain ⟨z1, g1, n1⟩ := shape j _ h3 m1
    obtain ⟨z2, g2, n2⟩ := shape k _ h4 m2
    exact r.inj j k b _ _ h1 h2 g1 g2 n1 n2
theorem RlS.put {i : Nat} {a : Addr} {xs ys : List V} {vs ws : List PV} (r : RlS K m H S) (hi : S[i]? = some (.lst vs)) (ha : m[i]? = some a) (hl : H a = some (.lst xs)) (h : RepL K H m ys ws) :
    RlS K m (upd H a (.lst ys)) (S.set i (.lst ws)) :=
  r.putO hi rfl rfl ha hl (.inl ⟨_, rfl⟩) ⟨ys, upd_same, RepL.ext (Ext.put hl) _ _ h⟩
theorem RlS.putD {i : Nat} {a : Addr} {xs ys : List (Key × V)} {vs ws : List (Key × PV)} (r : RlS K m H S) (hi : S[i]? = some (.dct vs)) (ha : m[i]? = some a) (hl : H a = some (.dK xs)) (h : RepD K H m ys ws) :
    RlS K m (upd H a (.dK ys)) (S.set i (.dct ws)) :=
  r.putO hi rfl rfl ha hl (.inr ⟨_, rfl⟩) ⟨ys, upd_same, h.ext (Ext.putO hl (.inr ⟨_, rfl⟩))⟩
/-- what a call made and left is forgotten -/
theorem RlS.cut {S0 junk : Store} (r : RlS K m H (S0 ++ junk)) (w : wfAt S0.length S0 = true) : RlS K (m.take S0.length) H S0 := by
  refine ⟨by simp [r.len], fun i o h => ?_, fun i j a xs ys h1 h2 h3 h4 m1 m2 => ?_⟩
  · have hi := (List.getElem?_eq_some_iff.mp h).1
    obtain ⟨a, h1, h2⟩ := r.obj i o (by rw [List.getElem?_append_left hi]; exact h)
    refine ⟨a, by rw [List.getElem?_take, if_pos hi]; exact h1, ?_⟩
    have hw : o.under S0.length = true := List.all_eq_true.mp w o (List.mem_of_getElem? h)
    cases o with
    | lst vs => obtain ⟨xs, q1, q2⟩ := h2; exact ⟨xs, q1, RepL.cut _ _ q2 hw⟩
    | frz vs => obtain ⟨xs, q1, q2⟩ := h2; exact ⟨xs, q1, RepL.cut _ _ q2 hw⟩
    | dct vs => obtain ⟨xs, q1, q2⟩ := h2; exact ⟨xs, q1, q2.cut hw⟩
  · have h3' := (List.getElem?_eq_some_iff.mp h3).1
    have h4' := (List.getElem?_eq_some_iff.mp h4).1
    rw [List.getElem?_take, if_pos h3'] at h1
    rw [List.getElem?_take, if_pos h4'] at h2
    exact r.inj i j a xs ys h1 h2 (by rw [List.getElem?_append_left h3']; exact h3) (by rw [List.getElem?_append_left h4']; exact h4) m1 m2
theorem RlS.wf (r : RlS K m H S) : WfS S := by
  refine List.all_eq_true.mpr fun o ho => ?_
  obtain ⟨i, hi⟩ := List.getElem?_of_mem ho
  obtain ⟨a, h1, h2⟩ := r.obj i o hi
  rw [← r.len]
  cases o with
  | lst vs => obtain ⟨xs, _, h3⟩ := h2; exact RepL.under _ _ h3
  | frz vs => obtain ⟨xs, _, h3⟩ := h2; exact RepL.under _ _ h3
  | dct vs => obtain ⟨xs, _, h3⟩ := h2; exact h3.under
end
end Pv
set_option Elab.async false
set_option linter.all false
set_option maxRecDepth 100000
/-! Pv3: the operations on values, by the hand layer's rules. -/
namespace Pv
open PySem PySem.Spec PyProof.Rows L2

/-- the tables of a program: its defs (name, parameters, defaults), its constants, its exception classes (name, field) -/
structure GT where
  fns : List (Str × Nat × List PV)
  cons : List (Str × PV)
  excs : List (Str × Option Str)
  /-- the classes that except clauses name -/
  hs : List Nat
  tab : Tab

def RepX (K : PySem.W.Frag) (mg : Str → Option Value) (G : GT) (H : Hp) (m : List Addr) (ex : PEx) (cls : Value) (d : Option Addr) : Prop :=
  ∃ x fo, G.excs[ex.cls]? = some (x, fo) ∧ mg x = some cls ∧
    ((fo = none ∧ ex.fld = none) ∨ ∃ f v dd w, fo = some f ∧ ex.fld = some v ∧ d = some dd ∧ H dd = some (.xd [(f, w)]) ∧ RepV K H m w v)
/-- what is wanted of a value, of an exception -/
def KE (K : PySem.W.Frag) (m : List Addr) (H : Hp) (Q : PQ) (Kv : VK) : Prop :=
  ∀ m' H' v pv S', Ext K m H m' H' → RlS K m' H' S' → RepV K H' m' v pv → Q pv S' → Kv v H'
def KX (K : PySem.W.Frag) (mg : Str → Option Value) (G : GT) (m : List Addr) (H : Hp) (E : PX) (Kx : XK) : Prop :=
  ∀ ex cls d m' H' S', Ext K m H m' H' → RlS K m' H' S' → RepX K mg G H' m' ex cls d → E ex S' → Kx cls d H'
section
variable {K : PySem.W.Frag} {mg : Str → Option Value} {G : GT} {m m' : List Addr} {H H' : Hp}
theorem KE.ext {Q : PQ} {Kv : VK} (k : KE K m H Q Kv) (e : Ext K m H m' H') : KE K m' H' Q Kv := fun m2 H2 v pv S2 e2 => k m2 H2 v pv S2 (e.trans e2)
theorem KX.ext {E : PX} {Kx : XK} (k : KX K mg G m H E Kx) (e : Ext K m H m' H') : KX K mg G m' H' E Kx := fun x c d m2 H2 S2 e2 => k x c d m2 H2 S2 (e.trans e2)
theorem KE.here {Q : PQ} {Kv : VK} (k : KE K m H Q Kv) {S : Store} {v : V} {pv : PV} (r : RlS K m H S) (h : RepV K H m v pv) (q : Q pv S) : Kv v H := k m H v pv S Ext.refl r h q
theorem KE.newT {Q : PQ} {Kv : VK} (k : KE K m H Q Kv) {S : Store} {xs : List V} {vs : List PV} (r : RlS K m H S) (h : RepL K H m xs vs) (q : Q (.tup vs) S) {p : Addr} (n : H p = none) : Kv (.ref p) (upd H p (.tup xs)) := by
  have e : Ext K m H m (upd H p (.tup xs)) := Ext.new _ n
  exact k m _ _ _ S e (r.new _ n) (.tup (SqT.of upd_same) (RepL.ext e _ _ h)) q
theorem KE.newL {Q : PQ} {Kv : VK} (k : KE K m H Q Kv) {S : Store} {xs : List V} {vs : List PV} (r : RlS K m H S) (h : RepL K H m xs vs) (q : Q (.ref S.length) (S ++ [.lst vs])) {p : Addr} (n : H p = none) : Kv (.ref p) (upd H p (.lst xs)) :=
  k (m ++ [p]) _ _ _ _ (Ext.newL _ n) (r.newL n h) (.ref (by rw [← r.len]; exact get_last)) q
end

/-- a two-place operation that does what q says -/
def OpF (X : Cx) (f : Value → Value → Sem Value) (q : PV → PV → Store → PQ → Prop) : Prop :=
  ∃ r : R2, OpR X f r ∧ ∀ m H S x y v w Q Kv, RlS X.K m H S → RepV X.K H m x v → RepV X.K H m y w → q v w S Q → KE X.K m H Q Kv → r x y H Kv

section
variable {X : Cx}
theorem opF_int {f : Value → Value → Sem Value} {C : Int → Int → Prop} {g : Int → Int → V} {g' : Int → Int → PV} (h : OpR X f (rI C g)) (hg : ∀ K H m i j, RepV K H m (g i j) (g' i j)) : OpF X f (intQ C g') := by
  refine ⟨_, h, fun m H S x y v w Q Kv r hx hy q k => ?_⟩
  cases hx <;> cases hy <;> simp only [intQ] at q
  exact ⟨_, _, rfl, rfl, q.1, k.here r (hg _ _ _ _ _) q.2⟩
theorem opF_int0 {f : Value → Value → Sem Value} {g : Int → Int → V} {g' : Int → Int → PV} (h : OpR X f (rI0 g)) (hg : ∀ K H m i j, RepV K H m (g i j) (g' i j)) : OpF X f (intQ (fun _ _ => True) g') := by
  refine ⟨_, h, fun m H S x y v w Q Kv r hx hy q k => ?_⟩
  cases hx <;> cases hy <;> simp only [intQ] at q
  exact ⟨_, _, rfl, rfl, k.here r (hg _ _ _ _ _) q.2⟩
theorem opF_add : OpF X (binaryOp .Add) addQ := by
  refine ⟨_, (op_add.or op_catA).or (op_add_str.or op_cat), fun m H S x y v w Q Kv r hx hy q k => ?_⟩
  cases hx with
  | int i =>
    cases hy with
    | int j => exact .inl (.inl ⟨i, j, rfl, rfl, k.here r (.int _) q⟩)
    | _ => exact q.elim
  | str i =>
    cases hy with
    | str j => exact .inr (.inl ⟨i, j, rfl, rfl, q.1, k.here r (.str _) q.2⟩)
    | _ => exact q.elim
  | @tup a xs vs h1 h2 =>
    cases hy with
    | @tup b ys ws g1 g2 =>
      refine .inl (.inr ⟨a, b, xs, ys, rfl, rfl, h1, g1, by rw [h2.len, g2.len]; exact q.1, fun e => ?_, fun _ e => ?_, fun _ _ p n => k.newT r (h2.append g2) q.2 n⟩)
      · subst e
        cases h2
        exact k.here r (.tup g1 g2) q.2
      · subst e
        cases g2
        have q2 := q.2
        rw [List.append_nil] at q2
        exact k.here r (.tup h1 h2) q2
    | _ => exact q.elim
  | @ref a i h1 =>
    cases hy with
    | @ref b j h2 =>
      obtain ⟨xs, ys, e1, e2, hz, q⟩ := q
      obtain ⟨a', xs', k1, k2, k3⟩ := r.at e1
      obtain ⟨b', ys', g1, g2, g3⟩ := r.at e2
      rw [h1] at k1; cases k1
      rw [h2] at g1; cases g1
      exact .inr (.inr ⟨a, b, xs', ys', rfl, rfl, k2, g2, by rw [k3.len, g3.len]; exact hz, fun p n => k.newL r (k3.append g3) q n⟩)
    | _ => exact q.elim
  | _ => exact q.elim
def Bop : BOp → Operator
  | .add => .Add | .sub => .Sub | .mul => .Mult | .fdiv => .FloorDiv | .mod => .Mod | .pow => .Pow
theorem opF_bin : ∀ o : BOp, OpF X (binaryOp (Bop o)) (binQ o)
  | .add => opF_add
  | .sub => opF_int0 op_sub fun _ _ _ _ _ => .int _
  | .mul => opF_int op_mul fun _ _ _ _ _ => .int _
  | .fdiv => opF_int op_fdiv fun _ _ _ _ _ => .int _
  | .mod => opF_int op_mod fun _ _ _ _ _ => .int _
  | .pow => opF_int op_pow fun _ _ _ _ _ => .int _

/-! ### comparisons -/
/-- == of data: the lesser depth counts -/
def rEqM (K : PySem.W.Frag) (f : Bool → Bool) : R2 := fun x y H Q => ∃ d e, Dp K H x d ∧ Dp K H y e ∧ d.canLay0 = true ∧ e.canLay0 = true ∧ min d.depth e.depth ≤ 64 ∧ Q (.bl (f (PyData.eqv d e))) H
theorem op_eqM (hu : X.A.units + 64 < cLine) : OpR X (compareOp .Eq) (rEqM X.K fun b => b) := by
  intro pins s σ H x y v u Q I rx ry h
  obtain ⟨d, e, hd, he, sd, se, hm, q⟩ := h
  obtain ⟨as, r1⟩ := Dp.reads I d x v hd rx
  obtain ⟨bs, r2⟩ := Dp.reads I e y u he ry
  exact SeqAt.compareEq_reads r1 r2 sd se (by omega) ⟨.bl _, H, I, rfl, q⟩
theorem op_neM (hu : X.A.units + 64 < cLine) : OpR X (compareOp .NotEq) (rEqM X.K fun b => !b) := by
  intro pins s σ H x y v u Q I rx ry h
  obtain ⟨d, e, hd, he, sd, se, hm, q⟩ := h
  obtain ⟨as, r1⟩ := Dp.reads I d x v hd rx
  obtain ⟨bs, r2⟩ := Dp.reads I e y u he ry
  exact SeqAt.compareNe_reads r1 r2 sd se (by omega) ⟨.bl _, H, I, rfl, q⟩
def rEqF (f : Bool → Bool) : R2 := fun x y H Q => scal x y = true ∧ Q (.bl (f (decide (x = y)))) H
theorem eqF_of {f : Value → Value → Sem Value} {g : Bool → Bool} (h1 : OpR X f (rEqF g)) (h2 : OpR X f (rEqM X.K g)) : OpF X f (eqQ g) := by
  refine ⟨_, h1.or h2, fun m H S x y v w Q Kv r hx hy q k => ?_⟩
  have gen : eqOk v w ∧ Q (.bl (g (eqB v w))) S → rEqM X.K g x y H Kv := fun ⟨⟨a, b, c⟩, q⟩ => ⟨v.toD, w.toD, RepV.dp v x hx a, RepV.dp w y hy b, a, b, c, k.here r (.bl _) q⟩
  cases hx with
  | str i =>
    cases hy with
    | str j =>
      refine .inl ⟨rfl, ?_⟩
      have e : decide (V.str i = V.str j) = decide (i = j) := by simp
      rw [e]
      exact k.here r (.bl _) q
    | _ => exact .inr (gen q)
  | int i =>
    cases hy with
    | int j =>
      refine .inl ⟨rfl, ?_⟩
      have e : decide (V.int i = V.int j) = decide (i = j) := by simp
      rw [e]
      exact k.here r (.bl _) q
    | _ => exact .inr (gen q)
  | _ => cases hy <;> exact .inr (gen q)
theorem rel_plain {H : Hp} {m : List Addr} {K : PySem.W.Frag} {x : V} {v : PV} {u : Value} (h : RepV K H m x v) (ru : RelV x u) (hv : ∀ b, v ≠ .bl b) (b : Bool) : plainIs u (.bool b) = true ∧ (u == .bool b) = false := by
  cases h with
  | non => cases ru; exact ⟨rfl, rfl⟩
  | bl c => exact absurd rfl (hv c)
  | int i => obtain ⟨t, rfl⟩ := ru; exact ⟨rfl, rfl⟩
  | str i => obtain ⟨t, rfl⟩ := ru; exact ⟨rfl, rfl⟩
  | tup _ _ => cases ru; exact ⟨rfl, rfl⟩
  | ref _ => cases ru; exact ⟨rfl, rfl⟩
def notBl : V → Bool
  | .non | .int _ | .str _ | .ref _ => true
  | _ => false
def rIsB (f : Bool → Bool) : R2 := fun x y H Q => ∃ b, y = .bl b ∧ notBl x = true ∧ Q (.bl (f false)) H
def rBN (f : Bool → Bool) : R2 := fun x y H Q => y = .non ∧ Q (.bl (f (decide (x = .non)))) H
def rBB (f : Bool → Bool) : R2 := fun x y H Q => ∃ a b, x = .bl a ∧ y = .bl b ∧ Q (.bl (f (decide (a = b)))) H
theorem isB_plain {x : V} {u : Value} {b : Bool} (h : notBl x = true) (r : RelV x u) : plainIs u (.bool b) = true ∧ (u == .bool b) = false := by
  cases x with
  | non => cases r; exact ⟨rfl, rfl⟩
  | int i => obtain ⟨t, rfl⟩ := r; exact ⟨rfl, rfl⟩
  | str i => obtain ⟨t, rfl⟩ := r; exact ⟨rfl, rfl⟩
  | ref a => cases r; exact ⟨rfl, rfl⟩
  | _ => cases h
theorem op_isB : OpR X (compareOp .Is) (rIsB fun b => b) := by
  intro pins s σ H x y v u Q I rx ry h
  obtain ⟨b, rfl, hn, q⟩ := h
  cases (show u = Value.bool b from ry)
  obtain ⟨p, e⟩ := isB_plain (b := b) hn rx
  exact wpAny_is_plain p (by rw [e]; exact ⟨.bl false, H, I, rfl, q⟩)
theorem op_isnotB : OpR X (compareOp .IsNot) (rIsB fun b => !b) := by
  intro pins s σ H x y v u Q I rx ry h
  obtain ⟨b, rfl, hn, q⟩ := h
  cases (show u = Value.bool b from ry)
  obtain ⟨p, e⟩ := isB_plain (b := b) hn rx
  exact wpAny_isNot_plain p (by rw [e]; exact ⟨.bl true, H, I, rfl, q⟩)
theorem isF_of {f : Value → Value → Sem Value} {g : Bool → Bool} (h1 : OpR X f (rBN g)) (h2 : OpR X f (rBB g)) (h3 : OpR X f (rIsB g)) : OpF X f (isQ g) := by
  refine ⟨_, h1.or (h2.or h3), fun m H S x y v w Q Kv r hx hy q k => ?_⟩
  cases hx <;> cases hy <;> first
    | exact q.elim
    | exact .inl ⟨rfl, k.here r (.bl _) q⟩
    | exact .inl ⟨rfl, by simpa using k.here r (.bl _) q⟩
    | exact .inr (.inl ⟨_, _, rfl, rfl, k.here r (.bl _) q⟩)
    | exact .inr (.inr ⟨_, rfl, rfl, k.here r (.bl _) q⟩)
theorem rep_flat {K : PySem.W.Frag} {H : Hp} {m : List Addr} {x : V} {v : PV} (h : RepV K H m x v) : flatV x = flatP v := by cases h <;> rfl
theorem repL_flat {K : PySem.W.Frag} {H : Hp} {m : List Addr} : ∀ {xs : List V} {vs : List PV}, RepL K H m xs vs → xs.all flatV = vs.all flatP
  | _, _, .nil => rfl
  | _, _, .cons a t => by rw [List.all_cons, List.all_cons, rep_flat a, repL_flat t]
theorem rep_eq {K : PySem.W.Frag} {H : Hp} {m : List Addr} {x y : V} {v w : PV} (h : RepV K H m x v) (g : RepV K H m y w) (f1 : flatP v = true) (f2 : flatP w = true) : L2.eqV x y = eqF v w := by
  cases h <;> cases g <;> first | rfl | (simp [flatP] at f1; done) | (simp [flatP] at f2; done) | simp [L2.eqV, eqF, PV.toD, PyData.eqv]
theorem repL_in {K : PySem.W.Frag} {H : Hp} {m : List Addr} {x : V} {v : PV} (h : RepV K H m x v) (f1 : flatP v = true) : ∀ {xs : List V} {vs : List PV}, RepL K H m xs vs → vs.all flatP = true → L2.inV x xs = inB v vs
  | _, _, .nil, _ => rfl
  | _, _, .cons a t, f2 => by
    rw [List.all_cons, Bool.and_eq_true] at f2
    have q := repL_in h f1 t f2.2
    unfold L2.inV inB at q ⊢
    rw [List.any_cons, List.any_cons, q, rep_eq a h f2.1 f1]
/-- x in a dict -/
def rInD (neg : Bool) : R2 := fun x y H Q => ∃ a kvs k, y = .ref a ∧ H a = some (.dK kvs) ∧ x = kV k ∧ Q (.bl (if neg = true then !(valV kvs k).isSome else (valV kvs k).isSome)) H
theorem op_inD (hu : X.A.units + 64 < cLine) : OpR X (compareOp .In) (rInD false) := by
  intro pins s σ H x y v u Q I rx ry h
  obtain ⟨a, kvs, k, rfl, ha, rfl, q⟩ := h
  obtain rfl : u = Value.ref a := ry
  exact d_in (by omega) I (DGet.k ha) rx fun s' I' => ⟨.bl _, H, I', rfl, q⟩
theorem op_notinD (hu : X.A.units + 64 < cLine) : OpR X (compareOp .NotIn) (rInD true) := by
  intro pins s σ H x y v u Q I rx ry h
  obtain ⟨a, kvs, k, rfl, ha, rfl, q⟩ := h
  obtain rfl : u = Value.ref a := ry
  exact d_notIn (by omega) I (DGet.k ha) rx fun s' I' => ⟨.bl _, H, I', rfl, q⟩
theorem rep_key {K : PySem.W.Frag} {H : Hp} {m : List Addr} {x : V} {v : PV} {k : Key} (h : RepV K H m x v) (e : keyOf v = some k) : x = kV k := by
  cases h <;> simp [keyOf] at e <;> subst e <;> rfl
theorem rep_keyV {K : PySem.W.Frag} {H : Hp} {m : List Addr} (k : Key) : RepV K H m (kV k) (keyPV k) := by
  cases k with
  | inl i => exact .int i
  | inr x => exact .str x
theorem RepD.keysL {K : PySem.W.Frag} {H : Hp} {m : List Addr} : ∀ {xs : List (Key × V)} {vs : List (Key × PV)}, RepD K H m xs vs → RepL K H m (xs.map fun kv => kV kv.1) (keysP vs)
  | _, _, .nil => .nil
  | _, _, .cons (k := k) h t => .cons (rep_keyV k) (RepD.keysL t)
theorem inF_of {f : Value → Value → Sem Value} {neg : Bool} (h1 : OpR X f (rIn X.K neg)) (h2 : OpR X f (rInD neg)) : OpF X f (inQ fun b => if neg = true then !b else b) := by
  refine ⟨_, h1.or h2, fun m H S x y v w Q Kv r hx hy q k => ?_⟩
  have gen : ∀ (p : Addr) (xs : List V) (vs : List PV), (SqL X.K H p xs ∨ SqT X.K H p xs) → RepL X.K H m xs vs → inOk v vs ∧ Q (.bl (if neg = true then !inB v vs else inB v vs)) S → rIn X.K neg x (.ref p) H Kv := fun p xs vs hq hl ⟨⟨a, b⟩, q⟩ => by
    refine ⟨p, xs, rfl, hq, (rep_flat hx).trans a, (repL_flat hl).trans b, ?_⟩
    rw [repL_in hx a hl b]
    exact k.here r (.bl _) q
  cases hy with
  | tup h1 h2 => exact .inl (gen _ _ _ (.inr h1) h2 (by cases v <;> exact q))
  | @ref b j h1 =>
    have q' : ∃ o : Mo, S[j]? = some o ∧ o.inQ v fun b => Q (.bl (if neg = true then !b else b)) S := by cases v <;> exact q
    obtain ⟨o, e, q⟩ := q'
    cases o with
    | lst vs =>
      obtain ⟨xs, g1, g2⟩ := r.sql e rfl h1
      exact .inl (gen _ _ _ (.inl g1) g2 q)
    | frz vs =>
      obtain ⟨xs, g1, g2⟩ := r.sql e rfl h1
      exact .inl (gen _ _ _ (.inl g1) g2 q)
    | dct vs =>
      obtain ⟨kk, ek, q⟩ := q
      obtain ⟨a, xs, g1, g2, g3⟩ := r.dct e
      rw [h1] at g1
      cases g1
      refine .inr ⟨b, xs, kk, rfl, g2, rep_key hx ek, ?_⟩
      have : (valV xs kk).isSome = (getP vs kk).isSome := by
        rcases g3.get (k := kk) with ⟨z1, z2⟩ | ⟨_, _, z1, z2, _⟩ <;> rw [z1, z2] <;> rfl
      rw [this]
      exact k.here r (.bl _) q
  | _ => cases v <;> exact q.elim
def Cop : COp → CmpOp
  | .eq => .Eq | .ne => .NotEq | .lt => .Lt | .le => .LtE | .gt => .Gt | .ge => .GtE | .is => .Is | .isnot => .IsNot | .isin => .In | .notin => .NotIn
theorem opF_cmp (hu : X.A.units + 64 < cLine) : ∀ o : COp, OpF X (compareOp (Cop o)) (cmpQ o)
  | .eq => eqF_of (g := fun b => b) op_eq (op_eqM hu)
  | .ne => eqF_of (g := fun b => !b) op_ne (op_neM hu)
  | .lt => opF_int0 op_lt fun _ _ _ _ _ => .bl _
  | .le => opF_int0 op_le fun _ _ _ _ _ => .bl _
  | .gt => opF_int0 op_gt fun _ _ _ _ _ => .bl _
  | .ge => opF_int0 op_ge fun _ _ _ _ _ => .bl _
  | .is => isF_of (g := fun b => b) op_isN op_is_bl op_isB
  | .isnot => isF_of (g := fun b => !b) op_notN op_isnot_bl op_isnotB
  | .isin => inF_of (neg := false) op_in_seq (op_inD hu)
  | .notin => inF_of (neg := true) op_notIn_seq (op_notinD hu)
end
end Pv
set_option Elab.async false
set_option linter.all false
set_option maxRecDepth 100000
set_option maxHeartbeats 1000000
/-! Pv4: expressions: what the small language says is what the machine does. -/
namespace Pv
open PySem PySem.Spec PyProof.Rows L2

def RfE (X : Cx) (G : GT) (W : WX) (t : TE) (p : Env → Store → PQ → PX → Prop) : Prop :=
  ∀ m σ H ρ S Q E Kv, RlS X.K m H S → RlE X.K m H σ ρ → p ρ S Q E → KE X.K m H Q Kv → KX X.K X.mg G m H E (fun c d H' => W c d σ H') → t σ H Kv
def RfT (X : Cx) (G : GT) (W : WX) (t : TT) (p : Env → Store → (Bool → Store → Prop) → PX → Prop) : Prop :=
  ∀ m σ H ρ S Q E (Kv : Bool → Hp → Prop), RlS X.K m H S → RlE X.K m H σ ρ → p ρ S Q E →
    (∀ m' H' k S', Ext X.K m H m' H' → RlS X.K m' H' S' → Q k S' → Kv k H') → KX X.K X.mg G m H E (fun c d H' => W c d σ H') → t σ H Kv
def RfA (X : Cx) (G : GT) (W : WX) (t : TA) (p : Env → Store → (List PV → Store → Prop) → PX → Prop) : Prop :=
  ∀ m σ H ρ S Q E (Kv : List V → Hp → Prop), RlS X.K m H S → RlE X.K m H σ ρ → p ρ S Q E →
    (∀ m' H' vs pvs S', Ext X.K m H m' H' → RlS X.K m' H' S' → RepL X.K H' m' vs pvs → Q pvs S' → Kv vs H') → KX X.K X.mg G m H E (fun c d H' => W c d σ H') → t σ H Kv
def RfO (X : Cx) (G : GT) (W : WX) (t : TO) (p : Env → Store → (Option Int → Store → Prop) → PX → Prop) : Prop :=
  ∀ m σ H ρ S Q E (Kv : Option Int → Hp → Prop), RlS X.K m H S → RlE X.K m H σ ρ → p ρ S Q E →
    (∀ m' H' o S', Ext X.K m H m' H' → RlS X.K m' H' S' → Q o S' → Kv o H') → KX X.K X.mg G m H E (fun c d H' => W c d σ H') → t σ H Kv
/-- what an iterator yields, in every later state in which its lists stand -/
def ItOk (K : PySem.W.Frag) (J : It) (src : Src) (items : List PV) (m : List Addr) (H : Hp) : Prop :=
  ∀ (i : Nat) m2 H2 S2, Ext K m H m2 H2 → RlS K m2 H2 S2 → srcOk src S2 →
    (items.length ≤ i → J.stop i H2) ∧ ∀ p, items[i]? = some p → J.go i H2 ∧ ∀ x H3, J.yld i H2 x H3 → Ext K m2 H2 m2 H3 ∧ RlS K m2 H3 S2 ∧ RepV K H3 m2 x p
def RfI (X : Cx) (G : GT) (W : WX) (t : TI) (p : Env → Store → (Src → List PV → Store → Prop) → PX → Prop) : Prop :=
  ∀ m σ H ρ S Q E (Kv : It → Hp → Prop), RlS X.K m H S → RlE X.K m H σ ρ → p ρ S Q E →
    (∀ m' H' J src items S', Ext X.K m H m' H' → RlS X.K m' H' S' → ItOk X.K J src items m' H' → Q src items S' → Kv J H') → KX X.K X.mg G m H E (fun c d H' => W c d σ H') → t σ H Kv

/-- a def's promise: what its meaning P says -/
def spF (K : PySem.W.Frag) (mg : Str → Option Value) (G : GT) (P : List PV → Store → PQ → PX → Prop) : Sp := fun vs H Q E =>
  ∃ m args S Q' E', RlS K m H S ∧ RepL K H m vs args ∧ P args S Q' E' ∧ KE K m H Q' Q ∧ KX K mg G m H E' E
structure CallOk (X : Cx) (G : GT) (Φ : Call) : Prop where
  ok : ∀ (i : Nat) (x : Str) (n : Nat) (dfl : List PV), G.fns[i]? = some (x, n, dfl) → ∃ f fd ps k, X.mg x = some (.ref f) ∧ PySem.W.keepIn X.K (.ref f) = true ∧ ps.length = n ∧
    FnOk X.prog X.w X.K X.mg X.base (L2.CX X.prog X.w) k f fd ps (spF X.K X.mg G (Φ i)) ∧ Room k X.A ∧
    ∀ j, j ≤ dfl.length → ∃ ds dvs, Vals dvs ds ∧ (∀ H m, RepL X.K H m dvs (dfl.drop (dfl.length - j))) ∧ Binds X.K fd ps ds

/-- what stands fixed while a def's body is read -/
structure CC where
  N : List Str
  sc : Scope
  calm : Bool
  blk : Bool
  blts : List Str
/-- the scope as the text has it, as the frame has it (a block's captured names may be cells there) -/
structure ScOk (sc sc' : Scope) : Prop where
  gl : ∀ x, sc.names.lookup x = some .globalImplicit → sc'.names.lookup x = some .globalImplicit
  lo : ∀ x, sc.names.lookup x = some .local → sc'.names.lookup x = some .local
  ce : ∀ x, sc.names.lookup x = some .cell → sc'.names.lookup x = some .cell
  fr : ∀ x, sc.names.lookup x = some .free → sc'.names.lookup x = some .free ∨ sc'.names.lookup x = some .cell
def tMkF (C : Addr) (f : Str) (ta : TA) : L2.St → Hp → XK → Prop := fun σ H Q => ta σ H fun vs H1 => ∃ v, vs = [v] ∧ ∀ d, H1 d = none → Q (.ref C) (some d) (upd H1 d (.xd [(f, v)]))
def notStar : Expr → Bool
  | .Starred .. => false
  | _ => true
/-- an exception class without __init__; one with a field -/
def ExcOk (X : Cx) (x : Str) : Prop := ∃ C B newId initId bmB, ExcBaseFacts B newId initId bmB ∧ PySem.W.excIn X.K C bmB newId = true ∧ X.mg x = some (.ref C) ∧ PySem.W.keepIn X.K (.ref C) = true ∧ Raises X (.ref C)
def ExcFOk (K : PySem.W.Frag) (mg : Str → Option Value) (x f : Str) : Prop := ∃ C, mg x = some (.ref C) ∧ XfC K C ∧ PySem.W.findIn K (.ref C) f = some none ∧
  ∀ (X : Cx), X.K = K → X.mg = mg → Room 0 X.A → Gl X x → ∀ (a : Expr) (ta : TA) (p pos : Pos), PA X [a] ta → notStar a = true → PMk X (.Call (.Name x p) [a] [] pos) (tMkF C f ta)
theorem ScOk.refl {sc : Scope} : ScOk sc sc := ⟨fun _ h => h, fun _ h => h, fun _ h => h, fun _ h => .inl h⟩
structure Ctx (G : GT) (C : CC) (X : Cx) (W : WX) (Φ : Call) : Prop where
  hN : X.N = C.N
  nd : C.N.Nodup
  kind : X.env.scope.kind = .function
  sc : ScOk C.sc X.env.scope
  fn : C.blk = false → ∀ x, X.fn x = true
  calm : C.calm = true → X.calm = true
  units : X.A.units + 64 < cLine
  call : C.calm = true → CallOk X G Φ
  tk : Takes X W
  pass : PassesOwn (model X.prog X.w) X.A X.env X.xe
  blt : ∀ x, x ∈ C.blts → X.mg x = none
  room : C.calm = true → Room 0 X.A
  frame : C.blk = false → X.stack = X.env :: X.outer ∧ X.env.frame = some X.env.locals
  exc : ∀ (c : Nat) (x : Str), G.excs[c]? = some (x, none) → ExcOk X x
  excF : ∀ (c : Nat) (x f : Str), G.excs[c]? = some (x, some f) → ExcFOk X.K X.mg x f
  cat : ∀ (c d : Nat) (x y : Str) (fo fo' : Option Str) (cv dv : Value), c ∈ G.hs → G.excs[c]? = some (x, fo) → G.excs[d]? = some (y, fo') → X.mg x = some cv → X.mg y = some dv → PySem.W.exmOne X.K dv cv = some (G.tab.catches c d)
  con : ∀ x pv, (x, pv) ∈ G.cons → ∃ v u, X.mg x = some u ∧ RelV v u ∧ ∀ H m, RepV X.K H m v pv

def EX (X : Cx) (G : GT) (W : WX) (Φ : Call) (e : Expr) (p : IE) : Prop := ∃ t, PE X e t ∧ RfE X G W t (wpE Φ p)
def TX (X : Cx) (G : GT) (W : WX) (Φ : Call) (e : Expr) (p : IE) : Prop := ∃ t, PT X e t ∧ RfT X G W t (wpT Φ p)
def WX' (X : Cx) (G : GT) (W : WX) (Φ : Call) (e : Expr) (p : IE) : Prop := ∃ t, PW X e t ∧ RfT X G W t (wpT Φ p)
def AX (X : Cx) (G : GT) (W : WX) (Φ : Call) (es : List Expr) (p : IEs) : Prop := ∃ t, PA X es t ∧ RfA X G W t (wpEs Φ p)
def OX (X : Cx) (G : GT) (W : WX) (Φ : Call) (e : Option Expr) (p : IOp) : Prop := ∃ t, PO X e t ∧ RfO X G W t (wpO Φ p)
def IX (X : Cx) (G : GT) (W : WX) (Φ : Call) (tg e : Expr) (p : II) : Prop := ∃ t, PI X tg e t ∧ RfI X G W t (wpI Φ p)

section
variable {X : Cx} {G : GT} {W : WX} {Φ : Call} {C : CC} {e a b c : Expr} {p q r : IE} {pos : Pos} {es rest : List Expr} {ps : IEs}
theorem ex_var {x : Str} {i : Nat} (hN : X.N[i]? = some x) (hv : Vis X.env.scope x) (h1 : (x == ("__debug__" : Str)) = false) (h2 : (x == ("__classdict__" : Str)) = false) : EX X G W Φ (.Name x pos) (.var i) := by
  refine ⟨_, pe_var hN hv h1 h2, fun m σ H ρ S Q E Kv r re w k kx => ?_⟩
  simp only [wpE, varQ] at w
  split at w
  · rename_i v hv
    obtain ⟨x, h1, h2⟩ := re.2 _ _ hv
    exact ⟨x, h1, k.here r h2 w⟩
  · exact w.elim
theorem ex_cst {v : V} {pv : PV} (h : PE X e (tC v)) (hr : ∀ H m, RepV X.K H m v pv) : EX X G W Φ e (.cst pv) :=
  ⟨_, h, fun m σ H ρ S Q E Kv r re w k kx => k.here r (hr _ _) (by simpa only [wpE] using w)⟩
theorem ex_op {f : Value → Value → Sem Value} {qq : PV → PV → Store → PQ → Prop} {e : Expr} {ir : IE} (ha : EX X G W Φ a p) (hb : EX X G W Φ b q) (hf : OpF X f qq)
    (hp : ∀ (r : R2) (ta tb : TE), OpR X f r → PE X a ta → PE X b tb → PE X e (tOp r ta tb)) (hw : ∀ ρ S Q E, wpE Φ ir ρ S Q E = wpE Φ p ρ S (fun v S1 => wpE Φ q ρ S1 (fun w S2 => qq v w S2 Q) E) E) : EX X G W Φ e ir := by
  obtain ⟨ta, Pa, Ra⟩ := ha
  obtain ⟨tb, Pb, Rb⟩ := hb
  obtain ⟨r, ho, hr⟩ := hf
  refine ⟨_, hp r ta tb ho Pa Pb, fun m σ H ρ S Q E Kv r0 re w k kx => ?_⟩
  rw [hw] at w
  refine Ra m σ H ρ S _ E _ r0 re w (fun m1 H1 x v S1 e1 r1 hx w1 => ?_) kx
  refine Rb m1 σ H1 ρ S1 _ E _ r1 (re.ext e1) w1 (fun m2 H2 y w S2 e2 r2 hy w2 => ?_) (kx.ext e1)
  exact hr m2 H2 S2 x y v w Q Kv r2 (RepV.ext e2 v x hx) hy w2 (k.ext (e1.trans e2))
theorem ex_bin {o : BOp} (ha : EX X G W Φ a p) (hb : EX X G W Φ b q) : EX X G W Φ (.BinOp a (Bop o) b pos) (.bin o p q) :=
  ex_op ha hb (opF_bin o) (fun _ _ _ h1 h2 h3 => pe_op h1 h2 h3) fun ρ S Q E => by simp only [wpE]
theorem ex_cmp {o : COp} (hu : X.A.units + 64 < cLine) (ha : EX X G W Φ a p) (hb : EX X G W Φ b q) (hm : behindInMarks (Cop o) b = false) : EX X G W Φ (.Compare a [Cop o] [b] pos) (.cmp o p q) :=
  ex_op ha hb (opF_cmp hu o) (fun _ _ _ h1 h2 h3 => pe_cmpR h1 h2 h3 hm) fun ρ S Q E => by simp only [wpE]
theorem tx_cmp {o : COp} (hu : X.A.units + 64 < cLine) (ha : EX X G W Φ a p) (hb : EX X G W Φ b q) (hm : behindInMarks (Cop o) b = false) : TX X G W Φ (.Compare a [Cop o] [b] pos) (.cmp o p q) := by
  obtain ⟨ta, Pa, Ra⟩ := ha
  obtain ⟨tb, Pb, Rb⟩ := hb
  obtain ⟨r, ho, hr⟩ := opF_cmp hu o
  refine ⟨_, pt_cmpR ho Pa Pb hm, fun m σ H ρ S Q E Kv r0 re w k kx => ?_⟩
  simp only [wpT] at w
  refine Ra m σ H ρ S _ E _ r0 re w (fun m1 H1 x v S1 e1 r1 hx w1 => ?_) kx
  refine Rb m1 σ H1 ρ S1 _ E _ r1 (re.ext e1) w1 (fun m2 H2 y w S2 e2 r2 hy w2 => ?_) (kx.ext e1)
  refine hr m2 H2 S2 x y v w _ _ r2 (RepV.ext e2 v x hx) hy w2 fun m3 H3 z pz S3 e3 r3 hz w3 => ?_
  obtain ⟨kk, e, w3⟩ := w3
  subst e
  cases hz
  exact ⟨kk, rfl, k m3 H3 kk S3 ((e1.trans e2).trans e3) r3 w3⟩
theorem ex_chain {o o' : COp} (hu : X.A.units + 64 < cLine) (ha : EX X G W Φ a p) (hb : EX X G W Φ b q) (hc : EX X G W Φ c r) (hm : lastMarks [Cop o, Cop o'] [b, c] = false) : EX X G W Φ (.Compare a [Cop o, Cop o'] [b, c] pos) (.chain o o' p q r) := by
  obtain ⟨ta, Pa, Ra⟩ := ha
  obtain ⟨tb, Pb, Rb⟩ := hb
  obtain ⟨tc, Pc, Rc⟩ := hc
  obtain ⟨r, ho, hr⟩ := opF_cmp hu o
  obtain ⟨r', ho', hr'⟩ := opF_cmp hu o'
  refine ⟨_, pe_chain ho ho' Pa Pb Pc hm, fun m σ H ρ S Q E Kv r0 re w k kx => ?_⟩
  simp only [wpE] at w
  refine Ra m σ H ρ S _ E _ r0 re w (fun m1 H1 x v S1 e1 r1 hx w1 => ?_) kx
  refine Rb m1 σ H1 ρ S1 _ E _ r1 (re.ext e1) w1 (fun m2 H2 y w S2 e2 r2 hy w2 => ?_) (kx.ext e1)
  refine hr m2 H2 S2 x y v w _ _ r2 (RepV.ext e2 v x hx) hy w2 fun m3 H3 z pz S3 e3 r3 hz w3 => ?_
  obtain ⟨kk, e, w3⟩ := w3
  subst e
  cases hz
  refine ⟨kk, rfl, ?_⟩
  have e13 := (e1.trans e2).trans e3
  cases kk with
  | false => simp only [Bool.false_eq_true, if_false] at w3 ⊢; exact k m3 H3 _ _ S3 e13 r3 (.bl _) w3
  | true =>
    simp only [if_true] at w3 ⊢
    refine Rc m3 σ H3 ρ S3 _ E _ r3 (re.ext e13) w3 (fun m4 H4 u pu S4 e4 r4 hu' w4 => ?_) (kx.ext e13)
    exact hr' m4 H4 S4 y u w pu Q Kv r4 (RepV.ext (e3.trans e4) w y hy) hu' w4 (k.ext (e13.trans e4))
theorem tx_chain {o o' : COp} (hu : X.A.units + 64 < cLine) (ha : EX X G W Φ a p) (hb : EX X G W Φ b q) (hc : EX X G W Φ c r) (hm : lastMarks [Cop o, Cop o'] [b, c] = false) : TX X G W Φ (.Compare a [Cop o, Cop o'] [b, c] pos) (.chain o o' p q r) := by
  obtain ⟨ta, Pa, Ra⟩ := ha
  obtain ⟨tb, Pb, Rb⟩ := hb
  obtain ⟨tc, Pc, Rc⟩ := hc
  obtain ⟨r, ho, hr⟩ := opF_cmp hu o
  obtain ⟨r', ho', hr'⟩ := opF_cmp hu o'
  refine ⟨_, pt_chain ho ho' Pa Pb Pc hm, fun m σ H ρ S Q E Kv r0 re w k kx => ?_⟩
  simp only [wpT] at w
  refine Ra m σ H ρ S _ E _ r0 re w (fun m1 H1 x v S1 e1 r1 hx w1 => ?_) kx
  refine Rb m1 σ H1 ρ S1 _ E _ r1 (re.ext e1) w1 (fun m2 H2 y w S2 e2 r2 hy w2 => ?_) (kx.ext e1)
  refine hr m2 H2 S2 x y v w _ _ r2 (RepV.ext e2 v x hx) hy w2 fun m3 H3 z pz S3 e3 r3 hz w3 => ?_
  obtain ⟨kk, e, w3⟩ := w3
  subst e
  cases hz
  refine ⟨kk, rfl, ?_⟩
  have e13 := (e1.trans e2).trans e3
  cases kk with
  | false => simp only [Bool.false_eq_true, if_false] at w3 ⊢; exact ⟨false, rfl, k m3 H3 _ S3 e13 r3 w3⟩
  | true =>
    simp only [if_true] at w3 ⊢
    refine Rc m3 σ H3 ρ S3 _ E _ r3 (re.ext e13) w3 (fun m4 H4 u pu S4 e4 r4 hu' w4 => ?_) (kx.ext e13)
    refine hr' m4 H4 S4 y u w pu _ _ r4 (RepV.ext (e3.trans e4) w y hy) hu' w4 fun m5 H5 z5 pz5 S5 e5 r5 hz5 w5 => ?_
    obtain ⟨k5, q5, w5⟩ := w5
    subst q5
    cases hz5
    exact ⟨k5, rfl, k m5 H5 k5 S5 ((e13.trans e4).trans e5) r5 w5⟩
/-- a value's truth -/
theorem truV_of {m : List Addr} {H : Hp} {S : Store} {x : V} {v : PV} {Q : Bool → Prop} (r : RlS X.K m H S) (h : RepV X.K H m x v) (q : truQ v S Q) : ∃ k, TruV X.K x H k ∧ Q k := by
  cases h with
  | non => exact ⟨_, rfl, q⟩
  | bl b => exact ⟨_, rfl, q⟩
  | int i => exact ⟨_, rfl, q⟩
  | str x => exact ⟨_, ⟨q.1, rfl⟩, q.2⟩
  | @tup a xs vs h1 h2 => exact ⟨_, .inr (.inl ⟨xs, h1, rfl⟩), by rw [h2.nil_iff]; exact q⟩
  | @ref a i h1 =>
    obtain ⟨o, e, sq, q⟩ := q
    obtain ⟨xs, g1, g2⟩ := r.sql e sq h1
    exact ⟨_, .inl ⟨xs, g1, rfl⟩, by rw [g2.nil_iff]; exact q⟩
theorem tx_val (ha : EX X G W Φ a p) (he : ∀ whole, isTrue a X.env whole = (do let v ← whole; standAt a.pos; holding [v] (truthy v)))
    (hw : ∀ ρ S Q E, wpT Φ p ρ S Q E = wpE Φ p ρ S (fun v S1 => truQ v S1 fun k => Q k S1) E) : TX X G W Φ a p := by
  obtain ⟨ta, Pa, Ra⟩ := ha
  refine ⟨_, pt_truth Pa he, fun m σ H ρ S Q E Kv r0 re w k kx => ?_⟩
  rw [hw] at w
  refine Ra m σ H ρ S _ E _ r0 re w (fun m1 H1 x v S1 e1 r1 hx w1 => ?_) kx
  obtain ⟨kk, t, w1⟩ := truV_of r1 hx w1
  exact ⟨kk, t, k m1 H1 kk S1 e1 r1 w1⟩
theorem ex_not (ha : EX X G W Φ a p) : EX X G W Φ (.UnaryOp .Not a pos) (.not p) := by
  obtain ⟨ta, Pa, Ra⟩ := ha
  refine ⟨_, pe_notT Pa, fun m σ H ρ S Q E Kv r0 re w k kx => ?_⟩
  simp only [wpE] at w
  refine Ra m σ H ρ S _ E _ r0 re w (fun m1 H1 x v S1 e1 r1 hx w1 => ?_) kx
  obtain ⟨kk, t, w1⟩ := truV_of r1 hx w1
  exact ⟨kk, t, k m1 H1 _ _ S1 e1 r1 (.bl _) w1⟩
theorem tx_not (ha : TX X G W Φ a p) : TX X G W Φ (.UnaryOp .Not a pos) (.not p) := by
  obtain ⟨ta, Pa, Ra⟩ := ha
  refine ⟨_, pt_not Pa, fun m σ H ρ S Q E Kv r0 re w k kx => ?_⟩
  simp only [wpT] at w
  exact Ra m σ H ρ S _ E _ r0 re w (fun m1 H1 kk S1 e1 r1 w1 => k m1 H1 _ S1 e1 r1 w1) kx
theorem ex_one {op} (ha : EX X G W Φ a p) : EX X G W Φ (.BoolOp op [a] pos) p := let ⟨t, h1, h2⟩ := ha; ⟨t, pe_one h1, h2⟩
theorem ex_and (ha : EX X G W Φ a p) (hb : EX X G W Φ (.BoolOp .And (b :: rest) pos) q) : EX X G W Φ (.BoolOp .And (a :: b :: rest) pos) (.and p q) := by
  obtain ⟨ta, Pa, Ra⟩ := ha
  obtain ⟨tb, Pb, Rb⟩ := hb
  refine ⟨_, pe_and Pa Pb, fun m σ H ρ S Q E Kv r0 re w k kx => ?_⟩
  simp only [wpE] at w
  refine Ra m σ H ρ S _ E _ r0 re w (fun m1 H1 x v S1 e1 r1 hx w1 => ?_) kx
  obtain ⟨kk, e, w1⟩ := w1
  subst e
  cases hx
  refine ⟨kk, rfl, ?_⟩
  cases kk with
  | false => simp only [Bool.false_eq_true, if_false] at w1 ⊢; exact k m1 H1 _ _ S1 e1 r1 (.bl _) w1
  | true => simp only [if_true] at w1 ⊢; exact Rb m1 σ H1 ρ S1 _ E _ r1 (re.ext e1) w1 (k.ext e1) (kx.ext e1)
theorem ex_or (ha : EX X G W Φ a p) (hb : EX X G W Φ (.BoolOp .Or (b :: rest) pos) q) : EX X G W Φ (.BoolOp .Or (a :: b :: rest) pos) (.or p q) := by
  obtain ⟨ta, Pa, Ra⟩ := ha
  obtain ⟨tb, Pb, Rb⟩ := hb
  refine ⟨_, pe_or Pa Pb, fun m σ H ρ S Q E Kv r0 re w k kx => ?_⟩
  simp only [wpE] at w
  refine Ra m σ H ρ S _ E _ r0 re w (fun m1 H1 x v S1 e1 r1 hx w1 => ?_) kx
  obtain ⟨kk, e, w1⟩ := w1
  subst e
  cases hx
  refine ⟨kk, rfl, ?_⟩
  cases kk with
  | true => simp only [if_true] at w1 ⊢; exact k m1 H1 _ _ S1 e1 r1 (.bl _) w1
  | false => simp only [Bool.false_eq_true, if_false] at w1 ⊢; exact Rb m1 σ H1 ρ S1 _ E _ r1 (re.ext e1) w1 (k.ext e1) (kx.ext e1)
theorem wx_and1 (ha : TX X G W Φ a p) : WX' X G W Φ (.BoolOp .And [a] pos) p := let ⟨t, h1, h2⟩ := ha; ⟨t, pw_and1 h1, h2⟩
theorem wx_or1 (ha : TX X G W Φ a p) : WX' X G W Φ (.BoolOp .Or [a] pos) p := let ⟨t, h1, h2⟩ := ha; ⟨t, pw_or1 h1, h2⟩
theorem wx_and (ha : TX X G W Φ a p) (hb : WX' X G W Φ (.BoolOp .And (b :: rest) pos) q) : WX' X G W Φ (.BoolOp .And (a :: b :: rest) pos) (.and p q) := by
  obtain ⟨ta, Pa, Ra⟩ := ha
  obtain ⟨tb, Pb, Rb⟩ := hb
  refine ⟨_, pw_and Pa Pb, fun m σ H ρ S Q E Kv r0 re w k kx => ?_⟩
  simp only [wpT] at w
  refine Ra m σ H ρ S _ E _ r0 re w (fun m1 H1 kk S1 e1 r1 w1 => ?_) kx
  cases kk with
  | false => simp only [Bool.false_eq_true, if_false] at w1 ⊢; exact k m1 H1 _ S1 e1 r1 w1
  | true => simp only [if_true] at w1 ⊢; exact Rb m1 σ H1 ρ S1 _ E _ r1 (re.ext e1) w1 (fun m2 H2 kk S2 e2 => k m2 H2 kk S2 (e1.trans e2)) (kx.ext e1)
theorem wx_or (ha : TX X G W Φ a p) (hb : WX' X G W Φ (.BoolOp .Or (b :: rest) pos) q) : WX' X G W Φ (.BoolOp .Or (a :: b :: rest) pos) (.or p q) := by
  obtain ⟨ta, Pa, Ra⟩ := ha
  obtain ⟨tb, Pb, Rb⟩ := hb
  refine ⟨_, pw_or Pa Pb, fun m σ H ρ S Q E Kv r0 re w k kx => ?_⟩
  simp only [wpT] at w
  refine Ra m σ H ρ S _ E _ r0 re w (fun m1 H1 kk S1 e1 r1 w1 => ?_) kx
  cases kk with
  | true => simp only [if_true] at w1 ⊢; exact k m1 H1 _ S1 e1 r1 w1
  | false => simp only [Bool.false_eq_true, if_false] at w1 ⊢; exact Rb m1 σ H1 ρ S1 _ E _ r1 (re.ext e1) w1 (fun m2 H2 kk S2 e2 => k m2 H2 kk S2 (e1.trans e2)) (kx.ext e1)
theorem WX'.tx (h : WX' X G W Φ e p) : TX X G W Φ e p := let ⟨t, h1, h2⟩ := h; ⟨t, h1.pt, h2⟩
theorem tx_never (hw : ∀ ρ S Q E, wpT Φ p ρ S Q E → False) : TX X G W Φ e p := ⟨fun _ _ _ => False, ⟨fun _ _ _ _ _ _ h => h.elim⟩, fun _ _ _ _ _ _ _ _ _ _ w _ _ => (hw _ _ _ _ w).elim⟩
theorem ex_ifx (hc : TX X G W Φ c r) (ha : EX X G W Φ a p) (hb : EX X G W Φ b q) : EX X G W Φ (.IfExp c a b pos) (.ifx r p q) := by
  obtain ⟨tc, Pc, Rc⟩ := hc
  obtain ⟨ta, Pa, Ra⟩ := ha
  obtain ⟨tb, Pb, Rb⟩ := hb
  refine ⟨_, pe_ifExp Pc Pa Pb, fun m σ H ρ S Q E Kv r0 re w k kx => ?_⟩
  simp only [wpE] at w
  refine Rc m σ H ρ S _ E _ r0 re w (fun m1 H1 kk S1 e1 r1 w1 => ?_) kx
  cases kk with
  | true => simp only [if_true] at w1 ⊢; exact Ra m1 σ H1 ρ S1 _ E _ r1 (re.ext e1) w1 (k.ext e1) (kx.ext e1)
  | false => simp only [Bool.false_eq_true, if_false] at w1 ⊢; exact Rb m1 σ H1 ρ S1 _ E _ r1 (re.ext e1) w1 (k.ext e1) (kx.ext e1)
theorem ex_neg (ha : EX X G W Φ a p) : EX X G W Φ (.UnaryOp .USub a pos) (.neg p) := by
  obtain ⟨ta, Pa, Ra⟩ := ha
  refine ⟨_, pe_un un_neg Pa, fun m σ H ρ S Q E Kv r0 re w k kx => ?_⟩
  simp only [wpE] at w
  refine Ra m σ H ρ S _ E _ r0 re w (fun m1 H1 x v S1 e1 r1 hx w1 => ?_) kx
  obtain ⟨i, e, w1⟩ := w1
  subst e
  cases hx
  exact ⟨i, rfl, k m1 H1 _ _ S1 e1 r1 (.int _) w1⟩
/-! argument lists, displays -/
theorem ax_nil : AX X G W Φ [] .nil := ⟨_, pa_nil, fun m σ H ρ S Q E Kv r0 re w k kx => k m H [] [] S Ext.refl r0 .nil (by simpa only [wpEs] using w)⟩
theorem ax_cons (ha : EX X G W Φ a p) (hr : AX X G W Φ es ps) (hs : starEach (a :: es) X.env = (false, eval a X.env) :: starEach es X.env) : AX X G W Φ (a :: es) (.cons p ps) := by
  obtain ⟨ta, Pa, Ra⟩ := ha
  obtain ⟨tr, Pr, Rr⟩ := hr
  refine ⟨_, pa_cons Pa Pr hs, fun m σ H ρ S Q E Kv r0 re w k kx => ?_⟩
  simp only [wpEs] at w
  refine Ra m σ H ρ S _ E _ r0 re w (fun m1 H1 x v S1 e1 r1 hx w1 => ?_) kx
  refine Rr m1 σ H1 ρ S1 _ E _ r1 (re.ext e1) w1 (fun m2 H2 xs vs S2 e2 r2 hxs w2 => ?_) (kx.ext e1)
  exact k m2 H2 _ _ S2 (e1.trans e2) r2 (.cons (RepV.ext e2 v x hx) hxs) w2
theorem ex_tup {x1 : Nat} (h : AX X G W Φ es ps) : EX X G W Φ (.Tuple es x1 pos) (.tup ps) := by
  obtain ⟨t, P, R⟩ := h
  refine ⟨_, pe_tup P, fun m σ H ρ S Q E Kv r0 re w k kx => ?_⟩
  simp only [wpE] at w
  refine R m σ H ρ S _ E _ r0 re w (fun m1 H1 xs vs S1 e1 r1 hx w1 => ?_) kx
  exact ⟨by rw [hx.len]; exact w1.1, fun p n => (k.ext e1).newT r1 hx w1.2 n⟩
theorem ex_lst (h : AX X G W Φ es ps) : EX X G W Φ (.List es pos) (.lst ps) := by
  obtain ⟨t, P, R⟩ := h
  refine ⟨_, pe_lst P, fun m σ H ρ S Q E Kv r0 re w k kx => ?_⟩
  simp only [wpE] at w
  refine R m σ H ρ S _ E _ r0 re w (fun m1 H1 xs vs S1 e1 r1 hx w1 => ?_) kx
  exact ⟨by rw [hx.len]; exact w1.1, fun p n => (k.ext e1).newL r1 hx w1.2 n⟩
/-! subscripts -/
theorem idx_of {m : List Addr} {H : Hp} {S : Store} {x : V} {v : PV} {kk : Int} {Q : PQ} {Kv : VK} (r : RlS X.K m H S) (h : RepV X.K H m x v) (q : seqQ v S fun xs => ∃ z, atPV xs kk = some z ∧ Q z S) (k : KE X.K m H Q Kv) : rIx X.K x (.int kk) H Kv := by
  cases h with
  | @tup a xs vs h1 h2 =>
    obtain ⟨z, e, q⟩ := q
    obtain ⟨y, e2, hy⟩ := h2.at_ e
    exact .inr (.inl ⟨a, xs, kk, y, rfl, rfl, h1, e2, k.here r hy q⟩)
  | @ref a i h1 =>
    obtain ⟨o, e, sq, z, e1, q⟩ := q
    obtain ⟨xs, g1, g2⟩ := r.sql e sq h1
    obtain ⟨y, e2, hy⟩ := g2.at_ e1
    exact .inl ⟨a, xs, kk, y, rfl, rfl, g1, e2, k.here r hy q⟩
  | _ => exact q.elim
def rIxDk : R2 := fun x y H Q => ∃ a kvs k v, x = .ref a ∧ H a = some (.dK kvs) ∧ y = kV k ∧ valV kvs k = some v ∧ Q v H
theorem ix_dk (hu : X.A.units + 64 < cLine) : IxR X rIxDk := by
  intro value slice pins s σ H x y v u Q I rx ry h hs
  obtain ⟨a, kvs, k, z, rfl, ha, rfl, e, q⟩ := h
  obtain rfl : v = Value.ref a := rx
  have g : DGet H a (kV k) (some z) := by rw [← e]; exact DGet.k ha
  exact tail_any (dict_typeIs I g) PySem.F.slot_dict_getitem.lookup (d_getItem (by omega) I g ry fun w' s' I' rw' => ⟨z, H, I', rw', q⟩) hs
theorem opF_idx (hu : X.A.units + 64 < cLine) : ∃ r : R2, IxR X r ∧ ∀ m H S x y v w Q Kv, RlS X.K m H S → RepV X.K H m x v → RepV X.K H m y w → idxQ v w S Q → KE X.K m H Q Kv → r x y H Kv := by
  refine ⟨_, ix_seq.or (ix_dk hu), fun m H S x y v w Q Kv r hx hy q k => ?_⟩
  cases hx with
  | @tup a xs vs h1 h2 =>
    cases hy with
    | int kk => exact .inl (idx_of r (.tup h1 h2) q k)
    | _ => exact q.elim
  | @ref a i h1 =>
    obtain ⟨o, e, q⟩ := q
    cases o with
    | lst vs =>
      cases hy with
      | int kk => exact .inl (idx_of r (.ref h1) ⟨_, e, rfl, q⟩ k)
      | _ => exact q.elim
    | frz vs =>
      cases hy with
      | int kk => exact .inl (idx_of r (.ref h1) ⟨_, e, rfl, q⟩ k)
      | _ => exact q.elim
    | dct vs =>
      obtain ⟨kk, z, ek, ez, q⟩ := q
      obtain ⟨b, xs, g1, g2, g3⟩ := r.dct e
      rw [h1] at g1
      cases g1
      rcases g3.get (k := kk) with ⟨z1, z2⟩ | ⟨z', zv, z1, z2, z3⟩
      · rw [z1] at ez; cases ez
      · rw [z1] at ez; cases ez
        exact .inr ⟨a, xs, kk, zv, rfl, g2, rep_key hy ek, z2, k.here r z3 q⟩
  | str z =>
    cases hy with
    | int kk =>
      obtain ⟨hz, c, ec, q⟩ := q
      exact .inl (.inr (.inr ⟨z, kk, c, rfl, rfl, hz, ec, k.here r (.str _) q⟩))
    | _ => exact q.elim
  | _ => cases hy <;> exact q.elim
theorem ex_idx (hu : X.A.units + 64 < cLine) (ha : EX X G W Φ a p) (hb : EX X G W Φ b q) (hs : PlainIx b) : EX X G W Φ (.Subscript a b pos) (.idx p q) := by
  obtain ⟨ta, Pa, Ra⟩ := ha
  obtain ⟨tb, Pb, Rb⟩ := hb
  obtain ⟨r, ho, hr⟩ := opF_idx (X := X) hu
  refine ⟨_, pe_ix ho Pa Pb hs, fun m σ H ρ S Q E Kv r0 re w k kx => ?_⟩
  simp only [wpE] at w
  refine Ra m σ H ρ S _ E _ r0 re w (fun m1 H1 x v S1 e1 r1 hx w1 => ?_) kx
  refine Rb m1 σ H1 ρ S1 _ E _ r1 (re.ext e1) w1 (fun m2 H2 y w S2 e2 r2 hy w2 => ?_) (kx.ext e1)
  exact hr m2 H2 S2 x y v w Q Kv r2 (RepV.ext e2 v x hx) hy w2 (k.ext (e1.trans e2))
theorem atPV_nat {xs : List PV} {n : Nat} {x : PV} (h : xs[n]? = some x) : atPV xs (n : Int) = some x := atI_nat h
theorem seqQ_mono {v : PV} {S : Store} {P P' : List PV → Prop} (h : seqQ v S P) (f : ∀ xs, P xs → P' xs) : seqQ v S P' := by
  cases v with
  | tup xs => exact f _ h
  | ref i => obtain ⟨o, e, sq, h⟩ := h; exact ⟨o, e, sq, f _ h⟩
  | _ => exact h.elim
theorem ex_idxc {n j : Nat} {p2 : Pos} (ha : EX X G W Φ a p) : EX X G W Φ (.Subscript a (.Constant (.int (n : Int)) j p2) pos) (.idxc p n) := by
  obtain ⟨ta, Pa, Ra⟩ := ha
  refine ⟨_, pe_ix ix_seq Pa pe_int (fun _ _ => rfl), fun m σ H ρ S Q E Kv r0 re w k kx => ?_⟩
  simp only [wpE] at w
  refine Ra m σ H ρ S _ E _ r0 re w (fun m1 H1 x v S1 e1 r1 hx w1 => ?_) kx
  exact idx_of r1 hx (seqQ_mono w1 fun xs ⟨x, e, q⟩ => ⟨x, atPV_nat e, q⟩) (k.ext e1)
/-! slices -/
theorem ox_no : OX X G W Φ none .no := ⟨_, po_none, fun m σ H ρ S Q E Kv r0 re w k kx => k m H none S Ext.refl r0 (by simpa only [wpO] using w)⟩
theorem ox_so (ha : EX X G W Φ a p) : OX X G W Φ (some a) (.so p) := by
  obtain ⟨ta, Pa, Ra⟩ := ha
  refine ⟨_, po_some Pa, fun m σ H ρ S Q E Kv r0 re w k kx => ?_⟩
  simp only [wpO] at w
  refine Ra m σ H ρ S _ E _ r0 re w (fun m1 H1 x v S1 e1 r1 hx w1 => ?_) kx
  obtain ⟨i, e, w1⟩ := w1
  subst e
  cases hx
  exact ⟨i, rfl, k m1 H1 _ S1 e1 r1 w1⟩
theorem sl_of {m : List Addr} {H : Hp} {S : Store} {x : V} {v : PV} {lo hi : Option Int} {Q : PQ} {Kv : VK} (r : RlS X.K m H S) (h : RepV X.K H m x v) (q : sliceQ v lo hi S Q) (k : KE X.K m H Q Kv) : rSlA X.K x lo hi H Kv ∨ rSlL X.K x lo hi H Kv := by
  cases h with
  | @tup a xs vs h1 h2 =>
    refine .inl ⟨a, xs, rfl, h1, fun e => ?_, fun _ p n => k.newT r (h2.cutV lo hi) q n⟩
    have e2 : cutPV vs lo hi = vs := by
      unfold cutPV
      rw [← h2.len, e.1, e.2, List.drop_zero, Nat.sub_zero, h2.len, List.take_length]
    have q' : Q (.tup (cutPV vs lo hi)) S := q
    rw [e2] at q'
    exact k.here r (.tup h1 h2) q'
  | @ref a i h1 =>
    obtain ⟨o, e, sq, q⟩ := q
    obtain ⟨xs, g1, g2⟩ := r.sql e sq h1
    exact .inr ⟨a, xs, rfl, g1, fun p n => k.newL r (g2.cutV lo hi) q n⟩
  | _ => exact q.elim
theorem ex_slice {lo hi : Option Expr} {l h : IOp} {p2 : Pos} (ha : EX X G W Φ a p) (hl : OX X G W Φ lo l) (hh : OX X G W Φ hi h) : EX X G W Φ (.Subscript a (.Slice lo hi none p2) pos) (.slice p l h) := by
  obtain ⟨ta, Pa, Ra⟩ := ha
  obtain ⟨tl, Pl, Rl⟩ := hl
  obtain ⟨th, Ph, Rh⟩ := hh
  refine ⟨_, pe_slice (sl_tupA.or sl_list) Pa Pl Ph, fun m σ H ρ S Q E Kv r0 re w k kx => ?_⟩
  simp only [wpE] at w
  refine Ra m σ H ρ S _ E _ r0 re w (fun m1 H1 x v S1 e1 r1 hx w1 => ?_) kx
  refine Rl m1 σ H1 ρ S1 _ E _ r1 (re.ext e1) w1 (fun m2 H2 l S2 e2 r2 w2 => ?_) (kx.ext e1)
  refine Rh m2 σ H2 ρ S2 _ E _ r2 (re.ext (e1.trans e2)) w2 (fun m3 H3 h S3 e3 r3 w3 => ?_) (kx.ext (e1.trans e2))
  exact sl_of r3 (RepV.ext (e2.trans e3) v x hx) w3 (k.ext ((e1.trans e2).trans e3))
/-! built-ins by name -/
/-- a call by values -/
def CallF (X : Cx) (f : Value) (q : List PV → Store → PQ → Prop) : Prop :=
  ∃ r, CallR X f r ∧ ∀ m H S xs vs Q Kv, RlS X.K m H S → RepL X.K H m xs vs → q vs S Q → KE X.K m H Q Kv → r xs H Kv
theorem CallR.or {f : Value} {r r' : List V → Hp → VK → Prop} (h : CallR X f r) (h' : CallR X f r') : CallR X f (fun xs H Q => r xs H Q ∨ r' xs H Q) :=
  fun pins s σ H xs us Q I rv q => q.elim (h pins s σ H xs us Q I rv) (h' pins s σ H xs us Q I rv)
def biN : Bi → Str
  | .len => "len" | .max2 => "max" | .min2 => "min" | .int1 => "int" | .list1 => "list" | .tuple1 => "tuple" | .all1 => "all" | .any1 => "any" | .sum1 => "sum" | .list0 => "list" | .tuple0 => "tuple" | .sorted1 => "sorted" | .max1 => "max" | .min1 => "min"
def biV : Bi → Value
  | .len => .builtin "len" | .max2 => .builtin "max" | .min2 => .builtin "min" | .int1 => .type "int" | .list1 => .type "list" | .tuple1 => .type "tuple" | .all1 => .builtin "all" | .any1 => .builtin "any" | .sum1 => .builtin "sum" | .list0 => .type "list" | .tuple0 => .type "tuple" | .sorted1 => .builtin "sorted" | .max1 => .builtin "max" | .min1 => .builtin "min"
theorem rep1 {K : PySem.W.Frag} {H : Hp} {m : List Addr} {xs : List V} {v : PV} (h : RepL K H m xs [v]) : ∃ x, xs = [x] ∧ RepV K H m x v := by
  cases h with | cons a t => cases t; exact ⟨_, rfl, a⟩
theorem rep2 {K : PySem.W.Frag} {H : Hp} {m : List Addr} {xs : List V} {v w : PV} (h : RepL K H m xs [v, w]) : ∃ x y, xs = [x, y] ∧ RepV K H m x v ∧ RepV K H m y w := by
  cases h with | cons a t => cases t with | cons b u => cases u; exact ⟨_, _, rfl, a, b⟩
theorem seq_of {m : List Addr} {H : Hp} {S : Store} {x : V} {v : PV} {P : List PV → Prop} (r : RlS X.K m H S) (h : RepV X.K H m x v) (q : seqQ v S P) :
    ∃ a xs vs, x = .ref a ∧ RepL X.K H m xs vs ∧ P vs ∧ ((SqT X.K H a xs ∧ v = .tup vs) ∨ (SqL X.K H a xs ∧ ∃ i o, v = .ref i ∧ S[i]? = some o ∧ o.items = vs)) := by
  cases h with
  | @tup a xs vs h1 h2 => exact ⟨a, xs, vs, rfl, h2, q, .inl ⟨h1, rfl⟩⟩
  | @ref a i h1 =>
    obtain ⟨o, e, sq, q⟩ := q
    obtain ⟨xs, g1, g2⟩ := r.sql e sq h1
    exact ⟨a, xs, _, rfl, g2, q, .inr ⟨g1, i, o, rfl, e, rfl⟩⟩
  | _ => exact q.elim
theorem all_bl {K : PySem.W.Frag} {H : Hp} {m : List Addr} : ∀ {xs : List V} {vs : List PV} {b : Bool}, RepL K H m xs vs → allBl vs = some b → ∃ bs : List Bool, xs = bs.map V.bl ∧ bs.all id = b
  | _, _, b, .nil, e => ⟨[], rfl, by simpa [allBl] using e⟩
  | _, _, b, .cons (.bl c) t, e => by
    simp only [allBl, Option.map_eq_some_iff] at e
    obtain ⟨d, q, e⟩ := e
    obtain ⟨bs, e1, e2⟩ := all_bl t q
    exact ⟨c :: bs, by rw [e1]; rfl, by simpa [e2] using e⟩
  | _, _, _, .cons .non _, e => by simp [allBl] at e
  | _, _, _, .cons (.int _) _, e => by simp [allBl] at e
  | _, _, _, .cons (.str _) _, e => by simp [allBl] at e
  | _, _, _, .cons (.tup _ _) _, e => by simp [allBl] at e
  | _, _, _, .cons (.ref _) _, e => by simp [allBl] at e
theorem any_bl {K : PySem.W.Frag} {H : Hp} {m : List Addr} : ∀ {xs : List V} {vs : List PV} {b : Bool}, RepL K H m xs vs → anyBl vs = some b → ∃ bs : List Bool, xs = bs.map V.bl ∧ bs.any id = b
  | _, _, b, .nil, e => ⟨[], rfl, by simpa [anyBl] using e⟩
  | _, _, b, .cons (.bl c) t, e => by
    simp only [anyBl, Option.map_eq_some_iff] at e
    obtain ⟨d, q, e⟩ := e
    obtain ⟨bs, e1, e2⟩ := any_bl t q
    exact ⟨c :: bs, by rw [e1]; rfl, by simpa [e2] using e⟩
  | _, _, _, .cons .non _, e => by simp [anyBl] at e
  | _, _, _, .cons (.int _) _, e => by simp [anyBl] at e
  | _, _, _, .cons (.str _) _, e => by simp [anyBl] at e
  | _, _, _, .cons (.tup _ _) _, e => by simp [anyBl] at e
  | _, _, _, .cons (.ref _) _, e => by simp [anyBl] at e
theorem sum_int {K : PySem.W.Frag} {H : Hp} {m : List Addr} : ∀ {xs : List V} {vs : List PV} {b : Int}, RepL K H m xs vs → sumI vs = some b → ∃ ns : List Int, xs = ns.map V.int ∧ ns.sum = b
  | _, _, b, .nil, e => ⟨[], rfl, by simpa [sumI] using e⟩
  | _, _, b, .cons (.int c) t, e => by
    simp only [sumI, Option.map_eq_some_iff] at e
    obtain ⟨d, q, e⟩ := e
    obtain ⟨bs, e1, e2⟩ := sum_int t q
    exact ⟨c :: bs, by rw [e1]; rfl, by simpa [e2] using e⟩
  | _, _, _, .cons .non _, e => by simp [sumI] at e
  | _, _, _, .cons (.bl _) _, e => by simp [sumI] at e
  | _, _, _, .cons (.str _) _, e => by simp [sumI] at e
  | _, _, _, .cons (.tup _ _) _, e => by simp [sumI] at e
  | _, _, _, .cons (.ref _) _, e => by simp [sumI] at e
theorem callF_len : CallF X (.builtin "len") (biQ .len) := by
  refine ⟨_, call_len.or call_lenD, fun m H S xs vs Q Kv r h q k => ?_⟩
  match vs, h, q with
  | [.str x], h, q =>
    obtain ⟨x, rfl, hx⟩ := rep1 h
    cases hx
    exact .inl ⟨_, _, rfl, ⟨q.1, rfl⟩, k.here r (.int _) q.2⟩
  | [.tup ws], h, q =>
    obtain ⟨x, rfl, hx⟩ := rep1 h
    cases hx with
    | tup h1 h2 => exact .inl ⟨_, _, rfl, .inr ⟨_, h1, rfl⟩, by rw [h2.len]; exact k.here r (.int _) q⟩
  | [.ref i], h, q =>
    obtain ⟨x, rfl, hx⟩ := rep1 h
    cases hx with
    | ref h1 =>
      obtain ⟨o, e, q⟩ := q
      cases o with
      | lst vs =>
        obtain ⟨xs, g1, g2⟩ := r.sql e rfl h1
        exact .inl ⟨_, _, rfl, .inl ⟨_, g1, rfl⟩, by rw [g2.len]; exact k.here r (.int _) q⟩
      | frz vs =>
        obtain ⟨xs, g1, g2⟩ := r.sql e rfl h1
        exact .inl ⟨_, _, rfl, .inl ⟨_, g1, rfl⟩, by rw [g2.len]; exact k.here r (.int _) q⟩
      | dct vs =>
        obtain ⟨b, xs, g1, g2, g3⟩ := r.dct e
        rw [h1] at g1
        cases g1
        refine .inr ⟨_, xs, rfl, g2, ?_⟩
        rw [g3.len]
        have q' : Q (.int ((keysP vs).length : Nat)) S := q
        rw [keysP, List.length_map] at q'
        exact k.here r (.int _) q'
  | [.non], h, q => exact q.elim
  | [.bl _], h, q => exact q.elim
  | [.int _], h, q => exact q.elim
  | [], h, q => exact q.elim
  | _ :: _ :: _, h, q => exact False.elim (by simpa [biQ] using q)
theorem callF_int2 {f : Value} {b : Bi} {g : Int → Int → Int} (h : CallR X f (fun xs H Q => ∃ i j, xs = [.int i, .int j] ∧ Q (.int (g i j)) H))
    (hq : ∀ vs S Q, biQ b vs S Q → ∃ i j, vs = [.int i, .int j] ∧ Q (.int (g i j)) S) : CallF X f (biQ b) := by
  refine ⟨_, h, fun m H S xs vs Q Kv r h q k => ?_⟩
  obtain ⟨i, j, e, q2⟩ := hq _ _ _ q
  subst e
  obtain ⟨x, y, rfl, hx, hy⟩ := rep2 h
  cases hx
  cases hy
  exact ⟨_, _, rfl, k.here r (.int _) q2⟩
theorem callF_int1 : CallF X (.type "int") (biQ .int1) := by
  refine ⟨_, call_int1, fun m H S xs vs Q Kv r h q k => ?_⟩
  match vs, h, q with
  | [.int i], h, q => obtain ⟨x, rfl, hx⟩ := rep1 h; cases hx; exact .inl ⟨_, rfl, k.here r (.int _) q⟩
  | [.bl i], h, q => obtain ⟨x, rfl, hx⟩ := rep1 h; cases hx; exact .inr ⟨_, rfl, k.here r (.int _) q⟩
  | [.non], h, q => exact q.elim
  | [.str _], h, q => exact q.elim
  | [.tup _], h, q => exact q.elim
  | [.ref _], h, q => exact q.elim
  | [], h, q => exact q.elim
  | _ :: _ :: _, h, q => exact False.elim (by simpa [biQ] using q)
theorem callF_list1 (hc : X.calm = true) : CallF X (.type "list") (biQ .list1) := by
  refine ⟨_, call_list_of.or (call_listD hc), fun m H S xs vs Q Kv r h q k => ?_⟩
  match vs, h, q with
  | [.tup ws], h, q =>
    obtain ⟨x, rfl, hx⟩ := rep1 h
    cases hx with
    | tup h1 h2 => exact .inl ⟨_, _, rfl, .inr h1, fun l n => k.newL r h2 q n⟩
  | [.ref i], h, q =>
    obtain ⟨x, rfl, hx⟩ := rep1 h
    cases hx with
    | ref h1 =>
      obtain ⟨o, e, q⟩ := q
      cases o with
      | lst vs =>
        obtain ⟨xs, g1, g2⟩ := r.sql e rfl h1
        exact .inl ⟨_, _, rfl, .inl g1, fun l n => k.newL r g2 q n⟩
      | frz vs =>
        obtain ⟨xs, g1, g2⟩ := r.sql e rfl h1
        exact .inl ⟨_, _, rfl, .inl g1, fun l n => k.newL r g2 q n⟩
      | dct vs =>
        obtain ⟨b, xs, g1, g2, g3⟩ := r.dct e
        rw [h1] at g1
        cases g1
        exact .inr ⟨_, xs, rfl, .inl g2, fun l n => k.newL r g3.keysL q n⟩
  | [.non], h, q => exact q.elim
  | [.bl _], h, q => exact q.elim
  | [.int _], h, q => exact q.elim
  | [.str _], h, q => exact q.elim
  | [], h, q => exact q.elim
  | _ :: _ :: _, h, q => exact False.elim (by simpa [biQ] using q)
theorem ints_rep {K : PySem.W.Frag} {H : Hp} {m : List Addr} : ∀ {xs : List V} {vs : List PV} {ns : List Int}, RepL K H m xs vs → intsP vs = some ns → xs = ns.map V.int
  | _, _, ns, .nil, e => by simp [intsP] at e; subst e; rfl
  | _, _, ns, .cons (.int c) t, e => by
    simp only [intsP, Option.map_eq_some_iff] at e
    obtain ⟨d, q, rfl⟩ := e
    rw [ints_rep t q]
    rfl
  | _, _, _, .cons .non _, e => by simp [intsP] at e
  | _, _, _, .cons (.bl _) _, e => by simp [intsP] at e
  | _, _, _, .cons (.str _) _, e => by simp [intsP] at e
  | _, _, _, .cons (.tup _ _) _, e => by simp [intsP] at e
  | _, _, _, .cons (.ref _) _, e => by simp [intsP] at e
theorem rep_ints {K : PySem.W.Frag} {H : Hp} {m : List Addr} : ∀ ns : List Int, RepL K H m (ns.map V.int) (ns.map PV.int)
  | [] => .nil
  | n :: ns => .cons (.int n) (rep_ints ns)
theorem insI_perm (i : Int) : ∀ l : List Int, (insI i l).Perm (i :: l)
  | [] => .refl _
  | j :: r => by
    unfold insI
    split
    · exact .refl _
    · exact ((insI_perm i r).cons j).trans (.swap i j r)
theorem sortI_perm : ∀ l : List Int, (sortI l).Perm l
  | [] => .refl _
  | i :: r => (insI_perm i _).trans ((sortI_perm r).cons i)
theorem insI_sorted (i : Int) : ∀ l : List Int, l.Pairwise (· ≤ ·) → (insI i l).Pairwise (· ≤ ·)
  | [], _ => by simp [insI]
  | j :: r, h => by
    rw [List.pairwise_cons] at h
    unfold insI
    split
    · rename_i hij
      refine List.pairwise_cons.2 ⟨fun y hy => ?_, List.pairwise_cons.2 h⟩
      rcases List.mem_cons.1 hy with rfl | hy
      · exact hij
      · exact Int.le_trans hij (h.1 y hy)
    · rename_i hij
      refine List.pairwise_cons.2 ⟨fun y hy => ?_, insI_sorted i r h.2⟩
      rcases List.mem_cons.1 ((insI_perm i r).mem_iff.1 hy) with rfl | hy
      · omega
      · exact h.1 y hy
theorem sortI_sorted : ∀ l : List Int, (sortI l).Pairwise (· ≤ ·)
  | [] => by simp [sortI]
  | i :: r => insI_sorted i _ (sortI_sorted r)
theorem sortI_uniq {l r : List Int} (h : l.Perm r) (hs : l.Pairwise (· ≤ ·)) : l = sortI r :=
  List.Perm.eq_of_pairwise (le := fun a b => a ≤ b) (fun _ _ _ _ a b => Int.le_antisymm a b) hs (sortI_sorted r) (h.trans (sortI_perm r).symm)
theorem keys_inl : ∀ {vs : List (Key × PV)} {ns : List Int}, intsP (keysP vs) = some ns → vs.map (·.1) = ns.map Sum.inl
  | [], ns, e => by simp [keysP, intsP] at e; subst e; rfl
  | (.inl i, v) :: vs, ns, e => by
    simp only [keysP, List.map_cons, keyPV, intsP, Option.map_eq_some_iff] at e
    obtain ⟨d, q, rfl⟩ := e
    rw [List.map_cons, keys_inl (vs := vs) q]
    rfl
  | (.inr i, v) :: vs, ns, e => by simp [keysP, keyPV, intsP] at e
theorem callF_sorted1 (hc : X.calm = true) : CallF X (.builtin "sorted") (biQ .sorted1) := by
  refine ⟨_, cr_sortedI.or (call_sortedDI hc), fun m H S xs vs Q Kv r h q k => ?_⟩
  match vs, h, q with
  | [.ref i], h, q =>
    obtain ⟨x, rfl, hx⟩ := rep1 h
    cases hx with
    | ref h1 =>
      obtain ⟨o, e, ns, en, hn, q⟩ := q
      have fin : ∀ (ys : List Int) (p : Addr), ys.Perm ns → ys.Pairwise (· ≤ ·) → H p = none → Kv (.ref p) (upd H p (.lst (ys.map V.int))) := fun ys p h1 h2 h3 => by
        rw [sortI_uniq h1 h2]
        exact k.newL r (rep_ints _) q h3
      cases o with
      | lst vs =>
        obtain ⟨xs, g1, g2⟩ := r.sql e rfl h1
        exact .inl ⟨_, ns, rfl, by rw [← ints_rep g2 en]; exact g1, fin⟩
      | frz vs =>
        obtain ⟨xs, g1, g2⟩ := r.sql e rfl h1
        exact .inl ⟨_, ns, rfl, by rw [← ints_rep g2 en]; exact g1, fin⟩
      | dct vs =>
        obtain ⟨b, xs, g1, g2, g3⟩ := r.dct e
        rw [h1] at g1
        cases g1
        exact .inr ⟨_, xs, ns, rfl, .inl g2, by rw [g3.keys]; exact keys_inl en, hn.elim (fun h => by cases h) id, fin⟩
  | [.non], h, q => exact q.elim
  | [.bl _], h, q => exact q.elim
  | [.int _], h, q => exact q.elim
  | [.str _], h, q => exact q.elim
  | [.tup _], h, q => exact q.elim
  | [], h, q => exact q.elim
  | _ :: _ :: _, h, q => exact False.elim (by simpa [biQ] using q)
theorem maxL_spec : ∀ {ns : List Int} {m : Int}, maxL ns = some m → m ∈ ns ∧ ∀ y, y ∈ ns → y ≤ m
  | [], _, e => by simp [maxL] at e
  | [i], m, e => by simp [maxL] at e; subst e; simp
  | i :: j :: r, m, e => by
    simp only [maxL, Option.map_eq_some_iff] at e
    obtain ⟨m', e', rfl⟩ := e
    obtain ⟨h1, h2⟩ := maxL_spec e'
    split
    · exact ⟨.tail _ h1, fun y hy => by rcases List.mem_cons.1 hy with rfl | hy; omega; exact h2 y hy⟩
    · exact ⟨.head _, fun y hy => by rcases List.mem_cons.1 hy with rfl | hy; omega; have := h2 y hy; omega⟩
theorem minL_spec : ∀ {ns : List Int} {m : Int}, minL ns = some m → m ∈ ns ∧ ∀ y, y ∈ ns → m ≤ y
  | [], _, e => by simp [minL] at e
  | [i], m, e => by simp [minL] at e; subst e; simp
  | i :: j :: r, m, e => by
    simp only [minL, Option.map_eq_some_iff] at e
    obtain ⟨m', e', rfl⟩ := e
    obtain ⟨h1, h2⟩ := minL_spec e'
    split
    · exact ⟨.tail _ h1, fun y hy => by rcases List.mem_cons.1 hy with rfl | hy; omega; exact h2 y hy⟩
    · exact ⟨.head _, fun y hy => by rcases List.mem_cons.1 hy with rfl | hy; omega; have := h2 y hy; omega⟩
theorem callF_max1 (hc : X.calm = true) : CallF X (.builtin "max") (biQ .max1) := by
  refine ⟨_, cr_max hc, fun m H S xs vs Q Kv r h q k => ?_⟩
  match vs, h, q with
  | [.ref i], h, q =>
    obtain ⟨x, rfl, hx⟩ := rep1 h
    cases hx with
    | ref h1 =>
      obtain ⟨o, e, sq, ns, mm, en, em, q⟩ := q
      obtain ⟨xs, g1, g2⟩ := r.sql e sq h1
      obtain ⟨s1, s2⟩ := maxL_spec em
      refine ⟨_, ns, rfl, by rw [← ints_rep g2 en]; exact g1, List.length_pos_of_mem s1, fun z hz hy => ?_⟩
      rw [Int.le_antisymm (s2 z hz) (hy mm s1)]
      exact k.here r (.int _) q
  | [.non], h, q => exact q.elim
  | [.bl _], h, q => exact q.elim
  | [.int _], h, q => exact q.elim
  | [.str _], h, q => exact q.elim
  | [.tup _], h, q => exact q.elim
  | [], h, q => exact q.elim
  | _ :: _ :: _, h, q => exact False.elim (by simpa [biQ] using q)
theorem callF_min1 (hc : X.calm = true) : CallF X (.builtin "min") (biQ .min1) := by
  refine ⟨_, cr_min hc, fun m H S xs vs Q Kv r h q k => ?_⟩
  match vs, h, q with
  | [.ref i], h, q =>
    obtain ⟨x, rfl, hx⟩ := rep1 h
    cases hx with
    | ref h1 =>
      obtain ⟨o, e, sq, ns, mm, en, em, q⟩ := q
      obtain ⟨xs, g1, g2⟩ := r.sql e sq h1
      obtain ⟨s1, s2⟩ := minL_spec em
      refine ⟨_, ns, rfl, by rw [← ints_rep g2 en]; exact g1, List.length_pos_of_mem s1, fun z hz hy => ?_⟩
      rw [Int.le_antisymm (hy mm s1) (s2 z hz)]
      exact k.here r (.int _) q
  | [.non], h, q => exact q.elim
  | [.bl _], h, q => exact q.elim
  | [.int _], h, q => exact q.elim
  | [.str _], h, q => exact q.elim
  | [.tup _], h, q => exact q.elim
  | [], h, q => exact q.elim
  | _ :: _ :: _, h, q => exact False.elim (by simpa [biQ] using q)
theorem callF_tuple1 : CallF X (.type "tuple") (biQ .tuple1) := by
  refine ⟨_, call_tuple_of, fun m H S xs vs Q Kv r h q k => ?_⟩
  have q' : ∃ v, vs = [v] ∧ seqQ v S fun ws => Q (.tup ws) S := by
    match vs, q with
    | [v], q => exact ⟨v, rfl, q⟩
    | [], q => exact q.elim
    | _ :: _ :: _, q => exact False.elim (by simpa [biQ] using q)
  obtain ⟨v, rfl, q⟩ := q'
  obtain ⟨x, rfl, hx⟩ := rep1 h
  obtain ⟨a, ys, ws, rfl, hl, q, hc⟩ := seq_of r hx q
  refine ⟨a, ys, rfl, ?_⟩
  rcases hc with ⟨h1, _⟩ | ⟨h1, _⟩
  · exact .inr ⟨h1, k.here r (.tup h1 hl) q⟩
  · exact .inl ⟨h1, fun l n => k.newT r hl q n⟩
theorem ref1 {b : Bi} {vs : List PV} {S : Store} {Q : PQ} {P : List PV → Prop} (h : biQ b vs S Q) (hb : ∀ vs, biQ b vs S Q → ∃ i, vs = [.ref i] ∧ ∃ o, S[i]? = some o ∧ P o.items) : ∃ i, vs = [.ref i] ∧ ∃ o, S[i]? = some o ∧ P o.items := hb vs h
theorem callF_all (hc : X.calm = true) : CallF X (.builtin "all") (biQ .all1) := by
  refine ⟨_, cr_all hc, fun m H S xs vs Q Kv r h q k => ?_⟩
  match vs, h, q with
  | [.ref i], h, ⟨o, e, sq, b, eb, q⟩ =>
    obtain ⟨x, rfl, hx⟩ := rep1 h
    cases hx with
    | ref h1 =>
      obtain ⟨ys, g1, g2⟩ := r.sql e sq h1
      obtain ⟨bs, e1, e2⟩ := all_bl g2 eb
      subst e1
      exact ⟨_, bs, rfl, g1, by rw [e2]; exact k.here r (.bl _) q⟩
  | [.int _], h, q => exact q.elim
  | [.bl _], h, q => exact q.elim
  | [.non], h, q => exact q.elim
  | [.str _], h, q => exact q.elim
  | [.tup _], h, q => exact q.elim
  | [], h, q => exact q.elim
  | _ :: _ :: _, h, q => exact False.elim (by simpa [biQ] using q)
theorem callF_any (hc : X.calm = true) : CallF X (.builtin "any") (biQ .any1) := by
  refine ⟨_, cr_any hc, fun m H S xs vs Q Kv r h q k => ?_⟩
  match vs, h, q with
  | [.ref i], h, ⟨o, e, sq, b, eb, q⟩ =>
    obtain ⟨x, rfl, hx⟩ := rep1 h
    cases hx with
    | ref h1 =>
      obtain ⟨ys, g1, g2⟩ := r.sql e sq h1
      obtain ⟨bs, e1, e2⟩ := any_bl g2 eb
      subst e1
      exact ⟨_, bs, rfl, g1, by rw [e2]; exact k.here r (.bl _) q⟩
  | [.int _], h, q => exact q.elim
  | [.bl _], h, q => exact q.elim
  | [.non], h, q => exact q.elim
  | [.str _], h, q => exact q.elim
  | [.tup _], h, q => exact q.elim
  | [], h, q => exact q.elim
  | _ :: _ :: _, h, q => exact False.elim (by simpa [biQ] using q)
theorem callF_sum (hc : X.calm = true) : CallF X (.builtin "sum") (biQ .sum1) := by
  refine ⟨_, cr_sum hc, fun m H S xs vs Q Kv r h q k => ?_⟩
  match vs, h, q with
  | [.ref i], h, ⟨o, e, sq, b, eb, q⟩ =>
    obtain ⟨x, rfl, hx⟩ := rep1 h
    cases hx with
    | ref h1 =>
      obtain ⟨ys, g1, g2⟩ := r.sql e sq h1
      obtain ⟨bs, e1, e2⟩ := sum_int g2 eb
      subst e1
      exact ⟨_, bs, rfl, g1, by rw [e2]; exact k.here r (.int _) q⟩
  | [.int _], h, q => exact q.elim
  | [.bl _], h, q => exact q.elim
  | [.non], h, q => exact q.elim
  | [.str _], h, q => exact q.elim
  | [.tup _], h, q => exact q.elim
  | [], h, q => exact q.elim
  | _ :: _ :: _, h, q => exact False.elim (by simpa [biQ] using q)
theorem callF_bi (hc : X.calm = true) : ∀ b : Bi, b ≠ .list0 → b ≠ .tuple0 → CallF X (biV b) (biQ b)
  | .len, _, _ => callF_len
  | .max2, _, _ => callF_int2 (call_max2 hc) fun vs S Q q => by
    match vs, q with
    | [.int i, .int j], q => exact ⟨i, j, rfl, q⟩
  | .min2, _, _ => callF_int2 (call_min2 hc) fun vs S Q q => by
    match vs, q with
    | [.int i, .int j], q => exact ⟨i, j, rfl, q⟩
  | .int1, _, _ => callF_int1
  | .list1, _, _ => callF_list1 hc
  | .sorted1, _, _ => callF_sorted1 hc
  | .max1, _, _ => callF_max1 hc
  | .min1, _, _ => callF_min1 hc
  | .tuple1, _, _ => callF_tuple1
  | .all1, _, _ => callF_all hc
  | .any1, _, _ => callF_any hc
  | .sum1, _, _ => callF_sum hc
  | .list0, h, _ => absurd rfl h
  | .tuple0, _, h => absurd rfl h
end
end Pv
set_option Elab.async false
set_option linter.all false
set_option maxRecDepth 100000
set_option maxHeartbeats 1000000
/-! Pv5: calls, methods, iterators, comprehensions. -/
namespace Pv
open PySem PySem.Spec PyProof.Rows L2

section
variable {X : Cx} {G : GT} {W : WX} {Φ : Call} {C : CC} {e a b c : Expr} {p q r : IE} {pos : Pos} {es rest : List Expr} {ps : IEs}
/-! ### calls -/
theorem star_cons {env : PySem.Env} {es : List Expr} (h : notStar a = true) : starEach (a :: es) env = (false, eval a env) :: starEach es env := by
  cases a <;> first | rfl | cases h
theorem star_plain {env : PySem.Env} {pos : Pos} : ∀ {es : List Expr}, es.all notStar = true → (backTo pos (starEach es env)).any (·.1) = false
  | [], _ => rfl
  | a :: es, h => by
    rw [List.all_cons, Bool.and_eq_true] at h
    rw [star_cons h.1]
    have q := star_plain (env := env) (pos := pos) h.2
    unfold backTo at q ⊢
    rw [List.map_cons, List.any_cons, q]
    rfl
theorem ex_bi {b : Bi} {x : Str} {p0 : Pos} (hc : X.calm = true) (h1 : b ≠ .list0) (h2 : b ≠ .tuple0) (hx : x = biN b) (hg : Gl X x) (hm : X.mg x = none) (ha : AX X G W Φ (e :: es) ps) (hs : (e :: es).all notStar = true) :
    EX X G W Φ (.Call (.Name x p0) (e :: es) [] pos) (.bi b ps) := by
  obtain ⟨t, P, R⟩ := ha
  obtain ⟨r, hr, hk⟩ := callF_bi hc b h1 h2
  rw [List.all_cons, Bool.and_eq_true] at hs
  have hn : x ≠ "__name__" ∧ (x == ("__debug__" : Str)) = false ∧ bootBuiltins x = some (biV b) := by
    subst hx
    cases b <;> first | exact absurd rfl h1 | exact absurd rfl h2 | exact ⟨by decide +kernel, by decide +kernel, by decide +kernel⟩
  have pe : PE X (.Call (.Name x p0) (e :: es) [] pos) (tCB r t) := by
    cases b <;> first
      | exact absurd rfl h1
      | exact absurd rfl h2
      | exact pe_callB hr hg hm hn.2.2 P hn.1 hn.2.1 (star_cons hs.1) (star_plain hs.2)
      | exact pe_callTy hr hg hm hn.2.2 P hn.1 hn.2.1 (star_cons hs.1) (star_plain hs.2)
  refine ⟨_, pe, fun m σ H ρ S Q E Kv r0 re w k kx => ?_⟩
  simp only [wpE] at w
  refine R m σ H ρ S _ E _ r0 re w (fun m1 H1 xs vs S1 e1 r1 hx w1 => ?_) kx
  exact hk m1 H1 S1 xs vs Q Kv r1 hx w1 (k.ext e1)
/-- a def of the program is called -/
theorem ex_call {x : Str} {i n : Nat} {dfl : List PV} {p0 : Pos} (ok : CallOk X G Φ) (tk : Takes X W) (hG : G.fns[i]? = some (x, n, dfl)) (hg : Gl X x) (hdb : (x == ("__debug__" : Str)) = false) (ha : AX X G W Φ (e :: es) ps) (hs : (e :: es).all notStar = true) (hl : (e :: es).length ≤ n) (hl2 : n - (e :: es).length ≤ dfl.length) :
    EX X G W Φ (.Call (.Name x p0) (e :: es) [] pos) (.call i ps (dfl.drop (dfl.length - (n - (e :: es).length)))) := by
  obtain ⟨t, P, R⟩ := ha
  obtain ⟨f, fd, pars, k, hm, hkp, hpl, F, hr, hd⟩ := ok.ok i x n dfl hG
  obtain ⟨ds, dvs, hv, hrep, hb⟩ := hd _ hl2
  rw [List.all_cons, Bool.and_eq_true] at hs
  refine ⟨fun σ H Q => t σ H fun vs H1 => spF X.K X.mg G (Φ i) (vs ++ dvs) H1 Q (fun c d H' => W c d σ H'), ?_, fun m σ H ρ S Q E Kv r0 re w k kx => ?_⟩
  · refine ⟨fun pins s σ H Q I h => ?_⟩
    refine wpAny_Call_Name_kw (ld_glob I hg hm ?_ hdb)
    refine PySem.W.callWith_K (h₀ := X.base) I.ok.mod.kin hkp (thn (P.run pos pins s σ H _ I h) fun us s1 ⟨vs, H1, I1, r, q⟩ => ⟨I1.kIn, ?_⟩) (star_cons hs.1) (star_plain hs.2)
    have hl : (us ++ ds).length = pars.length := by rw [List.length_append, ← r.length, ← hv.length, ← List.length_append]; exact F.len _ _ _ _ q
    refine wpAny_call (codeAny_mono (F.run X.A X.stack s1 H1 ⟨us, []⟩ (us ++ ds) (vs ++ dvs) Q _ hr I1.env0 (hb s1 us I1.kIn hl) (r.append hv) q) fun r s' hq => ?_)
    cases r with
    | error e => exact passAt tk σ pins H1 s1 e s' I1 hq
    | ok fl =>
      cases fl with
      | ret u => exact I1.after hq
      | next => exact False.elim hq
      | brk => exact False.elim hq
      | cont => exact False.elim hq
  · simp only [wpE] at w
    refine R m σ H ρ S _ E _ r0 re w (fun m1 H1 xs vs S1 e1 r1 hx w1 => ?_) kx
    have hrep1 : RepL X.K H1 m1 (xs ++ dvs) (vs ++ dfl.drop (dfl.length - (n - (e :: es).length))) := hx.append (hrep H1 m1)
    exact ⟨m1, _, S1, Q, E, r1, hrep1, w1, k.ext e1, kx.ext e1⟩
/-! ### methods of lists -/
def mtN : Mt → Str
  | .append => "append" | .index => "index" | .count => "count" | .pop => "pop" | .extend => "extend"
def mtI : Mt → String
  | .append => "list.append" | .index => "list.index" | .count => "list.count" | .pop => "list.pop" | .extend => "list.extend"
def MethF (X : Cx) (id : String) (q : Nat → List PV → Store → PQ → Prop) : Prop :=
  ∃ r, MtR X id r ∧ ∀ m H S (a : Addr) xs i vs Q Kv, RlS X.K m H S → m[i]? = some a → RepL X.K H m xs vs → q i vs S Q → KE X.K m H Q Kv → r (.ref a) xs H Kv
theorem methF_append : MethF X "list.append" (mtQ .append) := by
  refine ⟨_, mt_append, fun m H S a xs i vs Q Kv r ha h q k => ?_⟩
  match vs, h, q with
  | [v], h, q =>
    obtain ⟨x, rfl, hx⟩ := rep1 h
    obtain ⟨ws, e, hz, q⟩ := q
    obtain ⟨b, ys, h1, h2, h3⟩ := r.at e
    rw [ha] at h1
    cases h1
    have e2 : Ext X.K m H m (upd H a (.lst (ys ++ [x]))) := Ext.put h2
    refine ⟨a, ys, x, rfl, rfl, h2, by rw [h3.len]; exact hz, ?_⟩
    exact k m _ _ _ _ e2 (r.put e ha h2 (h3.append (.cons hx .nil))) .non q
  | [], h, q => exact q.elim
  | _ :: _ :: _, h, q => exact False.elim (by simpa [mtQ] using q)
def rCnt (K : PySem.W.Frag) : V → List V → Hp → VK → Prop := fun x xs H Q => ∃ (a : Addr) (ys : List V) (y : V), x = V.ref a ∧ xs = [y] ∧ SqL K H a ys ∧ flatV y = true ∧ ys.all flatV = true ∧ Q (.int (ys.countP (fun z => L2.eqV z y) : Nat)) H
theorem cnt_eqU {x : V} : ∀ {xs : List V} {us : List Value}, Vals xs us → xs.all flatV = true → us.countP (eqU x) = xs.countP fun y => L2.eqV y x
  | _, _, .nil, _ => rfl
  | y :: xs, u :: us, .cons r t, f => by
    rw [List.all_cons, Bool.and_eq_true] at f
    rw [List.countP_cons, List.countP_cons, eqU_of r f.1, cnt_eqU t f.2]
theorem mt_cnt : MtR X "list.count" (rCnt X.K) := by
  intro pins s σ H x xs v us Q I rx rxs h
  obtain ⟨p, ys, y, rfl, rfl, hs, fy, fys, q⟩ := h
  cases rx
  obtain ⟨u, rfl, ru⟩ := rxs.one
  obtain ⟨its, rv, ⟨⟨cls, dd, data, sl⟩, n, ho, hc, hdn, hd⟩, hlen⟩ := I.list hs
  simp only at hc hd
  subst hc hd
  refine call_meets PySem.F.slot_list_count ⟨_, ho, rfl⟩ PySem.F.entry_list_count (PySem.F.args_list_count_2 _ _)
    (SeqAt.list_countAt p its.toArray n dd sl u (eqU y)) ⟨ho, fun z hz => mem_eqAt ru fy rv fys z (by simpa using hz), ?_⟩
  have ec : its.toArray.toList.countP (eqU y) = ys.countP fun z => L2.eqV z y := by simpa using cnt_eqU rv fys
  refine ⟨.int (ys.countP (fun z => L2.eqV z y) : Nat), H, I.tok _, ⟨s.toks, ?_⟩, q⟩
  show Value.int ((its.toArray.toList.countP (eqU y) : Nat) : Int) s.toks = Value.int ((ys.countP (fun z => L2.eqV z y) : Nat) : Int) s.toks
  rw [ec]
theorem repL_cnt {K : PySem.W.Frag} {H : Hp} {m : List Addr} {x : V} {v : PV} (h : RepV K H m x v) (f1 : flatP v = true) : ∀ {xs : List V} {vs : List PV}, RepL K H m xs vs → vs.all flatP = true → xs.countP (fun z => L2.eqV z x) = vs.countP fun z => eqF z v
  | _, _, .nil, _ => rfl
  | _, _, .cons a t, f2 => by
    rw [List.all_cons, Bool.and_eq_true] at f2
    rw [List.countP_cons, List.countP_cons, repL_cnt h f1 t f2.2, rep_eq a h f2.1 f1]
theorem methF_count : MethF X "list.count" (mtQ .count) := by
  refine ⟨_, mt_cnt, fun m H S a xs i vs Q Kv r ha h q k => ?_⟩
  match vs, h, q with
  | [v], h, q =>
    obtain ⟨x, rfl, hx⟩ := rep1 h
    obtain ⟨o, e, sq, ⟨f1, f2⟩, q⟩ := q
    obtain ⟨ys, g1, g2⟩ := r.sql e sq ha
    refine ⟨a, ys, x, rfl, rfl, g1, (rep_flat hx).trans f1, (repL_flat g2).trans f2, ?_⟩
    rw [repL_cnt hx f1 g2 f2]
    exact k.here r (.int _) q
  | [], h, q => exact q.elim
  | _ :: _ :: _, h, q => exact False.elim (by simpa [mtQ] using q)
theorem methF_index : MethF X "list.index" (mtQ .index) := by
  refine ⟨_, mt_index, fun m H S a xs i vs Q Kv r ha h q k => ?_⟩
  match vs, h, q with
  | [v], h, q =>
    obtain ⟨x, rfl, hx⟩ := rep1 h
    obtain ⟨o, e, sq, ⟨f1, f2⟩, j, hj, q⟩ := q
    obtain ⟨ys, g1, g2⟩ := r.sql e sq ha
    obtain ⟨hjl, hje, hjn⟩ := List.findIdx?_eq_some_iff_getElem.mp hj
    obtain ⟨z, hz, rz⟩ := g2.get (List.getElem?_eq_getElem hjl)
    have fl : ∀ (n : Nat) (w : PV), o.items[n]? = some w → flatP w = true := fun n w hw => List.all_eq_true.mp f2 w (List.mem_of_getElem? hw)
    refine ⟨a, ys, x, j, z, rfl, rfl, g1, (rep_flat hx).trans f1, (repL_flat g2).trans f2, hz, ?_, fun n z' hn hz' => ?_, k.here r (.int _) q⟩
    · rw [rep_eq rz hx (fl j _ (List.getElem?_eq_getElem hjl)) f1]; exact hje
    · obtain ⟨w, hw, rw'⟩ := g2.get' hz'
      have hnl : n < o.items.length := (List.getElem?_eq_some_iff.mp hw).1
      have e1 : o.items[n] = w := (List.getElem?_eq_some_iff.mp hw).2
      rw [rep_eq rw' hx (fl n w hw) f1, ← e1]
      simpa using hjn n hn
  | [], h, q => exact q.elim
  | _ :: _ :: _, h, q => exact False.elim (by simpa [mtQ] using q)
theorem mtM_R {id : String} {r : V → List V → Hp → VK → Prop} (h : MtM X id r) : MtM X id r := h
theorem methF_extend : MethF X "list.extend" (mtQ .extend) := by
  refine ⟨_, mt_extend, fun m H S a xs i vs Q Kv r ha h q k => ?_⟩
  match vs, h, q with
  | [.ref j], h, q =>
    obtain ⟨x, rfl, hx⟩ := rep1 h
    cases hx with
    | @ref b _ hb =>
      obtain ⟨us, ws, e1, e2, hz, q⟩ := q
      obtain ⟨a', ys, g1, g2, g3⟩ := r.at e1
      obtain ⟨b', zs, k1, k2, k3⟩ := r.at e2
      rw [ha] at g1; cases g1
      rw [hb] at k1; cases k1
      exact ⟨a, b, ys, zs, rfl, rfl, g2, k2, by rw [g3.len, k3.len]; exact hz, k m _ _ _ _ (Ext.put g2) (r.put e1 ha g2 (g3.append k3)) .non q⟩
  | [.non], h, q => exact q.elim
  | [.bl _], h, q => exact q.elim
  | [.int _], h, q => exact q.elim
  | [.str _], h, q => exact q.elim
  | [.tup _], h, q => exact q.elim
  | [], h, q => exact q.elim
  | _ :: _ :: _, h, q => exact False.elim (by simpa [mtQ] using q)
theorem methF_pop : MethF X "list.pop" (mtQ .pop) := by
  refine ⟨_, mt_pop, fun m H S a xs i vs Q Kv r ha h q k => ?_⟩
  match vs, h, q with
  | [], h, q =>
    cases h
    obtain ⟨us, y, e1, e2, q⟩ := q
    obtain ⟨a', ys, g1, g2, g3⟩ := r.at e1
    rw [ha] at g1; cases g1
    obtain ⟨z, hz, rz⟩ := g3.get e2
    have ep : Ext X.K m H m (upd H a (.lst ys.dropLast)) := Ext.put g2
    refine ⟨a, ys, z, rfl, rfl, g2, by rw [g3.len]; exact hz, k m _ _ _ _ ep (r.put e1 ha g2 ?_) (RepV.ext ep _ _ rz) q⟩
    rw [List.dropLast_eq_take, List.dropLast_eq_take, g3.len]
    exact g3.take _
  | _ :: _, h, q => exact False.elim (by simpa [mtQ] using q)
theorem methF_all : ∀ mt : Mt, MethF X (mtI mt) (mtQ mt)
  | .append => methF_append
  | .index => methF_index
  | .count => methF_count
  | .pop => methF_pop
  | .extend => methF_extend
theorem meth_fin {mt : Mt} {po : IE} {e : Expr} {t : TA} {to : TE} {r : V → List V → Hp → VK → Prop} (Ro : RfE X G W to (wpE Φ po)) (R : RfA X G W t (wpEs Φ ps))
    (hr : ∀ m H S (a : Addr) xs i vs Q Kv, RlS X.K m H S → m[i]? = some a → RepL X.K H m xs vs → mtQ mt i vs S Q → KE X.K m H Q Kv → r (.ref a) xs H Kv)
    (pe : PE X e (tBM X.K "list" r to t)) : EX X G W Φ e (.meth mt po ps) := by
  refine ⟨_, pe, fun m σ H ρ S Q E Kv r0 re w k kx => ?_⟩
  simp only [wpE] at w
  refine Ro m σ H ρ S _ E _ r0 re w (fun m1 H1 x v S1 e1 r1 hx w1 => ?_) kx
  obtain ⟨i, o', ev, eo, so, w1⟩ := w1
  subst ev
  cases hx with
  | @ref a _ ha =>
    refine ⟨.inl ⟨rfl, ?_⟩, ?_⟩
    · obtain ⟨xs, g, _⟩ := r1.sql eo so ha
      exact ⟨xs, g⟩
    · refine R m1 σ H1 ρ S1 _ E _ r1 (re.ext e1) w1 (fun m2 H2 xs vs S2 e2 r2 hx2 w2 => ?_) (kx.ext e1)
      exact hr m2 H2 S2 a xs i vs Q Kv r2 (e2.at ha) hx2 w2 (k.ext (e1.trans e2))
theorem ex_meth {mt : Mt} {o : Expr} {name : Str} {po : IE} {apos : Pos} (hmt : mt ≠ .pop) (hn : name = mtN mt) (ho : EX X G W Φ o po) (ha : AX X G W Φ [e] ps) (hs : notStar e = true) (hbase : attributeBase o name X.env (eval o X.env) = eval o X.env) (hline : (apos.endLine == pos.line) = true) :
    EX X G W Φ (.Call (.Attribute o name apos) [e] [] pos) (.meth mt po ps) := by
  obtain ⟨to, Po, Ro⟩ := ho
  obtain ⟨t, P, R⟩ := ha
  have hst : starEach [e] X.env = [(false, eval e X.env)] := star_cons hs
  have few : ((backTo pos (starEach [e] X.env)).all (fun x => !x.1) && (backToKw pos (keywordEach [] X.env)).all (fun x => x.1.isSome)
      && decide ([e].length + ([] : List Keyword).length + (if ([] : List Keyword).isEmpty then 0 else 1) < 30)) = true := by rw [hst]; rfl
  obtain ⟨r, h1, h2⟩ := methF_all (X := X) mt
  subst hn
  cases mt with
  | append => exact meth_fin Ro R h2 (pe_bm PySem.F.plainAttrs_list PySem.F.slot_list_append PySem.F.type_list_append h1 Po P hbase few hline hst rfl)
  | index => exact meth_fin Ro R h2 (pe_bm PySem.F.plainAttrs_list PySem.F.slot_list_index PySem.F.type_list_index h1 Po P hbase few hline hst rfl)
  | count => exact meth_fin Ro R h2 (pe_bm PySem.F.plainAttrs_list PySem.F.slot_list_count PySem.F.type_list_count h1 Po P hbase few hline hst rfl)
  | extend => exact meth_fin Ro R h2 (pe_bm PySem.F.plainAttrs_list PySem.F.slot_list_extend PySem.F.type_list_extend h1 Po P hbase few hline hst rfl)
  | pop => exact absurd rfl hmt
theorem ex_pop {o : Expr} {po : IE} {apos : Pos} (ho : EX X G W Φ o po) (hbase : attributeBase o "pop" X.env (eval o X.env) = eval o X.env) (hline : (apos.endLine == pos.line) = true) :
    EX X G W Φ (.Call (.Attribute o "pop" apos) [] [] pos) (.meth .pop po .nil) := by
  obtain ⟨to, Po, Ro⟩ := ho
  obtain ⟨r, h1, hr⟩ := methF_all (X := X) .pop
  refine ⟨_, pe_bm0 PySem.F.plainAttrs_list PySem.F.slot_list_pop PySem.F.type_list_pop h1 Po hbase hline, fun m σ H ρ S Q E Kv r0 re w k kx => ?_⟩
  simp only [wpE, wpEs] at w
  refine Ro m σ H ρ S _ E _ r0 re w (fun m1 H1 x v S1 e1 r1 hx w1 => ?_) kx
  obtain ⟨i, o', ev, eo, so, w1⟩ := w1
  subst ev
  cases hx with
  | @ref a _ ha =>
    refine ⟨.inl ⟨rfl, ?_⟩, hr m1 H1 S1 a [] i [] Q Kv r1 ha .nil w1 (k.ext e1)⟩
    obtain ⟨xs, g, _⟩ := r1.sql eo so ha
    exact ⟨xs, g⟩
/-! ### isinstance -/
def tyN : Ty → String
  | .tInt => "int" | .tStr => "str" | .tBool => "bool" | .tTuple => "tuple" | .tList => "list"
def tyS : Ty → Str
  | .tInt => "int" | .tStr => "str" | .tBool => "bool" | .tTuple => "tuple" | .tList => "list"
def pvT : PV → String
  | .non => "NoneType" | .bl _ => "bool" | .int _ => "int" | .str _ => "str" | .tup _ => "tuple" | .ref _ => "list"
def kitT (a : String) (t : Ty) : Bool := (kitB a (tyN t)).getD false
theorem rep_ty {m : List Addr} {H : Hp} {S : Store} {x : V} {v : PV} (r : RlS X.K m H S) (h : RepV X.K H m x v) (hsq : ∀ i, v = .ref i → ∃ o, S[i]? = some o ∧ o.sq = true) : TyX X.K H x (.type (pvT v)) := by
  cases h with
  | non => exact .base .non
  | bl b => exact .base (.bl b)
  | int i => exact .base (.int i)
  | str x => exact .base (.str x)
  | @tup a xs vs h1 h2 =>
    rcases h1 with (h1 | ⟨o, h1⟩) | ⟨o, its, n, h1, h2, _⟩
    · exact .base (.tup h1)
    · exact .fTuple h1
    · exact .kTuple h1 h2
  | @ref a i h1 =>
    have hl : i < S.length := by rw [← r.len]; exact (List.getElem?_eq_some_iff.mp h1).1
    obtain ⟨a', g1, g2⟩ := r.obj i _ (List.getElem?_eq_getElem hl)
    rw [h1] at g1
    cases g1
    obtain ⟨o', eo, so⟩ := hsq i rfl
    rw [List.getElem?_eq_getElem hl] at eo
    cases eo
    cases q : S[i] with
    | lst vs => rw [q] at g2; obtain ⟨xs, g3, _⟩ := g2; exact .base (.lst g3)
    | frz vs =>
      rw [q] at g2
      obtain ⟨xs, g3, _⟩ := g2
      rcases g3 with ⟨o, g3⟩ | ⟨o, its, n, g3, g4, _⟩
      · exact .base (.frz g3)
      · exact .kList g3 g4
    | dct vs => rw [q] at so; cases so
theorem kit_tab : ∀ (v : PV) (t : Ty), ∃ b, kitB (pvT v) (tyN t) = some b ∧ ∀ S Q, t.b v S Q → Q b := by
  intro v t
  have h : ∀ a, a ∈ ["NoneType", "bool", "int", "str", "tuple", "list"] → ∀ t : Ty, t ∈ [Ty.tInt, .tStr, .tBool, .tTuple, .tList] → kitB a (tyN t) = some (decide ((a, t) ∈ [("int", Ty.tInt), ("bool", Ty.tInt), ("bool", Ty.tBool), ("str", Ty.tStr), ("tuple", Ty.tTuple), ("list", Ty.tList)])) := by decide +kernel
  have ht : t ∈ [Ty.tInt, .tStr, .tBool, .tTuple, .tList] := by cases t <;> simp
  cases v with
  | non => exact ⟨_, h "NoneType" (by simp) t ht, fun S Q q => by cases t <;> exact q⟩
  | bl b => exact ⟨_, h "bool" (by simp) t ht, fun S Q q => by cases t <;> exact q⟩
  | int i => exact ⟨_, h "int" (by simp) t ht, fun S Q q => by cases t <;> exact q⟩
  | str x => exact ⟨_, h "str" (by simp) t ht, fun S Q q => by cases t <;> exact q⟩
  | tup xs => exact ⟨_, h "tuple" (by simp) t ht, fun S Q q => by cases t <;> exact q⟩
  | ref i => exact ⟨_, h "list" (by simp) t ht, fun S Q q => by cases t <;> (obtain ⟨o, _, _, q⟩ := q; exact q)⟩
theorem ex_isin {t : Ty} {x y : Str} {p0 p1 : Pos} (hx : x = "isinstance") (hy : y = tyS t) (hg : Gl X x) (hm : X.mg x = none) (hg2 : Gl X y) (hm2 : X.mg y = none) (ha : EX X G W Φ a p) (hs : notStar a = true) :
    EX X G W Φ (.Call (.Name x p0) [a, .Name y p1] [] pos) (.isin p t) := by
  obtain ⟨ta, Pa, Ra⟩ := ha
  have py : PE X (.Name y p1) (tC (.ty (tyN t))) := by
    subst hy
    cases t <;> exact pe_bltn hg2 hm2 (by decide +kernel) rfl (by decide +kernel) (by decide +kernel)
  subst hx
  refine ⟨_, pe_callB call_isi hg hm (by decide +kernel) (pa_cons Pa (pa_cons py pa_nil (star_cons rfl)) (star_cons hs)) (by decide +kernel) (by decide +kernel) (star_cons hs) (star_plain rfl), fun m σ H ρ S Q E Kv r0 re w k kx => ?_⟩
  simp only [wpE] at w
  refine Ra m σ H ρ S _ E _ r0 re w (fun m1 H1 x v S1 e1 r1 hx w1 => ?_) kx
  obtain ⟨b, hb, q⟩ := kit_tab v t
  exact ⟨x, _, _, _, b, rfl, .ty _, rep_ty r1 hx (fun i e => by subst e; cases t <;> exact let ⟨o, h1, h2, _⟩ := w1; ⟨o, h1, h2⟩), kit_ty hb, k m1 H1 _ _ S1 e1 r1 (.bl b) (q _ _ w1)⟩
end
end Pv
set_option Elab.async false
set_option linter.all false
set_option maxRecDepth 100000
set_option maxHeartbeats 1000000
/-! Pv6: iterators, comprehensions, targets. -/
namespace Pv
open PySem PySem.Spec PyProof.Rows L2

section
variable {X : Cx} {G : GT} {W : WX} {Φ : Call} {C : CC} {e a b c tg : Expr} {p q r : IE} {pos : Pos} {es rest : List Expr} {ps : IEs}
/-! ### what the iterators yield -/
theorem itOk_list {m : List Addr} {H : Hp} {i : Nat} {a : Addr} {o : Mo} (so : o.sq = true) (ha : m[i]? = some a) : ItOk X.K (Itl X.K a) [(i, o)] o.items m H := by
  intro n m2 H2 S2 e r s
  obtain ⟨xs, g1, g2⟩ := r.sql s.1 so (e.at ha)
  refine ⟨fun h => ⟨xs, g1, by rw [g2.len]; exact h⟩, fun p hp => ?_⟩
  obtain ⟨x, h1, h2⟩ := g2.get hp
  refine ⟨⟨xs, x, g1, h1⟩, fun y H3 hy => ?_⟩
  obtain ⟨e3, hy⟩ := hy
  subst e3
  have := hy xs g1
  rw [h1] at this
  cases this
  exact ⟨Ext.refl, r, h2⟩
theorem itOk_tup {m : List Addr} {H : Hp} {a : Addr} {xs : List V} {vs : List PV} (h1 : SqT X.K H a xs) (h2 : RepL X.K H m xs vs) : ItOk X.K (Itt X.K a) [] vs m H := by
  intro n m2 H2 S2 e r s
  have g1 := e.tup _ _ h1
  have g2 := RepL.ext e _ _ h2
  refine ⟨fun h => ⟨xs, g1, by rw [g2.len]; exact h⟩, fun p hp => ?_⟩
  obtain ⟨x, k1, k2⟩ := g2.get hp
  refine ⟨⟨xs, x, g1, k1⟩, fun y H3 hy => ?_⟩
  obtain ⟨e3, hy⟩ := hy
  subst e3
  have := hy xs g1
  rw [k1] at this
  cases this
  exact ⟨Ext.refl, r, k2⟩
theorem rngL_get {lo hi : Int} {i : Nat} {p : PV} (h : (rngL lo hi)[i]? = some p) : i < (hi - lo).toNat ∧ p = .int (lo + i) := by
  unfold rngL at h
  rw [List.getElem?_map] at h
  cases q : (List.range (hi - lo).toNat)[i]? with
  | none => rw [q] at h; cases h
  | some k =>
    rw [q] at h
    obtain ⟨h1, h2⟩ := List.getElem?_eq_some_iff.mp q
    simp at h1 h2
    simp at h
    subst h2
    exact ⟨by omega, h.symm⟩
theorem itOk_rng {m : List Addr} {H : Hp} {lo hi : Int} : ItOk X.K (Itr lo (hi - lo).toNat) [] (rngL lo hi) m H := by
  intro n m2 H2 S2 e r s
  refine ⟨fun h => by unfold rngL at h; rw [List.length_map, List.length_range] at h; exact h, fun p hp => ?_⟩
  obtain ⟨h1, h2⟩ := rngL_get hp
  subst h2
  refine ⟨h1, fun y H3 hy => ?_⟩
  obtain ⟨e3, hy⟩ := hy
  subst e3
  subst hy
  exact ⟨Ext.refl, r, .int _⟩
theorem enumL_len : ∀ (k : Nat) (xs : List PV), (enumL k xs).length = xs.length
  | _, [] => rfl
  | k, x :: xs => by simp [enumL, enumL_len (k + 1) xs]
theorem enumL_get : ∀ {k : Nat} {xs : List PV} {i : Nat} {p : PV}, (enumL k xs)[i]? = some p → ∃ x, xs[i]? = some x ∧ p = .tup [.int ((k + i : Nat) : Int), x]
  | _, [], _, _, h => by simp [enumL] at h
  | k, x :: xs, 0, p, h => by simp [enumL] at h; exact ⟨x, rfl, by simp [← h]⟩
  | k, x :: xs, i + 1, p, h => by
    simp only [enumL, List.getElem?_cons_succ] at h
    obtain ⟨y, h1, h2⟩ := enumL_get h
    exact ⟨y, by simpa using h1, by rw [h2, Nat.add_assoc, Nat.add_comm 1 i]⟩
theorem itOk_enum {m : List Addr} {H : Hp} {i : Nat} {a : Addr} {o : Mo} (so : o.sq = true) (ha : m[i]? = some a) : ItOk X.K (Ite X.K a) [(i, o)] (enumL 0 o.items) m H := by
  intro n m2 H2 S2 e r s
  obtain ⟨xs, g1, g2⟩ := r.sql s.1 so (e.at ha)
  refine ⟨fun h => ⟨xs, g1, by rw [g2.len]; rw [enumL_len] at h; exact h⟩, fun p hp => ?_⟩
  obtain ⟨w, hw, hp⟩ := enumL_get hp
  subst hp
  obtain ⟨x, h1, h2⟩ := g2.get hw
  refine ⟨⟨xs, x, g1, h1⟩, fun y H3 hy => ?_⟩
  obtain ⟨T, z, ey, hT, eH, hy⟩ := hy
  subst ey
  subst eH
  have := hy xs g1
  rw [h1] at this
  cases this
  have e2 : Ext X.K m2 H2 m2 (upd H2 T (.tup [.int (n : Nat), x])) := Ext.new _ hT
  exact ⟨e2, r.new _ hT, .tup (SqT.of upd_same) (.cons (by rw [Nat.zero_add]; exact .int _) (.cons (RepV.ext e2 _ _ h2) .nil))⟩
theorem zipL_get : ∀ {xs ys : List PV} {i : Nat} {p : PV}, (zipL xs ys)[i]? = some p → ∃ x y, xs[i]? = some x ∧ ys[i]? = some y ∧ p = .tup [x, y]
  | [], _, _, _, h => by simp [zipL] at h
  | _ :: _, [], _, _, h => by simp [zipL] at h
  | x :: xs, y :: ys, 0, p, h => by simp [zipL] at h; exact ⟨x, y, rfl, rfl, h.symm⟩
  | x :: xs, y :: ys, i + 1, p, h => by
    simp only [zipL, List.getElem?_cons_succ] at h
    obtain ⟨x', y', h1, h2, h3⟩ := zipL_get h
    exact ⟨x', y', by simpa using h1, by simpa using h2, h3⟩
theorem zipL_len : ∀ (xs ys : List PV), (zipL xs ys).length = min xs.length ys.length
  | [], _ => by simp [zipL]
  | _ :: _, [] => by simp [zipL]
  | x :: xs, y :: ys => by simp only [zipL, List.length_cons, zipL_len xs ys]; omega
theorem itOk_zip {m : List Addr} {H : Hp} {i j : Nat} {a b : Addr} {o u : Mo} (so : o.sq = true) (su : u.sq = true) (ha : m[i]? = some a) (hb : m[j]? = some b) : ItOk X.K (Itz X.K a b) [(i, o), (j, u)] (zipL o.items u.items) m H := by
  intro n m2 H2 S2 e r s
  obtain ⟨xs, g1, g2⟩ := r.sql s.1 so (e.at ha)
  obtain ⟨ys, k1, k2⟩ := r.sql s.2.1 su (e.at hb)
  refine ⟨fun h => ⟨xs, ys, g1, k1, by rw [g2.len, k2.len]; rw [zipL_len] at h; omega⟩, fun p hp => ?_⟩
  obtain ⟨w1, w2, hw1, hw2, hp⟩ := zipL_get hp
  subst hp
  obtain ⟨x, h1, h2⟩ := g2.get hw1
  obtain ⟨y, l1, l2⟩ := k2.get hw2
  refine ⟨⟨xs, ys, x, y, g1, k1, h1, l1⟩, fun y' H3 hy => ?_⟩
  obtain ⟨T, z1, z2, ey, hT, eH, hy1, hy2⟩ := hy
  subst ey
  subst eH
  have q1 := hy1 xs g1
  have q2 := hy2 ys k1
  rw [h1] at q1
  rw [l1] at q2
  cases q1
  cases q2
  have e2 : Ext X.K m2 H2 m2 (upd H2 T (.tup [x, y])) := Ext.new _ hT
  exact ⟨e2, r.new _ hT, .tup (SqT.of upd_same) (.cons (RepV.ext e2 _ _ h2) (.cons (RepV.ext e2 _ _ l2) .nil))⟩
theorem itOk_zipT {m : List Addr} {H : Hp} {a b : Addr} {xs ys : List V} {vs ws : List PV} (a1 : SqT X.K H a xs) (a2 : RepL X.K H m xs vs) (b1 : SqT X.K H b ys) (b2 : RepL X.K H m ys ws) : ItOk X.K (RZ.ItzT X.K a b) [] (zipL vs ws) m H := by
  intro n m2 H2 S2 e r s
  have g1 := e.tup _ _ a1
  have g2 := RepL.ext e _ _ a2
  have k1 := e.tup _ _ b1
  have k2 := RepL.ext e _ _ b2
  refine ⟨fun h => ⟨xs, ys, g1, k1, by rw [g2.len, k2.len]; rw [zipL_len] at h; omega⟩, fun p hp => ?_⟩
  obtain ⟨w1, w2, hw1, hw2, hp⟩ := zipL_get hp
  subst hp
  obtain ⟨x, h1, h2⟩ := g2.get hw1
  obtain ⟨y, l1, l2⟩ := k2.get hw2
  refine ⟨⟨xs, ys, x, y, g1, k1, h1, l1⟩, fun y' H3 hy => ?_⟩
  obtain ⟨T, z1, z2, ey, hT, eH, hy1, hy2⟩ := hy
  subst ey
  subst eH
  have q1 := hy1 xs g1
  have q2 := hy2 ys k1
  rw [h1] at q1
  rw [l1] at q2
  cases q1
  cases q2
  have e2 : Ext X.K m2 H2 m2 (upd H2 T (.tup [x, y])) := Ext.new _ hT
  exact ⟨e2, r.new _ hT, .tup (SqT.of upd_same) (.cons (RepV.ext e2 _ _ h2) (.cons (RepV.ext e2 _ _ l2) .nil))⟩
/-! ### the walks -/
def iSeq (K : PySem.W.Frag) (tl : TE) : TI := fun σ H R => tl σ H fun x H1 => ∃ a, x = .ref a ∧ ((∃ xs, SqL K H1 a xs ∧ R (Itl K a) H1) ∨ ∃ xs, SqT K H1 a xs ∧ R (Itt K a) H1)
theorem pi_seq {l : Expr} {tl : TE} (hl : PE X l tl) : PI X tg l (iSeq X.K tl) := by
  refine ⟨fun pins s σ H R I h => ?_⟩
  refine thn (hl.run pins s σ H _ I h) fun v s1 ⟨x, H1, I1, r1, q1⟩ => ?_
  obtain ⟨a, e, q1⟩ := q1
  subst e
  cases r1
  rcases q1 with ⟨xs, hq, q⟩ | ⟨xs, hq, q⟩
  · obtain ⟨its, rv, p, hz⟩ := I1.list hq
    refine wpAny_pyIter_list p.isList ?_
    refine ⟨s1.heap.objs.size, [s1.heap.objs.size], _, _, H1, rfl, I1.kept (t' := s1.toks) fun b o e => Heap.get?_push_of_some _ e, turn_list a _, ⟨_, Heap.get?_push_size _ rfl, rfl, rfl⟩, fun b hb => ?_, q⟩
    have e : b = s1.heap.objs.size := by simpa using hb
    subst e
    exact I1.fpOk (Nat.le_refl _) (I1.hok.fresh (Nat.le_refl _))
  · obtain ⟨its, rv, p, hz⟩ := I1.tuple hq
    refine wpAny_pyIter_tuple (show s1.heap.IsTuple a its.toArray from p) ?_
    refine ⟨s1.heap.objs.size, [s1.heap.objs.size], _, _, H1, rfl, I1.kept (t' := s1.toks) fun b o e => Heap.get?_push_of_some _ e, turn_tuple a _, ⟨_, Heap.get?_push_size _ rfl, rfl, rfl⟩, fun b hb => ?_, q⟩
    have e : b = s1.heap.objs.size := by simpa using hb
    subst e
    exact I1.fpOk (Nat.le_refl _) (I1.hok.fresh (Nat.le_refl _))
theorem ix_val (ha : EX X G W Φ a p) : IX X G W Φ tg a (.val p) := by
  obtain ⟨t, P, R⟩ := ha
  refine ⟨_, pi_seq P, fun m σ H ρ S Q E Kv r0 re w k kx => ?_⟩
  simp only [wpI] at w
  refine R m σ H ρ S _ E _ r0 re w (fun m1 H1 x v S1 e1 r1 hx w1 => ?_) kx
  cases hx with
  | @tup a xs vs h1 h2 => exact ⟨a, rfl, .inr ⟨xs, h1, k m1 H1 _ _ _ S1 e1 r1 (itOk_tup h1 h2) w1⟩⟩
  | @ref a i h1 =>
    obtain ⟨o, e, sq, q⟩ := w1
    obtain ⟨xs, g1, g2⟩ := r1.sql e sq h1
    exact ⟨a, rfl, .inl ⟨xs, g1, k m1 H1 _ _ _ S1 e1 r1 (itOk_list sq h1) q⟩⟩
  | _ => exact w1.elim
theorem ix_rng1 {x : Str} {p0 : Pos} (hx : x = "range") (hg : Gl X x) (hm : X.mg x = none) (ha : EX X G W Φ a p) (hs : notStar a = true) : IX X G W Φ tg (.Call (.Name x p0) [a] [] pos) (.rng1 p) := by
  obtain ⟨t, P, R⟩ := ha
  subst hx
  refine ⟨_, pi_range1 hg hm (pa_cons P pa_nil (star_cons hs)) (star_cons hs), fun m σ H ρ S Q E Kv r0 re w k kx => ?_⟩
  simp only [wpI] at w
  refine R m σ H ρ S _ E _ r0 re w (fun m1 H1 x v S1 e1 r1 hx w1 => ?_) kx
  obtain ⟨i, ei, ⟨h1, h2⟩, q⟩ := w1
  subst ei
  cases hx
  refine ⟨i, rfl, h1, h2, ?_⟩
  have o := itOk_rng (X := X) (m := m1) (H := H1) (lo := 0) (hi := i)
  rw [Int.sub_zero] at o
  exact k m1 H1 _ _ _ S1 e1 r1 o q
theorem ix_rng2 {x : Str} {p0 : Pos} (hx : x = "range") (hg : Gl X x) (hm : X.mg x = none) (ha : EX X G W Φ a p) (hb : EX X G W Φ b q) (hs : notStar a = true) (hs2 : notStar b = true) : IX X G W Φ tg (.Call (.Name x p0) [a, b] [] pos) (.rng2 p q) := by
  obtain ⟨t, P, R⟩ := ha
  obtain ⟨t2, P2, R2⟩ := hb
  subst hx
  have e2 : starEach [b] X.env = [(false, eval b X.env)] := star_cons hs2
  refine ⟨_, pi_range2 hg hm (pa_cons P (pa_cons P2 pa_nil (star_cons hs2)) (star_cons hs)) (by rw [star_cons hs, e2]) e2, fun m σ H ρ S Q E Kv r0 re w k kx => ?_⟩
  simp only [wpI] at w
  refine R m σ H ρ S _ E _ r0 re w (fun m1 H1 x v S1 e1 r1 hx w1 => ?_) kx
  refine R2 m1 σ H1 ρ S1 _ E _ r1 (re.ext e1) w1 (fun m2 H2 y v2 S2 e2 r2 hy w2 => ?_) (kx.ext e1)
  obtain ⟨i, j, ei, ej, ⟨h1, h2⟩, ⟨h3, h4⟩, q⟩ := w2
  subst ei
  subst ej
  cases hx
  cases hy
  exact ⟨i, j, rfl, ⟨h1, h2, h3, h4⟩, k m2 H2 _ _ _ S2 (e1.trans e2) r2 itOk_rng q⟩
theorem ix_enum {x : Str} {p0 tpos : Pos} {elts : List Expr} {kk : Nat} (hx : x = "enumerate") (hg : Gl X x) (hm : X.mg x = none) (ha : EX X G W Φ a p) (hs : notStar a = true) : IX X G W Φ (.Tuple elts kk tpos) (.Call (.Name x p0) [a] [] pos) (.enum p) := by
  obtain ⟨t, P, R⟩ := ha
  subst hx
  refine ⟨_, pi_enum hg hm (pa_cons P pa_nil (star_cons hs)) (star_cons hs), fun m σ H ρ S Q E Kv r0 re w k kx => ?_⟩
  simp only [wpI] at w
  refine R m σ H ρ S _ E _ r0 re w (fun m1 H1 x v S1 e1 r1 hx w1 => ?_) kx
  obtain ⟨i, o, ei, e, sq, q⟩ := w1
  subst ei
  cases hx with
  | @ref a _ h1 =>
    obtain ⟨xs, g1, g2⟩ := r1.sql e sq h1
    exact ⟨a, xs, rfl, g1, k m1 H1 _ _ _ S1 e1 r1 (itOk_enum sq h1) q⟩
theorem ix_zip {x : Str} {p0 tpos : Pos} {elts : List Expr} {kk : Nat} (hx : x = "zip") (hg : Gl X x) (hm : X.mg x = none) (ha : EX X G W Φ a p) (hb : EX X G W Φ b q) (hs : notStar a = true) (hs2 : notStar b = true) :
    IX X G W Φ (.Tuple elts kk tpos) (.Call (.Name x p0) [a, b] [] pos) (.zip p q) := by
  obtain ⟨t, P, R⟩ := ha
  obtain ⟨t2, P2, R2⟩ := hb
  subst hx
  have e2 : starEach [b] X.env = [(false, eval b X.env)] := star_cons hs2
  refine ⟨_, RZ.pi_zipA hg hm (pa_cons P (pa_cons P2 pa_nil (star_cons hs2)) (star_cons hs)) (star_cons hs) (star_plain (by simp [hs2])), fun m σ H ρ S Q E Kv r0 re w k kx => ?_⟩
  simp only [wpI] at w
  refine R m σ H ρ S _ E _ r0 re w (fun m1 H1 x v S1 e1 r1 hx w1 => ?_) kx
  refine R2 m1 σ H1 ρ S1 _ E _ r1 (re.ext e1) w1 (fun m2 H2 y v2 S2 e2 r2 hy w2 => ?_) (kx.ext e1)
  have hx := RepV.ext e2 _ _ hx
  cases hx with
  | @tup a xs vs a1 a2 =>
    cases hy with
    | @tup b ys ws b1 b2 => exact ⟨a, b, xs, ys, rfl, .inr ⟨a1, b1, k m2 H2 _ _ _ S2 (e1.trans e2) r2 (itOk_zipT a1 a2 b1 b2) w2⟩⟩
    | _ => exact w2.elim
  | @ref a i h1 =>
    cases hy with
    | @ref b j h2 =>
      obtain ⟨o, u, e, f, sq, su, q⟩ := w2
      obtain ⟨xs, g1, g2⟩ := r2.sql e sq h1
      obtain ⟨ys, k1, k2⟩ := r2.sql f su h2
      exact ⟨a, b, xs, ys, rfl, .inl ⟨g1, k1, k m2 H2 _ _ _ S2 (e1.trans e2) r2 (itOk_zip sq su h1 h2) q⟩⟩
    | _ => exact w2.elim
  | _ => exact w2.elim
/-! ### targets: a name, a tuple of names -/
def RfG (X : Cx) (g : TG) (tg : Tg) : Prop :=
  ∀ m σ H ρ S v (pv : PV) Q (Kv : L2.St → Hp → Prop), RlS X.K m H S → RlE X.K m H σ ρ → RepV X.K H m v pv → bindQ tg pv ρ Q →
    (∀ σ' ρ', RlE X.K m H σ' ρ' → (∀ is : List Nat, (∀ i, i ∈ (match tg with | .nm i => [i] | .tp is => is) → i ∈ is) → L2.wipe σ' is = L2.wipe σ is) → Q ρ' → Kv σ' H) → g v σ H Kv
def GX (X : Cx) (e : Expr) (tg : Tg) : Prop := ∃ g, PG X e g ∧ RfG X g tg
theorem wipe_set {i : Nat} {x : Option V} : ∀ {σ : L2.St} {is : List Nat}, i ∈ is → L2.wipe (σ.set i x) is = L2.wipe σ is
  | σ, j :: is, h => by
    unfold L2.wipe
    by_cases hj : i = j
    · subst hj
      by_cases hi : i ∈ is
      · rw [wipe_set hi]
      · have comm : ∀ js : List Nat, i ∉ js → L2.wipe (σ.set i x) js = (L2.wipe σ js).set i x := fun js => by
          induction js with
          | nil => intro _; rfl
          | cons k js ih =>
            intro hk
            unfold L2.wipe
            rw [ih (fun z => hk (List.mem_cons_of_mem _ z)), List.set_comm]
            exact fun z => hk (by simp [z])
        rw [comm is hi, List.set_set]
    · rw [wipe_set (by simpa [hj] using h)]
theorem gx_name {i : Nat} {x : Str} (hN : X.N.Nodup) (hi : X.N[i]? = some x) (hx : Loc X.env.scope x) (hf : X.fn x = true ∨ X.env.scope.names.lookup x = some .local) : GX X (.Name x pos) (.nm i) :=
  ⟨_, pg_name hN hi hx hf, fun m σ H ρ S v pv Q Kv r re hv w k => k _ _ (re.set hv i) (fun is h => wipe_set (h i (by simp))) w⟩
/-- names one after another -/
def NmOk (X : Cx) : List Expr → List Nat → Prop
  | [], [] => True
  | .Name x _ :: es, i :: is => X.N[i]? = some x ∧ Loc X.env.scope x ∧ (X.fn x = true ∨ X.env.scope.names.lookup x = some .local) ∧ NmOk X es is
  | _, _ => False
theorem gxs_names (hN : X.N.Nodup) : ∀ {es : List Expr} {is : List Nat}, NmOk X es is → ∃ g, PGs X es g ∧ (assignEach es X.env).length = is.length ∧ (assignEach es X.env).findIdx? (·.1) = none ∧
    ∀ m σ H ρ S vs (pvs : List PV) (Kv : L2.St → Hp → Prop), RlS X.K m H S → RlE X.K m H σ ρ → RepL X.K H m vs pvs → pvs.length = is.length →
      (∀ σ', RlE X.K m H σ' (setAll is pvs ρ) → (∀ js : List Nat, (∀ i, i ∈ is → i ∈ js) → L2.wipe σ' js = L2.wipe σ js) → Kv σ' H) → g vs σ H Kv
  | [], [], _ => ⟨_, pgs_nil, rfl, rfl, fun m σ H ρ S vs pvs Kv r re hv hl k => by
      cases hv with
      | nil => exact ⟨rfl, k σ re fun _ _ => rfl⟩
      | cons _ _ => cases hl⟩
  | .Name x ps :: es, i :: is, ⟨h1, h2, h3, h4⟩ => by
    obtain ⟨g, P, hl, hf, R⟩ := gxs_names hN h4
    refine ⟨_, pgs_cons (pg_name hN h1 h2 h3) P rfl, by show (assignEach es X.env).length + 1 = is.length + 1; rw [hl], ?_, fun m σ H ρ S vs pvs Kv r re hv hl k => ?_⟩
    · show List.findIdx? (·.1) ((false, assign (.Name x ps) X.env) :: assignEach es X.env) = none
      rw [List.findIdx?_cons]
      simp [hf]
    · cases hv with
      | nil => cases hl
      | @cons v vr pv pvr hv hvr =>
        refine ⟨v, vr, rfl, ?_⟩
        refine R m _ H _ S vr pvr Kv r (re.set hv i) hvr (by simpa using hl) fun σ' re' hw => k σ' re' fun js hj => ?_
        rw [hw js fun j hj' => hj j (List.mem_cons_of_mem _ hj')]
        exact wipe_set (hj i List.mem_cons_self)
theorem gx_tup {is : List Nat} {kk : Nat} (hc : X.calm = true) (hN : X.N.Nodup) (h : NmOk X es is) : GX X (.Tuple es kk pos) (.tp is) := by
  obtain ⟨g, P, hl, hf, R⟩ := gxs_names hN h
  refine ⟨_, pg_tup hc P hl hf, fun m σ H ρ S v pv Q Kv r re hv w k => ?_⟩
  cases hv with
  | @tup a xs vs h1 h2 =>
    obtain ⟨hlen, w⟩ := w
    exact ⟨a, xs, rfl, h1, by rw [h2.len]; exact hlen, R m σ H ρ S xs vs _ r re h2 hlen fun σ' re' hw => k σ' _ re' (fun js hj => hw js hj) w⟩
  | _ => exact w.elim
end
end Pv
set_option Elab.async false
set_option linter.all false
set_option maxRecDepth 100000
set_option maxHeartbeats 1000000
/-! Pv7: list comprehensions. -/
namespace Pv
open PySem PySem.Spec PyProof.Rows L2

/-- the readings that hang on the meaning alone -/
def tCan (K : PySem.W.Frag) (mg : Str → Option Value) (G : GT) (W : WX) (p : Env → Store → PQ → PX → Prop) : TE := fun σ H Kv =>
  ∃ m ρ S Q E, RlS K m H S ∧ RlE K m H σ ρ ∧ p ρ S Q E ∧ KE K m H Q Kv ∧ KX K mg G m H E (fun c d H' => W c d σ H')
def tCanT (K : PySem.W.Frag) (mg : Str → Option Value) (G : GT) (W : WX) (p : Env → Store → (Bool → Store → Prop) → PX → Prop) : TT := fun σ H Kv =>
  ∃ m ρ S Q E, RlS K m H S ∧ RlE K m H σ ρ ∧ p ρ S Q E ∧ (∀ m' H' k S', Ext K m H m' H' → RlS K m' H' S' → Q k S' → Kv k H') ∧ KX K mg G m H E (fun c d H' => W c d σ H')
def tgIx : Tg → List Nat
  | .nm i => [i]
  | .tp is => is
def gCan (K : PySem.W.Frag) (tg : Tg) : TG := fun v σ H Kv =>
  ∃ m ρ S pv Q, RlS K m H S ∧ RlE K m H σ ρ ∧ RepV K H m v pv ∧ bindQ tg pv ρ Q ∧
    (∀ σ' ρ', RlE K m H σ' ρ' → (∀ is : List Nat, (∀ i, i ∈ tgIx tg → i ∈ is) → L2.wipe σ' is = L2.wipe σ is) → Q ρ' → Kv σ' H)
section
variable {X : Cx} {G : GT} {W : WX} {Φ : Call} {e tgE elt iter : Expr} {p : IE} {tg : Tg} {pos : Pos}
theorem EX.can (h : EX X G W Φ e p) : PE X e (tCan X.K X.mg G W (wpE Φ p)) := by
  obtain ⟨t, P, R⟩ := h
  exact ⟨fun pins s σ H Q I ⟨m, ρ, S, Q', E, h1, h2, h3, h4, h5⟩ => P.run pins s σ H Q I (R m σ H ρ S Q' E Q h1 h2 h3 h4 h5)⟩
theorem TX.can (h : TX X G W Φ e p) : PT X e (tCanT X.K X.mg G W (wpT Φ p)) := by
  obtain ⟨t, P, R⟩ := h
  exact ⟨fun pins s σ H Q I ⟨m, ρ, S, Q', E, h1, h2, h3, h4, h5⟩ => P.run pins s σ H Q I (R m σ H ρ S Q' E Q h1 h2 h3 h4 h5)⟩
theorem GX.can (h : GX X e tg) : PG X e (gCan X.K tg) := by
  obtain ⟨t, P, R⟩ := h
  refine ⟨fun pins s σ H v u Q I r ⟨m, ρ, S, pv, Q', h1, h2, h3, h4, h5⟩ => P.run pins s σ H v u Q I r (R m σ H ρ S v pv Q' Q h1 h2 h3 h4 fun σ' ρ' a b c => h5 σ' ρ' a (fun is hi => b is ?_) c)⟩
  cases tg <;> exact hi
/-- a comprehension's tests: none, or one -/
def PTsX (X : Cx) (G : GT) (W : WX) (Φ : Call) (ifs : List Expr) (ps : IEs) : Prop := PTs X ifs (tCanT X.K X.mg G W (wpTs Φ ps))
theorem ptsx_nil : PTsX X G W Φ [] .nil := ⟨fun pins s σ H Q I ⟨m, ρ, S, Q', E, h1, h2, h3, h4, h5⟩ => pts_nil.run pins s σ H Q I (h4 m H true S Ext.refl h1 (by simpa only [wpTs] using h3))⟩
theorem ptsx_one (h : TX X G W Φ e p) : PTsX X G W Φ [e] (.cons p .nil) :=
  ⟨fun pins s σ H Q I ⟨m, ρ, S, Q', E, h1, h2, h3, h4, h5⟩ => by
    simp only [wpTs] at h3
    refine (pts_one h.can).run pins s σ H Q I ⟨m, ρ, S, _, E, h1, h2, h3, fun m' H' k S' e r q => ?_, h5⟩
    cases k with
    | true => simp only [if_true] at q; exact h4 m' H' true S' e r q
    | false => simp only [Bool.false_eq_true, if_false] at q; exact h4 m' H' false S' e r q⟩
theorem wipe_sub (σ : L2.St) (vs : List Nat) : ∀ us : List Nat, (∀ i, i ∈ us → i ∈ vs) → L2.wipe (L2.wipe σ us) vs = L2.wipe σ vs
  | [], _ => rfl
  | u :: us, h => by
    show L2.wipe ((L2.wipe σ us).set u none) vs = _
    rw [wipe_set (h u List.mem_cons_self), wipe_sub σ vs us fun i hi => h i (List.mem_cons_of_mem _ hi)]
theorem wipe_wipe (σ : L2.St) (vs : List Nat) : L2.wipe (L2.wipe σ vs) vs = L2.wipe σ vs := wipe_sub σ vs vs fun _ h => h
abbrev WN : WX := fun _ _ _ _ => False
theorem rf_lc {it : II} {pif : IEs} {own : List (Str × Nat)} {wi : TI} (hsub : ∀ i, i ∈ tgIx tg → i ∈ own.map (·.2)) (Ri : RfI X G W wi (wpI Φ it)) :
    RfE X G W (tLc wi (gCan X.K tg) (tCanT X.K X.mg G WN (wpTs Φ pif)) (tCan X.K X.mg G WN (wpE Φ p)) (own.map (·.2))) (wpE Φ (.lc (own.map (·.2)) tg it pif p)) := by
  intro m σ H ρ S Q E Kv r0 re w k kx
  simp only [wpE] at w
  refine Ri m σ H ρ S _ E _ r0 re w (fun m1 H1 J src items S1 e1 r1 io w1 => ?_) kx
  intro D hD
  have eN : Ext X.K m1 H1 (m1 ++ [D]) (upd H1 D (.lst [])) := Ext.newL _ hD
  have rN : RlS X.K (m1 ++ [D]) (upd H1 D (.lst [])) (S1 ++ [.lst []]) := r1.newL hD .nil
  have hDd : (m1 ++ [D])[S1.length]? = some D := by rw [← r1.len]; exact get_last
  generalize htn : (fun (x : PV) (S2 : Store) (K : Option PV → Store → Prop) => bindQ tg x (wipeP ρ (own.map (·.2))) fun ρ1 => wpTs Φ pif ρ1 S2 (fun k S3 =>
        if k = true then wpE Φ p ρ1 S3 (fun y S4 => K (some y) S4) (fun _ _ => False) else K none S3) (fun _ _ => False)) = turn at w1
  refine ⟨fun n mm Hh => ∃ m2 S2, Ext X.K (m1 ++ [D]) (upd H1 D (.lst [])) m2 Hh ∧ RlS X.K m2 Hh S2 ∧ mm = items.length - n ∧ n ≤ items.length ∧ lcLoop src S1.length turn Q (items.drop n) S2, ⟨items.length, m1 ++ [D], S1 ++ [.lst []], Ext.refl, rN, by simp, Nat.zero_le _, by simpa using w1⟩, ?_⟩
  rintro n mm Hh ⟨m2, S2, e2, r2, rfl, hn, w2⟩
  have io2 := io n m2 Hh S2 (eN.trans e2) r2
  by_cases hlt : n < items.length
  · right
    rw [List.drop_eq_getElem_cons hlt] at w2
    simp only [lcLoop] at w2
    obtain ⟨so, w2⟩ := w2
    obtain ⟨go, yld⟩ := (io2 so).2 items[n] (List.getElem?_eq_getElem hlt)
    refine ⟨go, fun H' => ∃ m3 S3, Ext X.K (m1 ++ [D]) (upd H1 D (.lst [])) m3 H' ∧ RlS X.K m3 H' S3 ∧ lcLoop src S1.length turn Q (items.drop (n + 1)) S3, fun H' ⟨m3, S3, a, b, c⟩ => ⟨items.length - (n + 1), by omega, m3, S3, a, b, rfl, hlt, c⟩, fun x H' hy => ?_⟩
    obtain ⟨e3, r3, hx⟩ := yld x H' hy
    rw [← htn] at w2
    have re3 : RlE X.K m2 H' σ ρ := re.ext ((e1.trans (eN.trans e2)).trans e3)
    refine ⟨m2, wipeP ρ (own.map (·.2)), S2, items[n], _, r3, re3.wipe _, hx, w2, fun σ' ρ' re' hw q => ⟨?_, ?_⟩⟩
    · rw [hw (own.map (·.2)) hsub]
      exact wipe_wipe σ _
    refine ⟨m2, ρ', S2, _, _, r3, re', q, fun m4 H4 kk S4 e4 r4 q4 => ?_, fun _ _ _ _ _ _ _ _ _ z => z.elim⟩
    have e24 := e2.trans (e3.trans e4)
    cases kk with
    | false =>
      simp only [Bool.false_eq_true, if_false] at q4 ⊢
      exact ⟨m4, S4, e24, r4, by rw [← htn]; exact q4⟩
    | true =>
      simp only [if_true] at q4 ⊢
      refine ⟨m4, ρ', S4, _, _, r4, re'.ext e4, q4, fun m5 H5 y py S5 e5 r5 hy5 q5 => ?_, fun _ _ _ _ _ _ _ _ _ z => z.elim⟩
      obtain ⟨acc, ha, hz, q5⟩ := q5
      have e25 := e24.trans e5
      have hD5 : m5[S1.length]? = some D := e25.at hDd
      obtain ⟨a', accV, h1, h2, h3⟩ := r5.at ha
      rw [hD5] at h1
      cases h1
      have ep : Ext X.K m5 H5 m5 (upd H5 D (.lst (accV ++ [y]))) := Ext.put h2
      exact ⟨accV, h2, by rw [h3.len]; exact hz, m5, S5.set S1.length (.lst (acc ++ [py])), e25.trans ep, r5.put ha hD5 h2 (h3.append (.cons hy5 .nil)), by rw [← htn]; exact q5⟩
  · left
    have hn2 : n = items.length := by omega
    subst hn2
    rw [List.drop_length] at w2
    simp only [lcLoop] at w2
    obtain ⟨so, w2⟩ := w2
    refine ⟨(io2 so).1 (Nat.le_refl _), ?_⟩
    exact k m2 Hh _ _ S2 (e1.trans (eN.trans e2)) r2 (.ref (e2.at hDd)) w2
end
end Pv
set_option Elab.async false
set_option linter.all false
set_option maxRecDepth 100000
set_option maxHeartbeats 1000000
/-! Pv7x: dict displays, get, reversed lists. -/
namespace Pv
open PySem PySem.Spec PyProof.Rows L2
section
variable {X : Cx} {G : GT} {W : WX} {Φ : Call} {C : CC} {e a b c : Expr} {p q r : IE} {pos : Pos} {es rest : List Expr} {ps : IEs}
theorem RepL.reverse {K : PySem.W.Frag} {H : Hp} {m : List Addr} {xs : List V} {vs : List PV} (h : RepL K H m xs vs) : RepL K H m xs.reverse vs.reverse := by
  induction h using RepL.rec (motive_1 := fun _ _ _ => True) with
  | nil => exact .nil
  | cons a t _ ih => rw [List.reverse_cons, List.reverse_cons]; exact ih.append (.cons a .nil)
  | _ => trivial
theorem ex_rev {k : Nat} {p1 p2 p3 : Pos} (ha : EX X G W Φ a p) : EX X G W Φ (.Subscript a (.Slice none none (some (.UnaryOp .USub (.Constant (.int 1) k p1) p2)) p3) pos) (.rev p) := by
  obtain ⟨ta, Pa, Ra⟩ := ha
  refine ⟨_, pe_revL Pa, fun m σ H ρ S Q E Kv r0 re w k kx => ?_⟩
  simp only [wpE] at w
  refine Ra m σ H ρ S _ E _ r0 re w (fun m1 H1 x v S1 e1 r1 hx w1 => ?_) kx
  cases hx with
  | @ref a i h1 =>
    obtain ⟨o, e, sq, q⟩ := w1
    obtain ⟨xs, g1, g2⟩ := r1.sql e sq h1
    exact ⟨a, xs, rfl, g1, fun p n => (k.ext e1).newL r1 g2.reverse q n⟩
  | _ => exact w1.elim
/-! displays -/
def cKs : List (Option Expr) → Option (List Key)
  | [] => some []
  | some (.Constant (.int i) _ _) :: r => (cKs r).map (.inl i :: ·)
  | some (.Constant (.str x) _ _) :: r => (cKs r).map (.inr x :: ·)
  | _ => none
def RfP (X : Cx) (G : GT) (W : WX) (ks : List Key) (trs : List (TE × TE)) (p : Env → Store → (List PV → Store → Prop) → PX → Prop) : Prop :=
  ∀ m σ H ρ S Q E (Kv : List (V × V) → Hp → Prop), RlS X.K m H S → RlE X.K m H σ ρ → p ρ S Q E →
    (∀ m' H' vs pvs S', Ext X.K m H m' H' → RlS X.K m' H' S' → RepL X.K H' m' vs pvs → Q pvs S' → Kv (List.zipWith (fun k v => (kV k, v)) ks vs) H') → KX X.K X.mg G m H E (fun c d H' => W c d σ H') → tPairs trs σ H Kv
theorem pps_one {trs : List (TE × TE)} {k : Key} {ks : List Key} {ek : Expr} {ks' : List (Option Expr)} (hk : PE X ek (tC (kV k))) (ha : EX X G W Φ a p) (hr : PPs X pos ks' es trs) (R : RfP X G W ks trs (wpEs Φ ps)) :
    ∃ trs', PPs X pos (some ek :: ks') (a :: es) trs' ∧ RfP X G W (k :: ks) trs' (wpEs Φ (.cons p ps)) := by
  obtain ⟨ta, Pa, Ra⟩ := ha
  refine ⟨_, pps_cons hk Pa hr, fun m σ H ρ S Q E Kv r0 re w k kx => ?_⟩
  simp only [wpEs] at w
  refine Ra m σ H ρ S _ E _ r0 re w (fun m1 H1 x v S1 e1 r1 hx w1 => ?_) kx
  refine R m1 σ H1 ρ S1 _ E _ r1 (re.ext e1) w1 (fun m2 H2 vs pvs S2 e2 r2 hx2 w2 => ?_) (kx.ext e1)
  exact k m2 H2 (x :: vs) (v :: pvs) S2 (e1.trans e2) r2 (.cons (RepV.ext e2 _ _ hx) hx2) w2
theorem pps_of {f : Expr → Option IE} (hf : ∀ e p, f e = some p → EX X G W Φ e p) : ∀ {ks' : List (Option Expr)} {ks : List Key} {es : List Expr} {ps : List IE}, cKs ks' = some ks → es.length = ps.length → (∀ (i : Nat) (e : Expr) (p : IE), es[i]? = some e → ps[i]? = some p → f e = some p) → ks'.length = es.length →
    ∃ trs, PPs X pos ks' es trs ∧ RfP X G W ks trs (wpEs Φ (ps.foldr .cons .nil))
  | [], ks, [], [], hk, _, _, _ => by
    cases hk
    exact ⟨[], pps_nil, fun m σ H ρ S Q E Kv r0 re w k kx => by simp only [List.foldr, wpEs] at w; exact k m H [] [] S Ext.refl r0 .nil w⟩
  | [], _, _ :: _, _, _, _, _, h => by cases h
  | _ :: _, _, [], _, _, _, _, h => by cases h
  | _, _, [], _ :: _, _, h, _, _ => by cases h
  | _, _, _ :: _, [], _, h, _, _ => by cases h
  | ek :: ks', ks, e :: es, p :: ps, hk, hl, he, hl2 => by
    have key : ∃ k e0 ks2, ek = some e0 ∧ PE X e0 (tC (kV k)) ∧ cKs ks' = some ks2 ∧ ks = k :: ks2 := by
      unfold cKs at hk
      split at hk
      · rename_i h; cases h
      · rename_i i j ps' r h
        cases h
        simp only [Option.map_eq_some_iff] at hk
        obtain ⟨ks2, h1, rfl⟩ := hk
        exact ⟨.inl i, _, ks2, rfl, pe_int, h1, rfl⟩
      · rename_i i j ps' r h
        cases h
        simp only [Option.map_eq_some_iff] at hk
        obtain ⟨ks2, h1, rfl⟩ := hk
        exact ⟨.inr i, _, ks2, rfl, pe_str, h1, rfl⟩
      · cases hk
    obtain ⟨k, e0, ks2, rfl, pk, h1, rfl⟩ := key
    obtain ⟨trs, P, R⟩ := pps_of hf (es := es) (ps := ps) h1 (by simpa using hl) (fun i e p h1 h2 => he (i + 1) e p (by simpa using h1) (by simpa using h2)) (by simpa using hl2)
    exact pps_one pk (hf e p (he 0 e p rfl rfl)) P R
def toL : IEs → List IE
  | .nil => []
  | .cons p ps => p :: toL ps
theorem toL_foldr : ∀ ps : IEs, (toL ps).foldr .cons .nil = ps
  | .nil => rfl
  | .cons p ps => by show IEs.cons p ((toL ps).foldr .cons .nil) = _; rw [toL_foldr ps]
theorem repD_mk {K : PySem.W.Frag} {H : Hp} {m : List Addr} : ∀ {ks : List Key} {vs : List V} {pvs : List PV} {acc : List (Key × V)} {accP : List (Key × PV)}, RepL K H m vs pvs → RepD K H m acc accP →
    RepD K H m (mergeK acc (List.zipWith (fun k v => (k, v)) ks vs)) (mkD ks pvs accP)
  | [], vs, pvs, _, _, h, g => by cases h <;> exact g
  | _ :: _, [], _, _, _, h, g => by cases h; exact g
  | k :: ks, v :: vs, _, _, _, .cons (v := pv) (vs := pvs) h t, g => repD_mk (ks := ks) t (g.put h)
theorem ex_dct0 : EX X G W Φ (.Dict [] [] pos) (.dct [] .nil) := by
  refine ⟨_, pe_dnewK, fun m σ H ρ S Q E Kv r0 re w k kx p n => ?_⟩
  simp only [wpE, wpEs, mkD] at w
  have e : Ext X.K m H (m ++ [p]) (upd H p (.dK [])) := Ext.newL _ n
  obtain ⟨_, _, w⟩ := w
  rw [List.set_append_right _ _ (Nat.le_refl _), Nat.sub_self, List.set_cons_zero] at w
  exact k (m ++ [p]) _ _ _ _ e (r0.newO (o := .dct []) n ⟨[], upd_same, .nil⟩) (.ref (by rw [← r0.len]; exact get_last)) w
theorem ex_dct {ks' : List (Option Expr)} {ks : List Key} {trs : List (TE × TE)} (hP : PPs X pos ks' es trs) (R : RfP X G W ks trs (wpEs Φ ps)) (hall : ks'.all (·.isSome) = true) (hl : ks'.length = es.length) (h0 : ks' ≠ []) (h15 : ks'.length ≤ 15) (hk : ks.length = ks'.length) :
    EX X G W Φ (.Dict ks' es pos) (.dct ks ps) := by
  refine ⟨_, pe_disp hP hall hl h0 h15, fun m σ H ρ S Q E Kv r0 re w k kx p n => ?_⟩
  simp only [wpE] at w
  have e : Ext X.K m H (m ++ [p]) (upd H p (.dK [])) := Ext.newL _ n
  have r1 : RlS X.K (m ++ [p]) (upd H p (.dK [])) (S ++ [.dct []]) := r0.newO n ⟨[], upd_same, .nil⟩
  refine R _ σ _ ρ _ _ E _ r1 (re.ext e) w (fun m2 H2 vs pvs S2 e2 r2 hx w2 => ?_) (kx.ext e)
  obtain ⟨w1, w2, w3⟩ := w2
  have hp : m2[S.length]? = some p := e2.at (by rw [← r0.len]; exact get_last)
  obtain ⟨a, xs, g1, g2, g3⟩ := r2.dct w1
  rw [hp] at g1
  cases g1
  cases g3
  refine ⟨g2, List.zipWith (fun k v => (k, v)) ks vs, ?_, ?_, ?_⟩
  · rw [List.map_zipWith]
  · rw [List.length_zipWith]; omega
  · have ep : Ext X.K m2 H2 m2 (upd H2 p (.dK (mergeK [] (List.zipWith (fun k v => (k, v)) ks vs)))) := Ext.putO g2 (.inr ⟨_, rfl⟩)
    exact k m2 _ _ _ _ ((e.trans e2).trans ep) (r2.putD w1 hp g2 (repD_mk hx .nil)) (.ref hp) w3
/-! d.get(k, x) -/
theorem ex_get2 {o : Expr} {po : IE} {apos : Pos} (hu : X.A.units + 64 < cLine) (ho : EX X G W Φ o po) (ha : EX X G W Φ a p) (hb : EX X G W Φ b q) (hs : notStar a = true) (hs2 : notStar b = true) (hbase : attributeBase o "get" X.env (eval o X.env) = eval o X.env) (hline : (apos.endLine == pos.line) = true) :
    EX X G W Φ (.Call (.Attribute o "get" apos) [a, b] [] pos) (.get2 po p q) := by
  obtain ⟨to, Po, Ro⟩ := ho
  obtain ⟨ta, Pa, Ra⟩ := ha
  obtain ⟨tb, Pb, Rb⟩ := hb
  have st : starEach [a, b] X.env = [(false, eval a X.env), (false, eval b X.env)] := by rw [star_cons hs, star_cons hs2]; rfl
  have few : ((backTo pos (starEach [a, b] X.env)).all (fun x => !x.1) && (backToKw pos (keywordEach [] X.env)).all (fun x => x.1.isSome)
      && decide ([a, b].length + ([] : List Keyword).length + (if ([] : List Keyword).isEmpty then 0 else 1) < 30)) = true := by rw [st]; rfl
  refine ⟨_, pe_dget2 (by omega) Po Pa Pb ⟨hbase, few, hline, by rw [st]; rfl⟩, fun m σ H ρ S Q E Kv r0 re w k kx => ?_⟩
  simp only [wpE] at w
  refine Ro m σ H ρ S _ E _ r0 re w (fun m1 H1 x v S1 e1 r1 hx w1 => ?_) kx
  obtain ⟨hd, w1⟩ := w1
  cases hx with
  | @ref d i h1 =>
    obtain ⟨kvs, hk⟩ := hd
    obtain ⟨d', xs, g1, g2, g3⟩ := r1.dct hk
    rw [h1] at g1
    cases g1
    refine ⟨d, rfl, .inl ⟨xs, .inl g2⟩, ?_⟩
    refine Ra m1 σ H1 ρ S1 _ E _ r1 (re.ext e1) w1 (fun m2 H2 y w S2 e2 r2 hy w2 => ?_) (kx.ext e1)
    refine Rb m2 σ H2 ρ S2 _ E _ r2 (re.ext (e1.trans e2)) w2 (fun m3 H3 z u S3 e3 r3 hz w3 => ?_) (kx.ext (e1.trans e2))
    obtain ⟨kvs3, kk, hk3, ek, w3⟩ := w3
    obtain ⟨d', xs3, l1, l2, l3⟩ := r3.dct hk3
    rw [(e2.trans e3).at h1] at l1
    cases l1
    have ey : y = kV kk := rep_key hy ek
    subst ey
    refine ⟨_, DGet.k l2, ?_⟩
    have e13 := (e1.trans e2).trans e3
    rcases l3.get (k := kk) with ⟨z1, z2⟩ | ⟨z', zv, z1, z2, z3⟩
    · rw [z1] at w3; rw [z2]; exact k m3 H3 _ _ S3 e13 r3 hz w3
    · rw [z1] at w3; rw [z2]; exact k m3 H3 _ _ S3 e13 r3 z3 w3
  | _ => exact hd.elim
end
end Pv
set_option Elab.async false
set_option linter.all false
set_option maxRecDepth 100000
set_option maxHeartbeats 2000000
/-! Pv8: from the text's expressions to the small language. -/
namespace Pv
open PySem PySem.Spec PyProof.Rows L2

def ixS (N : List Str) (x : Str) : Option Nat := N.findIdx? (· == x)
def visB (sc : Scope) (x : Str) : Bool := match sc.names.lookup x with
  | some .local | some .cell | some .free => true
  | _ => false
def glbB (sc : Scope) (x : Str) : Bool := decide (sc.names.lookup x = some .globalImplicit)
def locB (C : CC) (x : Str) : Bool := match C.sc.names.lookup x with
  | some .local => true
  | some .cell => !C.blk
  | _ => false
def slotB (C : CC) (x : Str) (i : Nat) : Bool := decide (C.N[i]? = some x)
def cName (G : GT) (C : CC) (x : Str) : Option IE :=
  if (x == ("__debug__" : Str)) || (x == ("__classdict__" : Str)) then none
  else if glbB C.sc x then (G.cons.lookup x).map .cst
  else if visB C.sc x then (ixS C.N x).bind fun i => if slotB C x i then some (.var i) else none
  else none
def cConst : Const → Option IE
  | .none => some (.cst .non)
  | .bool b => some (.cst (.bl b))
  | .int i => some (.cst (.int i))
  | .str x => some (.cst (.str x))
  | _ => none
def cOp : Operator → Option BOp
  | .Add => some .add | .Sub => some .sub | .Mult => some .mul | .FloorDiv => some .fdiv | .Mod => some .mod | .Pow => some .pow
  | _ => none
theorem cOp_ok {op : Operator} {o : BOp} (h : cOp op = some o) : op = Bop o := by cases op <;> simp [cOp] at h <;> subst h <;> rfl
def cCmp : CmpOp → COp
  | .Eq => .eq | .NotEq => .ne | .Lt => .lt | .LtE => .le | .Gt => .gt | .GtE => .ge | .Is => .is | .IsNot => .isnot | .In => .isin | .NotIn => .notin
theorem cCmp_ok (op : CmpOp) : Cop (cCmp op) = op := by cases op <;> rfl
def cL (f : Expr → Option IE) : List Expr → Option IEs
  | [] => some .nil
  | e :: es => if notStar e then (f e).bind fun p => (cL f es).map fun ps => .cons p ps else none
def cBool (op : BoolOp) (f : Expr → Option IE) : List Expr → Option IE
  | [] => none
  | [a] => f a
  | a :: b :: rest => (f a).bind fun p => (cBool op f (b :: rest)).map fun q => match op with
    | .And => .and p q
    | .Or => .or p q
def cO (f : Expr → Option IE) : Option Expr → Option IOp
  | none => some .no
  | some e => (f e).map .so
/-- a def by its name -/
def fnIx (G : GT) (x : Str) : Option Nat := G.fns.findIdx? (fun p => p.1 == x)
def biOf (x : Str) (n : Nat) : Option Bi :=
  if x = "len" ∧ n = 1 then some .len else if x = "max" ∧ n = 2 then some .max2 else if x = "min" ∧ n = 2 then some .min2 else if x = "int" ∧ n = 1 then some .int1
  else if x = "list" ∧ n = 1 then some .list1 else if x = "tuple" ∧ n = 1 then some .tuple1 else if x = "all" ∧ n = 1 then some .all1 else if x = "any" ∧ n = 1 then some .any1 else if x = "sum" ∧ n = 1 then some .sum1 else if x = "sorted" ∧ n = 1 then some .sorted1 else if x = "max" ∧ n = 1 then some .max1 else if x = "min" ∧ n = 1 then some .min1 else none
def tyOf (x : Str) : Option Ty :=
  if x = "int" then some .tInt else if x = "str" then some .tStr else if x = "bool" then some .tBool else if x = "tuple" then some .tTuple else if x = "list" then some .tList else none
def mtOf (x : Str) : Option Mt := if x = "append" then some .append else if x = "index" then some .index else if x = "count" then some .count else if x = "extend" then some .extend else none
def bltB (C : CC) (x : Str) : Bool := glbB C.sc x && decide (x ∈ C.blts)
def cIsin (C : CC) (f : Expr → Option IE) : List Expr → Option IE
  | [a, .Name t _] => if notStar a && bltB C t then (f a).bind fun p => (tyOf t).map fun ty => .isin p ty else none
  | _ => none
def cFn (G : GT) (i : Nat) (x : Str) (k : Nat) : Option (List PV) :=
  match G.fns[i]? with
  | some (y, n, dfl) => if y = x ∧ k ≤ n ∧ n - k ≤ dfl.length then some (dfl.drop (dfl.length - (n - k))) else none
  | none => none
def cCall (G : GT) (C : CC) (f : Expr → Option IE) (x : Str) (es : List Expr) : Option IE :=
  if bltB C x then
    if x = "isinstance" then cIsin C f es
    else if C.calm && !es.isEmpty then (biOf x es.length).bind fun b => (cL f es).map fun ps => .bi b ps else none
  else if glbB C.sc x && C.calm && !(x == ("__debug__" : Str)) && !es.isEmpty then
    (fnIx G x).bind fun i => (cFn G i x es.length).bind fun ds => (cL f es).map fun ps => .call i ps ds
  else none
def plainB : Expr → Bool
  | .Slice .. => false
  | _ => true
def cNms (C : CC) : List Expr → Option (List Nat)
  | [] => some []
  | .Name x _ :: es => if locB C x then (ixS C.N x).bind fun i => if slotB C x i then (cNms C es).map fun is => i :: is else none else none
  | _ => none
def cTg (C : CC) : Expr → Option Tg
  | .Name x _ => if locB C x then (ixS C.N x).bind fun i => if slotB C x i then some (.nm i) else none else none
  | .Tuple es _ _ => if C.calm then (cNms C es).map .tp else none
  | _ => none
def isTup : Expr → Bool
  | .Tuple .. => true
  | _ => false
def setB : Expr → Bool
  | .Set .. => true
  | _ => false
def cI (C : CC) (f : Expr → Option IE) (tg : Expr) (e : Expr) : Option II :=
  match e with
  | .Call (.Name x _) [a] [] _ =>
    if bltB C x && decide (x = "range") && notStar a then (f a).map .rng1
    else if bltB C x && decide (x = "enumerate") && notStar a && isTup tg then (f a).map .enum
    else (f e).map .val
  | .Call (.Name x _) [a, b] [] _ =>
    if bltB C x && decide (x = "range") && notStar a && notStar b then (f a).bind fun p => (f b).map fun q => .rng2 p q
    else if bltB C x && decide (x = "zip") && notStar a && notStar b && isTup tg then (f a).bind fun p => (f b).map fun q => .zip p q
    else (f e).map .val
  | e => if setB e then none else (f e).map .val
def ownOf (N : List Str) (sc : Scope) : List (Str × Nat) := sc.names.filterMap fun p => match p.2 with
  | .local | .cell => (ixS N p.1).map fun i => (p.1, i)
  | _ => none
def cIfs (f : Expr → Option IE) : List Expr → Option IEs
  | [] => some .nil
  | [e] => (f e).map fun p => .cons p .nil
  | _ => none
def cE (G : GT) : Nat → CC → Expr → Option IE
  | 0, _, _ => none
  | n + 1, C, e => match e with
    | .Name x _ => cName G C x
    | .Constant c _ _ => cConst c
    | .Tuple es _ _ => (cL (cE G n C) es).map .tup
    | .List es _ => (cL (cE G n C) es).map .lst
    | .BinOp a op b _ => (cOp op).bind fun o => (cE G n C a).bind fun p => (cE G n C b).map fun q => .bin o p q
    | .UnaryOp .Not a _ => (cE G n C a).map .not
    | .UnaryOp .USub a _ => (cE G n C a).map .neg
    | .BoolOp op es _ => cBool op (cE G n C) es
    | .IfExp t a b _ => (cE G n C t).bind fun r => (cE G n C a).bind fun p => (cE G n C b).map fun q => .ifx r p q
    | .Compare a [op] [b] _ => if behindInMarks op b then none else (cE G n C a).bind fun p => (cE G n C b).map fun q => .cmp (cCmp op) p q
    | .Compare a [op, op'] [b, c] _ => if lastMarks [op, op'] [b, c] then none else (cE G n C a).bind fun p => (cE G n C b).bind fun q => (cE G n C c).map fun r => .chain (cCmp op) (cCmp op') p q r
    | .Subscript a (.Slice lo hi none _) _ => (cE G n C a).bind fun p => (cO (cE G n C) lo).bind fun l => (cO (cE G n C) hi).map fun h => .slice p l h
    | .Subscript a (.Slice none none (some (.UnaryOp .USub (.Constant (.int 1) _ _) _)) _) _ => (cE G n C a).map .rev
    | .Dict ks es _ => if ks.isEmpty && es.isEmpty then some (.dct [] .nil)
      else if ks.all (·.isSome) && decide (ks.length = es.length) && decide (ks.length ≤ 15) then (cKs ks).bind fun kk => (cL (cE G n C) es).map fun ps => .dct kk ps else none
    | .Call (.Attribute (.Name o op) m apos) [] [] cpos => if (apos.endLine == cpos.line) && decide (m = "pop") then (cE G n C (.Name o op)).map fun po => .meth .pop po .nil else none
    | .Call (.Attribute (.Name o op) m apos) [a, b] [] cpos => if (apos.endLine == cpos.line) && decide (m = "get") && notStar a && notStar b then
        (cE G n C (.Name o op)).bind fun po => (cE G n C a).bind fun p => (cE G n C b).map fun q => .get2 po p q else none
    | .Subscript a (.Constant (.int k) _ _) _ => if 0 ≤ k then (cE G n C a).map fun p => .idxc p k.toNat else none
    | .Subscript a b _ => if plainB b then (cE G n C a).bind fun p => (cE G n C b).map fun q => .idx p q else none
    | .Call (.Name x _) es [] _ => cCall G C (cE G n C) x es
    | .Call (.Attribute (.Name o op) m apos) [a] [] cpos => if (apos.endLine == cpos.line) && notStar a then (mtOf m).bind fun mt => (cE G n C (.Name o op)).bind fun po => (cL (cE G n C) [a]).map fun ps => .meth mt po ps else none
    | .ListComp elt [⟨tg, iter, ifs, 0⟩] scope _ =>
      if C.calm && blkC C.N C.sc scope (ownOf C.N scope) then
        (cI C (cE G n C) tg iter).bind fun it => (cTg { C with sc := scope, blk := true } tg).bind fun t =>
          if (tgIx t).all (fun i => decide (i ∈ (ownOf C.N scope).map (·.2))) then
            (cIfs (cE G n { C with sc := scope, blk := true }) ifs).bind fun pif => (cE G n { C with sc := scope, blk := true } elt).map fun p => .lc ((ownOf C.N scope).map (·.2)) t it pif p
          else none
      else none
    | _ => none

/-! ### it is right -/
section
variable {X : Cx} {G : GT} {W : WX} {Φ : Call} {C : CC} {e a b : Expr} {p q : IE} {pos : Pos} {es : List Expr} {ps : IEs} {x : Str} {i : Nat}
theorem Ctx.gl (c : Ctx G C X W Φ) (h : glbB C.sc x = true) : Gl X x := by
  unfold glbB at h
  exact c.sc.gl x (of_decide_eq_true h)
theorem Ctx.vis (c : Ctx G C X W Φ) (h : visB C.sc x = true) : Vis X.env.scope x := by
  unfold visB at h
  unfold Vis
  split at h
  · rename_i q; exact .inl (c.sc.lo x q)
  · rename_i q; exact .inr (.inl (c.sc.ce x q))
  · rename_i q; exact .inr ((c.sc.fr x q).elim .inr .inl)
  · cases h
theorem Ctx.loc (c : Ctx G C X W Φ) (h : locB C x = true) : L2.Loc X.env.scope x ∧ (X.fn x = true ∨ X.env.scope.names.lookup x = some .local) := by
  unfold locB at h
  unfold L2.Loc
  split at h
  · rename_i q; exact ⟨.inl (c.sc.lo x q), .inr (c.sc.lo x q)⟩
  · rename_i q; exact ⟨.inr (c.sc.ce x q), .inl (c.fn (by simpa using h) x)⟩
  · cases h
theorem Ctx.slot (c : Ctx G C X W Φ) (h : slotB C x i = true) : X.N[i]? = some x := by
  unfold slotB at h
  rw [c.hN]
  exact of_decide_eq_true h
theorem Ctx.bltn (c : Ctx G C X W Φ) (h : bltB C x = true) : Gl X x ∧ X.mg x = none := by
  unfold bltB at h
  rw [Bool.and_eq_true] at h
  exact ⟨c.gl h.1, c.blt x (of_decide_eq_true h.2)⟩
theorem Ctx.nodup (c : Ctx G C X W Φ) : X.N.Nodup := by rw [c.hN]; exact c.nd
theorem lookup_mem {α β : Type} [BEq α] [LawfulBEq α] {k : α} {v : β} : ∀ {l : List (α × β)}, l.lookup k = some v → (k, v) ∈ l
  | [], h => by simp at h
  | (a, b) :: l, h => by
    rw [List.lookup_cons] at h
    split at h
    · rename_i q
      cases h
      rw [eq_of_beq q]
      exact List.mem_cons_self
    · exact List.mem_cons_of_mem _ (lookup_mem h)
theorem cName_ok (c : Ctx G C X W Φ) (h : cName G C x = some p) : EX X G W Φ (.Name x pos) p ∧ TX X G W Φ (.Name x pos) p := by
  unfold cName at h
  split at h
  · cases h
  rename_i hd
  simp only [Bool.or_eq_true, not_or, Bool.not_eq_true] at hd
  split at h
  · rename_i hg
    simp only [Option.map_eq_some_iff] at h
    obtain ⟨pv, hp, rfl⟩ := h
    obtain ⟨v, u, hm, r, hr⟩ := c.con x pv (lookup_mem hp)
    have ex : EX X G W Φ (.Name x pos) (.cst pv) := ex_cst (pe_glob (c.gl hg) hm r hd.1) hr
    exact ⟨ex, tx_val ex (fun _ => rfl) fun ρ S Q E => by simp only [wpT, wpE]⟩
  · split at h
    · rename_i hv
      simp only [Option.bind_eq_some_iff] at h
      obtain ⟨i, _, h⟩ := h
      split at h
      · rename_i hs
        cases h
        have ex : EX X G W Φ (.Name x pos) (.var i) := ex_var (c.slot hs) (c.vis hv) hd.1 hd.2
        exact ⟨ex, tx_val ex (fun _ => rfl) fun ρ S Q E => by simp only [wpT, wpE]⟩
      · cases h
    · cases h
theorem cConst_ok {k : PySem.Const} {j : Nat} (h : cConst k = some p) : EX X G W Φ (.Constant k j pos) p ∧ TX X G W Φ (.Constant k j pos) p := by
  have fin : EX X G W Φ (.Constant k j pos) p → (∃ v, p = .cst v) → EX X G W Φ (.Constant k j pos) p ∧ TX X G W Φ (.Constant k j pos) p := fun ex ⟨v, e⟩ => by
    subst e
    exact ⟨ex, tx_val ex (fun _ => rfl) fun ρ S Q E => by simp only [wpT, wpE]⟩
  cases k with
  | none => cases h; exact fin (ex_cst pe_non fun _ _ => .non) ⟨_, rfl⟩
  | bool b => cases h; exact fin (ex_cst pe_bl fun _ _ => .bl b) ⟨_, rfl⟩
  | int i => cases h; exact fin (ex_cst pe_int fun _ _ => .int i) ⟨_, rfl⟩
  | str x => cases h; exact fin (ex_cst pe_str fun _ _ => .str x) ⟨_, rfl⟩
  | _ => cases h
theorem cL_ok {f : Expr → Option IE} (hf : ∀ e p, f e = some p → EX X G W Φ e p) : ∀ {es : List Expr} {ps : IEs}, cL f es = some ps → AX X G W Φ es ps ∧ es.all notStar = true
  | [], ps, h => by cases h; exact ⟨ax_nil, rfl⟩
  | e :: es, ps, h => by
    unfold cL at h
    split at h
    · rename_i hs
      simp only [Option.bind_eq_some_iff, Option.map_eq_some_iff] at h
      obtain ⟨p, hp, ps', hps, rfl⟩ := h
      obtain ⟨h1, h2⟩ := cL_ok hf hps
      exact ⟨ax_cons (hf e p hp) h1 (star_cons hs), by rw [List.all_cons, hs, h2]; rfl⟩
    · cases h
theorem cL_get {f : Expr → Option IE} : ∀ {es : List Expr} {ps : IEs}, cL f es = some ps → es.length = (toL ps).length ∧ ∀ (i : Nat) (e : Expr) (p : IE), es[i]? = some e → (toL ps)[i]? = some p → f e = some p
  | [], ps, h => by cases h; exact ⟨rfl, fun i e p h => by simp at h⟩
  | e :: es, ps, h => by
    unfold cL at h
    split at h
    · simp only [Option.bind_eq_some_iff, Option.map_eq_some_iff] at h
      obtain ⟨p, hp, ps', hps, rfl⟩ := h
      obtain ⟨h1, h2⟩ := cL_get hps
      refine ⟨by simp [toL, h1], fun i e' p' g1 g2 => ?_⟩
      cases i with
      | zero =>
        simp [toL] at g1 g2
        subst g1 g2
        exact hp
      | succ i => exact h2 i e' p' (by simpa using g1) (by simpa [toL] using g2)
    · cases h
theorem cKs_len : ∀ {ks : List (Option Expr)} {kk : List Key}, cKs ks = some kk → kk.length = ks.length
  | [], kk, h => by cases h; rfl
  | k :: ks, kk, h => by
    unfold cKs at h
    split at h
    · rename_i h'; cases h'
    · rename_i h'; cases h'
      simp only [Option.map_eq_some_iff] at h
      obtain ⟨ks2, h1, rfl⟩ := h
      simp [cKs_len h1]
    · rename_i h'; cases h'
      simp only [Option.map_eq_some_iff] at h
      obtain ⟨ks2, h1, rfl⟩ := h
      simp [cKs_len h1]
    · cases h
theorem cBool_ok {op : PySem.BoolOp} {f : Expr → Option IE} (hf : ∀ e p, f e = some p → EX X G W Φ e p ∧ TX X G W Φ e p) :
    ∀ {es : List Expr} {p : IE}, cBool op f es = some p → EX X G W Φ (.BoolOp op es pos) p ∧ WX' X G W Φ (.BoolOp op es pos) p
  | [], p, h => by cases h
  | [a], p, h => ⟨ex_one (hf a p h).1, by cases op; exact wx_and1 (hf a p h).2; exact wx_or1 (hf a p h).2⟩
  | a :: b :: rest, p, h => by
    unfold cBool at h
    simp only [Option.bind_eq_some_iff, Option.map_eq_some_iff] at h
    obtain ⟨pa, ha, q, hq, h⟩ := h
    obtain ⟨h1, h2⟩ := cBool_ok (op := op) hf hq
    cases op with
    | And => subst h; exact ⟨ex_and (hf a pa ha).1 h1, wx_and (hf a pa ha).2 h2⟩
    | Or => subst h; exact ⟨ex_or (hf a pa ha).1 h1, wx_or (hf a pa ha).2 h2⟩
theorem cO_ok {f : Expr → Option IE} (hf : ∀ e p, f e = some p → EX X G W Φ e p) {o : Option Expr} {l : IOp} (h : cO f o = some l) : OX X G W Φ o l := by
  cases o with
  | none => cases h; exact ox_no
  | some e =>
    simp only [cO, Option.map_eq_some_iff] at h
    obtain ⟨p, hp, rfl⟩ := h
    exact ox_so (hf e p hp)
theorem biOf_ok {n : Nat} {b : Bi} (h : biOf x n = some b) : x = biN b ∧ b ≠ .list0 ∧ b ≠ .tuple0 := by
  unfold biOf at h
  by_cases q : x = "len" ∧ n = 1
  · rw [if_pos q] at h; cases h; exact ⟨q.1, by decide, by decide⟩
  rw [if_neg q] at h
  clear q
  by_cases q : x = "max" ∧ n = 2
  · rw [if_pos q] at h; cases h; exact ⟨q.1, by decide, by decide⟩
  rw [if_neg q] at h
  clear q
  by_cases q : x = "min" ∧ n = 2
  · rw [if_pos q] at h; cases h; exact ⟨q.1, by decide, by decide⟩
  rw [if_neg q] at h
  clear q
  by_cases q : x = "int" ∧ n = 1
  · rw [if_pos q] at h; cases h; exact ⟨q.1, by decide, by decide⟩
  rw [if_neg q] at h
  clear q
  by_cases q : x = "list" ∧ n = 1
  · rw [if_pos q] at h; cases h; exact ⟨q.1, by decide, by decide⟩
  rw [if_neg q] at h
  clear q
  by_cases q : x = "tuple" ∧ n = 1
  · rw [if_pos q] at h; cases h; exact ⟨q.1, by decide, by decide⟩
  rw [if_neg q] at h
  clear q
  by_cases q : x = "all" ∧ n = 1
  · rw [if_pos q] at h; cases h; exact ⟨q.1, by decide, by decide⟩
  rw [if_neg q] at h
  clear q
  by_cases q : x = "any" ∧ n = 1
  · rw [if_pos q] at h; cases h; exact ⟨q.1, by decide, by decide⟩
  rw [if_neg q] at h
  clear q
  by_cases q : x = "sum" ∧ n = 1
  · rw [if_pos q] at h; cases h; exact ⟨q.1, by decide, by decide⟩
  rw [if_neg q] at h
  clear q
  by_cases q : x = "sorted" ∧ n = 1
  · rw [if_pos q] at h; cases h; exact ⟨q.1, by decide, by decide⟩
  rw [if_neg q] at h
  clear q
  by_cases q : x = "max" ∧ n = 1
  · rw [if_pos q] at h; cases h; exact ⟨q.1, by decide, by decide⟩
  rw [if_neg q] at h
  clear q
  by_cases q : x = "min" ∧ n = 1
  · rw [if_pos q] at h; cases h; exact ⟨q.1, by decide, by decide⟩
  rw [if_neg q] at h
  clear q
  cases h
theorem tyOf_ok {t : Ty} (h : tyOf x = some t) : x = tyS t := by
  unfold tyOf at h
  repeat' split at h
  all_goals first
    | (rename_i q; cases h; exact q)
    | cases h
theorem mtOf_ok {t : Mt} (h : mtOf x = some t) : x = mtN t ∧ t ≠ .pop := by
  unfold mtOf at h
  repeat' split at h
  all_goals first
    | (rename_i q; cases h; exact ⟨q, by decide⟩)
    | cases h
theorem cCall_ok (c : Ctx G C X W Φ) {f : Expr → Option IE} (hf : ∀ e p, f e = some p → EX X G W Φ e p) {p0 : Pos} (h : cCall G C f x es = some p) : EX X G W Φ (.Call (.Name x p0) es [] pos) p ∧ TX X G W Φ (.Call (.Name x p0) es [] pos) p := by
  have fin : EX X G W Φ (.Call (.Name x p0) es [] pos) p → (∀ ρ S Q E, wpT Φ p ρ S Q E = wpE Φ p ρ S (fun v S1 => truQ v S1 fun k => Q k S1) E) → EX X G W Φ (.Call (.Name x p0) es [] pos) p ∧ TX X G W Φ (.Call (.Name x p0) es [] pos) p := fun ex hw => ⟨ex, tx_val ex (fun _ => rfl) hw⟩
  unfold cCall at h
  split at h
  · rename_i hb
    obtain ⟨hg, hm⟩ := c.bltn hb
    split at h
    · rename_i hx
      match es, h with
      | [a, .Name t p1], h =>
        simp only [cIsin] at h
        split at h
        · rename_i hs
          rw [Bool.and_eq_true] at hs
          simp only [Option.bind_eq_some_iff, Option.map_eq_some_iff] at h
          obtain ⟨pa, hp, ty, ht, rfl⟩ := h
          obtain ⟨g2, m2⟩ := c.bltn hs.2
          exact fin (ex_isin hx (tyOf_ok ht) hg hm g2 m2 (hf a pa hp) hs.1) fun ρ S Q E => by simp only [wpT, wpE, truQ]
        · cases h
      | [], h => cases h
      | [_], h => cases h
      | _ :: _ :: _ :: _, h => simp [cIsin] at h
      | [a, .Constant _ _ _], h | [a, .Tuple _ _ _], h | [a, .List _ _], h | [a, .BinOp _ _ _ _], h | [a, .UnaryOp _ _ _], h | [a, .BoolOp _ _ _], h | [a, .IfExp _ _ _ _], h | [a, .Compare _ _ _ _], h | [a, .Subscript _ _ _], h | [a, .Call _ _ _ _], h
      | [a, .ListComp _ _ _ _], h | [a, .NamedExpr _ _ _], h | [a, .Lambda _ _ _ _], h | [a, .Dict _ _ _], h | [a, .Set _ _ _], h | [a, .SetComp _ _ _ _], h | [a, .DictComp _ _ _ _ _], h | [a, .GeneratorExp _ _ _ _], h | [a, .Await _ _], h | [a, .Yield _ _], h
      | [a, .YieldFrom _ _], h | [a, .FormattedValue _ _ _ _], h | [a, .JoinedStr _ _], h | [a, .Attribute _ _ _], h | [a, .Starred _ _], h | [a, .Slice _ _ _ _], h => simp [cIsin] at h
    · split at h
      · rename_i hne hcc
        rw [Bool.and_eq_true] at hcc
        simp only [Option.bind_eq_some_iff, Option.map_eq_some_iff] at h
        obtain ⟨b, hbi, ps, hps, rfl⟩ := h
        obtain ⟨ax, hst⟩ := cL_ok hf hps
        obtain ⟨h1, h2, h3⟩ := biOf_ok hbi
        cases es with
        | nil => simp at hcc
        | cons e es => exact fin (ex_bi (c.calm hcc.1) h2 h3 h1 hg hm ax hst) fun ρ S Q E => by simp only [wpT, wpE]
      · cases h
  · split at h
    · rename_i hnb hcc
      simp only [Bool.and_eq_true] at hcc
      simp only [Option.bind_eq_some_iff, Option.map_eq_some_iff] at h
      obtain ⟨i, hi, ds, hds, ps, hps, rfl⟩ := h
      obtain ⟨ax, hst⟩ := cL_ok hf hps
      unfold cFn at hds
      split at hds
      · rename_i y n dfl hG
        split at hds
        · rename_i hh
          obtain ⟨rfl, h1, h2⟩ := hh
          cases hds
          cases es with
          | nil => simp at hcc
          | cons e es => exact fin (ex_call (c.call hcc.1.1.2) c.tk hG (c.gl hcc.1.1.1) (by simpa using hcc.1.2) ax hst h1 h2) fun ρ S Q E => by simp only [wpT, wpE]
        · cases hds
      · cases hds
    · cases h
theorem plain_ok (h : plainB b = true) : PlainIx b := by
  intro o i
  cases b <;> first | rfl | cases h
theorem cNms_ok (c : Ctx G C X W Φ) : ∀ {es : List Expr} {is : List Nat}, cNms C es = some is → NmOk X es is
  | [], is, h => by cases h; trivial
  | e :: es, is, h => by
    cases e with
    | Name x ps =>
      simp only [cNms] at h
      split at h
      · rename_i hl
        simp only [Option.bind_eq_some_iff] at h
        obtain ⟨i, _, h⟩ := h
        split at h
        · rename_i hs
          simp only [Option.map_eq_some_iff] at h
          obtain ⟨is', h, rfl⟩ := h
          exact ⟨c.slot hs, (c.loc hl).1, (c.loc hl).2, cNms_ok c h⟩
        · cases h
      · cases h
    | _ => simp [cNms] at h
theorem cTg_ok (c : Ctx G C X W Φ) {t : Tg} (h : cTg C e = some t) : GX X e t := by
  cases e with
  | Name x ps =>
    simp only [cTg] at h
    split at h
    · rename_i hl
      simp only [Option.bind_eq_some_iff] at h
      obtain ⟨i, _, h⟩ := h
      split at h
      · rename_i hs
        cases h
        exact gx_name c.nodup (c.slot hs) (c.loc hl).1 (c.loc hl).2
      · cases h
    · cases h
  | Tuple es k ps =>
    simp only [cTg] at h
    split at h
    · rename_i hc
      simp only [Option.map_eq_some_iff] at h
      obtain ⟨is, h, rfl⟩ := h
      exact gx_tup (c.calm hc) c.nodup (cNms_ok c h)
    · cases h
  | _ => simp [cTg] at h
theorem cI_ok (c : Ctx G C X W Φ) {f : Expr → Option IE} (hf : ∀ e p, f e = some p → EX X G W Φ e p) {tg : Expr} {it : II} (h : cI C f tg e = some it) : IX X G W Φ tg e it ∧ ∀ x, foldedSetIterable e X.env x = pure x := by
  have val : ∀ {e : Expr} {it : II}, (f e).map II.val = some it → setB e = false → IX X G W Φ tg e it ∧ ∀ x, foldedSetIterable e X.env x = pure x := fun {e it} h hs => by
    simp only [Option.map_eq_some_iff] at h
    obtain ⟨p, hp, rfl⟩ := h
    refine ⟨ix_val (hf e p hp), fun x => ?_⟩
    cases e <;> first | rfl | cases hs
  unfold cI at h
  split at h
  · split at h
    · rename_i hh
      simp only [Bool.and_eq_true, decide_eq_true_eq] at hh
      simp only [Option.map_eq_some_iff] at h
      obtain ⟨p, hp, rfl⟩ := h
      obtain ⟨g, m⟩ := c.bltn hh.1.1
      exact ⟨ix_rng1 hh.1.2 g m (hf _ p hp) hh.2, fun _ => rfl⟩
    · split at h
      · rename_i hh
        simp only [Bool.and_eq_true, decide_eq_true_eq] at hh
        simp only [Option.map_eq_some_iff] at h
        obtain ⟨p, hp, rfl⟩ := h
        obtain ⟨g, m⟩ := c.bltn hh.1.1.1
        have ht := hh.2
        cases tg with
        | Tuple elts kk tpos => exact ⟨ix_enum hh.1.1.2 g m (hf _ p hp) hh.1.2, fun _ => rfl⟩
        | _ => cases ht
      · exact val h rfl
  · split at h
    · rename_i hh
      simp only [Bool.and_eq_true, decide_eq_true_eq] at hh
      simp only [Option.bind_eq_some_iff, Option.map_eq_some_iff] at h
      obtain ⟨p, hp, q, hq, rfl⟩ := h
      obtain ⟨g, m⟩ := c.bltn hh.1.1.1
      exact ⟨ix_rng2 hh.1.1.2 g m (hf _ p hp) (hf _ q hq) hh.1.2 hh.2, fun _ => rfl⟩
    · split at h
      · rename_i hh
        simp only [Bool.and_eq_true, decide_eq_true_eq] at hh
        simp only [Option.bind_eq_some_iff, Option.map_eq_some_iff] at h
        obtain ⟨p, hp, q, hq, rfl⟩ := h
        obtain ⟨g, m⟩ := c.bltn hh.1.1.1.1
        have ht := hh.2
        cases tg with
        | Tuple elts kk tpos => exact ⟨ix_zip hh.1.1.1.2 g m (hf _ p hp) (hf _ q hq) hh.1.1.2 hh.1.2, fun _ => rfl⟩
        | _ => cases ht
      · exact val h rfl
  · split at h
    · cases h
    · rename_i hs
      exact val h (by simpa using hs)
theorem cIfs_ok {f : Expr → Option IE} (hf : ∀ e p, f e = some p → TX X G W Φ e p) {pif : IEs} (h : cIfs f es = some pif) : PTsX X G W Φ es pif := by
  match es, h with
  | [], h => cases h; exact ptsx_nil
  | [e], h =>
    simp only [cIfs, Option.map_eq_some_iff] at h
    obtain ⟨p, hp, rfl⟩ := h
    exact ptsx_one (hf e p hp)
  | _ :: _ :: _, h => simp [cIfs] at h
theorem lookup_map {f : Str → NameKind → NameKind} {x : Str} : ∀ l : List (Str × NameKind), (l.map fun p => (p.1, f p.1 p.2)).lookup x = (l.lookup x).map (f x)
  | [] => rfl
  | (n, k) :: r => by
    rw [List.map_cons, List.lookup_cons, List.lookup_cons, lookup_map r]
    by_cases hx : x = n
    · subst hx; simp
    · have : (x == n) = false := by simpa using hx
      simp [this]
theorem scOk_relabel (scope : Scope) (env : PySem.Env) : ScOk scope (relabel scope env) := by
  have e : ∀ x, (relabel scope env).names.lookup x = (scope.names.lookup x).map fun k => if (k == NameKind.free && env.scope.kind == .function && env.kindOf x == some .cell) = true then .cell else k := fun x => by
    have h := lookup_map (f := fun n k => if (k == NameKind.free && env.scope.kind == .function && env.kindOf n == some .cell) = true then .cell else k) (x := x) scope.names
    rw [← h]
    unfold relabel
    congr 1
    apply List.map_congr_left
    rintro ⟨n, k⟩ _
    show (if (k == NameKind.free && env.scope.kind == .function && env.kindOf n == some .cell) = true then (n, NameKind.cell) else (n, k)) = _
    split <;> rfl
  refine ⟨fun x h => by rw [e, h]; rfl, fun x h => by rw [e, h]; rfl, fun x h => by rw [e, h]; rfl, fun x h => ?_⟩
  rw [e, h]
  simp only [Option.map_some]
  split
  · exact .inr rfl
  · exact .inl rfl
theorem Ctx.blk (c : Ctx G C X W Φ) {scope : Scope} (hk : scope.kind = .function) (s : Shared) (H : Hp) (D : Addr) (cl : List (Str × Addr)) (fp : List Addr) :
    Ctx G { C with sc := scope, blk := true } (X.blk s H scope (compEnvC scope cl D X.env) fp) WN Φ where
  hN := c.hN
  nd := c.nd
  kind := hk
  sc := scOk_relabel scope X.env
  fn := fun h => by cases h
  calm := c.calm
  units := c.units
  call := fun h => ⟨(c.call h).ok⟩
  tk := takes0
  pass := PassesOwn.never
  blt := c.blt
  room := c.room
  frame := fun h => by cases h
  exc := c.exc
  excF := c.excF
  cat := c.cat
  con := c.con
/-- a comprehension in parts -/
def LcP (X : Cx) (G : GT) (W : WX) (Φ : Call) (elt : Expr) (gens : List Comprehension) (scope : Scope) (p : IE) : Prop :=
  ∃ (tg iter : Expr) (ifs : List Expr) (wi : TI) (g : TG) (tt : TT) (te : TE) (own : List (Str × Nat)), gens = [⟨tg, iter, ifs, 0⟩] ∧ X.calm = true ∧ PI X tg iter wi ∧ BlkOk X.N X.env.scope scope own ∧
    (∀ (s : Shared) (H : Hp) (C : Addr) (cl : List (Str × Addr)) (fp : List Addr), PG (X.blk s H scope (compEnvC scope cl C X.env) fp) tg g) ∧
    (∀ (s : Shared) (H : Hp) (C : Addr) (cl : List (Str × Addr)) (fp : List Addr), PTs (X.blk s H scope (compEnvC scope cl C X.env) fp) ifs tt) ∧
    (∀ (s : Shared) (H : Hp) (C : Addr) (cl : List (Str × Addr)) (fp : List Addr), PE (X.blk s H scope (compEnvC scope cl C X.env) fp) elt te) ∧
    (∀ x, foldedSetIterable iter X.env x = pure x) ∧ RfE X G W (tLc wi g tt te (own.map (·.2))) (wpE Φ p)
theorem lcP_of {elt tgE iter : Expr} {tg : Tg} {it : II} {ifs : List Expr} {pif : IEs} {scope : Scope} {own : List (Str × Nat)} (hc : X.calm = true) (hN : X.N.Nodup) (ok : BlkOk X.N X.env.scope scope own) (hi : IX X G W Φ tgE iter it)
    (hsub : ∀ i, i ∈ tgIx tg → i ∈ own.map (·.2))
    (hg : ∀ (s : Shared) (H : Hp) (C : Addr) (cl : List (Str × Addr)) (fp : List Addr), GX (X.blk s H scope (compEnvC scope cl C X.env) fp) tgE tg)
    (ht : ∀ (s : Shared) (H : Hp) (C : Addr) (cl : List (Str × Addr)) (fp : List Addr), PTsX (X.blk s H scope (compEnvC scope cl C X.env) fp) G WN Φ ifs pif)
    (he : ∀ (s : Shared) (H : Hp) (C : Addr) (cl : List (Str × Addr)) (fp : List Addr), EX (X.blk s H scope (compEnvC scope cl C X.env) fp) G WN Φ elt p)
    (hs : ∀ x, foldedSetIterable iter X.env x = pure x) :
    LcP X G W Φ elt [⟨tgE, iter, ifs, 0⟩] scope (.lc (own.map (·.2)) tg it pif p) := by
  obtain ⟨wi, Pi, Ri⟩ := hi
  exact ⟨tgE, iter, ifs, wi, gCan X.K tg, tCanT X.K X.mg G WN (wpTs Φ pif), tCan X.K X.mg G WN (wpE Φ p), own, rfl, hc, Pi, ok, fun s H C cl fp => (hg s H C cl fp).can, fun s H C cl fp => ht s H C cl fp, fun s H C cl fp => (he s H C cl fp).can, hs, rf_lc hsub Ri⟩
theorem LcP.ex {elt : Expr} {gens : List Comprehension} {scope : Scope} (hN : X.N.Nodup) (h : LcP X G W Φ elt gens scope p) : EX X G W Φ (.ListComp elt gens scope pos) p := by
  obtain ⟨tg, iter, ifs, wi, g, tt, te, own, rfl, hc, hi, ok, hg, ht, he, hs, R⟩ := h
  exact ⟨_, pe_lc hc hN hi ok hg ht he hs, R⟩
theorem cE_ok (G : GT) (Φ : Call) : ∀ (n : Nat) (C : CC) (e : Expr) (p : IE), cE G n C e = some p → ∀ (X : Cx) (W : WX), Ctx G C X W Φ → EX X G W Φ e p ∧ TX X G W Φ e p ∧ ∀ elt gens scope ps, e = .ListComp elt gens scope ps → LcP X G W Φ elt gens scope p
  | 0, _, _, _, h => by cases h
  | n + 1, C, e, p, h => by
    intro X W c
    have no : ∀ {e : Expr} {p : IE}, EX X G W Φ e p ∧ TX X G W Φ e p → (∀ elt gens scope ps, e ≠ .ListComp elt gens scope ps) → EX X G W Φ e p ∧ TX X G W Φ e p ∧ ∀ elt gens scope ps, e = .ListComp elt gens scope ps → LcP X G W Φ elt gens scope p := fun h hn => ⟨h.1, h.2, fun a b c d e => absurd e (hn a b c d)⟩
    have ih : ∀ e p, cE G n C e = some p → EX X G W Φ e p ∧ TX X G W Φ e p := fun e p h => ⟨(cE_ok G Φ n C e p h X W c).1, (cE_ok G Φ n C e p h X W c).2.1⟩
    have ihE : ∀ e p, cE G n C e = some p → EX X G W Φ e p := fun e p h => (ih e p h).1
    unfold cE at h
    split at h
    · exact no (cName_ok c h) (fun _ _ _ _ => by simp)
    · exact no (cConst_ok h) (fun _ _ _ _ => by simp)
    · simp only [Option.map_eq_some_iff] at h
      obtain ⟨ps, hp, rfl⟩ := h
      exact no ⟨ex_tup (cL_ok ihE hp).1, tx_never fun ρ S Q E w => by simp only [wpT] at w⟩ (fun _ _ _ _ => by simp)
    · simp only [Option.map_eq_some_iff] at h
      obtain ⟨ps, hp, rfl⟩ := h
      exact no ⟨ex_lst (cL_ok ihE hp).1, tx_never fun ρ S Q E w => by simp only [wpT] at w⟩ (fun _ _ _ _ => by simp)
    · simp only [Option.bind_eq_some_iff, Option.map_eq_some_iff] at h
      obtain ⟨o, ho, pa, ha, pb, hb, rfl⟩ := h
      rw [cOp_ok ho]
      exact no ⟨ex_bin (ihE _ _ ha) (ihE _ _ hb), tx_never fun ρ S Q E w => by simp only [wpT] at w⟩ (fun _ _ _ _ => by simp)
    · simp only [Option.map_eq_some_iff] at h
      obtain ⟨pa, ha, rfl⟩ := h
      exact no ⟨ex_not (ihE _ _ ha), tx_not (ih _ _ ha).2⟩ (fun _ _ _ _ => by simp)
    · simp only [Option.map_eq_some_iff] at h
      obtain ⟨pa, ha, rfl⟩ := h
      exact no ⟨ex_neg (ihE _ _ ha), tx_never fun ρ S Q E w => by simp only [wpT] at w⟩ (fun _ _ _ _ => by simp)
    · obtain ⟨h1, h2⟩ := cBool_ok (X := X) (W := W) ih h
      exact no ⟨h1, h2.tx⟩ (fun _ _ _ _ => by simp)
    · simp only [Option.bind_eq_some_iff, Option.map_eq_some_iff] at h
      obtain ⟨r, hr, pa, ha, pb, hb, rfl⟩ := h
      exact no ⟨ex_ifx (ih _ _ hr).2 (ihE _ _ ha) (ihE _ _ hb), tx_never fun ρ S Q E w => by simp only [wpT] at w⟩ (fun _ _ _ _ => by simp)
    · rename_i a op b ps
      split at h
      · cases h
      · rename_i hm
        simp only [Option.bind_eq_some_iff, Option.map_eq_some_iff] at h
        obtain ⟨pa, ha, pb, hb, rfl⟩ := h
        have hm' : behindInMarks (Cop (cCmp op)) b = false := by rw [cCmp_ok]; simpa using hm
        have z1 := ex_cmp (pos := ps) c.units (ihE _ _ ha) (ihE _ _ hb) hm'
        have z2 := tx_cmp (pos := ps) c.units (ihE _ _ ha) (ihE _ _ hb) hm'
        rw [cCmp_ok] at z1 z2
        exact no ⟨z1, z2⟩ (fun _ _ _ _ => by simp)
    · rename_i a op op' b d ps
      split at h
      · cases h
      · rename_i hm
        simp only [Option.bind_eq_some_iff, Option.map_eq_some_iff] at h
        obtain ⟨pa, ha, pb, hb, pd, hd, rfl⟩ := h
        have hm' : lastMarks [Cop (cCmp op), Cop (cCmp op')] [b, d] = false := by rw [cCmp_ok, cCmp_ok]; simpa using hm
        have z1 := ex_chain (pos := ps) c.units (ihE _ _ ha) (ihE _ _ hb) (ihE _ _ hd) hm'
        have z2 := tx_chain (pos := ps) c.units (ihE _ _ ha) (ihE _ _ hb) (ihE _ _ hd) hm'
        rw [cCmp_ok, cCmp_ok] at z1 z2
        exact no ⟨z1, z2⟩ (fun _ _ _ _ => by simp)
    · simp only [Option.bind_eq_some_iff, Option.map_eq_some_iff] at h
      obtain ⟨pa, ha, l, hl, hh, hhh, rfl⟩ := h
      exact no ⟨ex_slice (ihE _ _ ha) (cO_ok ihE hl) (cO_ok ihE hhh), tx_never fun ρ S Q E w => by simp only [wpT] at w⟩ (fun _ _ _ _ => by simp)
    · simp only [Option.map_eq_some_iff] at h
      obtain ⟨pa, ha, rfl⟩ := h
      exact no ⟨ex_rev (ihE _ _ ha), tx_never fun ρ S Q E w => by simp only [wpT] at w⟩ (fun _ _ _ _ => by simp)
    · split at h
      · rename_i ks es ps hh
        cases h
        rw [Bool.and_eq_true, List.isEmpty_iff, List.isEmpty_iff] at hh
        obtain ⟨rfl, rfl⟩ := hh
        exact no ⟨ex_dct0, tx_never fun ρ S Q E w => by simp only [wpT] at w⟩ (fun _ _ _ _ => by simp)
      · split at h
        · rename_i ks es ps h0 hh
          simp only [Bool.and_eq_true, decide_eq_true_eq] at hh
          simp only [Option.bind_eq_some_iff, Option.map_eq_some_iff] at h
          obtain ⟨kk, hk, qs, hq, rfl⟩ := h
          obtain ⟨g1, g2⟩ := cL_get hq
          obtain ⟨trs, P, R⟩ := pps_of (X := X) (G := G) (W := W) (Φ := Φ) (pos := ps) ihE hk g1 g2 hh.1.2
          rw [toL_foldr] at R
          refine no ⟨ex_dct P R hh.1.1 hh.1.2 (fun e => ?_) hh.2 (cKs_len hk), tx_never fun ρ S Q E w => by simp only [wpT] at w⟩ (fun _ _ _ _ => by simp)
          subst e
          apply h0
          have : es = [] := List.length_eq_zero_iff.1 (by rw [← hh.1.2]; rfl)
          subst this
          rfl
        · cases h
    · split at h
      · rename_i hh
        simp only [Bool.and_eq_true, decide_eq_true_eq] at hh
        simp only [Option.map_eq_some_iff] at h
        obtain ⟨po, hpo, rfl⟩ := h
        obtain ⟨h1, rfl⟩ := hh
        exact no ⟨ex_pop (ihE _ _ hpo) rfl h1, tx_never fun ρ S Q E w => by simp only [wpT] at w⟩ (fun _ _ _ _ => by simp)
      · cases h
    · split at h
      · rename_i hh
        simp only [Bool.and_eq_true, decide_eq_true_eq] at hh
        simp only [Option.bind_eq_some_iff, Option.map_eq_some_iff] at h
        obtain ⟨po, hpo, pa, ha, pb, hb, rfl⟩ := h
        obtain ⟨⟨⟨h1, rfl⟩, h2⟩, h3⟩ := hh
        exact no ⟨ex_get2 c.units (ihE _ _ hpo) (ihE _ _ ha) (ihE _ _ hb) h2 h3 rfl h1, tx_never fun ρ S Q E w => by simp only [wpT] at w⟩ (fun _ _ _ _ => by simp)
      · cases h
    · split at h
      · rename_i a k j p2 ps hk
        simp only [Option.map_eq_some_iff] at h
        obtain ⟨pa, ha, rfl⟩ := h
        have e : k = ((k.toNat : Nat) : Int) := by omega
        have z := ex_idxc (n := k.toNat) (j := j) (p2 := p2) (pos := ps) (ihE _ _ ha)
        rw [← e] at z
        exact no ⟨z, tx_val z (fun _ => rfl) fun ρ S Q E => by simp only [wpT, wpE]⟩ (fun _ _ _ _ => by simp)
      · cases h
    · split at h
      · rename_i hs
        simp only [Option.bind_eq_some_iff, Option.map_eq_some_iff] at h
        obtain ⟨pa, ha, pb, hb, rfl⟩ := h
        have z := ex_idx (pos := by assumption) c.units (ihE _ _ ha) (ihE _ _ hb) (plain_ok hs)
        exact no ⟨z, tx_val z (fun _ => rfl) fun ρ S Q E => by simp only [wpT, wpE]⟩ (fun _ _ _ _ => by simp)
      · cases h
    · exact no (cCall_ok c ihE h) (fun _ _ _ _ => by simp)
    · split at h
      · rename_i hh
        simp only [Bool.and_eq_true] at hh
        simp only [Option.bind_eq_some_iff, Option.map_eq_some_iff] at h
        obtain ⟨mt, hmt, po, hpo, ps, hps, rfl⟩ := h
        exact no ⟨ex_meth (mtOf_ok hmt).2 (mtOf_ok hmt).1 (ihE _ _ hpo) (cL_ok ihE hps).1 hh.2 rfl hh.1, tx_never fun ρ S Q E w => by simp only [wpT] at w⟩ (fun _ _ _ _ => by simp)
      · cases h
    · rename_i elt tg iter ifs scope ps
      split at h
      · rename_i hh
        simp only [Bool.and_eq_true] at hh
        simp only [Option.bind_eq_some_iff] at h
        obtain ⟨it, hit, t, ht, h⟩ := h
        split at h
        · rename_i hsub
          simp only [Option.bind_eq_some_iff, Option.map_eq_some_iff] at h
          obtain ⟨pif, hpif, pe, hpe, rfl⟩ := h
          have ok0 := blkOk_by hh.2
          rw [← c.hN] at ok0
          have ok : BlkOk X.N X.env.scope _ _ := ⟨ok0.kind, ok0.uniq, ok0.ix, fun y hy e => (ok0.free y hy e).elim (fun z => .inl (c.sc.ce _ z)) fun z => (c.sc.fr _ z).elim .inr .inl, ok0.own⟩
          obtain ⟨ix, hfs⟩ := cI_ok c ihE hit
          rw [← c.hN] at ht hpif hpe
          rw [← c.hN] at hsub ⊢
          have fin : LcP X G W Φ elt [⟨tg, iter, ifs, 0⟩] scope (.lc ((ownOf X.N scope).map (·.2)) t it pif pe) → EX X G W Φ (.ListComp elt [⟨tg, iter, ifs, 0⟩] scope ps) (.lc ((ownOf X.N scope).map (·.2)) t it pif pe) ∧ TX X G W Φ (.ListComp elt [⟨tg, iter, ifs, 0⟩] scope ps) (.lc ((ownOf X.N scope).map (·.2)) t it pif pe) ∧ ∀ elt' gens sc ps', Expr.ListComp elt [⟨tg, iter, ifs, 0⟩] scope ps = .ListComp elt' gens sc ps' → LcP X G W Φ elt' gens sc (.lc ((ownOf X.N scope).map (·.2)) t it pif pe) :=
            fun z => ⟨z.ex c.nodup, tx_never fun ρ S Q E w => by simp only [wpT] at w, fun elt gens sc ps e => by cases e; exact z⟩
          refine fin (lcP_of (c.calm hh.1) c.nodup ok ix (fun i hi => ?_) (fun s H D cl fp => ?_) (fun s H D cl fp => ?_) (fun s H D cl fp => ?_) hfs)
          · exact of_decide_eq_true (List.all_eq_true.mp hsub i hi)
          · exact cTg_ok (c.blk ok.kind s H D cl fp) (by rw [← c.hN]; exact ht)
          · exact cIfs_ok (fun e p h => (cE_ok G Φ n _ e p h _ _ (by rw [c.hN]; exact c.blk ok.kind s H D cl fp)).2.1) hpif
          · exact (cE_ok G Φ n _ _ _ hpe _ _ (by rw [c.hN]; exact c.blk ok.kind s H D cl fp)).1
        · cases h
      · cases h
    · cases h
end
end Pv
set_option Elab.async false
set_option linter.all false
set_option maxRecDepth 100000
set_option maxHeartbeats 2000000
/-! Pv9: statements. -/
namespace Pv
open PySem PySem.Spec PyProof.Rows L2

structure DOk (K : PySem.W.Frag) (m : List Addr) (H : Hp) (D : PD) (DK : Ends) : Prop where
  nx : ∀ m' σ' H' ρ' S', Ext K m H m' H' → RlS K m' H' S' → RlE K m' H' σ' ρ' → D.nx ρ' S' → DK.nx σ' H'
  rt : KE K m H D.rt DK.rt
  bk : ∀ m' σ' H' ρ' S', Ext K m H m' H' → RlS K m' H' S' → RlE K m' H' σ' ρ' → D.bk ρ' S' → DK.bk σ' H'
  ct : ∀ m' σ' H' ρ' S', Ext K m H m' H' → RlS K m' H' S' → RlE K m' H' σ' ρ' → D.ct ρ' S' → DK.ct σ' H'
def KXS (K : PySem.W.Frag) (mg : Str → Option Value) (G : GT) (m : List Addr) (H : Hp) (E : PEX) (W : WX) : Prop :=
  ∀ ex cls d m' σ' H' ρ' S', Ext K m H m' H' → RlS K m' H' S' → RlE K m' H' σ' ρ' → RepX K mg G H' m' ex cls d → E ex ρ' S' → W cls d σ' H'
def RfS (X : Cx) (G : GT) (W : WX) (t : TS) (p : Env → Store → PD → PEX → Prop) : Prop :=
  ∀ m σ H ρ S D E DK, RlS X.K m H S → RlE X.K m H σ ρ → p ρ S D E → DOk X.K m H D DK → KXS X.K X.mg G m H E W → t DK σ H
def tCanS (K : PySem.W.Frag) (mg : Str → Option Value) (G : GT) (W : WX) (p : Env → Store → PD → PEX → Prop) : TS := fun DK σ H =>
  ∃ m ρ S D E, RlS K m H S ∧ RlE K m H σ ρ ∧ p ρ S D E ∧ DOk K m H D DK ∧ KXS K mg G m H E W
def SX (X : Cx) (G : GT) (W : WX) (Φ : Call) (T : Tab) (st : Stmt) (p : IS) : Prop := ∃ t, PS X st t ∧ RfS X G W t (wpS Φ T p)
def SsX (X : Cx) (G : GT) (W : WX) (Φ : Call) (T : Tab) (sts : List Stmt) (p : ISs) : Prop := ∃ t, PSs X sts t ∧ RfS X G W t (wpSs Φ T p)
section
variable {K : PySem.W.Frag} {mg : Str → Option Value} {G : GT} {m m' : List Addr} {H H' : Hp} {D : PD} {DK : Ends} {E : PEX} {W : WX}
theorem DOk.ext (d : DOk K m H D DK) (e : Ext K m H m' H') : DOk K m' H' D DK :=
  ⟨fun m2 σ2 H2 ρ2 S2 e2 => d.nx m2 σ2 H2 ρ2 S2 (e.trans e2), d.rt.ext e, fun m2 σ2 H2 ρ2 S2 e2 => d.bk m2 σ2 H2 ρ2 S2 (e.trans e2), fun m2 σ2 H2 ρ2 S2 e2 => d.ct m2 σ2 H2 ρ2 S2 (e.trans e2)⟩
theorem KXS.ext (k : KXS K mg G m H E W) (e : Ext K m H m' H') : KXS K mg G m' H' E W := fun x c d m2 σ2 H2 ρ2 S2 e2 => k x c d m2 σ2 H2 ρ2 S2 (e.trans e2)
theorem KXS.at (k : KXS K mg G m H E W) {σ : L2.St} {ρ : Env} (re : RlE K m H σ ρ) : KX K mg G m H (fun x S1 => E x ρ S1) (fun c d H' => W c d σ H') :=
  fun x c d m2 H2 S2 e2 r2 rx q => k x c d m2 σ H2 ρ S2 e2 r2 (re.ext e2) rx q
end
section
variable {X : Cx} {G : GT} {W : WX} {Φ : Call} {C : CC} {T : Tab} {e a b tgE : Expr} {p q : IE} {st : Stmt} {sts : List Stmt} {s : IS} {ss : ISs} {pos : Pos}
theorem SX.can (h : SX X G W Φ T st s) : PS X st (tCanS X.K X.mg G W (wpS Φ T s)) := by
  obtain ⟨t, P, R⟩ := h
  exact ⟨fun pins s σ H D I ⟨m, ρ, S, D', E, h1, h2, h3, h4, h5⟩ => P.run pins s σ H D I (R m σ H ρ S D' E D h1 h2 h3 h4 h5)⟩
theorem SsX.can (h : SsX X G W Φ T sts ss) : PSs X sts (tCanS X.K X.mg G W (wpSs Φ T ss)) := by
  obtain ⟨t, P, R⟩ := h
  exact ⟨fun pins s σ H D I ⟨m, ρ, S, D', E, h1, h2, h3, h4, h5⟩ => P.run pins s σ H D I (R m σ H ρ S D' E D h1 h2 h3 h4 h5)⟩
theorem ssx_nil : SsX X G W Φ T [] .nil := ⟨_, pss_nil, fun m σ H ρ S D E DK r re w d kx => d.nx m σ H ρ S Ext.refl r re (by simpa only [wpSs] using w)⟩
theorem ssx_one (h : SX X G W Φ T st s) : SsX X G W Φ T [st] (.cons s .nil) := by
  obtain ⟨t, P, R⟩ := h
  exact ⟨_, pss_one P, fun m σ H ρ S D E DK r re w d kx => R m σ H ρ S D E DK r re (by simpa only [wpSs] using w) d kx⟩
theorem ssx_cons {s2 : IS} {r : ISs} (h : SX X G W Φ T st s) (hr : SsX X G W Φ T sts (.cons s2 r)) : SsX X G W Φ T (st :: sts) (.cons s (.cons s2 r)) := by
  obtain ⟨t, P, R⟩ := h
  obtain ⟨u, P2, R2⟩ := hr
  refine ⟨_, pss_cons P P2, fun m σ H ρ S D E DK r re w d kx => ?_⟩
  simp only [wpSs] at w
  refine R m σ H ρ S _ E _ r re w ⟨fun m' σ' H' ρ' S' e r' re' q => ?_, d.rt, d.bk, d.ct⟩ kx
  exact R2 m' σ' H' ρ' S' D E DK r' re' q (d.ext e) (kx.ext e)
theorem sx_pass : SX X G W Φ T (.Pass pos) .pass := ⟨_, ps_pass, fun m σ H ρ S D E DK r re w d kx => d.nx m σ H ρ S Ext.refl r re (by simpa only [wpS] using w)⟩
theorem sx_brk : SX X G W Φ T (.Break pos) .brk := ⟨_, ps_break, fun m σ H ρ S D E DK r re w d kx => d.bk m σ H ρ S Ext.refl r re (by simpa only [wpS] using w)⟩
theorem sx_cont : SX X G W Φ T (.Continue pos) .cont := ⟨_, ps_continue, fun m σ H ρ S D E DK r re w d kx => d.ct m σ H ρ S Ext.refl r re (by simpa only [wpS] using w)⟩
theorem sx_expr (h : EX X G W Φ e p) (hs : swapsWith e none pos.line X.env = pure false) : SX X G W Φ T (.Expr e pos) (.expr p) := by
  obtain ⟨t, P, R⟩ := h
  refine ⟨_, ps_expr P hs, fun m σ H ρ S D E DK r re w d kx => ?_⟩
  simp only [wpS] at w
  exact R m σ H ρ S _ _ _ r re w (fun m' H' v pv S' e r' _ q => d.nx m' σ H' ρ S' e r' (re.ext e) q) (kx.at re)
theorem sx_ret (h : EX X G W Φ e p) : SX X G W Φ T (.Return (some e) pos) (.ret p) := by
  obtain ⟨t, P, R⟩ := h
  refine ⟨_, ps_ret P, fun m σ H ρ S D E DK r re w d kx => ?_⟩
  simp only [wpS] at w
  exact R m σ H ρ S _ _ _ r re w d.rt (kx.at re)
theorem sx_retN : SX X G W Φ T (.Return none pos) .retN := ⟨_, ps_retN, fun m σ H ρ S D E DK r re w d kx => d.rt.here r .non (by simpa only [wpS] using w)⟩
theorem sx_if {x y : List Stmt} {sx sy : ISs} (h : TX X G W Φ e p) (hx : SsX X G W Φ T x sx) (hy : SsX X G W Φ T y sy) : SX X G W Φ T (.If e x y pos) (.ifs p sx sy) := by
  obtain ⟨t, P, R⟩ := h
  obtain ⟨t1, P1, R1⟩ := hx
  obtain ⟨t2, P2, R2⟩ := hy
  refine ⟨_, ps_if P P1 P2, fun m σ H ρ S D E DK r re w d kx => ?_⟩
  simp only [wpS] at w
  refine R m σ H ρ S _ _ _ r re w (fun m' H' k S' e r' q => ?_) (kx.at re)
  cases k with
  | true => simp only [if_true] at q ⊢; exact R1 m' σ H' ρ S' D E DK r' (re.ext e) q (d.ext e) (kx.ext e)
  | false => simp only [Bool.false_eq_true, if_false] at q ⊢; exact R2 m' σ H' ρ S' D E DK r' (re.ext e) q (d.ext e) (kx.ext e)
/-- a store of a name, of a tuple of names -/
theorem sx_setN {i : Nat} {x : Str} {p1 : Pos} (h : EX X G W Φ e p) (hN : X.N.Nodup) (hi : X.N[i]? = some x) (hx : L2.Loc X.env.scope x) (hf : X.fn x = true ∨ X.env.scope.names.lookup x = some .local) (hs : swapsWith e (some (.Name x p1)) pos.line X.env = pure false) :
    SX X G W Φ T (.Assign [.Name x p1] e pos) (.asg (.nm i) p) := by
  obtain ⟨t, P, R⟩ := h
  refine ⟨_, ps_set hN hi hx P hs hf, fun m σ H ρ S D E DK r re w d kx => ?_⟩
  simp only [wpS, wpG] at w
  exact R m σ H ρ S _ _ _ r re w (fun m' H' v pv S' e r' hv q => d.nx m' _ H' _ S' e r' ((re.ext e).set hv i) q) (kx.at re)
theorem sx_setLc {i : Nat} {x : Str} {p1 p2 : Pos} {elt : Expr} {gens : List Comprehension} {scope : Scope} (h : LcP X G W Φ elt gens scope p) (hN : X.N.Nodup) (hi : X.N[i]? = some x) (hx : X.env.scope.names.lookup x = some .local)
    (hs : swapsWith (.ListComp elt gens scope p2) (some (.Name x p1)) pos.line X.env = pure true) : SX X G W Φ T (.Assign [.Name x p1] (.ListComp elt gens scope p2) pos) (.asg (.nm i) p) := by
  obtain ⟨tg, iter, ifs, wi, g, tt, te, own, rfl, hc, hit, ok, hg, ht, he, hfs, R⟩ := h
  refine ⟨_, ps_setLc hc hN hi hx hs hit ok hg ht he hfs, fun m σ H ρ S D E DK r re w d kx => ?_⟩
  simp only [wpS, wpG] at w
  exact R m σ H ρ S _ _ _ r re w (fun m' H' v pv S' e r' hv q => d.nx m' _ H' _ S' e r' ((re.ext e).set hv i) q) (kx.at re)
theorem sx_setT {is : List Nat} {es : List Expr} {k1 : Nat} {p1 : Pos} (h : EX X G W Φ e p) (hg : GX X (.Tuple es k1 p1) (.tp is)) (hs : swapsWithSole [.Tuple es k1 p1] e pos.line X.env = pure false) (hw : swappedStores [.Tuple es k1 p1] e X.env = pure none) :
    SX X G W Φ T (.Assign [.Tuple es k1 p1] e pos) (.asg (.tp is) p) := by
  obtain ⟨t, P, R⟩ := h
  obtain ⟨g, Pg, Rg⟩ := hg
  refine ⟨_, ps_asg P Pg hs hw rfl, fun m σ H ρ S D E DK r re w d kx => ?_⟩
  simp only [wpS, wpG] at w
  refine R m σ H ρ S _ _ _ r re w (fun m' H' v pv S' e r' hv q => ?_) (kx.at re)
  exact Rg m' σ H' ρ S' v pv _ _ r' (re.ext e) hv q fun σ' ρ' re' _ q' => d.nx m' σ' H' ρ' S' e r' re' q'
theorem sx_par {i j : Nat} {x y : Str} {px py pt pt2 : Pos} {kt k2 : Nat} {ps : IEs} (hc : X.calm = true) (hN : X.N.Nodup) (hi : X.N[i]? = some x) (hj : X.N[j]? = some y) (hij : i ≠ j)
    (hx : X.env.scope.names.lookup x = some .local) (hy : X.env.scope.names.lookup y = some .local) (ha : AX X G W Φ [a, b] ps)
    (hw : swappedStores [.Tuple [.Name x px, .Name y py] kt pt] (.Tuple [a, b] k2 pt2) X.env = pure (some [x, y])) :
    SX X G W Φ T (.Assign [.Tuple [.Name x px, .Name y py] kt pt] (.Tuple [a, b] k2 pt2) pos) (.asg (.tp [i, j]) (.tup ps)) := by
  obtain ⟨t, P, R⟩ := ha
  refine ⟨_, ps_par hc hN hi hj hij hx hy P hw rfl, fun m σ H ρ S D E DK r re w d kx => ?_⟩
  simp only [wpS, wpG, wpE] at w
  refine R m σ H ρ S _ _ _ r re w (fun m' H' vs pvs S' e r' hv q => ?_) (kx.at re)
  obtain ⟨_, hl, q⟩ := q
  match pvs, hv, hl, q with
  | [v, w], hv, _, q =>
    obtain ⟨x, y, rfl, h1, h2⟩ := rep2 hv
    exact ⟨x, y, rfl, d.nx m' _ H' _ S' e r' (((re.ext e).set h1 i).set h2 j) q⟩
  | [], _, hl, _ => cases hl
  | [_], _, hl, _ => cases hl
  | _ :: _ :: _ :: _, _, hl, _ => simp at hl
theorem PSet.or {t t' : TSet} (h : PSet X t) (h' : PSet X t') : PSet X (fun o i v H Q => t o i v H Q ∨ t' o i v H Q) := by
  intro pins s σ H o i v ov iv u Q I ro ri rv q
  rcases q with q | q
  · exact h pins s σ H o i v ov iv u Q I ro ri rv q
  · exact h' pins s σ H o i v ov iv u Q I ro ri rv q
theorem sx_setS {o k : Expr} {po pk : IE} {p1 : Pos} (hu : X.A.units + 64 < cLine) (h : EX X G W Φ e p) (ho : EX X G W Φ o po) (hk : EX X G W Φ k pk) (hs : swapsWithSole [.Subscript o k p1] e pos.line X.env = pure false) (hw : swappedStores [.Subscript o k p1] e X.env = pure none)
    (ha : ∀ v, assign (.Subscript o k p1) X.env v = (do
      let ov ← holding [v] (eval o X.env)
      let iv ← holding [v, ov] (eval k X.env)
      standAt p1
      holding [v, ov, iv] (setItem ov iv v)
      release [v, ov, iv] [])) : SX X G W Φ T (.Assign [.Subscript o k p1] e pos) (.asg (.sub po pk) p) := by
  obtain ⟨t, P, R⟩ := h
  obtain ⟨t1, P1, R1⟩ := ho
  obtain ⟨t2, P2, R2⟩ := hk
  refine ⟨_, ps_asg P (pg_sub P1 P2 (PSet.or set_list (set_dict (by omega))) ha) hs hw rfl, fun m σ H ρ S D E DK r re w d kx => ?_⟩
  simp only [wpS, wpG] at w
  refine R m σ H ρ S _ _ _ r re w (fun m1 H1 v pv S1 e1 r1 hv q1 => ?_) (kx.at re)
  have kx1 : KX X.K X.mg G m1 H1 (fun x S1 => E x ρ S1) (fun c d H' => W c d σ H') := (kx.at re).ext e1
  refine R1 m1 σ H1 ρ S1 _ _ _ r1 (re.ext e1) q1 (fun m2 H2 ov pov S2 e2 r2 hov q2 => ?_) kx1
  refine R2 m2 σ H2 ρ S2 _ _ _ r2 (re.ext (e1.trans e2)) q2 (fun m3 H3 kv pkv S3 e3 r3 hkv q3 => ?_) (kx1.ext e2)
  have hov := RepV.ext e3 _ _ hov
  have hv := RepV.ext (e2.trans e3) _ _ hv
  have e13 := (e1.trans e2).trans e3
  cases hov with
  | @ref l i h1 =>
    obtain ⟨oo, hS, q⟩ := q3
    cases oo with
    | lst us =>
      cases hkv with
      | int n =>
        obtain ⟨j, hj, q⟩ := q
        obtain ⟨l', ys, g1, g2, g3⟩ := r3.at hS
        rw [h1] at g1
        cases g1
        have ep : Ext X.K m3 H3 m3 (upd H3 l (.lst (ys.set j v))) := Ext.put g2
        exact .inl ⟨l, ys, n, j, rfl, rfl, g2, by rw [g3.len]; exact hj, d.nx m3 σ _ ρ _ (e13.trans ep) (r3.put hS h1 g2 (g3.set hv j)) (re.ext (e13.trans ep)) q⟩
      | _ => exact q.elim
    | frz us => exact q.elim
    | dct us =>
      obtain ⟨kk, ek, hz, q⟩ := q
      obtain ⟨l', ys, g1, g2, g3⟩ := r3.dct hS
      rw [h1] at g1
      cases g1
      have ey := rep_key hkv ek
      subst ey
      have ep : Ext X.K m3 H3 m3 (upd H3 l (.dK (putK ys kk v))) := Ext.putO g2 (.inr ⟨_, rfl⟩)
      exact .inr ⟨l, _, rfl, DPut.k g2 (by rw [g3.len]; exact hz), d.nx m3 σ _ ρ _ (e13.trans ep) (r3.putD hS h1 g2 (g3.put hv)) (re.ext (e13.trans ep)) q⟩
  | _ => exact q3.elim
/-- d[k] += e, of ints in a dict -/
def Aop : BOp → Operator := Bop
theorem sx_augD {dE kE : Expr} {pd pk : IE} {op : BOp} {tpos : Pos} (hop : op = .add ∨ op = .sub) (hu : X.A.units + 64 < cLine) (hd : EX X G W Φ dE pd) (hk : EX X G W Φ kE pk) (h : EX X G W Φ e p)
    (ha : ∀ ov iv new, augStore kE ov iv new = (do holding [new, ov, iv] (setItem ov iv new); release [new, ov, iv] []; pure .next)) : SX X G W Φ T (.AugAssign (.Subscript dE kE tpos) (Bop op) e pos) (.augD pd pk op p) := by
  obtain ⟨t, P, R⟩ := h
  obtain ⟨t1, P1, R1⟩ := hd
  obtain ⟨t2, P2, R2⟩ := hk
  have io : ∃ f : Int → Int → Int, InOp X (Bop op) (rI0 fun i j => .int (f i j)) ∧ ∀ v w S Q, augQ op v w S Q → ∃ i j, v = .int i ∧ w = .int j ∧ Q (.int (f i j)) S := by
    rcases hop with rfl | rfl
    · refine ⟨fun i j => i + j, fun pins s σ H x y u v Q I rx ry h => iop_add pins s σ H x y u v Q I rx ry h, fun v w S Q q => ?_⟩
      cases v <;> cases w <;> first | exact ⟨_, _, rfl, rfl, q.2⟩ | exact q.elim
    · refine ⟨fun i j => i - j, fun pins s σ H x y u v Q I rx ry h => iop_sub pins s σ H x y u v Q I rx ry h, fun v w S Q q => ?_⟩
      cases v <;> cases w <;> first | exact ⟨_, _, rfl, rfl, q.2⟩ | exact q.elim
  obtain ⟨f, io, hq⟩ := io
  refine ⟨_, ps_daug (by omega) P1 P2 P io ha, fun m σ H ρ S D E DK r re w d kx => ?_⟩
  simp only [wpS] at w
  refine R1 m σ H ρ S _ _ _ r re w (fun m1 H1 dv pdv S1 e1 r1 hdv q1 => ?_) (kx.at re)
  have kx1 : KX X.K X.mg G m1 H1 (fun x S1 => E x ρ S1) (fun c d H' => W c d σ H') := (kx.at re).ext e1
  refine R2 m1 σ H1 ρ S1 _ _ _ r1 (re.ext e1) q1 (fun m2 H2 kv pkv S2 e2 r2 hkv q2 => ?_) kx1
  have hdv := RepV.ext e2 _ _ hdv
  cases hdv with
  | @ref l i h1 =>
    obtain ⟨us, kk, hS, ek, z, ez, q2⟩ := q2
    obtain ⟨l', ys, g1, g2, g3⟩ := r2.dct hS
    rw [h1] at g1
    cases g1
    have ey := rep_key hkv ek
    subst ey
    rcases g3.get (k := kk) with ⟨z1, z2⟩ | ⟨z', zv, z1, z2, z3⟩
    · rw [z1] at ez; cases ez
    rw [z1] at ez; cases ez
    refine ⟨l, zv, rfl, by rw [← z2]; exact DGet.k g2, ?_⟩
    refine R m2 σ H2 ρ S2 _ _ _ r2 (re.ext (e1.trans e2)) q2 (fun m3 H3 y py S3 e3 r3 hy q3 => ?_) (kx1.ext e2)
    obtain ⟨i1, j1, ep1, ep2, q4⟩ := hq _ _ _ _ q3
    subst ep1 ep2
    have z3 := RepV.ext e3 _ _ z3
    cases z3
    cases hy
    obtain ⟨us3, kk3, hS3, ek3, hz, q5⟩ := q4
    rw [ek] at ek3
    cases ek3
    have h13 := e3.at h1
    obtain ⟨l', ys3, g1, l2, l3⟩ := r3.dct hS3
    rw [h13] at g1
    cases g1
    have ep : Ext X.K m3 H3 m3 (upd H3 l (.dK (putK ys3 kk (.int (f i1 j1))))) := Ext.putO l2 (.inr ⟨_, rfl⟩)
    have e13 := (e1.trans e2).trans e3
    exact ⟨_, _, rfl, rfl, _, DPut.k l2 (by rw [l3.len]; exact hz), d.nx m3 σ _ ρ _ (e13.trans ep) (r3.putD hS3 h13 l2 (l3.put (.int _))) (re.ext (e13.trans ep)) q5⟩
  | _ => exact q2.elim
/-! ### loops -/
theorem sx_while {b : List Stmt} {sb : ISs} (hp : PassesOwn (model X.prog X.w) X.A X.env X.xe) (h : TX X G W Φ e p) (hb : SsX X G W Φ T b sb) : SX X G W Φ T (.While e b [] pos) (.whl p sb) := by
  obtain ⟨t, P, R⟩ := h
  obtain ⟨t1, P1, R1⟩ := hb
  refine ⟨_, ps_while hp P P1, fun m σ H ρ S D E DK r re w d kx => ?_⟩
  simp only [wpS] at w
  obtain ⟨n0, w⟩ := w
  generalize hT : (fun (ρ : Env) (S : Store) (K : Bool → Store → Prop) => wpT Φ p ρ S K fun x S1 => E x ρ S1) = Tt at w
  generalize hB : (fun (ρ : Env) (S : Store) (N : Env → Store → Prop) => wpSs Φ T sb ρ S { D with nx := N, ct := N, bk := D.nx } E) = Bb at w
  refine ⟨fun n σ' H' => ∃ m' ρ' S', Ext X.K m H m' H' ∧ RlS X.K m' H' S' ∧ RlE X.K m' H' σ' ρ' ∧ whileN Tt Bb D.nx n ρ' S', ⟨n0, m, ρ, S, Ext.refl, r, re, w⟩, ?_⟩
  rintro n σ1 H1 ⟨m1, ρ1, S1, e1, r1, re1, w1⟩
  cases n with
  | zero => exact w1.elim
  | succ n =>
    simp only [whileN] at w1
    rw [← hT] at w1
    refine R m1 σ1 H1 ρ1 S1 _ _ _ r1 re1 w1 (fun m2 H2 k S2 e2 r2 q => ?_) ((kx.ext e1).at re1)
    have e12 := e1.trans e2
    cases k with
    | true =>
      simp only [if_true] at q ⊢
      refine ⟨fun σ' H' => ∃ m' ρ' S', Ext X.K m H m' H' ∧ RlS X.K m' H' S' ∧ RlE X.K m' H' σ' ρ' ∧ whileN Tt Bb D.nx n ρ' S', fun σ' H' h => ⟨n, by omega, h⟩, ?_⟩
      rw [← hB] at q
      have nxt : ∀ m' σ' H' ρ' S', Ext X.K m2 H2 m' H' → RlS X.K m' H' S' → RlE X.K m' H' σ' ρ' → whileN Tt Bb D.nx n ρ' S' → ∃ m' ρ' S', Ext X.K m H m' H' ∧ RlS X.K m' H' S' ∧ RlE X.K m' H' σ' ρ' ∧ whileN Tt Bb D.nx n ρ' S' :=
        fun m' σ' H' ρ' S' e' r' re' q' => ⟨m', ρ', S', e12.trans e', r', re', q'⟩
      rw [hB] at q
      rw [← hB] at q
      exact R1 m2 σ1 H2 ρ1 S2 _ E _ r2 (re1.ext e2) q ⟨fun m' σ' H' ρ' S' e' r' re' q' => nxt m' σ' H' ρ' S' e' r' re' (by rw [← hT, ← hB]; exact q'), (d.ext e12).rt, (d.ext e12).nx, fun m' σ' H' ρ' S' e' r' re' q' => nxt m' σ' H' ρ' S' e' r' re' (by rw [← hT, ← hB]; exact q')⟩ (kx.ext e12)
    | false =>
      simp only [Bool.false_eq_true, if_false] at q ⊢
      exact d.nx m2 σ1 H2 ρ1 S2 e12 r2 (re1.ext e2) q
theorem sx_for {tg : Tg} {it : II} {b : List Stmt} {sb : ISs} (hc : X.calm = true) (hp : PassesOwn (model X.prog X.w) X.A X.env X.xe) (hi : IX X G W Φ tgE e it) (hg : GX X tgE tg) (hb : SsX X G W Φ T b sb) (hs : ∀ x, foldedSetIterable e X.env x = pure x) :
    SX X G W Φ T (.For tgE e b [] pos) (.for_ tg it sb) := by
  obtain ⟨wi, P, R⟩ := hi
  obtain ⟨g, Pg, Rg⟩ := hg
  obtain ⟨t1, P1, R1⟩ := hb
  refine ⟨_, ps_for hp hc P Pg P1 hs, fun m σ H ρ S D E DK r re w d kx => ?_⟩
  simp only [wpS] at w
  refine R m σ H ρ S _ _ _ r re w (fun m1 H1 J src items S1 e1 r1 io w1 => ?_) (kx.at re)
  generalize hB : (fun (x : PV) (ρ : Env) (S : Store) (N : Env → Store → Prop) => bindQ tg x ρ fun ρ1 => wpSs Φ T sb ρ1 S { D with nx := N, ct := N, bk := D.nx } E) = Bb at w1
  refine ⟨fun n mm σ' H' => ∃ m' ρ' S', Ext X.K m1 H1 m' H' ∧ RlS X.K m' H' S' ∧ RlE X.K m' H' σ' ρ' ∧ mm = items.length - n ∧ n ≤ items.length ∧ forL src Bb D.nx (items.drop n) ρ' S', ⟨items.length, m1, ρ, S1, Ext.refl, r1, re.ext e1, by simp, Nat.zero_le _, by simpa using w1⟩, ?_⟩
  rintro n mm σ2 H2 ⟨m2, ρ2, S2, e2, r2, re2, rfl, hn, w2⟩
  have io2 := io n m2 H2 S2 e2 r2
  have e12 := e1.trans e2
  by_cases hlt : n < items.length
  · right
    rw [List.drop_eq_getElem_cons hlt] at w2
    simp only [forL] at w2
    obtain ⟨so, w2⟩ := w2
    obtain ⟨go, yld⟩ := (io2 so).2 items[n] (List.getElem?_eq_getElem hlt)
    refine ⟨go, fun σ' H' => ∃ m' ρ' S', Ext X.K m1 H1 m' H' ∧ RlS X.K m' H' S' ∧ RlE X.K m' H' σ' ρ' ∧ forL src Bb D.nx (items.drop (n + 1)) ρ' S', fun σ' H' ⟨m', ρ', S', a, b, c, f⟩ => ⟨items.length - (n + 1), by omega, m', ρ', S', a, b, c, rfl, hlt, f⟩, fun x H3 hy => ?_⟩
    obtain ⟨e3, r3, hx⟩ := yld x H3 hy
    rw [← hB] at w2
    refine Rg m2 σ2 H3 ρ2 S2 x items[n] _ _ r3 (re2.ext e3) hx w2 fun σ' ρ' re' _ q => ?_
    have e23 := e2.trans e3
    have e13 := e1.trans e23
    have nxt : ∀ m' σ' H' ρ' S', Ext X.K m2 H3 m' H' → RlS X.K m' H' S' → RlE X.K m' H' σ' ρ' → forL src Bb D.nx (items.drop (n + 1)) ρ' S' → ∃ m' ρ' S', Ext X.K m1 H1 m' H' ∧ RlS X.K m' H' S' ∧ RlE X.K m' H' σ' ρ' ∧ forL src Bb D.nx (items.drop (n + 1)) ρ' S' :=
      fun m' σ' H' ρ' S' e' r' re' q' => ⟨m', ρ', S', e23.trans e', r', re', q'⟩
    exact R1 m2 σ' H3 ρ' S2 _ E _ r3 re' q ⟨fun m' σ' H' ρ' S' e' r' re' q' => nxt m' σ' H' ρ' S' e' r' re' (by rw [← hB]; exact q'), (d.ext e13).rt, (d.ext e13).nx, fun m' σ' H' ρ' S' e' r' re' q' => nxt m' σ' H' ρ' S' e' r' re' (by rw [← hB]; exact q')⟩ (kx.ext e13)
  · left
    have hn2 : n = items.length := by omega
    subst hn2
    rw [List.drop_length] at w2
    simp only [forL] at w2
    obtain ⟨so, w2⟩ := w2
    exact ⟨(io2 so).1 (Nat.le_refl _), d.nx m2 σ2 H2 ρ2 S2 e12 r2 re2 w2⟩
/-! ### raise -/
theorem sx_raise {x : Str} {c j : Nat} {z : Str} {p0 p1 p2 : Pos} (hc : X.calm = true) (tk : Takes X W) (hG : G.excs[c]? = some (x, none)) (ok : ExcOk X x) (hg : Gl X x) (hdb : (x == ("__debug__" : Str)) = false) :
    SX X G W Φ T (.Raise (some (.Call (.Name x p0) [.Constant (.str z) j p1] [] p2)) none pos) (.raise c) := by
  obtain ⟨A, B, newId, initId, bmB, F, q, gC, kC, rr⟩ := ok
  refine ⟨_, ps_raise hc tk (pmk_own F q gC kC rr hg hdb), fun m σ H ρ S D E DK r re w d kx => ?_⟩
  simp only [wpS] at w
  exact kx ⟨c, none⟩ _ _ m σ H ρ S Ext.refl r re ⟨x, none, hG, gC, .inl ⟨rfl, rfl⟩⟩ w
theorem sx_raiseF {x f : Str} {c : Nat} {p0 p2 : Pos} (hc : X.calm = true) (hr : Room 0 X.A) (tk : Takes X W) (hG : G.excs[c]? = some (x, some f)) (ok : ExcFOk X.K X.mg x f) (hg : Gl X x) (ha : EX X G W Φ a p) (hs : notStar a = true) :
    SX X G W Φ T (.Raise (some (.Call (.Name x p0) [a] [] p2)) none pos) (.raiseF c p) := by
  obtain ⟨A, gC, _, _, mk⟩ := ok
  obtain ⟨t, P, R⟩ := ha
  refine ⟨_, ps_raise hc tk (mk X rfl rfl hr hg a _ p0 p2 (pa_cons P pa_nil (star_cons hs)) hs), fun m σ H ρ S D E DK r re w d kx => ?_⟩
  simp only [wpS] at w
  refine R m σ H ρ S _ _ _ r re w (fun m1 H1 v pv S1 e1 r1 hv q => ?_) (kx.at re)
  refine ⟨v, rfl, fun dd hd => ?_⟩
  have e2 : Ext X.K m1 H1 m1 (upd H1 dd (.xd [(f, v)])) := Ext.new _ hd
  exact kx ⟨c, some pv⟩ _ _ m1 σ _ ρ S1 (e1.trans e2) (r1.new _ hd) (re.ext (e1.trans e2)) ⟨x, some f, hG, gC, .inr ⟨f, pv, dd, v, rfl, rfl, rfl, upd_same, RepV.ext e2 _ _ hv⟩⟩ q
end
end Pv
set_option Elab.async false
set_option linter.all false
set_option maxRecDepth 100000
set_option maxHeartbeats 2000000
/-! Pv10: try; the text's statements. -/
namespace Pv
open PySem PySem.Spec PyProof.Rows L2

section
variable {X : Cx} {G : GT} {W : WX} {Φ : Call} {C : CC} {T : Tab} {e a b tgE : Expr} {p q : IE} {st : Stmt} {sts : List Stmt} {s : IS} {ss : ISs} {pos : Pos}
/-- a step of an except suite; nm: the clause's name and its slot -/
inductive HOk1 (X : Cx) (G : GT) (c : Nat) (nm : Option (Str × Nat)) : Stmt → HS → Prop
  | setF {y n f : Str} {i j : Nat} {x : Str} {p1 p2 p3 p4 : Pos} (h1 : nm = some (n, i)) (h2 : i ≠ j) (h3 : X.N[i]? = some n) (h4 : X.env.scope.names.lookup n = some .local) (h5 : (n == ("__debug__" : Str)) = false) (h6 : (n == ("__classdict__" : Str)) = false) (h7 : G.excs[c]? = some (x, some f))
      (h8 : X.N[j]? = some y) (h9 : L2.Loc X.env.scope y) (h10 : X.fn y = true ∨ X.env.scope.names.lookup y = some .local) : HOk1 X G c nm (.Assign [.Name y p1] (.Attribute (.Name n p2) f p3) p4) (.setF j)
  | setC {y : Str} {k : PySem.Const} {j kk : Nat} {v : PV} {p1 p2 p4 : Pos} (h1 : ∀ n i, nm = some (n, i) → i ≠ j) (h2 : cConst k = some (.cst v)) (h8 : X.N[j]? = some y) (h9 : L2.Loc X.env.scope y) (h10 : X.fn y = true ∨ X.env.scope.names.lookup y = some .local) : HOk1 X G c nm (.Assign [.Name y p1] (.Constant k kk p2) p4) (.setC j v)
  | retF {n f : Str} {i : Nat} {x : Str} {p2 p3 p4 : Pos} (h1 : nm = some (n, i)) (h3 : X.N[i]? = some n) (h4 : X.env.scope.names.lookup n = some .local) (h5 : (n == ("__debug__" : Str)) = false) (h6 : (n == ("__classdict__" : Str)) = false) (h7 : G.excs[c]? = some (x, some f)) : HOk1 X G c nm (.Return (some (.Attribute (.Name n p2) f p3)) p4) .retF
  | retC {k : PySem.Const} {kk : Nat} {v : PV} {p2 p4 : Pos} (h2 : cConst k = some (.cst v)) : HOk1 X G c nm (.Return (some (.Constant k kk p2)) p4) (.retC v)
  | pass {p : Pos} : HOk1 X G c nm (.Pass p) .pass
inductive HsOk (X : Cx) (G : GT) (c : Nat) (nm : Option (Str × Nat)) : List Stmt → List HS → Prop
  | nil : HsOk X G c nm [] []
  | cons {st : Stmt} {sts : List Stmt} {h : HS} {hs : List HS} (h1 : HOk1 X G c nm st h) (h2 : HsOk X G c nm sts hs) : HsOk X G c nm (st :: sts) (h :: hs)
def tSuite (K : PySem.W.Frag) (mg : Str → Option Value) (G : GT) (c : Nat) (nm : Option Nat) (hs : List HS) (a : Addr) (cls : Value) (d : Option Addr) : TS := fun DK σ H =>
  ∃ m ρ S D x, RlS K m H S ∧ RlE K m H σ ρ ∧ (∀ i, nm = some i → i < σ.length → σ[i]? = some (some (.ref a))) ∧ RepX K mg G H m x cls d ∧ wpH c nm x hs ρ S D ∧ DOk K m H D DK
theorem rep_cst {k : PySem.Const} {v : PV} (h : cConst k = some (.cst v)) (Y : Cx) (j : Nat) (ps : Pos) : ∃ x, PE Y (.Constant k j ps) (tC x) ∧ ∀ K H m, RepV K H m x v := by
  cases k <;> simp only [cConst, Option.some.injEq, IE.cst.injEq, reduceCtorEq] at h <;> subst h
  · exact ⟨_, pe_non, fun _ _ _ => .non⟩
  · exact ⟨_, pe_bl, fun _ _ _ => .bl _⟩
  · exact ⟨_, pe_int, fun _ _ _ => .int _⟩
  · exact ⟨_, pe_str, fun _ _ _ => .str _⟩
theorem slot_set {σ : L2.St} {nm : Option Nat} {a : Addr} {j : Nat} {x : Option V} (h : ∀ i, nm = some i → i < σ.length → σ[i]? = some (some (.ref a))) (hj : ∀ i, nm = some i → i ≠ j) :
    ∀ i, nm = some i → i < (σ.set j x).length → (σ.set j x)[i]? = some (some (.ref a)) := fun i hi hl => by
  rw [List.getElem?_set_ne (Ne.symm (hj i hi))]
  exact h i hi (by simpa using hl)
theorem repX_fld {K : PySem.W.Frag} {mg : Str → Option Value} {H : Hp} {m : List Addr} {ex : PEx} {cls : Value} {d : Option Addr} {c : Nat} {x f : Str} {v : PV} (h : RepX K mg G H m ex cls d) (hc : ex.cls = c) (hG : G.excs[c]? = some (x, some f)) (hv : ex.fld = some v) :
    mg x = some cls ∧ ∃ dd w, d = some dd ∧ H dd = some (.xd [(f, w)]) ∧ RepV K H m w v := by
  obtain ⟨y, fo, h1, h2, h3⟩ := h
  rw [hc, hG] at h1
  cases h1
  rcases h3 with ⟨h3, _⟩ | ⟨f', v', dd, w, h3, h4, h5, h6, h7⟩
  · cases h3
  · cases h3
    rw [hv] at h4
    cases h4
    exact ⟨h2, dd, w, h5, h6, h7⟩
theorem suite_ok (hN : X.N.Nodup) (hF : ∀ (c : Nat) (x f : Str), G.excs[c]? = some (x, some f) → ExcFOk X.K X.mg x f) {c : Nat} {nm : Option (Str × Nat)} (ao : Addr) (oe : Obj) (cls : Value) (d : Option Addr) (pn : List (Addr × Obj)) (hz : Zc cls d oe) (hf : ∃ vs, oe.data = .fields vs) :
    ∀ {sts : List Stmt} {hs : List HS}, HsOk X G c nm sts hs → PSs (X.suite ao ((ao, oe) :: pn)) sts (tSuite X.K X.mg G c (nm.map (·.2)) hs ao cls d) := by
  intro sts hs h
  induction h with
  | nil => exact ⟨fun pins s σ H D I ⟨m, ρ, S, D', x, r, re, _, _, w, dk⟩ => pss_nil.run pins s σ H D I (dk.nx m σ H ρ S Ext.refl r re w)⟩
  | @cons st sts hh hs h1 _ P2 =>
    cases h1 with
    | @setF y n f i j x p1 p2 p3 p4 hnm hij hNi hni hd1 hd2 hG hNj hl hfn =>
      obtain ⟨Cx', gC, xf, hno, _⟩ := hF c x f hG
      have P1 : PS (X.suite ao ((ao, oe) :: pn)) (.Assign [.Name y p1] (.Attribute (.Name n p2) f p3) p4) (tAsg (tXf ao cls d Cx' f (tVar i)) (gName j)) :=
        ps_set (X := X.suite ao ((ao, oe) :: pn)) hN hNj hl (pe_xf xf hno hz hf (pe_var (X := X.suite ao ((ao, oe) :: pn)) hNi (.inl hni) hd1 hd2)) rfl hfn
      refine ⟨fun pins s σ H D I ⟨m, ρ, S, D', ex, r0, re, hsl, rx, w, dk⟩ => (pss_cons P1 P2).run pins s σ H D I ?_⟩
      obtain ⟨hc, hlen, v, hv, w⟩ := w
      subst hnm
      obtain ⟨hm, dd, w', ed, eH, hw⟩ := repX_fld rx hc hG hv
      rw [gC] at hm
      cases hm
      refine ⟨_, hsl i rfl (by rw [re.1]; exact hlen), rfl, rfl, dd, _, w', ed, eH, by simp [List.lookup], ?_⟩
      exact ⟨m, _, S, D', ex, r0, re.set hw j, slot_set hsl (fun i' hi' => by cases hi'; exact hij), rx, w, dk⟩
    | @setC y k j kk v p1 p2 p4 hne hk hNj hl hfn =>
      obtain ⟨x, pe, hx⟩ := rep_cst hk (X.suite ao ((ao, oe) :: pn)) kk p2
      have P1 : PS (X.suite ao ((ao, oe) :: pn)) (.Assign [.Name y p1] (.Constant k kk p2) p4) (tAsg (tC x) (gName j)) :=
        ps_set (X := X.suite ao ((ao, oe) :: pn)) hN hNj hl pe rfl hfn
      refine ⟨fun pins s σ H D I ⟨m, ρ, S, D', ex, r0, re, hsl, rx, w, dk⟩ => (pss_cons P1 P2).run pins s σ H D I ?_⟩
      exact ⟨m, _, S, D', ex, r0, re.set (hx _ _ _) j, slot_set hsl (fun i' hi' => by
        cases nm with
        | none => cases hi'
        | some q => cases hi'; exact hne _ _ rfl), rx, w, dk⟩
    | @retF n f i x p2 p3 p4 hnm hNi hni hd1 hd2 hG =>
      obtain ⟨Cx', gC, xf, hno, _⟩ := hF c x f hG
      have P1 : PS (X.suite ao ((ao, oe) :: pn)) (.Return (some (.Attribute (.Name n p2) f p3)) p4) (tRet (tXf ao cls d Cx' f (tVar i))) :=
        ps_ret (X := X.suite ao ((ao, oe) :: pn)) (pe_xf xf hno hz hf (pe_var (X := X.suite ao ((ao, oe) :: pn)) hNi (.inl hni) hd1 hd2))
      refine ⟨fun pins s σ H D I ⟨m, ρ, S, D', ex, r0, re, hsl, rx, w, dk⟩ => (pss_cons P1 P2).run pins s σ H D I ?_⟩
      obtain ⟨hc, hlen, v, hv, w⟩ := w
      subst hnm
      obtain ⟨hm, dd, w', ed, eH, hw⟩ := repX_fld rx hc hG hv
      rw [gC] at hm
      cases hm
      exact ⟨_, hsl i rfl (by rw [re.1]; exact hlen), rfl, rfl, dd, _, w', ed, eH, by simp [List.lookup], dk.rt.here r0 hw w⟩
    | @retC k kk v p2 p4 hk =>
      obtain ⟨x, pe, hx⟩ := rep_cst hk (X.suite ao ((ao, oe) :: pn)) kk p2
      have P1 : PS (X.suite ao ((ao, oe) :: pn)) (.Return (some (.Constant k kk p2)) p4) (tRet (tC x)) := ps_ret pe
      refine ⟨fun pins s σ H D I ⟨m, ρ, S, D', ex, r0, re, hsl, rx, w, dk⟩ => (pss_cons P1 P2).run pins s σ H D I ?_⟩
      exact dk.rt.here r0 (hx _ _ _) w
    | @pass p4 =>
      refine ⟨fun pins s σ H D I ⟨m, ρ, S, D', ex, r0, re, hsl, rx, w, dk⟩ => (pss_cons ps_pass P2).run pins s σ H D I ?_⟩
      exact ⟨m, ρ, S, D', ex, r0, re, hsl, rx, w, dk⟩
theorem RlE.setU {K : PySem.W.Frag} {m : List Addr} {H : Hp} {σ : L2.St} {ρ : Env} (r : RlE K m H σ ρ) (i : Nat) (x : Option V) : RlE K m H (σ.set i x) (ρ.set i none) := by
  refine ⟨by simp [r.1], fun j w e => ?_⟩
  by_cases hj : i = j
  · subst hj
    by_cases hl : i < ρ.length
    · rw [List.getElem?_set_self hl] at e
      cases e
    · rw [List.getElem?_eq_none (by simpa using hl)] at e
      cases e
  · rw [List.getElem?_set_ne hj] at e ⊢
    exact r.2 j w e
theorem sx_tryAs {x n : Str} {c i : Nat} {fo : Option Str} {cv : Value} {body suite : List Stmt} {b₀ : Stmt} {sb : ISs} {hs : List HS} {np pos' : Pos} (ctx : Ctx G C X W Φ) (hG0 : G.tab = T) (hhs : c ∈ G.hs) (hblk : C.blk = false) (hNi : X.N[i]? = some n) (hln : X.env.scope.names.lookup n = some .local)
    (hg : Gl X x) (hdb : (x == ("__debug__" : Str)) = false) (hG : G.excs[c]? = some (x, fo)) (hcv : X.mg x = some cv)
    (hb : ∀ (W' : WX) (pn : List (Addr × Obj)) (xe : Value → Shared → Prop), Takes (X.tr pn xe) W' → PassesOwn (model X.prog X.w) X.A X.env xe → SsX (X.tr pn xe) G W' Φ T body sb)
    (hsu : HsOk X G c (some (n, i)) (b₀ :: suite) hs) : SX X G W Φ T (.Try body [.ExceptHandler (some (.Name x np)) (some n) (b₀ :: suite) pos'] [] [] pos) (.tryE sb c (some i) hs) := by
  obtain ⟨f1, f2⟩ := ctx.frame hblk
  refine ⟨_, ps_try_as (c := cv) (i := i) (tb := fun W' => tCanS X.K X.mg G W' (wpSs Φ T sb)) (ts := tSuite X.K X.mg G c (some i) hs) f1 f2 ctx.nodup hNi hln ⟨hg, hdb, .inl hcv⟩ ctx.tk (fun W' pn xe tk ps => (hb W' pn xe tk ps).can)
    (fun a oe cls d pn hz hf => suite_ok ctx.nodup ctx.excF a oe cls d pn hz hf hsu), fun m σ H ρ S D E DK r re w d kx => ?_⟩
  simp only [wpS] at w
  refine ⟨m, ρ, S, D, _, r, re, w, d, fun ex cls dd m' σ' H' ρ' S' e r' re' rx q => ?_⟩
  obtain ⟨y, fo', h1, h2, _⟩ := id rx
  have cat := ctx.cat c ex.cls x y fo fo' cv cls hhs hG h1 hcv h2
  rw [hG0] at cat
  dsimp only at q
  refine ⟨_, cat, fun hbt ao hao => ?_, fun hbf => ?_⟩
  · rw [if_pos hbt] at q
    refine ⟨m', ρ'.set i none, S', _, ex, r', re'.setU i _, fun j hj hl => ?_, rx, q, ⟨fun m2 σ2 H2 ρ2 S2 e2 r2 re2 q2 => d.nx m2 _ H2 _ S2 (e.trans e2) r2 (re2.unset i) q2, (d.ext e).rt, fun m2 σ2 H2 ρ2 S2 e2 r2 re2 q2 => d.bk m2 _ H2 _ S2 (e.trans e2) r2 (re2.unset i) q2, fun m2 σ2 H2 ρ2 S2 e2 r2 re2 q2 => d.ct m2 _ H2 _ S2 (e.trans e2) r2 (re2.unset i) q2⟩⟩
    cases hj
    exact List.getElem?_set_self (by simpa using hl)
  · rw [if_neg (by rw [hbf]; exact Bool.false_ne_true)] at q
    exact kx ex cls dd m' σ' H' ρ' S' e r' re' rx q
theorem sx_tryOnly {x : Str} {c : Nat} {fo : Option Str} {cv : Value} {body suite : List Stmt} {b₀ : Stmt} {sb : ISs} {hs : List HS} {np pos' : Pos} (ctx : Ctx G C X W Φ) (hG0 : G.tab = T) (hhs : c ∈ G.hs) (hblk : C.blk = false)
    (hg : Gl X x) (hdb : (x == ("__debug__" : Str)) = false) (hG : G.excs[c]? = some (x, fo)) (hcv : X.mg x = some cv)
    (hb : ∀ (W' : WX) (pn : List (Addr × Obj)) (xe : Value → Shared → Prop), Takes (X.tr pn xe) W' → PassesOwn (model X.prog X.w) X.A X.env xe → SsX (X.tr pn xe) G W' Φ T body sb)
    (hsu : HsOk X G c none (b₀ :: suite) hs) : SX X G W Φ T (.Try body [.ExceptHandler (some (.Name x np)) none (b₀ :: suite) pos'] [] [] pos) (.tryE sb c none hs) := by
  obtain ⟨f1, f2⟩ := ctx.frame hblk
  refine ⟨_, ps_try_only (c := cv) (tb := fun W' => tCanS X.K X.mg G W' (wpSs Φ T sb)) (ts := tSuite X.K X.mg G c none hs) f1 f2 ⟨hg, hdb, .inl hcv⟩ ctx.tk (fun W' pn xe tk ps => (hb W' pn xe tk ps).can)
    (fun a oe cls d pn hz hf => suite_ok (nm := none) ctx.nodup ctx.excF a oe cls d pn hz hf hsu), fun m σ H ρ S D E DK r re w d kx => ?_⟩
  simp only [wpS] at w
  refine ⟨m, ρ, S, D, _, r, re, w, d, fun ex cls dd m' σ' H' ρ' S' e r' re' rx q => ?_⟩
  obtain ⟨y, fo', h1, h2, _⟩ := id rx
  have cat := ctx.cat c ex.cls x y fo fo' cv cls hhs hG h1 hcv h2
  rw [hG0] at cat
  dsimp only at q
  refine ⟨_, cat, fun hbt ao hao => ?_, fun hbf => ?_⟩
  · rw [if_pos hbt] at q
    exact ⟨m', ρ', S', _, ex, r', re', (fun j hj => by cases hj), rx, q, ⟨fun m2 σ2 H2 ρ2 S2 e2 r2 re2 q2 => d.nx m2 _ H2 _ S2 (e.trans e2) r2 re2 q2, (d.ext e).rt, fun m2 σ2 H2 ρ2 S2 e2 r2 re2 q2 => d.bk m2 _ H2 _ S2 (e.trans e2) r2 re2 q2, fun m2 σ2 H2 ρ2 S2 e2 r2 re2 q2 => d.ct m2 _ H2 _ S2 (e.trans e2) r2 re2 q2⟩⟩
  · rw [if_neg (by rw [hbf]; exact Bool.false_ne_true)] at q
    exact kx ex cls dd m' σ' H' ρ' S' e r' re' rx q
end
end Pv
set_option Elab.async false
set_option linter.all false
set_option maxRecDepth 100000
set_option maxHeartbeats 2000000
/-! Pv11: from the text's statements to the small language. -/
namespace Pv
open PySem PySem.Spec PyProof.Rows L2

def noCompB : Expr → Bool
  | .ListComp .. | .SetComp .. | .DictComp .. => false
  | _ => true
def isLC : Expr → Bool
  | .ListComp .. => true
  | _ => false
def slotOf (C : CC) (x : Str) : Option Nat := if locB C x then (ixS C.N x).bind fun i => if slotB C x i then some i else none else none
/-- a, b = x, y: stored from the right -/
def parB (C : CC) (x y : Str) (px py : Pos) (a b : Expr) : Bool :=
  decide (C.sc.names.lookup x = some .local) && decide (C.sc.names.lookup y = some .local) && (px.line == py.line) && decide (x ≠ y) && notStar a && notStar b && !([a, b].all (foldedForSure 8)) && !([a, b].all (constantsAlone 8))
def exIx (G : GT) (x : Str) : Option Nat := G.excs.findIdx? (fun p => p.1 == x)
def exAt (G : GT) (c : Nat) (x : Str) (fo : Option Str) : Bool := decide (G.excs[c]? = some (x, fo))
def strB : Expr → Bool
  | .Constant (.str _) _ _ => true
  | _ => false
def cRaise (G : GT) (C : CC) (f : Expr → Option IE) (x : Str) (a : Expr) : Option IS :=
  if C.calm && glbB C.sc x && !(x == ("__debug__" : Str)) && notStar a then
    (exIx G x).bind fun c => match G.excs[c]? with
      | some (y, none) => if y = x ∧ strB a = true then some (.raise c) else none
      | some (y, some _) => if y = x then (f a).map fun p => .raiseF c p else none
      | none => none
  else none
def nmNe (nm : Option (Str × Nat)) (j : Nat) : Bool := match nm with
  | some (_, i) => decide (i ≠ j)
  | none => true
def nmIs (C : CC) (nm : Option (Str × Nat)) (n : Str) : Bool := match nm with
  | some (m, i) => decide (m = n) && slotB C n i && decide (C.sc.names.lookup n = some .local) && !(n == ("__debug__" : Str)) && !(n == ("__classdict__" : Str))
  | none => false
def fldB (G : GT) (c : Nat) (f : Str) : Bool := match G.excs[c]? with
  | some (_, some g) => decide (g = f)
  | _ => false
def cstV (k : PySem.Const) : Option PV := match cConst k with
  | some (.cst v) => some v
  | _ => none
def cH1F (G : GT) (C : CC) (c : Nat) (nm : Option (Str × Nat)) (y : Option Str) (e : Expr) : Option HS := match e with
  | .Attribute o f _ => match o with
    | .Name n _ => if nmIs C nm n && fldB G c f then match y with
      | some y => (slotOf C y).bind fun j => if nmNe nm j then some (.setF j) else none
      | none => some .retF
      else none
    | _ => none
  | .Constant k _ _ => (cstV k).bind fun v => match y with
      | some y => (slotOf C y).bind fun j => if nmNe nm j then some (.setC j v) else none
      | none => some (.retC v)
  | _ => none
def cH1 (G : GT) (C : CC) (c : Nat) (nm : Option (Str × Nat)) (st : Stmt) : Option HS := match st with
  | .Assign ts e _ => match ts with
    | [t] => match t with
      | .Name y _ => cH1F G C c nm (some y) e
      | _ => none
    | _ => none
  | .Return (some e) _ => cH1F G C c nm none e
  | .Pass _ => some .pass
  | _ => none
def cH (G : GT) (C : CC) (c : Nat) (nm : Option (Str × Nat)) : List Stmt → Option (List HS)
  | [] => some []
  | st :: r => (cH1 G C c nm st).bind fun h => (cH G C c nm r).map fun hs => h :: hs
def cB (f : Stmt → Option IS) : List Stmt → Option ISs
  | [] => some .nil
  | s :: r => (f s).bind fun p => (cB f r).map fun ps => .cons p ps
def cAsg (G : GT) (C : CC) (f : Expr → Option IE) (t e : Expr) : Option IS :=
  match t, e with
  | .Name x _, e => if noCompB e || isLC e then (slotOf C x).bind fun i => (f e).map fun p => .asg (.nm i) p else none
  | .Tuple [.Name x px, .Name y py] _ _, .Tuple [a, b] _ _ =>
    if C.calm && parB C x y px py a b then (slotOf C x).bind fun i => (slotOf C y).bind fun j => (cL f [a, b]).map fun ps => .asg (.tp [i, j]) (.tup ps) else none
  | .Tuple es k p, e => if isTup e then none else match cTg C (.Tuple es k p) with
    | some (.tp is) => (f e).map fun p => .asg (.tp is) p
    | _ => none
  | .Subscript o k _, e => if plainB k then (f e).bind fun p => (f o).bind fun po => (f k).map fun pk => .asg (.sub po pk) p else none
  | _, _ => none
def cAug : Operator → Option BOp
  | .Add => some .add | .Sub => some .sub
  | _ => none
theorem cAug_ok {op : Operator} {o : BOp} (h : cAug op = some o) : op = Bop o ∧ (o = .add ∨ o = .sub) := by
  cases op <;> simp [cAug] at h <;> subst h
  · exact ⟨rfl, .inl rfl⟩
  · exact ⟨rfl, .inr rfl⟩
def cS (G : GT) : Nat → CC → Stmt → Option IS
  | 0, _, _ => none
  | n + 1, C, st => match st with
    | .Pass _ => some .pass
    | .Break _ => some .brk
    | .Continue _ => some .cont
    | .Expr e _ => if noCompB e then (cE G n C e).map .expr else none
    | .Return (some e) _ => (cE G n C e).map .ret
    | .Return none _ => some .retN
    | .If t a b _ => (cE G n C t).bind fun p => (cB (cS G n C) a).bind fun x => (cB (cS G n C) b).map fun y => .ifs p x y
    | .While t b [] _ => (cE G n C t).bind fun p => (cB (cS G n C) b).map fun x => .whl p x
    | .For tg it b [] _ => if C.calm then (cI C (cE G n C) tg it).bind fun i => (cTg C tg).bind fun t => (cB (cS G n C) b).map fun x => .for_ t i x else none
    | .Assign [t] e _ => cAsg G C (cE G n C) t e
    | .AugAssign (.Subscript d k _) op e _ => if plainB k then (cAug op).bind fun o => (cE G n C d).bind fun pd => (cE G n C k).bind fun pk => (cE G n C e).map fun p => .augD pd pk o p else none
    | .Raise (some (.Call (.Name x _) [a] [] _)) none _ => cRaise G C (cE G n C) x a
    | .Try body [.ExceptHandler (some (.Name x _)) none (b₀ :: suite) _] [] [] _ =>
      if !C.blk && glbB C.sc x && !(x == ("__debug__" : Str)) then
        (exIx G x).bind fun c => if (match G.excs[c]? with | some (y, _) => decide (y = x ∧ c ∈ G.hs) | none => false) then
          (cB (cS G n C) body).bind fun sb => (cH G C c none (b₀ :: suite)).map fun hs => .tryE sb c none hs else none
      else none
    | .Try body [.ExceptHandler (some (.Name x _)) (some nm) (b₀ :: suite) _] [] [] _ =>
      if !C.blk && glbB C.sc x && !(x == ("__debug__" : Str)) && decide (C.sc.names.lookup nm = some .local) then
        (exIx G x).bind fun c => if (match G.excs[c]? with | some (y, _) => decide (y = x ∧ c ∈ G.hs) | none => false) then
          (slotOf C nm).bind fun i => (cB (cS G n C) body).bind fun sb => (cH G C c (some (nm, i)) (b₀ :: suite)).map fun hs => .tryE sb c (some i) hs else none
      else none
    | _ => none

section
variable {X : Cx} {G : GT} {W : WX} {Φ : Call} {C : CC} {T : Tab} {e a b tgE : Expr} {p q : IE} {st : Stmt} {sts : List Stmt} {s : IS} {ss : ISs} {pos : Pos} {x y : Str} {i j : Nat}
theorem slotOf_ok (c : Ctx G C X W Φ) (h : slotOf C x = some i) : X.N[i]? = some x ∧ L2.Loc X.env.scope x ∧ (X.fn x = true ∨ X.env.scope.names.lookup x = some .local) := by
  unfold slotOf at h
  split at h
  · rename_i hl
    simp only [Option.bind_eq_some_iff] at h
    obtain ⟨k, _, h⟩ := h
    split at h
    · rename_i hs
      cases h
      exact ⟨c.slot hs, c.loc hl⟩
    · cases h
  · cases h
theorem swaps_none (h : noCompB e = true) {t : Option Expr} {l : Nat} {env : PySem.Env} : swapsWith e t l env = pure false := by cases e <;> first | rfl | cases h
theorem sole_tup {es : List Expr} {k l : Nat} {p1 : Pos} {env : PySem.Env} : swapsWithSole [.Tuple es k p1] e l env = pure false := by cases e <;> rfl
theorem sole_sub {o k : Expr} {l : Nat} {p1 : Pos} {env : PySem.Env} : swapsWithSole [.Subscript o k p1] e l env = pure false := by cases e <;> rfl
theorem stores_tup {es : List Expr} {k : Nat} {p1 : Pos} {env : PySem.Env} (h : isTup e = false) : swappedStores [.Tuple es k p1] e env = pure none := by cases e <;> first | rfl | cases h
theorem stores_sub {o k : Expr} {p1 : Pos} {env : PySem.Env} : swappedStores [.Subscript o k p1] e env = pure none := by cases e <;> rfl
theorem lc_swap (c : Ctx G C X W Φ) {elt : Expr} {gens : List Comprehension} {scope : Scope} {p1 p2 : Pos} {l : Nat} (hx : L2.Loc X.env.scope x) :
    (swapsWith (.ListComp elt gens scope p2) (some (.Name x p1)) l X.env = pure true ∧ X.env.scope.names.lookup x = some .local) ∨ swapsWith (.ListComp elt gens scope p2) (some (.Name x p1)) l X.env = pure false := by
  have hb : X.env.blockKind = .function := by unfold Env.blockKind; rw [c.kind]; rfl
  unfold swapsWith
  simp only [hb]
  have e : X.env.kindOf x = X.env.scope.names.lookup x := rfl
  rcases hx with hx | hx
  · rw [e, hx]
    cases hq : (p1.line == (Expr.ListComp elt gens scope p2).pos.line && !(scope.names.any fun (n, k) => n == x && (k == .local || k == .cell))) with
    | true =>
      left
      simp only [Bool.and_eq_true] at hq
      refine ⟨?_, rfl⟩
      simp only [Expr.pos] at hq ⊢
      simp [hq.1, hq.2]
    | false =>
      right
      simp only [Expr.pos] at hq ⊢
      simp only [beq_self_eq_true, Bool.true_and, hq]
  · right
    rw [e, hx]
    rfl
theorem ns1 (h : notStar e = true) : swappedStores.match_5 (fun _ => Bool) e (fun _ _ => true) (fun _ => false) = false := by cases e <;> first | rfl | cases h
theorem par_ok (c : Ctx G C X W Φ) {px py pt pt2 : Pos} {kt k2 : Nat} (h : parB C x y px py a b = true) : swappedStores [.Tuple [.Name x px, .Name y py] kt pt] (.Tuple [a, b] k2 pt2) X.env = pure (some [x, y]) ∧
    X.env.scope.names.lookup x = some .local ∧ X.env.scope.names.lookup y = some .local ∧ x ≠ y ∧ [a, b].all notStar = true := by
  unfold parB at h
  simp only [Bool.and_eq_true, decide_eq_true_eq, Bool.not_eq_true'] at h
  obtain ⟨⟨⟨⟨⟨⟨⟨h1, h2⟩, h3⟩, h4⟩, h5⟩, h6⟩, h7⟩, h8⟩ := h
  have hb : X.env.blockKind = .function := by unfold Env.blockKind; rw [c.kind]; rfl
  have k1 := c.sc.lo x h1
  have k2' := c.sc.lo y h2
  have e1 : X.env.kindOf x = some .local := k1
  have e2 : X.env.kindOf y = some .local := k2'
  refine ⟨?_, k1, k2', h4, by simp [h5, h6]⟩
  have l2 : (py.line == px.line) = true := by rw [beq_iff_eq] at h3 ⊢; exact h3.symm
  have hyx : (y == x) = false := by simpa using fun z => h4 z.symm
  unfold swappedStores
  simp only [List.length_cons, List.length_nil, hb, h7, h8, List.any_cons, List.any_nil, ns1 h5, ns1 h6, List.filterMap_cons, List.filterMap_nil, List.head?_cons, Option.map_some, Option.getD_some, e1, e2, Expr.pos, l2, beq_self_eq_true, Bool.and_self, if_true, List.eraseDups_cons, List.filter_cons, List.filter_nil, hyx]
  rfl
theorem cstV_ok {k : PySem.Const} {v : PV} (h : cstV k = some v) : cConst k = some (.cst v) := by
  unfold cstV at h
  split at h
  · rename_i q; cases h; exact q
  · cases h
theorem fldB_ok {c : Nat} {f : Str} (h : fldB G c f = true) : ∃ x, G.excs[c]? = some (x, some f) := by
  unfold fldB at h
  split at h
  · rename_i q
    cases of_decide_eq_true h
    exact ⟨_, q⟩
  · cases h
theorem nmIs_ok (c : Ctx G C X W Φ) {nm : Option (Str × Nat)} {n : Str} (h : nmIs C nm n = true) : ∃ i, nm = some (n, i) ∧ X.N[i]? = some n ∧ X.env.scope.names.lookup n = some .local ∧ (n == ("__debug__" : Str)) = false ∧ (n == ("__classdict__" : Str)) = false := by
  unfold nmIs at h
  split at h
  · rename_i m i
    simp only [Bool.and_eq_true, decide_eq_true_eq, Bool.not_eq_true'] at h
    obtain ⟨⟨⟨⟨rfl, h1⟩, h2⟩, h3⟩, h4⟩ := h
    exact ⟨i, rfl, c.slot h1, c.sc.lo _ h2, h3, h4⟩
  · cases h
theorem nmNe_ok {nm : Option (Str × Nat)} {j : Nat} (h : nmNe nm j = true) : ∀ n i, nm = some (n, i) → i ≠ j := fun n i e => by
  subst e
  exact of_decide_eq_true h
theorem cH1_ok (c : Ctx G C X W Φ) {k : Nat} {nm : Option (Str × Nat)} {h : HS} (hh : cH1 G C k nm st = some h) : HOk1 X G k nm st h := by
  cases st with
  | Assign ts e ps =>
    match ts with
    | [] => cases hh
    | _ :: _ :: _ => cases hh
    | [t] =>
      cases t with
      | Name y p1 =>
        cases e with
        | Attribute o f p3 =>
          cases o with
          | Name n p2 =>
            simp only [cH1, cH1F] at hh
            split at hh
            · rename_i hq
              rw [Bool.and_eq_true] at hq
              simp only [Option.bind_eq_some_iff] at hh
              obtain ⟨j, hj, hh⟩ := hh
              split at hh
              · rename_i hn
                cases hh
                obtain ⟨i, g1, g2, g3, g4, g5⟩ := nmIs_ok c hq.1
                obtain ⟨x, hx⟩ := fldB_ok hq.2
                obtain ⟨s1, s2, s3⟩ := slotOf_ok c hj
                exact .setF g1 (nmNe_ok hn _ _ g1) g2 g3 g4 g5 hx s1 s2 s3
              · cases hh
            · cases hh
          | _ => simp [cH1, cH1F] at hh
        | Constant kk jj p2 =>
          simp only [cH1, cH1F, Option.bind_eq_some_iff] at hh
          obtain ⟨v, hv, j, hj, hh⟩ := hh
          split at hh
          · rename_i hn
            cases hh
            obtain ⟨s1, s2, s3⟩ := slotOf_ok c hj
            exact .setC (nmNe_ok hn) (cstV_ok hv) s1 s2 s3
          · cases hh
        | _ => simp [cH1, cH1F] at hh
      | _ => simp [cH1] at hh
  | Return o ps =>
    cases o with
    | none => simp [cH1] at hh
    | some e =>
      cases e with
      | Attribute o f p3 =>
        cases o with
        | Name n p2 =>
          simp only [cH1, cH1F] at hh
          split at hh
          · rename_i hq
            rw [Bool.and_eq_true] at hq
            cases hh
            obtain ⟨i, g1, g2, g3, g4, g5⟩ := nmIs_ok c hq.1
            obtain ⟨x, hx⟩ := fldB_ok hq.2
            exact .retF g1 g2 g3 g4 g5 hx
          · cases hh
        | _ => simp [cH1, cH1F] at hh
      | Constant kk jj p2 =>
        simp only [cH1, cH1F, Option.bind_eq_some_iff] at hh
        obtain ⟨v, hv, hh⟩ := hh
        cases hh
        exact .retC (cstV_ok hv)
      | _ => simp [cH1, cH1F] at hh
  | Pass ps => cases hh; exact .pass
  | _ => simp [cH1] at hh
theorem cH_ok (c : Ctx G C X W Φ) {k : Nat} {nm : Option (Str × Nat)} : ∀ {sts : List Stmt} {hs : List HS}, cH G C k nm sts = some hs → HsOk X G k nm sts hs
  | [], _, h => by cases h; exact .nil
  | st :: r, _, h => by
    simp only [cH, Option.bind_eq_some_iff, Option.map_eq_some_iff] at h
    obtain ⟨h1, g1, hs, g2, rfl⟩ := h
    exact .cons (cH1_ok c g1) (cH_ok c g2)
theorem cB_ok {f : Stmt → Option IS} (hf : ∀ st p, f st = some p → SX X G W Φ T st p) : ∀ {sts : List Stmt} {ss : ISs}, cB f sts = some ss → SsX X G W Φ T sts ss
  | [], _, h => by cases h; exact ssx_nil
  | [st], _, h => by
    simp only [cB, Option.bind_eq_some_iff, Option.map_eq_some_iff] at h
    obtain ⟨p, hp, ps, hps, rfl⟩ := h
    cases hps
    exact ssx_one (hf st p hp)
  | st :: st2 :: r, _, h => by
    rw [cB] at h
    simp only [Option.bind_eq_some_iff, Option.map_eq_some_iff] at h
    obtain ⟨p, hp, ps, hps, rfl⟩ := h
    have h2 := cB_ok hf hps
    rw [cB] at hps
    simp only [Option.bind_eq_some_iff, Option.map_eq_some_iff] at hps
    obtain ⟨p2, _, ps2, _, rfl⟩ := hps
    exact ssx_cons (hf st p hp) h2
theorem cRaise_ok (c : Ctx G C X W Φ) {f : Expr → Option IE} (hf : ∀ e p, f e = some p → EX X G W Φ e p) {p0 p2 : Pos} (h : cRaise G C f x a = some s) : SX X G W Φ T (.Raise (some (.Call (.Name x p0) [a] [] p2)) none pos) s := by
  unfold cRaise at h
  split at h
  · rename_i hq
    simp only [Bool.and_eq_true, Bool.not_eq_true'] at hq
    obtain ⟨⟨⟨h1, h2⟩, h3⟩, h4⟩ := hq
    simp only [Option.bind_eq_some_iff] at h
    obtain ⟨k, _, h⟩ := h
    split at h
    · rename_i y hy
      split at h
      · rename_i hh
        obtain ⟨rfl, hs⟩ := hh
        cases h
        cases a with
        | Constant kk jj p1 =>
          cases kk with
          | str z => exact sx_raise (c.calm h1) c.tk hy (c.exc _ _ hy) (c.gl h2) h3
          | _ => cases hs
        | _ => cases hs
      · cases h
    · rename_i y g hy
      split at h
      · rename_i hh
        subst hh
        simp only [Option.map_eq_some_iff] at h
        obtain ⟨p, hp, rfl⟩ := h
        exact sx_raiseF (c.calm h1) (c.room h1) c.tk hy (c.excF _ _ _ hy) (c.gl h2) (hf _ _ hp) h4
      · cases h
    · cases h
  · cases h
theorem cAsg_ok (c : Ctx G C X W Φ) {f : Expr → Option IE} (hf : ∀ e p, f e = some p → EX X G W Φ e p) (hlc : ∀ elt gens scope ps p, f (.ListComp elt gens scope ps) = some p → LcP X G W Φ elt gens scope p) {t : Expr} (h : cAsg G C f t e = some s) : SX X G W Φ T (.Assign [t] e pos) s := by
  unfold cAsg at h
  split at h
  · rename_i x p1
    split at h
    · rename_i hq
      simp only [Option.bind_eq_some_iff, Option.map_eq_some_iff] at h
      obtain ⟨i, hi, p, hp, rfl⟩ := h
      obtain ⟨s1, s2, s3⟩ := slotOf_ok c hi
      by_cases hn : noCompB e = true
      · exact sx_setN (hf _ _ hp) c.nodup s1 s2 s3 (swaps_none hn)
      · cases e with
        | ListComp elt gens scope p2 =>
          rcases lc_swap c (elt := elt) (gens := gens) (scope := scope) (p1 := p1) (p2 := p2) (l := pos.line) s2 with ⟨k1, k2⟩ | k1
          · exact sx_setLc (hlc _ _ _ _ _ hp) c.nodup s1 k2 k1
          · exact sx_setN (hf _ _ hp) c.nodup s1 s2 s3 k1
        | SetComp _ _ _ _ => simp [noCompB, isLC] at hq
        | DictComp _ _ _ _ _ => simp [noCompB, isLC] at hq
        | _ => exact absurd rfl hn
    · cases h
  · split at h
    · rename_i hq
      rw [Bool.and_eq_true] at hq
      simp only [Option.bind_eq_some_iff, Option.map_eq_some_iff] at h
      obtain ⟨i, hi, j, hj, ps, hps, rfl⟩ := h
      obtain ⟨g1, g2, g3, g4, g5⟩ := par_ok c hq.2
      obtain ⟨s1, _, _⟩ := slotOf_ok c hi
      obtain ⟨s2, _, _⟩ := slotOf_ok c hj
      refine sx_par (c.calm hq.1) c.nodup s1 s2 (fun z => ?_) g2 g3 (cL_ok hf hps).1 g1
      subst z
      rw [s1] at s2
      exact g4 (Option.some.inj s2)
    · cases h
  · split at h
    · cases h
    · rename_i hq
      split at h
      · rename_i is ht
        simp only [Option.map_eq_some_iff] at h
        obtain ⟨p, hp, rfl⟩ := h
        exact sx_setT (hf _ _ hp) (cTg_ok c ht) sole_tup (stores_tup (by simpa using hq))
      · cases h
  · rename_i o k p1
    split at h
    · rename_i hk
      simp only [Option.bind_eq_some_iff, Option.map_eq_some_iff] at h
      obtain ⟨p, hp, po, hpo, pk, hpk, rfl⟩ := h
      refine sx_setS c.units (hf _ _ hp) (hf _ _ hpo) (hf _ _ hpk) sole_sub stores_sub fun v => ?_
      cases k <;> first | rfl | cases hk
    · cases h
  · cases h
theorem Ctx.tr (c : Ctx G C X W Φ) {W' : WX} {pn : List (Addr × Obj)} {xe : Value → Shared → Prop} (tk : Takes (X.tr pn xe) W') (ps : PassesOwn (model X.prog X.w) X.A X.env xe) : Ctx G C (X.tr pn xe) W' Φ where
  hN := c.hN
  nd := c.nd
  kind := c.kind
  sc := c.sc
  fn := c.fn
  calm := c.calm
  units := c.units
  call := fun h => ⟨(c.call h).ok⟩
  tk := tk
  pass := ps
  blt := c.blt
  room := c.room
  frame := c.frame
  exc := c.exc
  excF := c.excF
  cat := c.cat
  con := c.con
theorem aug_plain {k : Expr} (hk : plainB k = true) : ∀ ov iv new, augStore k ov iv new = (do holding [new, ov, iv] (setItem ov iv new); release [new, ov, iv] []; pure .next) := by
  intro ov iv new
  cases k <;> first | rfl | cases hk
theorem cS_ok (G : GT) (Φ : Call) : ∀ (n : Nat) (C : CC) (st : Stmt) (s : IS), cS G n C st = some s → ∀ (X : Cx) (W : WX), Ctx G C X W Φ → SX X G W Φ G.tab st s
  | 0, _, _, _, h => by cases h
  | n + 1, C, st, s, h => by
    intro X W c
    have ih : ∀ st s, cS G n C st = some s → SX X G W Φ G.tab st s := fun st s h => cS_ok G Φ n C st s h X W c
    have ie : ∀ e p, cE G n C e = some p → EX X G W Φ e p := fun e p h => (cE_ok G Φ n C e p h X W c).1
    have it : ∀ e p, cE G n C e = some p → TX X G W Φ e p := fun e p h => (cE_ok G Φ n C e p h X W c).2.1
    unfold cS at h
    split at h
    · cases h; exact sx_pass
    · cases h; exact sx_brk
    · cases h; exact sx_cont
    · split at h
      · rename_i hn
        simp only [Option.map_eq_some_iff] at h
        obtain ⟨p, hp, rfl⟩ := h
        exact sx_expr (ie _ _ hp) (swaps_none hn)
      · cases h
    · simp only [Option.map_eq_some_iff] at h
      obtain ⟨p, hp, rfl⟩ := h
      exact sx_ret (ie _ _ hp)
    · cases h; exact sx_retN
    · simp only [Option.bind_eq_some_iff, Option.map_eq_some_iff] at h
      obtain ⟨p, hp, x, hx, y, hy, rfl⟩ := h
      exact sx_if (it _ _ hp) (cB_ok ih hx) (cB_ok ih hy)
    · simp only [Option.bind_eq_some_iff, Option.map_eq_some_iff] at h
      obtain ⟨p, hp, x, hx, rfl⟩ := h
      exact sx_while c.pass (it _ _ hp) (cB_ok ih hx)
    · split at h
      · rename_i hc
        simp only [Option.bind_eq_some_iff, Option.map_eq_some_iff] at h
        obtain ⟨i, hi, t, ht, x, hx, rfl⟩ := h
        obtain ⟨ix, hf⟩ := cI_ok c ie hi
        exact sx_for (c.calm hc) c.pass ix (cTg_ok c ht) (cB_ok ih hx) hf
      · cases h
    · exact cAsg_ok c ie (fun elt gens scope ps p hp => (cE_ok G Φ n C _ p hp X W c).2.2 elt gens scope ps rfl) h
    · split at h
      · rename_i hk
        simp only [Option.bind_eq_some_iff, Option.map_eq_some_iff] at h
        obtain ⟨o, ho, pd, hpd, pk, hpk, p, hp, rfl⟩ := h
        obtain ⟨eo, ho2⟩ := cAug_ok ho
        subst eo
        refine sx_augD ho2 c.units (ie _ _ hpd) (ie _ _ hpk) (ie _ _ hp) ?_
        rename_i k _ _ _ _ _
        intro ov iv new
        exact aug_plain hk ov iv new
      · cases h
    · exact cRaise_ok c ie h
    · split at h
      · rename_i hq
        simp only [Bool.and_eq_true, Bool.not_eq_true'] at hq
        simp only [Option.bind_eq_some_iff] at h
        obtain ⟨k, _, h⟩ := h
        split at h
        · rename_i y fo hy
          split at h
          · rename_i hk
            obtain ⟨ek, hkm⟩ := of_decide_eq_true hk
            subst ek
            simp only [Option.bind_eq_some_iff, Option.map_eq_some_iff] at h
            obtain ⟨sb, hsb, hs, hhs, rfl⟩ := h
            have hm : ∃ cv, X.mg y = some cv := by
              cases fo with
              | none => obtain ⟨A, _, _, _, _, _, _, g, _⟩ := c.exc _ _ hy; exact ⟨_, g⟩
              | some f => obtain ⟨A, g, _⟩ := c.excF _ _ _ hy; exact ⟨_, g⟩
            obtain ⟨cv, hcv⟩ := hm
            exact sx_tryOnly c rfl hkm hq.1.1 (c.gl hq.1.2) hq.2 hy hcv (fun W' pn xe tk ps => cB_ok (fun st s h => cS_ok G Φ n C st s h _ _ (c.tr tk ps)) hsb) (cH_ok c hhs)
          · cases h
        · simp at h
      · cases h
    · split at h
      · rename_i hq
        simp only [Bool.and_eq_true, Bool.not_eq_true', decide_eq_true_eq] at hq
        simp only [Option.bind_eq_some_iff] at h
        obtain ⟨k, _, h⟩ := h
        split at h
        · rename_i y fo hy
          split at h
          · rename_i hk
            obtain ⟨ek, hkm⟩ := of_decide_eq_true hk
            subst ek
            simp only [Option.bind_eq_some_iff, Option.map_eq_some_iff] at h
            obtain ⟨i, hi, sb, hsb, hs, hhs, rfl⟩ := h
            have hm : ∃ cv, X.mg y = some cv := by
              cases fo with
              | none => obtain ⟨A, _, _, _, _, _, _, g, _⟩ := c.exc _ _ hy; exact ⟨_, g⟩
              | some f => obtain ⟨A, g, _⟩ := c.excF _ _ _ hy; exact ⟨_, g⟩
            obtain ⟨cv, hcv⟩ := hm
            obtain ⟨s1, _, _⟩ := slotOf_ok c hi
            exact sx_tryAs c rfl hkm hq.1.1.1 s1 (c.sc.lo _ hq.2) (c.gl hq.1.1.2) hq.1.2 hy hcv (fun W' pn xe tk ps => cB_ok (fun st s h => cS_ok G Φ n C st s h _ _ (c.tr tk ps)) hsb) (cH_ok c hhs)
          · cases h
        · simp at h
      · cases h
    · cases h
end
end Pv
set_option Elab.async false
set_option linter.all false
set_option maxRecDepth 100000
set_option maxHeartbeats 2000000
/-! Pv12: the program's defs, by levels of calls; the law. -/
namespace Pv
open PySem PySem.Spec PyProof.Rows L2

/-- a def: how many parameters, how many slots, its body -/
structure FD where
  n : Nat
  N : Nat
  body : ISs
/-- behind a call the caller's store, with what is new kept or forgotten -/
def Gc (n : Nat) (v : PV) (S' : Store) (Q : PQ) : Prop :=
  Q v S' ∨ ∃ S0 junk, S' = S0 ++ junk ∧ S0.length = n ∧ wfAt n S0 = true ∧ v.under n = true ∧ Q v S0
def fldUnder (n : Nat) : Option PV → Bool
  | some v => v.under n
  | none => true
def GcX (n : Nat) (x : PEx) (S' : Store) (E : PX) : Prop :=
  E x S' ∨ ∃ S0 junk, S' = S0 ++ junk ∧ S0.length = n ∧ wfAt n S0 = true ∧ fldUnder n x.fld = true ∧ E x S0
def startP (N : Nat) (args : List PV) : Env := args.map some ++ List.replicate (N - args.length) none
def runF (T : Tab) (fns : List FD) : Nat → Call
  | 0, _, _, _, _, _ => False
  | k + 1, i, args, S, Q, E => ∃ d, fns[i]? = some d ∧ args.length = d.n ∧ (WfS S → PV.underL S.length args = true →
      wpSs (runF T fns k) T d.body (startP d.N args) S { nx := fun _ S' => Gc S.length .non S' Q, rt := fun v S' => Gc S.length v S' Q } fun x _ S' => GcX S.length x S' E)

section
variable {K : PySem.W.Frag} {mg : Str → Option Value} {G : GT}
theorem cut_ext {m m' : List Addr} {H H' : Hp} (e : Ext K m H m' H') {n : Nat} (h : m.length = n) : m'.take n = m := by
  obtain ⟨r, e⟩ := e.pre
  rw [e, ← h, List.take_left']
  rfl
theorem gc_ok {m m' : List Addr} {H H' : Hp} {S S' : Store} {Q : PQ} {Kv : VK} {x : V} {v : PV} (r : RlS K m H S) (k : KE K m H Q Kv) (e : Ext K m H m' H') (r' : RlS K m' H' S') (h : RepV K H' m' x v) (g : Gc S.length v S' Q) : Kv x H' := by
  rcases g with g | ⟨S0, junk, rfl, hl, hw, hv, g⟩
  · exact k m' H' x v S' e r' h g
  · have c := r'.cut (S0 := S0) (junk := junk) (by rw [hl]; exact hw)
    rw [hl] at c
    have hc := RepV.cut (n := S.length) v x h hv
    have e0 := cut_ext e r.len
    rw [e0] at c hc
    exact k m H' x v S0 ⟨⟨[], by simp⟩, e.tup⟩ c hc g
theorem gcx_ok {m m' : List Addr} {H H' : Hp} {S S' : Store} {E : PX} {Kx : XK} {x : PEx} {cls : Value} {d : Option Addr} (r : RlS K m H S) (k : KX K mg G m H E Kx) (e : Ext K m H m' H') (r' : RlS K m' H' S') (h : RepX K mg G H' m' x cls d) (g : GcX S.length x S' E) : Kx cls d H' := by
  rcases g with g | ⟨S0, junk, rfl, hl, hw, hv, g⟩
  · exact k x cls d m' H' S' e r' h g
  · have c := r'.cut (S0 := S0) (junk := junk) (by rw [hl]; exact hw)
    rw [hl] at c
    have e0 := cut_ext e r.len
    rw [e0] at c
    refine k x cls d m H' S0 ⟨⟨[], by simp⟩, e.tup⟩ c ?_ g
    obtain ⟨y, fo, h1, h2, h3⟩ := h
    refine ⟨y, fo, h1, h2, ?_⟩
    rcases h3 with h3 | ⟨f, w, dd, z, h3, h4, h5, h6, h7⟩
    · exact .inl h3
    · refine .inr ⟨f, w, dd, z, h3, h4, h5, h6, ?_⟩
      rw [h4] at hv
      have hc := RepV.cut (n := S.length) w z h7 hv
      rw [e0] at hc
      exact hc
theorem start_rep {m : List Addr} {H : Hp} {N : Nat} {Ns : List Str} : ∀ {vs : List V} {args : List PV}, RepL K H m vs args → Ns.length = N → RlE K m H (L2.start Ns vs) (startP N args) := by
  intro vs args h hN
  have hl := h.len
  refine ⟨by simp [L2.start, startP, hl, hN], fun i v e => ?_⟩
  unfold startP at e
  unfold L2.start
  by_cases hi : i < args.length
  · rw [List.getElem?_append_left (by simpa using hi), List.getElem?_map] at e
    cases q : args[i]? with
    | none => rw [q] at e; cases e
    | some w =>
      rw [q] at e
      cases e
      obtain ⟨x, h1, h2⟩ := h.get q
      exact ⟨x, by rw [List.getElem?_append_left (by simpa [hl] using hi), List.getElem?_map, h1]; rfl, h2⟩
  · rw [List.getElem?_append_right (by simpa using hi)] at e
    rw [List.getElem?_replicate] at e
    split at e <;> cases e
end

/-- a def's place in the written part -/
structure FnAt (K : PySem.W.Frag) (mg : Str → Option Value) (x : Str) (ps : List Str) (dfl : List PV) (params : Arguments) (body : List Stmt) (scope : Scope) (f : Addr) (fd : FuncData) : Prop where
  ex : ∃ (oc : Value) (od : Option Addr) (dV kV doc pm : Value) (an : Option Addr) (cdv ct : Value) (osl : Array (Option Value)), fd = PySem.W.fnOf x x params body scope dV kV doc pm an cdv ct ∧
    K.lookup f = some ⟨oc, od, .func fd, osl⟩ ∧ PySem.W.codeIn K cdv x = true
  gm : mg x = some (.ref f)
  kp : PySem.W.keepIn K (.ref f) = true
  bd : ∀ j, j ≤ dfl.length → ∃ ds dvs, Vals dvs ds ∧ (∀ H m, RepL K H m dvs (dfl.drop (dfl.length - j))) ∧ Binds K fd ps ds
/-- what the law's text has: each def with its slots, compiled -/
structure DefRow where
  x : Str
  ps : List Str
  dfl : List PV
  N : List Str
  params : Arguments
  body : List Stmt
  scope : Scope
/-- the rows against the tables -/
structure TabOk (G : GT) (blts : List Str) (fns : List FD) (rows : List DefRow) : Prop where
  len : G.fns.length = rows.length
  row : ∀ (i : Nat) (r : DefRow), rows[i]? = some r → G.fns[i]? = some (r.x, r.ps.length, r.dfl) ∧ FnScope r.N r.ps r.scope ∧ ∃ d, fns[i]? = some d ∧ d.n = r.ps.length ∧ d.N = r.N.length ∧
    cB (cS G 60 ⟨r.N, r.scope, true, false, blts⟩) r.body = some d.body
/-- the written part has what the tables name -/
structure Facts (K : PySem.W.Frag) (mg : Str → Option Value) (G : GT) (blts : List Str) (rows : List DefRow) : Prop where
  fn : ∀ (i : Nat) (r : DefRow), rows[i]? = some r → ∃ f fd, FnAt K mg r.x r.ps r.dfl r.params r.body r.scope f fd
  blt : ∀ x, x ∈ blts → mg x = none
  exc : ∀ (c : Nat) (x : Str), G.excs[c]? = some (x, none) → ∃ C B newId initId bmB, ExcBaseFacts B newId initId bmB ∧ PySem.W.excIn K C bmB newId = true ∧ mg x = some (.ref C) ∧ PySem.W.keepIn K (.ref C) = true ∧ PySem.W.subIn K (.ref C) (.type "BaseException") = some true ∧ PySem.W.typeIn K (.ref C) = some (.type "type")
  excF : ∀ (c : Nat) (x f : Str), G.excs[c]? = some (x, some f) → ExcFOk K mg x f
  cat : ∀ (c d : Nat) (x y : Str) (fo fo' : Option Str) (cv dv : Value), c ∈ G.hs → G.excs[c]? = some (x, fo) → G.excs[d]? = some (y, fo') → mg x = some cv → mg y = some dv → PySem.W.exmOne K dv cv = some (G.tab.catches c d)
  con : ∀ x pv, (x, pv) ∈ G.cons → ∃ v u, mg x = some u ∧ RelV v u ∧ ∀ H m, RepV K H m v pv
section
variable {P : Program} {w : World} {K : PySem.W.Frag} {mg : Str → Option Value} {base : Heap} {G : GT} {blts : List Str} {fns : List FD} {rows : List DefRow}
theorem fn_level (T : TabOk G blts fns rows) (F : Facts K mg G blts rows) : ∀ (k i : Nat) (r : DefRow), rows[i]? = some r → ∀ f fd, FnAt K mg r.x r.ps r.dfl r.params r.body r.scope f fd →
    FnOk P w K mg base (L2.CX P w) k f fd r.ps (spF K mg G (runF G.tab fns k i))
  | 0, i, r, hr, f, fd, A => by
    have no : ∀ vs H Q E, ¬ spF K mg G (runF G.tab fns 0 i) vs H Q E := fun vs H Q E ⟨m, args, S, Q', E', _, _, h, _⟩ => h
    exact ⟨fun vs H Q E h => absurd h (no vs H Q E), fun A outer s H args us vs Q E _ _ _ _ h => absurd h (no vs H Q E)⟩
  | k + 1, i, r, hr, f, fd, A => by
    obtain ⟨hG, sc, d, hd, hn, hN, hc⟩ := T.row i r hr
    obtain ⟨oc, od, dV, kV, doc, pm, an, cdv, ct, osl, rfl, lk, hcd⟩ := A.ex
    refine fn_of lk hcd sc (fun vs H Q E ⟨m, args, S, Q', E', _, hl, ⟨d', h1, h2, _⟩, _⟩ => ?_) fun A' outer s H vs Q E hroom hsp => ?_
    · rw [hd] at h1
      cases h1
      rw [hl.len, h2, hn]
    obtain ⟨m, args, S, Q', E', rS, hl, ⟨d', h1, h2, h3⟩, kE, kX⟩ := hsp
    rw [hd] at h1
    cases h1
    have h3 := h3 rS.wf (by rw [← rS.len]; exact RepL.under _ _ hl)
    have ctx : Ctx G ⟨r.N, r.scope, true, false, blts⟩ (cxOf (L2.CX P w) P w K mg base r.N r.x r.scope f cdv A' outer s H E) (fun cls d _ H => E cls d H) (runF G.tab fns k) :=
      { hN := rfl, nd := sc.nd, kind := sc.kind, sc := ScOk.refl, fn := fun _ _ => rfl, calm := fun _ => rfl, units := hroom.units,
        call := fun _ => ⟨fun j x n dfl hj => by
          have hjl : j < rows.length := by rw [← T.len]; exact (List.getElem?_eq_some_iff.mp hj).1
          obtain ⟨hG2, _⟩ := T.row j _ (List.getElem?_eq_getElem hjl)
          rw [hj] at hG2
          cases hG2
          obtain ⟨f2, fd2, A2⟩ := F.fn j _ (List.getElem?_eq_getElem hjl)
          exact ⟨f2, fd2, _, k, A2.gm, A2.kp, rfl, fn_level T F k j _ (List.getElem?_eq_getElem hjl) f2 fd2 A2, hroom, A2.bd⟩⟩,
        tk := takes_of rfl rfl rfl rfl, pass := passes_of rfl, blt := F.blt, room := fun _ => hroom.mono (Nat.zero_le _), frame := fun _ => ⟨rfl, rfl⟩,
        exc := fun c x h => by
          obtain ⟨C, B, ni, ii, bm, g1, g2, g3, g4, g5, g6⟩ := F.exc c x h
          exact ⟨C, B, ni, ii, bm, g1, g2, g3, g4, raises_own g5 g6⟩,
        excF := F.excF, cat := F.cat, con := F.con }
    obtain ⟨t, PP, R⟩ := cB_ok (fun st p hp => cS_ok G (runF G.tab fns k) 60 _ st p hp _ _ ctx) hc
    refine ⟨t, PP, R m _ H _ S _ _ _ rS (start_rep hl hN.symm) h3 ⟨fun m' σ' H' ρ' S' e r' _ q => ?_, fun m' H' v pv S' e r' hv q => ?_, fun _ _ _ _ _ _ _ _ q => q.elim, fun _ _ _ _ _ _ _ _ q => q.elim⟩ fun ex cls dd m' σ' H' ρ' S' e r' _ rx q => ?_⟩
    · exact gc_ok rS kE e r' .non q
    · exact gc_ok rS kE e r' hv q
    · exact gcx_ok rS kX e r' rx q
/-- what the law promises -/
def spLaw (K : PySem.W.Frag) : Sp := fun vs H Q _ => ∃ (a : Addr) (ns : List Int), vs = [.ref a] ∧ ((∃ o, H a = some (.frz o (.lst (ns.map V.int)))) ∨ KL K a (ns.map V.int)) ∧ ns.length ≤ 63 ∧ ∀ H', Q (.bl true) H'
theorem only_frz {H : Hp} {a : Addr} {ns : List Int} (hO : Only H) (hS : SqL K H a (ns.map V.int)) : (∃ o, H a = some (.frz o (.lst (ns.map V.int)))) ∨ KL K a (ns.map V.int) := by
  rcases hS with (h | ⟨o, h⟩) | h
  · rcases hO a with q | ⟨o, xs, q⟩
    · rw [q] at h; cases h
    · rw [q] at h; cases h
  · exact .inl ⟨o, h⟩
  · exact .inr h
theorem ints_repI {H : Hp} {m : List Addr} : ∀ ns : List Int, RepL K H m (ns.map V.int) (ns.map PV.int)
  | [] => .nil
  | n :: ns => .cons (.int n) (ints_repI ns)
theorem law_ok (T : TabOk G blts fns rows) (F : Facts K mg G blts rows) {k i : Nat} {r : DefRow} (hr : rows[i]? = some r) {f : Addr} {fd : FuncData} (A : FnAt K mg r.x r.ps r.dfl r.params r.body r.scope f fd)
    (law : ∀ ns : List Int, ns.length ≤ 63 → runF G.tab fns k i [.ref 0] [.frz (ns.map PV.int)] (fun v _ => v = .bl true) fun _ _ => False) :
    FnOk P w K mg base (L2.CX P w) k f fd r.ps (spLaw K) := by
  refine (fn_level T F k i r hr f fd A).imp fun vs H Q E ⟨a, ns, e, hS, h63, q⟩ => ?_
  subst e
  refine ⟨[a], [.ref 0], [.frz (ns.map PV.int)], _, _, ⟨rfl, fun j o hj => ?_, fun j1 j2 b xs ys _ _ h3 _ m1 _ => ?_⟩, .cons (.ref rfl) .nil, law ns h63, fun m' H' v pv S' _ _ hv hq => ?_, fun _ _ _ _ _ _ _ _ _ z => z.elim⟩
  · cases j with
    | zero => cases hj; exact ⟨a, rfl, _, hS, ints_repI ns⟩
    | succ j => simp at hj
  · cases j1 with
    | zero => cases h3; cases m1
    | succ j => simp at h3
  · subst hq
    cases hv
    exact q H'
theorem walk {l : PySem.W.OpenLaw} {k : Nat} {x : Str} {q : Program} {loose : List Str} {XP : (Str → Option Value) → Heap → Prop} {YP : World → Heap → Prop} {d : DefRec} {K : Params → PySem.W.Frag} (hn : l.most = some 63) (hdf : d.params.defaults = [])
    (hY : ∀ (w : World) (h : Heap), YP w h → (K w.params).In h) (hroom : Room k callerA)
    (F : ∀ (w : World) (mg : Str → Option Value) (fa : Addr) (h : Heap), (K w.params).In h → h.Ns mainGlobals mg → mg d.name = some (.ref fa) →
      ∃ fd : FuncData, (∀ (s : Shared) (u : Value), BindsTo s fd ⟨[u], []⟩ [(x, u)]) ∧ ∀ base : Heap, (K w.params).In base → base.Ns mainGlobals mg → FnOk l.prog w (K w.params) mg base (L2.CX l.prog w) k fa fd [x] (spLaw (K w.params))) :
    PySem.W.WalkO q loose XP YP l.row.toRowW d [] (fun f vs => PySem.call f vs) :=
  L2.walk_of (n := 63) (k := k) (x := x) (CX := fun w => L2.CX l.prog w) (sp := fun w => spLaw (K w.params)) hn (by decide) hdf hroom hY F (fun w H a ns hl hO hS => ⟨a, ns, rfl, only_frz hO hS, hl, fun _ => rfl⟩) fun w H s e s' ⟨_, _, _, _, _, _, _, _, _, _, _, _, z⟩ => z
end
end Pv
set_option Elab.async false
set_option linter.all false
set_option maxRecDepth 100000
set_option maxHeartbeats 2000000
/-! Pv13: an exception class whose __init__ keeps one field: turned from the worked proof of an own error, its names made letters. -/
namespace PySem
namespace FldX
open PySem.W PySem.Calls PyProof.Rows PySem.HandSPX
/-! ### the text of __init__ -/
def iA (fl : Str) (p1 p2 : Pos) : Arguments := { posonlyargs := [], args := [{ arg := "self", annotation := none, pos := p1 }, { arg := fl, annotation := none, pos := p2 }], vararg := none, kwonlyargs := [], kw_defaults := [], kwarg := none, defaults := [] }
def iB (fl : Str) (q1 q2 q3 q4 : Pos) : List Stmt := [.Assign [.Attribute (.Name "self" q1) fl q2] (.Name fl q3) q4]
def iS (fl : Str) : Scope := { kind := .function, names := [(PySem.Str.ofString "self", .local), (fl, .local)], isGenerator := false, isCoroutine := false, more := [] }
/-- what the written part says of Low, at C, and of its __init__, at fI -/
structure LowTxt (K : Frag) (mg : Str → Option Value) (nm ql fl : Str) (C fI : Addr) : Prop where
  hs : (fl == ("self" : Str)) = false
  bA : ∀ (doc pm : Value) (an : Option Addr) (cdv ct : Value) (p1 p2 q1 q2 q3 q4 : Pos) (x v : Value), bindArgs (fnOf "__init__" ql (iA fl p1 p2) (iB fl q1 q2 q3 q4) (iS fl) .none .none doc pm an cdv ct) ⟨[x, v], []⟩ = pure [(("self" : Str), x), (fl, v)]
  hd : (fl == ("__debug__" : Str)) = false
  hd2 : (nm == ("__debug__" : Str)) = false
  gC : mg nm = some (.ref C)
  cls : ∃ nm q N bs bm sn sub ab col dd k0 k1 k2 k3 k5, K.lookup C = some (excClassObj nm q C N bs bm true sn sub ab col dd k0 k1 k2 k3 k5 "ValueError.__new__") ∧ refsVE bm = true
  sa : findIn K (.ref C) "__setattr__" = some (some (.builtin "object.__setattr__"))
  ga : findIn K (.ref C) "__getattribute__" = some (some (.builtin "BaseException.__getattribute__"))
  gg : findIn K (.ref C) "__getattr__" = some none
  noN : findIn K (.ref C) fl = some none
  iC : findIn K (.ref C) "__init__" = some (some (.ref fI))
  tC : typeIn K (.ref fI) = some (.type "function")
  kC : keepIn K (.ref C) = true
  exC : subIn K (.ref C) (.type "BaseException") = some true
  tyC : typeIn K (.ref C) = some (.type "type")
  hdC : hasDictIn K C = true
  te : exmOne K (.ref C) (.ref C) = some true
  fn : ∃ (oc : Value) (od : Option Addr) (doc pm : Value) (an : Option Addr) (cdv ct : Value) (osl : Array (Option Value)) (p1 p2 q1 q2 q3 q4 : Pos),
    K.lookup fI = some ⟨oc, od, .func (fnOf "__init__" ql (iA fl p1 p2) (iB fl q1 q2 q3 q4) (iS fl) .none .none doc pm an cdv ct), osl⟩ ∧ codeIn K cdv ql = true
theorem one_size (v : Value) : [v].length ≤ sizeLine := by
  rw [sizeLine_eq]
  exact (by decide : 1 ≤ 16777216)
theorem kept_but {K : Frag} {h h' : Heap} {x : Addr} (X : K.In h) (hx : K.lookup x = none) (k : ∀ b o, b ≠ x → h.get? b = some o → h'.get? b = some o) : K.In h' := fun a o e =>
  k a o (fun z => by rw [z, hx] at e; cases e) (X a o e)
theorem ldC {M : Model} {s : Shared} {name : Str} {scope : Scope} {L a : Addr} {cd : Value} {m : Str → Option Value} {x : Str} {pos : Pos} {v : Value} {Q : Value → Shared → Prop} {A : Around} {E : Value → Shared → Prop} (hn : s.heap.Ns L m) (hv : m x = some v) (h : Q v s)
    (hk : scope.kind = .function := by rfl) (hl : (envOfC name scope L a cd).kindOf x = some .local := by rfl) (hd : (x == ("__debug__" : Str)) = false := by decide) :
    wpAny M A (eval (.Name x pos) (envOfC name scope L a cd)) Q E s := wpAny_Name (wpAny_loadName_local hk hl hn hv h) hd
/-- what __init__ leaves of a fresh exception at x -/
structure InitEnd (fl : Str) (h h' : Heap) (x C dx t1 : Addr) (v : Value) : Prop where
  keep : ∀ b o, b ≠ x → h.get? b = some o → h'.get? b = some o
  obj : h'.get? x = some { cls := .ref C, dict := some dx, data := .fields #[.ref t1, .none, .none, .none, .bool false, .none] }
  dbig : h.objs.size ≤ dx
  dne : dx ≠ x
  ns : h'.Ns1 dx (fun y => if y = fl then some v else none)
/-- a made Low -/
structure OwnMade (fl : Str) (h h' : Heap) (e C d : Addr) (v : Value) : Prop where
  keep : ∀ b o, h.get? b = some o → h'.get? b = some o
  new : h.objs.size ≤ e
  obj : ∃ oe vs, h'.get? e = some oe ∧ oe.cls = .ref C ∧ oe.dict = some d ∧ oe.data = .fields vs ∧ vs[1]? = some .none
  dbig : h.objs.size ≤ d
  dne : d ≠ e
  ns : h'.Ns1 d (fun y => if y = fl then some v else none)
section
variable {prog : Program} {w : World} {A : Around} {E : Value → Shared → Prop} {R : Result → Shared → Prop} {s : Shared} {K : Frag} {mg : Str → Option Value} {C fI : Addr}
theorem low_init {nm ql fl : Str} (T : LowTxt K mg nm ql fl C fI) {x t0 : Addr} {v : Value} (X : K.In s.heap) (hlim : s.heap.NoLimit) (hx : s.heap.get? x = some (excO C t0)) (hnx : K.lookup x = none) (hroom : A.depth < recursionLimit)
    (hq : ∀ h' tk dx, InitEnd fl s.heap h' x C dx t0 v → R (.ok (.ret .none)) { s with heap := h', toks := tk }) :
    codeAny (model prog w) A (.call (.ref fI) ⟨[.ref x, v], []⟩) R s := by
  obtain ⟨oc, od, doc, pm, an, cdv, ct, osl, p1, p2, q1, q2, q3, q4, ho, hcd⟩ := T.fn
  obtain ⟨nm, q, N, bs, bm, sn, sub, ab, col, dd, k0, k1, k2, k3, k5, hC, hbm⟩ := T.cls
  have hcl : clsIn K C = some { name := nm, bases := bs, mro := .ref C :: bm, ns := N, qualname := q, hasDict := true, slotNames := sn, subclasses := sub, abstract := ab, collection := col, hasDel := false } := by unfold clsIn; rw [hC] <;> rfl
  refine Att.call_fn (binds := [(("self" : Str), .ref x), (fl, v)]) X hlim ho hcd hroom (BindsTo.of_eq (T.bA ..)) (by simp [iS, List.lookup, T.hs]) (fun s₁ IC => ?_) rfl rfl rfl
  obtain ⟨h₁, tk₁, rfl⟩ := IC.toInCall.same
  have k : ∀ b o, s.heap.get? b = some o → h₁.get? b = some o := IC.toInCall.keep
  have hn := IC.toInCall.ns
  have hxL : s.heap.objs.size ≠ x := Nat.ne_of_gt (Heap.lt_size hx)
  have X₁ : K.In h₁ := X.keeps k
  have hx₁ := k _ _ hx
  -- self.by = by
  show wpAny _ _ (execs _ _) _ _ _
  refine wpAny_execs_cons (plainObj_wpAny_Assign_Attribute ?_)
  have kf : List.lookup fl (iS fl).names = some NameKind.local := by simp [iS, List.lookup, T.hs]
  have ks : List.lookup ("self" : Str) (iS fl).names = some NameKind.local := by simp [iS, List.lookup]
  have sf : ¬ ("self" : Str) = fl := fun z => by have := T.hs; rw [← z] at this; simp at this
  refine ldC (v := v) hn ?m1 (ldC (v := .ref x) hn ?m2 ?_ rfl ks) rfl kf T.hd
  case m1 =>
    simp only [bindL]
    rw [if_pos (show (envOfC ql (iS fl) _ _ _).kindOf fl = some .local from kf)]
    simp
  case m2 =>
    simp only [bindL]
    rw [if_pos (show (envOfC ql (iS fl) _ _ _).kindOf fl = some .local from kf), if_pos (show (envOfC ql (iS fl) _ _ _).kindOf "self" = some .local from ks)]
    simp [sf]
  refine set_plain X₁ (ox := excO C t0) (od := none) ⟨hx₁, rfl, rfl, trivial⟩ T.sa ?_
  refine exc_osa X₁ hx₁ hcl (show refsVE (.ref C :: bm) = true from hbm) rfl T.noN (fun h₃ tk₃ dx k₃ dn dne hx₃ hn₃ => ?_)
  show wpAny _ _ (execs _ _) _ _ _
  have z : s.heap.objs.size < h₁.objs.size := hn.lt
  exact wpAny_execs_nil (hq h₃ tk₃ dx ⟨fun b o hb e => k₃ b o hb (k b o e), hx₃, Nat.le_of_lt (Nat.lt_of_lt_of_le z dn), dne, hn₃⟩)
theorem low_made {nm ql fl : Str} (T : LowTxt K mg nm ql fl C fI) {v : Value} (X : K.In s.heap) (hlim : s.heap.NoLimit) (hroom : A.depth + 1 < recursionLimit)
    (hq : ∀ h' tk e d, OwnMade fl s.heap h' e C d v → R (.ok (.ret (.ref e))) { s with heap := h', toks := tk }) :
    codeAny (model prog w) A (.call (.ref C) ⟨[v], []⟩) R s := by
  obtain ⟨nm, q, N, bs, bm, sn, sub, ab, col, dd, k0, k1, k2, k3, k5, hC, hbm⟩ := T.cls
  obtain ⟨hp, g, dr, tk, os⟩ := s
  have k : ∀ b o, hp.get? b = some o → ((hp.push (kdv_tup [v])).push (excO C hp.objs.size)).get? b = some o := fun b o e => Heap.get?_push_of_some _ (Heap.get?_push_of_some _ e)
  have hget : ((hp.push (kdv_tup [v])).push (excO C hp.objs.size)).get? (hp.objs.size + 1) = some (excO C hp.objs.size) := by heap_get
  have hnx : K.lookup (hp.objs.size + 1) = none := by
    cases e : K.lookup (hp.objs.size + 1) with
    | none => rfl
    | some o =>
      have z : hp.get? (hp.objs.size + 1) = some o := X _ _ e
      exact absurd (Nat.lt_of_succ_lt (Heap.lt_size z)) (Nat.lt_irrefl _)
  refine call_own F.excBase_ValueError (fun X => refsVE_contains X bm hbm) (X _ _ hC) (looks_findIn X T.iC) (fun self => bind_fn X self T.tC) (one_size v) ?_
  refine low_init (s := ⟨(hp.push (kdv_tup [v])).push (excO C hp.objs.size), g, dr, tk, os⟩) T (X.keeps k) (hlim.keeps k) hget hnx ?_ fun h' tk' dx ⟨k', hx, dn, dne, hns⟩ => ?_
  · show A.depth + 1 < recursionLimit
    exact hroom
  · have old : ∀ b o, hp.get? b = some o → h'.get? b = some o := fun b o e => k' b o (Nat.ne_of_lt (Nat.lt_succ_of_lt (Heap.lt_size e))) (k b o e)
    have z : hp.objs.size + 1 + 1 ≤ dx := by
      first
        | (simpa only [Heap.size_push] using dn)
        | exact dn
        | (have q := dn; rw [Heap.size_push, Heap.size_push] at q; exact q)
    exact ⟨rfl, hq h' tk' (hp.objs.size + 1) dx ⟨old, Nat.le_succ _, ⟨_, _, hx, rfl, rfl, rfl, rfl⟩, Nat.le_trans (Nat.le_trans (Nat.le_succ _) (Nat.le_succ _)) z, dne, hns⟩⟩
end
end FldX
end PySem
namespace L2
open PySem PySem.Spec PyProof.Rows
theorem relO_low {fl : Str} {v : V} {v' : Value} (r : RelV v v') (f : Str) : RelO (List.lookup f [(fl, v)]) (if f = fl then some v' else none) := by
  by_cases hw : f = fl
  · rw [hw, if_pos rfl]
    have q : List.lookup fl [(fl, v)] = some v := by simp [List.lookup]
    rw [q]
    exact r
  · rw [if_neg hw]
    have qw : (f == fl) = false := by simpa using hw
    have q2 : List.lookup f [(fl, v)] = none := by simp [List.lookup, qw]
    rw [q2]
    trivial
section
variable {X : Cx} {C fI : Addr}
theorem pmk_low {a : Expr} {ta : TA} {p pos : Pos} {k : Nat} {nm ql fl : Str} (T : PySem.FldX.LowTxt X.K X.mg nm ql fl C fI) (hr : Room k X.A) (ha : PA X [a] ta) (hg : Gl X nm)
    (he : starEach (a :: []) X.env = (false, eval a X.env) :: starEach [] X.env := by rfl) (hpl : (backTo pos (starEach [] X.env)).any (·.1) = false := by rfl) :
    PMk X (.Call (.Name nm p) [a] [] pos) (Pv.tMkF C fl ta) := by
  intro pins s σ H Q I h
  refine wpAny_Call_Name_kw (ld_glob I hg T.gC ?_ T.hd2)
  refine PySem.W.callWith_K (h₀ := X.base) I.ok.mod.kin T.kC (thn (ha.run pos pins s σ H _ I h) fun us s1 hh => ?_) he hpl
  obtain ⟨vs, H1, I1, r1, v, ev, q1⟩ := hh
  subst ev
  refine ⟨I1.kIn, ?_⟩
  cases r1 with
  | cons rv rn =>
    rename_i v' us'
    cases rn
    show wpAny _ _ (call (.ref C) [v']) _ _ _
    have hlim := I1.nolimit
    obtain ⟨hp, g, dr, tk, os⟩ := s1
    refine wpAny_call (PySem.FldX.low_made T I1.kIn hlim (by have := hr.dp; omega) fun h' tk' e d M => ?_)
    show MkP X pins σ Q (.ref e) ⟨h', g, dr, tk', os⟩
    obtain ⟨oe, fv, hoe, hc, hd, hdat, h1⟩ := M.obj
    have hns := M.ns
    obtain ⟨G', g1, g2⟩ := restrict h' fun b => decide (b ≠ e)
    have gk : ∀ b, b ≠ e → G'.get? b = h'.get? b := fun b hb => g1 b (decide_eq_true hb)
    have ge : G'.get? e = none := g2 e (by simp)
    have old : ∀ b o, hp.get? b = some o → G'.get? b = some o := fun b o q => (gk b (Nat.ne_of_lt (Nat.lt_of_lt_of_le (Heap.lt_size q) M.new))).trans (M.keep b o q)
    have ob : ObjOk X.prog X.w (upd H1 d (.xd [(fl, v)])) G' d (.xd [(fl, v)]) :=
      ⟨_, hns.at (fun o q => (gk d M.dne).trans q), fun f => relO_low rv f⟩
    have J : Inv X pins σ (upd H1 d (.xd [(fl, v)])) ⟨G', g, dr, tk', os⟩ := I1.laid (t' := tk') old M.dbig ob
    refine ⟨e, oe, fv, ⟨G', g, dr, tk', os⟩, _, .ref C, some d, rfl, J, fun b o q => ?_, ge, hoe, ⟨hc, hd⟩, hdat, h1, ?_, rfl, I1.bare, raises_own T.exC T.tyC, q1 d (I1.hok.fresh M.dbig)⟩
    · by_cases hb : b = e
      · have q' : G'.get? b = some o := q
        rw [hb, ge] at q'; cases q'
      · exact (gk b hb).symm.trans q
    · rw [upd_ne (Ne.symm M.dne)]
      exact I1.hok.fresh M.new
end
end L2
namespace Pv
open PySem PySem.Spec PyProof.Rows L2
theorem excF_of {K : PySem.W.Frag} {mg : Str → Option Value} {nm ql fl : Str} {C fI : Addr} (T : PySem.FldX.LowTxt K mg nm ql fl C fI) : ExcFOk K mg nm fl :=
  ⟨C, T.gC, ⟨T.ga, T.gg, T.exC, T.hdC⟩, T.noN, fun X eK eM hr hg a ta p pos ha hs => by
    subst eK
    subst eM
    exact pmk_low T hr ha hg (star_cons hs) rfl⟩
end Pv
set_option Elab.async false
set_option linter.all false
set_option maxRecDepth 100000
set_option maxHeartbeats 2000000
/-! Pv14: the facts of the written part, in the form that k_is shows. -/
namespace Pv
open PySem PySem.Spec PyProof.Rows L2

/-- a def without defaults stands behind the top -/
def FnT (K : PySem.W.Frag) (x : Str) (st : Stmt) : Prop := ∃ (f : Addr) (oc : Value) (od : Option Addr) (kV doc pm : Value) (an : Option Addr) (cd ct : Value) (sl : Array (Option Value)),
  PySem.W.nsIn K mainGlobals x = some (some (.ref f)) ∧ K.lookup f = some ⟨oc, od, .func (PySem.W.fnOf x x (defArgs st) (defBody st) (defScope st) .none kV doc pm an cd ct), sl⟩ ∧ PySem.W.codeIn K cd x = true ∧ PySem.W.keepIn K (.ref f) = true
/-- a def with defaults -/
def FnTD (K : PySem.W.Frag) (x : Str) (st : Stmt) (dvs : List V) : Prop := ∃ (f : Addr) (oc : Value) (od : Option Addr) (T : Addr) (kV doc pm : Value) (an : Option Addr) (cd ct : Value) (sl : Array (Option Value)) (o : Obj) (its : List Value) (n : Nat),
  PySem.W.nsIn K mainGlobals x = some (some (.ref f)) ∧ K.lookup f = some ⟨oc, od, .func (PySem.W.fnOf x x (defArgs st) (defBody st) (defScope st) (.ref T) kV doc pm an cd ct), sl⟩ ∧ PySem.W.codeIn K cd x = true ∧ PySem.W.keepIn K (.ref f) = true ∧
    K.lookup T = some o ∧ o.data = .seq its.toArray n ∧ Vals dvs its
/-- an exception class without __init__ -/
def ExT (K : PySem.W.Frag) (x : Str) : Prop := ∃ C : Addr, PySem.W.nsIn K mainGlobals x = some (some (.ref C)) ∧ PySem.W.excIn K C [.type "ValueError", .type "Exception", .type "BaseException", .type "object"] "ValueError.__new__" = true ∧ PySem.W.keepIn K (.ref C) = true ∧
  PySem.W.subIn K (.ref C) (.type "BaseException") = some true ∧ PySem.W.typeIn K (.ref C) = some (.type "type")
/-- one with a field -/
def ExF (K : PySem.W.Frag) (nm ql fl : Str) : Prop := ∃ (C fI : Addr) (nm' q : Str) (N : Addr) (bs bm : List Value) (sn : List Str) (sub : List Value) (ab : Bool) (col : Option Bool) (dd : Option Addr) (k0 k1 k2 k3 k5 : Option Value)
  (oc : Value) (od : Option Addr) (doc pm : Value) (an : Option Addr) (cdv ct : Value) (osl : Array (Option Value)) (p1 p2 q1 q2 q3 q4 : Pos),
  PySem.W.nsIn K mainGlobals nm = some (some (.ref C)) ∧
  K.lookup C = some (excClassObj nm' q C N bs bm true sn sub ab col dd k0 k1 k2 k3 k5 "ValueError.__new__") ∧ PySem.HandSPX.refsVE bm = true ∧
  PySem.W.findIn K (.ref C) "__setattr__" = some (some (.builtin "object.__setattr__")) ∧ PySem.W.findIn K (.ref C) "__getattribute__" = some (some (.builtin "BaseException.__getattribute__")) ∧ PySem.W.findIn K (.ref C) "__getattr__" = some none ∧
  PySem.W.findIn K (.ref C) fl = some none ∧ PySem.W.findIn K (.ref C) "__init__" = some (some (.ref fI)) ∧ PySem.W.typeIn K (.ref fI) = some (.type "function") ∧ PySem.W.keepIn K (.ref C) = true ∧ PySem.W.subIn K (.ref C) (.type "BaseException") = some true ∧
  PySem.W.typeIn K (.ref C) = some (.type "type") ∧ PySem.W.hasDictIn K C = true ∧ PySem.W.isClsIn K C = true ∧ PySem.W.subIn K (.ref C) (.ref C) = some true ∧
  K.lookup fI = some ⟨oc, od, .func (PySem.W.fnOf "__init__" ql (PySem.FldX.iA fl p1 p2) (PySem.FldX.iB fl q1 q2 q3 q4) (PySem.FldX.iS fl) .none .none doc pm an cdv ct), osl⟩ ∧ PySem.W.codeIn K cdv ql = true
/-- does the clause of class c take an exception of class d -/
def CtT (K : PySem.W.Frag) (c d : Str) (b : Bool) : Prop := ∃ C D : Addr, PySem.W.nsIn K mainGlobals c = some (some (.ref C)) ∧ PySem.W.nsIn K mainGlobals d = some (some (.ref D)) ∧ PySem.W.subIn K (.ref C) (.type "BaseException") = some true ∧ PySem.W.isClsIn K C = true ∧ PySem.W.typeIn K (.ref C) = some (.type "type") ∧ PySem.W.subIn K (.ref D) (.ref C) = some b
/-- a built-in's name is not the module's -/
def BlT (K : PySem.W.Frag) (x : Str) : Prop := PySem.W.nsIn K mainGlobals x = some none
/-- a constant: a text, an int -/
def CsS (K : PySem.W.Frag) (x : Str) (z : Str) : Prop := ∃ t : Tok, PySem.W.nsIn K mainGlobals x = some (some (.str z t))
def CsI (K : PySem.W.Frag) (x : Str) (z : Int) : Prop := ∃ t : Tok, PySem.W.nsIn K mainGlobals x = some (some (.int z t))
/-- a constant tuple of texts -/
def CsT (K : PySem.W.Frag) (x : Str) (zs : List Str) : Prop := ∃ (a : Addr) (o : Obj) (its : Array Value) (n : Nat), PySem.W.nsIn K mainGlobals x = some (some (.ref a)) ∧ K.lookup a = some o ∧ o.cls = .type "tuple" ∧ o.data = .seq its n ∧ its.size ≤ sizeLine ∧ Vals (zs.map V.str) its.toList

/-- what an except clause of the class at S says of an exception of the class at D -/
theorem exm_by {K : PySem.W.Frag} {S D : Addr} {b : Bool} (h1 : PySem.W.subIn K (.ref S) (.type "BaseException") = some true) (h2 : PySem.W.isClsIn K S = true) (h3 : PySem.W.typeIn K (.ref S) = some (.type "type")) (h4 : PySem.W.subIn K (.ref D) (.ref S) = some b) :
    PySem.W.exmOne K (.ref D) (.ref S) = some b := by
  have e1 : (PySem.W.subIn K (.ref S) (.type "BaseException") == some true) = true := by rw [h1] <;> rfl
  have e2 : ((PySem.W.clsIn K S).isSome && PySem.W.typeIn K (.ref S) == some (.type "type")) = true := by
    have h2' : (PySem.W.clsIn K S).isSome = true := h2
    rw [h2', h3] <;> rfl
  show (if (PySem.W.subIn K (.ref S) (.type "BaseException") == some true) = true then (if ((PySem.W.clsIn K S).isSome && PySem.W.typeIn K (.ref S) == some (.type "type")) = true then PySem.W.subIn K (.ref D) (.ref S) else none) else none) = some b
  rw [if_pos e1, if_pos e2]
  exact h4
section
variable {K : PySem.W.Frag} {h : Heap} {mg : Str → Option Value}
theorem fnAt_of (X : K.In h) (Gn : h.Ns mainGlobals mg) {x : Str} {st : Stmt} (F : FnT K x st) {ps : List Str}
    (b : ∀ (kV doc pm : Value) (an : Option Addr) (cd ct : Value) (us : List Value), us.length = ps.length → bindArgs (PySem.W.fnOf x x (defArgs st) (defBody st) (defScope st) .none kV doc pm an cd ct) ⟨us, []⟩ = pure (ps.zip us)) :
    ∃ f fd, FnAt K mg x ps [] (defArgs st) (defBody st) (defScope st) f fd := by
  obtain ⟨f, oc, od, kV, doc, pm, an, cd, ct, sl, h1, h2, h3, h4⟩ := F
  exact ⟨f, _, ⟨oc, od, .none, kV, doc, pm, an, cd, ct, sl, rfl, h2, h3⟩, PySem.W.mg_of X Gn h1, h4, fun j hj => ⟨[], [], .nil, fun _ _ => by simpa using RepL.nil, Binds.all (b kV doc pm an cd ct)⟩⟩
theorem ex_of (X : K.In h) (Gn : h.Ns mainGlobals mg) {x : Str} (E : ExT K x) : ∃ C B newId initId bmB, ExcBaseFacts B newId initId bmB ∧ PySem.W.excIn K C bmB newId = true ∧ mg x = some (.ref C) ∧ PySem.W.keepIn K (.ref C) = true ∧ PySem.W.subIn K (.ref C) (.type "BaseException") = some true ∧ PySem.W.typeIn K (.ref C) = some (.type "type") := by
  obtain ⟨C, h1, h2, h3, h4, h5⟩ := E
  exact ⟨C, _, _, _, _, PySem.F.excBase_ValueError, h2, PySem.W.mg_of X Gn h1, h3, h4, h5⟩
theorem exF_of (X : K.In h) (Gn : h.Ns mainGlobals mg) {nm ql fl : Str} (E : ExF K nm ql fl) (hs : (fl == ("self" : Str)) = false) (hd : (fl == ("__debug__" : Str)) = false) (hd2 : (nm == ("__debug__" : Str)) = false)
    (bA : ∀ (doc pm : Value) (an : Option Addr) (cdv ct : Value) (p1 p2 q1 q2 q3 q4 : Pos) (x v : Value), bindArgs (PySem.W.fnOf "__init__" ql (PySem.FldX.iA fl p1 p2) (PySem.FldX.iB fl q1 q2 q3 q4) (PySem.FldX.iS fl) .none .none doc pm an cdv ct) ⟨[x, v], []⟩ = pure [(("self" : Str), x), (fl, v)]) : ExcFOk K mg nm fl := by
  obtain ⟨C, fI, nm', q, N, bs, bm, sn, sub, ab, col, dd, k0, k1, k2, k3, k5, oc, od, doc, pm, an, cdv, ct, osl, p1, p2, q1, q2, q3, q4, h1, h2, h3, h4, h5, h6, h7, h8, h9, h10, h11, h12, h13, h14a, h14b, h15, h16⟩ := E
  have h14 := exm_by h11 h14a h12 h14b
  exact excF_of (C := C) (fI := fI) (ql := ql) ⟨hs, bA, hd, hd2, PySem.W.mg_of X Gn h1, ⟨nm', q, N, bs, bm, sn, sub, ab, col, dd, k0, k1, k2, k3, k5, h2, h3⟩, h4, h5, h6, h7, h8, h9, h10, h11, h12, h13, h14, ⟨oc, od, doc, pm, an, cdv, ct, osl, p1, p2, q1, q2, q3, q4, h15, h16⟩⟩
theorem ct_of (X : K.In h) (Gn : h.Ns mainGlobals mg) {c d : Str} {b : Bool} (E : CtT K c d b) {cv dv : Value} (hc : mg c = some cv) (hd : mg d = some dv) : PySem.W.exmOne K dv cv = some b := by
  obtain ⟨C, D, h1, h2, h3, h4, h5, h6⟩ := E
  have e1 := PySem.W.mg_of X Gn h1
  have e2 := PySem.W.mg_of X Gn h2
  rw [hc] at e1
  rw [hd] at e2
  cases e1
  cases e2
  exact exm_by h3 h4 h5 h6
theorem bl_of (X : K.In h) (Gn : h.Ns mainGlobals mg) {x : Str} (E : BlT K x) : mg x = none := PySem.W.mg_none_of X Gn E
theorem csS_of (X : K.In h) (Gn : h.Ns mainGlobals mg) {x z : Str} (E : CsS K x z) : ∃ v u, mg x = some u ∧ RelV v u ∧ ∀ H m, RepV K H m v (.str z) := by
  obtain ⟨t, h1⟩ := E
  exact ⟨.str z, _, PySem.W.mg_of X Gn h1, ⟨t, rfl⟩, fun _ _ => .str z⟩
theorem csI_of (X : K.In h) (Gn : h.Ns mainGlobals mg) {x : Str} {z : Int} (E : CsI K x z) : ∃ v u, mg x = some u ∧ RelV v u ∧ ∀ H m, RepV K H m v (.int z) := by
  obtain ⟨t, h1⟩ := E
  exact ⟨.int z, _, PySem.W.mg_of X Gn h1, ⟨t, rfl⟩, fun _ _ => .int z⟩
theorem strs_rep {H : Hp} {m : List Addr} : ∀ zs : List Str, RepL K H m (zs.map V.str) (zs.map PV.str)
  | [] => .nil
  | z :: zs => .cons (.str z) (strs_rep zs)
theorem csT_of (X : K.In h) (Gn : h.Ns mainGlobals mg) {x : Str} {zs : List Str} (E : CsT K x zs) : ∃ v u, mg x = some u ∧ RelV v u ∧ ∀ H m, RepV K H m v (.tup (zs.map PV.str)) := by
  obtain ⟨a, o, its, n, h1, h2, h3, h4, h5, h6⟩ := E
  exact ⟨.ref a, _, PySem.W.mg_of X Gn h1, rfl, fun _ _ => .tup (.inr ⟨o, its, n, h2, h3, h4, h5, h6⟩) (strs_rep zs)⟩
theorem looks_items0 {α : Type} {M : Model} {T : Addr} {o : Obj} {its : Array Value} {n : Nat} {k : Option (Array Value) → Sem α} {r : α} (X : K.In h) (lT : K.lookup T = some o) (oT : o.data = .seq its n)
    (e : PySem.W.Looks M h (k (some its)) r) : PySem.W.Looks M h (seqItems? (.ref T) >>= k) r := fun A Q E s kp q => wpAny_bind (wpAny_seqItems (kp _ _ (X _ _ lT)) oT (e A Q E s kp q))
/-- with defaults -/
theorem fnAtD_of (X : K.In h) (Gn : h.Ns mainGlobals mg) {x : Str} {st : Stmt} {dvs : List V} {dfl : List PV} (F : FnTD K x st dvs) (hrep : ∀ H m, RepL K H m dvs dfl) {ps : List Str}
    (b : ∀ j, j ≤ dfl.length → ∀ (T : Addr) (kV doc pm : Value) (an : Option Addr) (cd ct : Value) (us its : List Value), us.length + j = ps.length → its.length = dfl.length →
      ∃ k : Option (Array Value) → Sem (List (Str × Value)), bindArgs (PySem.W.fnOf x x (defArgs st) (defBody st) (defScope st) (.ref T) kV doc pm an cd ct) ⟨us, []⟩ = (seqItems? (.ref T) >>= k) ∧ k (some its.toArray) = pure (ps.zip (us ++ its.drop (dfl.length - j)))) :
    ∃ f fd, FnAt K mg x ps dfl (defArgs st) (defBody st) (defScope st) f fd := by
  obtain ⟨f, oc, od, T, kV, doc, pm, an, cd, ct, sl, o, its, n, h1, h2, h3, h4, h5, h6, h7⟩ := F
  have hl : dvs.length = dfl.length := (hrep (fun _ => none) []).len
  refine ⟨f, _, ⟨oc, od, .ref T, kV, doc, pm, an, cd, ct, sl, rfl, h2, h3⟩, PySem.W.mg_of X Gn h1, h4, fun j hj => ?_⟩
  refine ⟨its.drop (dfl.length - j), dvs.drop (dfl.length - j), h7.drop _, fun H m => (hrep H m).drop _, fun s us XK hlen => ?_⟩
  have l1 : its.length = dfl.length := by rw [← h7.length, hl]
  have l2 : us.length + j = ps.length := by
    rw [List.length_append, List.length_drop, l1] at hlen
    omega
  obtain ⟨k, e1, e2⟩ := b j hj T kV doc pm an cd ct us its l2 l1
  intro M A E Q q
  rw [e1]
  exact wpAny_bind (wpAny_seqItems (XK _ _ h5) h6 (by rw [e2]; exact wpAny_pure q))
/-- the law's def, from the tables -/
theorem law_end {P : Program} {w : World} {G : GT} {blts : List Str} {fns : List FD} {rows : List DefRow} (X : K.In h) (Gn : h.Ns mainGlobals mg) (T : TabOk G blts fns rows) (F : Facts K mg G blts rows) {x y : Str} {st : Stmt} (FL : FnT K x st) {fa : Addr} (hfa : mg x = some (.ref fa))
    {k i : Nat} {N : List Str} (hr : rows[i]? = some ⟨x, [y], [], N, defArgs st, defBody st, defScope st⟩)
    (b : ∀ (kV doc pm : Value) (an : Option Addr) (cd ct : Value) (u : Value), bindArgs (PySem.W.fnOf x x (defArgs st) (defBody st) (defScope st) .none kV doc pm an cd ct) ⟨[u], []⟩ = pure [(y, u)])
    (law : ∀ ns : List Int, ns.length ≤ 63 → runF G.tab fns k i [.ref 0] [.frz (ns.map PV.int)] (fun v _ => v = .bl true) fun _ _ => False) :
    ∃ fd : FuncData, (∀ (s : Shared) (u : Value), BindsTo s fd ⟨[u], []⟩ [(y, u)]) ∧ ∀ base : Heap, K.In base → base.Ns mainGlobals mg → FnOk P w K mg base (L2.CX P w) k fa fd [y] (spLaw K) := by
  obtain ⟨f, oc, od, kV, doc, pm, an, cd, ct, sl, h1, h2, h3, h4⟩ := FL
  have e := PySem.W.mg_of X Gn h1
  rw [hfa] at e
  cases e
  refine ⟨_, fun s u => .of_eq (b kV doc pm an cd ct u), fun base _ _ => law_ok (r := ⟨x, [y], [], N, defArgs st, defBody st, defScope st⟩) T F hr ⟨⟨oc, od, .none, kV, doc, pm, an, cd, ct, sl, rfl, h2, h3⟩, hfa, h4, fun j hj => ⟨[], [], .nil, fun _ _ => by simpa using RepL.nil, Binds.all fun us hl => ?_⟩⟩ law⟩
  match us, hl with
  | [u], _ => exact b kV doc pm an cd ct u
end
end Pv
set_option Elab.async false
set_option linter.all false
set_option maxRecDepth 100000
set_option maxHeartbeats 4000000
/-! the tables of the text (printed by gen.py) -/
namespace K04
open PySem Pv L2
/-- the texts of the program -/
def st : Nat → Str
  | 0 => "S"
  | 1 => "K"
  | 2 => "I"
  | 3 => "c"
  | 4 => "v"
  | 5 => "l"
  | 6 => "a"
  | 7 => "SKI"
  | 8 => "B"
  | 9 => "SK"
  | _ => ""
theorem st_all : ∀ i, i < 10 → ∀ j, j < 10 → st i = st j → i = j := by decide +kernel
theorem st_inj (i j : Nat) (hi : i < 10) (hj : j < 10) : (st i = st j) = (i = j) := propext ⟨st_all i hi j hj, fun e => by rw [e]⟩
abbrev blts : List Str := ["all", "bool", "enumerate", "int", "isinstance", "len", "list", "range", "str", "tuple", "zip"]
abbrev top (i : Nat) : Stmt := PySem.Challenge.pw_usedapart_k04_combinators.main.body.getD i (.Pass ⟨0, 0, 0, 0⟩)
def r0 : DefRow := ⟨"is_integer", ["value"], [], ["value"], L2.defArgs (top 6), L2.defBody (top 6), L2.defScope (top 6)⟩
/-- is_integer -/
def f0 : FD := ⟨1, 1, (.cons (.ret (.and (.isin (.var 0) .tInt) (.not (.isin (.var 0) .tBool)))) .nil)⟩
def r1 : DefRow := ⟨"is_natural", ["value"], [], ["value"], L2.defArgs (top 7), L2.defBody (top 7), L2.defScope (top 7)⟩
/-- is_natural -/
def f1 : FD := ⟨1, 1, (.cons (.ret (.and (.call 0 (.cons (.var 0) .nil) []) (.cmp .ge (.var 0) (.cst (.int 0))))) .nil)⟩
def r2 : DefRow := ⟨"check_number", ["number"], [], ["number"], L2.defArgs (top 8), L2.defBody (top 8), L2.defScope (top 8)⟩
/-- check_number -/
def f2 : FD := ⟨1, 1, (.cons (.ifs (.not (.call 1 (.cons (.var 0) .nil) [])) (.cons (.raise 2) .nil) .nil) .nil)⟩
def r3 : DefRow := ⟨"shift_from", ["term", "by", "least"], [], ["term", "by", "least"], L2.defArgs (top 10), L2.defBody (top 10), L2.defScope (top 10)⟩
/-- shift_from -/
def f3 : FD := ⟨3, 3, (.cons (.ifs (.cmp .eq (.idxc (.var 0) 0) (.cst (.str (st 4)))) (.cons (.ret (.ifx (.cmp .ge (.idxc (.var 0) 1) (.var 2)) (.tup (.cons (.cst (.str (st 4))) (.cons (.bin .add (.idxc (.var 0) 1) (.var 1)) .nil))) (.var 0))) .nil) .nil) (.cons (.ifs (.cmp .eq (.idxc (.var 0) 0) (.cst (.str (st 5)))) (.cons (.ret (.tup (.cons (.cst (.str (st 5))) (.cons (.call 3 (.cons (.idxc (.var 0) 1) (.cons (.var 1) (.cons (.bin .add (.var 2) (.cst (.int 1))) .nil))) []) .nil)))) .nil) .nil) (.cons (.ret (.tup (.cons (.cst (.str (st 6))) (.cons (.call 3 (.cons (.idxc (.var 0) 1) (.cons (.var 1) (.cons (.var 2) .nil))) []) (.cons (.call 3 (.cons (.idxc (.var 0) 2) (.cons (.var 1) (.cons (.var 2) .nil))) []) .nil))))) .nil)))⟩
def r4 : DefRow := ⟨"put_below", ["term", "terms", "depth"], [], ["term", "terms", "depth", "number"], L2.defArgs (top 11), L2.defBody (top 11), L2.defScope (top 11)⟩
/-- put_below -/
def f4 : FD := ⟨3, 4, (.cons (.ifs (.cmp .eq (.idxc (.var 0) 0) (.cst (.str (st 5)))) (.cons (.ret (.tup (.cons (.cst (.str (st 5))) (.cons (.call 4 (.cons (.idxc (.var 0) 1) (.cons (.var 1) (.cons (.bin .add (.var 2) (.cst (.int 1))) .nil))) []) .nil)))) .nil) .nil) (.cons (.ifs (.cmp .eq (.idxc (.var 0) 0) (.cst (.str (st 6)))) (.cons (.ret (.tup (.cons (.cst (.str (st 6))) (.cons (.call 4 (.cons (.idxc (.var 0) 1) (.cons (.var 1) (.cons (.var 2) .nil))) []) (.cons (.call 4 (.cons (.idxc (.var 0) 2) (.cons (.var 1) (.cons (.var 2) .nil))) []) .nil))))) .nil) .nil) (.cons (.asg (.nm 3) (.bin .sub (.idxc (.var 0) 1) (.var 2))) (.cons (.ifs (.cmp .lt (.var 3) (.cst (.int 0))) (.cons (.ret (.var 0)) .nil) .nil) (.cons (.ifs (.cmp .lt (.var 3) (.bi .len (.cons (.var 1) .nil))) (.cons (.ret (.call 3 (.cons (.idx (.var 1) (.var 3)) (.cons (.var 2) (.cons (.cst (.int 0)) .nil))) [])) .nil) .nil) (.cons (.ret (.tup (.cons (.cst (.str (st 4))) (.cons (.bin .sub (.idxc (.var 0) 1) (.bi .len (.cons (.var 1) .nil))) .nil)))) .nil))))))⟩
def r5 : DefRow := ⟨"count_nodes", ["term"], [], ["term"], L2.defArgs (top 12), L2.defBody (top 12), L2.defScope (top 12)⟩
/-- count_nodes -/
def f5 : FD := ⟨1, 1, (.cons (.ifs (.cmp .eq (.idxc (.var 0) 0) (.cst (.str (st 4)))) (.cons (.ret (.cst (.int 1))) .nil) .nil) (.cons (.ifs (.cmp .eq (.idxc (.var 0) 0) (.cst (.str (st 5)))) (.cons (.ret (.bin .add (.cst (.int 1)) (.call 5 (.cons (.idxc (.var 0) 1) .nil) []))) .nil) .nil) (.cons (.ret (.bin .add (.bin .add (.cst (.int 1)) (.call 5 (.cons (.idxc (.var 0) 1) .nil) [])) (.call 5 (.cons (.idxc (.var 0) 2) .nil) []))) .nil)))⟩
def r6 : DefRow := ⟨"is_term", ["value"], [], ["value"], L2.defArgs (top 14), L2.defBody (top 14), L2.defScope (top 14)⟩
/-- is_term -/
def f6 : FD := ⟨1, 1, (.cons (.ifs (.or (.not (.isin (.var 0) .tTuple)) (.or (.not (.chain .le .le (.cst (.int 2)) (.bi .len (.cons (.var 0) .nil)) (.cst (.int 3)))) (.not (.isin (.idxc (.var 0) 0) .tStr)))) (.cons (.ret (.cst (.bl false))) .nil) .nil) (.cons (.ifs (.cmp .eq (.bi .len (.cons (.var 0) .nil)) (.cst (.int 3))) (.cons (.ret (.and (.cmp .eq (.idxc (.var 0) 0) (.cst (.str (st 6)))) (.and (.call 6 (.cons (.idxc (.var 0) 1) .nil) []) (.call 6 (.cons (.idxc (.var 0) 2) .nil) [])))) .nil) .nil) (.cons (.ifs (.cmp .eq (.idxc (.var 0) 0) (.cst (.str (st 4)))) (.cons (.ret (.call 1 (.cons (.idxc (.var 0) 1) .nil) [])) .nil) .nil) (.cons (.ret (.and (.cmp .eq (.idxc (.var 0) 0) (.cst (.str (st 5)))) (.call 6 (.cons (.idxc (.var 0) 1) .nil) []))) .nil))))⟩
def r7 : DefRow := ⟨"check_term", ["term"], [], ["term"], L2.defArgs (top 15), L2.defBody (top 15), L2.defScope (top 15)⟩
/-- check_term -/
def f7 : FD := ⟨1, 1, (.cons (.ifs (.not (.call 6 (.cons (.var 0) .nil) [])) (.cons (.raise 1) .nil) .nil) .nil)⟩
def r8 : DefRow := ⟨"put_in", ["term", "other_term"], [], ["term", "other_term"], L2.defArgs (top 16), L2.defBody (top 16), L2.defScope (top 16)⟩
/-- put_in -/
def f8 : FD := ⟨2, 2, (.cons (.expr (.call 7 (.cons (.var 0) .nil) [])) (.cons (.expr (.call 7 (.cons (.var 1) .nil) [])) (.cons (.ret (.call 4 (.cons (.var 0) (.cons (.tup (.cons (.var 1) .nil)) (.cons (.cst (.int 0)) .nil))) [])) .nil)))⟩
def r9 : DefRow := ⟨"is_combinators", ["value"], [], ["value"], L2.defArgs (top 24), L2.defBody (top 24), L2.defScope (top 24)⟩
/-- is_combinators -/
def f9 : FD := ⟨1, 1, (.cons (.ifs (.or (.not (.isin (.var 0) .tTuple)) (.or (.not (.chain .le .le (.cst (.int 2)) (.bi .len (.cons (.var 0) .nil)) (.cst (.int 3)))) (.not (.isin (.idxc (.var 0) 0) .tStr)))) (.cons (.ret (.cst (.bl false))) .nil) .nil) (.cons (.ifs (.cmp .eq (.bi .len (.cons (.var 0) .nil)) (.cst (.int 3))) (.cons (.ret (.and (.cmp .eq (.idxc (.var 0) 0) (.cst (.str (st 6)))) (.and (.call 9 (.cons (.idxc (.var 0) 1) .nil) []) (.call 9 (.cons (.idxc (.var 0) 2) .nil) [])))) .nil) .nil) (.cons (.ifs (.cmp .eq (.idxc (.var 0) 0) (.cst (.str (st 3)))) (.cons (.ret (.and (.isin (.idxc (.var 0) 1) .tStr) (.cmp .isin (.idxc (.var 0) 1) (.cst (.tup [(.str (st 0)), (.str (st 1)), (.str (st 2))]))))) .nil) .nil) (.cons (.ret (.and (.cmp .eq (.idxc (.var 0) 0) (.cst (.str (st 4)))) (.call 1 (.cons (.idxc (.var 0) 1) .nil) []))) .nil))))⟩
def r10 : DefRow := ⟨"check_combinators", ["combinators"], [], ["combinators"], L2.defArgs (top 25), L2.defBody (top 25), L2.defScope (top 25)⟩
/-- check_combinators -/
def f10 : FD := ⟨1, 1, (.cons (.ifs (.not (.call 9 (.cons (.var 0) .nil) [])) (.cons (.raise 4) .nil) .nil) .nil)⟩
def r11 : DefRow := ⟨"nodes_in", ["combinators"], [], ["combinators"], L2.defArgs (top 26), L2.defBody (top 26), L2.defScope (top 26)⟩
/-- nodes_in -/
def f11 : FD := ⟨1, 1, (.cons (.ifs (.cmp .ne (.idxc (.var 0) 0) (.cst (.str (st 6)))) (.cons (.ret (.cst (.int 1))) .nil) .nil) (.cons (.ret (.bin .add (.bin .add (.cst (.int 1)) (.call 11 (.cons (.idxc (.var 0) 1) .nil) [])) (.call 11 (.cons (.idxc (.var 0) 2) .nil) []))) .nil))⟩
def r12 : DefRow := ⟨"has_first", ["combinators"], [], ["combinators"], L2.defArgs (top 27), L2.defBody (top 27), L2.defScope (top 27)⟩
/-- has_first -/
def f12 : FD := ⟨1, 1, (.cons (.ifs (.cmp .eq (.idxc (.var 0) 0) (.cst (.str (st 6)))) (.cons (.ret (.or (.call 12 (.cons (.idxc (.var 0) 1) .nil) []) (.call 12 (.cons (.idxc (.var 0) 2) .nil) []))) .nil) .nil) (.cons (.ret (.cmp .eq (.var 0) (.tup (.cons (.cst (.str (st 4))) (.cons (.cst (.int 0)) .nil))))) .nil))⟩
def r13 : DefRow := ⟨"lowered", ["combinators"], [], ["combinators"], L2.defArgs (top 28), L2.defBody (top 28), L2.defScope (top 28)⟩
/-- lowered -/
def f13 : FD := ⟨1, 1, (.cons (.ifs (.cmp .eq (.idxc (.var 0) 0) (.cst (.str (st 6)))) (.cons (.ret (.tup (.cons (.cst (.str (st 6))) (.cons (.call 13 (.cons (.idxc (.var 0) 1) .nil) []) (.cons (.call 13 (.cons (.idxc (.var 0) 2) .nil) []) .nil))))) .nil) .nil) (.cons (.ifs (.cmp .eq (.idxc (.var 0) 0) (.cst (.str (st 4)))) (.cons (.ret (.tup (.cons (.cst (.str (st 4))) (.cons (.bin .sub (.idxc (.var 0) 1) (.cst (.int 1))) .nil)))) .nil) .nil) (.cons (.ret (.var 0)) .nil)))⟩
def r14 : DefRow := ⟨"taken_out", ["combinators"], [], ["combinators"], L2.defArgs (top 29), L2.defBody (top 29), L2.defScope (top 29)⟩
/-- taken_out -/
def f14 : FD := ⟨1, 1, (.cons (.ifs (.cmp .eq (.var 0) (.tup (.cons (.cst (.str (st 4))) (.cons (.cst (.int 0)) .nil)))) (.cons (.ret (.cst (.tup [(.str (st 3)), (.str (st 2))]))) .nil) .nil) (.cons (.ifs (.not (.call 12 (.cons (.var 0) .nil) [])) (.cons (.ret (.tup (.cons (.cst (.str (st 6))) (.cons (.cst (.tup [(.str (st 3)), (.str (st 1))])) (.cons (.call 13 (.cons (.var 0) .nil) []) .nil))))) .nil) .nil) (.cons (.ret (.tup (.cons (.cst (.str (st 6))) (.cons (.tup (.cons (.cst (.str (st 6))) (.cons (.cst (.tup [(.str (st 3)), (.str (st 0))])) (.cons (.call 14 (.cons (.idxc (.var 0) 1) .nil) []) .nil)))) (.cons (.call 14 (.cons (.idxc (.var 0) 2) .nil) []) .nil))))) .nil)))⟩
def r15 : DefRow := ⟨"take_out", ["combinators"], [], ["combinators"], L2.defArgs (top 30), L2.defBody (top 30), L2.defScope (top 30)⟩
/-- take_out -/
def f15 : FD := ⟨1, 1, (.cons (.expr (.call 10 (.cons (.var 0) .nil) [])) (.cons (.ret (.call 14 (.cons (.var 0) .nil) [])) .nil))⟩
def r16 : DefRow := ⟨"made_of", ["term"], [], ["term", "made"], L2.defArgs (top 31), L2.defBody (top 31), L2.defScope (top 31)⟩
/-- made_of -/
def f16 : FD := ⟨1, 2, (.cons (.ifs (.cmp .eq (.idxc (.var 0) 0) (.cst (.str (st 4)))) (.cons (.ret (.var 0)) .nil) .nil) (.cons (.ifs (.cmp .eq (.idxc (.var 0) 0) (.cst (.str (st 6)))) (.cons (.asg (.nm 1) (.tup (.cons (.cst (.str (st 6))) (.cons (.call 16 (.cons (.idxc (.var 0) 1) .nil) []) (.cons (.call 16 (.cons (.idxc (.var 0) 2) .nil) []) .nil))))) .nil) (.cons (.asg (.nm 1) (.call 14 (.cons (.call 16 (.cons (.idxc (.var 0) 1) .nil) []) .nil) [])) .nil)) (.cons (.ifs (.cmp .gt (.call 11 (.cons (.var 1) .nil) []) (.cst (.int 3000))) (.cons (.raiseF 3 (.cst (.int 3000))) .nil) .nil) (.cons (.ret (.var 1)) .nil))))⟩
def r17 : DefRow := ⟨"combinators_of", ["term"], [], ["term"], L2.defArgs (top 32), L2.defBody (top 32), L2.defScope (top 32)⟩
/-- combinators_of -/
def f17 : FD := ⟨1, 1, (.cons (.expr (.call 7 (.cons (.var 0) .nil) [])) (.cons (.ret (.call 16 (.cons (.var 0) .nil) [])) .nil))⟩
def r18 : DefRow := ⟨"constant_term", ["word"], [], ["word", "body"], L2.defArgs (top 33), L2.defBody (top 33), L2.defScope (top 33)⟩
/-- constant_term -/
def f18 : FD := ⟨1, 2, (.cons (.ifs (.cmp .eq (.var 0) (.cst (.str (st 2)))) (.cons (.ret (.tup (.cons (.cst (.str (st 5))) (.cons (.tup (.cons (.cst (.str (st 4))) (.cons (.cst (.int 0)) .nil))) .nil)))) .nil) .nil) (.cons (.ifs (.cmp .eq (.var 0) (.cst (.str (st 1)))) (.cons (.ret (.tup (.cons (.cst (.str (st 5))) (.cons (.tup (.cons (.cst (.str (st 5))) (.cons (.tup (.cons (.cst (.str (st 4))) (.cons (.cst (.int 1)) .nil))) .nil))) .nil)))) .nil) .nil) (.cons (.asg (.nm 1) (.tup (.cons (.cst (.str (st 6))) (.cons (.tup (.cons (.cst (.str (st 6))) (.cons (.tup (.cons (.cst (.str (st 4))) (.cons (.cst (.int 2)) .nil))) (.cons (.tup (.cons (.cst (.str (st 4))) (.cons (.cst (.int 0)) .nil))) .nil)))) (.cons (.tup (.cons (.cst (.str (st 6))) (.cons (.tup (.cons (.cst (.str (st 4))) (.cons (.cst (.int 1)) .nil))) (.cons (.tup (.cons (.cst (.str (st 4))) (.cons (.cst (.int 0)) .nil))) .nil)))) .nil))))) (.cons (.ret (.tup (.cons (.cst (.str (st 5))) (.cons (.tup (.cons (.cst (.str (st 5))) (.cons (.tup (.cons (.cst (.str (st 5))) (.cons (.var 1) .nil))) .nil))) .nil)))) .nil))))⟩
def r19 : DefRow := ⟨"with_terms", ["combinators"], [], ["combinators"], L2.defArgs (top 34), L2.defBody (top 34), L2.defScope (top 34)⟩
/-- with_terms -/
def f19 : FD := ⟨1, 1, (.cons (.ifs (.cmp .eq (.idxc (.var 0) 0) (.cst (.str (st 6)))) (.cons (.ret (.tup (.cons (.cst (.str (st 6))) (.cons (.call 19 (.cons (.idxc (.var 0) 1) .nil) []) (.cons (.call 19 (.cons (.idxc (.var 0) 2) .nil) []) .nil))))) .nil) .nil) (.cons (.ret (.ifx (.cmp .eq (.idxc (.var 0) 0) (.cst (.str (st 3)))) (.call 18 (.cons (.idxc (.var 0) 1) .nil) []) (.var 0))) .nil))⟩
def r20 : DefRow := ⟨"term_of", ["combinators"], [], ["combinators", "term"], L2.defArgs (top 35), L2.defBody (top 35), L2.defScope (top 35)⟩
/-- term_of -/
def f20 : FD := ⟨1, 2, (.cons (.expr (.call 10 (.cons (.var 0) .nil) [])) (.cons (.asg (.nm 1) (.call 19 (.cons (.var 0) .nil) [])) (.cons (.ifs (.cmp .gt (.call 5 (.cons (.var 1) .nil) []) (.cst (.int 3000))) (.cons (.raiseF 3 (.cst (.int 3000))) .nil) .nil) (.cons (.ret (.var 1)) .nil))))⟩
def r21 : DefRow := ⟨"step_here", ["part"], [], ["part", "one"], L2.defArgs (top 36), L2.defBody (top 36), L2.defScope (top 36)⟩
/-- step_here -/
def f21 : FD := ⟨1, 2, (.cons (.ifs (.cmp .ne (.idxc (.var 0) 0) (.cst (.str (st 6)))) (.cons (.ret (.cst .non)) .nil) .nil) (.cons (.asg (.nm 1) (.idxc (.var 0) 1)) (.cons (.ifs (.cmp .eq (.var 1) (.cst (.tup [(.str (st 3)), (.str (st 2))]))) (.cons (.ret (.idxc (.var 0) 2)) .nil) .nil) (.cons (.ifs (.cmp .ne (.idxc (.var 1) 0) (.cst (.str (st 6)))) (.cons (.ret (.cst .non)) .nil) .nil) (.cons (.ifs (.cmp .eq (.idxc (.var 1) 1) (.cst (.tup [(.str (st 3)), (.str (st 1))]))) (.cons (.ret (.idxc (.var 1) 2)) .nil) .nil) (.cons (.ifs (.or (.cmp .ne (.idxc (.idxc (.var 1) 1) 0) (.cst (.str (st 6)))) (.cmp .ne (.idxc (.idxc (.var 1) 1) 1) (.cst (.tup [(.str (st 3)), (.str (st 0))])))) (.cons (.ret (.cst .non)) .nil) .nil) (.cons (.ret (.tup (.cons (.cst (.str (st 6))) (.cons (.tup (.cons (.cst (.str (st 6))) (.cons (.idxc (.idxc (.var 1) 1) 2) (.cons (.idxc (.var 0) 2) .nil)))) (.cons (.tup (.cons (.cst (.str (st 6))) (.cons (.idxc (.var 1) 2) (.cons (.idxc (.var 0) 2) .nil)))) .nil))))) .nil)))))))⟩
def r22 : DefRow := ⟨"stepped", ["combinators"], [], ["combinators", "found"], L2.defArgs (top 37), L2.defBody (top 37), L2.defScope (top 37)⟩
/-- stepped -/
def f22 : FD := ⟨1, 2, (.cons (.asg (.nm 1) (.call 21 (.cons (.var 0) .nil) [])) (.cons (.ifs (.or (.cmp .isnot (.var 1) (.cst .non)) (.cmp .ne (.idxc (.var 0) 0) (.cst (.str (st 6))))) (.cons (.ret (.var 1)) .nil) .nil) (.cons (.asg (.nm 1) (.call 22 (.cons (.idxc (.var 0) 1) .nil) [])) (.cons (.ifs (.cmp .isnot (.var 1) (.cst .non)) (.cons (.ret (.tup (.cons (.cst (.str (st 6))) (.cons (.var 1) (.cons (.idxc (.var 0) 2) .nil))))) .nil) .nil) (.cons (.asg (.nm 1) (.call 22 (.cons (.idxc (.var 0) 2) .nil) [])) (.cons (.ret (.ifx (.cmp .is (.var 1) (.cst .non)) (.cst .non) (.tup (.cons (.cst (.str (st 6))) (.cons (.idxc (.var 0) 1) (.cons (.var 1) .nil)))))) .nil))))))⟩
def r23 : DefRow := ⟨"combinator_step", ["combinators"], [], ["combinators"], L2.defArgs (top 38), L2.defBody (top 38), L2.defScope (top 38)⟩
/-- combinator_step -/
def f23 : FD := ⟨1, 1, (.cons (.expr (.call 10 (.cons (.var 0) .nil) [])) (.cons (.ret (.call 22 (.cons (.var 0) .nil) [])) .nil))⟩
def r24 : DefRow := ⟨"combinator_end", ["combinators", "most"], [], ["combinators", "most", "count", "found"], L2.defArgs (top 39), L2.defBody (top 39), L2.defScope (top 39)⟩
/-- combinator_end -/
def f24 : FD := ⟨2, 4, (.cons (.expr (.call 10 (.cons (.var 0) .nil) [])) (.cons (.expr (.call 2 (.cons (.var 1) .nil) [])) (.cons (.asg (.nm 2) (.cst (.int 0))) (.cons (.asg (.nm 3) (.call 22 (.cons (.var 0) .nil) [])) (.cons (.whl (.cmp .isnot (.var 3) (.cst .non)) (.cons (.ifs (.cmp .eq (.var 2) (.var 1)) (.cons (.raiseF 3 (.var 1)) .nil) .nil) (.cons (.asg (.nm 2) (.bin .add (.var 2) (.cst (.int 1)))) (.cons (.asg (.nm 0) (.var 3)) (.cons (.asg (.nm 3) (.call 22 (.cons (.var 0) .nil) [])) .nil))))) (.cons (.ret (.tup (.cons (.var 0) (.cons (.var 2) .nil)))) .nil))))))⟩
def r25 : DefRow := ⟨"_law_stream", ["script"], [], ["script", "cells", "seed", "k", "cell"], L2.defArgs (top 41), L2.defBody (top 41), L2.defScope (top 41)⟩
/-- _law_stream -/
def f25 : FD := ⟨1, 5, (.cons (.asg (.nm 1) (.bi .list1 (.cons (.slice (.var 0) .no (.so (.cst (.int 63)))) .nil))) (.cons (.asg (.nm 2) (.cst (.int 11))) (.cons (.for_ (.tp [3, 4]) (.enum (.var 1)) (.cons (.asg (.nm 2) (.bin .mod (.bi .int1 (.cons (.bin .add (.bin .add (.bin .mul (.var 2) (.cst (.int 31))) (.bin .mul (.var 4) (.bin .add (.var 3) (.cst (.int 3))))) (.cst (.int 7))) .nil)) (.cst (.int 2147483629)))) .nil)) (.cons (.ret (.lst (.cons (.var 1) (.cons (.cst (.int 0)) (.cons (.cst (.int 0)) (.cons (.cst (.int 0)) (.cons (.var 2) .nil))))))) .nil))))⟩
def r26 : DefRow := ⟨"_law_take", ["stream", "limit"], [], ["stream", "limit", "found", "base", "cell", "count", "mixed"], L2.defArgs (top 42), L2.defBody (top 42), L2.defScope (top 42)⟩
/-- _law_take -/
def f26 : FD := ⟨2, 7, (.cons (.asg (.sub (.var 0) (.cst (.int 3))) (.bin .add (.idxc (.var 0) 3) (.cst (.int 1)))) (.cons (.ifs (.cmp .ge (.idxc (.var 0) 2) (.var 1)) (.cons (.asg (.nm 2) (.bin .mod (.bi .int1 (.cons (.idxc (.var 0) 2) .nil)) (.var 1))) (.cons (.asg (.sub (.var 0) (.cst (.int 2))) (.bin .fdiv (.idxc (.var 0) 2) (.var 1))) (.cons (.ret (.var 2)) .nil))) .nil) (.cons (.asg (.nm 3) (.idxc (.var 0) 4)) (.cons (.ifs (.cmp .lt (.idxc (.var 0) 1) (.bi .len (.cons (.idxc (.var 0) 0) .nil))) (.cons (.asg (.nm 4) (.idx (.idxc (.var 0) 0) (.idxc (.var 0) 1))) (.cons (.asg (.sub (.var 0) (.cst (.int 1))) (.bin .add (.idxc (.var 0) 1) (.cst (.int 1)))) (.cons (.ifs (.cmp .ge (.var 4) (.bin .pow (.cst (.int 10)) (.cst (.int 18)))) (.cons (.asg (.sub (.var 0) (.cst (.int 2))) (.bin .fdiv (.var 4) (.var 1))) (.cons (.ret (.bin .mod (.bi .int1 (.cons (.var 4) .nil)) (.var 1))) .nil)) .nil) (.cons (.asg (.nm 3) (.bin .mod (.bi .int1 (.cons (.bin .add (.var 3) (.bin .mul (.var 4) (.cst (.int 69997)))) .nil)) (.cst (.int 2147483647)))) .nil)))) .nil) (.cons (.asg (.nm 5) (.idxc (.var 0) 3)) (.cons (.asg (.nm 6) (.bin .mod (.bi .int1 (.cons (.bin .add (.bin .add (.bin .mul (.var 3) (.cst (.int 48271))) (.bin .mul (.bin .mul (.var 5) (.var 5)) (.cst (.int 69621)))) (.cst (.int 12345))) .nil)) (.cst (.int 2147483647)))) (.cons (.ret (.bin .mod (.bin .mod (.bi .int1 (.cons (.bin .add (.bin .mul (.var 6) (.cst (.int 16807))) (.bin .mul (.var 5) (.cst (.int 7919)))) .nil)) (.cst (.int 2147483629))) (.var 1))) .nil)))))))⟩
def r27 : DefRow := ⟨"_law_same", ["one", "other"], [], ["one", "other", "a", "b"], L2.defArgs (top 43), L2.defBody (top 43), L2.defScope (top 43)⟩
/-- _law_same -/
def f27 : FD := ⟨2, 4, (.cons (.ifs (.isin (.var 1) .tTuple) (.cons (.ifs (.or (.not (.isin (.var 0) .tTuple)) (.cmp .ne (.bi .len (.cons (.var 0) .nil)) (.bi .len (.cons (.var 1) .nil)))) (.cons (.ret (.cst (.bl false))) .nil) .nil) (.cons (.ret (.bi .all1 (.cons (.lc [2, 3] (.tp [2, 3]) (.zip (.var 0) (.var 1)) .nil (.call 27 (.cons (.var 2) (.cons (.var 3) .nil)) [])) .nil))) .nil)) .nil) (.cons (.ifs (.isin (.var 1) .tList) (.cons (.ifs (.or (.not (.isin (.var 0) .tList)) (.cmp .ne (.bi .len (.cons (.var 0) .nil)) (.bi .len (.cons (.var 1) .nil)))) (.cons (.ret (.cst (.bl false))) .nil) .nil) (.cons (.ret (.bi .all1 (.cons (.lc [2, 3] (.tp [2, 3]) (.zip (.var 0) (.var 1)) .nil (.call 27 (.cons (.var 2) (.cons (.var 3) .nil)) [])) .nil))) .nil)) .nil) (.cons (.ifs (.cmp .is (.var 1) (.cst .non)) (.cons (.ret (.cmp .is (.var 0) (.cst .non))) .nil) .nil) (.cons (.ifs (.cmp .is (.var 1) (.cst (.bl true))) (.cons (.ret (.cmp .is (.var 0) (.cst (.bl true)))) .nil) .nil) (.cons (.ifs (.cmp .is (.var 1) (.cst (.bl false))) (.cons (.ret (.cmp .is (.var 0) (.cst (.bl false)))) .nil) .nil) (.cons (.ifs (.isin (.var 1) .tInt) (.cons (.ret (.and (.isin (.var 0) .tInt) (.and (.not (.isin (.var 0) .tBool)) (.cmp .eq (.var 0) (.var 1))))) .nil) .nil) (.cons (.ret (.and (.isin (.var 0) .tStr) (.cmp .eq (.var 0) (.var 1)))) .nil)))))))⟩
def r28 : DefRow := ⟨"_law_term", ["stream", "room", "scope"], [], ["stream", "room", "scope", "kind", "left"], L2.defArgs (top 44), L2.defBody (top 44), L2.defScope (top 44)⟩
/-- _law_term -/
def f28 : FD := ⟨3, 5, (.cons (.ifs (.and (.cmp .eq (.var 2) (.cst (.int 0))) (.cmp .lt (.var 1) (.cst (.int 3)))) (.cons (.ret (.tup (.cons (.cst (.str (st 5))) (.cons (.tup (.cons (.cst (.str (st 4))) (.cons (.cst (.int 0)) .nil))) .nil)))) .nil) .nil) (.cons (.asg (.nm 3) (.call 26 (.cons (.var 0) (.cons (.cst (.int 5)) .nil)) [])) (.cons (.ifs (.and (.cmp .eq (.var 2) (.cst (.int 0))) (.cmp .lt (.var 3) (.cst (.int 2)))) (.cons (.asg (.nm 3) (.cst (.int 2))) .nil) .nil) (.cons (.ifs (.or (.cmp .lt (.var 1) (.cst (.int 2))) (.cmp .eq (.var 3) (.cst (.int 0)))) (.cons (.ret (.tup (.cons (.cst (.str (st 4))) (.cons (.call 26 (.cons (.var 0) (.cons (.var 2) .nil)) []) .nil)))) .nil) .nil) (.cons (.ifs (.or (.cmp .lt (.var 3) (.cst (.int 3))) (.or (.cmp .lt (.var 1) (.cst (.int 3))) (.and (.cmp .eq (.var 2) (.cst (.int 0))) (.cmp .lt (.var 1) (.cst (.int 5)))))) (.cons (.ret (.tup (.cons (.cst (.str (st 5))) (.cons (.call 28 (.cons (.var 0) (.cons (.bin .sub (.var 1) (.cst (.int 1))) (.cons (.bin .add (.var 2) (.cst (.int 1))) .nil))) []) .nil)))) .nil) .nil) (.cons (.ifs (.cmp .eq (.var 2) (.cst (.int 0))) (.cons (.asg (.nm 4) (.bin .add (.cst (.int 2)) (.call 26 (.cons (.var 0) (.cons (.bin .sub (.var 1) (.cst (.int 4))) .nil)) []))) .nil) (.cons (.asg (.nm 4) (.bin .add (.cst (.int 1)) (.call 26 (.cons (.var 0) (.cons (.bin .sub (.var 1) (.cst (.int 2))) .nil)) []))) .nil)) (.cons (.ret (.tup (.cons (.cst (.str (st 6))) (.cons (.call 28 (.cons (.var 0) (.cons (.var 4) (.cons (.var 2) .nil))) []) (.cons (.call 28 (.cons (.var 0) (.cons (.bin .sub (.bin .sub (.var 1) (.cst (.int 1))) (.var 4)) (.cons (.var 2) .nil))) []) .nil))))) .nil)))))))⟩
def r29 : DefRow := ⟨"_law_has", ["combinators", "number"], [], ["combinators", "number"], L2.defArgs (top 45), L2.defBody (top 45), L2.defScope (top 45)⟩
/-- _law_has -/
def f29 : FD := ⟨2, 2, (.cons (.ifs (.cmp .eq (.idxc (.var 0) 0) (.cst (.str (st 6)))) (.cons (.ret (.or (.call 29 (.cons (.idxc (.var 0) 1) (.cons (.var 1) .nil)) []) (.call 29 (.cons (.idxc (.var 0) 2) (.cons (.var 1) .nil)) []))) .nil) .nil) (.cons (.ret (.cmp .eq (.var 0) (.tup (.cons (.cst (.str (st 4))) (.cons (.var 1) .nil))))) .nil))⟩
def r30 : DefRow := ⟨"_law_turned", ["combinators", "change"], [], ["combinators", "change"], L2.defArgs (top 46), L2.defBody (top 46), L2.defScope (top 46)⟩
/-- _law_turned -/
def f30 : FD := ⟨2, 2, (.cons (.ifs (.cmp .eq (.idxc (.var 0) 0) (.cst (.str (st 6)))) (.cons (.ret (.tup (.cons (.cst (.str (st 6))) (.cons (.call 30 (.cons (.idxc (.var 0) 1) (.cons (.var 1) .nil)) []) (.cons (.call 30 (.cons (.idxc (.var 0) 2) (.cons (.var 1) .nil)) []) .nil))))) .nil) .nil) (.cons (.ret (.ifx (.cmp .eq (.idxc (.var 0) 0) (.cst (.str (st 4)))) (.tup (.cons (.cst (.str (st 4))) (.cons (.bin .add (.idxc (.var 0) 1) (.var 1)) .nil))) (.var 0))) .nil))⟩
def r31 : DefRow := ⟨"_law_out", ["combinators"], [], ["combinators"], L2.defArgs (top 47), L2.defBody (top 47), L2.defScope (top 47)⟩
/-- _law_out -/
def f31 : FD := ⟨1, 1, (.cons (.ifs (.cmp .eq (.var 0) (.tup (.cons (.cst (.str (st 4))) (.cons (.cst (.int 0)) .nil)))) (.cons (.ret (.tup (.cons (.cst (.str (st 3))) (.cons (.cst (.str (st 2))) .nil)))) .nil) .nil) (.cons (.ifs (.not (.call 29 (.cons (.var 0) (.cons (.cst (.int 0)) .nil)) [])) (.cons (.ret (.tup (.cons (.cst (.str (st 6))) (.cons (.tup (.cons (.cst (.str (st 3))) (.cons (.cst (.str (st 1))) .nil))) (.cons (.call 30 (.cons (.var 0) (.cons (.neg (.cst (.int 1))) .nil)) []) .nil))))) .nil) .nil) (.cons (.ret (.tup (.cons (.cst (.str (st 6))) (.cons (.tup (.cons (.cst (.str (st 6))) (.cons (.tup (.cons (.cst (.str (st 3))) (.cons (.cst (.str (st 0))) .nil))) (.cons (.call 31 (.cons (.idxc (.var 0) 1) .nil) []) .nil)))) (.cons (.call 31 (.cons (.idxc (.var 0) 2) .nil) []) .nil))))) .nil)))⟩
def r32 : DefRow := ⟨"_law_made", ["term"], [], ["term"], L2.defArgs (top 48), L2.defBody (top 48), L2.defScope (top 48)⟩
/-- _law_made -/
def f32 : FD := ⟨1, 1, (.cons (.ifs (.cmp .eq (.idxc (.var 0) 0) (.cst (.str (st 4)))) (.cons (.ret (.var 0)) .nil) .nil) (.cons (.ifs (.cmp .eq (.idxc (.var 0) 0) (.cst (.str (st 5)))) (.cons (.ret (.call 31 (.cons (.call 32 (.cons (.idxc (.var 0) 1) .nil) []) .nil) [])) .nil) .nil) (.cons (.ret (.tup (.cons (.cst (.str (st 6))) (.cons (.call 32 (.cons (.idxc (.var 0) 1) .nil) []) (.cons (.call 32 (.cons (.idxc (.var 0) 2) .nil) []) .nil))))) .nil)))⟩
def r33 : DefRow := ⟨"_law_filled", ["combinators", "other"], [], ["combinators", "other"], L2.defArgs (top 49), L2.defBody (top 49), L2.defScope (top 49)⟩
/-- _law_filled -/
def f33 : FD := ⟨2, 2, (.cons (.ifs (.cmp .eq (.idxc (.var 0) 0) (.cst (.str (st 6)))) (.cons (.ret (.tup (.cons (.cst (.str (st 6))) (.cons (.call 33 (.cons (.idxc (.var 0) 1) (.cons (.var 1) .nil)) []) (.cons (.call 33 (.cons (.idxc (.var 0) 2) (.cons (.var 1) .nil)) []) .nil))))) .nil) .nil) (.cons (.ifs (.cmp .eq (.idxc (.var 0) 0) (.cst (.str (st 3)))) (.cons (.ret (.var 0)) .nil) .nil) (.cons (.ret (.ifx (.cmp .eq (.idxc (.var 0) 1) (.cst (.int 0))) (.var 1) (.tup (.cons (.cst (.str (st 4))) (.cons (.bin .sub (.idxc (.var 0) 1) (.cst (.int 1))) .nil))))) .nil)))⟩
def r34 : DefRow := ⟨"_law_term_of", ["combinators"], [], ["combinators", "inner"], L2.defArgs (top 50), L2.defBody (top 50), L2.defScope (top 50)⟩
/-- _law_term_of -/
def f34 : FD := ⟨1, 2, (.cons (.ifs (.cmp .eq (.idxc (.var 0) 0) (.cst (.str (st 6)))) (.cons (.ret (.tup (.cons (.cst (.str (st 6))) (.cons (.call 34 (.cons (.idxc (.var 0) 1) .nil) []) (.cons (.call 34 (.cons (.idxc (.var 0) 2) .nil) []) .nil))))) .nil) .nil) (.cons (.ifs (.cmp .eq (.idxc (.var 0) 0) (.cst (.str (st 4)))) (.cons (.ret (.var 0)) .nil) .nil) (.cons (.ifs (.cmp .eq (.idxc (.var 0) 1) (.cst (.str (st 2)))) (.cons (.ret (.tup (.cons (.cst (.str (st 5))) (.cons (.tup (.cons (.cst (.str (st 4))) (.cons (.cst (.int 0)) .nil))) .nil)))) .nil) .nil) (.cons (.ifs (.cmp .eq (.idxc (.var 0) 1) (.cst (.str (st 1)))) (.cons (.ret (.tup (.cons (.cst (.str (st 5))) (.cons (.tup (.cons (.cst (.str (st 5))) (.cons (.tup (.cons (.cst (.str (st 4))) (.cons (.cst (.int 1)) .nil))) .nil))) .nil)))) .nil) .nil) (.cons (.asg (.nm 1) (.tup (.cons (.cst (.str (st 6))) (.cons (.tup (.cons (.cst (.str (st 6))) (.cons (.tup (.cons (.cst (.str (st 4))) (.cons (.cst (.int 2)) .nil))) (.cons (.tup (.cons (.cst (.str (st 4))) (.cons (.cst (.int 0)) .nil))) .nil)))) (.cons (.tup (.cons (.cst (.str (st 6))) (.cons (.tup (.cons (.cst (.str (st 4))) (.cons (.cst (.int 1)) .nil))) (.cons (.tup (.cons (.cst (.str (st 4))) (.cons (.cst (.int 0)) .nil))) .nil)))) .nil))))) (.cons (.ret (.tup (.cons (.cst (.str (st 5))) (.cons (.tup (.cons (.cst (.str (st 5))) (.cons (.tup (.cons (.cst (.str (st 5))) (.cons (.var 1) .nil))) .nil))) .nil)))) .nil))))))⟩
def r35 : DefRow := ⟨"_law_first", ["combinators"], [], ["combinators", "row", "rest", "wanted", "left", "right"], L2.defArgs (top 51), L2.defBody (top 51), L2.defScope (top 51)⟩
/-- _law_first -/
def f35 : FD := ⟨1, 6, (.cons (.asg (.nm 1) (.lst .nil)) (.cons (.asg (.nm 2) (.var 0)) (.cons (.whl (.cmp .eq (.idxc (.var 2) 0) (.cst (.str (st 6)))) (.cons (.asg (.nm 1) (.bin .add (.lst (.cons (.idxc (.var 2) 2) .nil)) (.var 1))) (.cons (.asg (.nm 2) (.idxc (.var 2) 1)) .nil))) (.cons (.asg (.nm 3) (.dct [.inr (st 2), .inr (st 1), .inr (st 0)] (.cons (.cst (.int 1)) (.cons (.cst (.int 2)) (.cons (.cst (.int 3)) .nil))))) (.cons (.ifs (.and (.cmp .eq (.idxc (.var 2) 0) (.cst (.str (st 3)))) (.cmp .eq (.bi .len (.cons (.var 1) .nil)) (.idx (.var 3) (.idxc (.var 2) 1)))) (.cons (.ifs (.cmp .eq (.idxc (.var 2) 1) (.cst (.str (st 2)))) (.cons (.ret (.idxc (.var 1) 0)) .nil) .nil) (.cons (.ifs (.cmp .eq (.idxc (.var 2) 1) (.cst (.str (st 1)))) (.cons (.ret (.idxc (.var 1) 0)) .nil) .nil) (.cons (.ret (.tup (.cons (.cst (.str (st 6))) (.cons (.tup (.cons (.cst (.str (st 6))) (.cons (.idxc (.var 1) 0) (.cons (.idxc (.var 1) 2) .nil)))) (.cons (.tup (.cons (.cst (.str (st 6))) (.cons (.idxc (.var 1) 1) (.cons (.idxc (.var 1) 2) .nil)))) .nil))))) .nil))) .nil) (.cons (.ifs (.cmp .ne (.idxc (.var 0) 0) (.cst (.str (st 6)))) (.cons (.ret (.cst .non)) .nil) .nil) (.cons (.asg (.nm 4) (.call 35 (.cons (.idxc (.var 0) 1) .nil) [])) (.cons (.ifs (.cmp .isnot (.var 4) (.cst .non)) (.cons (.ret (.tup (.cons (.cst (.str (st 6))) (.cons (.var 4) (.cons (.idxc (.var 0) 2) .nil))))) .nil) .nil) (.cons (.asg (.nm 5) (.call 35 (.cons (.idxc (.var 0) 2) .nil) [])) (.cons (.ret (.ifx (.cmp .is (.var 5) (.cst .non)) (.cst .non) (.tup (.cons (.cst (.str (st 6))) (.cons (.idxc (.var 0) 1) (.cons (.var 5) .nil)))))) .nil))))))))))⟩
def r36 : DefRow := ⟨"_law_nodes", ["combinators"], [], ["combinators"], L2.defArgs (top 52), L2.defBody (top 52), L2.defScope (top 52)⟩
/-- _law_nodes -/
def f36 : FD := ⟨1, 1, (.cons (.ifs (.cmp .ne (.idxc (.var 0) 0) (.cst (.str (st 6)))) (.cons (.ret (.cst (.int 1))) .nil) .nil) (.cons (.ret (.bin .add (.bin .add (.cst (.int 1)) (.call 36 (.cons (.idxc (.var 0) 1) .nil) [])) (.call 36 (.cons (.idxc (.var 0) 2) .nil) []))) .nil))⟩
def r37 : DefRow := ⟨"_law_drawn", ["stream", "room"], [], ["stream", "room", "kind", "left"], L2.defArgs (top 53), L2.defBody (top 53), L2.defScope (top 53)⟩
/-- _law_drawn -/
def f37 : FD := ⟨2, 4, (.cons (.ifs (.or (.cmp .lt (.var 1) (.cst (.int 3))) (.cmp .eq (.call 26 (.cons (.var 0) (.cons (.cst (.int 5)) .nil)) []) (.cst (.int 0)))) (.cons (.asg (.nm 2) (.call 26 (.cons (.var 0) (.cons (.cst (.int 6)) .nil)) [])) (.cons (.ret (.ifx (.cmp .lt (.var 2) (.cst (.int 3))) (.tup (.cons (.cst (.str (st 4))) (.cons (.var 2) .nil))) (.tup (.cons (.cst (.str (st 3))) (.cons (.idx (.cst (.str (st 7))) (.bin .sub (.var 2) (.cst (.int 3)))) .nil))))) .nil)) .nil) (.cons (.asg (.nm 3) (.bin .add (.cst (.int 1)) (.call 26 (.cons (.var 0) (.cons (.bin .sub (.var 1) (.cst (.int 2))) .nil)) []))) (.cons (.ret (.tup (.cons (.cst (.str (st 6))) (.cons (.call 37 (.cons (.var 0) (.cons (.var 3) .nil)) []) (.cons (.call 37 (.cons (.var 0) (.cons (.bin .sub (.bin .sub (.var 1) (.cst (.int 1))) (.var 3)) .nil)) []) .nil))))) .nil)))⟩
def r38 : DefRow := ⟨"_law_spoilt", ["stream", "combinators"], [], ["stream", "combinators", "odd"], L2.defArgs (top 54), L2.defBody (top 54), L2.defScope (top 54)⟩
/-- _law_spoilt -/
def f38 : FD := ⟨2, 3, (.cons (.ifs (.and (.cmp .eq (.idxc (.var 1) 0) (.cst (.str (st 6)))) (.cmp .gt (.call 26 (.cons (.var 0) (.cons (.cst (.int 4)) .nil)) []) (.cst (.int 0)))) (.cons (.ifs (.cmp .eq (.call 26 (.cons (.var 0) (.cons (.cst (.int 2)) .nil)) []) (.cst (.int 0))) (.cons (.ret (.tup (.cons (.cst (.str (st 6))) (.cons (.call 38 (.cons (.var 0) (.cons (.idxc (.var 1) 1) .nil)) []) (.cons (.idxc (.var 1) 2) .nil))))) .nil) .nil) (.cons (.ret (.tup (.cons (.cst (.str (st 6))) (.cons (.idxc (.var 1) 1) (.cons (.call 38 (.cons (.var 0) (.cons (.idxc (.var 1) 2) .nil)) []) .nil))))) .nil)) .nil) (.cons (.asg (.nm 2) (.lst (.cons (.tup (.cons (.cst (.str (st 4))) (.cons (.neg (.cst (.int 1))) .nil))) (.cons (.tup (.cons (.cst (.str (st 4))) (.cons (.cst (.bl true)) .nil))) (.cons (.tup (.cons (.cst (.str (st 3))) (.cons (.cst (.str (st 8))) .nil))) (.cons (.tup (.cons (.cst (.str (st 3))) (.cons (.cst (.str (st 9))) .nil))) (.cons (.lst (.cons (.cst (.str (st 4))) (.cons (.cst (.int 0)) .nil))) (.cons (.tup (.cons (.cst (.str (st 5))) (.cons (.tup (.cons (.cst (.str (st 4))) (.cons (.cst (.int 0)) .nil))) .nil))) (.cons (.tup (.cons (.cst (.str (st 6))) (.cons (.tup (.cons (.cst (.str (st 4))) (.cons (.cst (.int 0)) .nil))) .nil))) (.cons (.tup (.cons (.cst (.str (st 4))) .nil)) (.cons (.cst .non) .nil))))))))))) (.cons (.ret (.idx (.var 2) (.call 26 (.cons (.var 0) (.cons (.cst (.int 9)) .nil)) []))) .nil)))⟩
def r39 : DefRow := ⟨"_law_refused", ["way", "value"], [], ["way", "value", "refused"], L2.defArgs (top 55), L2.defBody (top 55), L2.defScope (top 55)⟩
/-- _law_refused -/
def f39 : FD := ⟨2, 3, (.cons (.asg (.nm 2) (.cst (.bl false))) (.cons (.tryE (.cons (.ifs (.cmp .eq (.var 0) (.cst (.int 0))) (.cons (.expr (.call 15 (.cons (.var 1) .nil) [])) .nil) (.cons (.ifs (.cmp .eq (.var 0) (.cst (.int 1))) (.cons (.expr (.call 20 (.cons (.var 1) .nil) [])) .nil) (.cons (.ifs (.cmp .eq (.var 0) (.cst (.int 2))) (.cons (.expr (.call 23 (.cons (.var 1) .nil) [])) .nil) (.cons (.expr (.call 24 (.cons (.var 1) (.cons (.cst (.int 3)) .nil)) [])) .nil)) .nil)) .nil)) .nil) 4 none [(.setC 2 (.bl true))]) (.cons (.ret (.var 2)) .nil)))⟩
def r40 : DefRow := ⟨"_law_too_many", ["combinators", "most"], [], ["combinators", "most", "told", "error"], L2.defArgs (top 56), L2.defBody (top 56), L2.defScope (top 56)⟩
/-- _law_too_many -/
def f40 : FD := ⟨2, 4, (.cons (.asg (.nm 2) (.cst .non)) (.cons (.tryE (.cons (.expr (.call 24 (.cons (.var 0) (.cons (.var 1) .nil)) [])) .nil) 3 (some 3) [(.setF 2)]) (.cons (.ret (.var 2)) .nil)))⟩
def r41 : DefRow := ⟨"law", ["script"], [], ["script", "stream", "term", "other", "made", "further", "drawn", "last", "count", "after", "turn", "spoilt", "way"], L2.defArgs (top 57), L2.defBody (top 57), L2.defScope (top 57)⟩
/-- law -/
def f41 : FD := ⟨1, 13, (.cons (.asg (.nm 1) (.call 25 (.cons (.var 0) .nil) [])) (.cons (.asg (.nm 2) (.call 28 (.cons (.var 1) (.cons (.bin .add (.cst (.int 1)) (.call 26 (.cons (.var 1) (.cons (.cst (.int 14)) .nil)) [])) (.cons (.cst (.int 3)) .nil))) [])) (.cons (.asg (.nm 3) (.call 28 (.cons (.var 1) (.cons (.bin .add (.cst (.int 1)) (.call 26 (.cons (.var 1) (.cons (.cst (.int 6)) .nil)) [])) (.cons (.cst (.int 3)) .nil))) [])) (.cons (.asg (.tp [4, 5]) (.tup (.cons (.call 32 (.cons (.var 2) .nil) []) (.cons (.call 32 (.cons (.var 3) .nil) []) .nil)))) (.cons (.ifs (.or (.not (.call 27 (.cons (.call 17 (.cons (.var 2) .nil) []) (.cons (.var 4) .nil)) [])) (.not (.call 27 (.cons (.call 15 (.cons (.var 4) .nil) []) (.cons (.call 31 (.cons (.var 4) .nil) []) .nil)) []))) (.cons (.ret (.cst (.bl false))) .nil) .nil) (.cons (.ifs (.not (.call 27 (.cons (.call 17 (.cons (.call 8 (.cons (.var 2) (.cons (.var 3) .nil)) []) .nil) []) (.cons (.call 33 (.cons (.var 4) (.cons (.var 5) .nil)) []) .nil)) [])) (.cons (.ret (.cst (.bl false))) .nil) .nil) (.cons (.asg (.nm 6) (.call 37 (.cons (.var 1) (.cons (.bin .add (.cst (.int 1)) (.call 26 (.cons (.var 1) (.cons (.cst (.int 11)) .nil)) [])) .nil)) [])) (.cons (.ifs (.or (.not (.call 27 (.cons (.call 20 (.cons (.var 6) .nil) []) (.cons (.call 34 (.cons (.var 6) .nil) []) .nil)) [])) (.cmp .isnot (.call 9 (.cons (.var 6) .nil) []) (.cst (.bl true)))) (.cons (.ret (.cst (.bl false))) .nil) .nil) (.cons (.asg (.nm 7) (.var 6)) (.cons (.asg (.nm 8) (.cst (.int 0))) (.cons (.asg (.nm 9) (.call 35 (.cons (.var 7) .nil) [])) (.cons (.for_ (.nm 10) (.rng1 (.cst (.int 12))) (.cons (.ifs (.not (.call 27 (.cons (.call 23 (.cons (.var 7) .nil) []) (.cons (.var 9) .nil)) [])) (.cons (.ret (.cst (.bl false))) .nil) .nil) (.cons (.ifs (.or (.cmp .is (.var 9) (.cst .non)) (.cmp .gt (.call 36 (.cons (.var 9) .nil) []) (.cst (.int 100)))) (.cons .brk .nil) .nil) (.cons (.asg (.nm 7) (.var 9)) (.cons (.asg (.nm 8) (.bin .add (.var 8) (.cst (.int 1)))) (.cons (.asg (.nm 9) (.call 35 (.cons (.var 7) .nil) [])) .nil)))))) (.cons (.ifs (.and (.cmp .is (.var 9) (.cst .non)) (.not (.call 27 (.cons (.call 24 (.cons (.var 6) (.cons (.bin .add (.var 8) (.call 26 (.cons (.var 1) (.cons (.cst (.int 2)) .nil)) [])) .nil)) []) (.cons (.tup (.cons (.var 7) (.cons (.var 8) .nil))) .nil)) []))) (.cons (.ret (.cst (.bl false))) .nil) .nil) (.cons (.ifs (.and (.cmp .isnot (.var 9) (.cst .non)) (.not (.call 27 (.cons (.call 40 (.cons (.var 6) (.cons (.var 8) .nil)) []) (.cons (.var 8) .nil)) []))) (.cons (.ret (.cst (.bl false))) .nil) .nil) (.cons (.ifs (.and (.cmp .gt (.var 8) (.cst (.int 0))) (.not (.call 27 (.cons (.call 40 (.cons (.var 6) (.cons (.bin .sub (.var 8) (.cst (.int 1))) .nil)) []) (.cons (.bin .sub (.var 8) (.cst (.int 1))) .nil)) []))) (.cons (.ret (.cst (.bl false))) .nil) .nil) (.cons (.asg (.nm 11) (.call 38 (.cons (.var 1) (.cons (.var 6) .nil)) [])) (.cons (.ifs (.cmp .isnot (.call 9 (.cons (.var 11) .nil) []) (.cst (.bl false))) (.cons (.ret (.cst (.bl false))) .nil) .nil) (.cons (.ret (.bi .all1 (.cons (.lc [12] (.nm 12) (.rng1 (.cst (.int 4))) .nil (.call 39 (.cons (.var 12) (.cons (.var 11) .nil)) [])) .nil))) .nil))))))))))))))))))⟩
def rows : List DefRow := [r0, r1, r2, r3, r4, r5, r6, r7, r8, r9, r10, r11, r12, r13, r14, r15, r16, r17, r18, r19, r20, r21, r22, r23, r24, r25, r26, r27, r28, r29, r30, r31, r32, r33, r34, r35, r36, r37, r38, r39, r40, r41]
def fns : List FD := [f0, f1, f2, f3, f4, f5, f6, f7, f8, f9, f10, f11, f12, f13, f14, f15, f16, f17, f18, f19, f20, f21, f22, f23, f24, f25, f26, f27, f28, f29, f30, f31, f32, f33, f34, f35, f36, f37, f38, f39, f40, f41]
def tab : Tab := ⟨fun c d => decide ((c, d) ∈ ([(0, 0), (1, 1), (0, 1), (2, 2), (0, 2), (3, 3), (0, 3), (4, 4), (0, 4)] : List (Nat × Nat)))⟩
def G : GT := { fns := [(("is_integer" : Str), (1 : Nat), ([] : List PV)), (("is_natural" : Str), (1 : Nat), ([] : List PV)), (("check_number" : Str), (1 : Nat), ([] : List PV)), (("shift_from" : Str), (3 : Nat), ([] : List PV)), (("put_below" : Str), (3 : Nat), ([] : List PV)), (("count_nodes" : Str), (1 : Nat), ([] : List PV)), (("is_term" : Str), (1 : Nat), ([] : List PV)), (("check_term" : Str), (1 : Nat), ([] : List PV)), (("put_in" : Str), (2 : Nat), ([] : List PV)), (("is_combinators" : Str), (1 : Nat), ([] : List PV)), (("check_combinators" : Str), (1 : Nat), ([] : List PV)), (("nodes_in" : Str), (1 : Nat), ([] : List PV)), (("has_first" : Str), (1 : Nat), ([] : List PV)), (("lowered" : Str), (1 : Nat), ([] : List PV)), (("taken_out" : Str), (1 : Nat), ([] : List PV)), (("take_out" : Str), (1 : Nat), ([] : List PV)), (("made_of" : Str), (1 : Nat), ([] : List PV)), (("combinators_of" : Str), (1 : Nat), ([] : List PV)), (("constant_term" : Str), (1 : Nat), ([] : List PV)), (("with_terms" : Str), (1 : Nat), ([] : List PV)), (("term_of" : Str), (1 : Nat), ([] : List PV)), (("step_here" : Str), (1 : Nat), ([] : List PV)), (("stepped" : Str), (1 : Nat), ([] : List PV)), (("combinator_step" : Str), (1 : Nat), ([] : List PV)), (("combinator_end" : Str), (2 : Nat), ([] : List PV)), (("_law_stream" : Str), (1 : Nat), ([] : List PV)), (("_law_take" : Str), (2 : Nat), ([] : List PV)), (("_law_same" : Str), (2 : Nat), ([] : List PV)), (("_law_term" : Str), (3 : Nat), ([] : List PV)), (("_law_has" : Str), (2 : Nat), ([] : List PV)), (("_law_turned" : Str), (2 : Nat), ([] : List PV)), (("_law_out" : Str), (1 : Nat), ([] : List PV)), (("_law_made" : Str), (1 : Nat), ([] : List PV)), (("_law_filled" : Str), (2 : Nat), ([] : List PV)), (("_law_term_of" : Str), (1 : Nat), ([] : List PV)), (("_law_first" : Str), (1 : Nat), ([] : List PV)), (("_law_nodes" : Str), (1 : Nat), ([] : List PV)), (("_law_drawn" : Str), (2 : Nat), ([] : List PV)), (("_law_spoilt" : Str), (2 : Nat), ([] : List PV)), (("_law_refused" : Str), (2 : Nat), ([] : List PV)), (("_law_too_many" : Str), (2 : Nat), ([] : List PV)), (("law" : Str), (1 : Nat), ([] : List PV))], cons := [(("NAMES" : Str), ((.tup [(.str (st 0)), (.str (st 1)), (.str (st 2))]) : PV)), (("SPREAD" : Str), ((.tup [(.str (st 3)), (.str (st 0))]) : PV)), (("KEEP" : Str), ((.tup [(.str (st 3)), (.str (st 1))]) : PV)), (("SAME" : Str), ((.tup [(.str (st 3)), (.str (st 2))]) : PV))], excs := [(("UseError" : Str), (none : Option Str)), (("InvalidTerm" : Str), (none : Option Str)), (("InvalidNumber" : Str), (none : Option Str)), (("TooMany" : Str), (some "count" : Option Str)), (("InvalidCombinators" : Str), (none : Option Str))], hs := [3, 4], tab := tab }
theorem row0 : FnScope r0.N r0.ps r0.scope ∧ cB (cS G 60 ⟨r0.N, r0.scope, true, false, blts⟩) r0.body = some f0.body := ⟨⟨rfl, rfl, rfl, by decide +kernel, rfl, by decide +kernel, by decide +kernel⟩, by kernel_rfl⟩
theorem row1 : FnScope r1.N r1.ps r1.scope ∧ cB (cS G 60 ⟨r1.N, r1.scope, true, false, blts⟩) r1.body = some f1.body := ⟨⟨rfl, rfl, rfl, by decide +kernel, rfl, by decide +kernel, by decide +kernel⟩, by kernel_rfl⟩
theorem row2 : FnScope r2.N r2.ps r2.scope ∧ cB (cS G 60 ⟨r2.N, r2.scope, true, false, blts⟩) r2.body = some f2.body := ⟨⟨rfl, rfl, rfl, by decide +kernel, rfl, by decide +kernel, by decide +kernel⟩, by kernel_rfl⟩
theorem row3 : FnScope r3.N r3.ps r3.scope ∧ cB (cS G 60 ⟨r3.N, r3.scope, true, false, blts⟩) r3.body = some f3.body := ⟨⟨rfl, rfl, rfl, by decide +kernel, rfl, by decide +kernel, by decide +kernel⟩, by kernel_rfl⟩
theorem row4 : FnScope r4.N r4.ps r4.scope ∧ cB (cS G 60 ⟨r4.N, r4.scope, true, false, blts⟩) r4.body = some f4.body := ⟨⟨rfl, rfl, rfl, by decide +kernel, rfl, by decide +kernel, by decide +kernel⟩, by kernel_rfl⟩
theorem row5 : FnScope r5.N r5.ps r5.scope ∧ cB (cS G 60 ⟨r5.N, r5.scope, true, false, blts⟩) r5.body = some f5.body := ⟨⟨rfl, rfl, rfl, by decide +kernel, rfl, by decide +kernel, by decide +kernel⟩, by kernel_rfl⟩
theorem row6 : FnScope r6.N r6.ps r6.scope ∧ cB (cS G 60 ⟨r6.N, r6.scope, true, false, blts⟩) r6.body = some f6.body := ⟨⟨rfl, rfl, rfl, by decide +kernel, rfl, by decide +kernel, by decide +kernel⟩, by kernel_rfl⟩
theorem row7 : FnScope r7.N r7.ps r7.scope ∧ cB (cS G 60 ⟨r7.N, r7.scope, true, false, blts⟩) r7.body = some f7.body := ⟨⟨rfl, rfl, rfl, by decide +kernel, rfl, by decide +kernel, by decide +kernel⟩, by kernel_rfl⟩
theorem row8 : FnScope r8.N r8.ps r8.scope ∧ cB (cS G 60 ⟨r8.N, r8.scope, true, false, blts⟩) r8.body = some f8.body := ⟨⟨rfl, rfl, rfl, by decide +kernel, rfl, by decide +kernel, by decide +kernel⟩, by kernel_rfl⟩
theorem row9 : FnScope r9.N r9.ps r9.scope ∧ cB (cS G 60 ⟨r9.N, r9.scope, true, false, blts⟩) r9.body = some f9.body := ⟨⟨rfl, rfl, rfl, by decide +kernel, rfl, by decide +kernel, by decide +kernel⟩, by kernel_rfl⟩
theorem row10 : FnScope r10.N r10.ps r10.scope ∧ cB (cS G 60 ⟨r10.N, r10.scope, true, false, blts⟩) r10.body = some f10.body := ⟨⟨rfl, rfl, rfl, by decide +kernel, rfl, by decide +kernel, by decide +kernel⟩, by kernel_rfl⟩
theorem row11 : FnScope r11.N r11.ps r11.scope ∧ cB (cS G 60 ⟨r11.N, r11.scope, true, false, blts⟩) r11.body = some f11.body := ⟨⟨rfl, rfl, rfl, by decide +kernel, rfl, by decide +kernel, by decide +kernel⟩, by kernel_rfl⟩
theorem row12 : FnScope r12.N r12.ps r12.scope ∧ cB (cS G 60 ⟨r12.N, r12.scope, true, false, blts⟩) r12.body = some f12.body := ⟨⟨rfl, rfl, rfl, by decide +kernel, rfl, by decide +kernel, by decide +kernel⟩, by kernel_rfl⟩
theorem row13 : FnScope r13.N r13.ps r13.scope ∧ cB (cS G 60 ⟨r13.N, r13.scope, true, false, blts⟩) r13.body = some f13.body := ⟨⟨rfl, rfl, rfl, by decide +kernel, rfl, by decide +kernel, by decide +kernel⟩, by kernel_rfl⟩
theorem row14 : FnScope r14.N r14.ps r14.scope ∧ cB (cS G 60 ⟨r14.N, r14.scope, true, false, blts⟩) r14.body = some f14.body := ⟨⟨rfl, rfl, rfl, by decide +kernel, rfl, by decide +kernel, by decide +kernel⟩, by kernel_rfl⟩
theorem row15 : FnScope r15.N r15.ps r15.scope ∧ cB (cS G 60 ⟨r15.N, r15.scope, true, false, blts⟩) r15.body = some f15.body := ⟨⟨rfl, rfl, rfl, by decide +kernel, rfl, by decide +kernel, by decide +kernel⟩, by kernel_rfl⟩
theorem row16 : FnScope r16.N r16.ps r16.scope ∧ cB (cS G 60 ⟨r16.N, r16.scope, true, false, blts⟩) r16.body = some f16.body := ⟨⟨rfl, rfl, rfl, by decide +kernel, rfl, by decide +kernel, by decide +kernel⟩, by kernel_rfl⟩
theorem row17 : FnScope r17.N r17.ps r17.scope ∧ cB (cS G 60 ⟨r17.N, r17.scope, true, false, blts⟩) r17.body = some f17.body := ⟨⟨rfl, rfl, rfl, by decide +kernel, rfl, by decide +kernel, by decide +kernel⟩, by kernel_rfl⟩
theorem row18 : FnScope r18.N r18.ps r18.scope ∧ cB (cS G 60 ⟨r18.N, r18.scope, true, false, blts⟩) r18.body = some f18.body := ⟨⟨rfl, rfl, rfl, by decide +kernel, rfl, by decide +kernel, by decide +kernel⟩, by kernel_rfl⟩
theorem row19 : FnScope r19.N r19.ps r19.scope ∧ cB (cS G 60 ⟨r19.N, r19.scope, true, false, blts⟩) r19.body = some f19.body := ⟨⟨rfl, rfl, rfl, by decide +kernel, rfl, by decide +kernel, by decide +kernel⟩, by kernel_rfl⟩
theorem row20 : FnScope r20.N r20.ps r20.scope ∧ cB (cS G 60 ⟨r20.N, r20.scope, true, false, blts⟩) r20.body = some f20.body := ⟨⟨rfl, rfl, rfl, by decide +kernel, rfl, by decide +kernel, by decide +kernel⟩, by kernel_rfl⟩
theorem row21 : FnScope r21.N r21.ps r21.scope ∧ cB (cS G 60 ⟨r21.N, r21.scope, true, false, blts⟩) r21.body = some f21.body := ⟨⟨rfl, rfl, rfl, by decide +kernel, rfl, by decide +kernel, by decide +kernel⟩, by kernel_rfl⟩
theorem row22 : FnScope r22.N r22.ps r22.scope ∧ cB (cS G 60 ⟨r22.N, r22.scope, true, false, blts⟩) r22.body = some f22.body := ⟨⟨rfl, rfl, rfl, by decide +kernel, rfl, by decide +kernel, by decide +kernel⟩, by kernel_rfl⟩
theorem row23 : FnScope r23.N r23.ps r23.scope ∧ cB (cS G 60 ⟨r23.N, r23.scope, true, false, blts⟩) r23.body = some f23.body := ⟨⟨rfl, rfl, rfl, by decide +kernel, rfl, by decide +kernel, by decide +kernel⟩, by kernel_rfl⟩
theorem row24 : FnScope r24.N r24.ps r24.scope ∧ cB (cS G 60 ⟨r24.N, r24.scope, true, false, blts⟩) r24.body = some f24.body := ⟨⟨rfl, rfl, rfl, by decide +kernel, rfl, by decide +kernel, by decide +kernel⟩, by kernel_rfl⟩
theorem row25 : FnScope r25.N r25.ps r25.scope ∧ cB (cS G 60 ⟨r25.N, r25.scope, true, false, blts⟩) r25.body = some f25.body := ⟨⟨rfl, rfl, rfl, by decide +kernel, rfl, by decide +kernel, by decide +kernel⟩, by kernel_rfl⟩
theorem row26 : FnScope r26.N r26.ps r26.scope ∧ cB (cS G 60 ⟨r26.N, r26.scope, true, false, blts⟩) r26.body = some f26.body := ⟨⟨rfl, rfl, rfl, by decide +kernel, rfl, by decide +kernel, by decide +kernel⟩, by kernel_rfl⟩
theorem row27 : FnScope r27.N r27.ps r27.scope ∧ cB (cS G 60 ⟨r27.N, r27.scope, true, false, blts⟩) r27.body = some f27.body := ⟨⟨rfl, rfl, rfl, by decide +kernel, rfl, by decide +kernel, by decide +kernel⟩, by kernel_rfl⟩
theorem row28 : FnScope r28.N r28.ps r28.scope ∧ cB (cS G 60 ⟨r28.N, r28.scope, true, false, blts⟩) r28.body = some f28.body := ⟨⟨rfl, rfl, rfl, by decide +kernel, rfl, by decide +kernel, by decide +kernel⟩, by kernel_rfl⟩
theorem row29 : FnScope r29.N r29.ps r29.scope ∧ cB (cS G 60 ⟨r29.N, r29.scope, true, false, blts⟩) r29.body = some f29.body := ⟨⟨rfl, rfl, rfl, by decide +kernel, rfl, by decide +kernel, by decide +kernel⟩, by kernel_rfl⟩
theorem row30 : FnScope r30.N r30.ps r30.scope ∧ cB (cS G 60 ⟨r30.N, r30.scope, true, false, blts⟩) r30.body = some f30.body := ⟨⟨rfl, rfl, rfl, by decide +kernel, rfl, by decide +kernel, by decide +kernel⟩, by kernel_rfl⟩
theorem row31 : FnScope r31.N r31.ps r31.scope ∧ cB (cS G 60 ⟨r31.N, r31.scope, true, false, blts⟩) r31.body = some f31.body := ⟨⟨rfl, rfl, rfl, by decide +kernel, rfl, by decide +kernel, by decide +kernel⟩, by kernel_rfl⟩
theorem row32 : FnScope r32.N r32.ps r32.scope ∧ cB (cS G 60 ⟨r32.N, r32.scope, true, false, blts⟩) r32.body = some f32.body := ⟨⟨rfl, rfl, rfl, by decide +kernel, rfl, by decide +kernel, by decide +kernel⟩, by kernel_rfl⟩
theorem row33 : FnScope r33.N r33.ps r33.scope ∧ cB (cS G 60 ⟨r33.N, r33.scope, true, false, blts⟩) r33.body = some f33.body := ⟨⟨rfl, rfl, rfl, by decide +kernel, rfl, by decide +kernel, by decide +kernel⟩, by kernel_rfl⟩
theorem row34 : FnScope r34.N r34.ps r34.scope ∧ cB (cS G 60 ⟨r34.N, r34.scope, true, false, blts⟩) r34.body = some f34.body := ⟨⟨rfl, rfl, rfl, by decide +kernel, rfl, by decide +kernel, by decide +kernel⟩, by kernel_rfl⟩
theorem row35 : FnScope r35.N r35.ps r35.scope ∧ cB (cS G 60 ⟨r35.N, r35.scope, true, false, blts⟩) r35.body = some f35.body := ⟨⟨rfl, rfl, rfl, by decide +kernel, rfl, by decide +kernel, by decide +kernel⟩, by kernel_rfl⟩
theorem row36 : FnScope r36.N r36.ps r36.scope ∧ cB (cS G 60 ⟨r36.N, r36.scope, true, false, blts⟩) r36.body = some f36.body := ⟨⟨rfl, rfl, rfl, by decide +kernel, rfl, by decide +kernel, by decide +kernel⟩, by kernel_rfl⟩
theorem row37 : FnScope r37.N r37.ps r37.scope ∧ cB (cS G 60 ⟨r37.N, r37.scope, true, false, blts⟩) r37.body = some f37.body := ⟨⟨rfl, rfl, rfl, by decide +kernel, rfl, by decide +kernel, by decide +kernel⟩, by kernel_rfl⟩
theorem row38 : FnScope r38.N r38.ps r38.scope ∧ cB (cS G 60 ⟨r38.N, r38.scope, true, false, blts⟩) r38.body = some f38.body := ⟨⟨rfl, rfl, rfl, by decide +kernel, rfl, by decide +kernel, by decide +kernel⟩, by kernel_rfl⟩
theorem row39 : FnScope r39.N r39.ps r39.scope ∧ cB (cS G 60 ⟨r39.N, r39.scope, true, false, blts⟩) r39.body = some f39.body := ⟨⟨rfl, rfl, rfl, by decide +kernel, rfl, by decide +kernel, by decide +kernel⟩, by kernel_rfl⟩
theorem row40 : FnScope r40.N r40.ps r40.scope ∧ cB (cS G 60 ⟨r40.N, r40.scope, true, false, blts⟩) r40.body = some f40.body := ⟨⟨rfl, rfl, rfl, by decide +kernel, rfl, by decide +kernel, by decide +kernel⟩, by kernel_rfl⟩
theorem row41 : FnScope r41.N r41.ps r41.scope ∧ cB (cS G 60 ⟨r41.N, r41.scope, true, false, blts⟩) r41.body = some f41.body := ⟨⟨rfl, rfl, rfl, by decide +kernel, rfl, by decide +kernel, by decide +kernel⟩, by kernel_rfl⟩
theorem tab_ok : TabOk G blts fns rows where
  len := rfl
  row := fun i r h => by
    match i, h with
    | 0, h => cases h; exact ⟨rfl, row0.1, f0, rfl, rfl, rfl, row0.2⟩
    | 1, h => cases h; exact ⟨rfl, row1.1, f1, rfl, rfl, rfl, row1.2⟩
    | 2, h => cases h; exact ⟨rfl, row2.1, f2, rfl, rfl, rfl, row2.2⟩
    | 3, h => cases h; exact ⟨rfl, row3.1, f3, rfl, rfl, rfl, row3.2⟩
    | 4, h => cases h; exact ⟨rfl, row4.1, f4, rfl, rfl, rfl, row4.2⟩
    | 5, h => cases h; exact ⟨rfl, row5.1, f5, rfl, rfl, rfl, row5.2⟩
    | 6, h => cases h; exact ⟨rfl, row6.1, f6, rfl, rfl, rfl, row6.2⟩
    | 7, h => cases h; exact ⟨rfl, row7.1, f7, rfl, rfl, rfl, row7.2⟩
    | 8, h => cases h; exact ⟨rfl, row8.1, f8, rfl, rfl, rfl, row8.2⟩
    | 9, h => cases h; exact ⟨rfl, row9.1, f9, rfl, rfl, rfl, row9.2⟩
    | 10, h => cases h; exact ⟨rfl, row10.1, f10, rfl, rfl, rfl, row10.2⟩
    | 11, h => cases h; exact ⟨rfl, row11.1, f11, rfl, rfl, rfl, row11.2⟩
    | 12, h => cases h; exact ⟨rfl, row12.1, f12, rfl, rfl, rfl, row12.2⟩
    | 13, h => cases h; exact ⟨rfl, row13.1, f13, rfl, rfl, rfl, row13.2⟩
    | 14, h => cases h; exact ⟨rfl, row14.1, f14, rfl, rfl, rfl, row14.2⟩
    | 15, h => cases h; exact ⟨rfl, row15.1, f15, rfl, rfl, rfl, row15.2⟩
    | 16, h => cases h; exact ⟨rfl, row16.1, f16, rfl, rfl, rfl, row16.2⟩
    | 17, h => cases h; exact ⟨rfl, row17.1, f17, rfl, rfl, rfl, row17.2⟩
    | 18, h => cases h; exact ⟨rfl, row18.1, f18, rfl, rfl, rfl, row18.2⟩
    | 19, h => cases h; exact ⟨rfl, row19.1, f19, rfl, rfl, rfl, row19.2⟩
    | 20, h => cases h; exact ⟨rfl, row20.1, f20, rfl, rfl, rfl, row20.2⟩
    | 21, h => cases h; exact ⟨rfl, row21.1, f21, rfl, rfl, rfl, row21.2⟩
    | 22, h => cases h; exact ⟨rfl, row22.1, f22, rfl, rfl, rfl, row22.2⟩
    | 23, h => cases h; exact ⟨rfl, row23.1, f23, rfl, rfl, rfl, row23.2⟩
    | 24, h => cases h; exact ⟨rfl, row24.1, f24, rfl, rfl, rfl, row24.2⟩
    | 25, h => cases h; exact ⟨rfl, row25.1, f25, rfl, rfl, rfl, row25.2⟩
    | 26, h => cases h; exact ⟨rfl, row26.1, f26, rfl, rfl, rfl, row26.2⟩
    | 27, h => cases h; exact ⟨rfl, row27.1, f27, rfl, rfl, rfl, row27.2⟩
    | 28, h => cases h; exact ⟨rfl, row28.1, f28, rfl, rfl, rfl, row28.2⟩
    | 29, h => cases h; exact ⟨rfl, row29.1, f29, rfl, rfl, rfl, row29.2⟩
    | 30, h => cases h; exact ⟨rfl, row30.1, f30, rfl, rfl, rfl, row30.2⟩
    | 31, h => cases h; exact ⟨rfl, row31.1, f31, rfl, rfl, rfl, row31.2⟩
    | 32, h => cases h; exact ⟨rfl, row32.1, f32, rfl, rfl, rfl, row32.2⟩
    | 33, h => cases h; exact ⟨rfl, row33.1, f33, rfl, rfl, rfl, row33.2⟩
    | 34, h => cases h; exact ⟨rfl, row34.1, f34, rfl, rfl, rfl, row34.2⟩
    | 35, h => cases h; exact ⟨rfl, row35.1, f35, rfl, rfl, rfl, row35.2⟩
    | 36, h => cases h; exact ⟨rfl, row36.1, f36, rfl, rfl, rfl, row36.2⟩
    | 37, h => cases h; exact ⟨rfl, row37.1, f37, rfl, rfl, rfl, row37.2⟩
    | 38, h => cases h; exact ⟨rfl, row38.1, f38, rfl, rfl, rfl, row38.2⟩
    | 39, h => cases h; exact ⟨rfl, row39.1, f39, rfl, rfl, rfl, row39.2⟩
    | 40, h => cases h; exact ⟨rfl, row40.1, f40, rfl, rfl, rfl, row40.2⟩
    | 41, h => cases h; exact ⟨rfl, row41.1, f41, rfl, rfl, rfl, row41.2⟩
    | n + 42, h => simp [rows] at h
end K04
set_option Elab.async false
set_option linter.all false
set_option maxRecDepth 100000
/-! Pr1: reckoning with the small language's meaning: rows for simp. -/
namespace Pv
open PySem

theorem run_in {T : Tab} {fns : List FD} {k i : Nat} {args : List PV} {S : Store} {Q : PQ} {E : PX} {d : FD} (h : fns[i]? = some d) (hl : args.length = d.n)
    (b : WfS S → PV.underL S.length args = true → wpSs (runF T fns k) T d.body (startP d.N args) S { nx := fun _ S' => Gc S.length .non S' Q, rt := fun v S' => Gc S.length v S' Q } fun x _ S' => GcX S.length x S' E) : runF T fns (k + 1) i args S Q E :=
  ⟨d, h, hl, b⟩
theorem Gc.same {n : Nat} {v : PV} {S : Store} {Q : PQ} (h : Q v S) : Gc n v S Q := .inl h
theorem Gc.junk {v : PV} {S j : Store} {Q : PQ} (w : WfS S) (hv : v.under S.length = true) (h : Q v S) : Gc S.length v (S ++ j) Q := .inr ⟨S, j, rfl, rfl, w, hv, h⟩
theorem GcX.same {n : Nat} {x : PEx} {S : Store} {E : PX} (h : E x S) : GcX n x S E := .inl h

section
variable {i j : Int} {a b : Bool} {x y : Str} {xs ys : List PV} {S : Store} {Q : PQ} {v w : PV} {n m : Nat} {R : Bool → Prop} {L : List PV → Prop}
@[simp] theorem addQ_ii : addQ (.int i) (.int j) S Q = Q (.int (i + j)) S := rfl
@[simp] theorem addQ_tt : addQ (.tup xs) (.tup ys) S Q = (xs.length + ys.length ≤ sizeLine ∧ Q (.tup (xs ++ ys)) S) := rfl
@[simp] theorem addQ_ss : addQ (.str x) (.str y) S Q = (x.length + y.length ≤ sizeLine ∧ Q (.str (x ++ y)) S) := rfl
@[simp] theorem addQ_rr : addQ (.ref n) (.ref m) S Q = (∃ xs ys, S[n]? = some (.lst xs) ∧ S[m]? = some (.lst ys) ∧ xs.length + ys.length ≤ sizeLine ∧ Q (.ref S.length) (S ++ [.lst (xs ++ ys)])) := rfl
@[simp] theorem intQ_ii {C : Int → Int → Prop} {f : Int → Int → PV} : intQ C f (.int i) (.int j) S Q = (C i j ∧ Q (f i j) S) := rfl
@[simp] theorem binQ_add : binQ .add = addQ := rfl
@[simp] theorem binQ_sub : binQ .sub = intQ (fun _ _ => True) fun i j => .int (i - j) := rfl
@[simp] theorem binQ_mul : binQ .mul = intQ L2.CMul fun i j => .int (i * j) := rfl
@[simp] theorem binQ_fdiv : binQ .fdiv = intQ L2.CDiv fun i j => .int (i / j) := rfl
@[simp] theorem binQ_mod : binQ .mod = intQ (fun _ j => 0 < j) fun i j => .int (i % j) := rfl
@[simp] theorem binQ_pow : binQ .pow = intQ L2.CPow fun i j => .int (i ^ j.toNat) := rfl
@[simp] theorem eqQ_ss {f : Bool → Bool} : eqQ f (.str x) (.str y) S Q = Q (.bl (f (decide (x = y)))) S := rfl
@[simp] theorem eqQ_ii {f : Bool → Bool} : eqQ f (.int i) (.int j) S Q = Q (.bl (f (decide (i = j)))) S := rfl
@[simp] theorem eqQ_tt {f : Bool → Bool} : eqQ f (.tup xs) (.tup ys) S Q = (eqOk (.tup xs) (.tup ys) ∧ Q (.bl (f (eqB (.tup xs) (.tup ys)))) S) := rfl
@[simp] theorem isQ_bb {f : Bool → Bool} : isQ f (.bl a) (.bl b) S Q = Q (.bl (f (decide (a = b)))) S := rfl
@[simp] theorem isQ_nn {f : Bool → Bool} : isQ f .non .non S Q = Q (.bl (f true)) S := rfl
@[simp] theorem isQ_nb {f : Bool → Bool} : isQ f .non (.bl b) S Q = Q (.bl (f false)) S := rfl
@[simp] theorem isQ_bn {f : Bool → Bool} : isQ f (.bl b) .non S Q = Q (.bl (f false)) S := rfl
@[simp] theorem isQ_in {f : Bool → Bool} : isQ f (.int i) .non S Q = Q (.bl (f false)) S := rfl
@[simp] theorem isQ_sn {f : Bool → Bool} : isQ f (.str x) .non S Q = Q (.bl (f false)) S := rfl
@[simp] theorem isQ_tn {f : Bool → Bool} : isQ f (.tup xs) .non S Q = Q (.bl (f false)) S := rfl
@[simp] theorem isQ_rn {f : Bool → Bool} : isQ f (.ref n) .non S Q = Q (.bl (f false)) S := rfl
@[simp] theorem isQ_ib {f : Bool → Bool} : isQ f (.int i) (.bl b) S Q = Q (.bl (f false)) S := rfl
@[simp] theorem isQ_sb {f : Bool → Bool} : isQ f (.str x) (.bl b) S Q = Q (.bl (f false)) S := rfl
@[simp] theorem isQ_tb {f : Bool → Bool} : isQ f (.tup xs) (.bl b) S Q = Q (.bl (f false)) S := rfl
@[simp] theorem isQ_rb {f : Bool → Bool} : isQ f (.ref n) (.bl b) S Q = Q (.bl (f false)) S := rfl
@[simp] theorem inQ_t {f : Bool → Bool} : inQ f v (.tup xs) S Q = (inOk v xs ∧ Q (.bl (f (inB v xs))) S) := by cases v <;> rfl
@[simp] theorem inQ_r {f : Bool → Bool} : inQ f v (.ref n) S Q = (∃ o, S[n]? = some o ∧ o.inQ v fun b => Q (.bl (f b)) S) := by cases v <;> rfl
@[simp] theorem cmpQ_eq : cmpQ .eq = eqQ fun b => b := rfl
@[simp] theorem cmpQ_ne : cmpQ .ne = eqQ fun b => !b := rfl
@[simp] theorem cmpQ_lt : cmpQ .lt = intQ (fun _ _ => True) fun i j => .bl (decide (i < j)) := rfl
@[simp] theorem cmpQ_le : cmpQ .le = intQ (fun _ _ => True) fun i j => .bl (decide (i ≤ j)) := rfl
@[simp] theorem cmpQ_gt : cmpQ .gt = intQ (fun _ _ => True) fun i j => .bl (decide (j < i)) := rfl
@[simp] theorem cmpQ_ge : cmpQ .ge = intQ (fun _ _ => True) fun i j => .bl (decide (j ≤ i)) := rfl
@[simp] theorem cmpQ_is : cmpQ .is = isQ fun b => b := rfl
@[simp] theorem cmpQ_isnot : cmpQ .isnot = isQ fun b => !b := rfl
@[simp] theorem cmpQ_isin : cmpQ .isin = inQ fun b => b := rfl
@[simp] theorem cmpQ_notin : cmpQ .notin = inQ fun b => !b := rfl
@[simp] theorem truQ_b : truQ (.bl b) S R = R b := rfl
@[simp] theorem truQ_n : truQ .non S R = R false := rfl
@[simp] theorem truQ_i : truQ (.int i) S R = R (i != 0) := rfl
@[simp] theorem truQ_t : truQ (.tup xs) S R = R (!xs.isEmpty) := rfl
@[simp] theorem truQ_r : truQ (.ref n) S R = (∃ o, S[n]? = some o ∧ o.sq = true ∧ R (!o.items.isEmpty)) := rfl
@[simp] theorem seqQ_t : seqQ (.tup xs) S L = L xs := rfl
@[simp] theorem seqQ_r : seqQ (.ref n) S L = (∃ o, S[n]? = some o ∧ o.sq = true ∧ L o.items) := rfl
@[simp] theorem items_lst : (Mo.lst xs).items = xs := rfl
@[simp] theorem items_frz : (Mo.frz xs).items = xs := rfl
@[simp] theorem idxcQ_t : idxcQ m (.tup xs) S Q = (∃ x, xs[m]? = some x ∧ Q x S) := rfl
@[simp] theorem idxcQ_r : idxcQ m (.ref n) S Q = (∃ o, S[n]? = some o ∧ o.sq = true ∧ ∃ x, o.items[m]? = some x ∧ Q x S) := rfl
@[simp] theorem idxQ_t : idxQ (.tup xs) (.int i) S Q = (∃ x, atPV xs i = some x ∧ Q x S) := rfl
@[simp] theorem idxQ_r : idxQ (.ref n) v S Q = (∃ o, S[n]? = some o ∧ o.atQ v fun x => Q x S) := by cases v <;> rfl
@[simp] theorem idxQ_s : idxQ (.str x) (.int i) S Q = (x.length ≤ sizeLine ∧ ∃ c, L2.atI x.cps.toList i = some c ∧ Q (.str ⟨#[c]⟩) S) := rfl
variable {kvs : List (L2.Key × PV)} {RV : PV → Prop} {RM : Mo → Prop} {RO : Option PV → Prop} {RS : Store → Prop} {kk : L2.Key} {z : PV}
@[simp] theorem atQ_l : (Mo.lst xs).atQ (.int i) RV = (∃ x, atPV xs i = some x ∧ RV x) := rfl
@[simp] theorem atQ_f : (Mo.frz xs).atQ (.int i) RV = (∃ x, atPV xs i = some x ∧ RV x) := rfl
@[simp] theorem atQ_d : (Mo.dct kvs).atQ v RV = (∃ k x, keyOf v = some k ∧ getP kvs k = some x ∧ RV x) := by cases v <;> rfl
@[simp] theorem putQ_l : (Mo.lst xs).putQ (.int i) v RM = (∃ j, L2.ixN xs.length i = some j ∧ RM (.lst (xs.set j v))) := rfl
@[simp] theorem putQ_d : (Mo.dct kvs).putQ w v RM = (∃ k, keyOf w = some k ∧ kvs.length < sizeLine ∧ RM (.dct (putP kvs k v))) := by cases w <;> rfl
@[simp] theorem inQ_l : (Mo.lst xs).inQ v R = (inOk v xs ∧ R (inB v xs)) := rfl
@[simp] theorem inQ_f : (Mo.frz xs).inQ v R = (inOk v xs ∧ R (inB v xs)) := rfl
@[simp] theorem inQ_d : (Mo.dct kvs).inQ v R = (∃ k, keyOf v = some k ∧ R (getP kvs k).isSome) := rfl
@[simp] theorem sq_l : (Mo.lst xs).sq = true := rfl
@[simp] theorem sq_f : (Mo.frz xs).sq = true := rfl
@[simp] theorem sq_d : (Mo.dct kvs).sq = false := rfl
@[simp] theorem its_l : (Mo.lst xs).its = xs := rfl
@[simp] theorem its_f : (Mo.frz xs).its = xs := rfl
@[simp] theorem its_d : (Mo.dct kvs).its = keysP kvs := rfl
@[simp] theorem keyOf_i : keyOf (.int i) = some (.inl i) := rfl
@[simp] theorem keyOf_s : keyOf (.str x) = some (.inr x) := rfl
@[simp] theorem dget_r : dgetQ (.ref n) w S RO = (∃ kvs k, S[n]? = some (.dct kvs) ∧ keyOf w = some k ∧ RO (getP kvs k)) := rfl
@[simp] theorem dput_r : dputQ (.ref n) w v S RS = (∃ kvs k, S[n]? = some (.dct kvs) ∧ keyOf w = some k ∧ kvs.length < sizeLine ∧ RS (S.set n (.dct (putP kvs k v)))) := rfl
@[simp] theorem isD_r : isDQ (.ref n) S = (∃ kvs, S[n]? = some (.dct kvs)) := rfl
@[simp] theorem rev_r : revQ (.ref n) S Q = (∃ o, S[n]? = some o ∧ o.sq = true ∧ Q (.ref S.length) (S ++ [.lst o.items.reverse])) := rfl
@[simp] theorem aug_a : augQ .add (.int i) (.int j) S Q = Q (.int (i + j)) S := by simp [augQ, intQ]
@[simp] theorem aug_s : augQ .sub (.int i) (.int j) S Q = Q (.int (i - j)) S := by simp [augQ, intQ]
@[simp] theorem getP_nil : getP [] kk = none := rfl
@[simp] theorem getP_cons {j : L2.Key} : getP ((j, v) :: kvs) kk = if j = kk then some v else getP kvs kk := rfl
@[simp] theorem setP_nil : setP kk v [] = [] := rfl
@[simp] theorem setP_cons {j : L2.Key} : setP kk v ((j, w) :: kvs) = if j = kk then (j, v) :: setP kk v kvs else (j, w) :: setP kk v kvs := rfl
@[simp] theorem putP_eq : putP kvs kk v = if (getP kvs kk).isSome then setP kk v kvs else kvs ++ [(kk, v)] := rfl
@[simp] theorem mkD_nil {acc : List (L2.Key × PV)} : mkD [] xs acc = acc := by cases xs <;> rfl
@[simp] theorem mkD_cons {acc : List (L2.Key × PV)} {ks : List L2.Key} : mkD (kk :: ks) (v :: xs) acc = mkD ks xs (putP acc kk v) := rfl
@[simp] theorem sliceQ_t {lo hi : Option Int} : sliceQ (.tup xs) lo hi S Q = Q (.tup (cutPV xs lo hi)) S := rfl
@[simp] theorem sliceQ_r {lo hi : Option Int} : sliceQ (.ref n) lo hi S Q = (∃ o, S[n]? = some o ∧ o.sq = true ∧ Q (.ref S.length) (S ++ [.lst (cutPV o.items lo hi)])) := rfl
@[simp] theorem ty_ii : Ty.b .tInt (.int i) S R = R true := rfl
@[simp] theorem ty_ib : Ty.b .tInt (.bl b) S R = R true := rfl
@[simp] theorem ty_in : Ty.b .tInt .non S R = R false := rfl
@[simp] theorem ty_is : Ty.b .tInt (.str x) S R = R false := rfl
@[simp] theorem ty_it : Ty.b .tInt (.tup xs) S R = R false := rfl
@[simp] theorem ty_bi : Ty.b .tBool (.int i) S R = R false := rfl
@[simp] theorem ty_bb : Ty.b .tBool (.bl b) S R = R true := rfl
@[simp] theorem ty_bn : Ty.b .tBool .non S R = R false := rfl
@[simp] theorem ty_bs : Ty.b .tBool (.str x) S R = R false := rfl
@[simp] theorem ty_bt : Ty.b .tBool (.tup xs) S R = R false := rfl
@[simp] theorem ty_si : Ty.b .tStr (.int i) S R = R false := rfl
@[simp] theorem ty_sb : Ty.b .tStr (.bl b) S R = R false := rfl
@[simp] theorem ty_sn : Ty.b .tStr .non S R = R false := rfl
@[simp] theorem ty_ss : Ty.b .tStr (.str x) S R = R true := rfl
@[simp] theorem ty_st : Ty.b .tStr (.tup xs) S R = R false := rfl
@[simp] theorem ty_ti : Ty.b .tTuple (.int i) S R = R false := rfl
@[simp] theorem ty_tb : Ty.b .tTuple (.bl b) S R = R false := rfl
@[simp] theorem ty_tn : Ty.b .tTuple .non S R = R false := rfl
@[simp] theorem ty_ts : Ty.b .tTuple (.str x) S R = R false := rfl
@[simp] theorem ty_tt : Ty.b .tTuple (.tup xs) S R = R true := rfl
@[simp] theorem ty_li : Ty.b .tList (.int i) S R = R false := rfl
@[simp] theorem ty_lb : Ty.b .tList (.bl b) S R = R false := rfl
@[simp] theorem ty_ln : Ty.b .tList .non S R = R false := rfl
@[simp] theorem ty_ls : Ty.b .tList (.str x) S R = R false := rfl
@[simp] theorem ty_lt : Ty.b .tList (.tup xs) S R = R false := rfl
@[simp] theorem ty_r {t : Ty} : Ty.b t (.ref n) S R = (∃ o, S[n]? = some o ∧ o.sq = true ∧ R (decide (t = .tList))) := by cases t <;> rfl
@[simp] theorem biQ_lens : biQ .len [.str x] S Q = (x.length ≤ sizeLine ∧ Q (.int (x.length : Nat)) S) := rfl
@[simp] theorem biQ_lent : biQ .len [.tup xs] S Q = Q (.int (xs.length : Nat)) S := rfl
@[simp] theorem biQ_lenr : biQ .len [.ref n] S Q = (∃ o, S[n]? = some o ∧ Q (.int (o.its.length : Nat)) S) := rfl
@[simp] theorem biQ_max : biQ .max2 [.int i, .int j] S Q = Q (.int (if j > i then j else i)) S := rfl
@[simp] theorem biQ_min : biQ .min2 [.int i, .int j] S Q = Q (.int (if j < i then j else i)) S := rfl
@[simp] theorem biQ_int : biQ .int1 [.int i] S Q = Q (.int i) S := rfl
@[simp] theorem biQ_intb : biQ .int1 [.bl b] S Q = Q (.int (if b then 1 else 0)) S := rfl
@[simp] theorem biQ_listt : biQ .list1 [.tup xs] S Q = Q (.ref S.length) (S ++ [.lst xs]) := rfl
@[simp] theorem biQ_listr : biQ .list1 [.ref n] S Q = (∃ o, S[n]? = some o ∧ Q (.ref S.length) (S ++ [.lst o.its])) := rfl
@[simp] theorem biQ_sorted : biQ .sorted1 [.ref n] S Q = (∃ o, S[n]? = some o ∧ ∃ ns, intsP o.its = some ns ∧ (o.sq = true ∨ ns.length < 64) ∧ Q (.ref S.length) (S ++ [.lst ((sortI ns).map .int)])) := rfl
@[simp] theorem biQ_max1 : biQ .max1 [.ref n] S Q = (∃ o, S[n]? = some o ∧ o.sq = true ∧ ∃ ns m, intsP o.items = some ns ∧ maxL ns = some m ∧ Q (.int m) S) := rfl
@[simp] theorem biQ_min1 : biQ .min1 [.ref n] S Q = (∃ o, S[n]? = some o ∧ o.sq = true ∧ ∃ ns m, intsP o.items = some ns ∧ minL ns = some m ∧ Q (.int m) S) := rfl
@[simp] theorem biQ_tuple : biQ .tuple1 [v] S Q = seqQ v S fun xs => Q (.tup xs) S := rfl
@[simp] theorem biQ_all : biQ .all1 [.ref n] S Q = (∃ o, S[n]? = some o ∧ o.sq = true ∧ ∃ b, allBl o.items = some b ∧ Q (.bl b) S) := rfl
@[simp] theorem biQ_any : biQ .any1 [.ref n] S Q = (∃ o, S[n]? = some o ∧ o.sq = true ∧ ∃ b, anyBl o.items = some b ∧ Q (.bl b) S) := rfl
@[simp] theorem biQ_sum : biQ .sum1 [.ref n] S Q = (∃ o, S[n]? = some o ∧ o.sq = true ∧ ∃ b, sumI o.items = some b ∧ Q (.int b) S) := rfl
@[simp] theorem mtQ_app : mtQ .append n [v] S Q = (∃ xs, S[n]? = some (.lst xs) ∧ xs.length < sizeLine ∧ Q .non (S.set n (.lst (xs ++ [v])))) := rfl
@[simp] theorem mtQ_ix : mtQ .index n [v] S Q = (∃ o, S[n]? = some o ∧ o.sq = true ∧ inOk v o.items ∧ ∃ j, o.items.findIdx? (fun z => eqF z v) = some j ∧ Q (.int (j : Nat)) S) := rfl
@[simp] theorem mtQ_cnt : mtQ .count n [v] S Q = (∃ o, S[n]? = some o ∧ o.sq = true ∧ inOk v o.items ∧ Q (.int ((o.items.countP fun z => eqF z v : Nat))) S) := rfl
@[simp] theorem mtQ_ext : mtQ .extend n [.ref m] S Q = (∃ xs ys, S[n]? = some (.lst xs) ∧ S[m]? = some (.lst ys) ∧ xs.length + ys.length ≤ sizeLine ∧ Q .non (S.set n (.lst (xs ++ ys)))) := rfl
@[simp] theorem mtQ_pop : mtQ .pop n [] S Q = (∃ xs y, S[n]? = some (.lst xs) ∧ xs[xs.length - 1]? = some y ∧ Q y (S.set n (.lst xs.dropLast))) := rfl
variable {SI : Src → List PV → Prop}
@[simp] theorem iterQ_t : iterQ (.tup xs) S SI = SI [] xs := rfl
@[simp] theorem iterQ_r : iterQ (.ref n) S SI = (∃ o, S[n]? = some o ∧ o.sq = true ∧ SI [(n, o)] o.items) := rfl
@[simp] theorem zipQ_t : zipQ (.tup xs) (.tup ys) S SI = SI [] (zipL xs ys) := rfl
@[simp] theorem zipQ_r : zipQ (.ref n) (.ref m) S SI = (∃ o u, S[n]? = some o ∧ S[m]? = some u ∧ o.sq = true ∧ u.sq = true ∧ SI [(n, o), (m, u)] (zipL o.items u.items)) := rfl
variable {ρ : Env} {K : Env → Prop} {P : PV → Prop} {is : List Nat} {KS : Store → Prop}
@[simp] theorem bindQ_n : bindQ (.nm n) v ρ K = K (ρ.set n (some v)) := rfl
@[simp] theorem bindQ_t : bindQ (.tp is) (.tup xs) ρ K = (xs.length = is.length ∧ K (setAll is xs ρ)) := rfl
@[simp] theorem setAll_nil : setAll [] xs ρ = ρ := by cases xs <;> rfl
@[simp] theorem setAll_cons : setAll (n :: is) (v :: xs) ρ = setAll is xs (ρ.set n (some v)) := rfl
@[simp] theorem asgQ_r : asgQ (.ref n) w v S KS = (∃ o, S[n]? = some o ∧ o.putQ w v fun o' => KS (S.set n o')) := by cases w <;> rfl
@[simp] theorem varQ_0 {o : Option PV} : varQ 0 (o :: ρ) P = match o with | some v => P v | none => False := by cases o <;> rfl
@[simp] theorem varQ_s {o : Option PV} : varQ (n + 1) (o :: ρ) P = varQ n ρ P := by unfold varQ; rw [List.getElem?_cons_succ]
@[simp] theorem ixN_0 : L2.ixN n 0 = if 0 < n then some 0 else none := by unfold L2.ixN; cases n <;> simp
@[simp] theorem ixN_1 : L2.ixN n 1 = if 1 < n then some 1 else none := by unfold L2.ixN; simp; norm_cast
@[simp] theorem ixN_2 : L2.ixN n 2 = if 2 < n then some 2 else none := by unfold L2.ixN; simp; norm_cast
@[simp] theorem ixN_3 : L2.ixN n 3 = if 3 < n then some 3 else none := by unfold L2.ixN; simp; norm_cast
@[simp] theorem ixN_4 : L2.ixN n 4 = if 4 < n then some 4 else none := by unfold L2.ixN; simp; norm_cast
end
theorem ixN_lt {n : Nat} {p : Int} (h0 : 0 ≤ p) (h : p < n) : L2.ixN n p = some p.toNat := by
  unfold L2.ixN
  rw [if_pos h0, if_pos h]
theorem atPV_lt {xs : List PV} {p : Int} (h0 : 0 ≤ p) (h : p < xs.length) : atPV xs p = xs[p.toNat]? := by
  unfold atPV L2.atI
  rw [ixN_lt h0 h]
  rfl
end Pv
set_option Elab.async false
set_option linter.all false
set_option maxRecDepth 100000
/-! Pr3: values that are data, cuts, comprehensions that leave the store. -/
namespace Pv
open PySem
/-- data: no references, tuples not too long, at most n deep -/
inductive Gd : Nat → PV → Prop where
  | non {n} : Gd n .non
  | bl {n} (b : Bool) : Gd n (.bl b)
  | int {n} (i : Int) : Gd n (.int i)
  | str {n} (x : Str) : PyData.strOk x = true → Gd n (.str x)
  | tup {n} (xs : List PV) : xs.length ≤ 1000000 → (∀ x, x ∈ xs → Gd n x) → Gd (n + 1) (.tup xs)
theorem Gd.mono {n m : Nat} {v : PV} (g : Gd n v) : n ≤ m → Gd m v := by
  induction g generalizing m with
  | non => intro _; exact .non
  | bl => intro _; exact .bl _
  | int => intro _; exact .int _
  | str x h => intro _; exact .str _ h
  | @tup n xs l h ih =>
    intro hm
    obtain ⟨m, rfl⟩ : ∃ j, m = j + 1 := ⟨m - 1, by omega⟩
    exact .tup xs l fun x hx => ih x hx (by omega)
theorem toDs_canLay : ∀ xs : List PV, (∀ x, x ∈ xs → x.toD.canLay0 = true) → PyData.canLayAll0 (PV.toDs xs) = true
  | [], _ => rfl
  | x :: xs, h => by
    simp only [PV.toDs, PyData.canLayAll0, Bool.and_eq_true]
    exact ⟨h x (.head _), toDs_canLay xs fun y hy => h y (.tail _ hy)⟩
theorem Gd.canLay {n : Nat} {v : PV} (g : Gd n v) : v.toD.canLay0 = true := by
  induction g with
  | non => rfl
  | bl => rfl
  | int => rfl
  | str x h => exact h
  | tup xs l h ih => exact toDs_canLay xs ih
theorem toDs_depth {k : Nat} : ∀ xs : List PV, (∀ x, x ∈ xs → x.toD.depth ≤ k) → PyData.depthAll (PV.toDs xs) ≤ k
  | [], _ => Nat.zero_le _
  | x :: xs, h => by
    simp only [PV.toDs, PyData.depthAll]
    exact Nat.max_le.2 ⟨h x (.head _), toDs_depth xs fun y hy => h y (.tail _ hy)⟩
theorem Gd.depth {n : Nat} {v : PV} (g : Gd n v) : v.toD.depth ≤ n + 1 := by
  induction g with
  | non => simp [PV.toD, PyData.depth]
  | bl => simp [PV.toD, PyData.depth]
  | int => simp [PV.toD, PyData.depth]
  | str x h => simp [PV.toD, PyData.depth]
  | tup xs l h ih =>
    have := toDs_depth xs ih
    simp only [PV.toD, PyData.depth]
    omega
theorem underL_of {n : Nat} : ∀ xs : List PV, (∀ x, x ∈ xs → x.under n = true) → PV.underL n xs = true
  | [], _ => by simp [PV.underL]
  | x :: xs, h => by
    simp only [PV.underL, Bool.and_eq_true]
    exact ⟨h x (.head _), underL_of xs fun y hy => h y (.tail _ hy)⟩
theorem Gd.under {n : Nat} {v : PV} (m : Nat) (g : Gd n v) : v.under m = true := by
  induction g with
  | non => simp [PV.under]
  | bl => simp [PV.under]
  | int => simp [PV.under]
  | str x h => simp [PV.under]
  | tup xs l h ih => simp only [PV.under]; exact underL_of xs ih
theorem Gd.eqOk {n m : Nat} {v w : PV} (g : Gd n v) (h : Gd m w) (hn : min n m ≤ 63) : eqOk v w :=
  ⟨g.canLay, h.canLay, by have := g.depth; have := h.depth; omega⟩
theorem zip_self : ∀ xs : List PV, zipL xs xs = xs.map fun x => .tup [x, x]
  | [] => rfl
  | x :: xs => by simp only [zipL, List.map_cons, zip_self xs]
/-- a comprehension whose turns leave the store as it is, each turn gives f -/
theorem lc_map {src : Src} {d : Nat} {turn : PV → Store → (Option PV → Store → Prop) → Prop} {Q : PQ} {S0 : Store} (f : PV → PV) (hd : d = S0.length) (hs : ∀ acc, srcOk src (S0 ++ [.lst acc])) :
    ∀ (xs acc : List PV), acc.length + xs.length ≤ sizeLine → (∀ x, x ∈ xs → ∀ acc K, K (some (f x)) (S0 ++ [.lst acc]) → turn x (S0 ++ [.lst acc]) K) → Q (.ref d) (S0 ++ [.lst (acc ++ xs.map f)]) → lcLoop src d turn Q xs (S0 ++ [.lst acc])
  | [], acc, _, _, q => ⟨hs acc, by simpa using q⟩
  | x :: xs, acc, hl, ht, q => by
    refine ⟨hs acc, ht x (.head _) acc _ ?_⟩
    refine ⟨acc, by simp [hd], by simp at hl; omega, ?_⟩
    rw [hd, List.set_append_right _ _ (Nat.le_refl _), Nat.sub_self, List.set_cons_zero, ← hd]
    exact lc_map f hd hs xs _ (by simp at hl ⊢; omega) (fun y hy => ht y (.tail _ hy)) (by simpa using q)
theorem allBl_true : ∀ xs : List PV, allBl (xs.map fun _ => .bl true) = some true
  | [] => rfl
  | x :: xs => by simp [allBl, allBl_true xs]
theorem cut_tail (x : PV) (xs : List PV) : cutPV (x :: xs) (some 1) none = xs := by
  have h : HT.sIx (x :: xs).length 0 (some 1) = 1 := by
    rw [show (1 : Int) = ((1 : Nat) : Int) from rfl, HT.sIx_nat]; simp
  unfold cutPV
  rw [h, HT.sIx_none]
  simp
theorem cut_set {xs : List PV} {i : Nat} (h : i < xs.length) (v : PV) : cutPV xs none (some (i : Int)) ++ v :: cutPV xs (some ((i : Int) + 1)) none = xs.set i v := by
  have h1 : HT.sIx xs.length xs.length (some (i : Int)) = i := by rw [HT.sIx_nat]; omega
  have h2 : HT.sIx xs.length 0 (some ((i : Int) + 1)) = i + 1 := by
    rw [show (i : Int) + 1 = ((i + 1 : Nat) : Int) from by omega, HT.sIx_nat]; omega
  unfold cutPV
  rw [h1, h2, HT.sIx_none, HT.sIx_none]
  simp only [List.drop_zero, Nat.sub_zero]
  rw [List.set_eq_take_append_cons_drop, if_pos h, List.take_of_length_le (l := List.drop (i + 1) xs) (by simp)]
theorem cut_len1 {xs : List PV} {i : Nat} (h : i < xs.length) : (cutPV xs none (some (i : Int))).length = i := by
  have h1 : HT.sIx xs.length xs.length (some (i : Int)) = i := by rw [HT.sIx_nat]; omega
  unfold cutPV
  rw [h1, HT.sIx_none]
  simp; omega
theorem cut_len2 {xs : List PV} {i : Nat} (h : i < xs.length) : (cutPV xs (some ((i : Int) + 1)) none).length = xs.length - (i + 1) := by
  have h2 : HT.sIx xs.length 0 (some ((i : Int) + 1)) = i + 1 := by
    rw [show (i : Int) + 1 = ((i + 1 : Nat) : Int) from by omega, HT.sIx_nat]; omega
  unfold cutPV
  rw [h2, HT.sIx_none]
  simp
theorem atPV_map {α : Type} {f : α → PV} {xs : List α} {i : Nat} (h : i < xs.length) : atPV (xs.map f) (i : Int) = some (f xs[i]) := by
  rw [atPV_lt (by omega) (by simp; omega)]
  simp [h]
theorem at_map {α : Type} {f : α → PV} {xs : List α} {i : Nat} {d : α} (h : i < xs.length) : atPV (xs.map f) (i : Int) = some (f (xs.getD i d)) := by
  rw [atPV_map h]
  simp [List.getD, h]
theorem at_map2 {α : Type} {f : α → PV} {xs : List α} {i : Int} {d : α} (h0 : 0 ≤ i) (h : i < xs.length) : atPV (xs.map f) i = some (f (xs.getD i.toNat d)) := by
  obtain ⟨n, rfl⟩ : ∃ n : Nat, i = n := ⟨i.toNat, by omega⟩
  simpa using at_map (d := d) (f := f) (xs := xs) (i := n) (by omega)
theorem while_ind {t : Env → Store → (Bool → Store → Prop) → Prop} {b : Env → Store → (Env → Store → Prop) → Prop} {Q : Env → Store → Prop} {I : Nat → Env → Store → Prop}
    (h : ∀ n ρ S, I n ρ S → ∀ K : Env → Store → Prop, (∀ ρ' S' j, n = j + 1 → I j ρ' S' → K ρ' S') → t ρ S fun k S1 => if k = true then b ρ S1 K else Q ρ S1) : ∀ n ρ S, I n ρ S → whileN t b Q (n + 1) ρ S
  | 0, ρ, S, hi => h 0 ρ S hi _ fun _ _ j e => absurd e (by omega)
  | n + 1, ρ, S, hi => h (n + 1) ρ S hi _ fun ρ' S' j e hj => by
    obtain rfl : n = j := by omega
    exact while_ind h n ρ' S' hj
theorem for_ind {src : Src} {turn : PV → Env → Store → (Env → Store → Prop) → Prop} {Q : Env → Store → Prop} {I : List PV → Env → Store → Prop}
    (h : ∀ x xs ρ S, I (x :: xs) ρ S → srcOk src S ∧ ∀ K : Env → Store → Prop, (∀ ρ' S', I xs ρ' S' → K ρ' S') → turn x ρ S K) (h0 : ∀ ρ S, I [] ρ S → srcOk src S ∧ Q ρ S) : ∀ xs ρ S, I xs ρ S → forL src turn Q xs ρ S
  | [], ρ, S, hi => h0 ρ S hi
  | x :: xs, ρ, S, hi => ⟨(h x xs ρ S hi).1, (h x xs ρ S hi).2 _ fun ρ' S' hi' => for_ind h h0 xs ρ' S' hi'⟩
end Pv
set_option Elab.async false
set_option linter.all false
set_option maxRecDepth 100000
set_option maxHeartbeats 1000000
/-! Pr4: the law's stream of draws. -/
namespace Pv
open PySem
local macro_rules | `(tactic| walk_at "pv") => `(tactic| simp [wpSs, wpS, wpE, wpT, wpEs, wpTs, wpO, wpI, wpG, startP, L2.CMul, L2.CDiv, L2.CPow, sizeLine, -List.getD_eq_getElem?_getD])

def takeD : FD := ⟨2, 7, (.cons (.asg (.sub (.var 0) (.cst (.int 3))) (.bin .add (.idxc (.var 0) 3) (.cst (.int 1)))) (.cons (.ifs (.cmp .ge (.idxc (.var 0) 2) (.var 1)) (.cons (.asg (.nm 2) (.bin .mod (.bi .int1 (.cons (.idxc (.var 0) 2) .nil)) (.var 1))) (.cons (.asg (.sub (.var 0) (.cst (.int 2))) (.bin .fdiv (.idxc (.var 0) 2) (.var 1))) (.cons (.ret (.var 2)) .nil))) .nil) (.cons (.asg (.nm 3) (.idxc (.var 0) 4)) (.cons (.ifs (.cmp .lt (.idxc (.var 0) 1) (.bi .len (.cons (.idxc (.var 0) 0) .nil))) (.cons (.asg (.nm 4) (.idx (.idxc (.var 0) 0) (.idxc (.var 0) 1))) (.cons (.asg (.sub (.var 0) (.cst (.int 1))) (.bin .add (.idxc (.var 0) 1) (.cst (.int 1)))) (.cons (.ifs (.cmp .ge (.var 4) (.bin .pow (.cst (.int 10)) (.cst (.int 18)))) (.cons (.asg (.sub (.var 0) (.cst (.int 2))) (.bin .fdiv (.var 4) (.var 1))) (.cons (.ret (.bin .mod (.bi .int1 (.cons (.var 4) .nil)) (.var 1))) .nil)) .nil) (.cons (.asg (.nm 3) (.bin .mod (.bi .int1 (.cons (.bin .add (.var 3) (.bin .mul (.var 4) (.cst (.int 69997)))) .nil)) (.cst (.int 2147483647)))) .nil)))) .nil) (.cons (.asg (.nm 5) (.idxc (.var 0) 3)) (.cons (.asg (.nm 6) (.bin .mod (.bi .int1 (.cons (.bin .add (.bin .add (.bin .mul (.var 3) (.cst (.int 48271))) (.bin .mul (.bin .mul (.var 5) (.var 5)) (.cst (.int 69621)))) (.cst (.int 12345))) .nil)) (.cst (.int 2147483647)))) (.cons (.ret (.bin .mod (.bin .mod (.bi .int1 (.cons (.bin .add (.bin .mul (.var 6) (.cst (.int 16807))) (.bin .mul (.var 5) (.cst (.int 7919)))) .nil)) (.cst (.int 2147483629))) (.var 1))) .nil)))))))⟩

/-- the stream stands at 3, its cells at 2; at most C draws have been made -/
def Stm (a b : Mo) (C : Int) (rest : Store) (S : Store) : Prop :=
  ∃ (cells : List Int) (p big ticks seed : Int), S = a :: b :: .lst (cells.map .int) :: .lst [.ref 2, .int p, .int big, .int ticks, .int seed] :: rest ∧ 0 ≤ p ∧ 0 ≤ ticks ∧ ticks ≤ C
theorem take_ok {T : Tab} {fns : List FD} {i k : Nat} (hf : fns[i]? = some takeD) {a b : Mo} {C lim : Int} {rest S : Store} {Q : PQ} {E : PX} (h0 : 0 < lim) (h1 : lim < 1073741824) (hC : C < 2 ^ 60)
    (h : Stm a b C rest S) (q : ∀ r S', 0 ≤ r → r < lim → Stm a b (C + 1) rest S' → Q (.int r) S') : runF T fns (k + 1) i [.ref 3, .int lim] S Q E := by
  obtain ⟨cells, p, big, ticks, seed, rfl, hp, ht0, ht⟩ := h
  refine run_in hf rfl fun wf un => ?_
  have m0 : ∀ x : Int, 0 ≤ x % lim := fun x => Int.emod_nonneg _ (by omega)
  have m1 : ∀ x : Int, x % lim < lim := fun x => Int.emod_lt_of_pos _ h0
  simp only [takeD]
  walk_at "pv"
  have K : ∀ (p' big' seed' : Int) (r : Int), 0 ≤ p' → 0 ≤ r → r < lim → Gc (List.length rest + 1 + 1 + 1 + 1) (.int r) (a :: b :: .lst (cells.map .int) :: .lst [.ref 2, .int p', .int big', .int (ticks + 1), .int seed'] :: rest) Q :=
    fun p' big' seed' r hp' hr hr' => .inl (q _ _ hr hr' ⟨cells, p', big', ticks + 1, seed', rfl, hp', by omega, by omega⟩)
  rcases Int.lt_or_le big lim with hb | hb
  · refine .inl ⟨hb, ?_⟩
    rcases Int.lt_or_le p cells.length with hc | hc
    · refine .inr ⟨hc, _, at_map2 (d := 0) hp hc, ?_⟩
      generalize cells.getD p.toNat 0 = x
      walk_at "pv"
      rcases Int.lt_or_le x 1000000000000000000 with hx | hx
      · exact .inl ⟨hx, by omega, h0, K _ _ _ _ (by omega) (m0 _) (m1 _)⟩
      · exact .inr ⟨hx, ⟨h0, h1⟩, h0, K _ _ _ _ (by omega) (m0 _) (m1 _)⟩
    · exact .inl ⟨hc, by omega, h0, K _ _ _ _ hp (m0 _) (m1 _)⟩
  · exact .inr ⟨hb, h0, ⟨h0, h1⟩, K _ _ _ _ hp (m0 _) (m1 _)⟩
def streamD : FD := ⟨1, 5, (.cons (.asg (.nm 1) (.bi .list1 (.cons (.slice (.var 0) .no (.so (.cst (.int 63)))) .nil))) (.cons (.asg (.nm 2) (.cst (.int 11))) (.cons (.for_ (.tp [3, 4]) (.enum (.var 1)) (.cons (.asg (.nm 2) (.bin .mod (.bi .int1 (.cons (.bin .add (.bin .add (.bin .mul (.var 2) (.cst (.int 31))) (.bin .mul (.var 4) (.bin .add (.var 3) (.cst (.int 3))))) (.cst (.int 7))) .nil)) (.cst (.int 2147483629)))) .nil)) (.cons (.ret (.lst (.cons (.var 1) (.cons (.cst (.int 0)) (.cons (.cst (.int 0)) (.cons (.cst (.int 0)) (.cons (.var 2) .nil))))))) .nil))))⟩
theorem enumL_mem : ∀ (xs : List Int) (k : Nat) (z : PV), z ∈ enumL k (xs.map .int) → ∃ j x : Int, z = .tup [.int j, .int x] ∧ 0 ≤ j ∧ j < k + xs.length
  | [], _, _, h => by simp [enumL] at h
  | x :: xs, k, z, h => by
    simp only [List.map_cons, enumL, List.mem_cons] at h
    rcases h with rfl | h
    · exact ⟨k, x, rfl, by omega, by simp; omega⟩
    · obtain ⟨j, y, e, h0, h1⟩ := enumL_mem xs (k + 1) z h
      exact ⟨j, y, e, h0, by simp at h1 ⊢; omega⟩
theorem cut_63 {xs : List Int} : ∃ ys : List Int, cutPV (xs.map .int) none (some 63) = ys.map .int ∧ ys.length ≤ 63 := by
  refine ⟨xs.take (HT.sIx (xs.map PV.int).length (xs.map PV.int).length (some 63)), ?_, ?_⟩
  · unfold cutPV
    simp [HT.sIx_none, List.map_take]
  · rw [show (63 : Int) = ((63 : Nat) : Int) from rfl, HT.sIx_nat]
    simp; omega
theorem stream_ok {T : Tab} {fns : List FD} {i k : Nat} (hf : fns[i]? = some streamD) {ns : List Int} {Q : PQ} {E : PX}
    (q : ∀ b S', Stm (.frz (ns.map .int)) b 0 [] S' → Q (.ref 3) S') : runF T fns (k + 1) i [.ref 0] [.frz (ns.map .int)] Q E := by
  refine run_in hf rfl fun wf un => ?_
  simp only [streamD]
  walk_at "pv"
  obtain ⟨ys, hy, hl⟩ := cut_63 (xs := ns)
  rw [hy]
  refine for_ind (I := fun items ρ S => (∀ z, z ∈ items → ∃ j x : Int, z = .tup [.int j, .int x] ∧ 0 ≤ j ∧ j < 100) ∧ S = [Mo.frz (ns.map .int), Mo.lst (ys.map .int), Mo.lst (ys.map .int)] ∧
    ∃ (s : Int) (x3 x4 : Option PV), ρ = [some (.ref 0), some (.ref 2), some (.int s), x3, x4] ∧ 0 ≤ s ∧ s < 2147483648) ?_ ?_ _ _ _ ⟨?_, rfl, 11, none, none, rfl, by omega, by omega⟩
  · rintro x xs _ _ ⟨hz, rfl, s, x3, x4, rfl, s0, s1⟩
    refine ⟨by simp [srcOk], fun K hK => ?_⟩
    obtain ⟨j, y, rfl, j0, j1⟩ := hz x (.head _)
    walk_at "pv"
    refine ⟨by omega, hK _ _ ⟨fun z hz' => hz z (.tail _ hz'), rfl, _, _, _, rfl, Int.emod_nonneg _ (by omega), ?_⟩⟩
    have := Int.emod_lt_of_pos (s * 31 + y * (j + 3) + 7) (show (0 : Int) < 2147483629 by omega)
    omega
  · rintro _ _ ⟨hz, rfl, s, x3, x4, rfl, s0, s1⟩
    refine ⟨by simp [srcOk], ?_⟩
    walk_at "pv"
    exact .inl (q _ _ ⟨ys, 0, 0, 0, s, rfl, by omega, by omega, by omega⟩)
  · intro z hz
    obtain ⟨j, x, e, h0, h1⟩ := enumL_mem ys 0 z hz
    exact ⟨j, x, e, h0, by omega⟩
end Pv
set_option Elab.async false
set_option linter.all false
set_option maxRecDepth 100000
/-! Pr5: == of small tuples. -/
namespace Pv
open PySem
def eqBL (xs ys : List PV) : Bool := eqB (.tup xs) (.tup ys)
theorem eqB_tt {xs ys : List PV} : eqB (.tup xs) (.tup ys) = eqBL xs ys := rfl
@[simp] theorem eqBL_nil : eqBL [] [] = true := by simp [eqBL, eqB, PV.toD, PV.toDs, PyData.eqv, PyData.eqvAll]
@[simp] theorem eqBL_nc {y : PV} {ys : List PV} : eqBL [] (y :: ys) = false := by simp [eqBL, eqB, PV.toD, PV.toDs, PyData.eqv, PyData.eqvAll]
@[simp] theorem eqBL_cn {y : PV} {ys : List PV} : eqBL (y :: ys) [] = false := by simp [eqBL, eqB, PV.toD, PV.toDs, PyData.eqv, PyData.eqvAll]
@[simp] theorem eqBL_cc {x y : PV} {xs ys : List PV} : eqBL (x :: xs) (y :: ys) = (eqB x y && eqBL xs ys) := by simp [eqBL, eqB, PV.toD, PV.toDs, PyData.eqv, PyData.eqvAll]
@[simp] theorem eqB_ii {i j : Int} : eqB (.int i) (.int j) = decide (i = j) := by simp only [eqB, PV.toD, PyData.eqv]; rfl
@[simp] theorem eqB_ss {i j : Str} : eqB (.str i) (.str j) = decide (i = j) := by simp only [eqB, PV.toD, PyData.eqv]; rfl
@[simp] theorem eqB_is {i : Int} {j : Str} : eqB (.int i) (.str j) = false := by simp [eqB, PV.toD, PyData.eqv]
@[simp] theorem eqB_si {i : Int} {j : Str} : eqB (.str j) (.int i) = false := by simp [eqB, PV.toD, PyData.eqv]
@[simp] theorem eqB_ti {i : Int} {xs : List PV} : eqB (.tup xs) (.int i) = false := by simp [eqB, PV.toD, PyData.eqv]
@[simp] theorem eqB_it {i : Int} {xs : List PV} : eqB (.int i) (.tup xs) = false := by simp [eqB, PV.toD, PyData.eqv]
@[simp] theorem eqB_ts {i : Str} {xs : List PV} : eqB (.tup xs) (.str i) = false := by simp [eqB, PV.toD, PyData.eqv]
@[simp] theorem eqB_st {i : Str} {xs : List PV} : eqB (.str i) (.tup xs) = false := by simp [eqB, PV.toD, PyData.eqv]
@[simp] theorem eqB_bi {i : Int} {b : Bool} : eqB (.bl b) (.int i) = decide ((if b then 1 else 0) = i) := by cases b <;> (simp only [eqB, PV.toD, PyData.eqv]; rfl)
theorem eqB_tup {xs ys : List PV} : eqB (.tup xs) (.tup ys) = eqBL xs ys := rfl
end Pv
set_option Elab.async false
set_option linter.all false
set_option maxRecDepth 100000
set_option maxHeartbeats 1000000
namespace K04
open PySem Pv
local macro_rules | `(tactic| walk_at "pv") => `(tactic| simp [wpSs, wpS, wpE, wpT, wpEs, wpTs, wpO, wpI, wpG, startP, L2.CMul, L2.CDiv, L2.CPow, st_inj, sizeLine, eqB_tup, -List.getD_eq_getElem?_getD])
variable {S : Store} {Q : PQ} {E : PX}
theorem st_ok : ∀ i, i < 10 → PyData.strOk (st i) = true := by decide +kernel
/-- combinators -/
inductive Co where
  | v (i : Int) | c (n : Nat) | a (f x : Co)
  deriving Inhabited, DecidableEq
def Co.pv : Co → PV
  | .v i => .tup [.str (st 4), .int i]
  | .c n => .tup [.str (st 3), .str (st n)]
  | .a f x => .tup [.str (st 6), f.pv, x.pv]
def Co.dep : Co → Nat
  | .v _ => 1
  | .c _ => 1
  | .a f x => max f.dep x.dep + 1
/-- the names are S, K, I; numbers are natural -/
def Co.ok : Co → Prop
  | .v i => 0 ≤ i
  | .c n => n < 3
  | .a f x => f.ok ∧ x.ok
def Co.size : Co → Int
  | .v _ => 1
  | .c _ => 1
  | .a f x => 1 + f.size + x.size
def Co.has (n : Int) : Co → Bool
  | .v i => decide (i = n)
  | .c _ => false
  | .a f x => f.has n || x.has n
def Co.turn (d : Int) : Co → Co
  | .v i => .v (i + d)
  | .c n => .c n
  | .a f x => .a (f.turn d) (x.turn d)
def Co.out : Co → Co
  | .v i => if i = 0 then .c 2 else .a (.c 1) (.v (i - 1))
  | .c n => .a (.c 1) (.c n)
  | .a f x => if (Co.a f x).has 0 = true then .a (.a (.c 0) f.out) x.out else .a (.c 1) ((Co.a f x).turn (-1))
theorem Co.gd : ∀ c : Co, c.ok → Gd c.dep c.pv := by
  intro c
  induction c with
  | v i => intro _; exact .tup _ (by simp) (by simp; exact ⟨.str _ (st_ok 4 (by omega)), .int _⟩)
  | c n => intro h; exact .tup _ (by simp) (by simp; exact ⟨.str _ (st_ok 3 (by omega)), .str _ (st_ok n (by simp only [Co.ok] at h; omega))⟩)
  | a f x ih1 ih2 => intro h; exact .tup _ (by simp) (by simp; exact ⟨.str _ (st_ok 6 (by omega)), (ih1 h.1).mono (by omega), (ih2 h.2).mono (by omega)⟩)
theorem pair_gd {i : Int} : Gd 1 (.tup [.str (st 4), .int i]) := .tup _ (by simp) (by simp; exact ⟨.str _ (st_ok 4 (by omega)), .int _⟩)
theorem pairs_gd {m n : Nat} (h : m < 10) (h2 : n < 10) : Gd 1 (.tup [.str (st m), .str (st n)]) := .tup _ (by simp) (by simp; exact ⟨.str _ (st_ok m h), .str _ (st_ok n h2)⟩)
/-- == with a variable, with a name -/
theorem eqv_v {c : Co} {i : Int} (h : c.ok) : eqOk c.pv (.tup [.str (st 4), .int i]) := (c.gd h).eqOk pair_gd (by omega)
theorem eqv_c {c : Co} {n : Nat} (h : c.ok) (hn : n < 3) : eqOk c.pv (.tup [.str (st 3), .str (st n)]) := (c.gd h).eqOk (pairs_gd (by omega) (by omega)) (by omega)
theorem eqb_v {c : Co} {i : Int} : eqB c.pv (.tup [.str (st 4), .int i]) = decide (c = .v i) := by
  cases c with
  | v j => simp [Co.pv, eqB_tup]
  | c n => simp [Co.pv, eqB_tup, st_inj]
  | a f x => simp [Co.pv, eqB_tup, st_inj]
theorem eqb_c {c : Co} {n : Nat} (h : c.ok) (hn : n < 3) : eqB c.pv (.tup [.str (st 3), .str (st n)]) = decide (c = .c n) := by
  cases c with
  | v j => simp [Co.pv, eqB_tup, st_inj]
  | c m => have : m < 3 := h; simp [Co.pv, eqB_tup, st_inj m n (by omega) (by omega)]
  | a f x => simp [Co.pv, eqB_tup, st_inj]
theorem ok_isint {k : Nat} {i : Int} (h : Q (.bl true) S) : runF tab fns (k + 1) 0 [.int i] S Q E := by
  refine run_in (d := f0) rfl rfl fun wf un => ?_
  simp only [f0]
  walk_at "pv"
  exact .inl h
theorem ok_isnat {k : Nat} {i : Int} (hi : 0 ≤ i) (h : Q (.bl true) S) : runF tab fns (k + 2) 1 [.int i] S Q E := by
  refine run_in (d := f1) rfl rfl fun wf un => ?_
  simp only [f1]
  walk_at "pv"
  refine ok_isint ?_
  simp [hi]
  exact .inl h
theorem ok_num {k : Nat} {i : Int} (hi : 0 ≤ i) (h : Q .non S) : runF tab fns (k + 3) 2 [.int i] S Q E := by
  refine run_in (d := f2) rfl rfl fun wf un => ?_
  simp only [f2]
  walk_at "pv"
  refine ok_isnat hi ?_
  simp
  exact .inl h
theorem ok_isco : ∀ (c : Co) (k : Nat) (Q : PQ) (E : PX), c.dep + 2 ≤ k → c.ok → Q (.bl true) S → runF tab fns k 9 [c.pv] S Q E := by
  intro c
  induction c with
  | v i =>
    intro k Q E hk hc h
    obtain ⟨k, rfl⟩ : ∃ j, k = j + 3 := ⟨k - 3, by simp [Co.dep] at hk; omega⟩
    refine run_in (d := f9) rfl rfl fun wf un => ?_
    simp only [f9, Co.pv]
    walk_at "pv"
    exact ok_isnat hc (.inl h)
  | c n =>
    intro k Q E hk hc h
    obtain ⟨k, rfl⟩ : ∃ j, k = j + 3 := ⟨k - 3, by simp [Co.dep] at hk; omega⟩
    refine run_in (d := f9) rfl rfl fun wf un => ?_
    have hn : n = 0 ∨ n = 1 ∨ n = 2 := by have : n < 3 := hc; omega
    simp only [f9, Co.pv]
    walk_at "pv"
    refine ⟨⟨rfl, rfl⟩, ?_⟩
    have : inB (.str (st n)) [.str (st 0), .str (st 1), .str (st 2)] = true := by rcases hn with rfl | rfl | rfl <;> decide +kernel
    rw [this]
    exact .inl h
  | a f x ih1 ih2 =>
    intro k Q E hk hc h
    simp only [Co.dep] at hk
    obtain ⟨k, rfl⟩ : ∃ j, k = j + 1 := ⟨k - 1, by omega⟩
    refine run_in (d := f9) rfl rfl fun wf un => ?_
    simp only [f9, Co.pv]
    walk_at "pv"
    refine ih1 _ _ _ (by omega) hc.1 ?_
    simp
    exact ih2 _ _ _ (by omega) hc.2 (.inl h)
theorem ok_check {c : Co} {k : Nat} (hk : c.dep + 3 ≤ k) (hc : c.ok) (h : Q .non S) : runF tab fns k 10 [c.pv] S Q E := by
  obtain ⟨k, rfl⟩ : ∃ j, k = j + 1 := ⟨k - 1, by omega⟩
  refine run_in (d := f10) rfl rfl fun wf un => ?_
  simp only [f10]
  walk_at "pv"
  refine ok_isco _ _ _ _ (by omega) hc ?_
  simp
  exact .inl h
/-- nodes_in, _law_nodes -/
theorem ok_nodes {i : Nat} (hi : fns[i]? = some ⟨1, 1, (.cons (.ifs (.cmp .ne (.idxc (.var 0) 0) (.cst (.str (st 6)))) (.cons (.ret (.cst (.int 1))) .nil) .nil) (.cons (.ret (.bin .add (.bin .add (.cst (.int 1)) (.call i (.cons (.idxc (.var 0) 1) .nil) [])) (.call i (.cons (.idxc (.var 0) 2) .nil) []))) .nil))⟩) :
    ∀ (c : Co) (k : Nat) (Q : PQ) (E : PX), c.dep ≤ k → Q (.int c.size) S → runF tab fns k i [c.pv] S Q E := by
  intro c
  induction c with
  | v j =>
    intro k Q E hk h
    obtain ⟨k, rfl⟩ : ∃ j, k = j + 1 := ⟨k - 1, by simp [Co.dep] at hk; omega⟩
    refine run_in hi rfl fun wf un => ?_
    simp only [Co.pv]
    walk_at "pv"
    exact .inl h
  | c n =>
    intro k Q E hk h
    obtain ⟨k, rfl⟩ : ∃ j, k = j + 1 := ⟨k - 1, by simp [Co.dep] at hk; omega⟩
    refine run_in hi rfl fun wf un => ?_
    simp only [Co.pv]
    walk_at "pv"
    exact .inl h
  | a f x ih1 ih2 =>
    intro k Q E hk h
    simp only [Co.dep] at hk
    obtain ⟨k, rfl⟩ : ∃ j, k = j + 1 := ⟨k - 1, by omega⟩
    refine run_in hi rfl fun wf un => ?_
    simp only [Co.pv]
    walk_at "pv"
    refine ih1 _ _ _ (by omega) ?_
    walk_at "pv"
    refine ih2 _ _ _ (by omega) ?_
    walk_at "pv"
    exact .inl h
theorem nodes11 : ∀ (c : Co) (k : Nat) (Q : PQ) (E : PX), c.dep ≤ k → Q (.int c.size) S → runF tab fns k 11 [c.pv] S Q E := ok_nodes rfl
theorem nodes36 : ∀ (c : Co) (k : Nat) (Q : PQ) (E : PX), c.dep ≤ k → Q (.int c.size) S → runF tab fns k 36 [c.pv] S Q E := ok_nodes rfl
end K04
set_option Elab.async false
set_option linter.all false
set_option maxRecDepth 100000
set_option maxHeartbeats 1000000
namespace K04
open PySem Pv
local macro_rules | `(tactic| walk_at "pv") => `(tactic| simp [wpSs, wpS, wpE, wpT, wpEs, wpTs, wpO, wpI, wpG, startP, L2.CMul, L2.CDiv, L2.CPow, st_inj, sizeLine, eqB_tup, -List.getD_eq_getElem?_getD])
variable {S : Store} {Q : PQ} {E : PX}
theorem Co.dep_pos : ∀ c : Co, 1 ≤ c.dep := by intro c; cases c <;> simp [Co.dep]
theorem Co.pv_v {i : Int} : PV.tup [.str (st 4), .int i] = (Co.v i).pv := rfl
theorem has12 : ∀ (c : Co) (k : Nat) (Q : PQ) (E : PX), c.dep ≤ k → c.ok → Q (.bl (c.has 0)) S → runF tab fns k 12 [c.pv] S Q E := by
  intro c
  induction c with
  | v j =>
    intro k Q E hk hc h
    obtain ⟨k, rfl⟩ : ∃ j, k = j + 1 := ⟨k - 1, by simp [Co.dep] at hk; omega⟩
    refine run_in (d := f12) rfl rfl fun wf un => ?_
    have e := eqv_v (i := 0) hc
    simp only [f12, Co.pv] at e ⊢
    walk_at "pv"
    exact ⟨e, .inl h⟩
  | c n =>
    intro k Q E hk hc h
    obtain ⟨k, rfl⟩ : ∃ j, k = j + 1 := ⟨k - 1, by simp [Co.dep] at hk; omega⟩
    refine run_in (d := f12) rfl rfl fun wf un => ?_
    have e := eqv_v (i := 0) hc
    simp only [f12, Co.pv] at e ⊢
    walk_at "pv"
    exact ⟨e, .inl h⟩
  | a f x ih1 ih2 =>
    intro k Q E hk hc h
    simp only [Co.dep] at hk
    obtain ⟨k, rfl⟩ : ∃ j, k = j + 1 := ⟨k - 1, by omega⟩
    refine run_in (d := f12) rfl rfl fun wf un => ?_
    simp only [f12, Co.pv]
    walk_at "pv"
    refine ih1 _ _ _ (by omega) hc.1 ?_
    simp only [Co.has] at h
    cases e : f.has 0 with
    | true => simp; rw [e] at h; exact .inl h
    | false => simp; rw [e] at h; exact ih2 _ _ _ (by omega) hc.2 (.inl (by simpa using h))
theorem has29 {n : Int} : ∀ (c : Co) (k : Nat) (Q : PQ) (E : PX), c.dep ≤ k → c.ok → Q (.bl (c.has n)) S → runF tab fns k 29 [c.pv, .int n] S Q E := by
  intro c
  induction c with
  | v j =>
    intro k Q E hk hc h
    obtain ⟨k, rfl⟩ : ∃ j, k = j + 1 := ⟨k - 1, by simp [Co.dep] at hk; omega⟩
    refine run_in (d := f29) rfl rfl fun wf un => ?_
    have e := eqv_v (i := n) hc
    simp only [f29, Co.pv] at e ⊢
    walk_at "pv"
    exact ⟨e, .inl h⟩
  | c m =>
    intro k Q E hk hc h
    obtain ⟨k, rfl⟩ : ∃ j, k = j + 1 := ⟨k - 1, by simp [Co.dep] at hk; omega⟩
    refine run_in (d := f29) rfl rfl fun wf un => ?_
    have e := eqv_v (i := n) hc
    simp only [f29, Co.pv] at e ⊢
    walk_at "pv"
    exact ⟨e, .inl h⟩
  | a f x ih1 ih2 =>
    intro k Q E hk hc h
    simp only [Co.dep] at hk
    obtain ⟨k, rfl⟩ : ∃ j, k = j + 1 := ⟨k - 1, by omega⟩
    refine run_in (d := f29) rfl rfl fun wf un => ?_
    simp only [f29, Co.pv]
    walk_at "pv"
    refine ih1 _ _ _ (by omega) hc.1 ?_
    simp only [Co.has] at h
    cases e : f.has n with
    | true => simp; rw [e] at h; exact .inl h
    | false => simp; rw [e] at h; exact ih2 _ _ _ (by omega) hc.2 (.inl (by simpa using h))
theorem low13 : ∀ (c : Co) (k : Nat) (Q : PQ) (E : PX), c.dep ≤ k → Q (c.turn (-1)).pv S → runF tab fns k 13 [c.pv] S Q E := by
  intro c
  induction c with
  | v j =>
    intro k Q E hk h
    obtain ⟨k, rfl⟩ : ∃ j, k = j + 1 := ⟨k - 1, by simp [Co.dep] at hk; omega⟩
    refine run_in (d := f13) rfl rfl fun wf un => ?_
    simp only [f13, Co.pv, Co.turn] at h ⊢
    walk_at "pv"
    exact .inl (by simpa [Int.sub_eq_add_neg] using h)
  | c n =>
    intro k Q E hk h
    obtain ⟨k, rfl⟩ : ∃ j, k = j + 1 := ⟨k - 1, by simp [Co.dep] at hk; omega⟩
    refine run_in (d := f13) rfl rfl fun wf un => ?_
    simp only [f13, Co.pv, Co.turn] at h ⊢
    walk_at "pv"
    exact .inl h
  | a f x ih1 ih2 =>
    intro k Q E hk h
    simp only [Co.dep] at hk
    obtain ⟨k, rfl⟩ : ∃ j, k = j + 1 := ⟨k - 1, by omega⟩
    refine run_in (d := f13) rfl rfl fun wf un => ?_
    simp only [f13, Co.pv, Co.turn] at h ⊢
    walk_at "pv"
    refine ih1 _ _ _ (by omega) ?_
    refine ih2 _ _ _ (by omega) ?_
    exact .inl h
theorem turn30 {d : Int} : ∀ (c : Co) (k : Nat) (Q : PQ) (E : PX), c.dep ≤ k → Q (c.turn d).pv S → runF tab fns k 30 [c.pv, .int d] S Q E := by
  intro c
  induction c with
  | v j =>
    intro k Q E hk h
    obtain ⟨k, rfl⟩ : ∃ j, k = j + 1 := ⟨k - 1, by simp [Co.dep] at hk; omega⟩
    refine run_in (d := f30) rfl rfl fun wf un => ?_
    simp only [f30, Co.pv, Co.turn] at h ⊢
    walk_at "pv"
    exact .inl h
  | c n =>
    intro k Q E hk h
    obtain ⟨k, rfl⟩ : ∃ j, k = j + 1 := ⟨k - 1, by simp [Co.dep] at hk; omega⟩
    refine run_in (d := f30) rfl rfl fun wf un => ?_
    simp only [f30, Co.pv, Co.turn] at h ⊢
    walk_at "pv"
    exact .inl h
  | a f x ih1 ih2 =>
    intro k Q E hk h
    simp only [Co.dep] at hk
    obtain ⟨k, rfl⟩ : ∃ j, k = j + 1 := ⟨k - 1, by omega⟩
    refine run_in (d := f30) rfl rfl fun wf un => ?_
    simp only [f30, Co.pv, Co.turn] at h ⊢
    walk_at "pv"
    refine ih1 _ _ _ (by omega) ?_
    refine ih2 _ _ _ (by omega) ?_
    exact .inl h
theorem out_no {c : Co} (h : c.has 0 = false) : c.out = .a (.c 1) (c.turn (-1)) := by
  cases c with
  | v i => simp [Co.has] at h; simp [Co.out, h, Co.turn, Int.sub_eq_add_neg]
  | c n => rfl
  | a f x => simp only [Co.out, h]; rfl
theorem out14 : ∀ (c : Co) (k : Nat) (Q : PQ) (E : PX), c.dep + 1 ≤ k → c.ok → Q c.out.pv S → runF tab fns k 14 [c.pv] S Q E := by
  intro c
  induction c with
  | v j =>
    intro k Q E hk hc h
    simp only [Co.dep] at hk
    obtain ⟨k, rfl⟩ : ∃ j, k = j + 2 := ⟨k - 2, by omega⟩
    refine run_in (d := f14) rfl rfl fun wf un => ?_
    have e := eqv_v (i := 0) hc
    simp only [f14]
    by_cases hj : j = 0
    · subst hj
      simp only [Co.pv, Co.out] at e h ⊢
      walk_at "pv"
      exact ⟨e, .inl h⟩
    · rw [out_no (by simp [Co.has, hj])] at h
      simp only [Co.pv] at e ⊢
      walk_at "pv"
      refine ⟨e, .inl ⟨hj, ?_⟩⟩
      refine has12 (.v j) _ _ _ (by simp [Co.dep]) hc ?_
      simp [Co.has, hj]
      exact low13 (.v j) _ _ _ (by simp [Co.dep]) (.inl h)
  | c n =>
    intro k Q E hk hc h
    simp only [Co.dep] at hk
    obtain ⟨k, rfl⟩ : ∃ j, k = j + 2 := ⟨k - 2, by omega⟩
    refine run_in (d := f14) rfl rfl fun wf un => ?_
    have e := eqv_v (i := 0) hc
    simp only [f14]
    rw [out_no (by simp [Co.has])] at h
    simp only [Co.pv] at e ⊢
    walk_at "pv"
    refine ⟨e, ?_⟩
    refine has12 (.c n) _ _ _ (by simp [Co.dep]) hc ?_
    simp [Co.has]
    exact low13 (.c n) _ _ _ (by simp [Co.dep]) (.inl h)
  | a f x ih1 ih2 =>
    intro k Q E hk hc h
    have hk' := hk
    simp only [Co.dep] at hk
    obtain ⟨k, rfl⟩ : ∃ j, k = j + 1 := ⟨k - 1, by omega⟩
    refine run_in (d := f14) rfl rfl fun wf un => ?_
    have e := eqv_v (i := 0) hc
    have hh := fun Q E => has12 (S := S) (.a f x) k Q E (by simp only [Co.dep]; omega) hc
    have hl := fun Q E => low13 (S := S) (.a f x) k Q E (by simp only [Co.dep]; omega)
    simp only [f14, Co.pv] at e hh hl ⊢
    walk_at "pv"
    refine ⟨e, ?_⟩
    refine hh _ _ ?_
    cases hz : (Co.a f x).has 0 with
    | false =>
      rw [out_no hz] at h
      simp
      exact hl _ _ (.inl h)
    | true =>
      simp only [Co.out, hz, if_true, Co.pv] at h
      simp
      refine ih1 _ _ _ (by omega) hc.1 ?_
      exact ih2 _ _ _ (by omega) hc.2 (.inl h)
theorem out31 : ∀ (c : Co) (k : Nat) (Q : PQ) (E : PX), c.dep + 1 ≤ k → c.ok → Q c.out.pv S → runF tab fns k 31 [c.pv] S Q E := by
  intro c
  induction c with
  | v j =>
    intro k Q E hk hc h
    simp only [Co.dep] at hk
    obtain ⟨k, rfl⟩ : ∃ j, k = j + 2 := ⟨k - 2, by omega⟩
    refine run_in (d := f31) rfl rfl fun wf un => ?_
    have e := eqv_v (i := 0) hc
    simp only [f31]
    by_cases hj : j = 0
    · subst hj
      simp only [Co.pv, Co.out] at e h ⊢
      walk_at "pv"
      exact ⟨e, .inl h⟩
    · rw [out_no (by simp [Co.has, hj])] at h
      simp only [Co.pv] at e ⊢
      walk_at "pv"
      refine ⟨e, .inl ⟨hj, ?_⟩⟩
      refine has29 (.v j) _ _ _ (by simp [Co.dep]) hc ?_
      simp [Co.has, hj]
      exact turn30 (.v j) _ _ _ (by simp [Co.dep]) (.inl h)
  | c n =>
    intro k Q E hk hc h
    simp only [Co.dep] at hk
    obtain ⟨k, rfl⟩ : ∃ j, k = j + 2 := ⟨k - 2, by omega⟩
    refine run_in (d := f31) rfl rfl fun wf un => ?_
    have e := eqv_v (i := 0) hc
    simp only [f31]
    rw [out_no (by simp [Co.has])] at h
    simp only [Co.pv] at e ⊢
    walk_at "pv"
    refine ⟨e, ?_⟩
    refine has29 (.c n) _ _ _ (by simp [Co.dep]) hc ?_
    simp [Co.has]
    exact turn30 (.c n) _ _ _ (by simp [Co.dep]) (.inl h)
  | a f x ih1 ih2 =>
    intro k Q E hk hc h
    simp only [Co.dep] at hk
    obtain ⟨k, rfl⟩ : ∃ j, k = j + 1 := ⟨k - 1, by omega⟩
    refine run_in (d := f31) rfl rfl fun wf un => ?_
    have e := eqv_v (i := 0) hc
    have hh := fun Q E => has29 (n := 0) (S := S) (.a f x) k Q E (by simp only [Co.dep]; omega) hc
    have hl := fun Q E => turn30 (d := -1) (S := S) (.a f x) k Q E (by simp only [Co.dep]; omega)
    simp only [f31, Co.pv] at e hh hl ⊢
    walk_at "pv"
    refine ⟨e, ?_⟩
    refine hh _ _ ?_
    cases hz : (Co.a f x).has 0 with
    | false =>
      rw [out_no hz] at h
      simp
      exact hl _ _ (.inl h)
    | true =>
      simp only [Co.out, hz, if_true, Co.pv] at h
      simp
      refine ih1 _ _ _ (by omega) hc.1 ?_
      exact ih2 _ _ _ (by omega) hc.2 (.inl h)
end K04
set_option Elab.async false
set_option linter.all false
set_option maxRecDepth 100000
set_option maxHeartbeats 1000000
/-! K4c: the plain laws of combinators: sizes, what is filled in -/
namespace K04
open PySem Pv
inductive Tm where
  | v (i : Int) | l (b : Tm) | a (f x : Tm)
  deriving Inhabited
def Tm.pv : Tm → PV
  | .v i => .tup [.str (st 4), .int i]
  | .l b => .tup [.str (st 5), b.pv]
  | .a f x => .tup [.str (st 6), f.pv, x.pv]
def Tm.dep : Tm → Nat
  | .v _ => 1
  | .l b => b.dep + 1
  | .a f x => max f.dep x.dep + 1
/-- all numbers are natural -/
def Tm.ok : Tm → Prop
  | .v i => 0 ≤ i
  | .l b => b.ok
  | .a f x => f.ok ∧ x.ok
def Tm.made : Tm → Co
  | .v i => .v i
  | .l b => b.made.out
  | .a f x => .a f.made x.made
/-- leaves, abstractions, abstractions that take something out -/
def Tm.L : Tm → Nat
  | .v _ => 1
  | .l b => b.L
  | .a f x => f.L + x.L
def Tm.J : Tm → Nat
  | .v _ => 0
  | .l b => b.J + 1
  | .a f x => f.J + x.J
def Tm.K : Tm → Nat
  | .v _ => 0
  | .l b => b.K + (if b.made.has 0 = true then 1 else 0)
  | .a f x => f.K + x.K
def Co.occ : Co → Nat
  | .v _ => 1
  | .c _ => 0
  | .a f x => f.occ + x.occ
theorem Co.size_pos : ∀ c : Co, 1 ≤ c.size := by
  intro c
  induction c with
  | v => simp [Co.size]
  | c => simp [Co.size]
  | a f x h1 h2 => simp only [Co.size]; omega
theorem turn_size (d : Int) : ∀ c : Co, (c.turn d).size = c.size := by
  intro c
  induction c with
  | v => rfl
  | c => rfl
  | a f x h1 h2 => simp only [Co.turn, Co.size, h1, h2]
theorem turn_dep (d : Int) : ∀ c : Co, (c.turn d).dep = c.dep := by
  intro c
  induction c with
  | v => rfl
  | c => rfl
  | a f x h1 h2 => simp only [Co.turn, Co.dep, h1, h2]
theorem turn_occ (d : Int) : ∀ c : Co, (c.turn d).occ = c.occ := by
  intro c
  induction c with
  | v => rfl
  | c => rfl
  | a f x h1 h2 => simp only [Co.turn, Co.occ, h1, h2]
theorem turn_ok : ∀ c : Co, c.ok → c.has 0 = false → (c.turn (-1)).ok := by
  intro c
  induction c with
  | v i => intro h1 h2; simp [Co.has] at h2; simp only [Co.turn, Co.ok] at h1 ⊢; omega
  | c n => intro h1 _; exact h1
  | a f x i1 i2 =>
    intro h1 h2
    simp only [Co.has, Bool.or_eq_false_iff] at h2
    exact ⟨i1 h1.1 h2.1, i2 h1.2 h2.2⟩
theorem out_yes {f x : Co} (h : (Co.a f x).has 0 = true) : (Co.a f x).out = .a (.a (.c 0) f.out) x.out := by simp only [Co.out, h, if_true]
theorem out_ok : ∀ c : Co, c.ok → c.out.ok := by
  intro c
  induction c with
  | v i =>
    intro h
    by_cases hi : i = 0
    · subst hi; simp [Co.out, Co.ok]
    · rw [out_no (by simp [Co.has, hi])]; exact ⟨by simp [Co.ok], turn_ok _ h (by simp [Co.has, hi])⟩
  | c n => intro h; exact ⟨by simp [Co.ok], h⟩
  | a f x i1 i2 =>
    intro h
    cases e : (Co.a f x).has 0 with
    | false => rw [out_no e]; exact ⟨by simp [Co.ok], turn_ok _ h e⟩
    | true => rw [out_yes e]; exact ⟨⟨by simp [Co.ok], i1 h.1⟩, i2 h.2⟩
theorem out_size : ∀ c : Co, c.out.size ≤ 3 * c.size ∧ (c.has 0 = false → c.out.size = c.size + 2) := by
  intro c
  induction c with
  | v i =>
    by_cases hi : i = 0
    · subst hi; simp [Co.out, Co.size, Co.has]
    · rw [out_no (by simp [Co.has, hi])]; simp [Co.size, Co.turn]
  | c n => simp [Co.out, Co.size]
  | a f x i1 i2 =>
    have p1 := f.size_pos
    have p2 := x.size_pos
    cases e : (Co.a f x).has 0 with
    | false =>
      rw [out_no e]
      simp only [Co.size, turn_size]
      omega
    | true =>
      rw [out_yes e]
      simp only [Co.size]
      exact ⟨by omega, fun h => by cases h⟩
theorem out_dep : ∀ c : Co, c.out.dep ≤ 2 * c.dep ∧ (c.has 0 = false → c.out.dep ≤ c.dep + 1) := by
  intro c
  induction c with
  | v i =>
    by_cases hi : i = 0
    · subst hi; simp [Co.out, Co.dep, Co.has]
    · rw [out_no (by simp [Co.has, hi])]; simp [Co.dep, Co.turn]
  | c n => simp [Co.out, Co.dep]
  | a f x i1 i2 =>
    have p1 := f.dep_pos
    have p2 := x.dep_pos
    cases e : (Co.a f x).has 0 with
    | false =>
      rw [out_no e]
      simp only [Co.dep, turn_dep, Co.turn]
      omega
    | true =>
      rw [out_yes e]
      simp only [Co.dep]
      exact ⟨by omega, fun h => by cases h⟩
theorem occ_pos (n : Int) : ∀ c : Co, c.has n = true → 1 ≤ c.occ := by
  intro c
  induction c with
  | v i => intro _; simp [Co.occ]
  | c m => intro h; simp [Co.has] at h
  | a f x i1 i2 =>
    intro h
    simp only [Co.has, Bool.or_eq_true] at h
    simp only [Co.occ]
    rcases h with h | h
    · have := i1 h; omega
    · have := i2 h; omega
theorem out_occ : ∀ c : Co, (c.has 0 = false → c.out.occ = c.occ) ∧ (c.has 0 = true → c.out.occ + 1 ≤ c.occ) := by
  intro c
  induction c with
  | v i =>
    by_cases hi : i = 0
    · subst hi; simp [Co.out, Co.occ, Co.has]
    · rw [out_no (by simp [Co.has, hi])]; simp [Co.occ, Co.turn, Co.has, hi]
  | c n => simp [Co.out, Co.occ, Co.has]
  | a f x i1 i2 =>
    cases e : (Co.a f x).has 0 with
    | false =>
      rw [out_no e]
      exact ⟨fun _ => by simp [Co.occ, turn_occ, Co.turn], fun h => by cases h⟩
    | true =>
      rw [out_yes e]
      refine ⟨fun h => (by cases h), fun _ => ?_⟩
      simp only [Co.has, Bool.or_eq_true] at e
      simp only [Co.occ]
      cases e1 : f.has 0 <;> cases e2 : x.has 0
      · simp [e1, e2] at e
      · have := i1.1 e1; have := i2.2 e2; omega
      · have := i1.2 e1; have := i2.1 e2; omega
      · have := i1.2 e1; have := i2.2 e2; omega
theorem made_ok : ∀ t : Tm, t.ok → t.made.ok := by
  intro t
  induction t with
  | v i => exact fun h => h
  | l b ih => exact fun h => out_ok _ (ih h)
  | a f x i1 i2 => exact fun h => ⟨i1 h.1, i2 h.2⟩
theorem made_occ : ∀ t : Tm, t.made.occ + t.K ≤ t.L := by
  intro t
  induction t with
  | v i => simp [Tm.made, Co.occ, Tm.K, Tm.L]
  | l b ih =>
    simp only [Tm.made, Tm.K, Tm.L]
    have h := out_occ b.made
    cases e : b.made.has 0 with
    | false => have := h.1 e; simp; omega
    | true => have := h.2 e; simp; omega
  | a f x i1 i2 => simp only [Tm.made, Co.occ, Tm.K, Tm.L]; omega
theorem K_le : ∀ t : Tm, t.K ≤ t.J := by
  intro t
  induction t with
  | v i => simp [Tm.K, Tm.J]
  | l b ih => simp only [Tm.K, Tm.J]; split <;> omega
  | a f x i1 i2 => simp only [Tm.K, Tm.J]; omega
theorem L_pos : ∀ t : Tm, 1 ≤ t.L := by
  intro t
  induction t with
  | v i => simp [Tm.L]
  | l b ih => exact ih
  | a f x i1 i2 => simp only [Tm.L]; omega
theorem mul_app {a b p q x y : Nat} (hx : x ≤ a * p) (hy : y ≤ b * q) (ha : 1 ≤ a) (hb : 1 ≤ b) : 1 + x + y ≤ a * b * (p + q + 1) := by
  have h1 : a * p ≤ a * b * p := Nat.mul_le_mul_right p (Nat.le_mul_of_pos_right a hb)
  have h2 : b * q ≤ a * b * q := Nat.mul_le_mul_right q (Nat.le_mul_of_pos_left b ha)
  have h3 : 1 ≤ a * b := Nat.mul_pos ha hb
  rw [Nat.mul_add, Nat.mul_add]
  omega
theorem made_size : ∀ t : Tm, t.made.size.toNat ≤ 3 ^ t.K * (2 * t.L - 1 + 2 * (t.J - t.K)) := by
  intro t
  induction t with
  | v i => simp [Tm.made, Co.size, Tm.K, Tm.L, Tm.J]
  | l b ih =>
    have h := out_size b.made
    have hp := b.made.size_pos
    have hk := K_le b
    simp only [Tm.made, Tm.K, Tm.L, Tm.J]
    cases e : b.made.has 0 with
    | false =>
      have := h.2 e
      simp only [Bool.false_eq_true, if_false, Nat.add_zero]
      have h3 : 1 ≤ 3 ^ b.K := Nat.one_le_pow _ _ (by omega)
      have e2 : 2 * b.L - 1 + 2 * (b.J + 1 - b.K) = (2 * b.L - 1 + 2 * (b.J - b.K)) + 2 := by omega
      rw [e2, Nat.mul_add]
      omega
    | true =>
      simp only [if_true, Nat.pow_succ]
      have e2 : 2 * b.L - 1 + 2 * (b.J + 1 - (b.K + 1)) = 2 * b.L - 1 + 2 * (b.J - b.K) := by omega
      rw [e2]
      have : 3 ^ b.K * 3 * (2 * b.L - 1 + 2 * (b.J - b.K)) = 3 * (3 ^ b.K * (2 * b.L - 1 + 2 * (b.J - b.K))) := by
        rw [Nat.mul_comm (3 ^ b.K) 3, Nat.mul_assoc]
      rw [this]
      omega
  | a f x i1 i2 =>
    have := mul_app i1 i2 (Nat.one_le_pow _ _ (by omega)) (Nat.one_le_pow _ _ (by omega))
    have p1 := f.made.size_pos
    have p2 := x.made.size_pos
    have k1 := K_le f
    have k2 := K_le x
    have l1 := L_pos f
    have l2 := L_pos x
    simp only [Tm.made, Co.size, Tm.K, Tm.L, Tm.J]
    have e : 2 * (f.L + x.L) - 1 + 2 * (f.J + x.J - (f.K + x.K)) = 2 * f.L - 1 + 2 * (f.J - f.K) + (2 * x.L - 1 + 2 * (x.J - x.K)) + 1 := by omega
    rw [e, Nat.pow_add]
    omega
theorem made_dep : ∀ t : Tm, t.made.dep ≤ 2 ^ t.K * (t.L + (t.J - t.K)) := by
  intro t
  induction t with
  | v i => simp [Tm.made, Co.dep, Tm.K, Tm.L, Tm.J]
  | l b ih =>
    have h := out_dep b.made
    have hk := K_le b
    simp only [Tm.made, Tm.K, Tm.L, Tm.J]
    cases e : b.made.has 0 with
    | false =>
      have := h.2 e
      simp only [Bool.false_eq_true, if_false, Nat.add_zero]
      have h3 : 1 ≤ 2 ^ b.K := Nat.one_le_pow _ _ (by omega)
      have e2 : b.L + (b.J + 1 - b.K) = (b.L + (b.J - b.K)) + 1 := by omega
      rw [e2, Nat.mul_add]
      omega
    | true =>
      simp only [if_true, Nat.pow_succ]
      have e2 : b.L + (b.J + 1 - (b.K + 1)) = b.L + (b.J - b.K) := by omega
      rw [e2]
      have : 2 ^ b.K * 2 * (b.L + (b.J - b.K)) = 2 * (2 ^ b.K * (b.L + (b.J - b.K))) := by
        rw [Nat.mul_comm (2 ^ b.K) 2, Nat.mul_assoc]
      rw [this]
      omega
  | a f x i1 i2 =>
    have k1 := K_le f
    have k2 := K_le x
    have l1 := L_pos f
    have l2 := L_pos x
    simp only [Tm.made, Co.dep, Tm.K, Tm.L, Tm.J]
    have g1 : 1 ≤ 2 ^ f.K := Nat.one_le_pow _ _ (by omega)
    have g2 : 1 ≤ 2 ^ x.K := Nat.one_le_pow _ _ (by omega)
    have h1 : 2 ^ f.K * (f.L + (f.J - f.K)) ≤ 2 ^ f.K * 2 ^ x.K * (f.L + (f.J - f.K)) := Nat.mul_le_mul_right _ (Nat.le_mul_of_pos_right _ g2)
    have h2 : 2 ^ x.K * (x.L + (x.J - x.K)) ≤ 2 ^ f.K * 2 ^ x.K * (x.L + (x.J - x.K)) := Nat.mul_le_mul_right _ (Nat.le_mul_of_pos_left _ g1)
    have h3 : 2 ^ f.K * 2 ^ x.K * 1 ≤ 2 ^ f.K * 2 ^ x.K * (x.L + (x.J - x.K)) := Nat.mul_le_mul_left _ (by omega)
    have h4 : 2 ^ f.K * 2 ^ x.K * 1 ≤ 2 ^ f.K * 2 ^ x.K * (f.L + (f.J - f.K)) := Nat.mul_le_mul_left _ (by omega)
    have h5 : 1 ≤ 2 ^ f.K * 2 ^ x.K := Nat.mul_pos g1 g2
    have e : f.L + x.L + (f.J + x.J - (f.K + x.K)) = (f.L + (f.J - f.K)) + (x.L + (x.J - x.K)) := by omega
    rw [e, Nat.pow_add, Nat.mul_add]
    omega
/-- terms of few nodes: small combinators -/
def chk (m A B L J K : Nat) : Bool := !(decide (2 * L + J ≤ m) && decide (K ≤ L) && decide (K ≤ J) && decide (1 ≤ L)) || (decide (3 ^ K * (2 * L - 1 + 2 * (J - K)) ≤ A) && decide (2 ^ K * (L + (J - K)) ≤ B))
theorem chk_of {m A B L J K : Nat} (h : ((List.range 8).all fun L => (List.range 15).all fun J => (List.range 8).all fun K => chk m A B L J K) = true) (hL : L < 8) (hJ : J < 15) (hK : K < 8) (h1 : 2 * L + J ≤ m) (h2 : K ≤ L) (h3 : K ≤ J) (h4 : 1 ≤ L) :
    3 ^ K * (2 * L - 1 + 2 * (J - K)) ≤ A ∧ 2 ^ K * (L + (J - K)) ≤ B := by
  have g1 := List.all_eq_true.1 h L (List.mem_range.2 hL)
  have g2 := List.all_eq_true.1 g1 J (List.mem_range.2 hJ)
  have g3 := List.all_eq_true.1 g2 K (List.mem_range.2 hK)
  simpa [chk, h1, h2, h3, h4] using g3
theorem tab14 : ((List.range 8).all fun L => (List.range 15).all fun J => (List.range 8).all fun K => chk 15 2200 160 L J K) = true := by decide +kernel
theorem tab6 : ((List.range 8).all fun L => (List.range 15).all fun J => (List.range 8).all fun K => chk 7 60 20 L J K) = true := by decide +kernel
theorem made_14 {t : Tm} (h : 2 * t.L + t.J ≤ 15) : t.made.size ≤ 2200 ∧ t.made.dep ≤ 160 := by
  have h1 := made_size t
  have h2 := made_dep t
  have h3 := made_occ t
  have h4 := K_le t
  have h5 := L_pos t
  have h6 := chk_of tab14 (L := t.L) (J := t.J) (K := t.K) (by omega) (by omega) (by omega) h (by omega) h4 h5
  have := t.made.size_pos
  omega
theorem made_6 {t : Tm} (h : 2 * t.L + t.J ≤ 7) : t.made.size ≤ 60 ∧ t.made.dep ≤ 20 := by
  have h1 := made_size t
  have h2 := made_dep t
  have h3 := made_occ t
  have h4 := K_le t
  have h5 := L_pos t
  have h6 := chk_of tab6 (L := t.L) (J := t.J) (K := t.K) (by omega) (by omega) (by omega) h (by omega) h4 h5
  have := t.made.size_pos
  omega
/-! ### what is filled in -/
/-- all variables from l on raised by d -/
def Co.shift (d l : Int) : Co → Co
  | .v i => if l ≤ i then .v (i + d) else .v i
  | .c n => .c n
  | .a f x => .a (f.shift d l) (x.shift d l)
def Tm.shift (d l : Int) : Tm → Tm
  | .v i => if l ≤ i then .v (i + d) else .v i
  | .l b => .l (b.shift d (l + 1))
  | .a f x => .a (f.shift d l) (x.shift d l)
def Co.fill : Co → Int → Co → Co
  | .v i, k, w => if i < k then .v i else if i = k then w.shift k 0 else .v (i - 1)
  | .c n, _, _ => .c n
  | .a f x, k, w => .a (f.fill k w) (x.fill k w)
def Tm.put : Tm → Int → Tm → Tm
  | .v i, k, u => if i < k then .v i else if i = k then u.shift k 0 else .v (i - 1)
  | .l b, k, u => .l (b.put (k + 1) u)
  | .a f x, k, u => .a (f.put k u) (x.put k u)
theorem shift_has {d l : Int} (hd : 0 ≤ d) (hl : 1 ≤ l) : ∀ c : Co, (c.shift d l).has 0 = c.has 0 := by
  intro c
  induction c with
  | v i => simp only [Co.shift]; split <;> simp [Co.has]; omega
  | c n => rfl
  | a f x i1 i2 => simp only [Co.shift, Co.has, i1, i2]
theorem shift_has0 {d : Int} (hd : 1 ≤ d) : ∀ c : Co, c.ok → (c.shift d 0).has 0 = false := by
  intro c
  induction c with
  | v i => intro h; simp only [Co.ok] at h; simp only [Co.shift, if_pos h, Co.has]; simp; omega
  | c n => intro _; rfl
  | a f x i1 i2 => intro h; simp only [Co.shift, Co.has, i1 h.1, i2 h.2]; rfl
theorem shift_turn {d l : Int} : ∀ c : Co, (c.shift d (l + 1)).turn (-1) = (c.turn (-1)).shift d l := by
  intro c
  induction c with
  | v i =>
    simp only [Co.shift, Co.turn]
    by_cases h : l + 1 ≤ i
    · rw [if_pos h, if_pos (by omega)]; simp only [Co.turn]; congr 1; omega
    · rw [if_neg h, if_neg (by omega)]; rfl
  | c n => rfl
  | a f x i1 i2 => simp only [Co.shift, Co.turn, i1, i2]
theorem out_shift {d l : Int} (hd : 0 ≤ d) (hl : 0 ≤ l) : ∀ c : Co, (c.shift d (l + 1)).out = c.out.shift d l := by
  intro c
  have key : ∀ c : Co, c.has 0 = false → (c.shift d (l + 1)).out = c.out.shift d l := fun c h => by
    rw [out_no h, out_no (by rw [shift_has hd (by omega)]; exact h), shift_turn]; rfl
  induction c with
  | v i =>
    by_cases hi : i = 0
    · subst hi
      simp only [Co.shift]
      rw [if_neg (by omega)]
      simp [Co.out, Co.shift]
    · exact key _ (by simp [Co.has, hi])
  | c n => exact key _ rfl
  | a f x i1 i2 =>
    cases e : (Co.a f x).has 0 with
    | false => exact key _ e
    | true =>
      have e2 : (Co.a (f.shift d (l + 1)) (x.shift d (l + 1))).has 0 = true := (shift_has (d := d) (l := l + 1) hd (by omega) (.a f x)).trans e
      rw [out_yes e]
      show (Co.a (f.shift d (l + 1)) (x.shift d (l + 1))).out = _
      rw [out_yes e2, i1, i2]
      rfl
theorem made_shift {d : Int} (hd : 0 ≤ d) : ∀ (t : Tm) (l : Int), 0 ≤ l → (t.shift d l).made = t.made.shift d l := by
  intro t
  induction t with
  | v i => intro l hl; simp only [Tm.shift, Tm.made, Co.shift]; split <;> rfl
  | l b ih => intro l hl; simp only [Tm.shift, Tm.made]; rw [ih (l + 1) (by omega), out_shift hd hl]
  | a f x i1 i2 => intro l hl; simp only [Tm.shift, Tm.made, Co.shift, i1 l hl, i2 l hl]
theorem shift_shift0 {k : Int} : ∀ w : Co, w.ok → 0 ≤ k → (w.shift (k + 1) 0).turn (-1) = w.shift k 0 := by
  intro w
  induction w with
  | v i => intro h _; simp only [Co.ok] at h; simp only [Co.shift, if_pos h, Co.turn]; congr 1; omega
  | c n => intro _ _; rfl
  | a f x i1 i2 => intro h hk; simp only [Co.shift, Co.turn, i1 h.1 hk, i2 h.2 hk]
theorem fill_has {k : Int} {w : Co} (hk : 0 ≤ k) (hw : w.ok) : ∀ c : Co, c.ok → (c.fill (k + 1) w).has 0 = c.has 0 := by
  intro c
  induction c with
  | v i =>
    intro h
    simp only [Co.ok] at h
    simp only [Co.fill]
    by_cases h1 : i < k + 1
    · rw [if_pos h1]
    · rw [if_neg h1]
      by_cases h2 : i = k + 1
      · rw [if_pos h2, shift_has0 (by omega) w hw]; simp [Co.has]; omega
      · rw [if_neg h2]; simp [Co.has]; omega
  | c n => intro _; rfl
  | a f x i1 i2 => intro h; simp only [Co.fill, Co.has, i1 h.1, i2 h.2]
theorem fill_turn {k : Int} {w : Co} (hk : 0 ≤ k) (hw : w.ok) : ∀ c : Co, (c.fill (k + 1) w).turn (-1) = (c.turn (-1)).fill k w := by
  intro c
  induction c with
  | v i =>
    simp only [Co.turn, Co.fill]
    by_cases h1 : i < k + 1
    · rw [if_pos h1, if_pos (show i + -1 < k by omega)]; rfl
    · by_cases h2 : i = k + 1
      · subst h2
        rw [if_neg h1, if_pos rfl, if_neg (show ¬ k + 1 + -1 < k by omega), if_pos (show k + 1 + -1 = k by omega)]
        exact shift_shift0 w hw hk
      · rw [if_neg h1, if_neg h2, if_neg (show ¬ i + -1 < k by omega), if_neg (show ¬ i + -1 = k by omega)]
        rfl
  | c n => rfl
  | a f x i1 i2 => simp only [Co.fill, Co.turn, i1, i2]
theorem out_fill {k : Int} {w : Co} (hk : 0 ≤ k) (hw : w.ok) : ∀ c : Co, c.ok → (c.fill (k + 1) w).out = c.out.fill k w := by
  intro c
  have key : ∀ c : Co, c.ok → c.has 0 = false → (c.fill (k + 1) w).out = c.out.fill k w := fun c hc h => by
    rw [out_no h, out_no (by rw [fill_has hk hw c hc]; exact h), fill_turn hk hw]; rfl
  induction c with
  | v i =>
    intro hc
    by_cases hi : i = 0
    · subst hi
      simp only [Co.fill]
      rw [if_pos (by omega)]
      simp [Co.out, Co.fill]
    · exact key _ hc (by simp [Co.has, hi])
  | c n => intro hc; exact key _ hc rfl
  | a f x i1 i2 =>
    intro hc
    cases e : (Co.a f x).has 0 with
    | false => exact key _ hc e
    | true =>
      have e2 : (Co.a (f.fill (k + 1) w) (x.fill (k + 1) w)).has 0 = true := (fill_has hk hw (.a f x) hc).trans e
      rw [out_yes e]
      show (Co.a (f.fill (k + 1) w) (x.fill (k + 1) w)).out = _
      rw [out_yes e2, i1 hc.1, i2 hc.2]
      rfl
theorem made_put {u : Tm} (hu : u.ok) : ∀ (t : Tm) (k : Int), t.ok → 0 ≤ k → (t.put k u).made = t.made.fill k u.made := by
  intro t
  induction t with
  | v i =>
    intro k h hk
    simp only [Tm.put, Tm.made, Co.fill]
    split
    · rfl
    · split
      · exact made_shift hk u 0 (Int.le_refl _)
      · rfl
  | l b ih => intro k h hk; simp only [Tm.put, Tm.made]; rw [ih (k + 1) h (by omega), out_fill hk (made_ok u hu) _ (made_ok b h)]
  | a f x i1 i2 => intro k h hk; simp only [Tm.put, Tm.made, Co.fill, i1 k h.1 hk, i2 k h.2 hk]
theorem shift_size (d l : Int) : ∀ c : Co, (c.shift d l).size = c.size := by
  intro c
  induction c with
  | v => simp only [Co.shift]; split <;> rfl
  | c => rfl
  | a f x h1 h2 => simp only [Co.shift, Co.size, h1, h2]
theorem shift_dep (d l : Int) : ∀ c : Co, (c.shift d l).dep = c.dep := by
  intro c
  induction c with
  | v => simp only [Co.shift]; split <;> rfl
  | c => rfl
  | a f x h1 h2 => simp only [Co.shift, Co.dep, h1, h2]
theorem fill_size {k : Int} {w : Co} : ∀ c : Co, (c.fill k w).size ≤ c.size + c.occ * w.size := by
  intro c
  have hw := w.size_pos
  induction c with
  | v i =>
    simp only [Co.fill, Co.occ]
    split
    · simp [Co.size]; omega
    · split
      · rw [shift_size]; simp [Co.size]; omega
      · simp [Co.size]; omega
  | c n => simp [Co.fill, Co.size, Co.occ]
  | a f x i1 i2 =>
    simp only [Co.fill, Co.size, Co.occ]
    have : (((f.occ + x.occ : Nat) : Int)) * w.size = f.occ * w.size + x.occ * w.size := by rw [Int.natCast_add, Int.add_mul]
    omega
theorem fill_dep {k : Int} {w : Co} : ∀ c : Co, (c.fill k w).dep ≤ c.dep + w.dep := by
  intro c
  induction c with
  | v i =>
    have := w.dep_pos
    simp only [Co.fill]
    split
    · simp [Co.dep]
    · split
      · rw [shift_dep]; simp [Co.dep]
      · simp [Co.dep]
  | c n => simp [Co.fill, Co.dep]
  | a f x i1 i2 => simp only [Co.fill, Co.dep]; omega
end K04
set_option Elab.async false
set_option linter.all false
set_option maxRecDepth 100000
set_option maxHeartbeats 1000000
namespace K04
open PySem Pv
local macro_rules | `(tactic| walk_at "pv") => `(tactic| simp [wpSs, wpS, wpE, wpT, wpEs, wpTs, wpO, wpI, wpG, startP, L2.CMul, L2.CDiv, L2.CPow, st_inj, sizeLine, eqB_tup, -List.getD_eq_getElem?_getD])
variable {S : Store} {Q : PQ} {E : PX}
/-- all parts make combinators that are small -/
def Tm.fit (D : Nat) : Tm → Prop
  | .v _ => True
  | .l b => b.fit D ∧ b.made.dep ≤ D ∧ b.made.out.dep ≤ D ∧ b.made.out.size ≤ 3000
  | .a f x => f.fit D ∧ x.fit D ∧ (Tm.a f x).made.dep ≤ D ∧ (Tm.a f x).made.size ≤ 3000
theorem fit_of {D : Nat} {m : Nat} (h : ∀ t : Tm, 2 * t.L + t.J ≤ m → t.made.size ≤ 3000 ∧ t.made.dep ≤ D) : ∀ t : Tm, 2 * t.L + t.J ≤ m → t.fit D := by
  intro t
  induction t with
  | v i => intro _; trivial
  | l b ih => intro hm; have h1 := h (.l b) hm; simp only [Tm.L, Tm.J] at hm; have h2 := h b (by omega); exact ⟨ih (by omega), h2.2, h1.2, h1.1⟩
  | a f x i1 i2 => intro hm; have h1 := h (.a f x) hm; simp only [Tm.L, Tm.J] at hm; exact ⟨i1 (by omega), i2 (by omega), h1.2, h1.1⟩
theorem fit_14 {t : Tm} (h : 2 * t.L + t.J ≤ 15) : t.fit 180 := fit_of (fun t h => by have := made_14 h; omega) t h
theorem fit_shift {D : Nat} {d : Int} (hd : 0 ≤ d) : ∀ (t : Tm) (l : Int), 0 ≤ l → t.fit D → (t.shift d l).fit D := by
  intro t
  induction t with
  | v i => intro l _ _; simp only [Tm.shift]; split <;> trivial
  | l b ih =>
    intro l hl h
    have e := made_shift hd b (l + 1) (by omega)
    refine ⟨ih (l + 1) (by omega) h.1, ?_, ?_, ?_⟩
    · rw [e, shift_dep]; exact h.2.1
    · rw [e, out_shift hd hl, shift_dep]; exact h.2.2.1
    · rw [e, out_shift hd hl, shift_size]; exact h.2.2.2
  | a f x i1 i2 =>
    intro l hl h
    have e := made_shift hd (.a f x) l hl
    refine ⟨i1 l hl h.1, i2 l hl h.2.1, ?_, ?_⟩
    · show ((Tm.a f x).shift d l).made.dep ≤ D; rw [e, shift_dep]; exact h.2.2.1
    · show ((Tm.a f x).shift d l).made.size ≤ 3000; rw [e, shift_size]; exact h.2.2.2
theorem mul_le {o : Nat} {s : Int} (ho : o ≤ 7) (hs : s ≤ 60) (h0 : 1 ≤ s) : (o : Int) * s ≤ 420 := by
  have h1 : (o : Int) * s ≤ 7 * s := Int.mul_le_mul_of_nonneg_right (by omega) (by omega)
  omega
theorem put_small {t u : Tm} {k : Int} (ht : t.ok) (hu : u.ok) (hk : 0 ≤ k) (h1 : 2 * t.L + t.J ≤ 15) (h2 : 2 * u.L + u.J ≤ 7) : (t.put k u).made.size ≤ 3000 ∧ (t.put k u).made.dep ≤ 180 := by
  rw [made_put hu t k ht hk]
  have a := made_14 h1
  have b := made_6 h2
  have c := fill_size (k := k) (w := u.made) t.made
  have d := fill_dep (k := k) (w := u.made) t.made
  have o := made_occ t
  have hl := L_pos t
  have := mul_le (o := t.made.occ) (s := u.made.size) (by omega) b.1 u.made.size_pos
  omega
theorem fit_put {u : Tm} (hu : u.ok) (h2 : 2 * u.L + u.J ≤ 7) : ∀ (t : Tm) (k : Int), t.ok → 0 ≤ k → 2 * t.L + t.J ≤ 15 → (t.put k u).fit 180 := by
  have fu : u.fit 180 := fit_of (m := 7) (fun t h => by have := made_6 h; omega) u h2
  intro t
  induction t with
  | v i =>
    intro k _ hk _
    simp only [Tm.put]
    split
    · trivial
    · split
      · exact fit_shift hk u 0 (Int.le_refl _) fu
      · trivial
  | l b ih =>
    intro k ht hk h1
    have a := put_small (t := .l b) ht hu hk h1 h2
    simp only [Tm.L, Tm.J] at h1
    have c := put_small (t := b) (k := k + 1) ht hu (by omega) (by omega) h2
    exact ⟨ih (k + 1) ht (by omega) (by omega), c.2, a.2, a.1⟩
  | a f x i1 i2 =>
    intro k ht hk h1
    have a := put_small (t := .a f x) ht hu hk h1 h2
    simp only [Tm.L, Tm.J] at h1
    exact ⟨i1 k ht.1 hk (by omega), i2 k ht.2 hk (by omega), a.2, a.1⟩
theorem Tm.dep_pos : ∀ t : Tm, 1 ≤ t.dep := by intro t; cases t <;> simp [Tm.dep]
/-- made_of -/
theorem made16 {D : Nat} : ∀ (t : Tm) (k : Nat) (Q : PQ) (E : PX), t.dep + D + 2 ≤ k → t.ok → t.fit D → Q t.made.pv S → runF tab fns k 16 [t.pv] S Q E := by
  intro t
  induction t with
  | v i =>
    intro k Q E hk _ _ h
    obtain ⟨k, rfl⟩ : ∃ j, k = j + 1 := ⟨k - 1, by omega⟩
    refine run_in (d := f16) rfl rfl fun wf un => ?_
    simp only [f16, Tm.pv, Tm.made, Co.pv] at h ⊢
    walk_at "pv"
    exact .inl h
  | l b ih =>
    intro k Q E hk ho hf h
    simp only [Tm.dep] at hk
    obtain ⟨k, rfl⟩ : ∃ j, k = j + 1 := ⟨k - 1, by omega⟩
    refine run_in (d := f16) rfl rfl fun wf un => ?_
    simp only [f16, Tm.pv, Tm.made] at h ⊢
    walk_at "pv"
    refine ih _ _ _ (by omega) ho hf.1 ?_
    refine out14 _ _ _ _ (by have := hf.2.1; omega) (made_ok b ho) ?_
    refine nodes11 _ _ _ _ (by have := hf.2.2.1; omega) ?_
    walk_at "pv"
    exact .inl ⟨hf.2.2.2, .inl h⟩
  | a f x i1 i2 =>
    intro k Q E hk ho hf h
    simp only [Tm.dep] at hk
    obtain ⟨k, rfl⟩ : ∃ j, k = j + 1 := ⟨k - 1, by omega⟩
    refine run_in (d := f16) rfl rfl fun wf un => ?_
    have hn := fun Q E => nodes11 (S := S) (Tm.a f x).made k Q E (by have := hf.2.2.1; omega)
    simp only [f16, Tm.pv, Tm.made, Co.pv] at h hn ⊢
    walk_at "pv"
    refine i1 _ _ _ (by omega) ho.1 hf.1 ?_
    refine i2 _ _ _ (by omega) ho.2 hf.2.1 ?_
    refine hn _ _ ?_
    walk_at "pv"
    exact .inl ⟨hf.2.2.2, .inl h⟩
/-- _law_made -/
theorem made32 {D : Nat} : ∀ (t : Tm) (k : Nat) (Q : PQ) (E : PX), t.dep + D + 2 ≤ k → t.ok → t.fit D → Q t.made.pv S → runF tab fns k 32 [t.pv] S Q E := by
  intro t
  induction t with
  | v i =>
    intro k Q E hk _ _ h
    obtain ⟨k, rfl⟩ : ∃ j, k = j + 1 := ⟨k - 1, by omega⟩
    refine run_in (d := f32) rfl rfl fun wf un => ?_
    simp only [f32, Tm.pv, Tm.made, Co.pv] at h ⊢
    walk_at "pv"
    exact .inl h
  | l b ih =>
    intro k Q E hk ho hf h
    simp only [Tm.dep] at hk
    obtain ⟨k, rfl⟩ : ∃ j, k = j + 1 := ⟨k - 1, by omega⟩
    refine run_in (d := f32) rfl rfl fun wf un => ?_
    simp only [f32, Tm.pv, Tm.made] at h ⊢
    walk_at "pv"
    refine ih _ _ _ (by omega) ho hf.1 ?_
    exact out31 _ _ _ _ (by have := hf.2.1; omega) (made_ok b ho) (.inl h)
  | a f x i1 i2 =>
    intro k Q E hk ho hf h
    simp only [Tm.dep] at hk
    obtain ⟨k, rfl⟩ : ∃ j, k = j + 1 := ⟨k - 1, by omega⟩
    refine run_in (d := f32) rfl rfl fun wf un => ?_
    simp only [f32, Tm.pv, Tm.made, Co.pv] at h ⊢
    walk_at "pv"
    refine i1 _ _ _ (by omega) ho.1 hf.1 ?_
    exact i2 _ _ _ (by omega) ho.2 hf.2.1 (.inl h)
/-- is_term -/
theorem term6 : ∀ (t : Tm) (k : Nat) (Q : PQ) (E : PX), t.dep + 2 ≤ k → t.ok → Q (.bl true) S → runF tab fns k 6 [t.pv] S Q E := by
  intro t
  induction t with
  | v n =>
    intro k Q E hk hc h
    obtain ⟨k, rfl⟩ : ∃ j, k = j + 3 := ⟨k - 3, by simp [Tm.dep] at hk; omega⟩
    refine run_in (d := f6) rfl rfl fun wf un => ?_
    simp only [f6, Tm.pv]
    walk_at "pv"
    exact ok_isnat hc (.inl h)
  | l b ih =>
    intro k Q E hk hc h
    simp only [Tm.dep] at hk
    obtain ⟨k, rfl⟩ : ∃ j, k = j + 1 := ⟨k - 1, by omega⟩
    refine run_in (d := f6) rfl rfl fun wf un => ?_
    simp only [f6, Tm.pv]
    walk_at "pv"
    exact ih _ _ _ (by omega) hc (.inl h)
  | a f x ih1 ih2 =>
    intro k Q E hk hc h
    simp only [Tm.dep] at hk
    obtain ⟨k, rfl⟩ : ∃ j, k = j + 1 := ⟨k - 1, by omega⟩
    refine run_in (d := f6) rfl rfl fun wf un => ?_
    simp only [f6, Tm.pv]
    walk_at "pv"
    refine ih1 _ _ _ (by omega) hc.1 ?_
    simp
    exact ih2 _ _ _ (by omega) hc.2 (.inl h)
theorem check7 {t : Tm} {k : Nat} (hk : t.dep + 3 ≤ k) (hc : t.ok) (h : Q .non S) : runF tab fns k 7 [t.pv] S Q E := by
  obtain ⟨k, rfl⟩ : ∃ j, k = j + 1 := ⟨k - 1, by omega⟩
  refine run_in (d := f7) rfl rfl fun wf un => ?_
  simp only [f7]
  walk_at "pv"
  refine term6 _ _ _ _ (by omega) hc ?_
  simp
  exact .inl h
/-- combinators_of -/
theorem of17 {D : Nat} {t : Tm} {k : Nat} (hk : t.dep + D + 4 ≤ k) (hc : t.ok) (hf : t.fit D) (h : Q t.made.pv S) : runF tab fns k 17 [t.pv] S Q E := by
  obtain ⟨k, rfl⟩ : ∃ j, k = j + 1 := ⟨k - 1, by omega⟩
  refine run_in (d := f17) rfl rfl fun wf un => ?_
  simp only [f17]
  walk_at "pv"
  refine check7 (by omega) hc ?_
  exact made16 _ _ _ _ (by omega) hc hf (.inl h)
/-- take_out -/
theorem take15 {c : Co} {k : Nat} (hk : c.dep + 4 ≤ k) (hc : c.ok) (h : Q c.out.pv S) : runF tab fns k 15 [c.pv] S Q E := by
  obtain ⟨k, rfl⟩ : ∃ j, k = j + 1 := ⟨k - 1, by omega⟩
  refine run_in (d := f15) rfl rfl fun wf un => ?_
  simp only [f15]
  walk_at "pv"
  refine ok_check (by omega) hc ?_
  exact out14 _ _ _ _ (by omega) hc (.inl h)
/-- shift_from -/
theorem shift3 {d : Int} : ∀ (t : Tm) (l : Int) (k : Nat) (Q : PQ) (E : PX), t.dep ≤ k → Q (t.shift d l).pv S → runF tab fns k 3 [t.pv, .int d, .int l] S Q E := by
  intro t
  induction t with
  | v i =>
    intro l k Q E hk h
    obtain ⟨k, rfl⟩ : ∃ j, k = j + 1 := ⟨k - 1, by simp [Tm.dep] at hk; omega⟩
    refine run_in (d := f3) rfl rfl fun wf un => ?_
    simp only [f3, Tm.pv, Tm.shift] at h ⊢
    walk_at "pv"
    by_cases hi : l ≤ i
    · rw [if_pos hi] at h
      exact .inr ⟨hi, .inl h⟩
    · rw [if_neg hi] at h
      exact .inl ⟨by omega, .inl h⟩
  | l b ih =>
    intro l k Q E hk h
    simp only [Tm.dep] at hk
    obtain ⟨k, rfl⟩ : ∃ j, k = j + 1 := ⟨k - 1, by omega⟩
    refine run_in (d := f3) rfl rfl fun wf un => ?_
    simp only [f3, Tm.pv, Tm.shift] at h ⊢
    walk_at "pv"
    exact ih _ _ _ _ (by omega) (.inl h)
  | a f x i1 i2 =>
    intro l k Q E hk h
    simp only [Tm.dep] at hk
    obtain ⟨k, rfl⟩ : ∃ j, k = j + 1 := ⟨k - 1, by omega⟩
    refine run_in (d := f3) rfl rfl fun wf un => ?_
    simp only [f3, Tm.pv, Tm.shift] at h ⊢
    walk_at "pv"
    refine i1 _ _ _ _ (by omega) ?_
    exact i2 _ _ _ _ (by omega) (.inl h)
/-- put_below -/
theorem put4 {u : Tm} : ∀ (t : Tm) (l : Int) (k : Nat) (Q : PQ) (E : PX), t.dep + u.dep ≤ k → Q (t.put l u).pv S → runF tab fns k 4 [t.pv, .tup [u.pv], .int l] S Q E := by
  intro t
  induction t with
  | v i =>
    intro l k Q E hk h
    obtain ⟨k, rfl⟩ : ∃ j, k = j + 1 := ⟨k - 1, by simp [Tm.dep] at hk; omega⟩
    refine run_in (d := f4) rfl rfl fun wf un => ?_
    simp only [f4, Tm.pv, Tm.put] at h ⊢
    walk_at "pv"
    have hu := u.dep_pos
    by_cases h1 : i < l
    · rw [if_pos h1] at h
      exact .inr ⟨by omega, .inl h⟩
    · rw [if_neg h1] at h
      by_cases h2 : i = l
      · rw [if_pos h2] at h
        subst h2
        refine .inl ⟨by omega, .inr ⟨by omega, u.pv, ?_, ?_⟩⟩
        · rw [Int.sub_self, atPV_lt (by omega) (by simp)]; rfl
        · exact shift3 _ _ _ _ _ (by simp only [Tm.dep] at hk; omega) (.inl h)
      · rw [if_neg h2] at h
        exact .inl ⟨by omega, .inl ⟨by omega, .inl h⟩⟩
  | l b ih =>
    intro l k Q E hk h
    simp only [Tm.dep] at hk
    obtain ⟨k, rfl⟩ : ∃ j, k = j + 1 := ⟨k - 1, by omega⟩
    refine run_in (d := f4) rfl rfl fun wf un => ?_
    simp only [f4, Tm.pv, Tm.put] at h ⊢
    walk_at "pv"
    exact ih _ _ _ _ (by omega) (.inl h)
  | a f x i1 i2 =>
    intro l k Q E hk h
    simp only [Tm.dep] at hk
    obtain ⟨k, rfl⟩ : ∃ j, k = j + 1 := ⟨k - 1, by omega⟩
    refine run_in (d := f4) rfl rfl fun wf un => ?_
    simp only [f4, Tm.pv, Tm.put] at h ⊢
    walk_at "pv"
    refine i1 _ _ _ _ (by omega) ?_
    exact i2 _ _ _ _ (by omega) (.inl h)
/-- put_in -/
theorem putin8 {t u : Tm} {k : Nat} (hk : t.dep + u.dep + 4 ≤ k) (ht : t.ok) (hu : u.ok) (h : Q (t.put 0 u).pv S) : runF tab fns k 8 [t.pv, u.pv] S Q E := by
  obtain ⟨k, rfl⟩ : ∃ j, k = j + 1 := ⟨k - 1, by omega⟩
  refine run_in (d := f8) rfl rfl fun wf un => ?_
  simp only [f8]
  walk_at "pv"
  refine check7 (by omega) ht ?_
  refine check7 (by omega) hu ?_
  exact put4 _ _ _ _ _ (by omega) (.inl h)
/-- _law_filled -/
theorem shift00 : ∀ c : Co, c.ok → c.shift 0 0 = c := by
  intro c
  induction c with
  | v i => intro h; simp only [Co.shift]; split <;> simp
  | c n => intro _; rfl
  | a f x i1 i2 => intro h; simp only [Co.shift, i1 h.1, i2 h.2]
theorem filled33 {w : Co} (hw : w.ok) : ∀ (c : Co) (k : Nat) (Q : PQ) (E : PX), c.dep ≤ k → c.ok → Q (c.fill 0 w).pv S → runF tab fns k 33 [c.pv, w.pv] S Q E := by
  intro c
  induction c with
  | v i =>
    intro k Q E hk hc h
    obtain ⟨k, rfl⟩ : ∃ j, k = j + 1 := ⟨k - 1, by simp [Co.dep] at hk; omega⟩
    refine run_in (d := f33) rfl rfl fun wf un => ?_
    simp only [f33, Co.pv, Co.fill] at h ⊢
    rw [if_neg (by simp only [Co.ok] at hc; omega)] at h
    walk_at "pv"
    by_cases hi : i = 0
    · rw [if_pos hi, shift00 w hw] at h
      exact .inr ⟨hi, .inl h⟩
    · rw [if_neg hi] at h
      exact .inl ⟨hi, .inl h⟩
  | c n =>
    intro k Q E hk _ h
    obtain ⟨k, rfl⟩ : ∃ j, k = j + 1 := ⟨k - 1, by simp [Co.dep] at hk; omega⟩
    refine run_in (d := f33) rfl rfl fun wf un => ?_
    simp only [f33, Co.pv, Co.fill] at h ⊢
    walk_at "pv"
    exact .inl h
  | a f x i1 i2 =>
    intro k Q E hk hc h
    simp only [Co.dep] at hk
    obtain ⟨k, rfl⟩ : ∃ j, k = j + 1 := ⟨k - 1, by omega⟩
    refine run_in (d := f33) rfl rfl fun wf un => ?_
    simp only [f33, Co.pv, Co.fill] at h ⊢
    walk_at "pv"
    refine i1 _ _ _ (by omega) hc.1 ?_
    exact i2 _ _ _ (by omega) hc.2 (.inl h)
/-! ### the term of combinators -/
def conT : Nat → Tm
  | 2 => .l (.v 0)
  | 1 => .l (.l (.v 1))
  | _ => .l (.l (.l (.a (.a (.v 2) (.v 0)) (.a (.v 1) (.v 0)))))
def Co.tm : Co → Tm
  | .v i => .v i
  | .c n => conT n
  | .a f x => .a f.tm x.tm
def Tm.size : Tm → Int
  | .v _ => 1
  | .l b => 1 + b.size
  | .a f x => 1 + f.size + x.size
theorem tm_size : ∀ c : Co, c.tm.size ≤ 10 * c.size := by
  intro c
  induction c with
  | v i => simp [Co.tm, Tm.size, Co.size]
  | c n =>
    simp only [Co.tm, Co.size]
    unfold conT
    split <;> simp [Tm.size]
  | a f x i1 i2 => simp only [Co.tm, Tm.size, Co.size]; omega
theorem tm_dep : ∀ c : Co, c.tm.dep ≤ c.dep + 6 := by
  intro c
  induction c with
  | v i => simp [Co.tm, Tm.dep, Co.dep]
  | c n =>
    simp only [Co.tm, Co.dep]
    unfold conT
    split <;> simp [Tm.dep]
  | a f x i1 i2 => simp only [Co.tm, Tm.dep, Co.dep]; omega
theorem con18 {n : Nat} {k : Nat} (hn : n < 3) (h : Q (conT n).pv S) : runF tab fns (k + 1) 18 [.str (st n)] S Q E := by
  refine run_in (d := f18) rfl rfl fun wf un => ?_
  have hn' : n = 0 ∨ n = 1 ∨ n = 2 := by omega
  simp only [f18]
  rcases hn' with rfl | rfl | rfl <;> (simp only [conT, Tm.pv] at h; walk_at "pv"; exact .inl h)
theorem with19 : ∀ (c : Co) (k : Nat) (Q : PQ) (E : PX), c.dep + 1 ≤ k → c.ok → Q c.tm.pv S → runF tab fns k 19 [c.pv] S Q E := by
  intro c
  induction c with
  | v i =>
    intro k Q E hk _ h
    obtain ⟨k, rfl⟩ : ∃ j, k = j + 1 := ⟨k - 1, by omega⟩
    refine run_in (d := f19) rfl rfl fun wf un => ?_
    simp only [f19, Co.pv, Co.tm, Tm.pv] at h ⊢
    walk_at "pv"
    exact .inl h
  | c n =>
    intro k Q E hk hc h
    simp only [Co.dep] at hk
    obtain ⟨k, rfl⟩ : ∃ j, k = j + 2 := ⟨k - 2, by omega⟩
    refine run_in (d := f19) rfl rfl fun wf un => ?_
    simp only [f19, Co.pv, Co.tm] at h ⊢
    walk_at "pv"
    exact con18 hc (.inl h)
  | a f x i1 i2 =>
    intro k Q E hk hc h
    simp only [Co.dep] at hk
    obtain ⟨k, rfl⟩ : ∃ j, k = j + 1 := ⟨k - 1, by omega⟩
    refine run_in (d := f19) rfl rfl fun wf un => ?_
    simp only [f19, Co.pv, Co.tm, Tm.pv] at h ⊢
    walk_at "pv"
    refine i1 _ _ _ (by omega) hc.1 ?_
    exact i2 _ _ _ (by omega) hc.2 (.inl h)
theorem lterm34 : ∀ (c : Co) (k : Nat) (Q : PQ) (E : PX), c.dep ≤ k → c.ok → Q c.tm.pv S → runF tab fns k 34 [c.pv] S Q E := by
  intro c
  induction c with
  | v i =>
    intro k Q E hk _ h
    obtain ⟨k, rfl⟩ : ∃ j, k = j + 1 := ⟨k - 1, by simp only [Co.dep] at hk; omega⟩
    refine run_in (d := f34) rfl rfl fun wf un => ?_
    simp only [f34, Co.pv, Co.tm, Tm.pv] at h ⊢
    walk_at "pv"
    exact .inl h
  | c n =>
    intro k Q E hk hc h
    simp only [Co.dep] at hk
    obtain ⟨k, rfl⟩ : ∃ j, k = j + 1 := ⟨k - 1, by omega⟩
    refine run_in (d := f34) rfl rfl fun wf un => ?_
    have hn' : n = 0 ∨ n = 1 ∨ n = 2 := by have : n < 3 := hc; omega
    simp only [f34, Co.pv, Co.tm] at h ⊢
    rcases hn' with rfl | rfl | rfl <;> (simp only [conT, Tm.pv] at h; walk_at "pv"; exact .inl h)
  | a f x i1 i2 =>
    intro k Q E hk hc h
    simp only [Co.dep] at hk
    obtain ⟨k, rfl⟩ : ∃ j, k = j + 1 := ⟨k - 1, by omega⟩
    refine run_in (d := f34) rfl rfl fun wf un => ?_
    simp only [f34, Co.pv, Co.tm, Tm.pv] at h ⊢
    walk_at "pv"
    refine i1 _ _ _ (by omega) hc.1 ?_
    exact i2 _ _ _ (by omega) hc.2 (.inl h)
theorem count5 : ∀ (t : Tm) (k : Nat) (Q : PQ) (E : PX), t.dep ≤ k → Q (.int t.size) S → runF tab fns k 5 [t.pv] S Q E := by
  intro t
  induction t with
  | v i =>
    intro k Q E hk h
    obtain ⟨k, rfl⟩ : ∃ j, k = j + 1 := ⟨k - 1, by simp only [Tm.dep] at hk; omega⟩
    refine run_in (d := f5) rfl rfl fun wf un => ?_
    simp only [f5, Tm.pv]
    walk_at "pv"
    exact .inl h
  | l b ih =>
    intro k Q E hk h
    simp only [Tm.dep] at hk
    obtain ⟨k, rfl⟩ : ∃ j, k = j + 1 := ⟨k - 1, by omega⟩
    refine run_in (d := f5) rfl rfl fun wf un => ?_
    simp only [f5, Tm.pv]
    walk_at "pv"
    refine ih _ _ _ (by omega) ?_
    walk_at "pv"
    exact .inl h
  | a f x i1 i2 =>
    intro k Q E hk h
    simp only [Tm.dep] at hk
    obtain ⟨k, rfl⟩ : ∃ j, k = j + 1 := ⟨k - 1, by omega⟩
    refine run_in (d := f5) rfl rfl fun wf un => ?_
    simp only [f5, Tm.pv]
    walk_at "pv"
    refine i1 _ _ _ (by omega) ?_
    walk_at "pv"
    refine i2 _ _ _ (by omega) ?_
    walk_at "pv"
    exact .inl h
theorem termof20 {c : Co} {k : Nat} (hk : c.dep + 8 ≤ k) (hc : c.ok) (hs : c.size ≤ 300) (h : Q c.tm.pv S) : runF tab fns k 20 [c.pv] S Q E := by
  obtain ⟨k, rfl⟩ : ∃ j, k = j + 1 := ⟨k - 1, by omega⟩
  refine run_in (d := f20) rfl rfl fun wf un => ?_
  have h1 := tm_size c
  have h2 := tm_dep c
  simp only [f20]
  walk_at "pv"
  refine ok_check (by omega) hc ?_
  refine with19 _ _ _ _ (by omega) hc ?_
  refine count5 _ _ _ _ (by omega) ?_
  walk_at "pv"
  exact .inl ⟨by omega, .inl h⟩
end K04
set_option Elab.async false
set_option linter.all false
set_option maxRecDepth 100000
set_option maxHeartbeats 1000000
namespace K04
open PySem Pv
local macro_rules | `(tactic| walk_at "pv") => `(tactic| simp [wpSs, wpS, wpE, wpT, wpEs, wpTs, wpO, wpI, wpG, startP, L2.CMul, L2.CDiv, L2.CPow, st_inj, sizeLine, eqB_tup, -List.getD_eq_getElem?_getD])
variable {S : Store} {Q : PQ} {E : PX}
/-- the step of a part -/
def here3 (z y x : Co) : Co → Option Co
  | .c 0 => some (.a (.a z x) (.a y x))
  | _ => none
def here2 (y x : Co) : Co → Option Co
  | .c 1 => some y
  | .a s z => here3 z y x s
  | _ => none
def here1 (x : Co) : Co → Option Co
  | .c 2 => some x
  | .a p y => here2 y x p
  | _ => none
def Co.here : Co → Option Co
  | .a o x => here1 x o
  | _ => none
def Co.step : Co → Option Co
  | .v i => none
  | .c n => none
  | .a f x => match (Co.a f x).here with
    | some r => some r
    | none => match f.step with
      | some r => some (.a r x)
      | none => match x.step with
        | some r => some (.a f r)
        | none => none
def opv : Option Co → PV
  | none => .non
  | some c => c.pv
theorem here21 {c : Co} {k : Nat} (hc : c.ok) (h : Q (opv c.here) S) : runF tab fns (k + 1) 21 [c.pv] S Q E := by
  refine run_in (d := f21) rfl rfl fun wf un => ?_
  simp only [f21]
  cases c with
  | v i => simp only [Co.pv]; walk_at "pv"; exact .inl h
  | c n => simp only [Co.pv]; walk_at "pv"; exact .inl h
  | a o x =>
    have e2 := eqv_c (n := 2) hc.1 (by omega)
    cases o with
    | v i => simp only [Co.pv] at e2 ⊢; walk_at "pv"; exact ⟨e2, .inl h⟩
    | c n =>
      have hn : n = 0 ∨ n = 1 ∨ n = 2 := by have : n < 3 := hc.1; omega
      rcases hn with rfl | rfl | rfl <;> (simp only [Co.pv] at e2 ⊢; walk_at "pv"; exact ⟨e2, .inl h⟩)
    | a p y =>
      have e1 := eqv_c (n := 1) hc.1.1 (by omega)
      cases p with
      | v i => simp only [Co.pv] at e1 e2 ⊢; walk_at "pv"; exact ⟨e2, e1, .inl h⟩
      | c n =>
        have hn : n = 0 ∨ n = 1 ∨ n = 2 := by have : n < 3 := hc.1.1; omega
        rcases hn with rfl | rfl | rfl <;> (simp only [Co.pv] at e1 e2 ⊢; walk_at "pv"; exact ⟨e2, e1, .inl h⟩)
      | a s z =>
        have e0 := eqv_c (n := 0) hc.1.1.1 (by omega)
        cases s with
        | v i => simp only [Co.pv] at e0 e1 e2 ⊢; walk_at "pv"; exact ⟨e2, e1, e0, .inl h⟩
        | c n =>
          have hn : n = 0 ∨ n = 1 ∨ n = 2 := by have : n < 3 := hc.1.1.1; omega
          rcases hn with rfl | rfl | rfl <;> (simp only [Co.pv] at e0 e1 e2 ⊢; walk_at "pv"; exact ⟨e2, e1, e0, .inl h⟩)
        | a s1 s2 => simp only [Co.pv] at e0 e1 e2 ⊢; walk_at "pv"; exact ⟨e2, e1, e0, .inl h⟩
theorem opv_none {c : Option Co} : (opv c = .non) = (c = none) := by
  cases c with
  | none => simp [opv]
  | some c => cases c <;> simp [opv, Co.pv]
theorem isn_opv {f : Bool → Bool} {c : Option Co} : isQ f (opv c) .non S Q = Q (.bl (f (decide (c = none)))) S := by
  cases c with
  | none => simp [opv]
  | some c => cases c <;> simp [opv, Co.pv]
theorem step22 : ∀ (c : Co) (k : Nat) (Q : PQ) (E : PX), c.dep + 1 ≤ k → c.ok → Q (opv c.step) S → runF tab fns k 22 [c.pv] S Q E := by
  intro c
  induction c with
  | v i =>
    intro k Q E hk hc h
    simp only [Co.dep] at hk
    obtain ⟨k, rfl⟩ : ∃ j, k = j + 2 := ⟨k - 2, by omega⟩
    refine run_in (d := f22) rfl rfl fun wf un => ?_
    simp only [f22]
    walk_at "pv"
    refine here21 hc ?_
    simp only [Co.here, opv, Co.pv]
    walk_at "pv"
    exact .inl h
  | c n =>
    intro k Q E hk hc h
    simp only [Co.dep] at hk
    obtain ⟨k, rfl⟩ : ∃ j, k = j + 2 := ⟨k - 2, by omega⟩
    refine run_in (d := f22) rfl rfl fun wf un => ?_
    simp only [f22]
    walk_at "pv"
    refine here21 hc ?_
    simp only [Co.here, opv, Co.pv]
    walk_at "pv"
    exact .inl h
  | a f x i1 i2 =>
    intro k Q E hk hc h
    simp only [Co.dep] at hk
    have := f.dep_pos
    obtain ⟨k, rfl⟩ : ∃ j, k = j + 2 := ⟨k - 2, by omega⟩
    refine run_in (d := f22) rfl rfl fun wf un => ?_
    simp only [f22]
    walk_at "pv"
    refine here21 hc ?_
    rw [isn_opv]
    simp only [Co.step] at h
    cases e : (Co.a f x).here with
    | some r => rw [e] at h; simp [opv]; exact .inl h
    | none =>
      rw [e] at h
      simp only [Co.pv]
      walk_at "pv"
      refine i1 _ _ _ (by omega) hc.1 ?_
      rw [isn_opv]
      cases e1 : f.step with
      | some r => rw [e1] at h; simp [opv]; exact .inl (by simpa [opv, Co.pv] using h)
      | none =>
        rw [e1] at h
        simp
        refine i2 _ _ _ (by omega) hc.2 ?_
        rw [isn_opv]
        cases e2 : x.step with
        | some r => rw [e2] at h; simp [opv]; exact .inl (by simpa [opv, Co.pv] using h)
        | none => rw [e2] at h; simp; exact .inl h
end K04
set_option Elab.async false
set_option linter.all false
set_option maxRecDepth 100000
set_option maxHeartbeats 1000000
namespace K04
open PySem Pv
local macro_rules | `(tactic| walk_at "pv") => `(tactic| simp [wpSs, wpS, wpE, wpT, wpEs, wpTs, wpO, wpI, wpG, startP, L2.CMul, L2.CDiv, L2.CPow, st_inj, sizeLine, eqB_tup, -List.getD_eq_getElem?_getD])
variable {S : Store} {Q : PQ} {E : PX}
def t35_5 : ISs := (.cons (.ifs (.cmp .ne (.idxc (.var 0) 0) (.cst (.str (st 6)))) (.cons (.ret (.cst .non)) .nil) .nil) (.cons (.asg (.nm 4) (.call 35 (.cons (.idxc (.var 0) 1) .nil) [])) (.cons (.ifs (.cmp .isnot (.var 4) (.cst .non)) (.cons (.ret (.tup (.cons (.cst (.str (st 6))) (.cons (.var 4) (.cons (.idxc (.var 0) 2) .nil))))) .nil) .nil) (.cons (.asg (.nm 5) (.call 35 (.cons (.idxc (.var 0) 2) .nil) [])) (.cons (.ret (.ifx (.cmp .is (.var 5) (.cst .non)) (.cst .non) (.tup (.cons (.cst (.str (st 6))) (.cons (.idxc (.var 0) 1) (.cons (.var 5) .nil)))))) .nil)))))
theorem t35_5_eq {Φ : Pv.Call} {T : Tab} {s : IS} {ρ : Pv.Env} {S : Store} {D : PD} {E : PEX} : wpSs Φ T (.cons s t35_5) ρ S D E = wpS Φ T s ρ S { D with nx := fun ρ1 S1 => wpSs Φ T t35_5 ρ1 S1 D E } E := rfl
def t35_3 : ISs := (.cons (.asg (.nm 3) (.dct [.inr (st 2), .inr (st 1), .inr (st 0)] (.cons (.cst (.int 1)) (.cons (.cst (.int 2)) (.cons (.cst (.int 3)) .nil))))) (.cons (.ifs (.and (.cmp .eq (.idxc (.var 2) 0) (.cst (.str (st 3)))) (.cmp .eq (.bi .len (.cons (.var 1) .nil)) (.idx (.var 3) (.idxc (.var 2) 1)))) (.cons (.ifs (.cmp .eq (.idxc (.var 2) 1) (.cst (.str (st 2)))) (.cons (.ret (.idxc (.var 1) 0)) .nil) .nil) (.cons (.ifs (.cmp .eq (.idxc (.var 2) 1) (.cst (.str (st 1)))) (.cons (.ret (.idxc (.var 1) 0)) .nil) .nil) (.cons (.ret (.tup (.cons (.cst (.str (st 6))) (.cons (.tup (.cons (.cst (.str (st 6))) (.cons (.idxc (.var 1) 0) (.cons (.idxc (.var 1) 2) .nil)))) (.cons (.tup (.cons (.cst (.str (st 6))) (.cons (.idxc (.var 1) 1) (.cons (.idxc (.var 1) 2) .nil)))) .nil))))) .nil))) .nil) t35_5))
theorem t35_3_eq {Φ : Pv.Call} {T : Tab} {s : IS} {ρ : Pv.Env} {S : Store} {D : PD} {E : PEX} : wpSs Φ T (.cons s t35_3) ρ S D E = wpS Φ T s ρ S { D with nx := fun ρ1 S1 => wpSs Φ T t35_3 ρ1 S1 D E } E := rfl
def t35_2 : ISs := (.cons (.whl (.cmp .eq (.idxc (.var 2) 0) (.cst (.str (st 6)))) (.cons (.asg (.nm 1) (.bin .add (.lst (.cons (.idxc (.var 2) 2) .nil)) (.var 1))) (.cons (.asg (.nm 2) (.idxc (.var 2) 1)) .nil))) t35_3)
theorem t35_2_eq {Φ : Pv.Call} {T : Tab} {s : IS} {ρ : Pv.Env} {S : Store} {D : PD} {E : PEX} : wpSs Φ T (.cons s t35_2) ρ S D E = wpS Φ T s ρ S { D with nx := fun ρ1 S1 => wpSs Φ T t35_2 ρ1 S1 D E } E := rfl
theorem f35_eq : f35 = ⟨1, 6, (.cons (.asg (.nm 1) (.lst .nil)) (.cons (.asg (.nm 2) (.var 0)) t35_2))⟩ := rfl
def Co.head : Co → Co
  | .v i => .v i
  | .c n => .c n
  | .a f _ => f.head
def Co.args : Co → List Co
  | .v _ => []
  | .c _ => []
  | .a f x => f.args ++ [x]
theorem args_dep : ∀ c : Co, c.args.length + 1 ≤ c.dep := by
  intro c
  induction c with
  | v i => simp [Co.args, Co.dep]
  | c n => simp [Co.args, Co.dep]
  | a f x i1 i2 => simp only [Co.args, Co.dep, List.length_append, List.length_cons, List.length_nil]; omega
def spine : Co → List Co → Option Co
  | .c 2, [x] => some x
  | .c 1, [y, _] => some y
  | .c 0, [z, y, x] => some (.a (.a z x) (.a y x))
  | _, _ => none
theorem here_spine (c : Co) : c.here = spine c.head c.args := by
  cases c with
  | v i => rfl
  | c n => match n with
    | 0 => rfl
    | 1 => rfl
    | 2 => rfl
    | n + 3 => rfl
  | a o x =>
    cases o with
    | v i => rfl
    | c n => match n with
      | 0 => rfl
      | 1 => rfl
      | 2 => rfl
      | n + 3 => rfl
    | a p y =>
      cases p with
      | v i => rfl
      | c n => match n with
        | 0 => rfl
        | 1 => rfl
        | 2 => rfl
        | n + 3 => rfl
      | a s z =>
        cases s with
        | v i => rfl
        | c n => match n with
          | 0 => rfl
          | 1 => rfl
          | 2 => rfl
          | n + 3 => rfl
        | a s1 s2 =>
          have h : ∀ (hd : Co) (l : List Co) (a b c d : Co), spine hd (l ++ [a] ++ [b] ++ [c] ++ [d]) = none := fun hd l a b c d => by
            have hl : (l ++ [a] ++ [b] ++ [c] ++ [d]).length ≥ 4 := by simp
            revert hl
            generalize l ++ [a] ++ [b] ++ [c] ++ [d] = m
            intro hl
            match hd, m, hl with
            | .v _, _, _ => rfl
            | .a _ _, _, _ => rfl
            | .c 0, [], hl => simp at hl
            | .c 0, [_], hl => simp at hl
            | .c 0, [_, _], hl => simp at hl
            | .c 0, [_, _, _], hl => simp at hl
            | .c 0, _ :: _ :: _ :: _ :: _, _ => rfl
            | .c 1, [], hl => simp at hl
            | .c 1, [_], hl => simp at hl
            | .c 1, [_, _], hl => simp at hl
            | .c 1, _ :: _ :: _ :: _, _ => rfl
            | .c 2, [], hl => simp at hl
            | .c 2, [_], hl => simp at hl
            | .c 2, _ :: _ :: _, _ => rfl
            | .c (n + 3), _, _ => rfl
          exact (h _ _ _ _ _ _).symm
theorem head_at : ∀ c : Co, (∃ i, c.head = .v i) ∨ ∃ n, c.head = .c n := by
  intro c
  induction c with
  | v i => exact .inl ⟨i, rfl⟩
  | c n => exact .inr ⟨n, rfl⟩
  | a f x i1 _ => exact i1
theorem head_ok : ∀ c : Co, c.ok → c.head.ok := by
  intro c
  induction c with
  | v i => exact fun h => h
  | c n => exact fun h => h
  | a f x i1 _ => exact fun h => i1 h.1
theorem tail5 {c : Co} {k : Nat} {J : Store} {x1 x2 x3 : Option PV} (hh : c.here = none) (D : PD) (EE : PEX)
    (h1 : ∀ f x, c = .a f x → ∀ (S' : Store) Q E, Q (opv f.step) S' → runF tab fns k 35 [f.pv] S' Q E) (h2 : ∀ f x, c = .a f x → ∀ (S' : Store) Q E, Q (opv x.step) S' → runF tab fns k 35 [x.pv] S' Q E)
    (q : ∀ J', D.rt (opv c.step) (S ++ J')) : wpSs (runF tab fns k) tab t35_5 [some c.pv, x1, x2, x3, none, none] (S ++ J) D EE := by
  simp only [t35_5]
  cases c with
  | v i => simp only [Co.pv]; walk_at "pv"; exact q _
  | c n => simp only [Co.pv]; walk_at "pv"; exact q _
  | a f x =>
    simp only [Co.step, hh] at q
    simp only [Co.pv]
    walk_at "pv"
    refine h1 f x rfl _ _ _ ?_
    rw [isn_opv]
    cases e1 : f.step with
    | some r => rw [e1] at q; simp [opv]; exact q _
    | none =>
      rw [e1] at q
      simp
      refine h2 f x rfl _ _ _ ?_
      rw [isn_opv]
      cases e2 : x.step with
      | some r => rw [e2] at q; simp [opv]; exact q _
      | none => rw [e2] at q; simp; exact q _
theorem sp0 : ∀ l : List Co, l.length ≠ 3 → spine (.c 0) l = none
  | [], _ => rfl
  | [_], _ => rfl
  | [_, _], _ => rfl
  | [_, _, _], h => absurd rfl h
  | _ :: _ :: _ :: _ :: _, _ => rfl
theorem sp1 : ∀ l : List Co, l.length ≠ 2 → spine (.c 1) l = none
  | [], _ => rfl
  | [_], _ => rfl
  | [_, _], h => absurd rfl h
  | _ :: _ :: _ :: _, _ => rfl
theorem sp2 : ∀ l : List Co, l.length ≠ 1 → spine (.c 2) l = none
  | [], _ => rfl
  | [_], h => absurd rfl h
  | _ :: _ :: _, _ => rfl
/-- behind the loop -/
theorem tail35 {c : Co} {k : Nat} {J : Store} {r : Nat} (hc : c.ok) (hd : c.dep ≤ 1000) (hr : (S ++ J)[r]? = some (.lst (c.args.map Co.pv))) (D : PD) (EE : PEX)
    (h1 : ∀ f x, c = .a f x → ∀ (S' : Store) Q E, Q (opv f.step) S' → runF tab fns k 35 [f.pv] S' Q E) (h2 : ∀ f x, c = .a f x → ∀ (S' : Store) Q E, Q (opv x.step) S' → runF tab fns k 35 [x.pv] S' Q E)
    (q : ∀ J', D.rt (opv c.step) (S ++ J')) : wpSs (runF tab fns k) tab t35_3 [some c.pv, some (.ref r), some c.head.pv, none, none, none] (S ++ J) D EE := by
  have hr' : ∀ T, (S ++ (J ++ T))[r]? = some (.lst (c.args.map Co.pv)) := fun T => by
    rw [← List.append_assoc, List.getElem?_append_left (List.getElem?_eq_some_iff.1 hr).1]
    exact hr
  have hhs := here_spine c
  have hok := head_ok c hc
  simp only [t35_3]
  rcases head_at c with ⟨i, hi⟩ | ⟨n, hn⟩
  · rw [hi]
    rw [hi] at hhs
    simp only [Co.pv]
    simp [wpSs, wpS, wpE, wpT, wpEs, wpG, t35_5_eq, st_inj, sizeLine]
    exact tail5 hhs D EE h1 h2 q
  · rw [hn] at hhs hok
    rw [hn]
    have hn3 : n = 0 ∨ n = 1 ∨ n = 2 := by have : n < 3 := hok; omega
    have hstep : ∀ r, c.here = some r → c.step = some r := fun r e => by
      cases c with
      | v i => cases e
      | c n => cases e
      | a f x => simp only [Co.step, e]
    have none_or : (∃ r, spine (.c n) c.args = some r) ∨ spine (.c n) c.args = none := by
      cases spine (.c n) c.args with
      | none => exact .inr rfl
      | some r => exact .inl ⟨r, rfl⟩
    rcases hn3 with rfl | rfl | rfl
    · simp only [Co.pv]
      simp [wpSs, wpS, wpE, wpT, wpEs, wpG, t35_5_eq, st_inj, sizeLine, hr']
      by_cases hl : c.args.length = 3
      · obtain ⟨z, y, x, e⟩ : ∃ z y x, c.args = [z, y, x] := by
          match c.args, hl with
          | [z, y, x], _ => exact ⟨z, y, x, rfl⟩
        rw [e] at hhs ⊢
        rw [hstep _ hhs] at q
        refine .inr ⟨rfl, ?_⟩
        simp
        exact q _
      · exact .inl ⟨by omega, tail5 (hhs.trans (sp0 _ hl)) D EE h1 h2 q⟩
    · simp only [Co.pv]
      simp [wpSs, wpS, wpE, wpT, wpEs, wpG, t35_5_eq, st_inj, sizeLine, hr']
      by_cases hl : c.args.length = 2
      · obtain ⟨y, x, e⟩ : ∃ y x, c.args = [y, x] := by
          match c.args, hl with
          | [y, x], _ => exact ⟨y, x, rfl⟩
        rw [e] at hhs ⊢
        rw [hstep _ hhs] at q
        refine .inr ⟨rfl, ?_⟩
        simp
        exact q _
      · exact .inl ⟨by omega, tail5 (hhs.trans (sp1 _ hl)) D EE h1 h2 q⟩
    · simp only [Co.pv]
      simp [wpSs, wpS, wpE, wpT, wpEs, wpG, t35_5_eq, st_inj, sizeLine, hr']
      by_cases hl : c.args.length = 1
      · obtain ⟨x, e⟩ : ∃ x, c.args = [x] := by
          match c.args, hl with
          | [x], _ => exact ⟨x, rfl⟩
        rw [e] at hhs ⊢
        rw [hstep _ hhs] at q
        refine .inr ⟨rfl, ?_⟩
        simp
        exact q _
      · exact .inl ⟨by omega, tail5 (hhs.trans (sp2 _ hl)) D EE h1 h2 q⟩
/-- _law_first -/
theorem here_step : ∀ c r : Co, c.here = some r → c.ok → r.ok := by
  intro c r h hc
  cases c with
  | v i => cases h
  | c n => cases h
  | a o x =>
    cases o with
    | v i => cases h
    | c n => match n, h with
      | 2, h => cases h; exact hc.2
    | a p y =>
      cases p with
      | v i => cases h
      | c n => match n, h with
        | 1, h => cases h; exact hc.1.2
      | a s z =>
        cases s with
        | v i => cases h
        | c n => match n, h with
          | 0, h => cases h; exact ⟨⟨hc.1.1.2, hc.2⟩, hc.1.2, hc.2⟩
        | a s1 s2 => cases h
theorem step_ok : ∀ c r : Co, c.step = some r → c.ok → r.ok := by
  intro c
  induction c with
  | v i => intro r h; cases h
  | c n => intro r h; cases h
  | a f x i1 i2 =>
    intro r h hc
    simp only [Co.step] at h
    cases e : (Co.a f x).here with
    | some y => rw [e] at h; cases h; exact here_step _ _ e hc
    | none =>
      rw [e] at h
      cases e1 : f.step with
      | some y => rw [e1] at h; cases h; exact ⟨i1 y e1 hc.1, hc.2⟩
      | none =>
        rw [e1] at h
        cases e2 : x.step with
        | some y => rw [e2] at h; cases h; exact ⟨hc.1, i2 y e2 hc.2⟩
        | none => rw [e2] at h; cases h
theorem opv_under {c : Co} (hc : c.ok) (n : Nat) : (opv c.step).under n = true := by
  cases e : c.step with
  | none => simp [opv, PV.under]
  | some r => exact ((r.gd (step_ok c r e hc)).under n)
theorem first35 : ∀ (m : Nat) (c : Co) (k : Nat) (S : Store) (Q : PQ) (E : PX), c.dep ≤ m → m ≤ 1000 → m ≤ k → c.ok → Q (opv c.step) S → runF tab fns k 35 [c.pv] S Q E
  | 0, c, k, S, Q, E, hm, _, hk, hc, h => by have := c.dep_pos; omega
  | m + 1, c, k, S, Q, E, hm, hm2, hk, hc, h => by
    obtain ⟨k, rfl⟩ : ∃ j, k = j + 1 := ⟨k - 1, by omega⟩
    refine run_in (d := f35) rfl rfl fun wf un => ?_
    have g1 : ∀ f x, c = .a f x → ∀ (S' : Store) Q E, Q (opv f.step) S' → runF tab fns k 35 [f.pv] S' Q E := fun f x e S' Q' E' hq => by
      subst e; simp only [Co.dep] at hm
      exact first35 m f k S' Q' E' (by omega) (by omega) (by omega) hc.1 hq
    have g2 : ∀ f x, c = .a f x → ∀ (S' : Store) Q E, Q (opv x.step) S' → runF tab fns k 35 [x.pv] S' Q E := fun f x e S' Q' E' hq => by
      subst e; simp only [Co.dep] at hm
      exact first35 m x k S' Q' E' (by omega) (by omega) (by omega) hc.2 hq
    have hal := args_dep c
    simp only [f35_eq]
    simp [wpSs, wpS, wpE, wpT, wpEs, wpG, t35_2_eq, st_inj, sizeLine, startP]
    simp only [t35_2]
    simp [wpSs, wpS, wpE, wpT, wpEs, wpG, t35_3_eq, st_inj, sizeLine]
    refine ⟨c.dep + 1, ?_⟩
    refine while_ind (I := fun n ρ S' => ∃ (rest : Co) (row : List Co) (r : Nat) (J : Store), rest.dep ≤ n ∧ rest.head = c.head ∧ rest.args ++ row = c.args ∧ ρ = [some c.pv, some (.ref r), some rest.pv, none, none, none] ∧ S' = S ++ J ∧ (S ++ J)[r]? = some (.lst (row.map Co.pv))) ?_ _ _ _
      ⟨c, [], S.length, [.lst []], Nat.le_refl _, rfl, by simp, rfl, rfl, by simp⟩
    rintro n _ _ ⟨rest, row, r, J, q1, q2, q3, rfl, rfl, q4⟩ K hK
    have fin : rest.args = [] → rest.head = rest → ∀ (D : PD) (EE : PEX), (∀ J', D.rt (opv c.step) (S ++ J')) → wpSs (runF tab fns k) tab t35_3 [some c.pv, some (.ref r), some rest.pv, none, none, none] (S ++ J) D EE := fun ha hh D EE hD => by
      rw [ha, List.nil_append] at q3
      rw [hh] at q2
      rw [q3] at q4
      rw [q2]
      exact tail35 hc (by omega) q4 D EE g1 g2 hD
    cases rest with
    | v i =>
      have f1 := fin rfl rfl
      simp only [Co.pv] at f1 ⊢
      simp [wpSs, wpS, wpE, wpT, wpEs, wpG, t35_3_eq, st_inj, sizeLine]
      exact f1 _ _ fun J' => Gc.junk wf (opv_under hc _) h
    | c i =>
      have f1 := fin rfl rfl
      simp only [Co.pv] at f1 ⊢
      simp [wpSs, wpS, wpE, wpT, wpEs, wpG, t35_3_eq, st_inj, sizeLine]
      exact f1 _ _ fun J' => Gc.junk wf (opv_under hc _) h
    | a f x =>
      simp only [Co.dep] at q1
      obtain ⟨n, rfl⟩ : ∃ j, n = j + 1 := ⟨n - 1, by omega⟩
      have hrow : row.length < 1000 := by
        have : (Co.args (.a f x) ++ row).length = c.args.length := by rw [q3]
        rw [List.length_append] at this
        omega
      have hr' : ∀ T, (S ++ (J ++ T))[r]? = some (.lst (row.map Co.pv)) := fun T => by
        rw [← List.append_assoc, List.getElem?_append_left (List.getElem?_eq_some_iff.1 q4).1]
        exact q4
      simp only [Co.pv]
      simp [wpSs, wpS, wpE, wpT, wpEs, wpG, st_inj, sizeLine, hr']
      refine ⟨by omega, hK _ _ n rfl ⟨f, x :: row, S.length + J.length + 1, J ++ [.lst [x.pv], .lst (x.pv :: row.map Co.pv)], by omega, q2, ?_, rfl, rfl, ?_⟩⟩
      · rw [← q3]; simp [Co.args]
      · rw [List.getElem?_append_right (by omega), List.getElem?_append_right (by omega)]
        rw [show S.length + J.length + 1 - S.length - J.length = 1 from by omega]
        rfl
end K04
set_option Elab.async false
set_option linter.all false
set_option maxRecDepth 100000
set_option maxHeartbeats 1000000
namespace K04
open PySem Pv
local macro_rules | `(tactic| walk_at "pv") => `(tactic| simp [wpSs, wpS, wpE, wpT, wpEs, wpTs, wpO, wpI, wpG, startP, L2.CMul, L2.CDiv, L2.CPow, st_inj, sizeLine, eqB_tup, -List.getD_eq_getElem?_getD])
variable {S : Store} {Q : PQ} {E : PX}
theorem cstep23 {c : Co} {k : Nat} (hk : c.dep + 4 ≤ k) (hc : c.ok) (h : Q (opv c.step) S) : runF tab fns k 23 [c.pv] S Q E := by
  obtain ⟨k, rfl⟩ : ∃ j, k = j + 1 := ⟨k - 1, by omega⟩
  refine run_in (d := f23) rfl rfl fun wf un => ?_
  simp only [f23]
  walk_at "pv"
  refine ok_check (by omega) hc ?_
  exact step22 _ _ _ _ (by omega) hc (.inl h)
/-- the run -/
def run (c : Co) : Nat → Co
  | 0 => c
  | n + 1 => match (run c n).step with
    | some r => r
    | none => run c n
theorem run_succ {c r : Co} {n : Nat} (e : (run c n).step = some r) : run c (n + 1) = r := by
  show (match (run c n).step with
    | some r => r
    | none => run c n) = r
  rw [e]
theorem run_ok {c : Co} (hc : c.ok) : ∀ n, (run c n).ok
  | 0 => hc
  | n + 1 => by
    have ih := run_ok hc n
    cases e : (run c n).step with
    | none =>
      have : run c (n + 1) = run c n := by simp only [run, e]
      rw [this]; exact ih
    | some r => rw [run_succ e]; exact step_ok _ _ e ih
def envE (c : Co) (most : Int) (n : Nat) : Pv.Env := [some (run c n).pv, some (.int most), some (.int (n : Int)), some (opv (run c n).step)]
theorem end24 {c : Co} {k N : Nat} {most : Int} (hc : c.ok) (hk : c.dep + 6 ≤ k) (hd : ∀ j, j ≤ N → (run c j).dep + 6 ≤ k) (hl : ∀ j, j < N → ∃ r, (run c j).step = some r) (he : (run c N).step = none) (hm : (N : Int) ≤ most)
    (h : Q (.tup [(run c N).pv, .int (N : Int)]) S) : runF tab fns k 24 [c.pv, .int most] S Q E := by
  have hk6 : 6 ≤ k := by omega
  obtain ⟨k, rfl⟩ : ∃ j, k = j + 4 := ⟨k - 4, by omega⟩
  refine run_in (d := f24) rfl rfl fun wf un => ?_
  simp only [f24]
  walk_at "pv"
  refine ok_check (by omega) hc ?_
  refine ok_num (by omega) ?_
  refine step22 _ _ _ _ (by omega) hc ?_
  refine ⟨N + 1, ?_⟩
  refine while_ind (I := fun n ρ S' => ∃ j, j + n = N ∧ ρ = envE c most j ∧ S' = S) ?_ N _ _ ⟨0, by omega, rfl, rfl⟩
  rintro n _ _ ⟨j, hj, rfl, rfl⟩ K hK
  simp only [envE]
  cases e : (run c j).step with
  | none =>
    have hjN : j = N := by
      rcases Nat.lt_or_ge j N with h | h
      · obtain ⟨r, hr⟩ := hl j h; rw [e] at hr; cases hr
      · omega
    subst hjN
    simp only [opv]
    walk_at "pv"
    exact .inl h
  | some r =>
    have hjN : j < N := by
      rcases Nat.lt_or_ge j N with h | h
      · exact h
      · obtain rfl : j = N := by omega
        rw [e] at he; cases he
    obtain ⟨n, rfl⟩ : ∃ i, n = i + 1 := ⟨n - 1, by omega⟩
    have hr := run_succ e
    have hnn : opv (some r) ≠ .non := by rw [Ne, opv_none]; simp
    walk_at "pv"
    rw [isn_opv]
    simp
    refine .inl ⟨by omega, ?_⟩
    simp only [opv]
    rw [← hr]
    refine step22 _ _ _ _ (by have := hd (j + 1) (by omega); omega) (run_ok hc _) ?_
    refine hK _ _ n rfl ⟨j + 1, by omega, ?_, rfl⟩
    simp [envE]
theorem too24 {c : Co} {k M : Nat} (hc : c.ok) (hk : c.dep + 6 ≤ k) (hd : ∀ j, j ≤ M → (run c j).dep + 6 ≤ k) (hl : ∀ j, j ≤ M → ∃ r, (run c j).step = some r)
    (h : E ⟨3, some (.int (M : Int))⟩ S) : runF tab fns k 24 [c.pv, .int (M : Int)] S Q E := by
  have hk6 : 6 ≤ k := by omega
  obtain ⟨k, rfl⟩ : ∃ j, k = j + 4 := ⟨k - 4, by omega⟩
  refine run_in (d := f24) rfl rfl fun wf un => ?_
  simp only [f24]
  walk_at "pv"
  refine ok_check (by omega) hc ?_
  refine ok_num (by omega) ?_
  refine step22 _ _ _ _ (by omega) hc ?_
  refine ⟨M + 1, ?_⟩
  refine while_ind (I := fun n ρ S' => ∃ j, j + n = M ∧ ρ = envE c (M : Int) j ∧ S' = S) ?_ M _ _ ⟨0, by omega, rfl, rfl⟩
  rintro n _ _ ⟨j, hj, rfl, rfl⟩ K hK
  simp only [envE]
  obtain ⟨r, e⟩ := hl j (by omega)
  have hr := run_succ e
  rw [e]
  walk_at "pv"
  rw [isn_opv]
  simp
  rcases Nat.lt_or_ge j M with hjN | hjN
  · obtain ⟨n, rfl⟩ : ∃ i, n = i + 1 := ⟨n - 1, by omega⟩
    refine .inl ⟨by omega, ?_⟩
    simp only [opv]
    rw [← hr]
    refine step22 _ _ _ _ (by have := hd (j + 1) (by omega); omega) (run_ok hc _) ?_
    refine hK _ _ n rfl ⟨j + 1, by omega, ?_, rfl⟩
    simp [envE]
  · exact .inr ⟨by omega, .inl h⟩
/-- _law_too_many -/
theorem too40 {c : Co} {k M : Nat} (hc : c.ok) (hk : c.dep + 7 ≤ k) (hd : ∀ j, j ≤ M → (run c j).dep + 7 ≤ k) (hl : ∀ j, j ≤ M → ∃ r, (run c j).step = some r)
    (h : Q (.int (M : Int)) S) : runF tab fns k 40 [c.pv, .int (M : Int)] S Q E := by
  obtain ⟨k, rfl⟩ : ∃ j, k = j + 1 := ⟨k - 1, by omega⟩
  refine run_in (d := f40) rfl rfl fun wf un => ?_
  simp only [f40]
  walk_at "pv"
  refine too24 hc (by omega) (fun j hj => by have := hd j hj; omega) hl ?_
  simp [tab, wpH, unset]
  exact .inl h
end K04
set_option Elab.async false
set_option linter.all false
set_option maxRecDepth 100000
set_option maxHeartbeats 1000000
namespace K04
open PySem Pv
local macro_rules | `(tactic| walk_at "pv") => `(tactic| simp [wpSs, wpS, wpE, wpT, wpEs, wpTs, wpO, wpI, wpG, startP, L2.CMul, L2.CDiv, L2.CPow, st_inj, sizeLine, eqB_tup, -List.getD_eq_getElem?_getD])
variable {S : Store} {Q : PQ} {E : PX}
theorem ok_same : ∀ (n : Nat) (v : PV) (k : Nat) (S : Store) (Q : PQ) (E : PX), Gd n v → n + 1 ≤ k → Q (.bl true) S → runF tab fns k 27 [v, v] S Q E := by
  intro n
  induction n with
  | zero =>
    intro v k S Q E g hk q
    obtain ⟨k, rfl⟩ : ∃ j, k = j + 1 := ⟨k - 1, by omega⟩
    refine run_in (d := f27) rfl rfl fun wf un => ?_
    simp only [f27]
    cases g with
    | non => walk_at "pv"; exact .inl q
    | bl b => cases b <;> (walk_at "pv"; exact .inl q)
    | int i => walk_at "pv"; exact .inl q
    | str x h => walk_at "pv"; exact .inl q
  | succ n ih =>
    intro v k S Q E g hk q
    obtain ⟨k, rfl⟩ : ∃ j, k = j + 1 := ⟨k - 1, by omega⟩
    refine run_in (d := f27) rfl rfl fun wf un => ?_
    simp only [f27]
    cases g with
    | non => walk_at "pv"; exact .inl q
    | bl b => cases b <;> (walk_at "pv"; exact .inl q)
    | int i => walk_at "pv"; exact .inl q
    | str x h => walk_at "pv"; exact .inl q
    | tup xs hl h =>
      walk_at "pv"
      rw [zip_self]
      refine lc_map (src := []) (fun _ => .bl true) rfl (fun _ => trivial) _ [] (by simp [sizeLine]; omega) ?_ ?_
      · intro z hz acc K hK
        obtain ⟨x, hx, rfl⟩ := List.mem_map.1 hz
        simp [wipeP]
        exact ih x k _ _ _ (h x hx) (by omega) hK
      · simp only [List.nil_append]
        refine ⟨.lst (xs.map fun _ => .bl true), by simp [Function.comp_def], rfl, true, allBl_true _, ?_⟩
        exact Gc.junk wf rfl q

theorem Co.dep_size : ∀ c : Co, (c.dep : Int) ≤ c.size := by
  intro c
  induction c with
  | v i => simp [Co.dep, Co.size]
  | c n => simp [Co.dep, Co.size]
  | a f x i1 i2 => have := f.size_pos; have := x.size_pos; simp only [Co.dep, Co.size]; omega
theorem take_e {a b : Mo} {rest : Store} {k : Nat} {C lim : Int} (h0 : 0 < lim) (h1 : lim < 1073741824) (hC : C < 2 ^ 60)
    (h : Stm a b C rest S) (q : ∀ r S', 0 ≤ r → r < lim → Stm a b (C + 1) rest S' → Q (.int r) S') : runF tab fns (k + 1) 26 [.ref 3, .int lim] S Q E := take_ok rfl h0 h1 hC h q
def dr : Nat → Int
  | 0 => 2
  | n + 1 => 2 * dr n + 2
theorem dr_pos : ∀ n, 2 ≤ dr n
  | 0 => by simp [dr]
  | n + 1 => by have := dr_pos n; simp only [dr]; omega
/-- _law_term, in a scope -/
theorem lterm28 {a b : Mo} {rest : Store} : ∀ (n : Nat) (room scope : Int) (k : Nat) (C : Int) (S : Store) (Q : PQ) (E : PX), room ≤ n → n + 2 ≤ k → 0 < scope → 1 ≤ room → scope + n < 1000 → C + dr n < 2 ^ 60 →
    Stm a b C rest S → (∀ t S' C', Tm.ok t → ((2 * t.L + t.J : Nat) : Int) ≤ room + 1 → t.dep ≤ n → C' ≤ C + dr n → Stm a b C' rest S' → Q t.pv S') → runF tab fns k 28 [.ref 3, .int room, .int scope] S Q E
  | 0, room, scope, k, C, S, Q, E, hr, hk, hs, h2, h3, h4, h5, q => by omega
  | n + 1, room, scope, k, C, S, Q, E, hr, hk, hs, h2, h3, h4, h5, q => by
    obtain ⟨k, rfl⟩ : ∃ j, k = j + 2 := ⟨k - 2, by omega⟩
    have ih := lterm28 (a := a) (b := b) (rest := rest) n
    simp only [dr] at h4 q
    have hs0 : ¬ scope = 0 := by omega
    refine run_in (d := f28) rfl rfl fun wf un => ?_
    simp only [f28]
    walk_at "pv"
    refine .inl ⟨hs0, ?_⟩
    have hd := dr_pos n
    refine take_e (by omega) (by omega) (by omega) h5 fun kd S1 k0 k1 h51 => ?_
    walk_at "pv"
    simp [hs0]
    have var : ∀ E', runF tab fns (k + 1) 26 [PV.ref 3, PV.int scope] S1 (fun v S1 => Gc (List.length S) (PV.tup [PV.str (st 4), v]) S1 Q) E' := fun E' =>
      take_e (by omega) (by omega) (by omega) h51 fun i S2 i0 i1 h52 => .inl (q (.v i) S2 _ i0 (by simp only [Tm.L, Tm.J]; omega) (by simp only [Tm.dep]; omega) (by omega) h52)
    rcases Int.lt_or_le room 2 with hr2 | hr2
    · exact .inr ⟨hr2, var _⟩
    · refine .inl ⟨hr2, ?_⟩
      have lam : ∀ E', runF tab fns (k + 1) 28 [PV.ref 3, PV.int (room - 1), PV.int (scope + 1)] S1 (fun v S1 => Gc (List.length S) (PV.tup [PV.str (st 5), v]) S1 Q) E' := fun E' =>
        ih _ _ _ _ _ _ _ (by omega) (by omega) (by omega) (by omega) (by omega) (by omega) h51 fun t S' C' c1 c2 c3 c4 c5 => .inl (q (.l t) S' C' c1 (by simp only [Tm.L, Tm.J]; omega) (by simp only [Tm.dep]; omega) (by omega) c5)
      by_cases hk0 : kd = 0
      · exact .inr ⟨hk0, var _⟩
      · refine .inl ⟨hk0, ?_⟩
        rcases Int.lt_or_le kd 3 with hk3 | hk3
        · exact .inr ⟨hk3, lam _⟩
        · refine .inl ⟨hk3, ?_⟩
          rcases Int.lt_or_le room 3 with hr3 | hr3
          · exact .inr ⟨hr3, lam _⟩
          · refine .inl ⟨hr3, ?_⟩
            refine take_e (by omega) (by omega) (by omega) h51 fun lf S2 l0 l1 h52 => ?_
            walk_at "pv"
            refine ih _ _ _ _ _ _ _ (by omega) (by omega) (by omega) (by omega) (by omega) (by omega) h52 fun f S3 C3 f1 f2 f3 f4 h53 => ?_
            refine ih _ _ _ _ _ _ _ (by omega) (by omega) (by omega) (by omega) (by omega) (by omega) h53 fun x S4 C4 x1 x2 x3 x4 h54 => ?_
            exact .inl (q (.a f x) S4 C4 ⟨f1, x1⟩ (by simp only [Tm.L, Tm.J]; omega) (by simp only [Tm.dep]; omega) (by omega) h54)
/-- _law_drawn -/
theorem drawn37 {a b : Mo} {rest : Store} : ∀ (n : Nat) (room : Int) (k : Nat) (C : Int) (S : Store) (Q : PQ) (E : PX), room ≤ n → n + 2 ≤ k → 1 ≤ room → room < 1000 → C + dr n < 2 ^ 60 →
    Stm a b C rest S → (∀ c S' C', Co.ok c → c.size ≤ room → C' ≤ C + dr n → Stm a b C' rest S' → Q c.pv S') → runF tab fns k 37 [.ref 3, .int room] S Q E
  | 0, room, k, C, S, Q, E, hr, hk, h2, h3, h4, h5, q => by omega
  | n + 1, room, k, C, S, Q, E, hr, hk, h2, h3, h4, h5, q => by
    obtain ⟨k, rfl⟩ : ∃ j, k = j + 2 := ⟨k - 2, by omega⟩
    have ih := drawn37 (a := a) (b := b) (rest := rest) n
    simp only [dr] at h4 q
    have hd := dr_pos n
    refine run_in (d := f37) rfl rfl fun wf un => ?_
    simp only [f37]
    walk_at "pv"
    have leaf : ∀ (S1 : Store) (C1 : Int) E', C1 ≤ C + 1 → Stm a b C1 rest S1 → runF tab fns (k + 1) 26 [PV.ref 3, PV.int 6] S1
        (fun v S1 =>
          intQ (fun x x_1 => True) (fun i j => PV.bl (decide (i < j))) v (PV.int 3) S1 fun r S3 =>
            (r = PV.bl false ∧
                intQ (fun x x_1 => True) (fun i j => PV.int (i - j)) v (PV.int 3) S3 fun w S2 =>
                  idxQ (PV.str (st 7)) w S2 fun v S1 => Gc (List.length S) (PV.tup [PV.str (st 3), v]) S1 Q) ∨
              r = PV.bl true ∧ Gc (List.length S) (PV.tup [PV.str (st 4), v]) S3 Q) E' := fun S1 C1 E' hC1 hS1 => by
      refine take_e (by omega) (by omega) (by omega) hS1 fun kd S2 k0 k1 h52 => ?_
      walk_at "pv"
      rcases Int.lt_or_le kd 3 with h3' | h3'
      · exact .inr ⟨h3', .inl (q (.v kd) S2 _ k0 (by simp [Co.size]; omega) (by omega) h52)⟩
      · refine .inl ⟨h3', by decide +kernel, ?_⟩
        have hq := fun n hn => q (.c n) S2 _ (show n < 3 from hn) (by simp [Co.size]; omega) (by omega) h52
        have : kd = 3 ∨ kd = 4 ∨ kd = 5 := by omega
        rcases this with rfl | rfl | rfl
        · exact ⟨_, rfl, .inl (hq 0 (by omega))⟩
        · exact ⟨_, rfl, .inl (hq 1 (by omega))⟩
        · exact ⟨_, rfl, .inl (hq 2 (by omega))⟩
    rcases Int.lt_or_le room 3 with hr3 | hr3
    · exact .inr ⟨hr3, leaf _ _ _ (by omega) h5⟩
    · refine .inl ⟨hr3, ?_⟩
      refine take_e (by omega) (by omega) (by omega) h5 fun z S1 z0 z1 h51 => ?_
      walk_at "pv"
      by_cases hz : z = 0
      · exact .inr ⟨hz, leaf _ _ _ (Int.le_refl _) h51⟩
      · refine .inl ⟨hz, ?_⟩
        refine take_e (by omega) (by omega) (by omega) h51 fun lf S2 l0 l1 h52 => ?_
        walk_at "pv"
        refine ih _ _ _ _ _ _ (by omega) (by omega) (by omega) (by omega) (by omega) h52 fun f S3 C3 f1 f2 f3 h53 => ?_
        refine ih _ _ _ _ _ _ (by omega) (by omega) (by omega) (by omega) (by omega) h53 fun x S4 C4 x1 x2 x3 h54 => ?_
        exact .inl (q (.a f x) S4 C4 ⟨f1, x1⟩ (by simp only [Co.size]; omega) (by omega) h54)
/-- values that are no combinators -/
inductive Bad (S : Store) : Nat → PV → Prop where
  | vneg {n} : Bad S n (.tup [.str (st 4), .int (-1)])
  | vtrue {n} : Bad S n (.tup [.str (st 4), .bl true])
  | cB {n} : Bad S n (.tup [.str (st 3), .str (st 8)])
  | cSK {n} : Bad S n (.tup [.str (st 3), .str (st 9)])
  | lst {n} (r : Nat) (xs : List PV) : S[r]? = some (.lst xs) → Bad S n (.ref r)
  | lv {n} : Bad S n (.tup [.str (st 5), .tup [.str (st 4), .int 0]])
  | av {n} : Bad S n (.tup [.str (st 6), .tup [.str (st 4), .int 0]])
  | v1 {n} : Bad S n (.tup [.str (st 4)])
  | non {n} : Bad S n .non
  | left {n} {v : PV} {c : Co} : Bad S n v → c.ok → c.dep ≤ n → Bad S (n + 1) (.tup [.str (st 6), v, c.pv])
  | right {n} {v : PV} {c : Co} : Bad S n v → c.ok → c.dep ≤ n → Bad S (n + 1) (.tup [.str (st 6), c.pv, v])
theorem isnat_no {k : Nat} (h : Q (.bl false) S) : runF tab fns (k + 2) 1 [.int (-1)] S Q E := by
  refine run_in (d := f1) rfl rfl fun wf un => ?_
  simp only [f1]
  walk_at "pv"
  refine ok_isint ?_
  simp
  exact .inl h
theorem isnat_nob {k : Nat} (h : Q (.bl false) S) : runF tab fns (k + 2) 1 [.bl true] S Q E := by
  refine run_in (d := f1) rfl rfl fun wf un => ?_
  simp only [f1]
  walk_at "pv"
  refine run_in (d := f0) rfl rfl fun wf un => ?_
  simp only [f0]
  walk_at "pv"
  exact .inl (.inl ⟨rfl, .inl h⟩)
theorem bad9 : ∀ {n : Nat} {v : PV}, Bad S n v → ∀ (k : Nat) (Q : PQ) (E : PX), n + 3 ≤ k → Q (.bl false) S → runF tab fns k 9 [v] S Q E := by
  intro n v hb
  induction hb with
  | left hb hc hd ih =>
    intro k Q E hk h
    obtain ⟨k, rfl⟩ : ∃ j, k = j + 1 := ⟨k - 1, by omega⟩
    refine run_in (d := f9) rfl rfl fun wf un => ?_
    simp only [f9]
    walk_at "pv"
    refine ih _ _ _ (by omega) ?_
    simp
    exact .inl h
  | right hb hc hd ih =>
    intro k Q E hk h
    obtain ⟨k, rfl⟩ : ∃ j, k = j + 1 := ⟨k - 1, by omega⟩
    refine run_in (d := f9) rfl rfl fun wf un => ?_
    simp only [f9]
    walk_at "pv"
    refine ok_isco _ _ _ _ (by omega) hc ?_
    simp
    exact ih _ _ _ (by omega) (.inl h)
  | vneg =>
    intro k Q E hk h
    obtain ⟨k, rfl⟩ : ∃ j, k = j + 3 := ⟨k - 3, by omega⟩
    refine run_in (d := f9) rfl rfl fun wf un => ?_
    simp only [f9]
    walk_at "pv"
    exact isnat_no (.inl h)
  | vtrue =>
    intro k Q E hk h
    obtain ⟨k, rfl⟩ : ∃ j, k = j + 3 := ⟨k - 3, by omega⟩
    refine run_in (d := f9) rfl rfl fun wf un => ?_
    simp only [f9]
    walk_at "pv"
    exact isnat_nob (.inl h)
  | cB =>
    intro k Q E hk h
    obtain ⟨k, rfl⟩ : ∃ j, k = j + 3 := ⟨k - 3, by omega⟩
    refine run_in (d := f9) rfl rfl fun wf un => ?_
    simp only [f9]
    walk_at "pv"
    refine ⟨⟨rfl, rfl⟩, ?_⟩
    have : inB (.str (st 8)) [.str (st 0), .str (st 1), .str (st 2)] = false := by decide +kernel
    rw [this]
    exact .inl h
  | cSK =>
    intro k Q E hk h
    obtain ⟨k, rfl⟩ : ∃ j, k = j + 3 := ⟨k - 3, by omega⟩
    refine run_in (d := f9) rfl rfl fun wf un => ?_
    simp only [f9]
    walk_at "pv"
    refine ⟨⟨rfl, rfl⟩, ?_⟩
    have : inB (.str (st 9)) [.str (st 0), .str (st 1), .str (st 2)] = false := by decide +kernel
    rw [this]
    exact .inl h
  | lst r xs hr =>
    intro k Q E hk h
    obtain ⟨k, rfl⟩ : ∃ j, k = j + 3 := ⟨k - 3, by omega⟩
    refine run_in (d := f9) rfl rfl fun wf un => ?_
    simp only [f9]
    simp [wpSs, wpS, wpE, wpT, wpEs, wpG, startP, hr]
    exact .inl h
  | lv =>
    intro k Q E hk h
    obtain ⟨k, rfl⟩ : ∃ j, k = j + 3 := ⟨k - 3, by omega⟩
    refine run_in (d := f9) rfl rfl fun wf un => ?_
    simp only [f9]
    walk_at "pv"
    exact .inl h
  | av =>
    intro k Q E hk h
    obtain ⟨k, rfl⟩ : ∃ j, k = j + 3 := ⟨k - 3, by omega⟩
    refine run_in (d := f9) rfl rfl fun wf un => ?_
    simp only [f9]
    walk_at "pv"
    exact .inl h
  | v1 =>
    intro k Q E hk h
    obtain ⟨k, rfl⟩ : ∃ j, k = j + 3 := ⟨k - 3, by omega⟩
    refine run_in (d := f9) rfl rfl fun wf un => ?_
    simp only [f9]
    walk_at "pv"
    exact .inl h
  | non =>
    intro k Q E hk h
    obtain ⟨k, rfl⟩ : ∃ j, k = j + 3 := ⟨k - 3, by omega⟩
    refine run_in (d := f9) rfl rfl fun wf un => ?_
    simp only [f9]
    walk_at "pv"
    exact .inl h
end K04
set_option Elab.async false
set_option linter.all false
set_option maxRecDepth 100000
set_option maxHeartbeats 1000000
namespace K04
open PySem Pv
local macro_rules | `(tactic| walk_at "pv") => `(tactic| simp [wpSs, wpS, wpE, wpT, wpEs, wpTs, wpO, wpI, wpG, startP, L2.CMul, L2.CDiv, L2.CPow, st_inj, sizeLine, eqB_tup, -List.getD_eq_getElem?_getD])
variable {S : Store} {Q : PQ} {E : PX}
theorem stm_len {a b : Mo} {C : Int} {rest S : Store} (h : Stm a b C rest S) : S.length = rest.length + 4 := by
  obtain ⟨cells, p, big, ticks, seed, rfl, hh⟩ := h
  rfl
theorem stm_get {a b : Mo} {C : Int} {rest J S : Store} (h : Stm a b C (rest ++ J) S) (i : Nat) : S[rest.length + 4 + i]? = J[i]? := by
  obtain ⟨cells, p, big, ticks, seed, rfl, hh⟩ := h
  rw [show rest.length + 4 + i = (rest.length + i) + 1 + 1 + 1 + 1 from by omega]
  simp only [List.getElem?_cons_succ]
  rw [List.getElem?_append_right (by omega)]
  congr 1; omega
theorem stm_more {a b : Mo} {C : Int} {rest J S : Store} (h : Stm a b C rest S) : Stm a b C (rest ++ J) (S ++ J) := by
  obtain ⟨cells, p, big, ticks, seed, rfl, hh⟩ := h
  exact ⟨cells, p, big, ticks, seed, rfl, hh⟩

def oddL (n : Nat) : List PV := [.tup [.str (st 4), .int (-1)], .tup [.str (st 4), .bl true], .tup [.str (st 3), .str (st 8)], .tup [.str (st 3), .str (st 9)], .ref n, .tup [.str (st 5), .tup [.str (st 4), .int 0]],
  .tup [.str (st 6), .tup [.str (st 4), .int 0]], .tup [.str (st 4)], .non]
theorem spoilt38 {a b : Mo} : ∀ (n : Nat) (c : Co) (k : Nat) (C : Int) (rest S : Store) (Q : PQ) (E : PX), c.dep ≤ n → n + 2 ≤ k → c.ok → C + dr n < 2 ^ 60 →
    Stm a b C rest S → (∀ v S' C' rest', Bad S' n v → C' ≤ C + dr n → Stm a b C' rest' S' → Q v S') → runF tab fns k 38 [.ref 3, c.pv] S Q E
  | 0, c, k, C, rest, S, Q, E, hr, hk, hc, h4, h5, q => by have := c.dep_pos; omega
  | n + 1, c, k, C, rest, S, Q, E, hr, hk, hc, h4, h5, q => by
    obtain ⟨k, rfl⟩ : ∃ j, k = j + 2 := ⟨k - 2, by omega⟩
    have ih := spoilt38 (a := a) (b := b) n
    simp only [dr] at h4 q
    have hd := dr_pos n
    have hlen := stm_len h5
    refine run_in (d := f38) rfl rfl fun wf un => ?_
    simp only [f38]
    have odd : ∀ (S0 : Store) (C0 : Int) (E' : PX), C0 ≤ C + 1 → Stm a b C0 rest S0 → runF tab fns (k + 1) 26 [PV.ref 3, PV.int 9] (S0 ++ [Mo.lst [PV.str (st 4), PV.int 0], Mo.lst (oddL S0.length)])
        (fun w S2 => ∃ o, S2[S0.length + 1]? = some o ∧ o.atQ w fun x => Gc S.length x S2 Q) E' := fun S0 C0 E' hC0 hS0 => by
      refine take_e (by omega) (by omega) (by omega) (stm_more hS0) fun r S2 r0 r1 h2 => ?_
      have hl := stm_len hS0
      have g0 := stm_get h2 0
      have g1 := stm_get h2 1
      rw [← hl] at g0 g1
      simp at g0 g1
      refine ⟨_, g1, ?_⟩
      have : r = 0 ∨ r = 1 ∨ r = 2 ∨ r = 3 ∨ r = 4 ∨ r = 5 ∨ r = 6 ∨ r = 7 ∨ r = 8 := by omega
      rcases this with rfl | rfl | rfl | rfl | rfl | rfl | rfl | rfl | rfl
      · exact ⟨_, rfl, .inl (q _ _ _ _ .vneg (by omega) h2)⟩
      · exact ⟨_, rfl, .inl (q _ _ _ _ .vtrue (by omega) h2)⟩
      · exact ⟨_, rfl, .inl (q _ _ _ _ .cB (by omega) h2)⟩
      · exact ⟨_, rfl, .inl (q _ _ _ _ .cSK (by omega) h2)⟩
      · exact ⟨_, rfl, .inl (q _ _ _ _ (.lst _ _ g0) (by omega) h2)⟩
      · exact ⟨_, rfl, .inl (q _ _ _ _ .lv (by omega) h2)⟩
      · exact ⟨_, rfl, .inl (q _ _ _ _ .av (by omega) h2)⟩
      · exact ⟨_, rfl, .inl (q _ _ _ _ .v1 (by omega) h2)⟩
      · exact ⟨_, rfl, .inl (q _ _ _ _ .non (by omega) h2)⟩
    cases c with
    | v i =>
      simp only [Co.pv]
      walk_at "pv"
      exact odd S C _ (by omega) h5
    | c i =>
      simp only [Co.pv]
      walk_at "pv"
      exact odd S C _ (by omega) h5
    | a f x =>
      simp only [Co.pv]
      walk_at "pv"
      refine take_e (by omega) (by omega) (by omega) h5 fun z S1 z0 z1 h51 => ?_
      walk_at "pv"
      rcases Int.lt_or_le 0 z with hz | hz
      · refine .inr ⟨hz, ?_⟩
        refine take_e (by omega) (by omega) (by omega) h51 fun w S2 w0 w1 h52 => ?_
        walk_at "pv"
        simp only [Co.dep] at hr
        by_cases hw : w = 0
        · refine .inr ⟨hw, ?_⟩
          exact ih f _ _ _ _ _ _ (by omega) (by omega) hc.1 (by omega) h52 fun v S' C' rest' b1 b2 b3 => .inl (q _ _ _ _ (.left b1 hc.2 (by omega)) (by omega) b3)
        · refine .inl ⟨hw, ?_⟩
          exact ih x _ _ _ _ _ _ (by omega) (by omega) hc.2 (by omega) h52 fun v S' C' rest' b1 b2 b3 => .inl (q _ _ _ _ (.right b1 hc.1 (by omega)) (by omega) b3)
      · refine .inl ⟨hz, ?_⟩
        exact odd S1 (C + 1) _ (Int.le_refl _) h51
/-- what is refused -/
theorem badcheck {n k : Nat} {v : PV} (hb : Bad S n v) (hk : n + 4 ≤ k) (h : E ⟨4, none⟩ S) : runF tab fns k 10 [v] S Q E := by
  obtain ⟨k, rfl⟩ : ∃ j, k = j + 1 := ⟨k - 1, by omega⟩
  refine run_in (d := f10) rfl rfl fun wf un => ?_
  simp only [f10]
  walk_at "pv"
  refine bad9 hb _ _ _ (by omega) ?_
  simp
  exact .inl h
theorem bad15 {n k : Nat} {v : PV} (hb : Bad S n v) (hk : n + 5 ≤ k) (h : E ⟨4, none⟩ S) : runF tab fns k 15 [v] S Q E := by
  obtain ⟨k, rfl⟩ : ∃ j, k = j + 1 := ⟨k - 1, by omega⟩
  refine run_in (d := f15) rfl rfl fun wf un => ?_
  simp only [f15]
  walk_at "pv"
  exact badcheck hb (by omega) (.inl h)
theorem bad20 {n k : Nat} {v : PV} (hb : Bad S n v) (hk : n + 5 ≤ k) (h : E ⟨4, none⟩ S) : runF tab fns k 20 [v] S Q E := by
  obtain ⟨k, rfl⟩ : ∃ j, k = j + 1 := ⟨k - 1, by omega⟩
  refine run_in (d := f20) rfl rfl fun wf un => ?_
  simp only [f20]
  walk_at "pv"
  exact badcheck hb (by omega) (.inl h)
theorem bad23 {n k : Nat} {v : PV} (hb : Bad S n v) (hk : n + 5 ≤ k) (h : E ⟨4, none⟩ S) : runF tab fns k 23 [v] S Q E := by
  obtain ⟨k, rfl⟩ : ∃ j, k = j + 1 := ⟨k - 1, by omega⟩
  refine run_in (d := f23) rfl rfl fun wf un => ?_
  simp only [f23]
  walk_at "pv"
  exact badcheck hb (by omega) (.inl h)
theorem bad24 {n k : Nat} {v w : PV} (hb : Bad S n v) (hk : n + 5 ≤ k) (h : E ⟨4, none⟩ S) : runF tab fns k 24 [v, w] S Q E := by
  obtain ⟨k, rfl⟩ : ∃ j, k = j + 1 := ⟨k - 1, by omega⟩
  refine run_in (d := f24) rfl rfl fun wf un => ?_
  simp only [f24]
  walk_at "pv"
  exact badcheck hb (by omega) (.inl h)
theorem refused39 {n k : Nat} {v : PV} {w : Int} (hb : Bad S n v) (hk : n + 6 ≤ k) (h : Q (.bl true) S) : runF tab fns k 39 [.int w, v] S Q E := by
  obtain ⟨k, rfl⟩ : ∃ j, k = j + 1 := ⟨k - 1, by omega⟩
  refine run_in (d := f39) rfl rfl fun wf un => ?_
  simp only [f39]
  walk_at "pv"
  by_cases h0 : w = 0
  · refine .inr ⟨h0, bad15 hb (by omega) ?_⟩
    simp [tab, wpH, unset]
    exact .inl h
  · refine .inl ⟨h0, ?_⟩
    by_cases h1 : w = 1
    · refine .inr ⟨h1, bad20 hb (by omega) ?_⟩
      simp [tab, wpH, unset]
      exact .inl h
    · refine .inl ⟨h1, ?_⟩
      by_cases h2 : w = 2
      · refine .inr ⟨h2, bad23 hb (by omega) ?_⟩
        simp [tab, wpH, unset]
        exact .inl h
      · refine .inl ⟨h2, bad24 hb (by omega) ?_⟩
        simp [tab, wpH, unset]
        exact .inl h
end K04
set_option Elab.async false
set_option linter.all false
set_option maxRecDepth 100000
set_option maxHeartbeats 2000000
namespace K04
open PySem Pv
def t41_15 : ISs := (.cons (.asg (.nm 11) (.call 38 (.cons (.var 1) (.cons (.var 6) .nil)) [])) (.cons (.ifs (.cmp .isnot (.call 9 (.cons (.var 11) .nil) []) (.cst (.bl false))) (.cons (.ret (.cst (.bl false))) .nil) .nil) (.cons (.ret (.bi .all1 (.cons (.lc [12] (.nm 12) (.rng1 (.cst (.int 4))) .nil (.call 39 (.cons (.var 12) (.cons (.var 11) .nil)) [])) .nil))) .nil)))
theorem t41_15_eq {Φ : Pv.Call} {T : Tab} {s : IS} {ρ : Pv.Env} {S : Store} {D : PD} {E : PEX} : wpSs Φ T (.cons s t41_15) ρ S D E = wpS Φ T s ρ S { D with nx := fun ρ1 S1 => wpSs Φ T t41_15 ρ1 S1 D E } E := rfl
def t41_12 : ISs := (.cons (.ifs (.and (.cmp .is (.var 9) (.cst .non)) (.not (.call 27 (.cons (.call 24 (.cons (.var 6) (.cons (.bin .add (.var 8) (.call 26 (.cons (.var 1) (.cons (.cst (.int 2)) .nil)) [])) .nil)) []) (.cons (.tup (.cons (.var 7) (.cons (.var 8) .nil))) .nil)) []))) (.cons (.ret (.cst (.bl false))) .nil) .nil) (.cons (.ifs (.and (.cmp .isnot (.var 9) (.cst .non)) (.not (.call 27 (.cons (.call 40 (.cons (.var 6) (.cons (.var 8) .nil)) []) (.cons (.var 8) .nil)) []))) (.cons (.ret (.cst (.bl false))) .nil) .nil) (.cons (.ifs (.and (.cmp .gt (.var 8) (.cst (.int 0))) (.not (.call 27 (.cons (.call 40 (.cons (.var 6) (.cons (.bin .sub (.var 8) (.cst (.int 1))) .nil)) []) (.cons (.bin .sub (.var 8) (.cst (.int 1))) .nil)) []))) (.cons (.ret (.cst (.bl false))) .nil) .nil) t41_15)))
theorem t41_12_eq {Φ : Pv.Call} {T : Tab} {s : IS} {ρ : Pv.Env} {S : Store} {D : PD} {E : PEX} : wpSs Φ T (.cons s t41_12) ρ S D E = wpS Φ T s ρ S { D with nx := fun ρ1 S1 => wpSs Φ T t41_12 ρ1 S1 D E } E := rfl
def t41_8 : ISs := (.cons (.asg (.nm 7) (.var 6)) (.cons (.asg (.nm 8) (.cst (.int 0))) (.cons (.asg (.nm 9) (.call 35 (.cons (.var 7) .nil) [])) (.cons (.for_ (.nm 10) (.rng1 (.cst (.int 12))) (.cons (.ifs (.not (.call 27 (.cons (.call 23 (.cons (.var 7) .nil) []) (.cons (.var 9) .nil)) [])) (.cons (.ret (.cst (.bl false))) .nil) .nil) (.cons (.ifs (.or (.cmp .is (.var 9) (.cst .non)) (.cmp .gt (.call 36 (.cons (.var 9) .nil) []) (.cst (.int 100)))) (.cons .brk .nil) .nil) (.cons (.asg (.nm 7) (.var 9)) (.cons (.asg (.nm 8) (.bin .add (.var 8) (.cst (.int 1)))) (.cons (.asg (.nm 9) (.call 35 (.cons (.var 7) .nil) [])) .nil)))))) t41_12))))
theorem t41_8_eq {Φ : Pv.Call} {T : Tab} {s : IS} {ρ : Pv.Env} {S : Store} {D : PD} {E : PEX} : wpSs Φ T (.cons s t41_8) ρ S D E = wpS Φ T s ρ S { D with nx := fun ρ1 S1 => wpSs Φ T t41_8 ρ1 S1 D E } E := rfl
theorem f41_eq : f41 = ⟨1, 13, (.cons (.asg (.nm 1) (.call 25 (.cons (.var 0) .nil) [])) (.cons (.asg (.nm 2) (.call 28 (.cons (.var 1) (.cons (.bin .add (.cst (.int 1)) (.call 26 (.cons (.var 1) (.cons (.cst (.int 14)) .nil)) [])) (.cons (.cst (.int 3)) .nil))) [])) (.cons (.asg (.nm 3) (.call 28 (.cons (.var 1) (.cons (.bin .add (.cst (.int 1)) (.call 26 (.cons (.var 1) (.cons (.cst (.int 6)) .nil)) [])) (.cons (.cst (.int 3)) .nil))) [])) (.cons (.asg (.tp [4, 5]) (.tup (.cons (.call 32 (.cons (.var 2) .nil) []) (.cons (.call 32 (.cons (.var 3) .nil) []) .nil)))) (.cons (.ifs (.or (.not (.call 27 (.cons (.call 17 (.cons (.var 2) .nil) []) (.cons (.var 4) .nil)) [])) (.not (.call 27 (.cons (.call 15 (.cons (.var 4) .nil) []) (.cons (.call 31 (.cons (.var 4) .nil) []) .nil)) []))) (.cons (.ret (.cst (.bl false))) .nil) .nil) (.cons (.ifs (.not (.call 27 (.cons (.call 17 (.cons (.call 8 (.cons (.var 2) (.cons (.var 3) .nil)) []) .nil) []) (.cons (.call 33 (.cons (.var 4) (.cons (.var 5) .nil)) []) .nil)) [])) (.cons (.ret (.cst (.bl false))) .nil) .nil) (.cons (.asg (.nm 6) (.call 37 (.cons (.var 1) (.cons (.bin .add (.cst (.int 1)) (.call 26 (.cons (.var 1) (.cons (.cst (.int 11)) .nil)) [])) .nil)) [])) (.cons (.ifs (.or (.not (.call 27 (.cons (.call 20 (.cons (.var 6) .nil) []) (.cons (.call 34 (.cons (.var 6) .nil) []) .nil)) [])) (.cmp .isnot (.call 9 (.cons (.var 6) .nil) []) (.cst (.bl true)))) (.cons (.ret (.cst (.bl false))) .nil) .nil) t41_8))))))))⟩ := rfl
local macro_rules | `(tactic| walk_at "pv") => `(tactic| simp [wpSs, wpS, wpE, wpT, wpEs, wpTs, wpO, wpI, wpG, startP, L2.CMul, L2.CDiv, L2.CPow, st_inj, sizeLine, eqB_tup, t41_8_eq, t41_12_eq, t41_15_eq, -List.getD_eq_getElem?_getD])
variable {S : Store} {Q : PQ} {E : PX}

@[simp] theorem isn_pv {f : Bool → Bool} {c : Co} : isQ f c.pv .non S Q = Q (.bl (f false)) S := by cases c <;> rfl
theorem Bad.mono {n : Nat} {v : PV} (T : Store) (h : Bad S n v) : Bad (S ++ T) n v := by
  induction h with
  | vneg => exact .vneg
  | vtrue => exact .vtrue
  | cB => exact .cB
  | cSK => exact .cSK
  | lst r xs hr => exact .lst r xs (by rw [List.getElem?_append_left (List.getElem?_eq_some_iff.1 hr).1]; exact hr)
  | lv => exact .lv
  | av => exact .av
  | v1 => exact .v1
  | non => exact .non
  | left hb hc hd ih => exact .left ih hc hd
  | right hb hc hd ih => exact .right ih hc hd
theorem here_size : ∀ c r : Co, c.here = some r → r.size ≤ 2 * c.size := by
  intro c r h
  cases c with
  | v i => cases h
  | c n => cases h
  | a o x =>
    have hx := x.size_pos
    cases o with
    | v i => cases h
    | c n => match n, h with
      | 2, h => cases h; simp only [Co.size]; omega
    | a p y =>
      have hy := y.size_pos
      cases p with
      | v i => cases h
      | c n => match n, h with
        | 1, h => cases h; simp only [Co.size]; omega
      | a s z =>
        have hz := z.size_pos
        cases s with
        | v i => cases h
        | c n => match n, h with
          | 0, h => cases h; simp only [Co.size]; omega
        | a s1 s2 => cases h
theorem step_size : ∀ c r : Co, c.step = some r → r.size ≤ 2 * c.size := by
  intro c
  induction c with
  | v i => intro r h; cases h
  | c n => intro r h; cases h
  | a f x i1 i2 =>
    intro r h
    have hx := x.size_pos
    have hf := f.size_pos
    simp only [Co.step] at h
    cases e : (Co.a f x).here with
    | some y => rw [e] at h; cases h; exact here_size _ _ e
    | none =>
      rw [e] at h
      cases e1 : f.step with
      | some y => rw [e1] at h; cases h; have := i1 y e1; simp only [Co.size]; omega
      | none =>
        rw [e1] at h
        cases e2 : x.step with
        | some y => rw [e2] at h; cases h; have := i2 y e2; simp only [Co.size]; omega
        | none => rw [e2] at h; cases h
/-- the end -/
theorem t15 {a b : Mo} {c : Co} {C : Int} {rest : Store} {D : PD} {EE : PEX} {x0 x2 x3 x4 x5 x7 x8 x9 x10 : Option PV} (hc : c.ok) (hd : c.dep ≤ 20) (hC : C + dr 20 < 2 ^ 60) (h : Stm a b C rest S) (q : ∀ S', D.rt (.bl true) S') :
    wpSs (runF tab fns 229) tab t41_15 [x0, some (.ref 3), x2, x3, x4, x5, some c.pv, x7, x8, x9, x10, none, none] S D EE := by
  simp only [t41_15]
  walk_at "pv"
  refine spoilt38 20 c _ _ _ _ _ _ hd (by omega) hc hC h fun v S' C' rest' hb hC' h' => ?_
  refine bad9 hb _ _ _ (by omega) ?_
  walk_at "pv"
  refine ⟨by simp [rngOk], ?_⟩
  refine lc_map (src := []) (fun _ => .bl true) rfl (fun _ => trivial) _ [] (by simp [sizeLine, rngL]) ?_ ?_
  · intro z hz acc K hK
    simp only [rngL, List.mem_map] at hz
    obtain ⟨j, _, rfl⟩ := hz
    simp [wipeP]
    exact refused39 (hb.mono _) (by omega) hK
  · simp only [List.nil_append]
    refine ⟨.lst ((rngL 0 4).map fun _ => .bl true), by simp, rfl, true, allBl_true _, q _⟩
theorem opv_gd {c : Co} (hc : c.ok) (hs : c.size ≤ 100) : Gd 200 (opv c.step) := by
  cases e : c.step with
  | none => exact .non
  | some r =>
    have h1 := step_size c r e
    have h2 := r.dep_size
    exact (r.gd (step_ok c r e hc)).mono (by omega)
def lawE (x0 x2 x3 x4 x5 : Option PV) (c : Co) (k : Nat) (x10 : Option PV) : Pv.Env := [x0, some (.ref 3), x2, x3, x4, x5, some c.pv, some (run c k).pv, some (.int (k : Int)), some (opv (run c k).step), x10, none, none]
theorem t12 {a b : Mo} {c : Co} {C : Int} {rest : Store} {D : PD} {EE : PEX} {x0 x2 x3 x4 x5 x10 : Option PV} {k : Nat} (hc : c.ok) (hd : c.dep ≤ 20) (hk : k ≤ 12) (hC : C + dr 20 + 1 < 2 ^ 60) (h : Stm a b C rest S) (hs : ∀ j, j ≤ k → (run c j).size ≤ 100)
    (hl : ∀ j, j < k → ∃ r, (run c j).step = some r) (q : ∀ S', D.rt (.bl true) S') : wpSs (runF tab fns 229) tab t41_12 (lawE x0 x2 x3 x4 x5 c k x10) S D EE := by
  have hdr := dr_pos 20
  have hdp : ∀ j, j ≤ k → (run c j).dep ≤ 100 := fun j hj => by have := hs j hj; have := (run c j).dep_size; omega
  have gl : Gd 101 (.tup [(run c k).pv, .int (k : Int)]) := .tup _ (by simp) (by simp; exact ⟨((run c k).gd (run_ok hc k)).mono (hdp k (Nat.le_refl _)), .int _⟩)
  have h15 := fun C' rest' S' (hC' : C' + dr 20 < 2 ^ 60) (h' : Stm a b C' rest' S') => t15 (S := S') (D := D) (EE := EE) (x0 := x0) (x2 := x2) (x3 := x3) (x4 := x4) (x5 := x5) (x7 := some (run c k).pv) (x8 := some (.int (k : Int))) (x9 := some (opv (run c k).step)) (x10 := x10) hc hd hC' h' q
  have last : ∀ C' rest' S', C' + dr 20 < 2 ^ 60 → Stm a b C' rest' S' → k = 0 ∧ wpSs (runF tab fns 229) tab t41_15 (lawE x0 x2 x3 x4 x5 c k x10) S' D EE ∨ 0 < k ∧ runF tab fns 229 40 [c.pv, .int ((k : Int) - 1)] S' (fun v S1 => runF tab fns 229 27 [v, .int ((k : Int) - 1)] S1 (fun r S2 => truQ r S2 fun b => if b = true then wpSs (runF tab fns 229) tab t41_15 (lawE x0 x2 x3 x4 x5 c k x10) S2 D EE else D.rt (.bl false) S2) (fun x S1 => EE x (lawE x0 x2 x3 x4 x5 c k x10) S1)) (fun x S1 => EE x (lawE x0 x2 x3 x4 x5 c k x10) S1) := fun C' rest' S' hC' h' => by
    rcases Nat.eq_zero_or_pos k with h0 | h0
    · exact .inl ⟨h0, h15 C' rest' S' hC' h'⟩
    · refine .inr ⟨h0, ?_⟩
      obtain ⟨M, rfl⟩ : ∃ M, k = M + 1 := ⟨k - 1, by omega⟩
      rw [show (((M + 1 : Nat) : Int)) - 1 = (M : Int) from by omega]
      refine too40 hc (by omega) (fun j hj => by have := hdp j (by omega); omega) (fun j hj => hl j (by omega)) ?_
      refine ok_same 0 _ _ _ _ _ (.int _) (by omega) ?_
      simp
      exact h15 C' rest' S' hC' h'
  simp only [t41_12, lawE] at last ⊢
  cases e : (run c k).step with
  | none =>
    simp only [e, opv] at last ⊢
    walk_at "pv"
    refine take_e (by omega) (by omega) (by omega) h fun r S1 r0 r1 h1 => ?_
    walk_at "pv"
    refine end24 (N := k) hc (by omega) (fun j hj => by have := hdp j hj; omega) hl e (by omega) ?_
    refine ok_same 101 _ _ _ _ _ gl (by omega) ?_
    simp
    exact last _ _ _ (by omega) h1
  | some r =>
    simp only [e, opv] at last ⊢
    walk_at "pv"
    refine too40 hc (by omega) (fun j hj => by have := hdp j hj; omega) (fun j hj => ?_) ?_
    · rcases Nat.lt_or_ge j k with g | g
      · exact hl j g
      · obtain rfl : j = k := by omega
        exact ⟨r, e⟩
    refine ok_same 0 _ _ _ _ _ (.int _) (by omega) ?_
    simp
    exact last _ _ _ (by omega) h
theorem t8 {a b : Mo} {c : Co} {C : Int} {rest : Store} {D : PD} {EE : PEX} {x0 x2 x3 x4 x5 x8 x9 x10 : Option PV} (hc : c.ok) (hd : c.size ≤ 20) (hC : C + dr 20 + 1 < 2 ^ 60) (h : Stm a b C rest S) (q : ∀ S', D.rt (.bl true) S') :
    wpSs (runF tab fns 229) tab t41_8 [x0, some (.ref 3), x2, x3, x4, x5, some c.pv, none, x8, x9, x10, none, none] S D EE := by
  have hds := c.dep_size
  simp only [t41_8]
  walk_at "pv"
  refine first35 100 c _ _ _ _ (by omega) (by omega) (by omega) hc ?_
  refine ⟨by simp [rngOk], ?_⟩
  have base : ∀ j, j ≤ 0 → (run c j).size ≤ 100 := by
    intro j hj
    obtain rfl : j = 0 := by omega
    show c.size ≤ 100
    omega
  refine for_ind (I := fun items ρ S' => ∃ (k : Nat) (x10 : Option PV), k + items.length = 12 ∧ (∀ j, j ≤ k → (run c j).size ≤ 100) ∧ (∀ j, j < k → ∃ r, (run c j).step = some r) ∧ ρ = lawE x0 x2 x3 x4 x5 c k x10 ∧ S' = S) ?_ ?_ _ _ _
    ⟨0, x10, by simp [rngL], base, by omega, rfl, rfl⟩
  · rintro x xs _ _ ⟨k, y10, hk, hs, hl, rfl, rfl⟩
    refine ⟨trivial, fun K hK => ?_⟩
    simp only [List.length_cons] at hk
    have ho := run_ok hc k
    have hz := hs k (Nat.le_refl _)
    have hzd := (run c k).dep_size
    simp only [lawE]
    walk_at "pv"
    refine cstep23 (by omega) ho ?_
    refine ok_same 200 _ _ _ _ _ (opv_gd ho hz) (by omega) ?_
    simp
    have fin := t12 (D := D) (EE := EE) (x0 := x0) (x2 := x2) (x3 := x3) (x4 := x4) (x5 := x5) (x10 := some x) hc (by omega) (by omega) hC h hs hl q
    cases e : (run c k).step with
    | none =>
      simp only [lawE, e, opv] at fin ⊢
      walk_at "pv"
      exact fin
    | some r =>
      have hr1 := step_size _ _ e
      have hr2 := r.dep_size
      simp only [lawE, e, opv] at fin ⊢
      walk_at "pv"
      refine nodes36 _ _ _ _ (by omega) ?_
      walk_at "pv"
      have hrun := run_succ e
      rcases Int.lt_or_le 100 r.size with hb | hb
      · exact .inr ⟨hb, fin⟩
      · refine .inl ⟨hb, ?_⟩
        refine first35 100 r _ _ _ _ (by omega) (by omega) (by omega) (step_ok _ _ e ho) ?_
        refine hK _ _ ⟨k + 1, some x, by omega, fun j hj => ?_, fun j hj => ?_, ?_, rfl⟩
        · rcases Nat.lt_or_ge k j with g | g
          · obtain rfl : j = k + 1 := by omega
            rw [hrun]; exact hb
          · exact hs j g
        · rcases Nat.lt_or_ge j k with g | g
          · exact hl j g
          · obtain rfl : j = k := by omega
            exact ⟨r, e⟩
        · simp [lawE, hrun]
  · rintro _ _ ⟨k, y10, hk, hs, hl, rfl, rfl⟩
    refine ⟨trivial, ?_⟩
    simp only [List.length_nil] at hk
    exact t12 hc (by omega) (by omega) hC h hs hl q
theorem fill_ok {w : Co} (hw : w.ok) : ∀ c : Co, c.ok → (c.fill 0 w).ok := by
  intro c
  induction c with
  | v i =>
    intro h
    simp only [Co.ok] at h
    simp only [Co.fill]
    split
    · exact h
    · split
      · rename_i h1 h2; subst h2; rw [shift00 w hw]; exact hw
      · simp only [Co.ok]; omega
  | c n => exact fun h => h
  | a f x i1 i2 => exact fun h => ⟨i1 h.1, i2 h.2⟩
theorem tshift_ok {d : Int} (hd : 0 ≤ d) : ∀ (t : Tm) (l : Int), t.ok → (t.shift d l).ok := by
  intro t
  induction t with
  | v i => intro l h; simp only [Tm.ok] at h; simp only [Tm.shift]; split <;> (simp only [Tm.ok]; omega)
  | l b ih => intro l h; exact ih (l + 1) h
  | a f x i1 i2 => intro l h; exact ⟨i1 l h.1, i2 l h.2⟩
theorem tput_ok {u : Tm} (hu : u.ok) : ∀ (t : Tm) (k : Int), 0 ≤ k → t.ok → (t.put k u).ok := by
  intro t
  induction t with
  | v i =>
    intro k hk h
    simp only [Tm.ok] at h
    simp only [Tm.put]
    split
    · exact h
    · split
      · exact tshift_ok hk u 0 hu
      · simp only [Tm.ok]; omega
  | l b ih => intro k hk h; exact ih (k + 1) (by omega) h
  | a f x i1 i2 => intro k hk h; exact ⟨i1 k hk h.1, i2 k hk h.2⟩
theorem tshift_dep (d : Int) : ∀ (t : Tm) (l : Int), (t.shift d l).dep = t.dep := by
  intro t
  induction t with
  | v i => intro l; simp only [Tm.shift]; split <;> rfl
  | l b ih => intro l; simp only [Tm.shift, Tm.dep, ih]
  | a f x i1 i2 => intro l; simp only [Tm.shift, Tm.dep, i1, i2]
theorem tput_dep {u : Tm} : ∀ (t : Tm) (k : Int), (t.put k u).dep ≤ t.dep + u.dep := by
  intro t
  induction t with
  | v i =>
    intro k
    have := u.dep_pos
    simp only [Tm.put]
    split
    · simp [Tm.dep]
    · split
      · rw [tshift_dep]; simp [Tm.dep]
      · simp [Tm.dep]
  | l b ih => intro k; have := ih (k + 1); simp only [Tm.put, Tm.dep]; omega
  | a f x i1 i2 => intro k; have := i1 k; have := i2 k; simp only [Tm.put, Tm.dep]; omega
theorem Tm.gd : ∀ t : Tm, Gd t.dep t.pv := by
  intro t
  induction t with
  | v i => exact .tup _ (by simp) (by simp; exact ⟨.str _ (st_ok 4 (by omega)), .int _⟩)
  | l b ih => exact .tup _ (by simp) (by simp; exact ⟨.str _ (st_ok 5 (by omega)), ih⟩)
  | a f x ih1 ih2 => exact .tup _ (by simp) (by simp; exact ⟨.str _ (st_ok 6 (by omega)), ih1.mono (by omega), ih2.mono (by omega)⟩)
theorem tab16 : ((List.range 8).all fun L => (List.range 15).all fun J => (List.range 8).all fun K => chk 16 3000 192 L J K) = true := by decide +kernel
theorem made_15 {t : Tm} (h : 2 * t.L + t.J ≤ 15) : t.made.out.dep ≤ 192 := by
  have h2 := made_dep (.l t)
  have h3 := made_occ (.l t)
  have h4 := K_le (.l t)
  have h5 := L_pos (.l t)
  have e1 : (Tm.l t).L = t.L := rfl
  have e2 : (Tm.l t).J = t.J + 1 := rfl
  have e3 : (Tm.l t).made = t.made.out := rfl
  rw [e3] at h2 h3
  have h6 := (chk_of tab16 (L := (Tm.l t).L) (J := (Tm.l t).J) (K := (Tm.l t).K) (by omega) (by omega) (by omega) (by omega) (by omega) h4 h5).2
  omega
theorem law_main : ∀ ns : List Int, ns.length ≤ 63 → runF G.tab fns 230 41 [.ref 0] [.frz (ns.map PV.int)] (fun v _ => v = .bl true) fun _ _ => False := by
  intro ns hns
  refine run_in (d := f41) rfl rfl fun wf un => ?_
  have d14 : dr 14 = 65534 := by decide +kernel
  have d11 : dr 11 = 8190 := by decide +kernel
  have d20 : dr 20 = 4194302 := by decide +kernel
  have d6 : dr 6 = 254 := by decide +kernel
  simp only [f41_eq]
  walk_at "pv"
  refine stream_ok rfl fun b S0 h0 => ?_
  refine take_e (by omega) (by omega) (by omega) h0 fun z1 S1 z10 z11 h1 => ?_
  walk_at "pv"
  refine lterm28 14 _ _ _ _ _ _ _ (by omega) (by omega) (by omega) (by omega) (by omega) (by omega) h1 fun t S2 C2 t1 t2 t3 t4 h2 => ?_
  refine take_e (by omega) (by omega) (by omega) h2 fun z2 S3 z20 z21 h3 => ?_
  walk_at "pv"
  refine lterm28 6 _ _ _ _ _ _ _ (by omega) (by omega) (by omega) (by omega) (by omega) (by omega) h3 fun u S4 C4 u1 u2 u3 u4 h4 => ?_
  have ft : t.fit 180 := fit_14 (by omega)
  have fu : u.fit 180 := fit_14 (by omega)
  have mt := made_14 (t := t) (by omega)
  have mu := made_6 (t := u) (by omega)
  have ot := made_ok t t1
  have ou := made_ok u u1
  have gt := (t.made.gd ot).mono mt.2
  have mo := made_15 (t := t) (by omega)
  have go := (t.made.out.gd (out_ok _ ot)).mono mo
  refine made32 (D := 180) _ _ _ _ (by omega) t1 ft ?_
  refine made32 (D := 180) _ _ _ _ (by omega) u1 fu ?_
  refine of17 (D := 180) (by omega) t1 ft ?_
  refine ok_same 160 _ _ _ _ _ gt (by omega) ?_
  walk_at "pv"
  refine take15 (by omega) ot ?_
  refine out31 _ _ _ _ (by omega) ot ?_
  refine ok_same 192 _ _ _ _ _ go (by omega) ?_
  walk_at "pv"
  have hp := put_small (t := t) (u := u) (k := 0) t1 u1 (by omega) (by omega) (by omega)
  have hpd := tput_dep (u := u) t 0
  have hpo := tput_ok u1 t 0 (by omega) t1
  have hpm := made_put u1 t 0 t1 (by omega)
  refine putin8 (by omega) t1 u1 ?_
  refine of17 (D := 180) (by omega) hpo (fit_put u1 (by omega) t 0 t1 (by omega) (by omega)) ?_
  refine filled33 ou _ _ _ _ (by omega) ot ?_
  rw [← hpm]
  refine ok_same 180 _ _ _ _ _ (((t.put 0 u).made.gd (made_ok _ hpo)).mono hp.2) (by omega) ?_
  walk_at "pv"
  refine take_e (by omega) (by omega) (by omega) h4 fun z3 S5 z30 z31 h5 => ?_
  walk_at "pv"
  refine drawn37 11 _ _ _ _ _ _ (by omega) (by omega) (by omega) (by omega) (by omega) h5 fun c S6 C6 c1 c2 c3 h6 => ?_
  have cd := c.dep_size
  have ctd := tm_dep c
  refine termof20 (by omega) c1 (by omega) ?_
  refine lterm34 _ _ _ _ (by omega) c1 ?_
  refine ok_same 30 _ _ _ _ _ ((c.tm.gd).mono (by omega)) (by omega) ?_
  walk_at "pv"
  refine ok_isco _ _ _ _ (by omega) c1 ?_
  walk_at "pv"
  exact t8 c1 (by omega) (by omega) h6 fun S' => .inl rfl
end K04
namespace K04
open PySem Pv L2
set_option maxHeartbeats 8000000 in
theorem facts {K : PySem.W.Frag} {h : Heap} {mg : Str → Option Value} (X : K.In h) (Gn : h.Ns mainGlobals mg)
    (F0 : FnT K "is_integer" (top 6))
    (F1 : FnT K "is_natural" (top 7))
    (F2 : FnT K "check_number" (top 8))
    (F3 : FnT K "shift_from" (top 10))
    (F4 : FnT K "put_below" (top 11))
    (F5 : FnT K "count_nodes" (top 12))
    (F6 : FnT K "is_term" (top 14))
    (F7 : FnT K "check_term" (top 15))
    (F8 : FnT K "put_in" (top 16))
    (F9 : FnT K "is_combinators" (top 24))
    (F10 : FnT K "check_combinators" (top 25))
    (F11 : FnT K "nodes_in" (top 26))
    (F12 : FnT K "has_first" (top 27))
    (F13 : FnT K "lowered" (top 28))
    (F14 : FnT K "taken_out" (top 29))
    (F15 : FnT K "take_out" (top 30))
    (F16 : FnT K "made_of" (top 31))
    (F17 : FnT K "combinators_of" (top 32))
    (F18 : FnT K "constant_term" (top 33))
    (F19 : FnT K "with_terms" (top 34))
    (F20 : FnT K "term_of" (top 35))
    (F21 : FnT K "step_here" (top 36))
    (F22 : FnT K "stepped" (top 37))
    (F23 : FnT K "combinator_step" (top 38))
    (F24 : FnT K "combinator_end" (top 39))
    (F25 : FnT K "_law_stream" (top 41))
    (F26 : FnT K "_law_take" (top 42))
    (F27 : FnT K "_law_same" (top 43))
    (F28 : FnT K "_law_term" (top 44))
    (F29 : FnT K "_law_has" (top 45))
    (F30 : FnT K "_law_turned" (top 46))
    (F31 : FnT K "_law_out" (top 47))
    (F32 : FnT K "_law_made" (top 48))
    (F33 : FnT K "_law_filled" (top 49))
    (F34 : FnT K "_law_term_of" (top 50))
    (F35 : FnT K "_law_first" (top 51))
    (F36 : FnT K "_law_nodes" (top 52))
    (F37 : FnT K "_law_drawn" (top 53))
    (F38 : FnT K "_law_spoilt" (top 54))
    (F39 : FnT K "_law_refused" (top 55))
    (F40 : FnT K "_law_too_many" (top 56))
    (F41 : FnT K "law" (top 57))
    (B0 : BlT K "all")
    (B1 : BlT K "bool")
    (B2 : BlT K "enumerate")
    (B3 : BlT K "int")
    (B4 : BlT K "isinstance")
    (B5 : BlT K "len")
    (B6 : BlT K "list")
    (B7 : BlT K "range")
    (B8 : BlT K "str")
    (B9 : BlT K "tuple")
    (B10 : BlT K "zip")
    (E0 : ExT K "UseError")
    (E1 : ExT K "InvalidTerm")
    (E2 : ExT K "InvalidNumber")
    (E3 : ExF K "TooMany" "TooMany.__init__" "count")
    (E4 : ExT K "InvalidCombinators")
    (C3_0 : CtT K "TooMany" "UseError" false)
    (C3_1 : CtT K "TooMany" "InvalidTerm" false)
    (C3_2 : CtT K "TooMany" "InvalidNumber" false)
    (C3_3 : CtT K "TooMany" "TooMany" true)
    (C3_4 : CtT K "TooMany" "InvalidCombinators" false)
    (C4_0 : CtT K "InvalidCombinators" "UseError" false)
    (C4_1 : CtT K "InvalidCombinators" "InvalidTerm" false)
    (C4_2 : CtT K "InvalidCombinators" "InvalidNumber" false)
    (C4_3 : CtT K "InvalidCombinators" "TooMany" false)
    (C4_4 : CtT K "InvalidCombinators" "InvalidCombinators" true)
    (K0 : CsT K "NAMES" [(st 0), (st 1), (st 2)])
    (K1 : CsT K "SPREAD" [(st 3), (st 0)])
    (K2 : CsT K "KEEP" [(st 3), (st 1)])
    (K3 : CsT K "SAME" [(st 3), (st 2)])
    : Facts K mg G blts rows where
  fn := fun i r h => by
    match i, h with
    | 0, h => cases h; exact fnAt_of X Gn F0 (fun _ _ _ _ _ _ us hl => match us, hl with | [_], _ => rfl)
    | 1, h => cases h; exact fnAt_of X Gn F1 (fun _ _ _ _ _ _ us hl => match us, hl with | [_], _ => rfl)
    | 2, h => cases h; exact fnAt_of X Gn F2 (fun _ _ _ _ _ _ us hl => match us, hl with | [_], _ => rfl)
    | 3, h => cases h; exact fnAt_of X Gn F3 (fun _ _ _ _ _ _ us hl => match us, hl with | [_, _, _], _ => rfl)
    | 4, h => cases h; exact fnAt_of X Gn F4 (fun _ _ _ _ _ _ us hl => match us, hl with | [_, _, _], _ => rfl)
    | 5, h => cases h; exact fnAt_of X Gn F5 (fun _ _ _ _ _ _ us hl => match us, hl with | [_], _ => rfl)
    | 6, h => cases h; exact fnAt_of X Gn F6 (fun _ _ _ _ _ _ us hl => match us, hl with | [_], _ => rfl)
    | 7, h => cases h; exact fnAt_of X Gn F7 (fun _ _ _ _ _ _ us hl => match us, hl with | [_], _ => rfl)
    | 8, h => cases h; exact fnAt_of X Gn F8 (fun _ _ _ _ _ _ us hl => match us, hl with | [_, _], _ => rfl)
    | 9, h => cases h; exact fnAt_of X Gn F9 (fun _ _ _ _ _ _ us hl => match us, hl with | [_], _ => rfl)
    | 10, h => cases h; exact fnAt_of X Gn F10 (fun _ _ _ _ _ _ us hl => match us, hl with | [_], _ => rfl)
    | 11, h => cases h; exact fnAt_of X Gn F11 (fun _ _ _ _ _ _ us hl => match us, hl with | [_], _ => rfl)
    | 12, h => cases h; exact fnAt_of X Gn F12 (fun _ _ _ _ _ _ us hl => match us, hl with | [_], _ => rfl)
    | 13, h => cases h; exact fnAt_of X Gn F13 (fun _ _ _ _ _ _ us hl => match us, hl with | [_], _ => rfl)
    | 14, h => cases h; exact fnAt_of X Gn F14 (fun _ _ _ _ _ _ us hl => match us, hl with | [_], _ => rfl)
    | 15, h => cases h; exact fnAt_of X Gn F15 (fun _ _ _ _ _ _ us hl => match us, hl with | [_], _ => rfl)
    | 16, h => cases h; exact fnAt_of X Gn F16 (fun _ _ _ _ _ _ us hl => match us, hl with | [_], _ => rfl)
    | 17, h => cases h; exact fnAt_of X Gn F17 (fun _ _ _ _ _ _ us hl => match us, hl with | [_], _ => rfl)
    | 18, h => cases h; exact fnAt_of X Gn F18 (fun _ _ _ _ _ _ us hl => match us, hl with | [_], _ => rfl)
    | 19, h => cases h; exact fnAt_of X Gn F19 (fun _ _ _ _ _ _ us hl => match us, hl with | [_], _ => rfl)
    | 20, h => cases h; exact fnAt_of X Gn F20 (fun _ _ _ _ _ _ us hl => match us, hl with | [_], _ => rfl)
    | 21, h => cases h; exact fnAt_of X Gn F21 (fun _ _ _ _ _ _ us hl => match us, hl with | [_], _ => rfl)
    | 22, h => cases h; exact fnAt_of X Gn F22 (fun _ _ _ _ _ _ us hl => match us, hl with | [_], _ => rfl)
    | 23, h => cases h; exact fnAt_of X Gn F23 (fun _ _ _ _ _ _ us hl => match us, hl with | [_], _ => rfl)
    | 24, h => cases h; exact fnAt_of X Gn F24 (fun _ _ _ _ _ _ us hl => match us, hl with | [_, _], _ => rfl)
    | 25, h => cases h; exact fnAt_of X Gn F25 (fun _ _ _ _ _ _ us hl => match us, hl with | [_], _ => rfl)
    | 26, h => cases h; exact fnAt_of X Gn F26 (fun _ _ _ _ _ _ us hl => match us, hl with | [_, _], _ => rfl)
    | 27, h => cases h; exact fnAt_of X Gn F27 (fun _ _ _ _ _ _ us hl => match us, hl with | [_, _], _ => rfl)
    | 28, h => cases h; exact fnAt_of X Gn F28 (fun _ _ _ _ _ _ us hl => match us, hl with | [_, _, _], _ => rfl)
    | 29, h => cases h; exact fnAt_of X Gn F29 (fun _ _ _ _ _ _ us hl => match us, hl with | [_, _], _ => rfl)
    | 30, h => cases h; exact fnAt_of X Gn F30 (fun _ _ _ _ _ _ us hl => match us, hl with | [_, _], _ => rfl)
    | 31, h => cases h; exact fnAt_of X Gn F31 (fun _ _ _ _ _ _ us hl => match us, hl with | [_], _ => rfl)
    | 32, h => cases h; exact fnAt_of X Gn F32 (fun _ _ _ _ _ _ us hl => match us, hl with | [_], _ => rfl)
    | 33, h => cases h; exact fnAt_of X Gn F33 (fun _ _ _ _ _ _ us hl => match us, hl with | [_, _], _ => rfl)
    | 34, h => cases h; exact fnAt_of X Gn F34 (fun _ _ _ _ _ _ us hl => match us, hl with | [_], _ => rfl)
    | 35, h => cases h; exact fnAt_of X Gn F35 (fun _ _ _ _ _ _ us hl => match us, hl with | [_], _ => rfl)
    | 36, h => cases h; exact fnAt_of X Gn F36 (fun _ _ _ _ _ _ us hl => match us, hl with | [_], _ => rfl)
    | 37, h => cases h; exact fnAt_of X Gn F37 (fun _ _ _ _ _ _ us hl => match us, hl with | [_, _], _ => rfl)
    | 38, h => cases h; exact fnAt_of X Gn F38 (fun _ _ _ _ _ _ us hl => match us, hl with | [_, _], _ => rfl)
    | 39, h => cases h; exact fnAt_of X Gn F39 (fun _ _ _ _ _ _ us hl => match us, hl with | [_, _], _ => rfl)
    | 40, h => cases h; exact fnAt_of X Gn F40 (fun _ _ _ _ _ _ us hl => match us, hl with | [_, _], _ => rfl)
    | 41, h => cases h; exact fnAt_of X Gn F41 (fun _ _ _ _ _ _ us hl => match us, hl with | [_], _ => rfl)
    | n + 42, h => simp [rows] at h
  blt := fun x hx => by
    simp only [blts, List.mem_cons, List.not_mem_nil, or_false] at hx
    rcases hx with rfl | rfl | rfl | rfl | rfl | rfl | rfl | rfl | rfl | rfl | rfl
    · exact bl_of X Gn B0
    · exact bl_of X Gn B1
    · exact bl_of X Gn B2
    · exact bl_of X Gn B3
    · exact bl_of X Gn B4
    · exact bl_of X Gn B5
    · exact bl_of X Gn B6
    · exact bl_of X Gn B7
    · exact bl_of X Gn B8
    · exact bl_of X Gn B9
    · exact bl_of X Gn B10
  exc := fun c x h => by
    match c, h with
    | 0, h => cases h; exact ex_of X Gn E0
    | 1, h => cases h; exact ex_of X Gn E1
    | 2, h => cases h; exact ex_of X Gn E2
    | 3, h => cases h
    | 4, h => cases h; exact ex_of X Gn E4
    | n + 5, h => simp [G] at h
  excF := fun c x f h => by
    match c, h with
    | 0, h => cases h
    | 1, h => cases h
    | 2, h => cases h
    | 3, h => cases h; exact exF_of X Gn E3 (by decide) (by decide) (by decide) (fun _ _ _ _ _ _ _ _ _ _ _ _ _ => rfl)
    | 4, h => cases h
    | n + 5, h => simp [G] at h
  cat := fun c d x y fo fo' cv dv hm h1 h2 h3 h4 => by
    simp only [G, List.mem_cons, List.not_mem_nil, or_false] at hm
    rcases hm with rfl | rfl
    · match d, h2 with
      | 0, h2 => cases h1; cases h2; exact ct_of X Gn C3_0 h3 h4
      | 1, h2 => cases h1; cases h2; exact ct_of X Gn C3_1 h3 h4
      | 2, h2 => cases h1; cases h2; exact ct_of X Gn C3_2 h3 h4
      | 3, h2 => cases h1; cases h2; exact ct_of X Gn C3_3 h3 h4
      | 4, h2 => cases h1; cases h2; exact ct_of X Gn C3_4 h3 h4
      | n + 5, h2 => simp [G] at h2
    · match d, h2 with
      | 0, h2 => cases h1; cases h2; exact ct_of X Gn C4_0 h3 h4
      | 1, h2 => cases h1; cases h2; exact ct_of X Gn C4_1 h3 h4
      | 2, h2 => cases h1; cases h2; exact ct_of X Gn C4_2 h3 h4
      | 3, h2 => cases h1; cases h2; exact ct_of X Gn C4_3 h3 h4
      | 4, h2 => cases h1; cases h2; exact ct_of X Gn C4_4 h3 h4
      | n + 5, h2 => simp [G] at h2
  con := fun x pv h => by
    simp only [G, List.mem_cons, List.not_mem_nil, or_false, Prod.mk.injEq] at h
    rcases h with ⟨rfl, rfl⟩ | ⟨rfl, rfl⟩ | ⟨rfl, rfl⟩ | ⟨rfl, rfl⟩
    · exact csT_of X Gn K0
    · exact csT_of X Gn K1
    · exact csT_of X Gn K2
    · exact csT_of X Gn K3
end K04
open PySem PySem.W PyProof.Rows
set_option maxRecDepth 100000 in
set_option maxHeartbeats 0 in
theorem PySem.Challenge.cw_usedapart_k04_combinators_holds : PySem.Challenge.rw_usedapart_k04_combinators.Holds := by
  w_on; o_law; k_head; (case hw => w_witness2)
  k_fill
  refine Pv.walk (l := PySem.Challenge.rw_usedapart_k04_combinators) (k := 230) (x := "script") rfl rfl (fun w h Y => PySem.W.kIn_of Y) ⟨rfl, by decide, by decide⟩ ?F
  case F =>
    intro w mg fa h KX G hmg
    refine Pv.law_end (st := K04.top 57) KX G K04.tab_ok (K04.facts KX G ?f0 ?f1 ?f2 ?f3 ?f4 ?f5 ?f6 ?f7 ?f8 ?f9 ?f10 ?f11 ?f12 ?f13 ?f14 ?f15 ?f16 ?f17 ?f18 ?f19 ?f20 ?f21 ?f22 ?f23 ?f24 ?f25 ?f26 ?f27 ?f28 ?f29 ?f30 ?f31 ?f32 ?f33 ?f34 ?f35 ?f36 ?f37 ?f38 ?f39 ?f40 ?f41 ?b0 ?b1 ?b2 ?b3 ?b4 ?b5 ?b6 ?b7 ?b8 ?b9 ?b10 ?e0 ?e1 ?e2 ?e3 ?e4 ?c3_0 ?c3_1 ?c3_2 ?c3_3 ?c3_4 ?c4_0 ?c4_1 ?c4_2 ?c4_3 ?c4_4 ?k0 ?k1 ?k2 ?k3) ?fl hmg (i := 41) rfl (fun _ _ _ _ _ _ _ => rfl) K04.law_main
    (case fl => exact ⟨_, _, _, _, _, _, _, _, _, _, by k_is, by k_is, by k_is, by k_is⟩)
    (case f0 => exact ⟨_, _, _, _, _, _, _, _, _, _, by k_is, by k_is, by k_is, by k_is⟩)
    (case f1 => exact ⟨_, _, _, _, _, _, _, _, _, _, by k_is, by k_is, by k_is, by k_is⟩)
    (case f2 => exact ⟨_, _, _, _, _, _, _, _, _, _, by k_is, by k_is, by k_is, by k_is⟩)
    (case f3 => exact ⟨_, _, _, _, _, _, _, _, _, _, by k_is, by k_is, by k_is, by k_is⟩)
    (case f4 => exact ⟨_, _, _, _, _, _, _, _, _, _, by k_is, by k_is, by k_is, by k_is⟩)
    (case f5 => exact ⟨_, _, _, _, _, _, _, _, _, _, by k_is, by k_is, by k_is, by k_is⟩)
    (case f6 => exact ⟨_, _, _, _, _, _, _, _, _, _, by k_is, by k_is, by k_is, by k_is⟩)
    (case f7 => exact ⟨_, _, _, _, _, _, _, _, _, _, by k_is, by k_is, by k_is, by k_is⟩)
    (case f8 => exact ⟨_, _, _, _, _, _, _, _, _, _, by k_is, by k_is, by k_is, by k_is⟩)
    (case f9 => exact ⟨_, _, _, _, _, _, _, _, _, _, by k_is, by k_is, by k_is, by k_is⟩)
    (case f10 => exact ⟨_, _, _, _, _, _, _, _, _, _, by k_is, by k_is, by k_is, by k_is⟩)
    (case f11 => exact ⟨_, _, _, _, _, _, _, _, _, _, by k_is, by k_is, by k_is, by k_is⟩)
    (case f12 => exact ⟨_, _, _, _, _, _, _, _, _, _, by k_is, by k_is, by k_is, by k_is⟩)
    (case f13 => exact ⟨_, _, _, _, _, _, _, _, _, _, by k_is, by k_is, by k_is, by k_is⟩)
    (case f14 => exact ⟨_, _, _, _, _, _, _, _, _, _, by k_is, by k_is, by k_is, by k_is⟩)
    (case f15 => exact ⟨_, _, _, _, _, _, _, _, _, _, by k_is, by k_is, by k_is, by k_is⟩)
    (case f16 => exact ⟨_, _, _, _, _, _, _, _, _, _, by k_is, by k_is, by k_is, by k_is⟩)
    (case f17 => exact ⟨_, _, _, _, _, _, _, _, _, _, by k_is, by k_is, by k_is, by k_is⟩)
    (case f18 => exact ⟨_, _, _, _, _, _, _, _, _, _, by k_is, by k_is, by k_is, by k_is⟩)
    (case f19 => exact ⟨_, _, _, _, _, _, _, _, _, _, by k_is, by k_is, by k_is, by k_is⟩)
    (case f20 => exact ⟨_, _, _, _, _, _, _, _, _, _, by k_is, by k_is, by k_is, by k_is⟩)
    (case f21 => exact ⟨_, _, _, _, _, _, _, _, _, _, by k_is, by k_is, by k_is, by k_is⟩)
    (case f22 => exact ⟨_, _, _, _, _, _, _, _, _, _, by k_is, by k_is, by k_is, by k_is⟩)
    (case f23 => exact ⟨_, _, _, _, _, _, _, _, _, _, by k_is, by k_is, by k_is, by k_is⟩)
    (case f24 => exact ⟨_, _, _, _, _, _, _, _, _, _, by k_is, by k_is, by k_is, by k_is⟩)
    (case f25 => exact ⟨_, _, _, _, _, _, _, _, _, _, by k_is, by k_is, by k_is, by k_is⟩)
    (case f26 => exact ⟨_, _, _, _, _, _, _, _, _, _, by k_is, by k_is, by k_is, by k_is⟩)
    (case f27 => exact ⟨_, _, _, _, _, _, _, _, _, _, by k_is, by k_is, by k_is, by k_is⟩)
    (case f28 => exact ⟨_, _, _, _, _, _, _, _, _, _, by k_is, by k_is, by k_is, by k_is⟩)
    (case f29 => exact ⟨_, _, _, _, _, _, _, _, _, _, by k_is, by k_is, by k_is, by k_is⟩)
    (case f30 => exact ⟨_, _, _, _, _, _, _, _, _, _, by k_is, by k_is, by k_is, by k_is⟩)
    (case f31 => exact ⟨_, _, _, _, _, _, _, _, _, _, by k_is, by k_is, by k_is, by k_is⟩)
    (case f32 => exact ⟨_, _, _, _, _, _, _, _, _, _, by k_is, by k_is, by k_is, by k_is⟩)
    (case f33 => exact ⟨_, _, _, _, _, _, _, _, _, _, by k_is, by k_is, by k_is, by k_is⟩)
    (case f34 => exact ⟨_, _, _, _, _, _, _, _, _, _, by k_is, by k_is, by k_is, by k_is⟩)
    (case f35 => exact ⟨_, _, _, _, _, _, _, _, _, _, by k_is, by k_is, by k_is, by k_is⟩)
    (case f36 => exact ⟨_, _, _, _, _, _, _, _, _, _, by k_is, by k_is, by k_is, by k_is⟩)
    (case f37 => exact ⟨_, _, _, _, _, _, _, _, _, _, by k_is, by k_is, by k_is, by k_is⟩)
    (case f38 => exact ⟨_, _, _, _, _, _, _, _, _, _, by k_is, by k_is, by k_is, by k_is⟩)
    (case f39 => exact ⟨_, _, _, _, _, _, _, _, _, _, by k_is, by k_is, by k_is, by k_is⟩)
    (case f40 => exact ⟨_, _, _, _, _, _, _, _, _, _, by k_is, by k_is, by k_is, by k_is⟩)
    (case f41 => exact ⟨_, _, _, _, _, _, _, _, _, _, by k_is, by k_is, by k_is, by k_is⟩)
    (case b0 => unfold Pv.BlT; k_is)
    (case b1 => unfold Pv.BlT; k_is)
    (case b2 => unfold Pv.BlT; k_is)
    (case b3 => unfold Pv.BlT; k_is)
    (case b4 => unfold Pv.BlT; k_is)
    (case b5 => unfold Pv.BlT; k_is)
    (case b6 => unfold Pv.BlT; k_is)
    (case b7 => unfold Pv.BlT; k_is)
    (case b8 => unfold Pv.BlT; k_is)
    (case b9 => unfold Pv.BlT; k_is)
    (case b10 => unfold Pv.BlT; k_is)
    (case e0 => exact ⟨_, by k_is, by k_exc, by k_is, by k_is, by k_is⟩)
    (case e1 => exact ⟨_, by k_is, by k_exc, by k_is, by k_is, by k_is⟩)
    (case e2 => exact ⟨_, by k_is, by k_exc, by k_is, by k_is, by k_is⟩)
    (case e3 => exact ⟨_, _, _, _, _, _, _, _, _, _, _, _, _, _, _, _, _, _, _, _, _, _, _, _, _, _, _, _, _, _, _, by k_is, by k_is, by decide +kernel, by k_is, by k_is, by k_is, by k_is, by k_is, by k_is, by k_is, by k_is, by k_is, by k_is, by k_is, by first | rfl | k_is, by k_is, by k_is⟩)
    (case e4 => exact ⟨_, by k_is, by k_exc, by k_is, by k_is, by k_is⟩)
    (case c3_0 => exact ⟨_, _, by k_is, by k_is, by k_is, by k_is, by k_is, by first | rfl | k_is⟩)
    (case c3_1 => exact ⟨_, _, by k_is, by k_is, by k_is, by k_is, by k_is, by first | rfl | k_is⟩)
    (case c3_2 => exact ⟨_, _, by k_is, by k_is, by k_is, by k_is, by k_is, by first | rfl | k_is⟩)
    (case c3_3 => exact ⟨_, _, by k_is, by k_is, by k_is, by k_is, by k_is, by first | rfl | k_is⟩)
    (case c3_4 => exact ⟨_, _, by k_is, by k_is, by k_is, by k_is, by k_is, by first | rfl | k_is⟩)
    (case c4_0 => exact ⟨_, _, by k_is, by k_is, by k_is, by k_is, by k_is, by first | rfl | k_is⟩)
    (case c4_1 => exact ⟨_, _, by k_is, by k_is, by k_is, by k_is, by k_is, by first | rfl | k_is⟩)
    (case c4_2 => exact ⟨_, _, by k_is, by k_is, by k_is, by k_is, by k_is, by first | rfl | k_is⟩)
    (case c4_3 => exact ⟨_, _, by k_is, by k_is, by k_is, by k_is, by k_is, by first | rfl | k_is⟩)
    (case c4_4 => exact ⟨_, _, by k_is, by k_is, by k_is, by k_is, by k_is, by first | rfl | k_is⟩)
    (case k0 => exact ⟨_, _, _, _, by k_is, by k_is, rfl, rfl, by decide, (.cons ⟨_, rfl⟩ (.cons ⟨_, rfl⟩ (.cons ⟨_, rfl⟩ .nil)))⟩)
    (case k1 => exact ⟨_, _, _, _, by k_is, by k_is, rfl, rfl, by decide, (.cons ⟨_, rfl⟩ (.cons ⟨_, rfl⟩ .nil))⟩)
    (case k2 => exact ⟨_, _, _, _, by k_is, by k_is, rfl, rfl, by decide, (.cons ⟨_, rfl⟩ (.cons ⟨_, rfl⟩ .nil))⟩)
    (case k3 => exact ⟨_, _, _, _, by k_is, by k_is, rfl, rfl, by decide, (.cons ⟨_, rfl⟩ (.cons ⟨_, rfl⟩ .nil))⟩)
