import PyProof.Rows.All
import Wide.All
import OpenK.AllK
import Wide.FinOn
import HandS.ForMost
import HandS.IsInst
import HandS.Flow
import HandS.Conv
import HandS.Zip
import HandS.Deep
import HandS.TupAny
import KE.SortData
import KE.DatumOrd
import KE.DatumMore
import KE.DataEq
import KE.DataCmp
import KE.DataMinMax
import KE.DataFind
import KE.DataIsa
import KE.KTupSum
import KE.KMathGC
import HandS.Gcd
import HandS.TupMul
import HandS.SortKw
import HandS.SetFor
import HandS.Strs
import HandS.TupSets
import HandS.TupLe
import HandS.More
import HandS.Style
import KE.GoesEnum
import HandS.DictComp
import PySem.Challenge.RW_lentkept_k64_whole_names_seen_round
set_option Elab.async false
set_option linter.all false
set_option maxRecDepth 100000
/-! Pz: a pure evaluator for the plain part of the language, its own small syntax, and the check that it is the model's. -/
namespace Pz
open PySem

abbrev PV := PyData
/-- no list, tuple or text of the evaluator grows beyond this -/
abbrev LIM : Nat := 1000000

/-- a value, and whether it is a list just made -/
structure RV where
  v : PV
  fr : Bool
/-- what only one name has: a list, a dict -/
inductive Oc where
  | l (xs : List PV) | d (kvs : List (L2.Key × PV))
inductive Sl where
  | no | val (v : PV) | obj (o : Oc)
abbrev Sl.own (xs : List PV) : Sl := .obj (.l xs)
abbrev Sl.dic (kvs : List (L2.Key × PV)) : Sl := .obj (.d kvs)
abbrev En := List Sl

inductive Op2 where
  | add | sub | mul | fdiv | mod | pow | shl
  deriving DecidableEq
inductive Cm where
  | eq | ne | lt | le | gt | ge | isIn | notIn
  deriving DecidableEq
inductive Bl where
  | len | sum | min | max | all | any | tuple | list | sorted | int | str | abs | bool | reversed
  deriving DecidableEq
/-- classes of isinstance -/
inductive Ty where
  | int | bool | str | tuple | list
  deriving DecidableEq

mutual
inductive Tg where
  | nm (i : Nat) | tp (ts : Tgs)
inductive Tgs where
  | nil | cons (t : Tg) (ts : Tgs)
end

mutual
def Tg.slots : Tg → List Nat
  | .nm i => [i]
  | .tp ts => ts.slots
def Tgs.slots : Tgs → List Nat
  | .nil => []
  | .cons t ts => t.slots ++ ts.slots
end

mutual
inductive Tx where
  | var (i : Nat)
  | glob (x : Str)
  | non | bl (b : Bool) | int (i : Int) | str (x : Str)
  | bin (o : Op2) (a b : Tx)
  | neg (a : Tx) | not (a : Tx)
  | cmp (o : Cm) (a b : Tx) | isN (a : Tx) | notN (a : Tx) | isB (a : Tx) (b : Bool)
  | chain (o o' : Cm) (a b c : Tx)
  | and (a b : Tx) | or (a b : Tx)
  | ife (c a b : Tx)
  | tup (es : Txs) | lst (es : Txs)
  | idx (a b : Tx)
  | cut (a : Tx) (lo hi : To)
  | call (f : Str) (es : Txs)
  | blt (b : Bl) (es : Txs)
  | isi (a : Tx) (t : Ty)
  | best (b : Bool) (a d : Tx)
  | comb (a b : Tx)
  /-- sorted(set(a)), len(set(a)) -/
  | sset (a : Tx) | lset (a : Tx)
  /-- a[::-1], a.index(b): of lists; of numbers -/
  | rev (a : Tx) | index (a b : Tx)
  /-- d[k], d.get(k, e), d.get(k), k in d (b: not in): of a name's own dict -/
  | dget (i : Nat) (k : Tx) | dgetd (i : Nat) (k e : Tx) | dget1 (i : Nat) (k : Tx) | din (b : Bool) (i : Nat) (k : Tx)
  /-- sorted(a name's own dict), numbers its keys -/
  | dsort (i : Nat)
  | comp (elt : Tx) (tg : Tg) (it : Ti) (ifs : Txs) (own : List (Str × Nat))
  | comp2 (elt : Tx) (tg : Tg) (it : Ti) (ifs : Txs) (tg1 : Tg) (it1 : Ti) (ifs1 : Txs) (own : List (Str × Nat)) (own1 : List Nat)
inductive Txs where
  | nil | cons (e : Tx) (es : Txs)
inductive To where
  | no | so (e : Tx)
inductive Ti where
  | seq (e : Tx)
  | rng1 (e : Tx) | rng2 (a b : Tx)
  | enum (e : Tx) | zip (a b : Tx)
  /-- range(a, b, -1) -/
  | rngD (a b : Tx)
end

/-- keys of dicts -/
def keyO : PV → Option L2.Key
  | .int i => some (.inl i)
  | .str s => some (.inr s)
  | _ => none
/-- what a key has -/
def lkp (kvs : List (L2.Key × PV)) (k : L2.Key) : Option PV := (kvs.find? fun kv => decide (kv.1 = k)).map (·.2)
def putP (kvs : List (L2.Key × PV)) (k : L2.Key) (v : PV) : List (L2.Key × PV) :=
  if (kvs.any fun kv => decide (kv.1 = k)) = true then kvs.map (fun kv => if kv.1 = k then (kv.1, v) else kv) else kvs ++ [(k, v)]
/-- a name's own dict at a key -/
def dAt (ρ : En) (i : Nat) (y : PV) : Option (Option PV) := match ρ[i]?, keyO y with
  | some (.obj (.d kvs)), some k => some (lkp kvs k)
  | _, _ => none
def keysI : List (L2.Key × PV) → Option (List Int)
  | [] => some []
  | (.inl i, _) :: r => (keysI r).map (i :: ·)
  | _ => none
def slotR (ρ : En) (i : Nat) : Option PV := match ρ[i]? with
  | some (.obj (.l ds)) => some (.list ds)
  | some (.val v) => some v
  | _ => none
/-- read: a name's own list may be looked at -/
def rd (p : Tx) (r : Option RV) (ρ : En) : Option PV := match p with
  | .var i => slotR ρ i
  | _ => r.map (·.v)

/-- .. or not (b) -/
def rdS (b : Bool) (p : Tx) (r : Option RV) (ρ : En) : Option PV := if b then r.map (·.v) else rd p r ρ

def truth : PV → Option Bool
  | .none => some false
  | .bool b => some b
  | .int i => some (i != 0)
  | .str s => if s.length ≤ LIM then some (s.length != 0) else none
  | .list xs => some (!xs.isEmpty)
  | .tuple xs => some (!xs.isEmpty)
  | .dict _ => none

open PySem.W (alike dataLt minD maxD dataLe)
/-- plain data, not too deep -/
def okD (d : PV) : Bool := d.plain && decide (d.depth ≤ 60)
def okL (ds : List PV) : Bool := PyData.plainAll ds && decide (PyData.depthAll ds ≤ 60)
def isNone : PV → Bool
  | .none => true
  | _ => false
def peq (x y : PV) : Option Bool := if okD x && okD y then some (PyData.eqv x y) else none
def items : PV → Option (List PV)
  | .list xs => some xs
  | .tuple xs => some xs
  | _ => none
def pin (x : PV) (y : PV) : Option Bool := do
  let xs ← items y
  if okD x && okL xs then some (xs.any fun z => PyData.eqv z x) else none
/-- x < y, for data that can be compared -/
def plt (x y : PV) : Option Bool := if okD x && okD y && alike x y && !isNone x then some (dataLt x y) else none

def evCmp : Cm → PV → PV → Option Bool
  | .eq, x, y => peq x y
  | .ne, x, y => (peq x y).map (!·)
  | .isIn, x, y => pin x y
  | .notIn, x, y => (pin x y).map (!·)
  | .lt, x, y => match x, y with
    | .int a, .int b => some (decide (a < b))
    | x, y => plt x y
  | .le, x, y => match x, y with
    | .int a, .int b => some (decide (a ≤ b))
    | x, y => (plt y x).map (!·)
  | .gt, x, y => match x, y with
    | .int a, .int b => some (decide (b < a))
    | x, y => plt y x
  | .ge, x, y => match x, y with
    | .int a, .int b => some (decide (b ≤ a))
    | x, y => (plt x y).map (!·)

def evBin : Op2 → PV → PV → Option RV
  | .add, .int a, .int b => some ⟨.int (a + b), false⟩
  | .add, .str a, .str b => if a.length + b.length ≤ LIM then some ⟨.str (a ++ b), false⟩ else none
  | .add, .tuple a, .tuple b => if a.length + b.length ≤ LIM then some ⟨.tuple (a ++ b), false⟩ else none
  | .add, .list a, .list b => if a.length + b.length ≤ LIM then some ⟨.list (a ++ b), true⟩ else none
  | .sub, .int a, .int b => some ⟨.int (a - b), false⟩
  | .mul, .int a, .int b => if a.natAbs < 18446744073709551616 || b.natAbs < 18446744073709551616 then some ⟨.int (a * b), false⟩ else none
  | .mul, .list xs, .int k => if 0 ≤ k && k ≤ 1000 && decide (xs.length ≤ 1000) then some ⟨.list (List.replicate k.toNat xs).flatten, true⟩ else none
  | .mul, .tuple xs, .int k => if 1 ≤ k && k ≤ 1000 && !xs.isEmpty && decide (xs.length ≤ 1000) then some ⟨.tuple (List.replicate k.toNat xs).flatten, false⟩ else none
  | .fdiv, .int a, .int b => if 0 < b && decide (b < 1073741824) then some ⟨.int (a / b), false⟩ else none
  | .mod, .int a, .int b => if 0 < b then some ⟨.int (a % b), false⟩ else none
  | .pow, .int a, .int b => if 0 ≤ b && b ≤ 100000 && a.natAbs < 18446744073709551616 then some ⟨.int (a ^ b.toNat), false⟩ else none
  | .shl, .int a, .int b => if 0 ≤ b && b ≤ 100000 && a.natAbs < 18446744073709551616 then some ⟨.int (a * 2 ^ b.toNat), false⟩ else none
  | _, _, _ => none

/-- the place of an index -/
def ixOf (n : Nat) (i : Int) : Option Nat := if 0 ≤ i then (if i < n then some i.toNat else none) else if -(n : Int) ≤ i then some (i + n).toNat else none
def evIdx : PV → PV → Option PV
  | .list xs, .int i => (ixOf xs.length i).bind (xs[·]?)
  | .tuple xs, .int i => (ixOf xs.length i).bind (xs[·]?)
  | .str s, .int i => if s.length ≤ LIM then ((ixOf s.length i).bind (s.cps.toList[·]?)).map fun c => .str ⟨#[c]⟩ else none
  | _, _ => none
def cutL {α : Type} (xs : List α) (lo hi : Option Int) : List α := (xs.drop (HT.sIx xs.length 0 lo)).take (HT.sIx xs.length xs.length hi - HT.sIx xs.length 0 lo)
def evCut : PV → Option Int → Option Int → Option RV
  | .list xs, lo, hi => some ⟨.list (cutL xs lo hi), true⟩
  | .tuple xs, lo, hi => some ⟨.tuple (cutL xs lo hi), false⟩
  | .str s, lo, hi => if s.length ≤ LIM then some ⟨.str (L2.cutS s lo hi), false⟩ else none
  | _, _, _ => none

def intsO : List PV → Option (List Int)
  | [] => some []
  | .int i :: r => (intsO r).map (i :: ·)
  | _ => none
def boolsO : List PV → Option (List Bool)
  | [] => some []
  | .bool i :: r => (boolsO r).map (i :: ·)
  | _ => none

/-- put into a row in order, ahead of those that it is not above -/
def insB {α : Type} (le : α → α → Bool) (x : α) : List α → List α
  | [] => [x]
  | y :: r => if le x y then x :: y :: r else y :: insB le x r
def sortB {α : Type} (le : α → α → Bool) (xs : List α) : List α := xs.foldr (insB le) []
def alikeB (ds : List PV) : Bool := ds.all fun x => ds.all fun y => alike x y
def isTup1 : PV → Bool
  | .tuple (_ :: _) => true
  | _ => false
def noTup : PV → Bool
  | .tuple _ => false
  | .none => false
  | _ => true
def canSort (ds : List PV) : Bool := okL ds && alikeB ds && (ds.all isTup1 || ds.all noTup)
/-- the least (b: the greatest) one, the first of several -/
def bestB (b : Bool) (ds : List PV) : Option PV := match ds with
  | [] => none
  | x :: r => if okL ds && alikeB ds && ds.all (fun y => !isNone y) then some (if b then maxD x r else minD x r) else none

def evBlt : Bl → List PV → Option RV
  | .len, [.list xs] => some ⟨.int xs.length, false⟩
  | .len, [.tuple xs] => some ⟨.int xs.length, false⟩
  | .len, [.str s] => if s.length ≤ LIM then some ⟨.int s.length, false⟩ else none
  | .sum, [.list xs] => (intsO xs).map fun is => ⟨.int is.sum, false⟩
  | .sum, [.tuple xs] => (intsO xs).map fun is => ⟨.int is.sum, false⟩
  | .all, [.list xs] => (boolsO xs).map fun bs => ⟨.bool (bs.all id), false⟩
  | .any, [.list xs] => (boolsO xs).map fun bs => ⟨.bool (bs.any id), false⟩
  | .tuple, [.list xs] => some ⟨.tuple xs, false⟩
  | .tuple, [.tuple xs] => some ⟨.tuple xs, false⟩
  | .list, [.list xs] => some ⟨.list xs, true⟩
  | .list, [.tuple xs] => some ⟨.list xs, true⟩
  | .int, [.int i] => some ⟨.int i, false⟩
  | .int, [.bool b] => some ⟨.int (if b then 1 else 0), false⟩
  | .abs, [.int i] => some ⟨.int (if i < 0 then -i else i), false⟩
  | .min, [.int i, .int j] => some ⟨.int (if j < i then j else i), false⟩
  | .max, [.int i, .int j] => some ⟨.int (if j > i then j else i), false⟩
  | .sorted, [.list xs] => if canSort xs then some ⟨.list (sortB (dataLe false id) xs), true⟩ else none
  | .min, [.list xs] => (bestB false xs).map (⟨·, false⟩)
  | .max, [.list xs] => (bestB true xs).map (⟨·, false⟩)
  | .sorted, [.tuple xs] => if canSort xs then some ⟨.list (sortB (dataLe false id) xs), true⟩ else none
  | .min, [.tuple xs] => (bestB false xs).map (⟨·, false⟩)
  | .max, [.tuple xs] => (bestB true xs).map (⟨·, false⟩)
  | _, _ => none

/-- .. with a default -/
def evBest (b : Bool) (x y : PV) : Option RV := match x with
  | .list [] => some ⟨y, false⟩
  | .list xs => (bestB b xs).map (⟨·, false⟩)
  | _ => none
/-- math.comb -/
def evComb : PV → PV → Option RV
  | .int i, .int j => if 0 ≤ i && 0 ≤ j && decide (i ≤ 18000) then some ⟨.int (PySem.W.mcComb i j), false⟩ else none
  | _, _ => none
/-- each once -/
def dd {α : Type} [DecidableEq α] : List α → List α
  | [] => []
  | x :: r => if x ∈ r then dd r else x :: dd r
/-- a tuple of numbers, as data -/
def tupD (k : List Int) : PV := .tuple (k.map .int)
def sortI (ns : List Int) : List Int := sortB (fun a b => decide (a ≤ b)) ns
def tupsO : List PV → Option (List (List Int))
  | [] => some []
  | .tuple xs :: r => (intsO xs).bind fun k => (tupsO r).map (k :: ·)
  | _ => none
/-- sorted(set(..)), len(set(..)): of numbers, of tuples of numbers -/
def evSset : PV → Option RV
  | .list xs => match intsO xs with
    | some ns => if ns.length ≤ 4000 && decide ((dd ns).length < 64) then some ⟨.list ((sortI (dd ns)).map .int), true⟩ else none
    | none => match tupsO xs with
      | some ks => if ks.length < 64 && ks.all (fun k => !k.isEmpty) then some ⟨.list (sortB (dataLe false id) ((dd ks).map tupD)), true⟩ else none
      | none => none
  | _ => none
def evLset : PV → Option RV
  | .list xs => match intsO xs with
    | some ns => if ns.length ≤ 4000 then some ⟨.int (dd ns).length, false⟩ else none
    | none => match tupsO xs with
      | some ks => if ks.length < 64 then some ⟨.int (dd ks).length, false⟩ else none
      | none => none
  | _ => none
def evRev : PV → Option RV
  | .list xs => some ⟨.list xs.reverse, true⟩
  | _ => none
def evIndex : PV → PV → Option RV
  | .list xs, .int k => (intsO xs).bind fun ns => if ns.idxOf k < ns.length then some ⟨.int (ns.idxOf k : Nat), false⟩ else none
  | _, _ => none
def rngDL (i : Int) (n : Nat) : List PV := (List.range n).map fun k => .int (i - (k : Nat))
def isiB : PV → Ty → Option Bool
  | .none, _ => some false
  | .bool _, .int => some true
  | .bool _, .bool => some true
  | .bool _, _ => some false
  | .int _, .int => some true
  | .int _, _ => some false
  | .str _, .str => some true
  | .str _, _ => some false
  | .tuple _, .tuple => some true
  | .tuple _, _ => some false
  | .list _, .list => some true
  | .list _, _ => some false
  | .dict _, _ => none

mutual
/-- a value goes to a target -/
def asg : Tg → PV → En → Option En
  | .nm i, v, ρ => some (ρ.set i (.val v))
  | .tp ts, .tuple vs, ρ => asgs ts vs ρ
  | _, _, _ => none
def asgs : Tgs → List PV → En → Option En
  | .nil, [], ρ => some ρ
  | .cons t ts, v :: vs, ρ => (asg t v ρ).bind (asgs ts vs)
  | _, _, _ => none
end
def wipeS (ρ : En) : List Nat → En
  | [] => ρ
  | i :: r => (wipeS ρ r).set i .no
def rngL (lo : Int) (n : Nat) : List PV := (List.range n).map fun i => .int (lo + (i : Nat))
def enumL (xs : List PV) : List PV := xs.zipIdx.map fun p => .tuple [.int (p.2 : Nat), p.1]
def zipL (xs ys : List PV) : List PV := (xs.zip ys).map fun p => .tuple [p.1, p.2]
def compL (f : PV → Option (List PV)) : List PV → Option (List PV)
  | [] => some []
  | x :: r => do
    let y ← f x
    let ys ← compL f r
    some (y ++ ys)

section
variable (C : Str → List PV → Option RV) (G : Str → Option PV)
mutual
def evE : Tx → En → Option RV
  | .var i, ρ => match ρ[i]? with
    | some (.val v) => some ⟨v, false⟩
    | _ => none
  | .glob x, _ => (G x).map (⟨·, false⟩)
  | .non, _ => some ⟨.none, false⟩
  | .bl b, _ => some ⟨.bool b, false⟩
  | .int i, _ => some ⟨.int i, false⟩
  | .str x, _ => some ⟨.str x, false⟩
  | .bin o a b, ρ => do
    let x ← rd a (evE a ρ) ρ
    let y ← rd b (evE b ρ) ρ
    evBin o x y
  | .neg a, ρ => do
    match ← rd a (evE a ρ) ρ with
    | .int i => some ⟨.int (-i), false⟩
    | _ => none
  | .not a, ρ => do
    let x ← rd a (evE a ρ) ρ
    (truth x).map fun b => ⟨.bool (!b), false⟩
  | .cmp o a b, ρ => do
    let x ← rd a (evE a ρ) ρ
    let y ← rd b (evE b ρ) ρ
    (evCmp o x y).map fun c => ⟨.bool c, false⟩
  | .isN a, ρ => do
    let x ← rd a (evE a ρ) ρ
    some ⟨.bool (isNone x), false⟩
  | .notN a, ρ => do
    let x ← rd a (evE a ρ) ρ
    some ⟨.bool (!isNone x), false⟩
  | .isB a b, ρ => do
    match ← rd a (evE a ρ) ρ with
    | .bool c => some ⟨.bool (decide (c = b)), false⟩
    | _ => none
  | .chain o o' a b c, ρ => do
    let x ← rd a (evE a ρ) ρ
    let y ← rd b (evE b ρ) ρ
    let k ← evCmp o x y
    if k then do
      let z ← rd c (evE c ρ) ρ
      (evCmp o' y z).map fun c => ⟨.bool c, false⟩
    else some ⟨.bool false, false⟩
  | .and a b, ρ => do
    let x ← rd a (evE a ρ) ρ
    let k ← truth x
    if k then evE b ρ else evE a ρ
  | .or a b, ρ => do
    let x ← rd a (evE a ρ) ρ
    let k ← truth x
    if k then evE a ρ else evE b ρ
  | .ife c a b, ρ => do
    let x ← rd c (evE c ρ) ρ
    let k ← truth x
    if k then evE a ρ else evE b ρ
  | .tup es, ρ => (evA es ρ).map fun vs => ⟨.tuple vs, false⟩
  | .lst es, ρ => (evA es ρ).map fun vs => ⟨.list vs, true⟩
  | .idx a b, ρ => do
    let x ← rd a (evE a ρ) ρ
    let y ← rd b (evE b ρ) ρ
    (evIdx x y).map (⟨·, false⟩)
  | .cut a lo hi, ρ => do
    let x ← rd a (evE a ρ) ρ
    let l ← evO lo ρ
    let h ← evO hi ρ
    evCut x l h
  | .call f es, ρ => do
    let vs ← evA es ρ
    C f vs
  | .blt b es, ρ => do
    let vs ← evR es ρ
    evBlt b vs
  | .isi a t, ρ => do
    let x ← rd a (evE a ρ) ρ
    (isiB x t).map fun c => ⟨.bool c, false⟩
  | .best b a d, ρ => do
    let x ← rd a (evE a ρ) ρ
    let y ← evE d ρ
    evBest b x y.v
  | .comb a b, ρ => do
    let x ← rd a (evE a ρ) ρ
    let y ← rd b (evE b ρ) ρ
    evComb x y
  | .sset a, ρ => do
    let x ← rd a (evE a ρ) ρ
    evSset x
  | .lset a, ρ => do
    let x ← rd a (evE a ρ) ρ
    evLset x
  | .rev a, ρ => do
    let x ← rd a (evE a ρ) ρ
    evRev x
  | .index a b, ρ => do
    let x ← rd a (evE a ρ) ρ
    let y ← rd b (evE b ρ) ρ
    evIndex x y
  | .dsort i, ρ => match ρ[i]? with
    | some (.obj (.d kvs)) => (keysI kvs).bind fun ks => if ks.length < 64 then some ⟨.list ((sortI ks).map .int), true⟩ else none
    | _ => none
  | .dget i k, ρ => do
    let y ← rd k (evE k ρ) ρ
    let o ← dAt ρ i y
    o.map (⟨·, false⟩)
  | .dgetd i k e, ρ => do
    let y ← rd k (evE k ρ) ρ
    let z ← evE e ρ
    let o ← dAt ρ i y
    some ⟨o.getD z.v, false⟩
  | .dget1 i k, ρ => do
    let y ← rd k (evE k ρ) ρ
    let o ← dAt ρ i y
    some ⟨o.getD .none, false⟩
  | .din b i k, ρ => do
    let y ← rd k (evE k ρ) ρ
    let o ← dAt ρ i y
    some ⟨.bool (o.isSome != b), false⟩
  | .comp elt tg it ifs own, ρ => do
    let xs ← evI false it ρ
    let ys ← compL (fun x => do
      let ρ1 ← asg tg x (wipeS ρ (own.map (·.2)))
      let k ← evF ifs ρ1
      if k then (evE elt ρ1).map fun r => [r.v] else some []) xs
    some ⟨.list ys, true⟩
  | .comp2 elt tg it ifs tg1 it1 ifs1 own own1, ρ => do
    let xs ← evI false it ρ
    let ys ← compL (fun x => do
      let ρ1 ← asg tg x (wipeS ρ (own.map (·.2)))
      let k ← evF ifs ρ1
      if k then do
        let xs1 ← evI true it1 ρ1
        compL (fun x1 => do
          let ρ2 ← asg tg1 x1 (wipeS ρ1 own1)
          let k1 ← evF ifs1 ρ2
          if k1 then (evE elt ρ2).map fun r => [r.v] else some []) xs1
      else some []) xs
    if ys.length ≤ LIM then some ⟨.list ys, true⟩ else none
/-- arguments that are handed on -/
def evA : Txs → En → Option (List PV)
  | .nil, _ => some []
  | .cons e es, ρ => do
    let r ← evE e ρ
    let vs ← evA es ρ
    some (r.v :: vs)
/-- arguments that are looked at -/
def evR : Txs → En → Option (List PV)
  | .nil, _ => some []
  | .cons e es, ρ => do
    let r ← rd e (evE e ρ) ρ
    let vs ← evR es ρ
    some (r :: vs)
/-- tests, all must hold -/
def evF : Txs → En → Option Bool
  | .nil, _ => some true
  | .cons e es, ρ => do
    let x ← rd e (evE e ρ) ρ
    let k ← truth x
    if k then evF es ρ else some false
def evO : To → En → Option (Option Int)
  | .no, _ => some none
  | .so e, ρ => do
    match ← rd e (evE e ρ) ρ with
    | .int i => some (some i)
    | _ => none
/-- what is walked (b: it may change meanwhile) -/
def evI (b : Bool) : Ti → En → Option (List PV)
  | .seq e, ρ => do
    match ← rdS b e (evE e ρ) ρ with
    | .list xs => some xs
    | .tuple xs => some xs
    | .str s => if s.length ≤ LIM then some (s.cps.toList.map fun c => .str ⟨#[c]⟩) else none
    | _ => none
  | .rng1 e, ρ => do
    match ← rd e (evE e ρ) ρ with
    | .int n => if n.natAbs ≤ LIM then some (rngL 0 n.toNat) else none
    | _ => none
  | .rng2 a c, ρ => do
    let x ← rd a (evE a ρ) ρ
    let y ← rd c (evE c ρ) ρ
    match x, y with
    | .int i, .int j => if i.natAbs ≤ LIM && j.natAbs ≤ LIM then some (rngL i (j - i).toNat) else none
    | _, _ => none
  | .rngD a c, ρ => do
    let x ← rd a (evE a ρ) ρ
    let y ← rd c (evE c ρ) ρ
    match x, y with
    | .int i, .int j => if i.natAbs ≤ LIM && j.natAbs ≤ LIM then some (rngDL i (i - j).toNat) else none
    | _, _ => none
  | .enum e, ρ => do
    let x ← rdS b e (evE e ρ) ρ
    (items x).map enumL
  | .zip a c, ρ => do
    let x ← rdS b a (evE a ρ) ρ
    let y ← rdS b c (evE c ρ) ρ
    match x, y with
    | .list xs, .list ys => some (zipL xs ys)
    | .tuple xs, .tuple ys => some (zipL xs ys)
    | _, _ => none
end
end
end Pz
set_option Elab.async false
set_option linter.all false
set_option maxRecDepth 100000
/-! Pz: the check that a piece of the own syntax is the model's. -/
namespace Pz
open PySem L2

/-- where a piece stands: the names by slot, the scope, the names that may be stored -/
structure CI where
  N : List Str
  sc : Scope
  st : Str → Bool
  /-- names that an import binds to a built-in -/
  im : List (Str × String)

def knd (ci : CI) (x : Str) : Option NameKind := ci.sc.names.lookup x
def visB (ci : CI) (x : Str) : Bool := match knd ci x with
  | some .local => true
  | some .cell => true
  | some .free => true
  | _ => false
def locB (ci : CI) (x : Str) : Bool := match knd ci x with
  | some .local => true
  | some .cell => true
  | _ => false
def glB (ci : CI) (x : Str) : Bool := match knd ci x with
  | some .globalImplicit => true
  | _ => false
def okName (x : Str) : Bool := !(x == ("__debug__" : Str)) && !(x == ("__classdict__" : Str)) && !(decide (x = ("__name__" : Str)))
def noStar : Expr → Bool
  | .Starred .. => false
  | _ => true
def noStars (es : List Expr) : Bool := es.all noStar
/-- an index that is no slice -/
def plainIx : Expr → Bool
  | .Slice .. => false
  | .Constant .. => true
  | .Name .. => true
  | .BinOp .. => true
  | .UnaryOp .. => true
  | .Call .. => true
  | .Subscript .. => true
  | .IfExp .. => true
  | _ => false
/-- an expression whose test is the truth of its value -/
def plainT : Expr → Bool
  | .Name .. => true
  | .Call .. => true
  | .Subscript .. => true
  | .Attribute .. => true
  | .BinOp .. => true
  | .ListComp .. => true
  | .List .. => true
  | .Tuple .. => true
  | _ => false
/-- may stand ahead of a method's dot -/
def plainO : Expr → Bool
  | .Name .. => true
  | .Subscript .. => true
  | _ => false
def noSet : Expr → Bool
  | .Set .. => false
  | _ => true
def cmOp : Cm → CmpOp
  | .eq => .Eq | .ne => .NotEq | .lt => .Lt | .le => .LtE | .gt => .Gt | .ge => .GtE | .isIn => .In | .notIn => .NotIn
def opOp : Op2 → Operator
  | .add => .Add | .sub => .Sub | .mul => .Mult | .fdiv => .FloorDiv | .mod => .Mod | .pow => .Pow | .shl => .LShift
def blName : Bl → Str
  | .len => "len" | .sum => "sum" | .min => "min" | .max => "max" | .all => "all" | .any => "any" | .tuple => "tuple" | .list => "list" | .sorted => "sorted" | .int => "int" | .str => "str" | .abs => "abs" | .bool => "bool" | .reversed => "reversed"
def tyName : Ty → Str
  | .int => "int" | .bool => "bool" | .str => "str" | .tuple => "tuple" | .list => "list"

mutual
def isG (ci : CI) : Tg → Expr → Bool
  | .nm i, .Name x _ => decide (ci.N[i]? = some x) && locB ci x && ci.st x
  | .tp ts, .Tuple es _ _ => isGs ci ts es
  | _, _ => false
def isGs (ci : CI) : Tgs → List Expr → Bool
  | .nil, [] => true
  | .cons t ts, e :: es => isG ci t e && noStar e && isGs ci ts es
  | _, _ => false
end
def isTup : Expr → Bool
  | .Tuple .. => true
  | _ => false
/-- the scope of a comprehension's block -/
def blkCI (ci : CI) (scope : Scope) : CI := ⟨ci.N, relS scope ci.sc, fun x => match scope.names.lookup x with | some .local => true | some .cell => true | _ => false, ci.im⟩
def blkB (ci : CI) (scope : Scope) (own : List (Str × Nat)) : Bool := blkC ci.N ci.sc scope own

/-- may stand as a test -/
def tst : Tx → Bool
  | .non => false | .bl _ => false | .int _ => false | .str _ => false | .neg _ => false | .ife .. => false
  | .not a => tst a
  | .and a b => tst a && tst b
  | .or a b => tst a && tst b
  | _ => true
def tsts : Txs → Bool
  | .nil => true
  | .cons e .nil => tst e
  | _ => false
/-- a name that may be read by slot -/
def rdB (ci : CI) (i : Nat) (x : Str) : Bool := decide (ci.N[i]? = some x) && visB ci x && okName x
mutual
def isE (ci : CI) (t : Tx) (e : Expr) : Bool := match t with
  | .var i => match e with
    | .Name x _ => decide (ci.N[i]? = some x) && visB ci x && okName x
    | _ => false
  | .glob y => match e with
    | .Name x _ => decide (x = y) && glB ci x && okName x
    | _ => false
  | .non => match e with
    | .Constant .none _ _ => true
    | _ => false
  | .bl b => match e with
    | .Constant (.bool c) _ _ => b == c
    | _ => false
  | .int i => match e with
    | .Constant (.int j) _ _ => decide (i = j)
    | _ => false
  | .str x => match e with
    | .Constant (.str y) _ _ => decide (x = y)
    | _ => false
  | .bin o a b => match e with
    | .BinOp ea op eb _ => decide (op = opOp o) && isE ci a ea && isE ci b eb
    | _ => false
  | .neg a => match e with
    | .UnaryOp .USub ea _ => isE ci a ea
    | _ => false
  | .not a => match e with
    | .UnaryOp .Not ea _ => isE ci a ea
    | _ => false
  | .cmp o a b => match e with
    | .Compare ea [op] [eb] _ => decide (op = cmOp o) && noSet eb && isE ci a ea && isE ci b eb
    | _ => false
  | .isN a => match e with
    | .Compare ea [.Is] [.Constant .none _ _] _ => isE ci a ea
    | _ => false
  | .notN a => match e with
    | .Compare ea [.IsNot] [.Constant .none _ _] _ => isE ci a ea
    | _ => false
  | .isB a b => match e with
    | .Compare ea [.Is] [.Constant (.bool c) _ _] _ => decide (b = c) && isE ci a ea
    | _ => false
  | .chain o o' a b c => match e with
    | .Compare ea [op, op'] [eb, ec] _ => decide (op = cmOp o) && decide (op' = cmOp o') && noSet eb && noSet ec && isE ci a ea && isE ci b eb && isE ci c ec
    | _ => false
  | .and a b => match e with
    | .BoolOp .And (ea :: eb :: es) pos => isE ci a ea && (match es with | [] => isE ci b eb | _ => isE ci b (.BoolOp .And (eb :: es) pos))
    | _ => false
  | .or a b => match e with
    | .BoolOp .Or (ea :: eb :: es) pos => isE ci a ea && (match es with | [] => isE ci b eb | _ => isE ci b (.BoolOp .Or (eb :: es) pos))
    | _ => false
  | .ife c a b => match e with
    | .IfExp ec ea eb _ => tst c && isE ci c ec && isE ci a ea && isE ci b eb
    | _ => false
  | .tup es => match e with
    | .Tuple xs _ _ => noStars xs && decide (xs.length ≤ 1000) && isA ci es xs
    | _ => false
  | .lst es => match e with
    | .List xs _ => noStars xs && decide (xs.length ≤ 1000) && isA ci es xs
    | _ => false
  | .idx a b => match e with
    | .Subscript ea eb _ => plainIx eb && isE ci a ea && isE ci b eb
    | _ => false
  | .cut a lo hi => match e with
    | .Subscript ea (.Slice el eh none _) _ => isE ci a ea && isO ci lo el && isO ci hi eh
    | _ => false
  | .call f es => match e with
    | .Call (.Name x _) xs [] _ => decide (x = f) && glB ci x && okName x && noStars xs && (match xs with | [] => false | _ => true) && isA ci es xs
    | _ => false
  | .blt b es => match e with
    | .Call (.Name x _) xs [] _ => decide (x = blName b) && glB ci x && noStars xs && (match xs with | [] => false | _ => true) && isA ci es xs
    | _ => false
  | .isi a t => match e with
    | .Call (.Name x _) [ea, .Name y _] [] _ => decide (x = ("isinstance" : Str)) && glB ci x && decide (y = tyName t) && glB ci y && noStar ea && isE ci a ea
    | _ => false
  | .best b a d => match e with
    | .Call (.Name x _) [ea] [⟨some y, ed, _⟩] _ => decide (x = (if b then "max" else "min" : Str)) && glB ci x && decide (y = ("default" : Str)) && noStar ea && isE ci a ea && isE ci d ed
    | _ => false
  | .comb a b => match e with
    | .Call (.Name x _) [ea, eb] [] _ => decide (x = ("comb" : Str)) && glB ci x && ci.im.contains (("comb" : Str), "math.comb") && noStar ea && noStar eb && isE ci a ea && isE ci b eb
    | _ => false
  | .sset a => match e with
    | .Call (.Name x _) [.Call (.Name y _) [ea] [] _] [] _ => decide (x = ("sorted" : Str)) && decide (y = ("set" : Str)) && glB ci x && glB ci y && noStar ea && isE ci a ea
    | _ => false
  | .lset a => match e with
    | .Call (.Name x _) [.Call (.Name y _) [ea] [] _] [] _ => decide (x = ("len" : Str)) && decide (y = ("set" : Str)) && glB ci x && glB ci y && noStar ea && isE ci a ea
    | _ => false
  | .rev a => match e with
    | .Subscript ea (.Slice none none (some (.UnaryOp .USub (.Constant (.int 1) _ _) _)) _) _ => isE ci a ea
    | _ => false
  | .index a b => match e with
    | .Call (.Attribute ea m apos) [eb] [] cpos => decide (m = ("index" : Str)) && (apos.endLine == cpos.line) && noStar eb && plainO ea && isE ci a ea && isE ci b eb
    | _ => false
  | .dsort i => match e with
    | .Call (.Name x _) [.Name y _] [] _ => decide (x = ("sorted" : Str)) && glB ci x && rdB ci i y
    | _ => false
  | .dget i k => match e with
    | .Subscript (.Name x p) ek _ => plainIx ek && rdB ci i x && isE ci k ek
    | _ => false
  | .dgetd i k d => match e with
    | .Call (.Attribute (.Name x p) m apos) [ek, ed] [] cpos => decide (m = ("get" : Str)) && (apos.endLine == cpos.line) && noStar ek && noStar ed && rdB ci i x && isE ci k ek && isE ci d ed
    | _ => false
  | .dget1 i k => match e with
    | .Call (.Attribute (.Name x p) m apos) [ek] [] cpos => decide (m = ("get" : Str)) && (apos.endLine == cpos.line) && noStar ek && rdB ci i x && isE ci k ek
    | _ => false
  | .din b i k => match e with
    | .Compare ek [op] [.Name x p] _ => decide (op = if b then .NotIn else .In) && rdB ci i x && isE ci k ek
    | _ => false
  | .comp elt tg it ifs own => match e with
    | .ListComp ee [⟨et, ei, efs, 0⟩] scope _ => blkB ci scope own && tg.slots.all (fun i => (own.map (·.2)).contains i) && noSet ei && isI ci it ei (isTup et) && isG (blkCI ci scope) tg et && tsts ifs && isA (blkCI ci scope) ifs efs && isE (blkCI ci scope) elt ee
    | _ => false
  | .comp2 elt tg it ifs tg1 it1 ifs1 own own1 => match e with
    | .ListComp ee [⟨et, ei, efs, 0⟩, ⟨et1, ei1, efs1, 0⟩] scope _ => blkB ci scope own && noSet ei && noSet ei1 && own1.all (fun i => (own.map (·.2)).contains i) && tg.slots.all (fun i => (own.map (·.2)).contains i) && tg1.slots.all own1.contains && isI ci it ei (isTup et) && isG (blkCI ci scope) tg et && tsts ifs && isA (blkCI ci scope) ifs efs && isI (blkCI ci scope) it1 ei1 (isTup et1) && isG (blkCI ci scope) tg1 et1 && tsts ifs1 && isA (blkCI ci scope) ifs1 efs1 && isE (blkCI ci scope) elt ee
    | _ => false
def isA (ci : CI) (t : Txs) (l : List Expr) : Bool := match t with
  | .nil => match l with
    | [] => true
    | _ => false
  | .cons e es => match l with
    | x :: xs => isE ci e x && isA ci es xs
    | _ => false
def isO (ci : CI) (t : To) (l : Option Expr) : Bool := match t with
  | .no => match l with
    | none => true
    | _ => false
  | .so e => match l with
    | some x => isE ci e x
    | _ => false
/-- b: the target is a tuple -/
def isI (ci : CI) (t : Ti) (e : Expr) (tt : Bool) : Bool := match t with
  | .seq a => isE ci a e && noSet e
  | .rng1 a => match e with
    | .Call (.Name x _) [ea] [] _ => decide (x = ("range" : Str)) && glB ci x && noStar ea && isE ci a ea
    | _ => false
  | .rng2 a b => match e with
    | .Call (.Name x _) [ea, eb] [] _ => decide (x = ("range" : Str)) && glB ci x && noStar ea && noStar eb && isE ci a ea && isE ci b eb
    | _ => false
  | .enum a => match e with
    | .Call (.Name x _) [ea] [] _ => tt && decide (x = ("enumerate" : Str)) && glB ci x && noStar ea && isE ci a ea
    | _ => false
  | .rngD a b => match e with
    | .Call (.Name x _) [ea, eb, .UnaryOp .USub (.Constant (.int 1) _ _) _] [] _ => decide (x = ("range" : Str)) && glB ci x && noStar ea && noStar eb && isE ci a ea && isE ci b eb
    | _ => false
  | .zip a b => match e with
    | .Call (.Name x _) [ea, eb] [] _ => tt && decide (x = ("zip" : Str)) && glB ci x && noStar ea && noStar eb && isE ci a ea && isE ci b eb
    | _ => false
end
end Pz
set_option Elab.async false
set_option linter.all false
set_option maxRecDepth 100000
/-! Pz: what stands in the heap for a value; steps; the state. -/
namespace Pz
open PySem PySem.Spec PyProof.Rows L2

section
variable {K : PySem.W.Frag} {F F' F1 H H' H1 : Hp}

theorem sqT_same {a : Addr} {xs : List V} (e : Same F F') (h : SqT K F a xs) : SqT K F' a xs := by
  rcases h with (h | ⟨o, h⟩) | h
  · exact .inl (.inl (e _ _ h))
  · exact .inl (.inr ⟨o, e _ _ h⟩)
  · exact .inr h
mutual
theorem dp_mono (e : Same F F') : ∀ {v : V} {d : PV}, Dp K F v d → Dp K F' v d
  | _, _, .non => .non
  | _, _, .bl b => .bl b
  | _, _, .int i => .int i
  | _, _, .str x => .str x
  | _, _, .lst h hs => .lst (e.seq h) (dpAll_mono e hs)
  | _, _, .tup h hs => .tup (sqT_same e h) (dpAll_mono e hs)
theorem dpAll_mono (e : Same F F') : ∀ {vs : List V} {ds : List PV}, DpAll K F vs ds → DpAll K F' vs ds
  | _, _, .nil => .nil
  | _, _, .cons h hs => .cons (dp_mono e h) (dpAll_mono e hs)
end
theorem dpAll_len : ∀ {vs : List V} {ds : List PV}, DpAll K F vs ds → vs.length = ds.length
  | _, _, .nil => rfl
  | _, _, .cons _ hs => by rw [List.length_cons, List.length_cons, dpAll_len hs]
theorem dpAll_get : ∀ {vs : List V} {ds : List PV} {i : Nat} {d : PV}, DpAll K F vs ds → ds[i]? = some d → ∃ v, vs[i]? = some v ∧ Dp K F v d
  | _, _, i, _, .nil, h => by simp at h
  | _, _, 0, _, .cons h _, e => by simp at e; subst e; exact ⟨_, rfl, h⟩
  | _, _, i + 1, _, .cons _ hs, e => by
    obtain ⟨v, h1, h2⟩ := dpAll_get (i := i) hs (by simpa using e)
    exact ⟨v, by simpa using h1, h2⟩
theorem dpAll_get' : ∀ {vs : List V} {ds : List PV} {i : Nat} {v : V}, DpAll K F vs ds → vs[i]? = some v → ∃ d, ds[i]? = some d ∧ Dp K F v d
  | _, _, i, _, .nil, h => by simp at h
  | _, _, 0, _, .cons h _, e => by simp at e; subst e; exact ⟨_, rfl, h⟩
  | _, _, i + 1, _, .cons _ hs, e => by
    obtain ⟨v, h1, h2⟩ := dpAll_get' (i := i) hs (by simpa using e)
    exact ⟨v, by simpa using h1, h2⟩
theorem dpAll_app : ∀ {vs ws : List V} {ds es : List PV}, DpAll K F vs ds → DpAll K F ws es → DpAll K F (vs ++ ws) (ds ++ es)
  | _, _, _, _, .nil, h => h
  | _, _, _, _, .cons h hs, q => .cons h (dpAll_app hs q)
theorem dpAll_rep {vs : List V} {ds : List PV} (h : DpAll K F vs ds) : ∀ n : Nat, DpAll K F (List.replicate n vs).flatten (List.replicate n ds).flatten
  | 0 => .nil
  | n + 1 => by
    rw [List.replicate_succ, List.replicate_succ, List.flatten_cons, List.flatten_cons]
    exact dpAll_app h (dpAll_rep h n)
theorem dpAll_take : ∀ {vs : List V} {ds : List PV} (n : Nat), DpAll K F vs ds → DpAll K F (vs.take n) (ds.take n)
  | _, _, 0, _ => by simpa using DpAll.nil
  | _, _, _ + 1, .nil => .nil
  | _, _, n + 1, .cons h hs => .cons h (dpAll_take n hs)
theorem dpAll_drop : ∀ {vs : List V} {ds : List PV} (n : Nat), DpAll K F vs ds → DpAll K F (vs.drop n) (ds.drop n)
  | _, _, 0, h => h
  | _, _, _ + 1, .nil => .nil
  | _, _, n + 1, .cons _ hs => dpAll_drop n hs
theorem dpAll_set {v : V} {d : PV} (h : Dp K F v d) : ∀ {vs : List V} {ds : List PV} (n : Nat), DpAll K F vs ds → DpAll K F (vs.set n v) (ds.set n d)
  | _, _, _, .nil => .nil
  | _, _, 0, .cons _ hs => .cons h hs
  | _, _, n + 1, .cons q hs => .cons q (dpAll_set h n hs)
theorem dpAll_int : ∀ {vs : List V} {ds : List PV} {is : List Int}, DpAll K F vs ds → intsO ds = some is → vs = is.map V.int
  | _, _, _, .nil, e => by cases e; rfl
  | _, _, is, .cons h hs, e => by
    cases h with
    | int i =>
      unfold intsO at e
      obtain ⟨js, e1, e2⟩ := Option.map_eq_some_iff.mp e
      subst e2
      rw [dpAll_int hs e1]; rfl
    | non => cases e
    | bl b => cases e
    | str x => cases e
    | lst _ _ => cases e
    | tup _ _ => cases e
theorem dpAll_bool : ∀ {vs : List V} {ds : List PV} {is : List Bool}, DpAll K F vs ds → boolsO ds = some is → vs = is.map V.bl
  | _, _, _, .nil, e => by cases e; rfl
  | _, _, is, .cons h hs, e => by
    cases h with
    | bl i =>
      unfold boolsO at e
      obtain ⟨js, e1, e2⟩ := Option.map_eq_some_iff.mp e
      subst e2
      rw [dpAll_bool hs e1]; rfl
    | non => cases e
    | int b => cases e
    | str x => cases e
    | lst _ _ => cases e
    | tup _ _ => cases e

/-- from (F, H) to (F', H'): all that stood stands, what was no value's is no value's -/
structure Step (F H F' H' : Hp) : Prop where
  h : Same H H'
  f : Same F F'
  le : Same F' H'
  nw : ∀ a o, H a = some o → F a = none → F' a = none
theorem Step.rfl' (le : Same F H) : Step F H F H := ⟨Same.refl _, Same.refl _, le, fun _ _ _ e => e⟩
theorem Step.trans {F1 H1 F2 H2 : Hp} (a : Step F H F1 H1) (b : Step F1 H1 F2 H2) : Step F H F2 H2 :=
  ⟨a.h.trans b.h, a.f.trans b.f, b.le, fun c o e n => b.nw c o (a.h _ _ e) (a.nw c o e n)⟩
theorem same_new {H : Hp} {p : Addr} {o : HO} (h : H p = none) : Same H (upd H p o) := fun b x e => by
  rw [upd_ne (ne_of_none e h)]
  exact e
/-- a new object that is a value's -/
theorem Step.new {p : Addr} {o : HO} (le : Same F H) (h : H p = none) : Step F H (upd F p o) (upd H p o) := by
  have hf : F p = none := le.free h
  refine ⟨same_new h, same_new hf, fun b x e => ?_, fun a x e n => ?_⟩
  · by_cases hb : b = p
    · subst hb; rw [upd_same] at e ⊢; exact e
    · rw [upd_ne hb] at e ⊢; exact le _ _ e
  · rw [upd_ne (ne_of_none e h)]; exact n
/-- a new object that is no value's yet -/
theorem Step.lay {p : Addr} {o : HO} (le : Same F H) (h : H p = none) : Step F H F (upd H p o) :=
  ⟨same_new h, Same.refl _, fun b x e => same_new h _ _ (le _ _ e), fun _ _ _ n => n⟩

/-- what stands for a result -/
def RepR (K : PySem.W.Frag) (H F' H' : Hp) (r : RV) (v : V) : Prop :=
  if r.fr = true then ∃ a vs ds, r.v = .list ds ∧ v = .ref a ∧ H a = none ∧ H' a = some (.lst vs) ∧ F' a = none ∧ DpAll K F' vs ds
  else Dp K F' v r.v
theorem RepR.fr {H F' H' : Hp} {d : PV} {v : V} (h : RepR K H F' H' ⟨d, true⟩ v) : ∃ a vs ds, d = .list ds ∧ v = .ref a ∧ H a = none ∧ H' a = some (.lst vs) ∧ F' a = none ∧ DpAll K F' vs ds := by
  unfold RepR at h; simpa using h
theorem RepR.va {H F' H' : Hp} {d : PV} {v : V} (h : RepR K H F' H' ⟨d, false⟩ v) : Dp K F' v d := by
  unfold RepR at h; simpa using h
theorem RepR.of {H F' H' : Hp} {d : PV} {v : V} (h : Dp K F' v d) : RepR K H F' H' ⟨d, false⟩ v := by
  unfold RepR; simpa using h
theorem RepR.new {H F' H' : Hp} {ds : List PV} {a : Addr} {vs : List V} (h0 : H a = none) (h1 : H' a = some (.lst vs)) (h2 : F' a = none) (h3 : DpAll K F' vs ds) : RepR K H F' H' ⟨.list ds, true⟩ (.ref a) := by
  unfold RepR
  rw [if_pos rfl]
  exact ⟨a, vs, ds, rfl, rfl, h0, h1, h2, h3⟩
/-- a new list becomes a value -/
theorem freeze {H F' H' : Hp} {r : RV} {v : V} (s : Step F H F' H') (h : RepR K H F' H' r v) : ∃ F'', Step F H F'' H' ∧ Same F' F'' ∧ Dp K F'' v r.v := by
  obtain ⟨d, fr⟩ := r
  cases fr with
  | false => exact ⟨F', s, Same.refl _, h.va⟩
  | true =>
    obtain ⟨a, vs, ds, rfl, rfl, h0, h1, h2, h3⟩ := h.fr
    have sm : Same F' (upd F' a (.lst vs)) := same_new h2
    refine ⟨upd F' a (.lst vs), ⟨s.h, s.f.trans sm, fun b x e => ?_, fun b o e n => ?_⟩, sm, .lst (SqL.of upd_same) (dpAll_mono sm h3)⟩
    · by_cases hb : b = a
      · subst hb; rw [upd_same] at e; cases e; exact h1
      · rw [upd_ne hb] at e; exact s.le _ _ e
    · rw [upd_ne (ne_of_none e h0)]; exact s.nw b o e n

/-- a value, or a list of one's own that is looked at -/
def Bor (K : PySem.W.Frag) (F H : Hp) (v : V) (d : PV) : Prop :=
  Dp K F v d ∨ ∃ a vs ds, d = .list ds ∧ v = .ref a ∧ H a = some (.lst vs) ∧ DpAll K F vs ds
theorem Bor.dp (le : Same F H) {v : V} {d : PV} (h : Bor K F H v d) : Dp K H v d := by
  rcases h with h | ⟨a, vs, ds, rfl, rfl, h1, h2⟩
  · exact dp_mono le h
  · exact .lst (SqL.of h1) (dpAll_mono le h2)
theorem Bor.list (le : Same F H) {v : V} {ds : List PV} (h : Bor K F H v (.list ds)) : ∃ a vs, v = .ref a ∧ SqL K H a vs ∧ DpAll K F vs ds := by
  rcases h with h | ⟨a, vs, es, e, rfl, h1, h2⟩
  · cases h with
    | lst h hs => exact ⟨_, _, rfl, le.seq h, hs⟩
  · cases e; exact ⟨a, vs, rfl, SqL.of h1, h2⟩
theorem Bor.tup (le : Same F H) {v : V} {ds : List PV} (h : Bor K F H v (.tuple ds)) : ∃ a vs, v = .ref a ∧ SqT K H a vs ∧ DpAll K F vs ds := by
  rcases h with h | ⟨a, vs, es, e, rfl, h1, h2⟩
  · cases h with
    | tup h hs => exact ⟨_, _, rfl, sqT_same le h, hs⟩
  · cases e
theorem Bor.int {v : V} {i : Int} (h : Bor K F H v (.int i)) : v = .int i := by
  rcases h with h | ⟨a, vs, es, e, _⟩
  · cases h; rfl
  · cases e
theorem Bor.bool {v : V} {i : Bool} (h : Bor K F H v (.bool i)) : v = .bl i := by
  rcases h with h | ⟨a, vs, es, e, _⟩
  · cases h; rfl
  · cases e
theorem Bor.str {v : V} {i : Str} (h : Bor K F H v (.str i)) : v = .str i := by
  rcases h with h | ⟨a, vs, es, e, _⟩
  · cases h; rfl
  · cases e
theorem Bor.none {v : V} (h : Bor K F H v .none) : v = .non := by
  rcases h with h | ⟨a, vs, es, e, _⟩
  · cases h; rfl
  · cases e
theorem Bor.step {F' H' : Hp} (s : Step F H F' H') {v : V} {d : PV} (h : Bor K F H v d) : Bor K F' H' v d := by
  rcases h with h | ⟨a, vs, ds, rfl, rfl, h1, h2⟩
  · exact .inl (dp_mono s.f h)
  · exact .inr ⟨a, vs, ds, rfl, rfl, s.h _ _ h1, dpAll_mono s.f h2⟩
theorem Bor.dict {v : V} {kvs} (h : Bor K F H v (.dict kvs)) : False := by
  rcases h with h | ⟨a, vs, es, e, _⟩
  · cases h
  · cases e
theorem RepR.bor {H0 F' H' : Hp} {r : RV} {v : V} (h : RepR K H0 F' H' r v) : Bor K F' H' v r.v := by
  obtain ⟨d, fr⟩ := r
  cases fr with
  | false => exact .inl h.va
  | true =>
    obtain ⟨a, vs, ds, rfl, rfl, h0, h1, h2, h3⟩ := h.fr
    exact .inr ⟨a, vs, ds, rfl, rfl, h1, h3⟩

/-- a dict's pairs -/
inductive DpKv (K : PySem.W.Frag) (F : Hp) : List (L2.Key × V) → List (L2.Key × PV) → Prop
  | nil : DpKv K F [] []
  | cons {k : L2.Key} {v : V} {d : PV} {r : List (L2.Key × V)} {q : List (L2.Key × PV)} : Dp K F v d → DpKv K F r q → DpKv K F ((k, v) :: r) ((k, d) :: q)
theorem dpKv_mono (e : Same F F') : ∀ {r : List (L2.Key × V)} {q : List (L2.Key × PV)}, DpKv K F r q → DpKv K F' r q
  | _, _, .nil => .nil
  | _, _, .cons h hs => .cons (dp_mono e h) (dpKv_mono e hs)
theorem dpKv_len : ∀ {r : List (L2.Key × V)} {q : List (L2.Key × PV)}, DpKv K F r q → r.length = q.length
  | _, _, .nil => rfl
  | _, _, .cons _ hs => by rw [List.length_cons, List.length_cons, dpKv_len hs]
theorem dpKv_lkp (k : L2.Key) : ∀ {r : List (L2.Key × V)} {q : List (L2.Key × PV)}, DpKv K F r q → (∀ d, lkp q k = some d → ∃ v, valV r k = some v ∧ Dp K F v d) ∧ (lkp q k = none → valV r k = none)
  | _, _, .nil => ⟨fun d e => (by cases e), fun _ => rfl⟩
  | _, _, .cons (k := k') (v := v) (d := d) (r := r) (q := q) h hs => by
    obtain ⟨a, b⟩ := dpKv_lkp k hs
    by_cases e : k' = k
    · have e1 : lkp ((k', d) :: q) k = some d := by unfold lkp; rw [List.find?_cons]; simp [e]
      have e2 : valV ((k', v) :: r) k = some v := valV_pos (p := (k', v)) e
      rw [e1, e2]
      exact ⟨fun d' q => by cases q; exact ⟨v, rfl, h⟩, fun q => by cases q⟩
    · have e1 : lkp ((k', d) :: q) k = lkp q k := by unfold lkp; rw [List.find?_cons]; simp [e]
      have e2 : valV ((k', v) :: r) k = valV r k := valV_neg (p := (k', v)) e
      rw [e1, e2]; exact ⟨a, b⟩
theorem dpKv_any (k : L2.Key) : ∀ {r : List (L2.Key × V)} {q : List (L2.Key × PV)}, DpKv K F r q → (r.any fun kv => decide (kv.1 = k)) = (q.any fun kv => decide (kv.1 = k))
  | _, _, .nil => rfl
  | _, _, .cons _ hs => by rw [List.any_cons, List.any_cons, dpKv_any k hs]
theorem dpKv_map (k : L2.Key) {v : V} {d : PV} (h : Dp K F v d) : ∀ {r : List (L2.Key × V)} {q : List (L2.Key × PV)}, DpKv K F r q → DpKv K F (r.map fun kv => if kv.1 = k then (kv.1, v) else kv) (q.map fun kv => if kv.1 = k then (kv.1, d) else kv)
  | _, _, .nil => .nil
  | _, _, .cons (k := k') g hs => by
    rw [List.map_cons, List.map_cons]
    by_cases e : k' = k
    · rw [if_pos e, if_pos e]; exact .cons h (dpKv_map k h hs)
    · rw [if_neg e, if_neg e]; exact .cons g (dpKv_map k h hs)
theorem dpKv_app : ∀ {r r2 : List (L2.Key × V)} {q q2 : List (L2.Key × PV)}, DpKv K F r q → DpKv K F r2 q2 → DpKv K F (r ++ r2) (q ++ q2)
  | _, _, _, _, .nil, h => h
  | _, _, _, _, .cons h hs, g => .cons h (dpKv_app hs g)
theorem dpKv_put (k : L2.Key) {v : V} {d : PV} (h : Dp K F v d) {r : List (L2.Key × V)} {q : List (L2.Key × PV)} (g : DpKv K F r q) : DpKv K F (putK r k v) (putP q k d) := by
  unfold putK putP
  rw [dpKv_any k g]
  split
  · exact dpKv_map k h g
  · exact dpKv_app g (.cons h .nil)
/-- what stands for what only one name has -/
def Shp (K : PySem.W.Frag) (F : Hp) : Oc → HO → Prop
  | .l ds, h => ∃ vs, h = .lst vs ∧ DpAll K F vs ds
  | .d kvs, h => ∃ r, h = .dK r ∧ DpKv K F r kvs
theorem Shp.mono (e : Same F F') : ∀ {o : Oc} {h : HO}, Shp K F o h → Shp K F' o h
  | .l _, _, ⟨vs, a, b⟩ => ⟨vs, a, dpAll_mono e b⟩
  | .d _, _, ⟨r, a, b⟩ => ⟨r, a, dpKv_mono e b⟩
/-- the names' slots: σ the model's, ρ the evaluator's; B: what stood when the def began -/
structure Rel (K : PySem.W.Frag) (F0 B : Hp) (ρ : En) (σ : L2.St) (F H : Hp) : Prop where
  le : Same F H
  len : ρ.length = σ.length
  val : ∀ (i : Nat) (v : PV), ρ[i]? = some (Sl.val v) → ∃ x, σ[i]? = some (some x) ∧ Dp K F x v
  own : ∀ (i : Nat) (o : Oc), ρ[i]? = some (Sl.obj o) → ∃ a h, σ[i]? = some (some (.ref a)) ∧ H a = some h ∧ F a = none ∧ B a = none ∧ Shp K F o h
  dj : ∀ (i j : Nat) (o p : Oc) (a : Addr), ρ[i]? = some (Sl.obj o) → ρ[j]? = some (Sl.obj p) → σ[i]? = some (some (.ref a)) → σ[j]? = some (some (.ref a)) → i = j
  go : Step F0 B F H
variable {F0 B : Hp} {ρ : En} {σ : L2.St}
theorem Rel.step (R : Rel K F0 B ρ σ F H) {F' H' : Hp} (s : Step F H F' H') : Rel K F0 B ρ σ F' H' where
  le := s.le
  len := R.len
  val := fun i v e => let ⟨x, h1, h2⟩ := R.val i v e; ⟨x, h1, dp_mono s.f h2⟩
  own := fun i ds e => let ⟨a, vs, h1, h2, h3, h4, h5⟩ := R.own i ds e; ⟨a, vs, h1, s.h _ _ h2, s.nw _ _ h2 h3, h4, h5.mono s.f⟩
  dj := R.dj
  go := R.go.trans s
theorem Rel.ownL (R : Rel K F0 B ρ σ F H) (i : Nat) (ds : List PV) (e : ρ[i]? = some (Sl.own ds)) : ∃ a vs, σ[i]? = some (some (.ref a)) ∧ H a = some (.lst vs) ∧ F a = none ∧ B a = none ∧ DpAll K F vs ds := by
  obtain ⟨a, h, h1, h2, h3, h4, vs, rfl, h5⟩ := R.own i _ e
  exact ⟨a, vs, h1, h2, h3, h4, h5⟩
theorem Rel.ownD (R : Rel K F0 B ρ σ F H) (i : Nat) (kvs : List (L2.Key × PV)) (e : ρ[i]? = some (Sl.dic kvs)) : ∃ a r, σ[i]? = some (some (.ref a)) ∧ H a = some (.dK r) ∧ F a = none ∧ B a = none ∧ DpKv K F r kvs := by
  obtain ⟨a, h, h1, h2, h3, h4, r, rfl, h5⟩ := R.own i _ e
  exact ⟨a, r, h1, h2, h3, h4, h5⟩
theorem Rel.slotR (R : Rel K F0 B ρ σ F H) {i : Nat} {d : PV} (e : slotR ρ i = some d) : ∃ x, σ[i]? = some (some x) ∧ Bor K F H x d := by
  unfold Pz.slotR at e
  split at e
  · rename_i ds h
    cases e
    obtain ⟨a, vs, h1, h2, h3, h4, h5⟩ := R.ownL i ds h
    exact ⟨.ref a, h1, .inr ⟨a, vs, ds, rfl, rfl, h2, h5⟩⟩
  · rename_i v h
    cases e
    obtain ⟨x, h1, h2⟩ := R.val i _ h
    exact ⟨x, h1, .inl h2⟩
  · cases e
theorem sl_get_set {ρ : En} {i j : Nat} {s : Sl} (h : i < ρ.length) : (ρ.set i s)[j]? = if j = i then some s else ρ[j]? := by
  by_cases e : j = i
  · subst e; rw [if_pos rfl, List.getElem?_set_self h]
  · rw [if_neg e, List.getElem?_set_ne (Ne.symm e)]
theorem st_get_set {σ : L2.St} {i j : Nat} {s : Option V} (h : i < σ.length) : (σ.set i s)[j]? = if j = i then some s else σ[j]? := by
  by_cases e : j = i
  · subst e; rw [if_pos rfl, List.getElem?_set_self h]
  · rw [if_neg e, List.getElem?_set_ne (Ne.symm e)]
theorem set_out {α : Type} {l : List α} {i : Nat} {x : α} (h : ¬ i < l.length) : l.set i x = l := List.set_eq_of_length_le (by omega)
/-- a value is stored -/
theorem Rel.setV (R : Rel K F0 B ρ σ F H) {i : Nat} {x : V} {d : PV} (h : Dp K F x d) : Rel K F0 B (ρ.set i (.val d)) (σ.set i (some x)) F H := by
  by_cases hi : i < ρ.length
  · have hj : i < σ.length := by rw [← R.len]; exact hi
    refine ⟨R.le, by simp [R.len], fun j v e => ?_, fun j ds e => ?_, fun j k ds es a e1 e2 e3 e4 => ?_, R.go⟩
    · rw [sl_get_set hi] at e
      rw [st_get_set hj]
      by_cases q : j = i
      · rw [if_pos q] at e ⊢; cases e; exact ⟨x, rfl, h⟩
      · rw [if_neg q] at e ⊢; exact R.val j v e
    · rw [sl_get_set hi] at e
      rw [st_get_set hj]
      by_cases q : j = i
      · rw [if_pos q] at e; cases e
      · rw [if_neg q] at e ⊢; exact R.own j ds e
    · rw [sl_get_set hi] at e1 e2
      rw [st_get_set hj] at e3 e4
      by_cases q : j = i
      · rw [if_pos q] at e1; cases e1
      · by_cases q2 : k = i
        · rw [if_pos q2] at e2; cases e2
        · rw [if_neg q] at e1 e3
          rw [if_neg q2] at e2 e4
          exact R.dj j k ds es a e1 e2 e3 e4
  · have hj : ¬ i < σ.length := by rw [← R.len]; exact hi
    rw [set_out hi, set_out hj]; exact R
/-- a list of one's own is stored -/
theorem Rel.setObj (R : Rel K F0 B ρ σ F H) {i : Nat} {a : Addr} {vs : HO} {ds : Oc} (h1 : H a = some vs) (h2 : F a = none) (h3 : B a = none) (h4 : Shp K F ds vs)
    (ap : ∀ (j : Nat) (es : Oc) (b : Addr), j ≠ i → ρ[j]? = some (Sl.obj es) → σ[j]? = some (some (.ref b)) → b ≠ a) : Rel K F0 B (ρ.set i (.obj ds)) (σ.set i (some (.ref a))) F H := by
  by_cases hi : i < ρ.length
  · have hj : i < σ.length := by rw [← R.len]; exact hi
    refine ⟨R.le, by simp [R.len], fun j v e => ?_, fun j ds e => ?_, fun j k ds es b e1 e2 e3 e4 => ?_, R.go⟩
    · rw [sl_get_set hi] at e
      rw [st_get_set hj]
      by_cases q : j = i
      · rw [if_pos q] at e; cases e
      · rw [if_neg q] at e ⊢; exact R.val j v e
    · rw [sl_get_set hi] at e
      rw [st_get_set hj]
      by_cases q : j = i
      · rw [if_pos q] at e ⊢; cases e; exact ⟨a, vs, rfl, h1, h2, h3, h4⟩
      · rw [if_neg q] at e ⊢; exact R.own j ds e
    · rw [sl_get_set hi] at e1 e2
      rw [st_get_set hj] at e3 e4
      by_cases q : j = i
      · by_cases q2 : k = i
        · omega
        · rw [if_pos q] at e3; cases e3
          rw [if_neg q2] at e2 e4
          exact absurd rfl (ap k es _ q2 e2 e4)
      · by_cases q2 : k = i
        · rw [if_pos q2] at e4; cases e4
          rw [if_neg q] at e1 e3
          exact absurd rfl (ap j ds _ q e1 e3)
        · rw [if_neg q] at e1 e3
          rw [if_neg q2] at e2 e4
          exact R.dj j k ds es b e1 e2 e3 e4
  · have hj : ¬ i < σ.length := by rw [← R.len]; exact hi
    rw [set_out hi, set_out hj]; exact R
theorem Rel.setO (R : Rel K F0 B ρ σ F H) {i : Nat} {a : Addr} {vs : List V} {ds : List PV} (h1 : H a = some (.lst vs)) (h2 : F a = none) (h3 : B a = none) (h4 : DpAll K F vs ds)
    (ap : ∀ (j : Nat) (es : Oc) (b : Addr), j ≠ i → ρ[j]? = some (Sl.obj es) → σ[j]? = some (some (.ref b)) → b ≠ a) : Rel K F0 B (ρ.set i (.own ds)) (σ.set i (some (.ref a))) F H :=
  R.setObj h1 h2 h3 ⟨vs, rfl, h4⟩ ap
/-- nothing is told of a name -/
theorem Rel.forget (R : Rel K F0 B ρ σ F H) (i : Nat) : Rel K F0 B (ρ.set i .no) σ F H := by
  by_cases hi : i < ρ.length
  · refine ⟨R.le, by simp [R.len], fun j v e => ?_, fun j ds e => ?_, fun j k ds es b e1 e2 e3 e4 => ?_, R.go⟩
    · rw [sl_get_set hi] at e
      by_cases q : j = i
      · rw [if_pos q] at e; cases e
      · rw [if_neg q] at e; exact R.val j v e
    · rw [sl_get_set hi] at e
      by_cases q : j = i
      · rw [if_pos q] at e; cases e
      · rw [if_neg q] at e; exact R.own j ds e
    · rw [sl_get_set hi] at e1 e2
      by_cases q : j = i
      · rw [if_pos q] at e1; cases e1
      · by_cases q2 : k = i
        · rw [if_pos q2] at e2; cases e2
        · rw [if_neg q] at e1
          rw [if_neg q2] at e2
          exact R.dj j k ds es b e1 e2 e3 e4
  · rw [set_out hi]; exact R
theorem Rel.wipe (R : Rel K F0 B ρ σ F H) : ∀ vs : List Nat, Rel K F0 B (wipeS ρ vs) (wipe σ vs) F H
  | [] => R
  | i :: r => by
    have R1 := (R.wipe r).forget i
    unfold wipeS L2.wipe
    generalize wipeS ρ r = ρ1 at R1 ⊢
    generalize L2.wipe σ r = σ1 at R1 ⊢
    by_cases hi : i < ρ1.length
    · have hj : i < σ1.length := by rw [← R1.len, List.length_set]; exact hi
      refine ⟨R1.le, by have := R1.len; simp only [List.length_set] at this ⊢; exact this, fun j v e => ?_, fun j ds e => ?_, fun j k ds es b e1 e2 e3 e4 => ?_, R1.go⟩
      · obtain ⟨x, h1, h2⟩ := R1.val j v e
        rw [sl_get_set hi] at e
        rw [st_get_set hj]
        by_cases q : j = i
        · rw [if_pos q] at e; cases e
        · rw [if_neg q]; exact ⟨x, h1, h2⟩
      · obtain ⟨a, vs, h1, h2⟩ := R1.own j ds e
        rw [sl_get_set hi] at e
        rw [st_get_set hj]
        by_cases q : j = i
        · rw [if_pos q] at e; cases e
        · rw [if_neg q]; exact ⟨a, vs, h1, h2⟩
      · rw [st_get_set hj] at e3 e4
        by_cases q : j = i
        · rw [if_pos q] at e3; cases e3
        · by_cases q2 : k = i
          · rw [if_pos q2] at e4; cases e4
          · rw [if_neg q] at e3; rw [if_neg q2] at e4
            exact R1.dj j k ds es b e1 e2 e3 e4
    · have hj : ¬ i < σ1.length := by rw [← R1.len, List.length_set]; exact hi
      rw [set_out hj]; exact R1
/-- a list of one's own becomes a value -/
theorem Rel.frz (R : Rel K F0 B ρ σ F H) {i : Nat} {ds : List PV} (e : ρ[i]? = some (Sl.own ds)) : ∃ F', Same F F' ∧ Rel K F0 B (ρ.set i (.val (.list ds))) σ F' H := by
  obtain ⟨a, vs, h1, h2, h3, h4, h5⟩ := R.ownL i ds e
  have sm : Same F (upd F a (.lst vs)) := same_new h3
  have hi : i < ρ.length := (List.getElem?_eq_some_iff.mp e).1
  have le' : Same (upd F a (.lst vs)) H := fun b x q => by
    by_cases hb : b = a
    · subst hb; rw [upd_same] at q; cases q; exact h2
    · rw [upd_ne hb] at q; exact R.le _ _ q
  have keep : ∀ (j : Nat) (es : Oc) (b : Addr) (ws : HO), j ≠ i → ρ[j]? = some (Sl.obj es) → σ[j]? = some (some (.ref b)) → H b = some ws → F b = none → upd F a (.lst vs) b = none := fun j es b ws hj q1 q2 q3 q4 => by
    have : b ≠ a := fun z => by subst z; exact hj (R.dj j i es _ b q1 e q2 h1)
    rw [upd_ne this]; exact q4
  refine ⟨upd F a (.lst vs), sm, le', by simp [R.len], fun j v q => ?_, fun j es q => ?_, fun j k es es' b e1 e2 e3 e4 => ?_, R.go.h, R.go.f.trans sm, le', fun b o q n => ?_⟩
  · rw [sl_get_set hi] at q
    by_cases hj : j = i
    · rw [if_pos hj] at q; cases q
      rw [hj]
      exact ⟨_, h1, .lst (SqL.of upd_same) (dpAll_mono sm h5)⟩
    · rw [if_neg hj] at q
      obtain ⟨x, q1, q2⟩ := R.val j v q
      exact ⟨x, q1, dp_mono sm q2⟩
  · rw [sl_get_set hi] at q
    by_cases hj : j = i
    · rw [if_pos hj] at q; cases q
    · rw [if_neg hj] at q
      obtain ⟨b, ws, q1, q2, q3, q4, q5⟩ := R.own j es q
      exact ⟨b, ws, q1, q2, keep j es b ws hj q q1 q2 q3, q4, q5.mono sm⟩
  · rw [sl_get_set hi] at e1 e2
    by_cases q : j = i
    · rw [if_pos q] at e1; cases e1
    · by_cases q2 : k = i
      · rw [if_pos q2] at e2; cases e2
      · rw [if_neg q] at e1
        rw [if_neg q2] at e2
        exact R.dj j k es es' b e1 e2 e3 e4
  · have : b ≠ a := fun z => by subst z; rw [q] at h4; cases h4
    rw [upd_ne this]; exact R.go.nw b o q n
end
end Pz
set_option Elab.async false
set_option linter.all false
set_option maxRecDepth 100000
set_option maxHeartbeats 1000000
namespace Pz
open PySem PySem.Spec PyProof.Rows L2
section
variable {prog : Program} {w : World} {A : Around} {E : Value → Shared → Prop} {s : Shared}
theorem list_add_any (l : Addr) (items : Array Value) (n : Nat) (b : Addr) (items2 : Array Value) (n2 : Nat) (sl sl2 : Array (Option Value)) (hc0 : items.size + items2.size ≤ sizeLine) :
    Meets (Builtin.«list.__add__» ⟨[.ref l, .ref b], []⟩) (fun _ R s => s.heap.get? l = some ⟨.type "list", none, .seq items n, sl⟩ ∧ s.heap.get? b = some ⟨.type "list", none, .seq items2 n2, sl2⟩ ∧
      R (.ok (.ret (Value.ref s.heap.objs.size))) { s with heap := s.heap.push { cls := Value.type "list", data := Data.seq (items ++ items2) }, toks := s.toks }) :=
  .of_wp fun prog w A R s h => by
    obtain ⟨hp, g, d, tk, os⟩ := s
    obtain ⟨hl, hb, h⟩ := h
    have g1 := AutoSeq1.sub_list_list
    wp_walk using AutoSeq1.wpAny_loadPart' hl, AutoSeq1.wpAny_loadPart' hb
    exact ⟨_, rfl, h⟩
theorem opcat {X : Cx} : OpR X (binaryOp .Add) (fun x y H Q => ∃ l b xs zs, x = .ref l ∧ y = .ref b ∧ SqL X.K H l xs ∧ SqL X.K H b zs ∧ xs.length + zs.length ≤ sizeLine ∧ ∀ p, H p = none → Q (.ref p) (upd H p (.lst (xs ++ zs)))) := by
  intro pins s σ H x y v u Q I rx ry h
  obtain ⟨l, b, xs, zs, rfl, rfl, hH, hB, hz, q⟩ := h
  cases rx
  cases ry
  obtain ⟨its, r, ⟨⟨c1, d1, t1, sl1⟩, n1, e1, k1, k2, k3⟩, _⟩ := I.list hH
  obtain ⟨its2, r2, ⟨⟨c2, d2, t2, sl2⟩, n2, e2, j1, j2, j3⟩, _⟩ := I.list hB
  simp only at k1 k2 k3 j1 j2 j3
  subst k1 k2 k3 j1 j2 j3
  have hsz : its.toArray.size + its2.toArray.size ≤ sizeLine := by
    rw [List.size_toArray, List.size_toArray, ← r.length, ← r2.length]; exact hz
  refine PySem.concat_meets ⟨_, e1, rfl⟩ ⟨_, e2, rfl⟩ noFill_list_add seq_list_add F.slot_list_add F.entry_list_add (F.args_list_add_2 _ _) (list_add_any l _ n1 b _ n2 sl1 sl2 hsz) ⟨e1, e2, ?_⟩
  have ea : its.toArray ++ its2.toArray = (its ++ its2).toArray := by simp
  rw [ea]
  exact ⟨.ref _, _, I.lnew (t' := s.toks) (r.append r2) (by rw [List.length_append]; exact hz), rfl, q _ I.fresh⟩
end
end Pz
set_option Elab.async false
set_option linter.all false
set_option maxRecDepth 100000
set_option maxHeartbeats 4000000
/-! Pz: a list or a tuple so many times. -/
namespace Pz
open PySem PySem.Spec PyProof.Rows L2
theorem int_rmul_any (a : Int) (t : Tok) (l : Addr) (items : Array Value) (n : Nat) (dd : Option Addr) (sl : Array (Option Value)) :
    Meets (Builtin.«int.__rmul__» ⟨[.int a t, .ref l], []⟩) (fun _ R s => s.heap.get? l = some { cls := .type "list", dict := dd, data := .seq items n, slots := sl } ∧ R (.ok (.ret Value.notImplemented)) s) :=
  .of_wp fun prog w A R s h => by obtain ⟨hp, g, d, tk, os⟩ := s; obtain ⟨hl, h⟩ := h; wp_walk using AutoSeq1.wpAny_loadPart' hl; exact ⟨_, rfl, h⟩
theorem list_mul_any (l : Addr) (items : Array Value) (n : Nat) (x : Int) (u : Tok) (dd : Option Addr) (sl : Array (Option Value)) (hc0 : ¬(!Builtin.List.listFitsIndex x) = true) (hc1 : ¬items.size * x.toNat > (2 ^ 63 - 1) / 8) (hc2 : ¬Builtin.List.listTooLong (items.size * x.toNat) = true) :
    Meets (Builtin.«list.__mul__» ⟨[.ref l, .int x u], []⟩) (fun _ R s => s.heap.get? l = some { cls := .type "list", dict := dd, data := .seq items n, slots := sl } ∧ R (.ok (.ret (Value.ref s.heap.objs.size))) { s with heap := s.heap.push { cls := Value.type "list", data := Data.seq (List.foldl (fun x1 x2 => x1 ++ x2) #[] (List.replicate (if items.isEmpty = true then 0 else x.toNat) items)) }, toks := s.toks }) :=
  .of_wp fun prog w A R s h => by
    obtain ⟨hp, g, d, tk, os⟩ := s; obtain ⟨hl, h⟩ := h
    have hsz := AutoListH.joined_fits hc2
    wp_walk using AutoSeq1.wpAny_loadPart' hl; refine wpAny_ite_false (decide_eq_false (Nat.not_lt.mpr hsz)) ?_; wp_walk; exact ⟨_, rfl, h⟩
theorem oprepL {X : Cx} : OpR X (binaryOp .Mult) (fun x y H Q => ∃ l k xs, x = .ref l ∧ y = .int k ∧ SqL X.K H l xs ∧ 0 ≤ k ∧ k ≤ 1000 ∧ xs.length ≤ 1000 ∧ ∀ p, H p = none → Q (.ref p) (upd H p (.lst (List.replicate k.toNat xs).flatten))) := by
  intro pins s σ H x y v u Q I rx ry h
  obtain ⟨l, k, xs, rfl, rfl, hH, h1, h2, hz0, q⟩ := h
  cases rx
  obtain ⟨t, rfl⟩ := ry
  obtain ⟨its, r, ⟨⟨c1, d1, t1, sl1⟩, n, e, k1, k2, k3⟩, _⟩ := I.list hH
  simp only at k1 k2 k3
  subst k1 k2 k3
  have hl := r.length
  have hz : xs.length * k.toNat ≤ sizeLine := by
    have a1 : xs.length * k.toNat ≤ 1000 * 1000 := Nat.mul_le_mul hz0 (by omega)
    rw [sizeLine_eq]; omega
  have hlen : its.toArray.size * k.toNat ≤ sizeLine := by rw [List.size_toArray, ← hl]; exact hz
  have hcap : ¬ its.toArray.size * k.toNat > (2 ^ 63 - 1) / 8 := by
    have : (sizeLine : Nat) ≤ (2 ^ 63 - 1) / 8 := by decide
    omega
  have hfit : ¬ (!Builtin.List.listFitsIndex k) = true := by
    rw [fitsIndex_both (by omega) (by omega)]
    exact Bool.false_ne_true
  have hlong : ¬ Builtin.List.listTooLong (its.toArray.size * k.toNat) = true := by
    rw [notLongL hlen]
    exact Bool.false_ne_true
  have hnew : List.foldl (fun x1 x2 => x1 ++ x2) #[] (List.replicate (if its.toArray.isEmpty = true then 0 else k.toNat) its.toArray) = (List.replicate k.toNat its).flatten.toArray := by
    have f0 : ∀ m : Nat, List.foldl (fun x1 x2 => x1 ++ x2) #[] (List.replicate m its.toArray) = (List.replicate m its).flatten.toArray := fun m => by
      have := foldl_rep its m []
      rw [List.nil_append] at this
      exact this
    rw [f0]
    cases its with
    | nil => simp
    | cons a r' => rw [if_neg (by simp)]
  refine wpAny_binaryOp_repeat_ref (T := "list") (U := "int") (by decide) ⟨_, e, rfl⟩ (fun s' => typeIs_int s' k t) noFill_list_mul F.fills_int_mul F.slot_int_rmul repeat_list F.slot_int_index.lookup
    (call_meets F.slot_int_rmul (typeIs_int s k t) F.entry_int_rmul (F.args_int_rmul_2 _ _) (int_rmul_any k t l its.toArray n _ sl1)
      ⟨e, rfl, ⟨_, e, rfl⟩, call_meets F.slot_list_mul ⟨_, e, rfl⟩ F.entry_list_mul (F.args_list_mul_2 _ _) (list_mul_any l its.toArray n k t _ sl1 hfit hcap hlong) ⟨e, ?_⟩⟩)
  rw [hnew]
  exact ⟨.ref _, _, I.lnew (t' := s.toks) (r.rep k.toNat) (by rw [PyProof.Rows.lm_len_rep_flat, Nat.mul_comm]; exact hz), rfl, q _ I.fresh⟩
theorem tuple_mul1 (l : Addr) (items : Array Value) (n : Nat) (dd : Option Addr) (sl : Array (Option Value)) (u : Tok) :
    Meets (Builtin.«tuple.__mul__» ⟨[.ref l, .int 1 u], []⟩) (fun _ R s => s.heap.get? l = some { cls := .type "tuple", dict := dd, data := .seq items n, slots := sl } ∧ R (.ok (.ret (Value.ref l))) s) :=
  .of_wp fun prog w A R s h => by
    obtain ⟨hp, g, d, tk, os⟩ := s
    obtain ⟨hl, h⟩ := h
    have f1 := AutoSeq1.idx_int
    have c1 : (items.isEmpty || (1 : Int) == 1) = true := by cases items.isEmpty <;> rfl
    wp_walk using wpAny_loadPart' hl
    exact ⟨_, rfl, h⟩
theorem op_repT1 {X : Cx} : OpR X (binaryOp .Mult) (fun x y H Q => ∃ l xs, x = .ref l ∧ y = .int 1 ∧ SqT X.K H l xs ∧ Q (.ref l) H) := by
  intro pins s σ H x y v u Q I rx ry h
  obtain ⟨l, xs, rfl, rfl, hT, q⟩ := h
  cases rx
  obtain ⟨t, rfl⟩ := ry
  obtain ⟨its, r, ⟨⟨cls, dd, data, sl⟩, ho, hc, n, hd⟩, hs⟩ := I.tuple hT
  simp only at hc hd
  subst hc hd
  refine wpAny_binaryOp_repeat_ref (T := "tuple") (U := "int") (by decide) ⟨_, ho, rfl⟩ (fun s' => typeIs_int s' 1 t) noFill_tuple_mul F.fills_int_mul F.slot_int_rmul repeat_tuple F.slot_int_index.lookup
    (call_meets F.slot_int_rmul (typeIs_int s 1 t) F.entry_int_rmul (F.args_int_rmul_2 _ _) (int_rmul_tuple 1 t l its.toArray n dd sl)
      ⟨ho, rfl, ⟨_, ho, rfl⟩, call_meets F.slot_tuple_mul ⟨_, ho, rfl⟩ F.entry_tuple_mul (F.args_tuple_mul_2 _ _) (tuple_mul1 l its.toArray n dd sl t) ⟨ho, ?_⟩⟩)
  exact ⟨.ref l, H, I, rfl, q⟩
end Pz
set_option Elab.async false
set_option linter.all false
set_option maxRecDepth 100000
set_option maxHeartbeats 1000000
/-! Pz: rules of operators and built-ins over data of any depth. -/
namespace Pz
open PySem PySem.Spec PyProof.Rows L2
open PySem.W (alike dataLt minD maxD dataLe)

theorem okD_plain {d : PV} (h : okD d = true) : d.plain = true := (Bool.and_eq_true_iff.mp h).1
theorem okD_depth {d : PV} (h : okD d = true) : d.depth ≤ 60 := of_decide_eq_true (Bool.and_eq_true_iff.mp h).2
theorem okL_plain {d : List PV} (h : okL d = true) : PyData.plainAll d = true := (Bool.and_eq_true_iff.mp h).1
theorem okL_depth {d : List PV} (h : okL d = true) : PyData.depthAll d ≤ 60 := of_decide_eq_true (Bool.and_eq_true_iff.mp h).2
theorem isNone_ne {d : PV} (h : isNone d = false) : d ≠ .none := by rintro rfl; cases h

section
variable {X : Cx}
def rData (f : PV → PV → Option Bool) (K : PySem.W.Frag) : R2 := fun x y H Q => ∃ d e k, Dp K H x d ∧ Dp K H y e ∧ f d e = some k ∧ Q (.bl k) H
theorem op_eqP (hu : X.A.units + 100 < cLine) : OpR X (compareOp .Eq) (rData peq X.K) := by
  intro pins s σ H x y v u Q I rx ry ⟨d, e, k, hd, he, hk, q⟩
  obtain ⟨as, r1⟩ := Dp.reads I d x v hd rx
  obtain ⟨bs, r2⟩ := Dp.reads I e y u he ry
  unfold peq at hk
  split at hk
  · rename_i h
    obtain ⟨h1, h2⟩ := Bool.and_eq_true_iff.mp h
    cases hk
    have := okD_depth h1
    have := okD_depth h2
    exact PySem.SeqAt.eq_plain r1 r2 (okD_plain h1) (okD_plain h2) (by omega) ⟨.bl _, H, I, rfl, q⟩
  · cases hk
theorem op_neP (hu : X.A.units + 100 < cLine) : OpR X (compareOp .NotEq) (rData (fun x y => (peq x y).map (!·)) X.K) := by
  intro pins s σ H x y v u Q I rx ry ⟨d, e, k, hd, he, hk, q⟩
  obtain ⟨as, r1⟩ := Dp.reads I d x v hd rx
  obtain ⟨bs, r2⟩ := Dp.reads I e y u he ry
  obtain ⟨c, hk', hc⟩ := Option.map_eq_some_iff.mp hk
  clear hk
  subst hc
  have hk := hk'
  unfold peq at hk
  split at hk
  · rename_i h
    obtain ⟨h1, h2⟩ := Bool.and_eq_true_iff.mp h
    cases hk
    have := okD_depth h1
    have := okD_depth h2
    exact PySem.SeqAt.ne_plain r1 r2 (okD_plain h1) (okD_plain h2) (by omega) ⟨.bl _, H, I, rfl, q⟩
  · cases hk
theorem plt_some {x y : PV} {k : Bool} (h : plt x y = some k) : okD x = true ∧ okD y = true ∧ alike x y = true ∧ x ≠ .none ∧ k = dataLt x y := by
  unfold plt at h
  split at h
  · rename_i q
    simp only [Bool.and_eq_true, Bool.not_eq_true'] at q
    cases h
    exact ⟨q.1.1.1, q.1.1.2, q.1.2, isNone_ne q.2, rfl⟩
  · cases h
theorem op_ltP (hu : X.A.units + 100 < cLine) : OpR X (compareOp .Lt) (rData (evCmp .lt) X.K) := by
  intro pins s σ H x y v u Q I rx ry ⟨d, e, k, hd, he, hk, q⟩
  unfold evCmp at hk
  dsimp only at hk
  split at hk
  · cases hk; cases hd; cases he
    exact op_lt pins s σ H _ _ v u Q I rx ry ⟨_, _, rfl, rfl, q⟩
  · obtain ⟨as, r1⟩ := Dp.reads I d x v hd rx
    obtain ⟨bs, r2⟩ := Dp.reads I e y u he ry
    obtain ⟨h1, h2, h3, h4, rfl⟩ := plt_some hk
    have := okD_depth h1
    have := okD_depth h2
    exact PySem.W.lt_data r1 r2 h3 h4 (by omega) ⟨.bl _, H, I, rfl, q⟩
theorem op_leP (hu : X.A.units + 100 < cLine) : OpR X (compareOp .LtE) (rData (evCmp .le) X.K) := by
  intro pins s σ H x y v u Q I rx ry ⟨d, e, k, hd, he, hk, q⟩
  unfold evCmp at hk
  dsimp only at hk
  split at hk
  · cases hk; cases hd; cases he
    exact op_le pins s σ H _ _ v u Q I rx ry ⟨_, _, rfl, rfl, q⟩
  · obtain ⟨as, r1⟩ := Dp.reads I d x v hd rx
    obtain ⟨bs, r2⟩ := Dp.reads I e y u he ry
    obtain ⟨c, hc, rfl⟩ := Option.map_eq_some_iff.mp hk
    obtain ⟨h1, h2, h3, h4, rfl⟩ := plt_some hc
    have h5 : alike d e = true := by rw [PySem.W.alike_comm]; exact h3
    have := okD_depth h1
    have := okD_depth h2
    exact PySem.W.le_data r1 r2 h5 (PySem.W.ne_none_both h3 h4) (by omega) ⟨.bl _, H, I, rfl, q⟩
theorem op_gtP (hu : X.A.units + 100 < cLine) : OpR X (compareOp .Gt) (rData (evCmp .gt) X.K) := by
  intro pins s σ H x y v u Q I rx ry ⟨d, e, k, hd, he, hk, q⟩
  unfold evCmp at hk
  dsimp only at hk
  split at hk
  · cases hk; cases hd; cases he
    exact op_gt pins s σ H _ _ v u Q I rx ry ⟨_, _, rfl, rfl, q⟩
  · obtain ⟨as, r1⟩ := Dp.reads I d x v hd rx
    obtain ⟨bs, r2⟩ := Dp.reads I e y u he ry
    obtain ⟨h1, h2, h3, h4, rfl⟩ := plt_some hk
    have h5 : alike d e = true := by rw [PySem.W.alike_comm]; exact h3
    have := okD_depth h1
    have := okD_depth h2
    exact PySem.W.gt_data r1 r2 h5 (PySem.W.ne_none_both h3 h4) (by omega) ⟨.bl _, H, I, rfl, q⟩
theorem op_geP (hu : X.A.units + 100 < cLine) : OpR X (compareOp .GtE) (rData (evCmp .ge) X.K) := by
  intro pins s σ H x y v u Q I rx ry ⟨d, e, k, hd, he, hk, q⟩
  unfold evCmp at hk
  dsimp only at hk
  split at hk
  · cases hk; cases hd; cases he
    exact op_ge pins s σ H _ _ v u Q I rx ry ⟨_, _, rfl, rfl, q⟩
  · obtain ⟨as, r1⟩ := Dp.reads I d x v hd rx
    obtain ⟨bs, r2⟩ := Dp.reads I e y u he ry
    obtain ⟨c, hc, rfl⟩ := Option.map_eq_some_iff.mp hk
    obtain ⟨h1, h2, h3, h4, rfl⟩ := plt_some hc
    have := okD_depth h1
    have := okD_depth h2
    exact PySem.W.ge_data r1 r2 h3 h4 (by omega) ⟨.bl _, H, I, rfl, q⟩
theorem op_inP (hu : X.A.units + 100 < cLine) : OpR X (compareOp .In) (rData pin X.K) := by
  intro pins s σ H x y v u Q I rx ry ⟨d, e, k, hd, he, hk, q⟩
  obtain ⟨as, r1⟩ := Dp.reads I d x v hd rx
  obtain ⟨bs, r2⟩ := Dp.reads I e y u he ry
  unfold pin at hk
  cases e with
  | list xs =>
    have hk : (if okD d && okL xs then some (xs.any fun z => PyData.eqv z d) else none) = some k := hk
    split at hk
    · rename_i h
      obtain ⟨h1, h2⟩ := Bool.and_eq_true_iff.mp h
      cases hk
      have := okD_depth h1
      exact PySem.SeqAt.in_list_data r2 r1 (okL_plain h2) (okD_plain h1) (by omega) ⟨.bl _, H, I, rfl, q⟩
    · cases hk
  | tuple xs =>
    have hk : (if okD d && okL xs then some (xs.any fun z => PyData.eqv z d) else none) = some k := hk
    split at hk
    · rename_i h
      obtain ⟨h1, h2⟩ := Bool.and_eq_true_iff.mp h
      cases hk
      have := okD_depth h1
      exact PySem.SeqAt.in_tuple_data r2 r1 (okL_plain h2) (okD_plain h1) (by omega) ⟨.bl _, H, I, rfl, q⟩
    · cases hk
  | none => cases hk
  | bool b => cases hk
  | int i => cases hk
  | str x => cases hk
  | dict kvs => cases hk
theorem op_ninP (hu : X.A.units + 100 < cLine) : OpR X (compareOp .NotIn) (rData (fun x y => (pin x y).map (!·)) X.K) := by
  intro pins s σ H x y v u Q I rx ry ⟨d, e, k, hd, he, hk, q⟩
  obtain ⟨as, r1⟩ := Dp.reads I d x v hd rx
  obtain ⟨bs, r2⟩ := Dp.reads I e y u he ry
  obtain ⟨c, hk', hc⟩ := Option.map_eq_some_iff.mp hk
  clear hk
  subst hc
  have hk := hk'
  unfold pin at hk
  cases e with
  | list xs =>
    have hk : (if okD d && okL xs then some (xs.any fun z => PyData.eqv z d) else none) = some c := hk
    split at hk
    · rename_i h
      obtain ⟨h1, h2⟩ := Bool.and_eq_true_iff.mp h
      cases hk
      have := okD_depth h1
      exact PySem.SeqAt.notIn_list_data r2 r1 (okL_plain h2) (okD_plain h1) (by omega) ⟨.bl _, H, I, rfl, q⟩
    · cases hk
  | tuple xs =>
    have hk : (if okD d && okL xs then some (xs.any fun z => PyData.eqv z d) else none) = some c := hk
    split at hk
    · rename_i h
      obtain ⟨h1, h2⟩ := Bool.and_eq_true_iff.mp h
      cases hk
      have := okD_depth h1
      exact PySem.SeqAt.notIn_tuple_data r2 r1 (okL_plain h2) (okD_plain h1) (by omega) ⟨.bl _, H, I, rfl, q⟩
    · cases hk
  | none => cases hk
  | bool b => cases hk
  | int i => cases hk
  | str x => cases hk
  | dict kvs => cases hk
/-- any comparison -/
theorem op_cmP (hu : X.A.units + 100 < cLine) (o : Cm) : OpR X (compareOp (cmOp o)) (rData (evCmp o) X.K) := by
  cases o with
  | eq => exact op_eqP hu
  | ne => exact op_neP hu
  | lt => exact op_ltP hu
  | le => exact op_leP hu
  | gt => exact op_gtP hu
  | ge => exact op_geP hu
  | isIn => exact op_inP hu
  | notIn => exact op_ninP hu

/-- the data of a list's items -/
theorem dp_readsAll {pins : List (Addr × Obj)} {σ : L2.St} {H : Hp} {s : Shared} (I : Inv X pins σ H s) {vs : List V} {ds : List PV} {us : List Value} (h : DpAll X.K H vs ds) (r : Vals vs us) : ∃ as, ReadsAll s.heap us ds as := Dp.readsAll I ds vs us h r

theorem alikeB_all {ds : List PV} (h : alikeB ds = true) : ∀ x ∈ ds, ∀ y ∈ ds, alike x y = true := fun x hx y hy => List.all_eq_true.mp (List.all_eq_true.mp h x hx) y hy
/-- min, max of a list: an item that reads as the least -/
theorem best_at {h : Heap} {us : List Value} {ds : List PV} {as : List Addr} (rs : ReadsAll h us ds as) (hp : PyData.plainAll ds = true) {i : Nat} {v : Value} {d : PV} {bs : List Addr} (e : us[i]? = some v) (r : Reads h v d bs) (hd : d.plain = true) : ds[i]? = some d := by
  obtain ⟨cs, r1, r2, r3, _⟩ := PySem.W.readsAll_at rs i v e
  have hx : (ds.getD i .none).plain = true := by
    have : ∀ {xs : List PV} (j : Nat), PyData.plainAll xs = true → j < xs.length → (xs.getD j .none).plain = true := by
      intro xs
      induction xs with
      | nil => intro j _ h; exact absurd h (Nat.not_lt_zero _)
      | cons x xs ih =>
        intro j h1 h2
        have h1 : (x.plain && PyData.plainAll xs) = true := h1
        obtain ⟨h3, h4⟩ := Bool.and_eq_true_iff.mp h1
        cases j with
        | zero => exact h3
        | succ j => exact ih j h4 (by simpa using h2)
    exact this i hp r2
  have := PySem.SeqAt.plain_unique _ _ _ _ _ hd r r1
  rw [this, List.getD_eq_getElem?_getD, List.getElem?_eq_getElem r2]
  rfl
theorem foldD_mem (f : PV → PV → Bool) (g : PV → PV → PV) (hg : ∀ a b, g a b = a ∨ g a b = b) : ∀ (xs : List PV) (x : PV), xs.foldl g x ∈ x :: xs
  | [], x => List.mem_cons_self
  | y :: r, x => by
    have := foldD_mem f g hg r (g x y)
    rw [List.foldl_cons]
    rcases List.mem_cons.mp this with e | e
    · rcases hg x y with q | q
      · rw [e, q]; exact List.mem_cons_self
      · rw [e, q]; exact List.mem_cons_of_mem _ List.mem_cons_self
    · exact List.mem_cons_of_mem _ (List.mem_cons_of_mem _ e)
theorem minD_mem (x : PV) (xs : List PV) : minD x xs ∈ x :: xs := foldD_mem (fun _ _ => true) _ (fun a b => by split <;> simp) xs x
theorem maxD_mem (x : PV) (xs : List PV) : maxD x xs ∈ x :: xs := foldD_mem (fun _ _ => true) _ (fun a b => by split <;> simp) xs x
theorem plain_mem {ds : List PV} (h : PyData.plainAll ds = true) : ∀ x ∈ ds, x.plain = true := by
  induction ds with
  | nil => intro x hx; cases hx
  | cons d r ih =>
    have h : (d.plain && PyData.plainAll r) = true := h
    obtain ⟨h3, h4⟩ := Bool.and_eq_true_iff.mp h
    intro x hx
    rcases List.mem_cons.mp hx with rfl | hx
    · exact h3
    · exact ih h4 x hx
theorem bestB_some {b : Bool} {ds : List PV} {d : PV} (h : bestB b ds = some d) : ∃ x r, ds = x :: r ∧ okL ds = true ∧ PySem.W.AlikeAll ds ∧ d = (if b then maxD x r else minD x r) := by
  unfold bestB at h
  split at h
  · cases h
  · split at h
    · rename_i x r q
      cases h
      simp only [Bool.and_eq_true] at q
      exact ⟨x, r, rfl, q.1.1, ⟨alikeB_all q.1.2, fun y hy => isNone_ne (by have := List.all_eq_true.mp q.2 y hy; simpa using this)⟩, rfl⟩
    · cases h
def rBest (K : PySem.W.Frag) (b : Bool) : List V → Hp → VK → Prop := fun xs H Q => ∃ (a : Addr) (vs : List V) (ds : List PV) (d : PV), xs = [.ref a] ∧ SqL K H a vs ∧ DpAll K H vs ds ∧ bestB b ds = some d ∧ ∀ (i : Nat) (v : V), vs[i]? = some v → ds[i]? = some d → Q v H
theorem vals_get {vs : List V} {us : List Value} (r : Vals vs us) {i : Nat} {u : Value} (e : us[i]? = some u) : ∃ v, vs[i]? = some v ∧ RelV v u := by
  cases q : vs[i]? with
  | none => rw [r.none_of q] at e; cases e
  | some v =>
    obtain ⟨u', e', rv⟩ := r.get q
    rw [e] at e'; cases e'
    exact ⟨v, rfl, rv⟩
theorem cr_min_d (hc : X.calm = true) (hu : X.A.units + 100 < cLine) : CallR X (.builtin "min") (rBest X.K false) := by
  intro pins s σ H xs us Q I r ⟨a, vs, ds, d, e, hl, hd, hb, q⟩
  subst e
  obtain ⟨u, rfl, ru⟩ := vals1 r
  cases (show u = Value.ref a from ru)
  obtain ⟨its, rv, p, hz⟩ := I.list hl
  obtain ⟨as, rs⟩ := dp_readsAll I hd rv
  obtain ⟨x, xr, rfl, h1, h2, rfl⟩ := bestB_some hb
  have hdep := okL_depth h1
  refine PySem.W.min_list_data (I.ok.hd hc) p.isList (by simpa using rs) h2 (by omega) fun i v h' tk bs hv rd kp => ?_
  have ei : (x :: xr)[i]? = some (minD x xr) := best_at (ReadsAll.keeps kp rs) (okL_plain h1) (by simpa using hv) rd (plain_mem (okL_plain h1) _ (minD_mem x xr))
  obtain ⟨w, ew, rw'⟩ := vals_get rv (i := i) (by simpa using hv)
  exact ⟨w, H, I.kept kp, rw', q i w ew ei⟩
theorem cr_max_d (hc : X.calm = true) (hu : X.A.units + 100 < cLine) : CallR X (.builtin "max") (rBest X.K true) := by
  intro pins s σ H xs us Q I r ⟨a, vs, ds, d, e, hl, hd, hb, q⟩
  subst e
  obtain ⟨u, rfl, ru⟩ := vals1 r
  cases (show u = Value.ref a from ru)
  obtain ⟨its, rv, p, hz⟩ := I.list hl
  obtain ⟨as, rs⟩ := dp_readsAll I hd rv
  obtain ⟨x, xr, rfl, h1, h2, rfl⟩ := bestB_some hb
  have hdep := okL_depth h1
  refine PySem.W.max_list_data (I.ok.hd hc) p.isList (by simpa using rs) h2 (by omega) fun i v h' tk bs hv rd kp => ?_
  have ei : (x :: xr)[i]? = some (maxD x xr) := best_at (ReadsAll.keeps kp rs) (okL_plain h1) (by simpa using hv) rd (plain_mem (okL_plain h1) _ (maxD_mem x xr))
  obtain ⟨w, ew, rw'⟩ := vals_get rv (i := i) (by simpa using hv)
  exact ⟨w, H, I.kept kp, rw', q i w ew ei⟩
/-- with default= -/
def rBestD (K : PySem.W.Frag) (b : Bool) : List V → List V → Hp → VK → Prop := fun xs zs H Q => ∃ (a : Addr) (vs : List V) (ds : List PV) (z : V), xs = [.ref a] ∧ zs = [z] ∧ SqL K H a vs ∧ DpAll K H vs ds ∧
  ((ds = [] ∧ Q z H) ∨ ∃ d, bestB b ds = some d ∧ ∀ (i : Nat) (v : V), vs[i]? = some v → ds[i]? = some d → Q v H)
theorem cr_minD (hc : X.calm = true) (hu : X.A.units + 100 < cLine) : CallRK X (.builtin "min") [Str.ofString "default"] (rBestD X.K false) := by
  intro pins s σ H xs zs us ws Q I r rz ⟨a, vs, ds, z, e, e2, hl, hd, hb⟩
  subst e e2
  obtain ⟨u, rfl, ru⟩ := vals1 r
  cases (show u = Value.ref a from ru)
  obtain ⟨w, rfl, rw1⟩ := vals1 rz
  obtain ⟨its, rv, p, hz⟩ := I.list hl
  obtain ⟨as, rs⟩ := dp_readsAll I hd rv
  rcases hb with ⟨rfl, q⟩ | ⟨d, hb, q⟩
  · exact PySem.W.min_list_default (xs := []) (I.ok.hd hc) p.isList (by simpa using rs) ⟨fun _ h => (by cases h), fun _ h => (by cases h)⟩ (by show X.A.units + 1 + 0 < cLine; omega) (fun _ h' tk kp => ⟨z, H, I.kept kp, rw1, q⟩) fun y ys i v h' tk bs e => (by cases e)
  · obtain ⟨x, xr, rfl, h1, h2, rfl⟩ := bestB_some hb
    have hdep := okL_depth h1
    refine PySem.W.min_list_default (I.ok.hd hc) p.isList (by simpa using rs) h2 (by omega) (fun e => (by cases e)) fun y ys i v h' tk bs e hv rd kp => ?_
    cases e
    have ei : (x :: xr)[i]? = some (minD x xr) := best_at (ReadsAll.keeps kp rs) (okL_plain h1) (by simpa using hv) rd (plain_mem (okL_plain h1) _ (minD_mem x xr))
    obtain ⟨w', ew, rw'⟩ := vals_get rv (i := i) (by simpa using hv)
    exact ⟨w', H, I.kept kp, rw', q i w' ew ei⟩
theorem cr_maxD (hc : X.calm = true) (hu : X.A.units + 100 < cLine) : CallRK X (.builtin "max") [Str.ofString "default"] (rBestD X.K true) := by
  intro pins s σ H xs zs us ws Q I r rz ⟨a, vs, ds, z, e, e2, hl, hd, hb⟩
  subst e e2
  obtain ⟨u, rfl, ru⟩ := vals1 r
  cases (show u = Value.ref a from ru)
  obtain ⟨w, rfl, rw1⟩ := vals1 rz
  obtain ⟨its, rv, p, hz⟩ := I.list hl
  obtain ⟨as, rs⟩ := dp_readsAll I hd rv
  rcases hb with ⟨rfl, q⟩ | ⟨d, hb, q⟩
  · exact PySem.W.max_list_default (xs := []) (I.ok.hd hc) p.isList (by simpa using rs) ⟨fun _ h => (by cases h), fun _ h => (by cases h)⟩ (by show X.A.units + 1 + 0 < cLine; omega) (fun _ h' tk kp => ⟨z, H, I.kept kp, rw1, q⟩) fun y ys i v h' tk bs e => (by cases e)
  · obtain ⟨x, xr, rfl, h1, h2, rfl⟩ := bestB_some hb
    have hdep := okL_depth h1
    refine PySem.W.max_list_default (I.ok.hd hc) p.isList (by simpa using rs) h2 (by omega) (fun e => (by cases e)) fun y ys i v h' tk bs e hv rd kp => ?_
    cases e
    have ei : (x :: xr)[i]? = some (maxD x xr) := best_at (ReadsAll.keeps kp rs) (okL_plain h1) (by simpa using hv) rd (plain_mem (okL_plain h1) _ (maxD_mem x xr))
    obtain ⟨w', ew, rw'⟩ := vals_get rv (i := i) (by simpa using hv)
    exact ⟨w', H, I.kept kp, rw', q i w' ew ei⟩
end
end Pz
set_option Elab.async false
set_option linter.all false
set_option maxRecDepth 100000
set_option maxHeartbeats 1000000
/-! Pz: sorted. -/
namespace Pz
open PySem PySem.Spec PyProof.Rows L2
open PySem.W (alike dataLt minD maxD dataLe EachIs TotalLe sameRank sort_unique AllAlike Sortable)

section
variable {α : Type} {le : α → α → Bool}
theorem insB_mem (x : α) : ∀ (l : List α) (y : α), y ∈ insB le x l ↔ y = x ∨ y ∈ l
  | [], y => by simp [insB]
  | z :: r, y => by
    unfold insB
    split
    · simp
    · rw [List.mem_cons, insB_mem x r y, List.mem_cons]
      constructor
      · rintro (h | h | h)
        · exact .inr (.inl h)
        · exact .inl h
        · exact .inr (.inr h)
      · rintro (h | h | h)
        · exact .inr (.inl h)
        · exact .inl h
        · exact .inr (.inr h)
theorem insB_perm (x : α) : ∀ (l : List α), (insB le x l).Perm (x :: l)
  | [] => .refl _
  | z :: r => by
    unfold insB
    split
    · exact .refl _
    · exact ((insB_perm x r).cons z).trans (List.Perm.swap x z r)
theorem sortB_perm : ∀ (l : List α), (sortB le l).Perm l
  | [] => .refl _
  | x :: r => (insB_perm x (sortB le r)).trans ((sortB_perm r).cons x)
theorem insB_sorted (h : TotalLe le) (x : α) : ∀ (l : List α), l.Pairwise (fun a b => le a b = true) → (insB le x l).Pairwise (fun a b => le a b = true)
  | [], _ => List.pairwise_singleton _ _
  | z :: r, p => by
    obtain ⟨p1, p2⟩ := List.pairwise_cons.mp p
    unfold insB
    split
    · rename_i q
      refine List.pairwise_cons.mpr ⟨fun b hb => ?_, p⟩
      rcases List.mem_cons.mp hb with e | hb
      · rw [e]; exact q
      · exact h.trans _ _ _ q (p1 b hb)
    · rename_i q
      refine List.pairwise_cons.mpr ⟨fun b hb => ?_, insB_sorted h x r p2⟩
      rcases (insB_mem x r b).mp hb with e | hb
      · rw [e]
        exact (h.total x z).elim (fun z => absurd z q) id
      · exact p1 b hb
theorem sortB_sorted (h : TotalLe le) : ∀ (l : List α), (sortB le l).Pairwise (fun a b => le a b = true)
  | [] => List.Pairwise.nil
  | x :: r => insB_sorted h x _ (sortB_sorted h r)
theorem insB_stable (h : TotalLe le) (c x : α) : ∀ (l : List α), (insB le x l).filter (sameRank le c) = (x :: l).filter (sameRank le c)
  | [] => rfl
  | z :: r => by
    unfold insB
    split
    · rfl
    · rename_i q
      have ih := insB_stable h c x r
      rw [List.filter_cons, ih, List.filter_cons, List.filter_cons, List.filter_cons]
      by_cases hx : sameRank le c x = true
      · by_cases hz : sameRank le c z = true
        · exfalso
          unfold sameRank at hx hz
          rw [Bool.and_eq_true] at hx hz
          exact q (h.trans _ _ _ hx.2 hz.1)
        · simp only [if_neg hz, if_pos hx]
      · simp only [if_neg hx]
theorem sortB_stable (h : TotalLe le) (c : α) : ∀ (l : List α), (sortB le l).filter (sameRank le c) = l.filter (sameRank le c)
  | [] => rfl
  | x :: r => by
    show (insB le x (sortB le r)).filter _ = _
    rw [insB_stable h c x, List.filter_cons, List.filter_cons, sortB_stable h c r]
theorem sortB_merge (h : TotalLe le) (l : List α) : sortB le l = l.mergeSort le := sort_unique h (sortB_sorted h l) fun c => sortB_stable h c l
end
theorem dataLe_total {β : Type} (k : β → PV) : TotalLe (dataLe false k) := PySem.W.sortLe_total (listOrd itemOrd) false fun b => PySem.W.keyToks (k b)
theorem canSort_of {ds : List PV} (h : canSort ds = true) : okL ds = true ∧ AllAlike ds ∧ Sortable ds := by
  unfold canSort at h
  simp only [Bool.and_eq_true, Bool.or_eq_true] at h
  obtain ⟨⟨h1, h2⟩, h3⟩ := h
  refine ⟨h1, fun d hd d' hd' => alikeB_all h2 d hd d' hd', ?_⟩
  rcases h3 with h3 | h3
  · refine .inl fun d hd => ?_
    have := List.all_eq_true.mp h3 d hd
    unfold isTup1 at this
    split at this
    · exact ⟨_, _, rfl⟩
    · cases this
  · refine .inr fun d hd => ?_
    have := List.all_eq_true.mp h3 d hd
    unfold noTup at this
    constructor
    · rintro rfl; cases this
    · rintro xs rfl; cases this
theorem zip_each {K : PySem.W.Frag} {F : Hp} : ∀ {vs : List V} {ds : List PV} {us : List Value}, DpAll K F vs ds → Vals vs us → EachIs (fun (u : Value) (b : V × PV) => RelV b.1 u) us (vs.zip ds)
  | _, _, _, .nil, .nil => .nil
  | _, _, _, .cons _ hs, .cons r rs => .cons r (zip_each hs rs)
theorem zip_reads {h : Heap} : ∀ {vs : List V} {ds : List PV} {us : List Value} {as : List Addr}, vs.length = ds.length → ReadsAll h us ds as → EachIs (fun (u : Value) (b : V × PV) => ∃ as, Reads h u b.2 as) us (vs.zip ds)
  | [], [], _, _, _, .nil => .nil
  | v :: vs, d :: ds, _, _, e, .cons r rs => .cons ⟨_, r⟩ (zip_reads (by simpa using e) rs)
theorem vals_each : ∀ {us : List Value} {bs : List (V × PV)}, EachIs (fun (u : Value) (b : V × PV) => RelV b.1 u) us bs → Vals (bs.map (·.1)) us
  | _, _, .nil => .nil
  | _, _, .cons r rs => .cons r (vals_each rs)
theorem zip_mem {K : PySem.W.Frag} {F : Hp} : ∀ {vs : List V} {ds : List PV}, DpAll K F vs ds → ∀ b ∈ vs.zip ds, Dp K F b.1 b.2
  | _, _, .nil, b, hb => by cases hb
  | _, _, .cons h hs, b, hb => by
    rw [List.zip_cons_cons] at hb
    rcases List.mem_cons.mp hb with e | hb
    · rw [e]; exact h
    · exact zip_mem hs b hb
theorem dpAll_of {K : PySem.W.Frag} {F : Hp} : ∀ {bs : List (V × PV)}, (∀ b ∈ bs, Dp K F b.1 b.2) → DpAll K F (bs.map (·.1)) (bs.map (·.2))
  | [], _ => .nil
  | b :: bs, h => .cons (h b List.mem_cons_self) (dpAll_of fun c hc => h c (List.mem_cons_of_mem _ hc))
section
variable {X : Cx}
def rSortD (K : PySem.W.Frag) : List V → Hp → VK → Prop := fun xs H Q => ∃ (a : Addr) (vs : List V) (ds : List PV), xs = [.ref a] ∧ SqL K H a vs ∧ DpAll K H vs ds ∧ canSort ds = true ∧
  ∀ p vs', H p = none → (∀ F, DpAll K F vs ds → DpAll K F vs' (sortB (dataLe false id) ds)) → Q (.ref p) (upd H p (.lst vs'))
theorem cr_sorted_d (hu : X.A.units + 100 < cLine) : CallR X (.builtin "sorted") (rSortD X.K) := by
  intro pins s σ H xs us Q I r ⟨a, vs, ds, e, hl, hd, hc, q⟩
  subst e
  obtain ⟨u, rfl, ru⟩ := vals1 r
  cases (show u = Value.ref a from ru)
  obtain ⟨its, rv, p, hz⟩ := I.list hl
  obtain ⟨as, rs⟩ := dp_readsAll I hd rv
  obtain ⟨h1, h2, h3⟩ := canSort_of hc
  have hlen := dpAll_len hd
  have es : (vs.zip ds).map (·.2) = ds := List.map_snd_zip (by omega)
  have hdep := okL_depth h1
  have dle : ∀ d ∈ ds, d.depth ≤ PyData.depthAll ds := by
    intro d
    clear hdep h1 h2 h3 hc hd rs es hlen q
    induction ds with
    | nil => intro h; cases h
    | cons x r ih =>
      intro h
      show d.depth ≤ max x.depth (PyData.depthAll r)
      rcases List.mem_cons.mp h with e | h
      · rw [e]; exact Nat.le_max_left _ _
      · exact Nat.le_trans (ih h) (Nat.le_max_right _ _)
  refine PySem.W.sorted_data (enc := fun b : V × PV => b.2) p.isList (zip_each hd rv) (zip_reads hlen rs) (by rw [es]; exact h2) (by rw [es]; exact h3) (by rw [List.length_zip]; omega)
    (fun b hb => by have := dle b.2 (by rw [← es]; exact List.mem_map_of_mem hb); omega) fun out hout eo => ?_
  have hlo : (out.toArray).size = vs.length := by rw [List.size_toArray, hout, List.length_zip]; omega
  have kp : ∀ b o, s.heap.get? b = some o → (sortedAll s.heap its out.toArray).get? b = some o := fun b o e => sortedAll_old e
  obtain ⟨n, hn⟩ := sortedAll_at s.heap its out.toArray
  have ro := vals_each eo
  have es2 : ((vs.zip ds).mergeSort (dataLe false fun b : V × PV => b.2)).map (·.2) = sortB (dataLe false id) ds := by
    have := PySem.W.sort_maps (r := dataLe false fun b : V × PV => b.2) (s := dataLe false id) (l := vs.zip ds) (fun b : V × PV => b.2) (fun a _ b _ => rfl)
    rw [sortB_merge (dataLe_total id), this, es]
  refine ⟨.ref (s.heap.objs.size + 1), upd H (s.heap.objs.size + 1) (.lst (((vs.zip ds).mergeSort (dataLe false fun b : V × PV => b.2)).map (·.1))), I.laid (t' := s.toks) kp (Nat.le_succ _) ⟨?_, out, n, ro, hn⟩, rfl, q _ _ (I.hok.fresh (Nat.le_succ _)) fun F hF => ?_⟩
  · rw [ro.length, ← List.size_toArray, hlo]; exact hz
  · rw [← es2]
    exact dpAll_of fun b hb => zip_mem hF b (List.mem_mergeSort.mp hb)

/-- isinstance -/
def tyS : Ty → String
  | .int => "int" | .bool => "bool" | .str => "str" | .tuple => "tuple" | .list => "list"
theorem cr_isi : CallR X (.builtin "isinstance") (fun xs H Q => ∃ v d t b, xs = [v, .ty (tyS t)] ∧ Dp X.K H v d ∧ isiB d t = some b ∧ Q (.bl b) H) := by
  intro pins s σ H xs us Q I r ⟨v, d, t, b, e, hd, hb, q⟩
  subst e
  obtain ⟨u, u2, rfl, r1, r2⟩ := vals2 r
  cases (show u2 = Value.type (tyS t) from r2)
  obtain ⟨as, rd⟩ := Dp.reads I d v u hd r1
  have fin : ∀ c : Bool, c = b → ∀ tk, s.toks ≤ tk → EP X pins σ Q (.bool c) { s with toks := tk } := fun c e tk _ => by
    subst e; exact ⟨.bl _, H, I.tok tk, rfl, q⟩
  cases t with
  | int => exact PySem.W.isinstance_int_data rd (fin _ (by cases d <;> first | (cases hb; rfl) | cases hb))
  | bool => exact PySem.W.isinstance_bool_data rd (fin _ (by cases d <;> first | (cases hb; rfl) | cases hb))
  | str => exact PySem.W.isinstance_str_data rd (fin _ (by cases d <;> first | (cases hb; rfl) | cases hb))
  | tuple => exact PySem.W.isinstance_tuple_data rd (fin _ (by cases d <;> first | (cases hb; rfl) | cases hb))
  | list => exact PySem.W.isinstance_list_data rd (fin _ (by cases d <;> first | (cases hb; rfl) | cases hb))
end
end Pz
set_option Elab.async false
set_option linter.all false
set_option maxRecDepth 100000
set_option maxHeartbeats 1000000
/-! Pz: sorted, min, max of a tuple. -/
namespace Pz
open PySem PySem.Spec PyProof.Rows L2
open PySem.W (alike dataLt minD maxD dataLe EachIs TotalLe sameRank sort_unique AllAlike Sortable SortsAt copyHeap_at)
section
variable {prog : Program} {w : World} {A : Around} {E : Value → Shared → Prop} {s : Shared}
/-- the items of a tuple, collected -/
theorem collect_tup {l : Addr} {vs : List Value} {Q : List Value → Shared → Prop} (hl : s.heap.IsTuple l vs.toArray)
    (h : Q vs { s with heap := (s.heap.push (seqObj "list" #[] 0)).update s.heap.objs.size (Obj.mapSeq (· ++ vs.toArray)) }) (hsz : vs.length ≤ sizeLine) :
    wpAny (model prog w) A (collect (.ref l)) Q E s := by
  obtain ⟨o, ho, hc, n, hd⟩ := id hl
  unfold collect
  refine wpAny_bind (wpAny_runValue (codeAny_builtin entry_proto_collect' ?_))
  show wpAny _ _ (do again (.builtin "list.__iadd__" ⟨[← newList [], .ref l], []⟩)) _ _ s
  refine wpAny_bind (wpAny_newList (wpAny_pure ⟨Code.quiet_builtin _ (by decide +kernel), codeAny_builtin entry_list_iadd' ?_⟩))
  show wpAny _ _ (Builtin.List.listExtendWith (.ref s.heap.objs.size) (.ref l) (.ref s.heap.objs.size)) _ _ { s with heap := s.heap.push (seqObj "list" #[] 0) }
  unfold Builtin.List.listExtendWith
  have ho' : (s.heap.push (seqObj "list" #[] 0)).get? l = some o := Heap.get?_push_of_some _ ho
  refine wpAny_bind (wpAny_typeOf (T := "tuple") ⟨o, ho', hc⟩ ?_)
  have ht : (Value.type "tuple" == Value.type "tuple") = true := by rfl
  rw [if_pos (by rw [ht]; simp)]
  refine wpAny_bind (listItems_at ho' hd ?_)
  refine wpAny_bind (listItems_at (xs := #[]) (n := 0) (Heap.get?_push_size _ rfl) rfl ?_)
  rw [if_neg (by simp)]
  refine wpAny_bind (listUpdate_at (xs := #[]) (n := 0) (Heap.get?_push_size _ rfl) rfl ?_ (Nat.zero_le _) (by show (#[] ++ vs.toArray).size ≤ sizeLine + 1; simp only [Array.size_append, List.size_toArray, List.length_nil]; omega))
  refine wpAny_pure ?_
  show wpAny (model prog w) A (do
      let o ← load s.heap.objs.size
      match o.data with
      | .seq xs _ => pure xs.toList
      | _ => unsupported "internal:collect") Q E { s with heap := (s.heap.push (seqObj "list" #[] 0)).update s.heap.objs.size (Obj.mapSeq (· ++ vs.toArray)) }
  refine wpAny_bind (wpAny_load (get?_update_seq (Heap.get?_push_size _ rfl) _) ?_)
  show wpAny _ _ (pure ((#[] : Array Value) ++ vs.toArray).toList) Q E _
  rw [show ((#[] : Array Value) ++ vs.toArray).toList = vs by simp]
  exact wpAny_pure h
theorem sorted_ofT {l : Addr} {vs : List Value} {Q : Value → Shared → Prop} (hl : s.heap.IsTuple l vs.toArray) (hL : vs.length ≤ sizeLine)
    (body : ∀ E' : Value → Shared → Prop, wpAny (model prog w) A.in1.in1 (Builtin.«list.sort» ⟨[.ref (s.heap.objs.size + 1)], []⟩) (fun f s' => f = .done (.ret .none) ∧ Q (.ref (s.heap.objs.size + 1)) s') E' { s with heap := PySem.W.copyHeap s.heap vs }) :
    wpAny (model prog w) A (call (.builtin "sorted") [.ref l]) Q E s := by
  refine Calls.call_function_entry kind_sorted plain_sorted entry_sorted (args_sorted1 _) ?_
  unfold Builtin.«sorted»
  refine wpAny_bind (m := checkCount "sorted" 1 1 _) (wpAny_pure ?_)
  refine wpAny_bind (collect_tup hl ?_ hL)
  refine wpAny_bind (wpAny_newList ?_ hL)
  have hsz : ((s.heap.push (seqObj "list" #[] 0)).update s.heap.objs.size (Obj.mapSeq (· ++ vs.toArray))).objs.size = s.heap.objs.size + 1 := by
    rw [Heap.size_update, Heap.size_push]
  show wpAny _ _ _ _ _ { s with heap := PySem.W.copyHeap s.heap vs }
  rw [hsz]
  refine wpAny_bind (wpAny_holding (wpAny_call_entry slot_list_sort ⟨_, copyHeap_at s.heap vs, rfl⟩ entry_list_sort ?body (args_list_sort _)))
  case body =>
    show wpAny (model prog w) A.in1.in1 (Builtin.«list.sort» ⟨[.ref (s.heap.objs.size + 1)], []⟩) _ _ _
    refine wpAny_mono (body _) (fun f s' hf => ?_) fun _ _ e => e
    obtain ⟨rfl, hq⟩ := hf
    exact ⟨_, rfl, wpAny_pure ⟨_, rfl, hq⟩⟩
theorem sorted_dataT {β : Type} {vs : List Value} {bs : List β} {enc : β → PyData} {R : Value → β → Prop} {l : Addr} {Q : Value → Shared → Prop} (hl : s.heap.IsTuple l vs.toArray) (e : EachIs R vs bs) (er : EachIs (fun v b => ∃ as, Reads s.heap v (enc b) as) vs bs) (hal : AllAlike (bs.map enc)) (hk : Sortable (bs.map enc)) (hL : bs.length ≤ sizeLine)
    (hu : ∀ b, b ∈ bs → A.units + 2 + (enc b).depth < cLine) (h : ∀ out, out.length = bs.length → EachIs R out (bs.mergeSort (dataLe false enc)) → Q (.ref (s.heap.objs.size + 1)) { s with heap := sortedAll s.heap vs (List.toArray out) }) :
    wpAny (model prog w) A (call (.builtin "sorted") [.ref l]) Q E s := by
  have er' : EachIs (fun v b => ∃ as, Reads (PySem.W.sortingHeap (PySem.W.copyHeap s.heap vs) (s.heap.objs.size + 1) vs) v (enc b) as) vs bs := er.mono fun _ _ ⟨as, r⟩ => ⟨as, PyProof.Rows.Reads.keeps (fun _ _ => PySem.W.sorting_copy_old) r⟩
  refine sorted_ofT hl (by rw [e.length]; exact hL) fun E' => PySem.W.list_sort_vals (s := { s with heap := PySem.W.copyHeap s.heap vs }) (copyHeap_at s.heap vs) (SortsAt.data (s := { s with heap := PySem.W.sortingHeap (PySem.W.copyHeap s.heap vs) (s.heap.objs.size + 1) vs }) (PySem.W.each_map (R := fun v d => ∃ as, Reads (PySem.W.sortingHeap (PySem.W.copyHeap s.heap vs) (s.heap.objs.size + 1) vs) v d as) enc er') hal hk (PySem.W.bound_map hu)) (by rw [e.length]; exact hL) ⟨rfl, ?_⟩
  exact h _ (by rw [PySem.W.sortVals_length false rfl]; exact e.length) (PySem.W.sortVals_data false e er' hal)
end
section
variable {X : Cx}
def rSortDT (K : PySem.W.Frag) : List V → Hp → VK → Prop := fun xs H Q => ∃ (a : Addr) (vs : List V) (ds : List PV), xs = [.ref a] ∧ SqT K H a vs ∧ DpAll K H vs ds ∧ canSort ds = true ∧
  ∀ p vs', H p = none → (∀ F, DpAll K F vs ds → DpAll K F vs' (sortB (dataLe false id) ds)) → Q (.ref p) (upd H p (.lst vs'))
theorem cr_sorted_dT (hu : X.A.units + 100 < cLine) : CallR X (.builtin "sorted") (rSortDT X.K) := by
  intro pins s σ H xs us Q I r ⟨a, vs, ds, e, hl, hd, hc, q⟩
  subst e
  obtain ⟨u, rfl, ru⟩ := vals1 r
  cases (show u = Value.ref a from ru)
  obtain ⟨its, rv, p, hz⟩ := I.tuple hl
  obtain ⟨as, rs⟩ := dp_readsAll I hd rv
  obtain ⟨h1, h2, h3⟩ := canSort_of hc
  have hlen := dpAll_len hd
  have es : (vs.zip ds).map (·.2) = ds := List.map_snd_zip (by omega)
  have hdep := okL_depth h1
  have dle : ∀ d ∈ ds, d.depth ≤ PyData.depthAll ds := by
    intro d
    clear hdep h1 h2 h3 hc hd rs es hlen q
    induction ds with
    | nil => intro h; cases h
    | cons x r ih =>
      intro h
      show d.depth ≤ max x.depth (PyData.depthAll r)
      rcases List.mem_cons.mp h with e | h
      · rw [e]; exact Nat.le_max_left _ _
      · exact Nat.le_trans (ih h) (Nat.le_max_right _ _)
  refine sorted_dataT (enc := fun b : V × PV => b.2) p (zip_each hd rv) (zip_reads hlen rs) (by rw [es]; exact h2) (by rw [es]; exact h3) (by rw [List.length_zip]; omega)
    (fun b hb => by have := dle b.2 (by rw [← es]; exact List.mem_map_of_mem hb); omega) fun out hout eo => ?_
  have hlo : (out.toArray).size = vs.length := by rw [List.size_toArray, hout, List.length_zip]; omega
  have kp : ∀ b o, s.heap.get? b = some o → (sortedAll s.heap its out.toArray).get? b = some o := fun b o e => sortedAll_old e
  obtain ⟨n, hn⟩ := sortedAll_at s.heap its out.toArray
  have ro := vals_each eo
  have es2 : ((vs.zip ds).mergeSort (dataLe false fun b : V × PV => b.2)).map (·.2) = sortB (dataLe false id) ds := by
    have := PySem.W.sort_maps (r := dataLe false fun b : V × PV => b.2) (s := dataLe false id) (l := vs.zip ds) (fun b : V × PV => b.2) (fun a _ b _ => rfl)
    rw [sortB_merge (dataLe_total id), this, es]
  refine ⟨.ref (s.heap.objs.size + 1), upd H (s.heap.objs.size + 1) (.lst (((vs.zip ds).mergeSort (dataLe false fun b : V × PV => b.2)).map (·.1))), I.laid (t' := s.toks) kp (Nat.le_succ _) ⟨?_, out, n, ro, hn⟩, rfl, q _ _ (I.hok.fresh (Nat.le_succ _)) fun F hF => ?_⟩
  · rw [ro.length, ← List.size_toArray, hlo]; exact hz
  · rw [← es2]
    exact dpAll_of fun b hb => zip_mem hF b (List.mem_mergeSort.mp hb)
def rBestT (K : PySem.W.Frag) (b : Bool) : List V → Hp → VK → Prop := fun xs H Q => ∃ (a : Addr) (vs : List V) (ds : List PV) (d : PV), xs = [.ref a] ∧ SqT K H a vs ∧ DpAll K H vs ds ∧ bestB b ds = some d ∧ ∀ (i : Nat) (v : V), vs[i]? = some v → ds[i]? = some d → Q v H
theorem cr_min_dT (hc : X.calm = true) (hu : X.A.units + 100 < cLine) : CallR X (.builtin "min") (rBestT X.K false) := by
  intro pins s σ H xs us Q I r ⟨a, vs, ds, d, e, hl, hd, hb, q⟩
  subst e
  obtain ⟨u, rfl, ru⟩ := vals1 r
  cases (show u = Value.ref a from ru)
  obtain ⟨its, rv, p, hz⟩ := I.tuple hl
  obtain ⟨as, rs⟩ := dp_readsAll I hd rv
  obtain ⟨x, xr, rfl, h1, h2, rfl⟩ := bestB_some hb
  have hdep := okL_depth h1
  refine PySem.W.min_tuple_data (I.ok.hd hc) p (by simpa using rs) h2 (by omega) fun i v h' tk bs hv rd kp => ?_
  have ei : (x :: xr)[i]? = some (minD x xr) := best_at (ReadsAll.keeps kp rs) (okL_plain h1) (by simpa using hv) rd (plain_mem (okL_plain h1) _ (minD_mem x xr))
  obtain ⟨w, ew, rw'⟩ := vals_get rv (i := i) (by simpa using hv)
  exact ⟨w, H, I.kept kp, rw', q i w ew ei⟩
theorem cr_max_dT (hc : X.calm = true) (hu : X.A.units + 100 < cLine) : CallR X (.builtin "max") (rBestT X.K true) := by
  intro pins s σ H xs us Q I r ⟨a, vs, ds, d, e, hl, hd, hb, q⟩
  subst e
  obtain ⟨u, rfl, ru⟩ := vals1 r
  cases (show u = Value.ref a from ru)
  obtain ⟨its, rv, p, hz⟩ := I.tuple hl
  obtain ⟨as, rs⟩ := dp_readsAll I hd rv
  obtain ⟨x, xr, rfl, h1, h2, rfl⟩ := bestB_some hb
  have hdep := okL_depth h1
  refine PySem.W.max_tuple_data (I.ok.hd hc) p (by simpa using rs) h2 (by omega) fun i v h' tk bs hv rd kp => ?_
  have ei : (x :: xr)[i]? = some (maxD x xr) := best_at (ReadsAll.keeps kp rs) (okL_plain h1) (by simpa using hv) rd (plain_mem (okL_plain h1) _ (maxD_mem x xr))
  obtain ⟨w, ew, rw'⟩ := vals_get rv (i := i) (by simpa using hv)
  exact ⟨w, H, I.kept kp, rw', q i w ew ei⟩
end
end Pz
set_option Elab.async false
set_option linter.all false
set_option maxRecDepth 100000
/-! Pz: set(xs) of a list of whole numbers. -/
namespace Pz
open PySem PySem.Spec PyProof.Rows L2
/-- a set just made -/
def bareSet (w : World) : Obj := { cls := .type "set", dict := none, data := .set #[] 0 (.fresh 0 0 (!w.params.followText "set-order")) }
/-- the object of a list, whatever it carries -/
def listObj (items : Array Value) (n : Nat) (dd : Option Addr) (sl : Array (Option Value)) : Obj := ⟨.type "list", dd, .seq items n, sl⟩
section
variable {P : Program} {w : World} {A : Around} {E : Value → Shared → Prop} {s : Shared}
set_option maxHeartbeats 4000000 in
theorem init_listI {l : Addr} {items : Array Value} (ns : List Int) (R : Result → Shared → Prop) (hh : A.handled = none) (hl : s.heap.IsList l items) (hit : IntsAre items.toList ns) (hb : ns.length + 1 < scanBound)
    (hR : ∀ (g : Heap) (tk c : Nat), SetR w g s.heap.objs.size (fun j => decide (j ∈ ns)) c → c ≤ ns.length → (∀ b o, s.heap.get? b = some o → g.get? b = some o) → R (.ok (.ret .none)) { s with heap := g, toks := tk }) :
    codeAny (model P w) A (.call (.builtin "set.__init__") ⟨[.ref s.heap.objs.size, .ref l], []⟩) R { s with heap := s.heap.push (bareSet w) } := by
  have many : items.size = ns.length := by
    have q := hit.length
    rw [Array.length_toList] at q; exact q
  have at0 : (s.heap.push (bareSet w)).get? s.heap.objs.size = some (bareSet w) := Heap.get?_push_size _ rfl
  have ty0 : Shared.TypeIs { s with heap := s.heap.push (bareSet w) } (.ref s.heap.objs.size) "set" := ⟨_, at0, rfl⟩
  refine codeAny_call_builtin F.called_set.init.plain F.entry_set_init (check_set_init_1 ty0 ?_)
  obtain ⟨⟨c0, d0, dt0, sl0⟩, got, k1, n0, k2⟩ := hl
  simp only at k1 k2
  subst k1 k2
  have got' : (s.heap.push (bareSet w)).get? l = some { cls := .type "list", dict := d0, data := .seq items n0, slots := sl0 } := Heap.get?_push_of_some _ got
  have isl : (s.heap.push (bareSet w)).IsList l items := ⟨_, got', rfl, n0, rfl⟩
  have no1 := F.sub_list_set
  have no2 := F.sub_list_frozenset
  have no3 : (Value.type "list" == Value.type "dict") = false := by decide
  unfold Builtin.«set.__init__» noKeywords Builtin.Frozenset.updateFrom
  generalize hit' : pyIter = ITER
  wp_walk
  subst hit'
  refine wpAny_pyIter_list isl ?_
  refine wpAny_bind (wpAny_runValue ?_)
  have small : l < s.heap.objs.size := Heap.lt_size got
  have calm : A.in1.in1.handled = none := by simp [hh]
  have apart1 : l ≠ (s.heap.push (bareSet w)).objs.size := by rw [Heap.size_push]; exact Nat.ne_of_lt (Nat.lt_succ_of_lt small)
  have apart2 : s.heap.objs.size ∉ [(s.heap.push (bareSet w)).objs.size, l] := by
    rw [Heap.size_push]
    intro hm
    rcases List.mem_cons.mp hm with e | hm
    · exact Nat.ne_of_lt (Nat.lt_succ_self _) e
    · rw [List.mem_singleton] at hm; exact Nat.ne_of_gt small hm
  have each : ∀ (i : Nat) (v : Value), items[i]? = some v → ∃ k t, ns[i]? = some k ∧ v = .int k t := fun i v hv => by
    have hi : i < ns.length := by rw [← many]; exact (Array.getElem?_eq_some_iff.mp hv).1
    obtain ⟨t, e⟩ := hit.int_at i v (by rw [Array.getElem?_toList]; exact hv)
    refine ⟨ns[i], t, List.getElem?_eq_getElem hi, e.trans ?_⟩
    rw [List.getD_eq_getElem?_getD, List.getElem?_eq_getElem hi, Option.getD_some]
  have seen : ((s.heap.push (bareSet w)).push { cls := .type "list_iterator", data := .fields #[.ref l, .int 0 0] }).get? s.heap.objs.size = some (bareSet w) := Heap.get?_push_of_some _ at0
  refine set_update_ints (Walks.list calm _ l apart1 items).toS s.heap.objs.size apart2 ns many hb each (items.size - 0) 0 _ (by omega) (Nat.zero_le _) ?stands ?first ?then_
  case stands => exact ⟨⟨_, Heap.get?_push_size _ rfl, rfl, rfl⟩, isl.push _⟩
  case first => exact ⟨0, Nat.le_refl 0, setR_new_at (w := w) seen⟩
  intro z c mv hc new
  obtain ⟨g, g2, d2, tk, os⟩ := z
  obtain rfl : g2 = s.gens := mv.gens
  obtain rfl : d2 = s.drawn := mv.drawn
  obtain rfl : os = s.os := mv.os
  show wpAny _ _ _ _ _ _
  refine wpAny_pure ?_
  show wpAny _ _ (ret Value.none) _ _ _
  refine wpAny_pure (hR g tk c new (by omega) fun b o e => ?_)
  have lt := Heap.lt_size e
  refine mv.heap b o (fun hm => ?_) (Heap.get?_push_of_some _ (Heap.get?_push_of_some _ e))
  rcases List.mem_cons.mp hm with q | hm
  · exact Nat.ne_of_lt lt q
  · rw [List.mem_singleton, Heap.size_push] at hm; exact Nat.ne_of_lt (Nat.lt_succ_of_lt lt) hm
set_option maxHeartbeats 4000000 in
theorem call_set_listI {l : Addr} {items : Array Value} (ns : List Int) {Q : Value → Shared → Prop} (hh : A.handled = none) (hl : s.heap.IsList l items) (hit : IntsAre items.toList ns) (hb : ns.length + 1 < scanBound)
    (hQ : ∀ (g : Heap) (tk c : Nat), SetR w g s.heap.objs.size (fun j => decide (j ∈ ns)) c → c ≤ ns.length → (∀ b o, s.heap.get? b = some o → g.get? b = some o) → Q (.ref s.heap.objs.size) { s with heap := g, toks := tk }) :
    wpAny (model P w) A (call (.type "set") [.ref l]) Q E s := by
  obtain ⟨c, tl, mro⟩ := F.called_set.mro
  have y1 := F.called_set.made
  have y2 := F.called_set.sub
  have y3 := F.called_set.notType
  have y4 := F.called_set.canCreate
  have y5 := F.typeCall_set_1 (.ref l)
  refine wpAny_call (codeAny_of_tree ?_)
  show wpAny _ _ (callAny (.type "set") _) _ _ _
  refine wpAny_pure ⟨Code.quiet_builtin _ (by decide +kernel), codeAny_builtin F.entry_type_call ?_⟩
  rw [Around.under_plain (weight_type_call_type "set" [.ref l] []) rfl]
  repeat (any_goals (first | wp_step | assumption))
  refine codeAny_mono (code_set_led1 (.ref l) (E := E) (Q₁ := fun v z => v = .ref s.heap.objs.size ∧ z = { s with heap := s.heap.push (bareSet w) }) ⟨rfl, rfl⟩) fun r z hr => ?_
  cases r with
  | error e => exact hr
  | ok fl =>
    cases fl with
    | ret v =>
      obtain ⟨rfl, rfl⟩ := hr
      have at0 : (s.heap.push (bareSet w)).get? s.heap.objs.size = some (bareSet w) := Heap.get?_push_size _ rfl
      have ty0 : Shared.TypeIs { s with heap := s.heap.push (bareSet w) } (.ref s.heap.objs.size) "set" := ⟨_, at0, rfl⟩
      have y6 := F.called_set.init.lookup
      have y7 := F.called_set.init.bind (.ref s.heap.objs.size)
      repeat (any_goals (first | wp_step | assumption))
      refine codeAny_mono (init_listI ns (wants (fun r z => r = .none ∧ ∃ g tk c, z = { s with heap := g, toks := tk } ∧ SetR w g s.heap.objs.size (fun j => decide (j ∈ ns)) c ∧ c ≤ ns.length ∧
        ∀ b o, s.heap.get? b = some o → g.get? b = some o) E) (by simp [hh]) hl hit hb fun g tk c a1 a2 a3 => ⟨rfl, g, tk, c, rfl, a1, a2, a3⟩) fun r2 z2 hr2 => ?_
      cases r2 with
      | error e => exact hr2
      | ok fl2 =>
        cases fl2 with
        | ret v2 =>
          obtain ⟨rfl, g, tk, c, rfl, a1, a2, a3⟩ := hr2
          repeat (any_goals (first | wp_step | assumption))
          exact hQ g tk c a1 a2 a3
        | _ => exact hr2.elim
    | _ => exact hr.elim
end
/-- set(xs) -/
theorem cr_setI {X : Cx} (hc : X.calm = true) : CallR X (.type "set") (fun xs H Q => ∃ (l : Addr) (ns : List Int), xs = [V.ref l] ∧ SqL X.K H l (ns.map V.int) ∧ ns.length ≤ 4000 ∧ ∀ a n, H a = none → n ≤ ns.length → Q (.ref a) (upd H a (SetO X.w a (fun j => decide (j ∈ ns)) n))) := by
  intro pins s σ H xs us Q I r ⟨l, ns, e, hs, hz, q⟩
  subst e
  obtain ⟨its, rv, pl, _⟩ := I.list hs
  rw [Vals.ref1 r]
  have fr : H s.heap.objs.size = none := I.hok.fresh (Nat.le_refl _)
  refine call_set_listI ns (I.ok.hd hc) pl.isList (by simpa using rv.ints) (by unfold scanBound; omega) fun g tk c new hcn kp => ?_
  exact ⟨.ref s.heap.objs.size, upd H s.heap.objs.size (SetO X.w s.heap.objs.size _ c), I.laid (t' := tk) kp (Nat.le_refl _) (setO_new new), rfl, q _ c fr hcn⟩
end Pz
set_option Elab.async false
set_option linter.all false
set_option maxRecDepth 100000
set_option maxHeartbeats 2000000
/-! Pz: sorted(set(xs)) of a list of tuples of whole numbers. -/
namespace Pz
open PySem PySem.Spec PyProof.Rows L2
open PySem.W (dataLe EachIs AllAlike Sortable)
abbrev AK := Addr × List Int
theorem each_refs {h : Heap} : ∀ {L : List AK}, (∀ p ∈ L, TS.TupInts h (.ref p.1) p.2) → EachIs (fun (v : Value) (p : AK) => v = .ref p.1) (L.map fun p => .ref p.1) L
  | [], _ => .nil
  | p :: r, h => .cons rfl (each_refs fun q hq => h q (List.mem_cons_of_mem _ hq))
theorem tup_reads {h : Heap} {b : Addr} {k : List Int} (x : TS.TupInts h (.ref b) k) : Reads h (.ref b) (tupD k) [] := by
  obtain ⟨b', its, e, ⟨o, h1, h2, n, h3⟩, h4⟩ := x
  cases e
  exact .tuple h1 h2 h3 (IntsAre.reads h h4)
theorem each_reads {h : Heap} {a : Addr} : ∀ {L : List AK}, (∀ p ∈ L, TS.TupInts h (.ref p.1) p.2) → EachIs (fun (v : Value) (p : AK) => ∃ as, Reads h v (tupD p.2) as ∧ a ∉ as) (L.map fun p => .ref p.1) L
  | [], _ => .nil
  | p :: r, h => .cons ⟨[], tup_reads (h p List.mem_cons_self), List.not_mem_nil⟩ (each_reads fun q hq => h q (List.mem_cons_of_mem _ hq))
theorem tupD_alike (k k' : List Int) : PySem.W.alike (tupD k) (tupD k') = true := by
  have := PySem.W.DatumOrd.alike (α := PySem.W.Tup Int) ⟨k⟩ ⟨k'⟩
  exact this
theorem refs_back {L : List AK} (one : ∀ q ∈ L, ∀ r ∈ L, q.1 = r.1 → q = r) (nd : L.Nodup) : ∀ vs : List Value, vs.Perm (L.map fun q => Value.ref q.1) → ∃ L1 : List AK, vs = L1.map (fun q => Value.ref q.1) ∧ L1.Perm L := by
  intro vs pm
  obtain ⟨L1, e1, s1⟩ : ∃ L1 : List AK, vs = L1.map (fun q => Value.ref q.1) ∧ ∀ q ∈ L1, q ∈ L := by
    have sub : ∀ v ∈ vs, ∃ q ∈ L, v = Value.ref q.1 := fun v hv => by
      obtain ⟨q, hq, e⟩ := List.mem_map.mp (pm.mem_iff.mp hv)
      exact ⟨q, hq, e.symm⟩
    clear pm
    induction vs with
    | nil => exact ⟨[], rfl, fun q hq => (by cases hq)⟩
    | cons v vs ih =>
      obtain ⟨q, hq, e⟩ := sub v List.mem_cons_self
      obtain ⟨L1, f1, f2⟩ := ih fun u hu => sub u (List.mem_cons_of_mem _ hu)
      exact ⟨q :: L1, by rw [e, f1]; rfl, fun r hr => (List.mem_cons.mp hr).elim (fun z => z ▸ hq) (f2 r)⟩
  refine ⟨L1, e1, ?_⟩
  subst e1
  have nR : (L.map fun q => Value.ref q.1).Nodup := by
    refine List.pairwise_map.mpr (nd.imp_of_mem fun {x y} hx hy ne e => ne (one x hx y hy ?_))
    injection e
  have n1 : L1.Nodup := List.Pairwise.of_map _ (fun a b ne e => ne (by rw [e])) (pm.nodup_iff.mpr nR)
  refine (List.perm_ext_iff_of_nodup n1 nd).mpr fun q => ⟨s1 q, fun hq => ?_⟩
  obtain ⟨r, hr, e⟩ := List.mem_map.mp (pm.mem_iff.mpr (List.mem_map.mpr ⟨q, hq, rfl⟩))
  injection e with e
  rw [← one r (s1 r hr) q hq e]; exact hr
/-- sorted(a set of tuples of numbers) -/
def rSortSet (K : PySem.W.Frag) (P : Program) (w : World) : List V → Hp → VK → Prop := fun vs H Q => ∃ (a : Addr) (L : List AK), vs = [V.ref a] ∧ H a = some (SetTO P w a L) ∧ (∀ p ∈ L, SqT K H p.1 (p.2.map V.int)) ∧ (∀ p ∈ L, p.2 ≠ []) ∧
  ∀ (L' : List AK) (p : Addr), L'.Perm L → (L'.map (·.2)).Nodup → L'.Pairwise (fun x y => dataLe false (fun q : AK => tupD q.2) x y = true) → H p = none → Q (.ref p) (upd H p (.lst (L'.map fun q => V.ref q.1)))
theorem cr_sortSet {X : Cx} (hc : X.calm = true) (hu : X.A.units + 100 < cLine) : CallR X (.builtin "sorted") (rSortSet X.K X.prog X.w) := by
  intro pins s σ H vs us Q I r ⟨a, L, e, ha, hT, hne, q⟩
  subst e
  have got : SetT0 X.prog X.w s.heap a L := (I.hok a _ ha).1
  have istup := fun p hp => I.isT (hT p hp)
  obtain ⟨es, ep, t, R⟩ := got.full istup
  obtain ⟨o, ho, hex, hd⟩ := R.ob
  have few := R.few
  have size := R.size
  rw [Vals.ref1 r]
  refine Calls.call_function_entry kind_sorted plain_sorted entry_sorted (args_sorted1 _) ?_
  unfold Builtin.«sorted»
  refine wpAny_bind (m := checkCount "sorted" 1 1 _) (wpAny_pure ?_)
  refine wpAny_bind (collect_set (A := X.A.in1) (I.ok.hd hc) ⟨o, ho, hex.1, hd⟩ R.fits (by unfold scanBound; omega) R.tab.ris R.led fun s1 vs kp hz g1 o1 pm => ?_)
  have rows : es.toList.map (·.2) = L.map fun q => Value.ref q.1 := by
    rw [R.rows]; unfold rowsOf; rw [List.map_map]; rfl
  rw [rows] at pm
  have one : ∀ x ∈ L, ∀ y ∈ L, x.1 = y.1 → x = y := fun x hx y hy e => by
    have p1 := istup x hx
    have p2 := istup y hy
    rw [e] at p1
    exact Prod.ext e (p1.inj p2)
  have ndL : L.Nodup := List.Pairwise.of_map _ (fun a b ne e => ne (by rw [e])) R.nd
  obtain ⟨L1, e1, pm1⟩ := refs_back one ndL vs pm
  subst e1
  have many : L1.length < 64 := by rw [pm1.length_eq]; exact few
  refine wpAny_bind (wpAny_newList ?_ (by rw [sizeLine_eq]; simp; omega))
  have own : (s1.heap.push (seqObj "list" (L1.map fun q : AK => Value.ref q.1).toArray 0)).get? s1.heap.objs.size = some (seqObj "list" (L1.map fun q : AK => Value.ref q.1).toArray 0) := Heap.get?_push_size _ rfl
  have tk : ∀ p ∈ L1, TS.TupInts (s1.heap.push (seqObj "list" (L1.map fun q : AK => Value.ref q.1).toArray 0)) (.ref p.1) p.2 := fun p hp =>
    tupInts_of (P := X.prog) (w := X.w) (isT_keep (istup p (pm1.mem_iff.mp hp)) fun b u e => Heap.get?_push_of_some _ (kp b u e))
  refine wpAny_bind (wpAny_holding (PySem.W.list_sort_data (R := fun (v : Value) (p : AK) => v = .ref p.1) (enc := fun p : AK => tupD p.2) (s := { s1 with heap := s1.heap.push (seqObj "list" (L1.map fun q : AK => Value.ref q.1).toArray 0) }) own (each_refs tk) (each_reads tk) ?_ ?_ ?_ ?_ fun out hl eo => ?_))
  · intro d hd d' hd'
    obtain ⟨x, _, rfl⟩ := List.mem_map.mp hd
    obtain ⟨y, _, rfl⟩ := List.mem_map.mp hd'
    exact tupD_alike _ _
  · refine .inl fun d hd => ?_
    obtain ⟨x, hx, rfl⟩ := List.mem_map.mp hd
    have := hne x (pm1.mem_iff.mp hx)
    cases hk : x.2 with
    | nil => exact absurd hk this
    | cons z zs => exact ⟨.int z, zs.map .int, rfl⟩
  · rw [sizeLine_eq]; omega
  · intro b hb
    have : (tupD b.2).depth ≤ 1 := by
      have := PySem.W.Datum.depth_le (α := PySem.W.Tup Int) ⟨b.2⟩
      exact this
    show X.A.in1.units + 1 + (tupD b.2).depth < cLine
    have : X.A.in1.units ≤ X.A.units + 1 := Nat.le_refl _
    omega
  obtain ⟨c, hcc⟩ := sortedHeap_at (vs := (L1.map fun q : AK => Value.ref q.1)) (out := out.toArray) own
  generalize hL' : L1.mergeSort (dataLe false fun p : AK => tupD p.2) = L' at eo
  have pm2 : L'.Perm L := by rw [← hL']; exact (List.mergeSort_perm _ _).trans pm1
  have outs : out = L'.map fun q => Value.ref q.1 := by
    clear hl hcc hL' pm2
    induction eo with
    | nil => rfl
    | cons h _ ih => rw [List.map_cons, ← ih, h]
  have pw : L'.Pairwise (fun x y => dataLe false (fun q : AK => tupD q.2) x y = true) := by
    rw [← hL']
    have T := dataLe_total (fun q : AK => tupD q.2)
    exact List.pairwise_mergeSort (fun a b c h1 h2 => T.trans a b c h1 h2) (fun a b => by rw [Bool.or_eq_true]; exact T.total a b) _
  have fin : s.heap.objs.size ≤ s1.heap.objs.size := hz
  have np : H s1.heap.objs.size = none := I.hok.fresh fin
  have kp2 : ∀ b u, s.heap.get? b = some u → (sortedHeap (s1.heap.push (seqObj "list" (L1.map fun q : AK => Value.ref q.1).toArray 0)) s1.heap.objs.size (L1.map fun q : AK => Value.ref q.1) out.toArray).get? b = some u := fun b u e => by
    have q1 := kp b u e
    have lt := Heap.lt_size q1
    rw [sortedHeap_old (Nat.ne_of_lt lt) (by rw [Heap.size_push]; exact Nat.lt_succ_of_lt lt)]
    exact Heap.get?_push_of_some _ q1
  have v1 : Vals (L'.map fun q => V.ref q.1) out := by rw [outs]; exact vals_of_refs L'
  have z1 : (L'.map fun q => V.ref q.1).length ≤ sizeLine := by rw [List.length_map, pm2.length_eq, sizeLine_eq]; omega
  have ok : ObjOk X.prog X.w (upd H s1.heap.objs.size (.lst (L'.map fun q => V.ref q.1))) (sortedHeap (s1.heap.push (seqObj "list" (L1.map fun q : AK => Value.ref q.1).toArray 0)) s1.heap.objs.size (L1.map fun q : AK => Value.ref q.1) out.toArray) s1.heap.objs.size (.lst (L'.map fun q => V.ref q.1)) := ⟨z1, out, c, v1, hcc⟩
  exact wpAny_pure ⟨_, rfl, .ref s1.heap.objs.size, upd H s1.heap.objs.size (.lst (L'.map fun q => V.ref q.1)),
    I.call' (s' := { s1 with heap := sortedHeap (s1.heap.push (seqObj "list" (L1.map fun q : AK => Value.ref q.1).toArray 0)) s1.heap.objs.size (L1.map fun q : AK => Value.ref q.1) out.toArray }) (ch := []) o1 (Un.laid kp2 fin np) (I.hok.laid kp2 fin ok) (by show AllBare s1.gens; rw [g1]; exact I.bare) (fun _ z => nomatch z), rfl, q L' _ pm2 ((pm2.map (·.2)).nodup_iff.mpr R.nd) pw np⟩
theorem dd_mem {α : Type} [DecidableEq α] {x : α} : ∀ l : List α, x ∈ dd l ↔ x ∈ l
  | [] => by simp [dd]
  | y :: r => by
    unfold dd
    split
    · rename_i h
      rw [dd_mem r, List.mem_cons]
      exact ⟨.inr, fun q => q.elim (fun e => e ▸ h) id⟩
    · rw [List.mem_cons, List.mem_cons, dd_mem r]
theorem dd_nodup {α : Type} [DecidableEq α] : ∀ l : List α, (dd l).Nodup
  | [] => .nil
  | y :: r => by
    unfold dd
    split
    · exact dd_nodup r
    · rename_i h
      exact List.nodup_cons.mpr ⟨fun q => h ((dd_mem r).mp q), dd_nodup r⟩
theorem dd_len {α : Type} [DecidableEq α] {l m : List α} (nd : m.Nodup) (h : ∀ x, x ∈ m ↔ x ∈ l) : m.length = (dd l).length :=
  ((List.perm_ext_iff_of_nodup nd (dd_nodup l)).mpr fun x => by rw [h, dd_mem]).length_eq
/-- set(xs), with its number -/
theorem cr_setN {X : Cx} (hc : X.calm = true) : CallR X (.type "set") (fun xs H Q => ∃ (l : Addr) (ns : List Int), xs = [V.ref l] ∧ SqL X.K H l (ns.map V.int) ∧ ns.length ≤ 4000 ∧ ∀ a, H a = none → Q (.ref a) (upd H a (SetO X.w a (fun j => decide (j ∈ ns)) (dd ns).length))) := by
  intro pins s σ H xs us Q I r ⟨l, ns, e, hs, hz, q⟩
  subst e
  obtain ⟨its, rv, pl, _⟩ := I.list hs
  rw [Vals.ref1 r]
  have fr : H s.heap.objs.size = none := I.hok.fresh (Nat.le_refl _)
  refine call_set_listI ns (I.ok.hd hc) pl.isList (by simpa using rv.ints) (by unfold scanBound; omega) fun g tk c new hcn kp => ?_
  have ec : c = (dd ns).length := by
    obtain ⟨o, es, ep, t, _, _, _, _, nd, mm, _, _, en, _⟩ := new
    rw [← en, ← dd_len (l := ns) nd fun x => by rw [← mm]; exact decide_eq_true_iff, List.length_map, Array.length_toList]
  subst ec
  exact ⟨.ref s.heap.objs.size, upd H s.heap.objs.size (SetO X.w s.heap.objs.size _ _), I.laid (t' := tk) kp (Nat.le_refl _) (setO_new new), rfl, q _ fr⟩
theorem cr_lenSetI {X : Cx} : CallR X (.builtin "len") (fun xs H Q => ∃ (a : Addr) (S : Int → Bool) (n : Nat), xs = [V.ref a] ∧ H a = some (SetO X.w a S n) ∧ Q (.int n) H) := by
  intro pins s σ H xs us Q I r ⟨a, S, n, e, ha, q⟩
  subst e
  rw [Vals.ref1 r]
  obtain ⟨o, es, ep, t, h1, h2, h3, _, _, _, h7, h8, h9, _⟩ := setO_get I ha
  subst h9
  exact call_len_set h1 h2 h3 h8 (by unfold scanBound at h7; omega) ⟨.int es.size, H, I.tok _, ⟨_, rfl⟩, q⟩
theorem cr_lenSetT {X : Cx} : CallR X (.builtin "len") (fun xs H Q => ∃ (a : Addr) (L : List AK), xs = [V.ref a] ∧ H a = some (SetTO X.prog X.w a L) ∧ (∀ p ∈ L, SqT X.K H p.1 (p.2.map V.int)) ∧ ((L.map (·.2)).Nodup → Q (.int L.length) H)) := by
  intro pins s σ H xs us Q I r ⟨a, L, e, ha, hT, q⟩
  subst e
  rw [Vals.ref1 r]
  have got : SetT0 X.prog X.w s.heap a L := (I.hok a _ ha).1
  obtain ⟨es, ep, t, R⟩ := got.full fun p hp => I.isT (hT p hp)
  obtain ⟨o, h1, h2, h3⟩ := R.ob
  have few := R.few
  have sz := R.size
  exact call_len_set h1 h2 h3 R.fits (by omega) ⟨.int L.length, H, I.tok _, ⟨_, by rw [sz]⟩, q R.nd⟩
end Pz
set_option Elab.async false
set_option linter.all false
set_option maxRecDepth 100000
set_option maxHeartbeats 1000000
/-! Pz: the evaluator's expressions are the model's. -/
namespace Pz
open PySem PySem.Spec PyProof.Rows L2

def bltNames : List Str := ["len", "sum", "min", "max", "all", "any", "tuple", "list", "sorted", "int", "str", "abs", "bool", "reversed", "isinstance", "range", "enumerate", "zip", "set"]

/-- the context suits the check and the evaluator -/
structure Ok (X : Cx) (ci : CI) (C : Str → List PV → Option RV) (G : Str → Option PV) : Prop where
  N : X.N = ci.N
  sc : X.env.scope = ci.sc
  fk : X.env.scope.kind = .function
  nd : X.N.Nodup
  calm : X.calm = true
  hd : X.A.handled = none
  hu : X.A.units + 100 < cLine
  st : ∀ x, ci.st x = true → X.fn x = true ∨ X.env.scope.names.lookup x = some .local
  glob : ∀ x v, G x = some v → ∃ u y, X.mg x = some u ∧ RelV y u ∧ ∀ F : Hp, Dp X.K F y v
  blt : ∀ x ∈ bltNames, X.mg x = none
  im : ∀ p ∈ ci.im, X.mg p.1 = some (.builtin p.2)
  call : ∀ f, (∃ vs r, C f vs = some r) → ∃ (k : Nat) (a : Addr) (fd : FuncData) (ps : List Str) (sp : Sp), FnOk X.prog X.w X.K X.mg X.base CX0 k a fd ps sp ∧ Room k X.A ∧ X.mg f = some (.ref a) ∧
    PySem.W.keepIn X.K (.ref a) = true ∧ Binds X.K fd ps [] ∧
    ∀ vs r ws F H Q, C f vs = some r → Same F H → DpAll X.K F ws vs → (∀ v F' H', Step F H F' H' → RepR X.K H F' H' r v → Q v H') → sp ws H Q E0

/-- what an expression does, of itself -/
def wE (X : Cx) (e : Expr) : TE := fun σ H Q => ∀ (pins : List (Addr × Obj)) (s : Shared), Inv X pins σ H s → wpAny (model X.prog X.w) X.A (eval e X.env) (EP X pins σ Q) X.xe s
theorem pe_w {X : Cx} {e : Expr} : PE X e (wE X e) := ⟨fun pins s σ H Q I h => h pins s I⟩
theorem wE_of {X : Cx} {e : Expr} {t : TE} {σ : L2.St} {H : Hp} {Q : VK} (h : PE X e t) (q : t σ H Q) : wE X e σ H Q := fun pins s I => h.run pins s σ H Q I q
theorem wE_mono {X : Cx} {e : Expr} {σ : L2.St} {H : Hp} {Q Q' : VK} (h : wE X e σ H Q) (m : ∀ v H', Q v H' → Q' v H') : wE X e σ H Q' :=
  fun pins s I => thn (h pins s I) fun u s' ⟨v, H', I', r, q⟩ => ⟨v, H', I', r, m _ _ q⟩
def wT (X : Cx) (e : Expr) : TT := fun σ H Q => ∀ (pins : List (Addr × Obj)) (s : Shared), Inv X pins σ H s → wpAny (model X.prog X.w) X.A (isTrue e X.env (eval e X.env)) (TP X pins σ Q) X.xe s
theorem pt_w {X : Cx} {e : Expr} : PT X e (wT X e) := ⟨fun pins s σ H Q I h => h pins s I⟩
theorem wT_of {X : Cx} {e : Expr} {t : TT} {σ : L2.St} {H : Hp} {Q : Bool → Hp → Prop} (h : PT X e t) (q : t σ H Q) : wT X e σ H Q := fun pins s I => h.run pins s σ H Q I q
def wA (X : Cx) (es : List Expr) : TA := fun σ H Q => ∀ (pos : Pos) (pins : List (Addr × Obj)) (s : Shared), Inv X pins σ H s → wpAny (model X.prog X.w) X.A (spliced (backTo pos (starEach es X.env))) (AP X pins σ Q) X.xe s
theorem pa_w {X : Cx} {es : List Expr} : PA X es (wA X es) := ⟨fun pos pins s σ H Q I h => h pos pins s I⟩
theorem wA_of {X : Cx} {es : List Expr} {t : TA} {σ : L2.St} {H : Hp} {Q : List V → Hp → Prop} (h : PA X es t) (q : t σ H Q) : wA X es σ H Q := fun pos pins s I => h.run pos pins s σ H Q I q

/-- e does what ev says -/
def Snd (X : Cx) (e : Expr) (ev : En → Option RV) : Prop := ∀ (F0 B : Hp) (ρ : En) (σ : L2.St) (F H : Hp) (r : RV) (Q : VK), Rel X.K F0 B ρ σ F H → ev ρ = some r →
  (∀ v F' H', Step F H F' H' → RepR X.K H F' H' r v → Q v H') → wE X e σ H Q
/-- .. where a list of one's own may be looked at -/
def SndB (X : Cx) (e : Expr) (ev : En → Option PV) : Prop := ∀ (F0 B : Hp) (ρ : En) (σ : L2.St) (F H : Hp) (d : PV) (Q : VK), Rel X.K F0 B ρ σ F H → ev ρ = some d →
  (∀ v F' H', Step F H F' H' → Bor X.K F' H' v d → Q v H') → wE X e σ H Q
/-- as a test -/
def SndT (X : Cx) (e : Expr) (ev : En → Option PV) : Prop := ∀ (F0 B : Hp) (ρ : En) (σ : L2.St) (F H : Hp) (d : PV) (b : Bool) (Q : Bool → Hp → Prop), Rel X.K F0 B ρ σ F H → ev ρ = some d → truth d = some b →
  (∀ F' H', Step F H F' H' → Q b H') → wT X e σ H Q
/-- arguments handed on; looked at -/
def SndA (X : Cx) (es : List Expr) (ev : En → Option (List PV)) : Prop := ∀ (F0 B : Hp) (ρ : En) (σ : L2.St) (F H : Hp) (ds : List PV) (Q : List V → Hp → Prop), Rel X.K F0 B ρ σ F H → ev ρ = some ds →
  (∀ vs F' H', Step F H F' H' → DpAll X.K F' vs ds → Q vs H') → wA X es σ H Q
inductive BorAll (K : PySem.W.Frag) (F H : Hp) : List V → List PV → Prop
  | nil : BorAll K F H [] []
  | cons {v : V} {vs : List V} {d : PV} {ds : List PV} : Bor K F H v d → BorAll K F H vs ds → BorAll K F H (v :: vs) (d :: ds)
theorem BorAll.step {K : PySem.W.Frag} {F H F' H' : Hp} (s : Step F H F' H') : ∀ {vs : List V} {ds : List PV}, BorAll K F H vs ds → BorAll K F' H' vs ds
  | _, _, .nil => .nil
  | _, _, .cons h hs => .cons (h.step s) (hs.step s)
def SndR (X : Cx) (es : List Expr) (ev : En → Option (List PV)) : Prop := ∀ (F0 B : Hp) (ρ : En) (σ : L2.St) (F H : Hp) (ds : List PV) (Q : List V → Hp → Prop), Rel X.K F0 B ρ σ F H → ev ρ = some ds →
  (∀ vs F' H', Step F H F' H' → BorAll X.K F' H' vs ds → Q vs H') → wA X es σ H Q

section
variable {X : Cx} {ci : CI} {C : Str → List PV → Option RV} {G : Str → Option PV} {F0 B : Hp} {ρ : En} {σ : L2.St} {F H : Hp}

/-- a result as a value -/
theorem Snd.va {e : Expr} {ev : En → Option RV} (h : Snd X e ev) {r : RV} {Q : VK} (R : Rel X.K F0 B ρ σ F H) (e1 : ev ρ = some r) (q : ∀ v F' H', Step F H F' H' → Dp X.K F' v r.v → Q v H') : wE X e σ H Q :=
  h F0 B ρ σ F H r Q R e1 fun v F' H' s rp => let ⟨F'', s', _, d⟩ := freeze s rp; q v F'' H' s' d
/-- the visible names -/
theorem vis_of (O : Ok X ci C G) {x : Str} (h : visB ci x = true) : Vis X.env.scope x := by
  unfold visB knd at h
  rw [← O.sc] at h
  unfold Vis
  split at h <;> simp_all
theorem loc_of (O : Ok X ci C G) {x : Str} (h : locB ci x = true) : L2.Loc X.env.scope x := by
  unfold locB knd at h
  rw [← O.sc] at h
  unfold L2.Loc
  split at h <;> simp_all
theorem gl_of (O : Ok X ci C G) {x : Str} (h : glB ci x = true) : Gl X x := by
  unfold glB knd at h
  rw [← O.sc] at h
  unfold Gl
  show X.env.scope.names.lookup x = _
  split at h <;> simp_all
theorem star_of {e : Expr} {es : List Expr} {env : Env} (h : noStar e = true) : starEach (e :: es) env = (false, eval e env) :: starEach es env := by
  cases e <;> first | rfl | cases h
theorem stars_of {env : Env} {pos : Pos} : ∀ {es : List Expr}, noStars es = true → (backTo pos (starEach es env)).any (·.1) = false
  | [], _ => rfl
  | e :: es, h => by
    unfold noStars at h
    rw [List.all_cons, Bool.and_eq_true] at h
    rw [star_of h.1]
    show (false || (backTo pos (starEach es env)).any (·.1)) = false
    rw [stars_of (es := es) h.2]; rfl
theorem nm_of (O : Ok X ci C G) {i : Nat} {x : Str} (h : ci.N[i]? = some x) : X.N[i]? = some x := by rw [O.N]; exact h

theorem snd_var_b (O : Ok X ci C G) {i : Nat} {x : Str} {pos : Pos} (h : isE ci (.var i) (.Name x pos) = true) : SndB X (.Name x pos) (fun ρ => slotR ρ i) := by
  intro F0 B ρ σ F H d Q R e q
  have h : (decide (ci.N[i]? = some x) && visB ci x && okName x) = true := h
  simp only [Bool.and_eq_true, decide_eq_true_eq] at h
  obtain ⟨⟨h1, h2⟩, h3⟩ := h
  unfold okName at h3
  simp only [Bool.and_eq_true, Bool.not_eq_true'] at h3
  obtain ⟨y, e1, b⟩ := R.slotR e
  exact wE_of (pe_var (nm_of O h1) (vis_of O h2) h3.1.1 h3.1.2) ⟨y, e1, q y F H (Step.rfl' R.le) b⟩
theorem snd_var (O : Ok X ci C G) {i : Nat} {x : Str} {pos : Pos} (h : isE ci (.var i) (.Name x pos) = true) : Snd X (.Name x pos) (evE C G (.var i)) := by
  intro F0 B ρ σ F H r Q R e q
  have h : (decide (ci.N[i]? = some x) && visB ci x && okName x) = true := h
  simp only [Bool.and_eq_true, decide_eq_true_eq] at h
  obtain ⟨⟨h1, h2⟩, h3⟩ := h
  unfold okName at h3
  simp only [Bool.and_eq_true, Bool.not_eq_true'] at h3
  have e : (match ρ[i]? with | some (.val v) => some (⟨v, false⟩ : RV) | _ => none) = some r := e
  split at e
  · rename_i v h
    cases e
    obtain ⟨y, e1, b⟩ := R.val i v h
    exact wE_of (pe_var (nm_of O h1) (vis_of O h2) h3.1.1 h3.1.2) ⟨y, e1, q y F H (Step.rfl' R.le) (.of b)⟩
  · cases e
theorem snd_glob (O : Ok X ci C G) {y x : Str} {pos : Pos} (h : isE ci (.glob y) (.Name x pos) = true) : Snd X (.Name x pos) (evE C G (.glob y)) := by
  intro F0 B ρ σ F H r Q R e q
  have h : (decide (x = y) && glB ci x && okName x) = true := h
  simp only [Bool.and_eq_true, decide_eq_true_eq] at h
  obtain ⟨⟨h1, h2⟩, h3⟩ := h
  subst h1
  unfold okName at h3
  simp only [Bool.and_eq_true, Bool.not_eq_true'] at h3
  have e : (G x).map (fun v => (⟨v, false⟩ : RV)) = some r := e
  obtain ⟨v, e1, e2⟩ := Option.map_eq_some_iff.mp e
  subst e2
  obtain ⟨u, y, m, rl, d⟩ := O.glob x v e1
  exact wE_of (pe_glob (gl_of O h2) m rl h3.1.1) (q y F H (Step.rfl' R.le) (.of (d F)))
/-- constants -/
theorem snd_c {e : Expr} {v : V} {d : PV} (p : PE X e (tC v)) (h : ∀ F : Hp, Dp X.K F v d) : Snd X e (fun _ => some ⟨d, false⟩) := by
  intro F0 B ρ σ F H r Q R e q
  cases e
  exact wE_of p (q v F H (Step.rfl' R.le) (.of (h F)))

/-- looking: from Snd, or a name -/
theorem snd_rd {p : Tx} {e : Expr} {ev : En → Option RV} (h : Snd X e ev) (hv : ∀ i, p = .var i → SndB X e (fun ρ => slotR ρ i)) : SndB X e (fun ρ => rd p (ev ρ) ρ) := by
  intro F0 B ρ σ F H d Q R e1 q
  unfold rd at e1
  split at e1
  · exact hv _ rfl F0 B ρ σ F H d Q R e1 q
  · obtain ⟨r, e2, e3⟩ := Option.map_eq_some_iff.mp e1
    subst e3
    exact h F0 B ρ σ F H r Q R e2 fun v F' H' s rp => q v F' H' s rp.bor

theorem bind_some {α β : Type} {o : Option α} {f : α → Option β} {r : β} (h : (o >>= f) = some r) : ∃ a, o = some a ∧ f a = some r := by
  cases o with
  | none => cases h
  | some a => exact ⟨a, rfl, h⟩

/-- two operands, looked at -/
theorem snd_two {a b : Expr} {ea eb : En → Option PV} (ha : SndB X a ea) (hb : SndB X b eb) {x y : PV} {k : V → V → Hp → Prop} (R : Rel X.K F0 B ρ σ F H) (e1 : ea ρ = some x) (e2 : eb ρ = some y)
    (q : ∀ v w F' H', Step F H F' H' → Bor X.K F' H' v x → Bor X.K F' H' w y → k v w H') : wE X a σ H fun v H1 => wE X b σ H1 fun w H2 => k v w H2 :=
  ha F0 B ρ σ F H x _ R e1 fun v F1 H1 s1 b1 => hb F0 B ρ σ F1 H1 y _ (R.step s1) e2 fun w F2 H2 s2 b2 => q v w F2 H2 (s1.trans s2) (b1.step s2) b2

theorem lim_line {n : Nat} (h : n ≤ LIM) : n ≤ sizeLine := by rw [sizeLine_eq]; unfold LIM at h; omega

theorem int64 {a : Int} (h : a.natAbs < 18446744073709551616) : -(2 ^ 64) < a ∧ a < 2 ^ 64 := by
  constructor <;> omega

theorem snd_bin {o : Op2} {a b : Expr} {ea eb : En → Option PV} {pos : Pos} (ha : SndB X a ea) (hb : SndB X b eb) : Snd X (.BinOp a (opOp o) b pos) (fun ρ => do let x ← ea ρ; let y ← eb ρ; evBin o x y) := by
  intro F0 B ρ σ F H r Q R e q
  obtain ⟨x, e1, e⟩ := bind_some e
  obtain ⟨y, e2, e⟩ := bind_some e
  have two := @snd_two X F0 B ρ σ F H a b ea eb ha hb x y
  unfold evBin at e
  split at e
  · -- ints, +
    cases e
    exact wE_of (pe_op op_add pe_w pe_w) (two R e1 e2 fun v w F' H' s b1 b2 => ⟨_, _, b1.int, b2.int, q _ F' H' s (.of (.int _))⟩)
  · -- texts
    split at e
    · cases e
      exact wE_of (pe_op op_add_str pe_w pe_w) (two R e1 e2 fun v w F' H' s b1 b2 => ⟨_, _, b1.str, b2.str, lim_line (by assumption), q _ F' H' s (.of (.str _))⟩)
    · cases e
  · -- tuples
    split at e
    · rename_i hz
      cases e
      refine wE_of (pe_op op_catA pe_w pe_w) (two R e1 e2 fun v w F' H' s b1 b2 => ?_)
      obtain ⟨l, vs, rfl, h1, d1⟩ := b1.tup s.le
      obtain ⟨m, ws, rfl, h2, d2⟩ := b2.tup s.le
      have z : vs.length + ws.length ≤ sizeLine := by rw [dpAll_len d1, dpAll_len d2]; exact lim_line hz
      refine ⟨l, m, vs, ws, rfl, rfl, h1, h2, z, fun e0 => ?_, fun _ e0 => ?_, fun _ _ p np => ?_⟩
      · subst e0
        cases d1
        rcases b2 with b2 | ⟨_, _, _, c, _⟩
        · exact q _ F' H' s (.of b2)
        · cases c
      · subst e0
        cases d2
        rcases b1 with b1 | ⟨_, _, _, c, _⟩
        · refine q _ F' H' s (.of ?_)
          rw [List.append_nil]; exact b1
        · cases c
      · have s2 := Step.new (o := .tup (vs ++ ws)) s.le np
        exact q _ _ _ (s.trans s2) (.of (.tup (SqT.of upd_same) (dpAll_mono s2.f (dpAll_app d1 d2))))
    · cases e
  · -- lists
    split at e
    · rename_i hz
      cases e
      refine wE_of (pe_op opcat pe_w pe_w) (two R e1 e2 fun v w F' H' s b1 b2 => ?_)
      obtain ⟨l, vs, rfl, h1, d1⟩ := b1.list s.le
      obtain ⟨m, ws, rfl, h2, d2⟩ := b2.list s.le
      have z : vs.length + ws.length ≤ sizeLine := by rw [dpAll_len d1, dpAll_len d2]; exact lim_line hz
      refine ⟨l, m, vs, ws, rfl, rfl, h1, h2, z, fun p np => ?_⟩
      exact q _ _ _ (s.trans (Step.lay s.le np)) (.new (s.h.free np) upd_same (s.le.free np) (dpAll_app d1 d2))
    · cases e
  · cases e
    exact wE_of (pe_op op_sub pe_w pe_w) (two R e1 e2 fun v w F' H' s b1 b2 => ⟨_, _, b1.int, b2.int, q _ F' H' s (.of (.int _))⟩)
  · split at e
    · rename_i hz
      cases e
      simp only [Bool.or_eq_true, decide_eq_true_eq] at hz
      exact wE_of (pe_op op_mul pe_w pe_w) (two R e1 e2 fun v w F' H' s b1 b2 => ⟨_, _, b1.int, b2.int, hz.elim (fun z => .inl (int64 z)) (fun z => .inr (int64 z)), q _ F' H' s (.of (.int _))⟩)
    · cases e
  · -- a list so many times
    split at e
    · rename_i hz
      cases e
      simp only [Bool.and_eq_true, decide_eq_true_eq] at hz
      refine wE_of (pe_op oprepL pe_w pe_w) (two R e1 e2 fun v w F' H' s b1 b2 => ?_)
      obtain ⟨l, vs, rfl, h1, d1⟩ := b1.list s.le
      have zl := dpAll_len d1
      refine ⟨l, _, vs, rfl, b2.int, h1, hz.1.1, hz.1.2, by omega, fun p np => ?_⟩
      exact q _ _ _ (s.trans (Step.lay s.le np)) (.new (s.h.free np) upd_same (s.le.free np) (dpAll_rep d1 _))
    · cases e
  · -- a tuple so many times
    split at e
    · rename_i hz
      cases e
      simp only [Bool.and_eq_true, decide_eq_true_eq, Bool.not_eq_true'] at hz
      obtain ⟨⟨⟨z1, z2⟩, z3⟩, z4⟩ := hz
      rename_i ds k _
      by_cases k1 : k = 1
      · subst k1
        refine wE_of (pe_op op_repT1 pe_w pe_w) (two R e1 e2 fun v w F' H' s b1 b2 => ?_)
        obtain ⟨l, vs, hv, h1, d1⟩ := b1.tup s.le
        refine ⟨l, vs, hv, b2.int, h1, ?_⟩
        subst hv
        rcases b1 with b1 | ⟨_, _, _, c, _⟩
        · refine q _ F' H' s (.of ?_)
          have : (List.replicate (1 : Int).toNat ds).flatten = ds := by simp
          rw [this]; exact b1
        · cases c
      · refine wE_of (pe_op op_repT pe_w pe_w) (two R e1 e2 fun v w F' H' s b1 b2 => ?_)
        obtain ⟨l, vs, rfl, h1, d1⟩ := b1.tup s.le
        have zl := dpAll_len d1
        refine ⟨l, _, vs, rfl, b2.int, h1, fun e0 => ?_, by omega, z2, by omega, fun p np => ?_⟩
        · subst e0
          cases d1
          cases z3
        · have s2 := Step.new (o := .tup (List.replicate k.toNat vs).flatten) s.le np
          exact q _ _ _ (s.trans s2) (.of (.tup (SqT.of upd_same) (dpAll_mono s2.f (dpAll_rep d1 _))))
    · cases e
  · split at e
    · rename_i hz
      cases e
      simp only [Bool.and_eq_true, decide_eq_true_eq] at hz
      exact wE_of (pe_op op_fdiv pe_w pe_w) (two R e1 e2 fun v w F' H' s b1 b2 => ⟨_, _, b1.int, b2.int, hz, q _ F' H' s (.of (.int _))⟩)
    · cases e
  · split at e
    · rename_i hz
      cases e
      exact wE_of (pe_op op_mod pe_w pe_w) (two R e1 e2 fun v w F' H' s b1 b2 => ⟨_, _, b1.int, b2.int, hz, q _ F' H' s (.of (.int _))⟩)
    · cases e
  · split at e
    · rename_i hz
      cases e
      simp only [Bool.and_eq_true, decide_eq_true_eq] at hz
      exact wE_of (pe_op op_pow pe_w pe_w) (two R e1 e2 fun v w F' H' s b1 b2 => ⟨_, _, b1.int, b2.int, ⟨hz.1.1, by omega, hz.2⟩, q _ F' H' s (.of (.int _))⟩)
    · cases e
  · split at e
    · rename_i hz
      cases e
      simp only [Bool.and_eq_true, decide_eq_true_eq] at hz
      exact wE_of (pe_op op_shl pe_w pe_w) (two R e1 e2 fun v w F' H' s b1 b2 => ⟨_, _, b1.int, b2.int, ⟨hz.1.1, by omega, hz.2⟩, q _ F' H' s (.of (.int _))⟩)
    · cases e
  · cases e

/-- one operand, looked at -/
theorem SndB.run {a : Expr} {ea : En → Option PV} (ha : SndB X a ea) {x : PV} {Q : VK} (R : Rel X.K F0 B ρ σ F H) (e1 : ea ρ = some x) (q : ∀ v F' H', Step F H F' H' → Bor X.K F' H' v x → Q v H') : wE X a σ H Q := ha F0 B ρ σ F H x Q R e1 q
/-- the result is a truth value -/
theorem boolQ {r : RV} {b : Bool} {Q : VK} (er : (⟨.bool b, false⟩ : RV) = r) (q : ∀ v F' H', Step F H F' H' → RepR X.K H F' H' r v → Q v H') {F' H' : Hp} (s : Step F H F' H') : Q (.bl b) H' := by
  subst er; exact q _ F' H' s (.of (.bl b))

theorem snd_neg {a : Expr} {ea : En → Option PV} {pos : Pos} (ha : SndB X a ea) : Snd X (.UnaryOp .USub a pos) (fun ρ => do match ← ea ρ with | .int i => some ⟨.int (-i), false⟩ | _ => none) := by
  intro F0 B ρ σ F H r Q R e q
  obtain ⟨x, e1, e⟩ := bind_some e
  split at e
  · cases e
    exact wE_of (pe_un un_neg pe_w) (ha.run R e1 fun v F' H' s b => ⟨_, b.int, q _ F' H' s (.of (.int _))⟩)
  · cases e
/-- truth, of anything looked at -/
theorem tru_of {d : PV} {b : Bool} {v : V} (t : truth d = some b) (le : Same F H) (h : Bor X.K F H v d) : TruV X.K v H b := by
  unfold truth at t
  split at t
  · cases t; rw [h.none]; rfl
  · cases t; rw [h.bool]; rfl
  · cases t; rw [h.int]; rfl
  · split at t
    · cases t; rw [h.str]; exact ⟨lim_line (by assumption), by rw [Bool.eq_iff_iff]; simp⟩
    · cases t
  · cases t
    rename_i xs
    obtain ⟨a, vs, rfl, h1, d1⟩ := h.list le
    refine .inl ⟨vs, h1, ?_⟩
    have := dpAll_len d1
    cases vs <;> cases xs <;> first | rfl | cases this
  · cases t
    rename_i xs
    obtain ⟨a, vs, rfl, h1, d1⟩ := h.tup le
    refine .inr (.inl ⟨vs, h1, ?_⟩)
    have := dpAll_len d1
    cases vs <;> cases xs <;> first | rfl | cases this
  · cases t
theorem snd_not {a : Expr} {ea : En → Option PV} {pos : Pos} (ha : SndB X a ea) : Snd X (.UnaryOp .Not a pos) (fun ρ => do let x ← ea ρ; (truth x).map fun b => ⟨.bool (!b), false⟩) := by
  intro F0 B ρ σ F H r Q R e q
  obtain ⟨x, e1, e⟩ := bind_some e
  obtain ⟨b, t, e⟩ := Option.map_eq_some_iff.mp e
  exact wE_of (pe_notT pe_w) (ha.run R e1 fun v F' H' s bo => ⟨b, tru_of t s.le bo, boolQ (X := X) e q s⟩)
theorem mark_of {b : Expr} {op : CmpOp} (h : noSet b = true) : behindInMarks op b = false := by
  cases b <;> first | rfl | cases h
theorem snd_cmp {o : Cm} {a b : Expr} {ea eb : En → Option PV} {pos : Pos} (hu : X.A.units + 100 < cLine) (hb2 : noSet b = true) (ha : SndB X a ea) (hb : SndB X b eb) :
    Snd X (.Compare a [cmOp o] [b] pos) (fun ρ => do let x ← ea ρ; let y ← eb ρ; (evCmp o x y).map fun c => ⟨.bool c, false⟩) := by
  intro F0 B ρ σ F H r Q R e q
  obtain ⟨x, e1, e⟩ := bind_some e
  obtain ⟨y, e2, e⟩ := bind_some e
  obtain ⟨c, hc, e⟩ := Option.map_eq_some_iff.mp e
  exact wE_of (pe_cmpR (op_cmP hu o) pe_w pe_w (mark_of hb2)) (snd_two ha hb R e1 e2 fun v w F' H' s b1 b2 => ⟨x, y, c, b1.dp s.le, b2.dp s.le, hc, boolQ (X := X) e q s⟩)
theorem snt_cmp {o : Cm} {a b : Expr} {ea eb : En → Option PV} {pos : Pos} (hu : X.A.units + 100 < cLine) (hb2 : noSet b = true) (ha : SndB X a ea) (hb : SndB X b eb) :
    SndT X (.Compare a [cmOp o] [b] pos) (fun ρ => do let x ← ea ρ; let y ← eb ρ; (evCmp o x y).map fun c => (.bool c : PV)) := by
  intro F0 B ρ σ F H d k Q R e t q
  obtain ⟨x, e1, e⟩ := bind_some e
  obtain ⟨y, e2, e⟩ := bind_some e
  obtain ⟨c, hc, e⟩ := Option.map_eq_some_iff.mp e
  subst e
  obtain rfl : c = k := Option.some.inj t
  exact wT_of (pt_cmpR (op_cmP hu o) pe_w pe_w (mark_of hb2)) (snd_two ha hb R e1 e2 fun v w F' H' s b1 b2 => ⟨x, y, c, b1.dp s.le, b2.dp s.le, hc, c, rfl, q F' H' s⟩)
theorem bor_none {v : V} {d : PV} (h : Bor X.K F H v d) : decide (v = .non) = isNone d := by
  rcases h with h | ⟨a, vs, ds, rfl, rfl, _⟩
  · cases h <;> rfl
  · rfl
theorem snd_isN {a : Expr} {ea : En → Option PV} {pos p2 : Pos} {j : Nat} (ha : SndB X a ea) : Snd X (.Compare a [.Is] [.Constant .none j p2] pos) (fun ρ => do let x ← ea ρ; some ⟨.bool (isNone x), false⟩) := by
  intro F0 B ρ σ F H r Q R e q
  obtain ⟨x, e1, e⟩ := bind_some e
  exact wE_of (pe_cmpR op_isN pe_w pe_non (nomark _)) (ha.run R e1 fun v F' H' s bo => ⟨rfl, by rw [bor_none bo]; exact boolQ (X := X) (Option.some.inj e) q s⟩)
theorem snd_notN {a : Expr} {ea : En → Option PV} {pos p2 : Pos} {j : Nat} (ha : SndB X a ea) : Snd X (.Compare a [.IsNot] [.Constant .none j p2] pos) (fun ρ => do let x ← ea ρ; some ⟨.bool (!isNone x), false⟩) := by
  intro F0 B ρ σ F H r Q R e q
  obtain ⟨x, e1, e⟩ := bind_some e
  exact wE_of (pe_cmpR op_notN pe_w pe_non (nomark _)) (ha.run R e1 fun v F' H' s bo => ⟨rfl, by rw [bor_none bo]; exact boolQ (X := X) (Option.some.inj e) q s⟩)
theorem snt_isN {a : Expr} {ea : En → Option PV} {pos p2 : Pos} {j : Nat} (ha : SndB X a ea) : SndT X (.Compare a [.Is] [.Constant .none j p2] pos) (fun ρ => do let x ← ea ρ; some (.bool (isNone x))) := by
  intro F0 B ρ σ F H d k Q R e t q
  obtain ⟨x, e1, e⟩ := bind_some e
  cases e
  cases t
  exact wT_of (pt_cmpR op_isN pe_w pe_non (nomark _)) (ha.run R e1 fun v F' H' s bo => ⟨rfl, _, rfl, by rw [bor_none bo]; exact q F' H' s⟩)
theorem snt_notN {a : Expr} {ea : En → Option PV} {pos p2 : Pos} {j : Nat} (ha : SndB X a ea) : SndT X (.Compare a [.IsNot] [.Constant .none j p2] pos) (fun ρ => do let x ← ea ρ; some (.bool (!isNone x))) := by
  intro F0 B ρ σ F H d k Q R e t q
  obtain ⟨x, e1, e⟩ := bind_some e
  cases e
  cases t
  exact wT_of (pt_cmpR op_notN pe_w pe_non (nomark _)) (ha.run R e1 fun v F' H' s bo => ⟨rfl, _, rfl, by rw [bor_none bo]; exact q F' H' s⟩)
theorem snd_isB {a : Expr} {ea : En → Option PV} {pos p2 : Pos} {j : Nat} {b : Bool} (ha : SndB X a ea) : Snd X (.Compare a [.Is] [.Constant (.bool b) j p2] pos) (fun ρ => do match ← ea ρ with | .bool c => some ⟨.bool (decide (c = b)), false⟩ | _ => none) := by
  intro F0 B ρ σ F H r Q R e q
  obtain ⟨x, e1, e⟩ := bind_some e
  split at e
  · exact wE_of (pe_cmpR op_is_bl pe_w pe_bl (nomark _)) (ha.run R e1 fun v F' H' s bo => ⟨_, _, bo.bool, rfl, boolQ (X := X) (Option.some.inj e) q s⟩)
  · cases e
theorem snt_isB {a : Expr} {ea : En → Option PV} {pos p2 : Pos} {j : Nat} {b : Bool} (ha : SndB X a ea) : SndT X (.Compare a [.Is] [.Constant (.bool b) j p2] pos) (fun ρ => do match ← ea ρ with | .bool c => some (.bool (decide (c = b))) | _ => none) := by
  intro F0 B ρ σ F H d k Q R e t q
  obtain ⟨x, e1, e⟩ := bind_some e
  split at e
  · cases e
    cases t
    exact wT_of (pt_cmpR op_is_bl pe_w pe_bl (nomark _)) (ha.run R e1 fun v F' H' s bo => ⟨_, _, bo.bool, rfl, _, rfl, q F' H' s⟩)
  · cases e

theorem snd_chain {o o' : Cm} {a b c : Expr} {ea eb ec : En → Option PV} {pos : Pos} (hu : X.A.units + 100 < cLine) (hb2 : noSet b = true) (hc2 : noSet c = true) (ha : SndB X a ea) (hb : SndB X b eb) (hc : SndB X c ec) :
    Snd X (.Compare a [cmOp o, cmOp o'] [b, c] pos) (fun ρ => do
      let x ← ea ρ
      let y ← eb ρ
      let k ← evCmp o x y
      if k then do
        let z ← ec ρ
        (evCmp o' y z).map fun c => ⟨.bool c, false⟩
      else some ⟨.bool false, false⟩) := by
  intro F0 B ρ σ F H r Q R e q
  obtain ⟨x, e1, e⟩ := bind_some e
  obtain ⟨y, e2, e⟩ := bind_some e
  obtain ⟨k, e3, e⟩ := bind_some e
  refine wE_of (pe_chain (op_cmP hu o) (op_cmP hu o') pe_w pe_w pe_w (show lastMarks _ _ = false from mark_of hc2)) (snd_two ha hb R e1 e2 fun v w F' H' s b1 b2 => ⟨x, y, k, b1.dp s.le, b2.dp s.le, e3, k, rfl, ?_⟩)
  cases k with
  | true =>
    rw [if_pos rfl] at e ⊢
    obtain ⟨z, e4, e⟩ := bind_some e
    obtain ⟨c', h', e⟩ := Option.map_eq_some_iff.mp e
    exact hc.run (R.step s) e4 fun u F2 H2 s2 b3 => ⟨y, z, c', (b2.step s2).dp s2.le, b3.dp s2.le, h', boolQ (X := X) e q (s.trans s2)⟩
  | false =>
    rw [if_neg Bool.false_ne_true] at e ⊢
    exact boolQ (X := X) (Option.some.inj e) q s
end
end Pz
set_option Elab.async false
set_option linter.all false
set_option maxRecDepth 100000
set_option maxHeartbeats 1000000
/-! Pz: and, or, displays, subscripts, calls. -/
namespace Pz
open PySem PySem.Spec PyProof.Rows L2

theorem RepR.weak {K : PySem.W.Frag} {H H1 F' H' : Hp} {r : RV} {v : V} (s : Same H H1) (h : RepR K H1 F' H' r v) : RepR K H F' H' r v := by
  obtain ⟨d, fr⟩ := r
  cases fr with
  | false => exact .of h.va
  | true =>
    obtain ⟨a, vs, ds, rfl, rfl, h0, h1, h2, h3⟩ := h.fr
    exact .new (s.free h0) h1 h2 h3
theorem rd_va {C : Str → List PV → Option RV} {G : Str → Option PV} {p : Tx} {ρ : En} {x : PV} {r : RV} (h1 : rd p (evE C G p ρ) ρ = some x) (h2 : evE C G p ρ = some r) : x = r.v := by
  unfold rd at h1
  split at h1
  · rename_i i
    have h2 : (match ρ[i]? with | some (.val v) => some (⟨v, false⟩ : RV) | _ => none) = some r := h2
    unfold slotR at h1
    split at h2
    · rename_i v hv
      rw [hv] at h1
      cases h1; cases h2; rfl
    · cases h2
  · rw [h2] at h1; exact (Option.some.inj h1).symm

section
variable {X : Cx} {ci : CI} {C : Str → List PV → Option RV} {G : Str → Option PV} {F0 B : Hp} {ρ : En} {σ : L2.St} {F H : Hp}

/-- a and b, as a value: a's own value where it is false -/
theorem snd_and {a : Tx} {ea : Expr} {ec : Expr} {es : List Expr} {pos : Pos} {eb : En → Option RV} (ha : SndB X ea (fun ρ => rd a (evE C G a ρ) ρ)) (ha2 : Snd X ea (evE C G a)) (hb : Snd X (.BoolOp .And (ec :: es) pos) eb) :
    Snd X (.BoolOp .And (ea :: ec :: es) pos) (fun ρ => do let x ← rd a (evE C G a ρ) ρ; let k ← truth x; if k then eb ρ else evE C G a ρ) := by
  intro F0 B ρ σ F H r Q R e q
  obtain ⟨x, e1, e⟩ := bind_some e
  obtain ⟨k, t, e⟩ := bind_some e
  cases k with
  | true =>
    rw [if_pos rfl] at e
    refine wE_of (pe_andT pe_w pe_w) (ha.run R e1 fun v F' H' s bo => ⟨true, tru_of t s.le bo, ?_⟩)
    rw [if_pos rfl]
    exact hb F0 B ρ σ F' H' r Q (R.step s) e fun w F2 H2 s2 rp => q w F2 H2 (s.trans s2) (rp.weak s.h)
  | false =>
    rw [if_neg Bool.false_ne_true] at e
    refine wE_of (pe_andT pe_w pe_w) (ha2 F0 B ρ σ F H r _ R e fun v F' H' s rp => ⟨false, ?_, ?_⟩)
    · obtain rfl := rd_va e1 e
      exact tru_of t s.le rp.bor
    · rw [if_neg Bool.false_ne_true]; exact q v F' H' s rp
theorem snd_or {a : Tx} {ea : Expr} {ec : Expr} {es : List Expr} {pos : Pos} {eb : En → Option RV} (ha : SndB X ea (fun ρ => rd a (evE C G a ρ) ρ)) (ha2 : Snd X ea (evE C G a)) (hb : Snd X (.BoolOp .Or (ec :: es) pos) eb) :
    Snd X (.BoolOp .Or (ea :: ec :: es) pos) (fun ρ => do let x ← rd a (evE C G a ρ) ρ; let k ← truth x; if k then evE C G a ρ else eb ρ) := by
  intro F0 B ρ σ F H r Q R e q
  obtain ⟨x, e1, e⟩ := bind_some e
  obtain ⟨k, t, e⟩ := bind_some e
  cases k with
  | false =>
    rw [if_neg Bool.false_ne_true] at e
    refine wE_of (pe_orT pe_w pe_w) (ha.run R e1 fun v F' H' s bo => ⟨false, tru_of t s.le bo, ?_⟩)
    rw [if_neg Bool.false_ne_true]
    exact hb F0 B ρ σ F' H' r Q (R.step s) e fun w F2 H2 s2 rp => q w F2 H2 (s.trans s2) (rp.weak s.h)
  | true =>
    rw [if_pos rfl] at e
    refine wE_of (pe_orT pe_w pe_w) (ha2 F0 B ρ σ F H r _ R e fun v F' H' s rp => ⟨true, ?_, ?_⟩)
    · obtain rfl := rd_va e1 e
      exact tru_of t s.le rp.bor
    · rw [if_pos rfl]; exact q v F' H' s rp
theorem snd_one {op : BoolOp} {a : Expr} {pos : Pos} {ev : En → Option RV} (h : Snd X a ev) : Snd X (.BoolOp op [a] pos) ev := by
  intro F0 B ρ σ F H r Q R e q
  exact wE_of (pe_one pe_w) (h F0 B ρ σ F H r Q R e q)
/-- a test whatever the whole is -/
def wW (X : Cx) (e : Expr) : TT := fun σ H Q => ∀ (whole : Sem Value) (pins : List (Addr × Obj)) (s : Shared), Inv X pins σ H s → wpAny (model X.prog X.w) X.A (isTrue e X.env whole) (TP X pins σ Q) X.xe s
theorem pw_w {e : Expr} : PW X e (wW X e) := ⟨fun whole pins s σ H Q I h => h whole pins s I⟩
theorem wW_of {e : Expr} {t : TT} {σ : L2.St} {H : Hp} {Q : Bool → Hp → Prop} (h : PW X e t) (q : t σ H Q) : wW X e σ H Q := fun whole pins s I => h.run whole pins s σ H Q I q
def SndW (X : Cx) (e : Expr) (ev : En → Option PV) : Prop := ∀ (F0 B : Hp) (ρ : En) (σ : L2.St) (F H : Hp) (d : PV) (b : Bool) (Q : Bool → Hp → Prop), Rel X.K F0 B ρ σ F H → ev ρ = some d → truth d = some b →
  (∀ F' H', Step F H F' H' → Q b H') → wW X e σ H Q
theorem SndW.t {e : Expr} {ev : En → Option PV} (h : SndW X e ev) : SndT X e ev := fun F0 B ρ σ F H d b Q R e1 t q => wT_of pw_w.pt (h F0 B ρ σ F H d b Q R e1 t q)
theorem sw_and {ea ec : Expr} {es : List Expr} {pos : Pos} {xa xb : En → Option PV} (ha : SndT X ea xa) (hb : SndW X (.BoolOp .And (ec :: es) pos) xb) :
    SndW X (.BoolOp .And (ea :: ec :: es) pos) (fun ρ => do let x ← xa ρ; let k ← truth x; if k then xb ρ else xa ρ) := by
  intro F0 B ρ σ F H d b Q R e t q
  obtain ⟨x, e1, e⟩ := bind_some e
  obtain ⟨k, tk, e⟩ := bind_some e
  refine wW_of (pw_and pt_w pw_w) (ha F0 B ρ σ F H x k _ R e1 tk fun F' H' s => ?_)
  cases k with
  | true =>
    rw [if_pos rfl] at e ⊢
    exact hb F0 B ρ σ F' H' d b Q (R.step s) e t fun F2 H2 s2 => q F2 H2 (s.trans s2)
  | false =>
    rw [if_neg Bool.false_ne_true] at e ⊢
    rw [e1] at e; cases e
    rw [tk] at t; cases t
    exact q F' H' s
theorem sw_or {ea ec : Expr} {es : List Expr} {pos : Pos} {xa xb : En → Option PV} (ha : SndT X ea xa) (hb : SndW X (.BoolOp .Or (ec :: es) pos) xb) :
    SndW X (.BoolOp .Or (ea :: ec :: es) pos) (fun ρ => do let x ← xa ρ; let k ← truth x; if k then xa ρ else xb ρ) := by
  intro F0 B ρ σ F H d b Q R e t q
  obtain ⟨x, e1, e⟩ := bind_some e
  obtain ⟨k, tk, e⟩ := bind_some e
  refine wW_of (pw_or pt_w pw_w) (ha F0 B ρ σ F H x k _ R e1 tk fun F' H' s => ?_)
  cases k with
  | false =>
    rw [if_neg Bool.false_ne_true] at e ⊢
    exact hb F0 B ρ σ F' H' d b Q (R.step s) e t fun F2 H2 s2 => q F2 H2 (s.trans s2)
  | true =>
    rw [if_pos rfl] at e ⊢
    rw [e1] at e; cases e
    rw [tk] at t; cases t
    exact q F' H' s
theorem sw_and1 {ea : Expr} {pos : Pos} {xa : En → Option PV} (ha : SndT X ea xa) : SndW X (.BoolOp .And [ea] pos) xa := fun F0 B ρ σ F H d b Q R e t q => wW_of (pw_and1 pt_w) (ha F0 B ρ σ F H d b Q R e t q)
theorem sw_or1 {ea : Expr} {pos : Pos} {xa : En → Option PV} (ha : SndT X ea xa) : SndW X (.BoolOp .Or [ea] pos) xa := fun F0 B ρ σ F H d b Q R e t q => wW_of (pw_or1 pt_w) (ha F0 B ρ σ F H d b Q R e t q)
theorem snt_not {a : Expr} {xa : En → Option PV} {pos : Pos} (ha : SndT X a xa) : SndT X (.UnaryOp .Not a pos) (fun ρ => do let x ← xa ρ; (truth x).map fun b => (.bool (!b) : PV)) := by
  intro F0 B ρ σ F H d b Q R e t q
  obtain ⟨x, e1, e⟩ := bind_some e
  obtain ⟨k, tk, e⟩ := Option.map_eq_some_iff.mp e
  subst e
  obtain rfl : (!k) = b := Option.some.inj t
  exact wT_of (pt_not pt_w) (ha F0 B ρ σ F H x k _ R e1 tk q)
theorem plainT_of {e : Expr} {env : Env} (h : plainT e = true) : ∀ whole, isTrue e env whole = (do let v ← whole; standAt e.pos; holding [v] (truthy v)) := by
  cases e <;> first | (intro _; rfl) | cases h
/-- a test by the truth of its value -/
theorem snt_plain {a : Expr} {xa : En → Option PV} (hp : plainT a = true) (ha : SndB X a xa) : SndT X a xa := by
  intro F0 B ρ σ F H d b Q R e t q
  exact wT_of (pt_truth pe_w (plainT_of hp)) (ha.run R e fun v F' H' s bo => ⟨b, tru_of t s.le bo, q F' H' s⟩)

theorem snd_ife {c a b : Expr} {xc : En → Option PV} {ea eb : En → Option RV} {pos : Pos} (hc : SndT X c xc) (ha : Snd X a ea) (hb : Snd X b eb) : Snd X (.IfExp c a b pos) (fun ρ => do let x ← xc ρ; let k ← truth x; if k then ea ρ else eb ρ) := by
  intro F0 B ρ σ F H r Q R e q
  obtain ⟨x, e1, e⟩ := bind_some e
  obtain ⟨k, t, e⟩ := bind_some e
  refine wE_of (pe_ifExp pt_w pe_w pe_w) (hc F0 B ρ σ F H x k _ R e1 t fun F' H' s => ?_)
  cases k with
  | true =>
    rw [if_pos rfl] at e ⊢
    exact ha F0 B ρ σ F' H' r Q (R.step s) e fun w F2 H2 s2 rp => q w F2 H2 (s.trans s2) (rp.weak s.h)
  | false =>
    rw [if_neg Bool.false_ne_true] at e ⊢
    exact hb F0 B ρ σ F' H' r Q (R.step s) e fun w F2 H2 s2 rp => q w F2 H2 (s.trans s2) (rp.weak s.h)

/-! ### arguments -/
theorem sa_nil : SndA X [] (fun _ => some []) := by
  intro F0 B ρ σ F H ds Q R e q
  cases e
  exact wA_of pa_nil (q [] F H (Step.rfl' R.le) .nil)
theorem sa_cons {e : Expr} {es : List Expr} {ev : En → Option RV} {evs : En → Option (List PV)} (hs : noStar e = true) (h : Snd X e ev) (hr : SndA X es evs) : SndA X (e :: es) (fun ρ => do let r ← ev ρ; let vs ← evs ρ; some (r.v :: vs)) := by
  intro F0 B ρ σ F H ds Q R e q
  obtain ⟨r, e1, e⟩ := bind_some e
  obtain ⟨vs, e2, e⟩ := bind_some e
  cases e
  exact wA_of (pa_cons pe_w pa_w (star_of hs)) (h.va R e1 fun v F' H' s d => hr F0 B ρ σ F' H' vs _ (R.step s) e2 fun ws F2 H2 s2 ds => q (v :: ws) F2 H2 (s.trans s2) (.cons (dp_mono s2.f d) ds))
theorem sr_nil : SndR X [] (fun _ => some []) := by
  intro F0 B ρ σ F H ds Q R e q
  cases e
  exact wA_of pa_nil (q [] F H (Step.rfl' R.le) .nil)
theorem sr_cons {e : Expr} {es : List Expr} {ev : En → Option PV} {evs : En → Option (List PV)} (hs : noStar e = true) (h : SndB X e ev) (hr : SndR X es evs) : SndR X (e :: es) (fun ρ => do let r ← ev ρ; let vs ← evs ρ; some (r :: vs)) := by
  intro F0 B ρ σ F H ds Q R e q
  obtain ⟨r, e1, e⟩ := bind_some e
  obtain ⟨vs, e2, e⟩ := bind_some e
  cases e
  exact wA_of (pa_cons pe_w pa_w (star_of hs)) (h.run R e1 fun v F' H' s d => hr F0 B ρ σ F' H' vs _ (R.step s) e2 fun ws F2 H2 s2 ds => q (v :: ws) F2 H2 (s.trans s2) (.cons (d.step s2) ds))

theorem snd_tup {es : List Expr} {evs : En → Option (List PV)} {j : Nat} {pos : Pos} (h : SndA X es evs) (hz : ∀ ρ ds, evs ρ = some ds → ds.length ≤ LIM) : Snd X (.Tuple es j pos) (fun ρ => (evs ρ).map fun vs => ⟨.tuple vs, false⟩) := by
  intro F0 B ρ σ F H r Q R e q
  obtain ⟨ds, e1, e⟩ := Option.map_eq_some_iff.mp e
  subst e
  refine wE_of (pe_tup pa_w) (h F0 B ρ σ F H ds _ R e1 fun vs F' H' s d => ⟨by rw [dpAll_len d]; exact lim_line (hz ρ ds e1), fun p np => ?_⟩)
  have s2 := Step.new (o := .tup vs) s.le np
  exact q _ _ _ (s.trans s2) (.of (.tup (SqT.of upd_same) (dpAll_mono s2.f d)))
theorem snd_lst {es : List Expr} {evs : En → Option (List PV)} {pos : Pos} (h : SndA X es evs) (hz : ∀ ρ ds, evs ρ = some ds → ds.length ≤ LIM) : Snd X (.List es pos) (fun ρ => (evs ρ).map fun vs => ⟨.list vs, true⟩) := by
  intro F0 B ρ σ F H r Q R e q
  obtain ⟨ds, e1, e⟩ := Option.map_eq_some_iff.mp e
  subst e
  refine wE_of (pe_lst pa_w) (h F0 B ρ σ F H ds _ R e1 fun vs F' H' s d => ⟨by rw [dpAll_len d]; exact lim_line (hz ρ ds e1), fun p np => ?_⟩)
  exact q _ _ _ (s.trans (Step.lay s.le np)) (.new (s.h.free np) upd_same (s.le.free np) d)

/-! ### subscripts -/
theorem plainIx_of {b : Expr} (h : plainIx b = true) : PlainIx b := by
  cases b <;> first | exact fun _ _ => rfl | cases h
theorem ix_same (n : Nat) (i : Int) : ixOf n i = ixN n i := rfl
theorem snd_idx {a b : Expr} {ea eb : En → Option PV} {pos : Pos} (hp : plainIx b = true) (ha : SndB X a ea) (hb : SndB X b eb) : Snd X (.Subscript a b pos) (fun ρ => do let x ← ea ρ; let y ← eb ρ; (evIdx x y).map (⟨·, false⟩)) := by
  intro F0 B ρ σ F H r Q R e q
  obtain ⟨x, e1, e⟩ := bind_some e
  obtain ⟨y, e2, e⟩ := bind_some e
  obtain ⟨d, e3, e⟩ := Option.map_eq_some_iff.mp e
  subst e
  unfold evIdx at e3
  split at e3
  · obtain ⟨j, e4, e5⟩ := Option.bind_eq_some_iff.mp e3
    refine wE_of (pe_ix ix_list pe_w pe_w (plainIx_of hp)) (snd_two ha hb R e1 e2 fun v w F' H' s b1 b2 => ?_)
    obtain ⟨a, vs, rfl, h1, d1⟩ := b1.list s.le
    obtain ⟨v, e6, d2⟩ := dpAll_get d1 e5
    refine ⟨a, vs, _, v, rfl, b2.int, h1, ?_, q v F' H' s (.of d2)⟩
    unfold atI
    rw [← ix_same, dpAll_len d1, e4]
    exact e6
  · obtain ⟨j, e4, e5⟩ := Option.bind_eq_some_iff.mp e3
    refine wE_of (pe_ix ix_tup pe_w pe_w (plainIx_of hp)) (snd_two ha hb R e1 e2 fun v w F' H' s b1 b2 => ?_)
    obtain ⟨a, vs, rfl, h1, d1⟩ := b1.tup s.le
    obtain ⟨v, e6, d2⟩ := dpAll_get d1 e5
    refine ⟨a, vs, _, v, rfl, b2.int, h1, ?_, q v F' H' s (.of d2)⟩
    unfold atI
    rw [← ix_same, dpAll_len d1, e4]
    exact e6
  · split at e3
    · rename_i hz
      obtain ⟨c, e4, e6⟩ := Option.map_eq_some_iff.mp e3
      subst e6
      refine wE_of (pe_ix ix_str pe_w pe_w (plainIx_of hp)) (snd_two ha hb R e1 e2 fun v w F' H' s b1 b2 => ?_)
      exact ⟨_, _, c, b1.str, b2.int, lim_line hz, by unfold atI; rw [Array.length_toList]; exact e4, q _ F' H' s (.of (.str _))⟩
    · cases e3
  · cases e3
def SndO (X : Cx) (e : Option Expr) (ev : En → Option (Option Int)) : Prop := ∃ t, PO X e t ∧ ∀ (F0 B : Hp) (ρ : En) (σ : L2.St) (F H : Hp) (o : Option Int) (Q : Option Int → Hp → Prop), Rel X.K F0 B ρ σ F H → ev ρ = some o → (∀ F' H', Step F H F' H' → Q o H') → t σ H Q
theorem so_no : SndO X none (fun _ => some none) := ⟨_, po_none, fun F0 B ρ σ F H o Q R e q => by cases e; exact q F H (Step.rfl' R.le)⟩
theorem so_so {e : Expr} {ev : En → Option PV} (h : SndB X e ev) : SndO X (some e) (fun ρ => do match ← ev ρ with | .int i => some (some i) | _ => none) := ⟨_, po_some pe_w, fun F0 B ρ σ F H o Q R e q => by
  obtain ⟨x, e1, e⟩ := bind_some e
  split at e
  · cases e
    exact h.run R e1 fun v F' H' s bo => ⟨_, bo.int, q F' H' s⟩
  · cases e⟩
theorem snd_cut {a : Expr} {lo hi : Option Expr} {ea : En → Option PV} {el eh : En → Option (Option Int)} {pos p2 : Pos} (ha : SndB X a ea) (hl : SndO X lo el) (hh : SndO X hi eh) :
    Snd X (.Subscript a (.Slice lo hi none p2) pos) (fun ρ => do let x ← ea ρ; let l ← el ρ; let h ← eh ρ; evCut x l h) := by
  intro F0 B ρ σ F H r Q R e q
  obtain ⟨tl, pl, hl⟩ := hl
  obtain ⟨th, ph, hh⟩ := hh
  obtain ⟨x, e1, e⟩ := bind_some e
  obtain ⟨l, e2, e⟩ := bind_some e
  obtain ⟨h, e3, e⟩ := bind_some e
  have go : ∀ {k : V → Hp → Prop}, (∀ v F' H', Step F H F' H' → Bor X.K F' H' v x → k v H') → wE X a σ H fun v H1 => tl σ H1 fun l' H2 => th σ H2 fun h' H3 => l' = l ∧ h' = h ∧ k v H3 := fun {k} kq =>
    ha.run R e1 fun v F1 H1 s1 b1 => hl F0 B ρ σ F1 H1 l _ (R.step s1) e2 fun F2 H2 s2 => hh F0 B ρ σ F2 H2 h _ (R.step (s1.trans s2)) e3 fun F3 H3 s3 =>
      ⟨rfl, rfl, kq v F3 H3 ((s1.trans s2).trans s3) (b1.step (s2.trans s3))⟩
  have go2 : ∀ {rr : V → Option Int → Option Int → Hp → VK → Prop}, (∀ v F' H', Step F H F' H' → Bor X.K F' H' v x → rr v l h H' Q) → wE X a σ H fun v H1 => tl σ H1 fun l' H2 => th σ H2 fun h' H3 => rr v l' h' H3 Q := fun {rr} kq =>
    ha.run R e1 fun v F1 H1 s1 b1 => hl F0 B ρ σ F1 H1 l _ (R.step s1) e2 fun F2 H2 s2 => hh F0 B ρ σ F2 H2 h _ (R.step (s1.trans s2)) e3 fun F3 H3 s3 =>
      kq v F3 H3 ((s1.trans s2).trans s3) (b1.step (s2.trans s3))
  cases x with
  | list xs =>
    have e : some (⟨.list (cutL xs l h), true⟩ : RV) = some r := e
    cases e
    refine wE_of (pe_slice sl_list pe_w pl ph) (go2 fun v F' H' s bo => ?_)
    obtain ⟨a, vs, rfl, h1, d1⟩ := bo.list s.le
    refine ⟨a, vs, rfl, h1, fun p np => q _ _ _ (s.trans (Step.lay s.le np)) (.new (s.h.free np) upd_same (s.le.free np) ?_)⟩
    unfold cutV cutL
    rw [dpAll_len d1]
    exact dpAll_take _ (dpAll_drop _ d1)
  | tuple xs =>
    have e : some (⟨.tuple (cutL xs l h), false⟩ : RV) = some r := e
    cases e
    refine wE_of (pe_slice sl_tupA pe_w pl ph) (go2 fun v F' H' s bo => ?_)
    obtain ⟨a, vs, rfl, h1, d1⟩ := bo.tup s.le
    have dc : DpAll X.K F' (cutV vs l h) (cutL xs l h) := by
      unfold cutV cutL
      rw [dpAll_len d1]
      exact dpAll_take _ (dpAll_drop _ d1)
    refine ⟨a, vs, rfl, h1, fun ⟨w1, w2⟩ => ?_, fun _ p np => ?_⟩
    · have : cutL xs l h = xs := by
        unfold cutL
        rw [← dpAll_len d1, w1, w2, List.drop_zero, Nat.sub_zero, dpAll_len d1, List.take_length]
      rw [this] at q
      rcases bo with bo | ⟨_, _, _, c, _⟩
      · exact q _ F' H' s (.of bo)
      · cases c
    · have s2 := Step.new (o := .tup (cutV vs l h)) s.le np
      exact q _ _ _ (s.trans s2) (.of (.tup (SqT.of upd_same) (dpAll_mono s2.f dc)))
  | str z =>
    have e : (if z.length ≤ LIM then some (⟨.str (cutS z l h), false⟩ : RV) else none) = some r := e
    split at e
    · rename_i hz
      cases e
      refine wE_of (pe_slice sl_str pe_w pl ph) (go2 fun v F' H' s bo => ⟨_, bo.str, lim_line hz, q _ F' H' s (.of (.str _))⟩)
    · cases e
  | none => cases e
  | bool b => cases e
  | int i => cases e
  | dict kvs => cases e

/-! ### calls -/
theorem snd_call (O : Ok X ci C G) {f : Str} {es : List Expr} {evs : En → Option (List PV)} {p pos : Pos} {e : Expr} (hg : Gl X f) (hn : (f == ("__debug__" : Str)) = false) (hs : noStar e = true) (hst : noStars es = true) (h : SndA X (e :: es) evs) :
    Snd X (.Call (.Name f p) (e :: es) [] pos) (fun ρ => do let vs ← evs ρ; C f vs) := by
  intro F0 B ρ σ F H r Q R er q
  obtain ⟨ds, e1, er⟩ := bind_some er
  obtain ⟨k, a, fd, ps, sp, Fn, hr, hm, hk, hb, hsp⟩ := O.call f ⟨ds, r, er⟩
  refine wE_of (pe_call Fn hr hg hm hk hb .nil pass0 pa_w hn (star_of hs) (stars_of hst)) (h F0 B ρ σ F H ds _ R e1 fun vs F' H' s d => ?_)
  rw [List.append_nil]
  exact hsp ds r vs F' H' Q er s.le d fun v F2 H2 s2 rp => q v F2 H2 (s.trans s2) (rp.weak s.h)
end
end Pz
set_option Elab.async false
set_option linter.all false
set_option maxRecDepth 100000
set_option maxHeartbeats 1000000
/-! Pz: built-ins. -/
namespace Pz
open PySem PySem.Spec PyProof.Rows L2

section
variable {X : Cx} {ci : CI} {C : Str → List PV → Option RV} {G : Str → Option PV} {F0 B : Hp} {ρ : En} {σ : L2.St} {F H : Hp}

theorem bor1 {K : PySem.W.Frag} {F H : Hp} {vs : List V} {d : PV} (h : BorAll K F H vs [d]) : ∃ v, vs = [v] ∧ Bor K F H v d := by
  cases h with
  | cons h t => cases t; exact ⟨_, rfl, h⟩
theorem bor2 {K : PySem.W.Frag} {F H : Hp} {vs : List V} {d e : PV} (h : BorAll K F H vs [d, e]) : ∃ v w, vs = [v, w] ∧ Bor K F H v d ∧ Bor K F H w e := by
  cases h with
  | cons h t =>
    cases t with
    | cons h2 t => cases t; exact ⟨_, _, rfl, h, h2⟩

/-- the rule that a built-in's call wants: from the values, what it gives -/
def BltR (X : Cx) (cv : Value) (ds : List PV) (r : RV) : Prop :=
  ∃ rr : List V → Hp → VK → Prop, CallR X cv rr ∧ ∀ (H0 F H : Hp) (vs : List V) (Q : VK), Same H0 H → Same F H → BorAll X.K F H vs ds → (∀ v F' H', Step F H F' H' → RepR X.K H0 F' H' r v → Q v H') → rr vs H Q

def blVal : Bl → Value
  | .len => .builtin "len" | .sum => .builtin "sum" | .min => .builtin "min" | .max => .builtin "max" | .all => .builtin "all" | .any => .builtin "any"
  | .tuple => .type "tuple" | .list => .type "list" | .sorted => .builtin "sorted" | .int => .type "int" | .str => .type "str" | .abs => .builtin "abs" | .bool => .type "bool" | .reversed => .type "reversed"

theorem blt_seqlen {cv : Value} {ds : List PV} {r : RV} (e : cv = .builtin "len") (d : PV) (xs : List PV) (hd : d = .list xs ∨ d = .tuple xs) (eds : ds = [d]) (er : r = ⟨.int xs.length, false⟩) : BltR X cv ds r := by
  subst e eds er
  refine ⟨_, call_len_seq, fun H0 F H vs Q sm le bb q => ?_⟩
  obtain ⟨v, rfl, b⟩ := bor1 bb
  rcases hd with rfl | rfl
  · obtain ⟨a, ws, rfl, h1, d1⟩ := b.list le
    exact ⟨a, ws, rfl, .inl h1, by rw [dpAll_len d1]; exact q _ F H (Step.rfl' le) (.of (.int _))⟩
  · obtain ⟨a, ws, rfl, h1, d1⟩ := b.tup le
    exact ⟨a, ws, rfl, .inr h1, by rw [dpAll_len d1]; exact q _ F H (Step.rfl' le) (.of (.int _))⟩

theorem sumT_raw {P : Program} {w : World} {A : Around} {E : Value → Shared → Prop} {s : Shared} {t : Addr} {its : List Value} {ns : List Int} {Q : Value → Shared → Prop} (hh : A.handled = none) (hl : s.heap.IsTuple t its.toArray) (hi : IntsAre its ns)
    (h : ∀ h' tk t', (∀ b o, s.heap.get? b = some o → h'.get? b = some o) → Q (.int ns.sum t') { s with heap := h', toks := tk }) : wpAny (model P w) A (call (.builtin "sum") [.ref t]) Q E s := by
  obtain ⟨xs, e⟩ := hi.allInts.items
  have hn : numsOf (intItems xs).toList = ns := by rw [← e]; exact hi.numsOf
  rw [nums_intItems] at hn
  rw [e] at hl
  refine PySem.W.ktm_sumG hh hl fun h' tk t' hk => ?_
  have := h h' tk t' hk
  rw [preSum_eq, List.take_of_length_le (by simp), hn]; exact this
def rSumT (K : PySem.W.Frag) : List V → Hp → VK → Prop := fun vs H Q => ∃ (a : Addr) (ns : List Int), vs = [V.ref a] ∧ SqT K H a (ns.map V.int) ∧ Q (.int ns.sum) H
theorem cr_sumT (hc : X.calm = true) : CallR X (.builtin "sum") (rSumT X.K) := by
  intro pins s σ H vs us Q I r h
  obtain ⟨a, ns, rfl, hs, q⟩ := h
  obtain ⟨its, rv, hl, _⟩ := I.tuple hs
  rw [Vals.ref1 r]
  exact sumT_raw (I.ok.hd hc) hl rv.ints fun h' tk t' hk => ⟨.int _, H, I.kept hk, ⟨_, rfl⟩, q⟩
theorem blt_all (hc : X.calm = true) (hu : X.A.units + 100 < cLine) {b : Bl} {ds : List PV} {r : RV} (e : evBlt b ds = some r) : BltR X (blVal b) ds r := by
  unfold evBlt at e
  split at e
  · cases e; exact blt_seqlen rfl _ _ (.inl rfl) rfl rfl
  · cases e; exact blt_seqlen rfl _ _ (.inr rfl) rfl rfl
  · split at e
    · rename_i hz
      cases e
      refine ⟨_, call_len_str, fun H0 F H vs Q sm le bb q => ?_⟩
      obtain ⟨v, rfl, b⟩ := bor1 bb
      exact ⟨_, by rw [b.str], lim_line hz, q _ F H (Step.rfl' le) (.of (.int _))⟩
    · cases e
  · obtain ⟨is, e1, e2⟩ := Option.map_eq_some_iff.mp e
    subst e2
    refine ⟨_, cr_sum hc, fun H0 F H vs Q sm le bb q => ?_⟩
    obtain ⟨v, rfl, b⟩ := bor1 bb
    obtain ⟨a, ws, rfl, h1, d1⟩ := b.list le
    exact ⟨a, is, rfl, by rw [← dpAll_int d1 e1]; exact h1, q _ F H (Step.rfl' le) (.of (.int _))⟩
  · obtain ⟨is, e1, e2⟩ := Option.map_eq_some_iff.mp e
    subst e2
    refine ⟨_, cr_sumT hc, fun H0 F H vs Q sm le bb q => ?_⟩
    obtain ⟨v, rfl, b⟩ := bor1 bb
    obtain ⟨a, ws, rfl, h1, d1⟩ := b.tup le
    exact ⟨a, is, rfl, by rw [← dpAll_int d1 e1]; exact h1, q _ F H (Step.rfl' le) (.of (.int _))⟩
  · obtain ⟨is, e1, e2⟩ := Option.map_eq_some_iff.mp e
    subst e2
    refine ⟨_, cr_all hc, fun H0 F H vs Q sm le bb q => ?_⟩
    obtain ⟨v, rfl, b⟩ := bor1 bb
    obtain ⟨a, ws, rfl, h1, d1⟩ := b.list le
    exact ⟨a, is, rfl, by rw [← dpAll_bool d1 e1]; exact h1, q _ F H (Step.rfl' le) (.of (.bl _))⟩
  · obtain ⟨is, e1, e2⟩ := Option.map_eq_some_iff.mp e
    subst e2
    refine ⟨_, cr_any hc, fun H0 F H vs Q sm le bb q => ?_⟩
    obtain ⟨v, rfl, b⟩ := bor1 bb
    obtain ⟨a, ws, rfl, h1, d1⟩ := b.list le
    exact ⟨a, is, rfl, by rw [← dpAll_bool d1 e1]; exact h1, q _ F H (Step.rfl' le) (.of (.bl _))⟩
  · cases e
    refine ⟨_, call_tuple_of, fun H0 F H vs Q sm le bb q => ?_⟩
    obtain ⟨v, rfl, b⟩ := bor1 bb
    obtain ⟨a, ws, rfl, h1, d1⟩ := b.list le
    refine ⟨a, ws, rfl, .inl ⟨h1, fun p np => ?_⟩⟩
    have s2 := Step.new (o := .tup ws) le np
    exact q _ _ _ s2 (.of (.tup (SqT.of upd_same) (dpAll_mono s2.f d1)))
  · cases e
    refine ⟨_, call_tuple_of, fun H0 F H vs Q sm le bb q => ?_⟩
    obtain ⟨v, rfl, b⟩ := bor1 bb
    have b0 := b
    obtain ⟨a, ws, rfl, h1, d1⟩ := b.tup le
    refine ⟨a, ws, rfl, .inr ⟨h1, ?_⟩⟩
    rcases b0 with b0 | ⟨_, _, _, c, _⟩
    · exact q _ F H (Step.rfl' le) (.of b0)
    · cases c
  · cases e
    refine ⟨_, call_list_of, fun H0 F H vs Q sm le bb q => ?_⟩
    obtain ⟨v, rfl, b⟩ := bor1 bb
    obtain ⟨a, ws, rfl, h1, d1⟩ := b.list le
    refine ⟨a, ws, rfl, .inl h1, fun p np => ?_⟩
    exact q _ _ _ (Step.lay le np) (.new (sm.free np) upd_same (le.free np) d1)
  · cases e
    refine ⟨_, call_list_of, fun H0 F H vs Q sm le bb q => ?_⟩
    obtain ⟨v, rfl, b⟩ := bor1 bb
    obtain ⟨a, ws, rfl, h1, d1⟩ := b.tup le
    refine ⟨a, ws, rfl, .inr h1, fun p np => ?_⟩
    exact q _ _ _ (Step.lay le np) (.new (sm.free np) upd_same (le.free np) d1)
  · cases e
    refine ⟨_, call_int1, fun H0 F H vs Q sm le bb q => ?_⟩
    obtain ⟨v, rfl, b⟩ := bor1 bb
    exact .inl ⟨_, by rw [b.int], q _ F H (Step.rfl' le) (.of (.int _))⟩
  · cases e
    refine ⟨_, call_int1, fun H0 F H vs Q sm le bb q => ?_⟩
    obtain ⟨v, rfl, b⟩ := bor1 bb
    exact .inr ⟨_, by rw [b.bool], q _ F H (Step.rfl' le) (.of (.int _))⟩
  · cases e
    refine ⟨_, call_abs, fun H0 F H vs Q sm le bb q => ?_⟩
    obtain ⟨v, rfl, b⟩ := bor1 bb
    exact ⟨_, by rw [b.int], q _ F H (Step.rfl' le) (.of (.int _))⟩
  · cases e
    refine ⟨_, call_min2 hc, fun H0 F H vs Q sm le bb q => ?_⟩
    obtain ⟨v, w, rfl, b1, b2⟩ := bor2 bb
    exact ⟨_, _, by rw [b1.int, b2.int], q _ F H (Step.rfl' le) (.of (.int _))⟩
  · cases e
    refine ⟨_, call_max2 hc, fun H0 F H vs Q sm le bb q => ?_⟩
    obtain ⟨v, w, rfl, b1, b2⟩ := bor2 bb
    exact ⟨_, _, by rw [b1.int, b2.int], q _ F H (Step.rfl' le) (.of (.int _))⟩
  · split at e
    · rename_i hz
      cases e
      refine ⟨_, cr_sorted_d hu, fun H0 F H vs Q sm le bb q => ?_⟩
      obtain ⟨v, rfl, b⟩ := bor1 bb
      obtain ⟨a, ws, rfl, h1, d1⟩ := b.list le
      exact ⟨a, ws, _, rfl, h1, dpAll_mono le d1, hz, fun p vs' np hF => q _ _ _ (Step.lay le np) (.new (sm.free np) upd_same (le.free np) (hF F d1))⟩
    · cases e
  · obtain ⟨d, e1, e2⟩ := Option.map_eq_some_iff.mp e
    subst e2
    refine ⟨_, cr_min_d hc hu, fun H0 F H vs Q sm le bb q => ?_⟩
    obtain ⟨v, rfl, b⟩ := bor1 bb
    obtain ⟨a, ws, rfl, h1, d1⟩ := b.list le
    refine ⟨a, ws, _, d, rfl, h1, dpAll_mono le d1, e1, fun i v hv hi => ?_⟩
    obtain ⟨w, h2, h3⟩ := dpAll_get d1 hi
    rw [hv] at h2; cases h2
    exact q _ F H (Step.rfl' le) (.of h3)
  · obtain ⟨d, e1, e2⟩ := Option.map_eq_some_iff.mp e
    subst e2
    refine ⟨_, cr_max_d hc hu, fun H0 F H vs Q sm le bb q => ?_⟩
    obtain ⟨v, rfl, b⟩ := bor1 bb
    obtain ⟨a, ws, rfl, h1, d1⟩ := b.list le
    refine ⟨a, ws, _, d, rfl, h1, dpAll_mono le d1, e1, fun i v hv hi => ?_⟩
    obtain ⟨w, h2, h3⟩ := dpAll_get d1 hi
    rw [hv] at h2; cases h2
    exact q _ F H (Step.rfl' le) (.of h3)
  · split at e
    · rename_i hz
      cases e
      refine ⟨_, cr_sorted_dT hu, fun H0 F H vs Q sm le bb q => ?_⟩
      obtain ⟨v, rfl, b⟩ := bor1 bb
      obtain ⟨a, ws, rfl, h1, d1⟩ := b.tup le
      exact ⟨a, ws, _, rfl, h1, dpAll_mono le d1, hz, fun p vs' np hF => q _ _ _ (Step.lay le np) (.new (sm.free np) upd_same (le.free np) (hF F d1))⟩
    · cases e
  · obtain ⟨d, e1, e2⟩ := Option.map_eq_some_iff.mp e
    subst e2
    refine ⟨_, cr_min_dT hc hu, fun H0 F H vs Q sm le bb q => ?_⟩
    obtain ⟨v, rfl, b⟩ := bor1 bb
    obtain ⟨a, ws, rfl, h1, d1⟩ := b.tup le
    refine ⟨a, ws, _, d, rfl, h1, dpAll_mono le d1, e1, fun i v hv hi => ?_⟩
    obtain ⟨w, h2, h3⟩ := dpAll_get d1 hi
    rw [hv] at h2; cases h2
    exact q _ F H (Step.rfl' le) (.of h3)
  · obtain ⟨d, e1, e2⟩ := Option.map_eq_some_iff.mp e
    subst e2
    refine ⟨_, cr_max_dT hc hu, fun H0 F H vs Q sm le bb q => ?_⟩
    obtain ⟨v, rfl, b⟩ := bor1 bb
    obtain ⟨a, ws, rfl, h1, d1⟩ := b.tup le
    refine ⟨a, ws, _, d, rfl, h1, dpAll_mono le d1, e1, fun i v hv hi => ?_⟩
    obtain ⟨w, h2, h3⟩ := dpAll_get d1 hi
    rw [hv] at h2; cases h2
    exact q _ F H (Step.rfl' le) (.of h3)
  · cases e
theorem bl_boot (b : Bl) : bootBuiltins (blName b) = some (blVal b) := by cases b <;> decide +kernel
theorem bl_name (b : Bl) : blName b ≠ "__name__" ∧ (blName b == ("__debug__" : Str)) = false ∧ blName b ∈ bltNames := by cases b <;> decide +kernel
theorem snd_blt (O : Ok X ci C G) {b : Bl} {es : List Expr} {evs : En → Option (List PV)} {p pos : Pos} {e : Expr} (hg : Gl X (blName b)) (hs : noStar e = true) (hst : noStars es = true) (h : SndR X (e :: es) evs) :
    Snd X (.Call (.Name (blName b) p) (e :: es) [] pos) (fun ρ => do let vs ← evs ρ; evBlt b vs) := by
  intro F0 B ρ σ F H r Q R er q
  obtain ⟨ds, e1, er⟩ := bind_some er
  obtain ⟨rr, hr, hk⟩ := blt_all O.calm O.hu er
  obtain ⟨n1, n2, n3⟩ := bl_name b
  have hv := bl_boot b
  have hm := O.blt _ n3
  have rest : ∀ {t : List V → Hp → VK → Prop}, t = rr → tCB t (wA X (e :: es)) σ H Q := fun {t} et => by
    subst et
    exact h F0 B ρ σ F H ds _ R e1 fun vs F' H' s bo => hk H F' H' vs Q s.h s.le bo fun v F2 H2 s2 rp => q v F2 H2 (s.trans s2) rp
  cases b <;> first
    | exact wE_of (pe_callB hr hg hm hv pa_w n1 n2 (star_of hs) (stars_of hst)) (rest rfl)
    | exact wE_of (pe_callTy hr hg hm hv pa_w n1 n2 (star_of hs) (stars_of hst)) (rest rfl)
/-- comb(a, b) -/
def rComb : List V → Hp → VK → Prop := fun vs H Q => ∃ i j : Int, vs = [.int i, .int j] ∧ 0 ≤ i ∧ 0 ≤ j ∧ i ≤ 18000 ∧ Q (.int (PySem.W.mcComb i j)) H
theorem cr_comb : CallR X (.builtin "math.comb") rComb := by
  intro pins s σ H vs us Q I r h
  obtain ⟨i, j, rfl, hi, hj, hz, q⟩ := h
  obtain ⟨u, v, rfl, ru, rv⟩ := Vals.two r
  obtain ⟨t, rfl⟩ := ru
  obtain ⟨t', rfl⟩ := rv
  exact PySem.W.mc_comb hi hj (by omega) (.inr hz) fun _ => ⟨.int _, H, I.tok _, ⟨_, rfl⟩, q⟩
theorem snd_comb (O : Ok X ci C G) {a b : Expr} {ea eb : En → Option PV} {p pos : Pos} (hg : Gl X ("comb" : Str)) (hm : X.mg ("comb" : Str) = some (.builtin "math.comb")) (hs : noStar a = true) (hs2 : noStar b = true) (ha : SndB X a ea) (hb : SndB X b eb) :
    Snd X (.Call (.Name "comb" p) [a, b] [] pos) (fun ρ => do let x ← ea ρ; let y ← eb ρ; evComb x y) := by
  intro F0 B ρ σ F H r Q R e q
  obtain ⟨x, e1, e⟩ := bind_some e
  obtain ⟨y, e2, e⟩ := bind_some e
  cases x with
  | int i =>
    cases y with
    | int j =>
      have e : (if 0 ≤ i && 0 ≤ j && decide (i ≤ 18000) then some (⟨.int (PySem.W.mcComb i j), false⟩ : RV) else none) = some r := e
      split at e
      · rename_i hz
        simp only [Bool.and_eq_true, decide_eq_true_eq] at hz
        cases e
        exact wE_of (pe_callBfun cr_comb hg hm (pa_cons pe_w (pa_cons pe_w pa_nil (star_of hs2)) (star_of hs)) (by decide) (star_of hs) (by rw [star_of hs2]; rfl))
          (snd_two ha hb R e1 e2 fun v w F' H' s b1 b2 => ⟨i, j, by rw [b1.int, b2.int], hz.1.1, hz.1.2, hz.2, q _ F' H' s (.of (.int _))⟩)
      · cases e
    | _ => cases e
  | _ => cases e
/-- isinstance -/
theorem ty_boot (t : Ty) : bootBuiltins (tyName t) = some (.type (tyS t)) := by cases t <;> decide +kernel
theorem ty_name (t : Ty) : tyName t ≠ "__name__" ∧ (tyName t == ("__debug__" : Str)) = false ∧ tyName t ∈ bltNames := by cases t <;> decide +kernel
theorem snd_isi (O : Ok X ci C G) {a : Expr} {t : Ty} {ea : En → Option PV} {p p2 pos : Pos} (hg : Gl X ("isinstance" : Str)) (hg2 : Gl X (tyName t)) (hs : noStar a = true) (ha : SndB X a ea) :
    Snd X (.Call (.Name "isinstance" p) [a, .Name (tyName t) p2] [] pos) (fun ρ => do let x ← ea ρ; (isiB x t).map fun c => ⟨.bool c, false⟩) := by
  intro F0 B ρ σ F H r Q R e q
  obtain ⟨x, e1, e⟩ := bind_some e
  obtain ⟨c, hc, e⟩ := Option.map_eq_some_iff.mp e
  obtain ⟨n1, n2, n3⟩ := ty_name t
  have hT : PE X (.Name (tyName t) p2) (tC (.ty (tyS t))) := pe_bltn hg2 (O.blt _ n3) (ty_boot t) rfl n1 n2
  have pa2 : PA X [.Name (tyName t) p2] (tCons (tC (.ty (tyS t))) tNil) := pa_cons hT pa_nil
  exact wE_of (pe_callB cr_isi hg (O.blt _ (by decide +kernel)) (by decide +kernel) (pa_cons pe_w pa2 (star_of hs)) (by decide +kernel) (by decide +kernel) (star_of hs) (by rfl))
    (ha.run R e1 fun v F' H' s bo => ⟨v, x, t, c, rfl, bo.dp s.le, hc, boolQ (X := X) e q s⟩)
/-- max(a, default=d), min(a, default=d) -/
theorem snd_best (O : Ok X ci C G) {b : Bool} {a d : Expr} {ea : En → Option PV} {ed : En → Option RV} {p pos kp : Pos} (hg : Gl X (if b then "max" else "min" : Str)) (hs : noStar a = true) (ha : SndB X a ea) (hd : Snd X d ed) :
    Snd X (.Call (.Name (if b then "max" else "min" : Str) p) [a] [⟨some ("default" : Str), d, kp⟩] pos) (fun ρ => do
      let x ← ea ρ
      let y ← ed ρ
      evBest b x y.v) := by
  intro F0 B ρ σ F H r Q R e q
  obtain ⟨x, e1, e⟩ := bind_some e
  obtain ⟨y, e2, e⟩ := bind_some e
  have rd : tCKw (rBestD X.K b) (tCons (wE X a) tNil) (tCons (wE X d) tNil) σ H Q := by
    refine ha.run R e1 fun v F1 H1 s1 bo => (hd.va (R.step s1) e2 fun w F2 H2 s2 dw => ?_)
    have s := s1.trans s2
    have bo := bo.step s2
    cases x with
    | list xs =>
      obtain ⟨a, ws, rfl, h1, d1⟩ := bo.list s.le
      refine ⟨a, ws, xs, w, rfl, rfl, h1, dpAll_mono s.le d1, ?_⟩
      cases xs with
      | nil =>
        have e : some (⟨y.v, false⟩ : RV) = some r := e
        cases e
        exact .inl ⟨rfl, q _ F2 H2 s (.of dw)⟩
      | cons z zs =>
        have e : (bestB b (z :: zs)).map (fun d => (⟨d, false⟩ : RV)) = some r := e
        obtain ⟨k, e3, e4⟩ := Option.map_eq_some_iff.mp e
        subst e4
        refine .inr ⟨k, e3, fun i v hv hi => ?_⟩
        obtain ⟨u, h2, h3⟩ := dpAll_get d1 hi
        rw [hv] at h2; cases h2
        exact q _ F2 H2 s (.of h3)
    | none => cases e
    | bool b => cases e
    | int i => cases e
    | str x => cases e
    | tuple xs => cases e
    | dict kvs => cases e
  cases b with
  | true => exact wE_of (pe_callBK (cr_maxD O.calm O.hu) hg (O.blt _ (by decide +kernel)) (by decide +kernel) (pa_cons pe_w pa_nil (star_of hs)) (pk_cons pe_w pk_nil) (by decide +kernel) (by decide +kernel) (by rw [star_of hs]; rfl) (by rw [star_of hs]; rfl)) rd
  | false => exact wE_of (pe_callBK (cr_minD O.calm O.hu) hg (O.blt _ (by decide +kernel)) (by decide +kernel) (pa_cons pe_w pa_nil (star_of hs)) (pk_cons pe_w pk_nil) (by decide +kernel) (by decide +kernel) (by rw [star_of hs]; rfl) (by rw [star_of hs]; rfl)) rd
end
end Pz
set_option Elab.async false
set_option linter.all false
set_option maxRecDepth 100000
set_option maxHeartbeats 1000000
/-! Pz: a name's own dict. -/
namespace Pz
open PySem PySem.Spec PyProof.Rows L2
section
variable {X : Cx} {ci : CI} {C : Str → List PV → Option RV} {G : Str → Option PV} {F0 B : Hp} {ρ : En} {σ : L2.St} {F H : Hp}
theorem dAt_of {i : Nat} {y : PV} {o : Option PV} (h : dAt ρ i y = some o) : ∃ kvs k, ρ[i]? = some (Sl.dic kvs) ∧ keyO y = some k ∧ o = lkp kvs k := by
  unfold dAt at h
  split at h
  · rename_i kvs k e1 e2
    cases h
    exact ⟨kvs, k, e1, e2, rfl⟩
  · cases h
theorem key_of {v : V} {y : PV} {k : L2.Key} (b : Bor X.K F H v y) (e : keyO y = some k) : v = kV k := by
  cases y with
  | int i => cases e; exact b.int
  | str x => cases e; exact b.str
  | _ => cases e
/-- the name of one's own dict, read -/
theorem dic_rd (O : Ok X ci C G) {i : Nat} {x : Str} {p : Pos} (h : rdB ci i x = true) (R : Rel X.K F0 B ρ σ F H) {kvs : List (L2.Key × PV)} (e : ρ[i]? = some (Sl.dic kvs)) {Q : VK} (q : ∀ a r, σ[i]? = some (some (V.ref a)) → H a = some (.dK r) → DpKv X.K F r kvs → Q (.ref a) H) : wE X (.Name x p) σ H Q := by
  have h : (decide (ci.N[i]? = some x) && visB ci x && okName x) = true := h
  simp only [Bool.and_eq_true, decide_eq_true_eq] at h
  obtain ⟨⟨h1, h2⟩, h3⟩ := h
  unfold okName at h3
  simp only [Bool.and_eq_true, Bool.not_eq_true'] at h3
  obtain ⟨a, r, e1, e2, _, _, d⟩ := R.ownD i kvs e
  exact wE_of (pe_var (nm_of O h1) (vis_of O h2) h3.1.1 h3.1.2) ⟨_, e1, q a r e1 e2 d⟩
theorem dpKv_keys {K : PySem.W.Frag} {F : Hp} : ∀ {r : List (L2.Key × V)} {q : List (L2.Key × PV)} {ks : List Int}, DpKv K F r q → keysI q = some ks → r.map (·.1) = ks.map Sum.inl
  | _, _, ks, .nil, e => by cases e; rfl
  | _, _, ks, .cons (k := k) h hs, e => by
    cases k with
    | inl i =>
      obtain ⟨r, e1, e2⟩ := Option.map_eq_some_iff.mp (show (keysI _).map (i :: ·) = some ks from e)
      subst e2
      rw [List.map_cons, List.map_cons, dpKv_keys hs e1]
    | inr x => cases e
theorem le_totalI : PySem.W.TotalLe (fun a b : Int => decide (a ≤ b)) where
  total := fun a b => by simp only [decide_eq_true_eq]; omega
  trans := fun a b c => by simp only [decide_eq_true_eq]; omega
theorem sortI_perm {ns ms : List Int} (h1 : ms.Pairwise (· ≤ ·)) (h2 : ms.Perm ns) : ms = sortI ns := by
  have pm : ms.Perm (sortI ns) := h2.trans (sortB_perm _).symm
  refine pm.eq_of_pairwise (le := fun a b => a ≤ b) (fun a b _ _ p q => by omega) h1 ?_
  exact (sortB_sorted le_totalI ns).imp fun {a b} h => by simpa using h
theorem dpAll_ints {K : PySem.W.Frag} {F : Hp} : ∀ ns : List Int, DpAll K F (ns.map V.int) (ns.map .int)
  | [] => .nil
  | n :: r => .cons (.int n) (dpAll_ints r)
theorem snd_dsort (O : Ok X ci C G) {i : Nat} {x : Str} {p p2 pos : Pos} (hg : Gl X ("sorted" : Str)) (hn : rdB ci i x = true) : Snd X (.Call (.Name "sorted" p) [.Name x p2] [] pos) (fun ρ => match ρ[i]? with
    | some (.obj (.d kvs)) => (keysI kvs).bind fun ks => if ks.length < 64 then some ⟨.list ((sortI ks).map .int), true⟩ else none
    | _ => none) := by
  intro F0 B ρ σ F H r Q R e q
  dsimp only at e
  split at e
  · rename_i kvs e4
    obtain ⟨ks, ek, e⟩ := Option.bind_eq_some_iff.mp e
    split at e
    · rename_i hz
      cases e
      refine wE_of (pe_callB (call_sortedDI O.calm) hg (O.blt "sorted" (by decide +kernel)) (by decide +kernel) (pa_cons pe_w pa_nil rfl) (by decide +kernel) (by decide +kernel) rfl rfl) ?_
      refine dic_rd O hn R e4 fun a rr ea ha dd => ⟨a, rr, ks, rfl, .inl ha, dpKv_keys dd ek, hz, fun ys p pm pw np => ?_⟩
      have em := sortI_perm pw pm
      subst em
      exact q _ _ _ (Step.lay R.le np) (.new np upd_same (R.le.free np) (dpAll_ints _))
    · cases e
  · cases e
theorem snd_dget (O : Ok X ci C G) {i : Nat} {x : Str} {p pos : Pos} {ek : Expr} {k : En → Option PV} (hp : plainIx ek = true) (hn : rdB ci i x = true) (hk : SndB X ek k) : Snd X (.Subscript (.Name x p) ek pos) (fun ρ => do let y ← k ρ; let o ← dAt ρ i y; o.map (⟨·, false⟩)) := by
  intro F0 B ρ σ F H r Q R e q
  obtain ⟨y, e1, e⟩ := bind_some e
  obtain ⟨o, e2, e⟩ := bind_some e
  obtain ⟨d, e3, e⟩ := Option.map_eq_some_iff.mp e
  subst e e3
  obtain ⟨kvs, kk, e4, e5, e6⟩ := dAt_of e2
  refine wE_of (pe_dget (by have := O.hu; omega) pe_w pe_w (by cases ek <;> first | exact fun _ _ => rfl | cases hp)) (dic_rd O hn R e4 fun a rr ea ha dd => hk F0 B ρ σ F H y _ R e1 fun w F' H' s b => ?_)
  have dd' := dpKv_mono s.f dd
  obtain ⟨v, g1, g2⟩ := (dpKv_lkp kk dd').1 d e6.symm
  refine ⟨a, v, rfl, ?_, q v F' H' s (.of g2)⟩
  rw [key_of b e5, ← g1]
  exact DGet.k (s.h _ _ ha)
theorem m2_of {o e f : Expr} {m : Str} {apos cpos : Pos} (hb : attributeBase o m X.env (eval o X.env) = eval o X.env) (h1 : noStar e = true) (h2 : noStar f = true) (hl : (apos.endLine == cpos.line) = true) : M2 X o m apos e f cpos where
  base := hb
  few := by rw [star_of h1, star_of h2]; rfl
  line := hl
  trees := by rw [star_of h1, star_of h2]; rfl
theorem m1_of {o e : Expr} {m : Str} {apos cpos : Pos} (hb : attributeBase o m X.env (eval o X.env) = eval o X.env) (h1 : noStar e = true) (hl : (apos.endLine == cpos.line) = true) : M1 X o m apos e cpos where
  base := hb
  few := by rw [star_of h1]; rfl
  line := hl
  trees := by rw [star_of h1]; rfl
theorem snd_dgetd (O : Ok X ci C G) {i : Nat} {x : Str} {p apos cpos : Pos} {ek ed : Expr} {k : En → Option PV} {d : En → Option RV} (h1 : noStar ek = true) (h2 : noStar ed = true) (hl : (apos.endLine == cpos.line) = true) (hn : rdB ci i x = true) (hk : SndB X ek k) (hd : Snd X ed d) :
    Snd X (.Call (.Attribute (.Name x p) "get" apos) [ek, ed] [] cpos) (fun ρ => do let y ← k ρ; let z ← d ρ; let o ← dAt ρ i y; some ⟨o.getD z.v, false⟩) := by
  intro F0 B ρ σ F H r Q R e q
  obtain ⟨y, e1, e⟩ := bind_some e
  obtain ⟨z, ez, e⟩ := bind_some e
  obtain ⟨o, e2, e⟩ := bind_some e
  cases e
  obtain ⟨kvs, kk, e4, e5, e6⟩ := dAt_of e2
  refine wE_of (pe_dget2 (by have := O.hu; omega) pe_w pe_w pe_w (m2_of rfl h1 h2 hl)) (dic_rd O hn R e4 fun a rr ea ha dd => ⟨a, rfl, .inl ⟨rr, .inl ha⟩, hk F0 B ρ σ F H y _ R e1 fun w F' H' s b => hd.va (R.step s) ez fun u F2 H2 s2 du => ?_⟩)
  have dd' := dpKv_mono (s.trans s2).f dd
  refine ⟨valV rr kk, ?_, ?_⟩
  · rw [key_of b e5]
    exact DGet.k ((s.trans s2).h _ _ ha)
  · have g := dpKv_lkp kk dd'
    subst e6
    cases hq : lkp kvs kk with
    | none =>
      rw [g.2 hq]
      exact q u F2 H2 (s.trans s2) (.of (by rw [hq]; exact du))
    | some v =>
      obtain ⟨v', g1, g2⟩ := g.1 v hq
      rw [g1]
      exact q v' F2 H2 (s.trans s2) (.of (by rw [hq]; exact g2))
theorem snd_dget1 (O : Ok X ci C G) {i : Nat} {x : Str} {p apos cpos : Pos} {ek : Expr} {k : En → Option PV} (h1 : noStar ek = true) (hl : (apos.endLine == cpos.line) = true) (hn : rdB ci i x = true) (hk : SndB X ek k) :
    Snd X (.Call (.Attribute (.Name x p) "get" apos) [ek] [] cpos) (fun ρ => do let y ← k ρ; let o ← dAt ρ i y; some ⟨o.getD .none, false⟩) := by
  intro F0 B ρ σ F H r Q R e q
  obtain ⟨y, e1, e⟩ := bind_some e
  obtain ⟨o, e2, e⟩ := bind_some e
  cases e
  obtain ⟨kvs, kk, e4, e5, e6⟩ := dAt_of e2
  refine wE_of (pe_dget1 (by have := O.hu; omega) pe_w pe_w (m1_of rfl h1 hl)) (dic_rd O hn R e4 fun a rr ea ha dd => ⟨a, rfl, .inl ⟨rr, .inl ha⟩, hk F0 B ρ σ F H y _ R e1 fun w F' H' s b => ?_⟩)
  have dd' := dpKv_mono s.f dd
  refine ⟨valV rr kk, ?_, ?_⟩
  · rw [key_of b e5]
    exact DGet.k (s.h _ _ ha)
  · have g := dpKv_lkp kk dd'
    subst e6
    cases hq : lkp kvs kk with
    | none =>
      rw [g.2 hq]
      exact q .non F' H' s (.of (by rw [hq]; exact .non))
    | some v =>
      obtain ⟨v', g1, g2⟩ := g.1 v hq
      rw [g1]
      exact q v' F' H' s (.of (by rw [hq]; exact g2))
theorem din_core (O : Ok X ci C G) {i : Nat} {x : Str} {p : Pos} {ek : Expr} {k : En → Option PV} (hn : rdB ci i x = true) (hk : SndB X ek k) {y : PV} {o : Option PV} (R : Rel X.K F0 B ρ σ F H) (e1 : k ρ = some y) (e2 : dAt ρ i y = some o) {Q : Bool → Hp → Prop} (q : ∀ F' H', Step F H F' H' → Q o.isSome H') :
    wE X ek σ H fun v H1 => wE X (.Name x p) σ H1 fun w H2 => ∃ (a : Addr) (ov : Option V), w = .ref a ∧ DGet H2 a v ov ∧ Q ov.isSome H2 := by
  obtain ⟨kvs, kk, e4, e5, e6⟩ := dAt_of e2
  refine hk F0 B ρ σ F H y _ R e1 fun w F' H' s b => dic_rd O hn (R.step s) e4 fun a rr ea ha dd => ⟨a, valV rr kk, rfl, ?_, ?_⟩
  · rw [key_of b e5]
    exact DGet.k ha
  · have g := dpKv_lkp kk dd
    subst e6
    have : (valV rr kk).isSome = (lkp kvs kk).isSome := by
      cases hq : lkp kvs kk with
      | none => rw [g.2 hq]; rfl
      | some v => obtain ⟨v', g1, g2⟩ := g.1 v hq; rw [g1]; rfl
    rw [this]
    exact q F' H' s
theorem snd_din (O : Ok X ci C G) {i : Nat} {x : Str} {p pos : Pos} {b : Bool} {ek : Expr} {k : En → Option PV} (hn : rdB ci i x = true) (hk : SndB X ek k) :
    Snd X (.Compare ek [if b then .NotIn else .In] [.Name x p] pos) (fun ρ => do let y ← k ρ; let o ← dAt ρ i y; some ⟨.bool (o.isSome != b), false⟩) := by
  intro F0 B ρ σ F H r Q R e q
  obtain ⟨y, e1, e⟩ := bind_some e
  obtain ⟨o, e2, e⟩ := bind_some e
  cases e
  have hu : X.A.units + 1 < cLine := by have := O.hu; omega
  cases b with
  | false => exact wE_of (pe_cmp (pc_din hu pe_w pe_w) rfl) (din_core O hn hk R e1 e2 (Q := fun c H' => Q (.bl c) H') fun F' H' s => q _ F' H' s (.of (by cases o <;> exact .bl _)))
  | true => exact wE_of (pe_cmp (pc_dnotin hu pe_w pe_w) rfl) (din_core O hn hk R e1 e2 (Q := fun c H' => Q (.bl (!c)) H') fun F' H' s => q _ F' H' s (.of (by cases o <;> exact .bl _)))
theorem snt_din (O : Ok X ci C G) {i : Nat} {x : Str} {p pos : Pos} {b : Bool} {ek : Expr} {k : En → Option PV} (hn : rdB ci i x = true) (hk : SndB X ek k) :
    SndT X (.Compare ek [if b then .NotIn else .In] [.Name x p] pos) (fun ρ => do let y ← k ρ; let o ← dAt ρ i y; some (.bool (o.isSome != b))) := by
  intro F0 B ρ σ F H d kk Q R e t q
  obtain ⟨y, e1, e⟩ := bind_some e
  obtain ⟨o, e2, e⟩ := bind_some e
  cases e
  cases t
  have hu : X.A.units + 1 < cLine := by have := O.hu; omega
  cases b with
  | false => exact wT_of (pt_cmp (pc_din hu pe_w pe_w) rfl) (din_core O hn hk R e1 e2 (Q := fun c H' => ∃ b, V.bl c = .bl b ∧ Q b H') fun F' H' s => ⟨_, rfl, by cases o <;> exact q F' H' s⟩)
  | true => exact wT_of (pt_cmp (pc_dnotin hu pe_w pe_w) rfl) (din_core O hn hk R e1 e2 (Q := fun c H' => ∃ b, V.bl (!c) = .bl b ∧ Q b H') fun F' H' s => ⟨_, rfl, by cases o <;> exact q F' H' s⟩)
end
end Pz
set_option Elab.async false
set_option linter.all false
set_option maxRecDepth 100000
set_option maxHeartbeats 1000000
/-! Pz: sorted(set(..)), len(set(..)) as expressions. -/
namespace Pz
open PySem PySem.Spec PyProof.Rows L2
open PySem.W (dataLe)
section
variable {X : Cx} {ci : CI} {C : Str → List PV → Option RV} {G : Str → Option PV} {F0 B : Hp} {ρ : En} {σ : L2.St} {F H : Hp}
theorem tupsO_dp {K : PySem.W.Frag} {F : Hp} : ∀ {vs : List V} {ds : List PV} {ks : List (List Int)}, DpAll K F vs ds → tupsO ds = some ks → ∃ aks : List AK, vs = aks.map (fun p => V.ref p.1) ∧ aks.map (·.2) = ks ∧ ∀ p ∈ aks, SqT K F p.1 (p.2.map V.int)
  | _, _, ks, .nil, e => by cases e; exact ⟨[], rfl, rfl, fun p h => (by cases h)⟩
  | _, _, ks, .cons h hs, e => by
    cases h with
    | tup hq hd =>
      obtain ⟨k, e1, e⟩ := Option.bind_eq_some_iff.mp (show (intsO _).bind _ = some ks from e)
      obtain ⟨r, e2, e3⟩ := Option.map_eq_some_iff.mp e
      obtain ⟨aks, a1, a2, a3⟩ := tupsO_dp hs e2
      subst e3
      refine ⟨(_, k) :: aks, by rw [List.map_cons, ← a1], by rw [List.map_cons, a2], fun p hp => ?_⟩
      rcases List.mem_cons.mp hp with rfl | hp
      · rw [← dpAll_int hd e1]; exact hq
      · exact a3 p hp
    | non => cases e
    | bl b => cases e
    | int i => cases e
    | str x => cases e
    | lst _ _ => cases e
theorem sortI_uniq {ns ms : List Int} (h1 : ms.Pairwise (· < ·)) (h2 : ∀ k, k ∈ ms ↔ k ∈ ns) : ms = sortI (dd ns) := by
  have nd : ms.Nodup := h1.imp fun {a b} h e => by omega
  have pm : ms.Perm (sortI (dd ns)) := ((List.perm_ext_iff_of_nodup nd (dd_nodup ns)).mpr fun x => by rw [h2, dd_mem]).trans (sortB_perm _).symm
  refine pm.eq_of_pairwise (le := fun a b => a ≤ b) (fun a b _ _ p q => by omega) (h1.imp fun {a b} h => by omega) ?_
  exact (sortB_sorted le_totalI (dd ns)).imp fun {a b} h => by simpa using h
theorem tupD_inj {a b : List Int} (h : tupD a = tupD b) : a = b := by
  unfold tupD at h
  injection h with h
  have : ∀ a b : List Int, a.map PyData.int = b.map PyData.int → a = b := fun a => by
    induction a with
    | nil => intro b h; cases b with | nil => rfl | cons _ _ => cases h
    | cons x a ih =>
      intro b h
      cases b with
      | nil => cases h
      | cons y b =>
        rw [List.map_cons, List.map_cons] at h
        injection h with h1 h2
        injection h1 with h1
        rw [h1, ih b h2]
  exact this a b h
theorem tupD_anti {a b : List Int} (h1 : dataLe false id (tupD a) (tupD b) = true) (h2 : dataLe false id (tupD b) (tupD a) = true) : a = b := by
  have lt : ∀ x y : List Int, PySem.W.dataLt (tupD x) (tupD y) = PySem.W.listLt x y := fun x y => PySem.W.DatumOrd.lt_eq (α := PySem.W.Tup Int) ⟨x⟩ ⟨y⟩
  have e1 : dataLe false id (tupD a) (tupD b) = !PySem.W.listLt b a := by rw [PySem.W.dataLe_eq]; show (!PySem.W.dataLt (tupD b) (tupD a)) = _; rw [lt]
  have e2 : dataLe false id (tupD b) (tupD a) = !PySem.W.listLt a b := by rw [PySem.W.dataLe_eq]; show (!PySem.W.dataLt (tupD a) (tupD b)) = _; rw [lt]
  rw [e1, Bool.not_eq_true'] at h1
  rw [e2, Bool.not_eq_true'] at h2
  clear e1 e2 lt
  induction a generalizing b with
  | nil =>
    cases b with
    | nil => rfl
    | cons y b => cases h2
  | cons x a ih =>
    cases b with
    | nil => cases h1
    | cons y b =>
      unfold PySem.W.listLt at h1 h2
      by_cases e : x = y
      · subst e
        rw [if_pos rfl] at h1 h2
        rw [ih h1 h2]
      · rw [if_neg (fun q => e q.symm)] at h1
        rw [if_neg e] at h2
        have q1 : ¬ y < x := by simpa using (show decide (y < x) = false from h1)
        have q2 : ¬ x < y := by simpa using (show decide (x < y) = false from h2)
        omega
theorem sortT_uniq {L : List (List Int)} {ks : List (List Int)} (nd : L.Nodup) (mm : ∀ k, k ∈ L ↔ k ∈ ks) (pw : L.Pairwise fun x y => dataLe false id (tupD x) (tupD y) = true) : L.map tupD = sortB (dataLe false id) ((dd ks).map tupD) := by
  have pm : (L.map tupD).Perm (sortB (dataLe false id) ((dd ks).map tupD)) := (((List.perm_ext_iff_of_nodup nd (dd_nodup ks)).mpr fun x => by rw [mm, dd_mem]).map _).trans (sortB_perm _).symm
  refine pm.eq_of_pairwise (le := fun a b => dataLe false id a b = true) (fun a b ha hb p q => ?_) (List.pairwise_map.mpr pw) (sortB_sorted (dataLe_total id) _)
  obtain ⟨x, _, rfl⟩ := List.mem_map.mp ha
  have hb := (sortB_perm _).mem_iff.mp hb
  obtain ⟨y, _, rfl⟩ := List.mem_map.mp hb
  rw [tupD_anti p q]
theorem snd_sset (O : Ok X ci C G) {a : Expr} {ea : En → Option PV} {p p2 pos pos2 : Pos} (hg : Gl X ("sorted" : Str)) (hg2 : Gl X ("set" : Str)) (hs : noStar a = true) (ha : SndB X a ea) :
    Snd X (.Call (.Name "sorted" p) [.Call (.Name "set" p2) [a] [] pos2] [] pos) (fun ρ => do let x ← ea ρ; evSset x) := by
  intro F0 B ρ σ F H r Q R er q
  obtain ⟨x, e1, er⟩ := bind_some er
  have m1 := O.blt "sorted" (by decide +kernel)
  have m2 := O.blt "set" (by decide +kernel)
  unfold evSset at er
  split at er
  · rename_i xs
    split at er
    · rename_i ns en
      split at er
      · rename_i hz
        cases er
        simp only [Bool.and_eq_true, decide_eq_true_eq] at hz
        refine wE_of (pe_callB (cr_sortedSet O.calm) hg m1 (by decide +kernel) (pa_cons (pe_callTy (cr_setN O.calm) hg2 m2 (by decide +kernel) (pa_cons pe_w pa_nil (star_of hs)) (by decide +kernel) (by decide +kernel) (star_of hs) rfl) pa_nil rfl) (by decide +kernel) (by decide +kernel) rfl rfl) ?_
        refine ha.run R e1 fun v F' H' s b => ?_
        obtain ⟨l, vs, rfl, h1, d1⟩ := b.list s.le
        refine ⟨l, ns, rfl, by rw [← dpAll_int d1 en]; exact h1, hz.1, fun p np => ?_⟩
        have s2 := s.trans (Step.lay (o := SetO X.w p (fun j => decide (j ∈ ns)) (dd ns).length) s.le np)
        refine ⟨p, _, _, rfl, upd_same, hz.2, fun ms p2 w1 w2 _ np2 => ?_⟩
        have em := sortI_uniq (ns := ns) w1 fun k => by rw [w2, decide_eq_true_eq]
        rw [em]
        have s3 := s2.trans (Step.lay (o := .lst ((sortI (dd ns)).map V.int)) s2.le np2)
        exact q _ _ _ s3 (.new (s2.h.free np2) upd_same (s2.le.free np2) (dpAll_ints _))
      · cases er
    · split at er
      · rename_i ks ek
        split at er
        · rename_i hz
          cases er
          simp only [Bool.and_eq_true, decide_eq_true_eq, List.all_eq_true] at hz
          have hu : X.A.units + 64 < cLine := by have := O.hu; omega
          refine wE_of (pe_callB (cr_sortSet O.calm O.hu) hg m1 (by decide +kernel) (pa_cons (pe_callTy (cr_setOfT O.calm hu) hg2 m2 (by decide +kernel) (pa_cons pe_w pa_nil (star_of hs)) (by decide +kernel) (by decide +kernel) (star_of hs) rfl) pa_nil rfl) (by decide +kernel) (by decide +kernel) rfl rfl) ?_
          refine ha.run R e1 fun v F' H' s b => ?_
          obtain ⟨l, vs, rfl, h1, d1⟩ := b.list s.le
          obtain ⟨aks, a1, a2, a3⟩ := tupsO_dp d1 ek
          subst a1 a2
          have len : aks.length < 64 := by have := hz.1; rw [List.length_map] at this; exact this
          refine ⟨l, aks, rfl, h1, fun p hp => sqT_same s.le (a3 p hp), len, fun p L np l1 l2 => ?_⟩
          have s2 := s.trans (Step.lay (o := SetTO X.prog X.w p L) s.le np)
          refine ⟨p, L, rfl, upd_same, fun t ht => sqT_same (s2.le) (a3 t (l1 t ht)), fun t ht => ?_, fun L' p2 pm nd pw np2 => ?_⟩
          · have := hz.2 t.2 (List.mem_map_of_mem (l1 t ht))
            intro e0; rw [e0] at this; cases this
          · have pw' : (L'.map (·.2)).Pairwise (fun x y => dataLe false id (tupD x) (tupD y) = true) := List.pairwise_map.mpr (pw.imp fun {a b} h => by rw [PySem.W.dataLe_eq] at h ⊢; exact h)
            have em := sortT_uniq (L := L'.map (·.2)) (ks := aks.map (·.2)) nd (fun k => ⟨fun hk => by
                obtain ⟨t, ht, rfl⟩ := List.mem_map.mp hk
                exact List.mem_map_of_mem (l1 t (pm.mem_iff.mp ht)), fun hk => by
                obtain ⟨t, ht, rfl⟩ := List.mem_map.mp hk
                obtain ⟨u, hu, e⟩ := List.mem_map.mp (l2 t ht)
                exact List.mem_map.mpr ⟨u, pm.mem_iff.mpr hu, e⟩⟩) pw'
            have er' := em.symm
            have s3 := s2.trans (Step.lay (o := .lst (L'.map fun q => V.ref q.1)) s2.le np2)
            refine q _ _ _ s3 (.new (s2.h.free np2) upd_same (s2.le.free np2) ?_)
            rw [er']
            have : ∀ M : List AK, (∀ t ∈ M, SqT X.K F' t.1 (t.2.map V.int)) → DpAll X.K F' (M.map fun q => V.ref q.1) ((M.map (·.2)).map tupD) := fun M => by
              induction M with
              | nil => exact fun _ => .nil
              | cons t r ih => exact fun hM => .cons (.tup (hM t List.mem_cons_self) (dpAll_ints _)) (ih fun u hu => hM u (List.mem_cons_of_mem _ hu))
            exact this L' fun t ht => a3 t (l1 t (pm.mem_iff.mp ht))
        · cases er
      · cases er
  · cases er
theorem snd_lset (O : Ok X ci C G) {a : Expr} {ea : En → Option PV} {p p2 pos pos2 : Pos} (hg : Gl X ("len" : Str)) (hg2 : Gl X ("set" : Str)) (hs : noStar a = true) (ha : SndB X a ea) :
    Snd X (.Call (.Name "len" p) [.Call (.Name "set" p2) [a] [] pos2] [] pos) (fun ρ => do let x ← ea ρ; evLset x) := by
  intro F0 B ρ σ F H r Q R er q
  obtain ⟨x, e1, er⟩ := bind_some er
  have m1 := O.blt "len" (by decide +kernel)
  have m2 := O.blt "set" (by decide +kernel)
  unfold evLset at er
  split at er
  · rename_i xs
    split at er
    · rename_i ns en
      split at er
      · rename_i hz
        cases er
        refine wE_of (pe_callB cr_lenSetI hg m1 (by decide +kernel) (pa_cons (pe_callTy (cr_setN O.calm) hg2 m2 (by decide +kernel) (pa_cons pe_w pa_nil (star_of hs)) (by decide +kernel) (by decide +kernel) (star_of hs) rfl) pa_nil rfl) (by decide +kernel) (by decide +kernel) rfl rfl) ?_
        refine ha.run R e1 fun v F' H' s b => ?_
        obtain ⟨l, vs, rfl, h1, d1⟩ := b.list s.le
        refine ⟨l, ns, rfl, by rw [← dpAll_int d1 en]; exact h1, hz, fun p np => ?_⟩
        have s2 := s.trans (Step.lay (o := SetO X.w p (fun j => decide (j ∈ ns)) (dd ns).length) s.le np)
        exact ⟨p, _, _, rfl, upd_same, q _ _ _ s2 (.of (.int _))⟩
      · cases er
    · split at er
      · rename_i ks ek
        split at er
        · rename_i hz
          cases er
          have hu : X.A.units + 64 < cLine := by have := O.hu; omega
          refine wE_of (pe_callB cr_lenSetT hg m1 (by decide +kernel) (pa_cons (pe_callTy (cr_setOfT O.calm hu) hg2 m2 (by decide +kernel) (pa_cons pe_w pa_nil (star_of hs)) (by decide +kernel) (by decide +kernel) (star_of hs) rfl) pa_nil rfl) (by decide +kernel) (by decide +kernel) rfl rfl) ?_
          refine ha.run R e1 fun v F' H' s b => ?_
          obtain ⟨l, vs, rfl, h1, d1⟩ := b.list s.le
          obtain ⟨aks, a1, a2, a3⟩ := tupsO_dp d1 ek
          subst a1 a2
          have len : aks.length < 64 := by rw [List.length_map] at hz; exact hz
          refine ⟨l, aks, rfl, h1, fun p hp => sqT_same s.le (a3 p hp), len, fun p L np l1 l2 => ?_⟩
          have s2 := s.trans (Step.lay (o := SetTO X.prog X.w p L) s.le np)
          refine ⟨p, L, rfl, upd_same, fun t ht => sqT_same (s2.le) (a3 t (l1 t ht)), fun nd => ?_⟩
          have em : L.length = (dd (aks.map (·.2))).length := by
            rw [← dd_len (m := L.map (·.2)) nd fun k => ⟨fun hk => by
                obtain ⟨t, ht, rfl⟩ := List.mem_map.mp hk
                exact List.mem_map_of_mem (l1 t ht), fun hk => by
                obtain ⟨t, ht, rfl⟩ := List.mem_map.mp hk
                exact l2 t ht⟩, List.length_map]
          rw [em]
          exact q _ _ _ s2 (.of (.int _))
        · cases er
      · cases er
  · cases er
theorem snd_rev (O : Ok X ci C G) {a : Expr} {ea : En → Option PV} {k : Nat} {p1 p2 p3 pos : Pos} (ha : SndB X a ea) :
    Snd X (.Subscript a (.Slice none none (some (.UnaryOp .USub (.Constant (.int 1) k p1) p2)) p3) pos) (fun ρ => do let x ← ea ρ; evRev x) := by
  intro F0 B ρ σ F H r Q R er q
  obtain ⟨x, e1, er⟩ := bind_some er
  unfold evRev at er
  split at er
  · cases er
    refine wE_of (pe_revL pe_w) (ha.run R e1 fun v F' H' s b => ?_)
    obtain ⟨l, vs, rfl, h1, d1⟩ := b.list s.le
    refine ⟨l, vs, rfl, h1, fun p np => ?_⟩
    have rv : ∀ {vs : List V} {ds : List PV}, DpAll X.K F' vs ds → DpAll X.K F' vs.reverse ds.reverse := fun {vs ds} d => by
      induction vs generalizing ds with
      | nil => cases d; exact .nil
      | cons v vs ih =>
        cases d with
        | cons h hs =>
          rw [List.reverse_cons, List.reverse_cons]
          exact dpAll_app (ih hs) (.cons h .nil)
    exact q _ _ _ (s.trans (Step.lay s.le np)) (.new (s.h.free np) upd_same (s.le.free np) (rv d1))
  · cases er
theorem snd_index (O : Ok X ci C G) {a b : Expr} {ea eb : En → Option PV} {apos cpos : Pos} (hl : (apos.endLine == cpos.line) = true) (hs : noStar b = true) (hp : plainO a = true) (ha : SndB X a ea) (hb : SndB X b eb) :
    Snd X (.Call (.Attribute a "index" apos) [b] [] cpos) (fun ρ => do let x ← ea ρ; let y ← eb ρ; evIndex x y) := by
  intro F0 B ρ σ F H r Q R er q
  obtain ⟨x, e1, er⟩ := bind_some er
  obtain ⟨y, e2, er⟩ := bind_some er
  unfold evIndex at er
  split at er
  · rename_i xs k _
    obtain ⟨ns, en, er⟩ := Option.bind_eq_some_iff.mp er
    split at er
    · rename_i hz
      cases er
      have base : attributeBase a "index" X.env (eval a X.env) = eval a X.env := by cases a <;> first | rfl | cases hp
      refine wE_of (pe_bm PySem.F.plainAttrs_list PySem.F.slot_list_index PySem.F.type_list_index mt_index pe_w (pa_cons pe_w pa_nil (star_of hs)) base (by rw [star_of hs]; rfl) hl (star_of hs) rfl) ?_
      refine ha.run R e1 fun v F' H' s bo => ?_
      obtain ⟨l, vs, rfl, h1, d1⟩ := bo.list s.le
      have ev := dpAll_int d1 en
      subst ev
      refine ⟨.inl ⟨rfl, _, h1⟩, hb.run (R.step s) e2 fun w F2 H2 s2 bo2 => ?_⟩
      have wk := bo2.int
      subst wk
      have hj := List.getElem?_eq_getElem hz
      refine ⟨l, ns.map V.int, .int k, ns.idxOf k, .int ns[ns.idxOf k], rfl, rfl, s2.h.seq h1, rfl, ?_, ?_, ?_, fun m z' hm hz' => ?_, q _ _ _ (s.trans s2) (.of (.int _))⟩
      · rw [List.all_map, List.all_eq_true]; intro n _; rfl
      · rw [List.getElem?_map, hj]; rfl
      · rw [List.getElem_idxOf]; show decide (k = k) = true; simp
      · rw [List.getElem?_map] at hz'
        obtain ⟨n, hn, rfl⟩ := Option.map_eq_some_iff.mp hz'
        obtain ⟨hm2, en2⟩ := List.getElem?_eq_some_iff.mp hn
        have := List.not_of_lt_findIdx (p := (· == k)) (xs := ns) hm
        show decide (n = k) = false
        rw [← en2]
        simpa using this
    · cases er
  · cases er
end
end Pz
set_option Elab.async false
set_option linter.all false
set_option maxRecDepth 100000
set_option maxHeartbeats 1000000
/-! Pz: enumerate of a tuple. -/
namespace Pz
open PySem PySem.Spec PyProof.Rows L2

theorem enum_new1 {v : Value} {o : Obj} {Z : Heap → Prop} (B : Begins v o Z) :
    Meets (Builtin.«enumerate.__new__» ⟨[.type "enumerate", v], []⟩) (fun _ R s => Z s.heap ∧
      R (.ok (.ret (.ref (s.heap.push o).objs.size))) { s with heap := (s.heap.push o).push { cls := .type "enumerate", data := .fields #[.none, .bool false, .ref s.heap.objs.size, rawInt 0, .none, .none] } }) :=
  .of_wp fun prog w A R s h => by
    obtain ⟨hp, g, d, tk, os⟩ := s
    obtain ⟨h1, h⟩ := h
    have hsub := sub_enumerate
    have q1 : ∀ {A' : Around} {E : Value → Shared → Prop} {Q : Value → Shared → Prop}, Q (.ref hp.objs.size) ⟨hp.push o, g, d, tk, os⟩ → wpAny (model prog w) A' (pyIter v) Q E ⟨hp, g, d, tk, os⟩ :=
      fun q => B.iter prog w _ _ ⟨hp, g, d, tk, os⟩ _ h1 q
    wp_walk using q1
    refine wpAny_stack_any fun st => wpAny_pure ?_
    split
    · rename_i c _ _ _ _ _
      cases (c == Value.type "enumerate")
      · wp_walk using q1
        exact ⟨_, rfl, h⟩
      · wp_walk using q1
        exact ⟨_, rfl, h⟩
    · wp_walk using q1
      exact ⟨_, rfl, h⟩
section
variable {prog : Program} {w : World} {A : Around} {E : Value → Shared → Prop} {s : Shared}
theorem enum_call1 {v : Value} {o : Obj} {Z : Heap → Prop} {Q : Value → Shared → Prop} (B : Begins v o Z) (h1 : Z s.heap)
    (h : ∀ h', IsEnum h' (s.heap.objs.size + 1) s.heap.objs.size 0 .none → h'.get? s.heap.objs.size = some o → (∀ b o, s.heap.get? b = some o → h'.get? b = some o) → Q (.ref (s.heap.objs.size + 1)) { s with heap := h' }) :
    wpAny (model prog w) A (call (.type "enumerate") [v]) Q E s := by
  refine callType_new F.called_enumerate (by decide) (F.typeCall_enumerate_1 _) (F.newCall_enumerate_1 _) (fun obj => F.args_object_init_2 obj _) F.entry_enumerate_new (enum_new1 B) ⟨h1, ?_⟩
  have hz : (s.heap.push o).objs.size = s.heap.objs.size + 1 := Heap.size_push ..
  show _ ∧ _
  rw [hz]
  have he : IsEnum ((s.heap.push o).push { cls := .type "enumerate", data := .fields #[.none, .bool false, .ref s.heap.objs.size, rawInt 0, .none, .none] }) (s.heap.objs.size + 1) s.heap.objs.size 0 .none := by
    have := Heap.get?_push_size (s.heap.push o) (o := { cls := .type "enumerate", data := .fields #[.none, .bool false, .ref s.heap.objs.size, rawInt 0, .none, .none] }) rfl
    rw [hz] at this; exact this
  exact ⟨⟨_, he, rfl⟩, h _ he (Heap.get?_push_of_some _ (Heap.get?_push_size _ B.free)) fun b o x => Heap.get?_push_of_some _ (Heap.get?_push_of_some _ x)⟩
end
/-- the tuple at a, each item in a new pair -/
def IteT (K : PySem.W.Frag) (a : Addr) : It :=
  ⟨fun i H => ∃ (xs : List V) (x : V), SqT K H a xs ∧ xs[i]? = some x, fun i H v H' => ∃ T x, v = .ref T ∧ H T = none ∧ H' = upd H T (.tup [.int (i : Nat), x]) ∧ ∀ xs, SqT K H a xs → xs[i]? = some x, fun i H => ∃ xs : List V, SqT K H a xs ∧ xs.length ≤ i⟩
theorem turn_enumT {P : Program} {w : World} {K : PySem.W.Frag} {elts : List Expr} {kk : Nat} {tpos : Pos} (a e it : Addr) :
    Turn P w K (.Tuple elts kk tpos) (IteT K a) [e, it] e (fun i h => (∃ old, IsEnum h e it ((i : Nat) : Int) old) ∧ h.IsTupleIter it a i ∧ e ≠ it ∧ e ≠ a ∧ a ≠ it) where
  mem := by simp
  obj := fun i h st b hb => by
    obtain ⟨⟨old, he⟩, ⟨o, ho, hc, hd⟩, _⟩ := st
    have e' : b = e ∨ b = it := by simpa using hb
    rcases e' with z | z
    · rw [z]; exact ⟨_, he, fun v q => nomatch q⟩
    · rw [z]; exact ⟨o, ho, fun v q => by rw [hd] at q; cases q⟩
  keep := fun i h h' st k => let ⟨⟨old, he⟩, hi, hne⟩ := st; ⟨⟨old, k e (by simp) _ he⟩, hi.at fun o q => k it (by simp) o q, hne⟩
  item := by
    intro X hP hw hK hc i pins s σ H E I hf st hg
    subst hP hw hK
    obtain ⟨⟨old, he⟩, hit, hne, hea, hai⟩ := st
    obtain ⟨xs, x, hq, hx⟩ := hg
    obtain ⟨its, rv, p, hz⟩ := I.tuple hq
    obtain ⟨u, hu, ru⟩ := rv.get hx
    have hel : e < s.heap.objs.size := Heap.lt_size he
    have hil : it < s.heap.objs.size := by obtain ⟨_, q, _⟩ := hit; exact Heap.lt_size q
    have hlt : i < its.toArray.size := by
      have := (List.getElem?_eq_some_iff.mp hu).1
      simpa using this
    refine wpAny_pyNext_enum_itemC (i := i) (Draws.tuple (A := X.A.in1) (I.ok.hd hc) it a hai its.toArray) he ⟨hit, p⟩ hlt hne (by simp [hne, hea]) fun y h' tk hy ho st' hT hsz hk => ?_
    have ey : y = u := by
      have hy : its.toArray[i]? = some y := hy
      rw [List.getElem?_toArray, hu] at hy
      exact (Option.some.inj hy).symm
    subst ey
    obtain ⟨hit', _⟩ := st'
    refine ⟨_, rfl, wpAny_letOwnedTupleGo_enum (s := { s with heap := h', toks := tk + 1 }) ho fun h'' he' sb => ?_⟩
    have hT2 : h''.get? s.heap.objs.size = some { cls := .type "tuple", data := .seq #[.int i tk, y] } := (sb.2 _ (Nat.ne_of_gt hel)).trans hT
    have new : ObjOk X.prog X.w (upd H s.heap.objs.size (.tup [.int (i : Nat), x])) h'' s.heap.objs.size (.tup [.int (i : Nat), x]) :=
      ⟨by show 2 ≤ sizeLine; decide, [.int i tk, y], .cons ⟨_, rfl⟩ (.cons ru .nil), ⟨_, hT2, rfl, _, rfl⟩⟩
    have I1 : Inv X pins σ (upd H s.heap.objs.size (.tup [.int (i : Nat), x])) { s with heap := h'', toks := tk + 1 } :=
      I.turnedNew (ch := [e, it]) (fun b ob hb q => (sb.2 b (fun z => hb (by simp [z]))).trans (hk b ob (fun z => hb (by simp [z])) (fun z => hb (by simp [z])) q)) hf (Nat.le_refl _) new
    refine ⟨.ref s.heap.objs.size, _, I1, rfl, ⟨_, x, rfl, I.hok.fresh (Nat.le_refl _), rfl, fun ys hy => by rw [I.tuple_inj hy hq]; exact hx⟩, ⟨⟨y, ?_⟩, hit'.at fun o q => (sb.2 it (Ne.symm hne)).trans q, hne, hea, hai⟩, fun b hb => ?_⟩
    · have e1 : ((i + 1 : Nat) : Int) = (i : Int) + 1 := by omega
      rw [e1]; exact he'
    · have hb' : b < s.heap.objs.size := by
        have e' : b = e ∨ b = it := by simpa using hb
        rcases e' with z | z
        · rw [z]; exact hel
        · rw [z]; exact hil
      rw [upd_ne (Nat.ne_of_lt hb')]
      exact (hf b hb).1
  done := by
    intro X hP hw hK hc i pins s σ H E I hf st hg
    subst hP hw hK
    obtain ⟨⟨old, he⟩, hit, hne, hea, hai⟩ := st
    obtain ⟨xs, hq, hx⟩ := hg
    obtain ⟨its, rv, p, hz⟩ := I.tuple hq
    obtain ⟨f0, f1, f2, f3, f4, f5⟩ := hf it (by simp)
    have hl := rv.length
    have hend : its.toArray[i]? = none := by simp; omega
    have hT : s.TypeIs (.ref e) "enumerate" := ⟨_, he, rfl⟩
    unfold pyNext
    refine wpAny_bind (wpAny_attempt (wpAny_callSpecial?_slot (name := Str.ofString "__next__") hT F.slot_enumerate_next
      (wpAny_call_entry F.slot_enumerate_next hT F.entry_enumerate_next ?_ (F.args_enumerate_next_1 _))))
    show wpAny _ _ (field (.ref e) 2 >>= _) _ _ _
    refine wpAny_bind (wpAny_field he rfl (x := .ref it) rfl ?_)
    refine wpAny_bind (wpAny_nextOf_tuple_end (A := X.A.in1) (I.ok.hd hc) hit p hend fun h' x he' hx' => ?_)
    obtain ⟨o, ho, hcl⟩ := hx'
    refine wpAny_bind (wpAny_isInstance (T := "StopIteration") (b := true) ⟨o, ho, hcl⟩ isSubtype_stop ?_)
    exact wpAny_pure ⟨rfl, I.turned (t' := s.toks) (fun b o hb q => he' b o hb q) f0 f1 f3 f4 f5⟩
  self := fun A i s Q E st h => let ⟨⟨_, he⟩, _⟩ := st; wpAny_pyIter_enum he h
def iEnumA (K : PySem.W.Frag) (ta : TA) : TI := fun σ H R => ta σ H fun vs H1 => ∃ a xs, vs = [.ref a] ∧ ((SqL K H1 a xs ∧ R (Ite K a) H1) ∨ (SqT K H1 a xs ∧ R (IteT K a) H1))
theorem pi_enumA {X : Cx} {e : Expr} {ta : TA} {p pos tpos : Pos} {elts : List Expr} {kk : Nat} (hg : Gl X "enumerate") (hm : X.mg "enumerate" = none) (ha : PA X [e] ta) (hs : starEach [e] X.env = [(false, eval e X.env)]) :
    PI X (.Tuple elts kk tpos) (.Call (.Name "enumerate" p) [e] [] pos) (iEnumA X.K ta) := by
  refine ⟨fun pins s σ H R I h => ?_⟩
  refine Call_ (ld_blt I hg hm boot_enumerate (PyProof.Rows.callWith_type1 (thn (ha.run pos pins s σ H _ I h) fun us s1 ⟨vs, H1, I1, r1, q1⟩ => ?_) hs rfl))
  obtain ⟨a, xs, ex, q1⟩ := q1
  subst ex
  obtain ⟨u, rfl, ru⟩ := vals1 r1
  cases (show u = Value.ref a from ru)
  have free2 : ∀ b ∈ [s1.heap.objs.size + 1, s1.heap.objs.size], FpOk X pins H1 b := fun b hb => by
    have e' : b = s1.heap.objs.size + 1 ∨ b = s1.heap.objs.size := by simpa using hb
    have hle : s1.heap.objs.size ≤ b := by
      rcases e' with z | z
      · rw [z]; exact Nat.le_add_right _ _
      · rw [z]; exact Nat.le_refl _
    exact I1.fpOk hle (I1.hok.fresh hle)
  rcases q1 with ⟨hq, q⟩ | ⟨hq, q⟩
  · obtain ⟨its, rv, p', hz⟩ := I1.list hq
    refine call_enumerate_list p'.isList fun h' he hit hsz hk => wpAny_pyIter_enum he ?_
    have I2 : Inv X pins σ H1 { s1 with heap := h' } := I1.kept (t' := s1.toks) hk
    exact ⟨s1.heap.objs.size + 1, [s1.heap.objs.size + 1, s1.heap.objs.size], _, _, H1, rfl, I2, turn_enum a (s1.heap.objs.size + 1) s1.heap.objs.size, ⟨⟨.none, he⟩, hit, Nat.succ_ne_self _⟩, free2, q⟩
  · obtain ⟨its, rv, p', hz⟩ := I1.tuple hq
    have al : a < s1.heap.objs.size := p'.lt
    refine enum_call1 (begins_tuple a its.toArray) p' fun h' he ho hk => wpAny_pyIter_enum he ?_
    have I2 : Inv X pins σ H1 { s1 with heap := h' } := I1.kept (t' := s1.toks) hk
    exact ⟨s1.heap.objs.size + 1, [s1.heap.objs.size + 1, s1.heap.objs.size], _, _, H1, rfl, I2, turn_enumT a (s1.heap.objs.size + 1) s1.heap.objs.size, ⟨⟨.none, he⟩, ⟨_, ho, rfl, rfl⟩, Nat.succ_ne_self _, Nat.ne_of_gt (Nat.lt_succ_of_lt al), Nat.ne_of_lt al⟩, free2, q⟩
end Pz
set_option Elab.async false
set_option linter.all false
set_option maxRecDepth 100000
set_option maxHeartbeats 1000000
/-! Pz: what loops and comprehensions walk; targets. -/
namespace Pz
open PySem PySem.Spec PyProof.Rows L2

/-- the walk J gives xs, while F1 and B1 stand -/
def ItOk (K : PySem.W.Frag) (J : It) (xs : List PV) (F1 B1 : Hp) : Prop := ∀ (i : Nat) (F H : Hp), Same F1 F → Same B1 H → Same F H →
  (∀ d, xs[i]? = some d → J.go i H ∧ ∀ x H', J.yld i H x H' → ∃ F', Step F H F' H' ∧ Dp K F' x d) ∧ (xs.length ≤ i → J.stop i H)
section
variable {K : PySem.W.Frag} {F1 B1 : Hp}
theorem itok_list {a : Addr} {vs : List V} {xs : List PV} (h : SqL K B1 a vs) (d : DpAll K F1 vs xs) : ItOk K (Itl K a) xs F1 B1 := by
  intro i F H sf sb le
  have hq := sb.seq h
  refine ⟨fun e he => ?_, fun hi => ⟨vs, hq, by rw [dpAll_len d]; exact hi⟩⟩
  obtain ⟨v, hv, dv⟩ := dpAll_get d he
  refine ⟨⟨vs, v, hq, hv⟩, fun x H' ⟨e1, e2⟩ => ?_⟩
  subst e1
  have := e2 vs hq
  rw [hv] at this; cases this
  exact ⟨F, Step.rfl' le, dp_mono sf dv⟩
theorem itok_tup {a : Addr} {vs : List V} {xs : List PV} (h : SqT K B1 a vs) (d : DpAll K F1 vs xs) : ItOk K (Itt K a) xs F1 B1 := by
  intro i F H sf sb le
  have hq := sqT_same sb h
  refine ⟨fun e he => ?_, fun hi => ⟨vs, hq, by rw [dpAll_len d]; exact hi⟩⟩
  obtain ⟨v, hv, dv⟩ := dpAll_get d he
  refine ⟨⟨vs, v, hq, hv⟩, fun x H' ⟨e1, e2⟩ => ?_⟩
  subst e1
  have := e2 vs hq
  rw [hv] at this; cases this
  exact ⟨F, Step.rfl' le, dp_mono sf dv⟩
theorem itok_str {z : Str} : ItOk K (Its z) (z.cps.toList.map fun c => .str ⟨#[c]⟩) F1 B1 := by
  intro i F H sf sb le
  refine ⟨fun e he => ?_, fun hi => by show z.cps.size ≤ i; simpa using hi⟩
  rw [List.getElem?_map] at he
  obtain ⟨c, hc, e1⟩ := Option.map_eq_some_iff.mp he
  subst e1
  have hc' : z.cps[i]? = some c := by simpa using hc
  refine ⟨(Array.getElem?_eq_some_iff.mp hc').1, fun x H' ⟨e1, c', e2, e3⟩ => ?_⟩
  subst e1 e3
  rw [hc'] at e2; cases e2
  exact ⟨F, Step.rfl' le, .str _⟩
theorem rngL_get {lo : Int} {n i : Nat} {d : PV} (h : (rngL lo n)[i]? = some d) : i < n ∧ d = .int (lo + (i : Nat)) := by
  unfold rngL at h
  rw [List.getElem?_map] at h
  obtain ⟨c, hc, e1⟩ := Option.map_eq_some_iff.mp h
  obtain ⟨h1, h2⟩ := List.getElem?_eq_some_iff.mp hc
  rw [List.length_range] at h1
  rw [List.getElem_range] at h2
  subst h2
  exact ⟨h1, e1.symm⟩
theorem rngL_len {lo : Int} {n : Nat} : (rngL lo n).length = n := by unfold rngL; rw [List.length_map, List.length_range]
theorem itok_rng {lo : Int} {n : Nat} : ItOk K (Itr lo n) (rngL lo n) F1 B1 := by
  intro i F H sf sb le
  refine ⟨fun e he => ?_, fun hi => by rw [rngL_len] at hi; exact hi⟩
  obtain ⟨h1, rfl⟩ := rngL_get he
  refine ⟨h1, fun x H' ⟨e1, e2⟩ => ?_⟩
  subst e1 e2
  exact ⟨F, Step.rfl' le, .int _⟩
theorem enumL_get {xs : List PV} {i : Nat} {d : PV} (h : (enumL xs)[i]? = some d) : ∃ x, xs[i]? = some x ∧ d = .tuple [.int (i : Nat), x] := by
  unfold enumL at h
  rw [List.getElem?_map, List.getElem?_zipIdx] at h
  obtain ⟨c, hc, e1⟩ := Option.map_eq_some_iff.mp h
  obtain ⟨x, hx, e2⟩ := Option.map_eq_some_iff.mp hc
  subst e2
  refine ⟨x, hx, ?_⟩
  rw [← e1]; simp
theorem enumL_len {xs : List PV} : (enumL xs).length = xs.length := by unfold enumL; rw [List.length_map, List.length_zipIdx]
theorem itok_enumL {a : Addr} {vs : List V} {xs : List PV} (h : SqL K B1 a vs) (d : DpAll K F1 vs xs) : ItOk K (Ite K a) (enumL xs) F1 B1 := by
  intro i F H sf sb le
  have hq := sb.seq h
  refine ⟨fun e he => ?_, fun hi => ⟨vs, hq, by rw [enumL_len] at hi; rw [dpAll_len d]; exact hi⟩⟩
  obtain ⟨x, hx, rfl⟩ := enumL_get he
  obtain ⟨v, hv, dv⟩ := dpAll_get d hx
  refine ⟨⟨vs, v, hq, hv⟩, fun y H' ⟨T, u, e1, e2, e3, e4⟩ => ?_⟩
  subst e1 e3
  have := e4 vs hq
  rw [hv] at this; cases this
  have s := Step.new (o := .tup [.int (i : Nat), v]) le e2
  exact ⟨_, s, .tup (SqT.of upd_same) (.cons (.int _) (.cons (dp_mono s.f (dp_mono sf dv)) .nil))⟩
theorem itok_enumT {a : Addr} {vs : List V} {xs : List PV} (h : SqT K B1 a vs) (d : DpAll K F1 vs xs) : ItOk K (IteT K a) (enumL xs) F1 B1 := by
  intro i F H sf sb le
  have hq := sqT_same sb h
  refine ⟨fun e he => ?_, fun hi => ⟨vs, hq, by rw [enumL_len] at hi; rw [dpAll_len d]; exact hi⟩⟩
  obtain ⟨x, hx, rfl⟩ := enumL_get he
  obtain ⟨v, hv, dv⟩ := dpAll_get d hx
  refine ⟨⟨vs, v, hq, hv⟩, fun y H' ⟨T, u, e1, e2, e3, e4⟩ => ?_⟩
  subst e1 e3
  have := e4 vs hq
  rw [hv] at this; cases this
  have s := Step.new (o := .tup [.int (i : Nat), v]) le e2
  exact ⟨_, s, .tup (SqT.of upd_same) (.cons (.int _) (.cons (dp_mono s.f (dp_mono sf dv)) .nil))⟩
theorem zipL_get {xs ys : List PV} {i : Nat} {d : PV} (h : (zipL xs ys)[i]? = some d) : ∃ x y, xs[i]? = some x ∧ ys[i]? = some y ∧ d = .tuple [x, y] := by
  unfold zipL at h
  rw [List.getElem?_map] at h
  obtain ⟨⟨x, y⟩, hc, e1⟩ := Option.map_eq_some_iff.mp h
  obtain ⟨h1, h2⟩ := List.getElem?_zip_eq_some.mp hc
  exact ⟨x, y, h1, h2, e1.symm⟩
theorem zipL_len {xs ys : List PV} : (zipL xs ys).length = min xs.length ys.length := by unfold zipL; rw [List.length_map, List.length_zip]
theorem itok_zipL {a b : Addr} {vs ws : List V} {xs ys : List PV} (h : SqL K B1 a vs) (h2 : SqL K B1 b ws) (d : DpAll K F1 vs xs) (d2 : DpAll K F1 ws ys) : ItOk K (Itz K a b) (zipL xs ys) F1 B1 := by
  intro i F H sf sb le
  have hq := sb.seq h
  have hq2 := sb.seq h2
  refine ⟨fun e he => ?_, fun hi => ⟨vs, ws, hq, hq2, by rw [zipL_len] at hi; rw [dpAll_len d, dpAll_len d2]; omega⟩⟩
  obtain ⟨x, y, hx, hy, rfl⟩ := zipL_get he
  obtain ⟨v, hv, dv⟩ := dpAll_get d hx
  obtain ⟨w, hw, dw⟩ := dpAll_get d2 hy
  refine ⟨⟨vs, ws, v, w, hq, hq2, hv, hw⟩, fun z H' ⟨T, u, u2, e1, e2, e3, e4, e5⟩ => ?_⟩
  subst e1 e3
  have t1 := e4 vs hq
  have t2 := e5 ws hq2
  rw [hv] at t1; cases t1
  rw [hw] at t2; cases t2
  have s := Step.new (o := .tup [v, w]) le e2
  exact ⟨_, s, .tup (SqT.of upd_same) (.cons (dp_mono s.f (dp_mono sf dv)) (.cons (dp_mono s.f (dp_mono sf dw)) .nil))⟩
theorem itok_zipT {a b : Addr} {vs ws : List V} {xs ys : List PV} (h : SqT K B1 a vs) (h2 : SqT K B1 b ws) (d : DpAll K F1 vs xs) (d2 : DpAll K F1 ws ys) : ItOk K (RZ.ItzT K a b) (zipL xs ys) F1 B1 := by
  intro i F H sf sb le
  have hq := sqT_same sb h
  have hq2 := sqT_same sb h2
  refine ⟨fun e he => ?_, fun hi => ⟨vs, ws, hq, hq2, by rw [zipL_len] at hi; rw [dpAll_len d, dpAll_len d2]; omega⟩⟩
  obtain ⟨x, y, hx, hy, rfl⟩ := zipL_get he
  obtain ⟨v, hv, dv⟩ := dpAll_get d hx
  obtain ⟨w, hw, dw⟩ := dpAll_get d2 hy
  refine ⟨⟨vs, ws, v, w, hq, hq2, hv, hw⟩, fun z H' ⟨T, u, u2, e1, e2, e3, e4, e5⟩ => ?_⟩
  subst e1 e3
  have t1 := e4 vs hq
  have t2 := e5 ws hq2
  rw [hv] at t1; cases t1
  rw [hw] at t2; cases t2
  have s := Step.new (o := .tup [v, w]) le e2
  exact ⟨_, s, .tup (SqT.of upd_same) (.cons (dp_mono s.f (dp_mono sf dv)) (.cons (dp_mono s.f (dp_mono sf dw)) .nil))⟩
end

/-! ### the walk's source -/
def wI (X : Cx) (tg iter : Expr) : TI := fun σ H R => ∀ (pins : List (Addr × Obj)) (s : Shared), Inv X pins σ H s →
  wpAny (model X.prog X.w) X.A (eval iter X.env) (fun v s1 => wpAny (model X.prog X.w) X.A (pyIter v) (PIE X pins σ tg R) X.xe s1) X.xe s
theorem pi_w {X : Cx} {tg iter : Expr} : PI X tg iter (wI X tg iter) := ⟨fun pins s σ H R I h => h pins s I⟩
/-- R may use what the invariant tells of the heap -/
theorem wI_of {X : Cx} {tg iter : Expr} {t : TI} {σ : L2.St} {H : Hp} {R R' : It → Hp → Prop} (h : PI X tg iter t) (q : t σ H R')
    (m : ∀ J H', (∃ pins s, Inv X pins σ H' s) → R' J H' → R J H') : wI X tg iter σ H R := fun pins s I =>
  thn (h.run pins s σ H R' I q) fun v s1 h1 => thn h1 fun itv s2 ⟨it, fp, tn, J, H', e, I', T, st, f, r⟩ => ⟨it, fp, tn, J, H', e, I', T, st, f, m J H' ⟨pins, s2, I'⟩ r⟩
def SndI (b : Bool) (X : Cx) (tg iter : Expr) (ev : En → Option (List PV)) : Prop := ∀ (F0 B : Hp) (ρ : En) (σ : L2.St) (F H : Hp) (xs : List PV) (R : It → Hp → Prop), Rel X.K F0 B ρ σ F H → ev ρ = some xs →
  (∀ J F' H', Step F H F' H' → ItOk X.K J xs F' (if b then F' else H') → xs.length ≤ sizeLine → R J H') → wI X tg iter σ H R
section
variable {X : Cx} {ci : CI} {C : Str → List PV → Option RV} {G : Str → Option PV} {F0 B : Hp} {ρ : En} {σ : L2.St} {F H : Hp}
theorem sz_list {H' : Hp} {a : Addr} {vs : List V} (I : ∃ pins s, Inv X pins σ H' s) (h : SqL X.K H' a vs) : vs.length ≤ sizeLine := by
  obtain ⟨pins, s, I⟩ := I
  obtain ⟨_, _, _, z⟩ := I.list h
  exact z
theorem sz_tup {H' : Hp} {a : Addr} {vs : List V} (I : ∃ pins s, Inv X pins σ H' s) (h : SqT X.K H' a vs) : vs.length ≤ sizeLine := by
  obtain ⟨pins, s, I⟩ := I
  obtain ⟨_, _, _, z⟩ := I.tuple h
  exact z
/-- the value of a source: what of it is read where -/
def BorS (b : Bool) (K : PySem.W.Frag) (F H : Hp) (v : V) (d : PV) : Prop := if b then Dp K F v d else Bor K F H v d
theorem BorS.bor {b : Bool} {K : PySem.W.Frag} {v : V} {d : PV} (h : BorS b K F H v d) : Bor K F H v d := by
  cases b with
  | true => exact .inl (by simpa [BorS] using h)
  | false => simpa [BorS] using h
theorem BorS.list {b : Bool} {K : PySem.W.Frag} (le : Same F H) {v : V} {ds : List PV} (h : BorS b K F H v (.list ds)) : ∃ a vs, v = .ref a ∧ SqL K (if b then F else H) a vs ∧ SqL K H a vs ∧ DpAll K F vs ds := by
  cases b with
  | true =>
    have h : Dp K F v (.list ds) := by simpa [BorS] using h
    cases h with
    | lst h1 hs => exact ⟨_, _, rfl, h1, le.seq h1, hs⟩
  | false =>
    have h : Bor K F H v (.list ds) := by simpa [BorS] using h
    obtain ⟨a, vs, e, h1, h2⟩ := h.list le
    exact ⟨a, vs, e, h1, h1, h2⟩
theorem BorS.tup {b : Bool} {K : PySem.W.Frag} (le : Same F H) {v : V} {ds : List PV} (h : BorS b K F H v (.tuple ds)) : ∃ a vs, v = .ref a ∧ SqT K (if b then F else H) a vs ∧ SqT K H a vs ∧ DpAll K F vs ds := by
  cases b with
  | true =>
    have h : Dp K F v (.tuple ds) := by simpa [BorS] using h
    cases h with
    | tup h1 hs => exact ⟨_, _, rfl, h1, sqT_same le h1, hs⟩
  | false =>
    have h : Bor K F H v (.tuple ds) := by simpa [BorS] using h
    obtain ⟨a, vs, e, h1, h2⟩ := h.tup le
    exact ⟨a, vs, e, h1, h1, h2⟩
theorem BorS.step {b : Bool} {K : PySem.W.Frag} {F' H' : Hp} (s : Step F H F' H') {v : V} {d : PV} (h : BorS b K F H v d) : BorS b K F' H' v d := by
  cases b with
  | true =>
    have h : Dp K F v d := by simpa [BorS] using h
    simpa [BorS] using dp_mono s.f h
  | false =>
    have h : Bor K F H v d := by simpa [BorS] using h
    simpa [BorS] using h.step s
def SndS (b : Bool) (X : Cx) (e : Expr) (ev : En → Option PV) : Prop := ∀ (F0 B : Hp) (ρ : En) (σ : L2.St) (F H : Hp) (d : PV) (Q : VK), Rel X.K F0 B ρ σ F H → ev ρ = some d →
  (∀ v F' H', Step F H F' H' → BorS b X.K F' H' v d → Q v H') → wE X e σ H Q
theorem snds {b : Bool} {p : Tx} {e : Expr} {ev : En → Option RV} (h : Snd X e ev) (hb : SndB X e (fun ρ => rd p (ev ρ) ρ)) : SndS b X e (fun ρ => rdS b p (ev ρ) ρ) := by
  cases b with
  | true =>
    intro F0 B ρ σ F H d Q R e1 q
    have e1 : (ev ρ).map (·.v) = some d := e1
    obtain ⟨r, e2, e3⟩ := Option.map_eq_some_iff.mp e1
    subst e3
    exact h.va R e2 fun v F' H' s dp => q v F' H' s (by simpa [BorS] using dp)
  | false =>
    intro F0 B ρ σ F H d Q R e1 q
    exact hb F0 B ρ σ F H d Q R e1 fun v F' H' s dp => q v F' H' s (by simpa [BorS] using dp)
theorem si_seq {b : Bool} {tg e : Expr} {ev : En → Option PV} (h : SndS b X e ev) : SndI b X tg e (fun ρ => do
    match ← ev ρ with
    | .list xs => some xs
    | .tuple xs => some xs
    | .str s => if s.length ≤ LIM then some (s.cps.toList.map fun c => .str ⟨#[c]⟩) else none
    | _ => none) := by
  intro F0 B ρ σ F H xs R Rl er q
  obtain ⟨x, e1, er⟩ := bind_some er
  cases x with
  | list ys =>
    obtain rfl : ys = xs := Option.some.inj er
    refine wI_of (pi_list pe_w) (R' := fun J H' => ∃ a vs F', J = Itl X.K a ∧ SqL X.K (if b then F' else H') a vs ∧ SqL X.K H' a vs ∧ DpAll X.K F' vs ys ∧ Step F H F' H') (h F0 B ρ σ F H _ _ Rl e1 fun v F' H' s bo => ?_)
      fun J H' I ⟨a, vs, F', ej, h1, h2, d, s⟩ => ?_
    · obtain ⟨a, vs, rfl, h1, h2, d⟩ := bo.list s.le
      exact ⟨a, rfl, ⟨vs, h2⟩, a, vs, F', rfl, h1, h2, d, s⟩
    · subst ej
      exact q _ F' H' s (itok_list h1 d) (by rw [← dpAll_len d]; exact sz_list I h2)
  | tuple ys =>
    obtain rfl : ys = xs := Option.some.inj er
    refine wI_of (pi_tup pe_w) (R' := fun J H' => ∃ a vs F', J = Itt X.K a ∧ SqT X.K (if b then F' else H') a vs ∧ SqT X.K H' a vs ∧ DpAll X.K F' vs ys ∧ Step F H F' H') (h F0 B ρ σ F H _ _ Rl e1 fun v F' H' s bo => ?_)
      fun J H' I ⟨a, vs, F', ej, h1, h2, d, s⟩ => ?_
    · obtain ⟨a, vs, rfl, h1, h2, d⟩ := bo.tup s.le
      exact ⟨a, rfl, ⟨vs, h2⟩, a, vs, F', rfl, h1, h2, d, s⟩
    · subst ej
      exact q _ F' H' s (itok_tup h1 d) (by rw [← dpAll_len d]; exact sz_tup I h2)
  | str z =>
    have er : (if z.length ≤ LIM then some (z.cps.toList.map fun c => (.str ⟨#[c]⟩ : PV)) else none) = some xs := er
    split at er
    · rename_i hz
      cases er
      refine wI_of (pi_str pe_w) (R := R) (h F0 B ρ σ F H _ _ Rl e1 fun v F' H' s bo => ⟨z, bo.bor.str, q _ F' H' s itok_str ?_⟩) fun J H' _ r => r
      rw [List.length_map, Array.length_toList]
      exact lim_line hz
    · cases er
  | none => cases er
  | bool k => cases er
  | int i => cases er
  | dict kvs => cases er
theorem si_rng1 {b : Bool} (O : Ok X ci C G) {tg a : Expr} {p pos : Pos} {ev : En → Option PV} (hg : Gl X ("range" : Str)) (hs : noStar a = true) (h : SndB X a ev) : SndI b X tg (.Call (.Name "range" p) [a] [] pos) (fun ρ => do
    match ← ev ρ with
    | .int n => if n.natAbs ≤ LIM then some (rngL 0 n.toNat) else none
    | _ => none) := by
  intro F0 B ρ σ F H xs R Rl er q
  obtain ⟨x, e1, er⟩ := bind_some er
  split at er
  · split at er
    · rename_i n hz
      cases er
      refine wI_of (pi_range1 hg (O.blt _ (by decide +kernel)) (pa_cons pe_w pa_nil (star_of hs)) (by rw [star_of hs]; rfl)) (R := R) (h.run Rl e1 fun v F' H' s bo => ?_) fun J H' _ r => r
      exact ⟨n, by rw [bo.int], by unfold LIM at hz; omega, by unfold LIM at hz; omega, q _ F' H' s itok_rng (by rw [rngL_len]; exact lim_line (by omega))⟩
    · cases er
  · cases er
theorem si_rng2 {b : Bool} (O : Ok X ci C G) {tg a c : Expr} {p pos : Pos} {ea ec : En → Option PV} (hg : Gl X ("range" : Str)) (hs : noStar a = true) (hs2 : noStar c = true) (ha : SndB X a ea) (hc : SndB X c ec) :
    SndI b X tg (.Call (.Name "range" p) [a, c] [] pos) (fun ρ => do
    let x ← ea ρ
    let y ← ec ρ
    match x, y with
    | .int i, .int j => if i.natAbs ≤ LIM && j.natAbs ≤ LIM then some (rngL i (j - i).toNat) else none
    | _, _ => none) := by
  intro F0 B ρ σ F H xs R Rl er q
  obtain ⟨x, e1, er⟩ := bind_some er
  obtain ⟨y, e2, er⟩ := bind_some er
  split at er
  · rename_i i j _
    split at er
    · rename_i hz
      cases er
      rw [Bool.and_eq_true, decide_eq_true_eq, decide_eq_true_eq] at hz
      refine wI_of (pi_range2 hg (O.blt _ (by decide +kernel)) (pa_cons pe_w (pa_cons pe_w pa_nil (star_of hs2)) (star_of hs)) (by rw [star_of hs, star_of hs2]; rfl) (by rw [star_of hs2]; rfl)) (R := R) (snd_two ha hc Rl e1 e2 fun v w F' H' s b1 b2 => ?_) fun J H' _ r => r
      refine ⟨i, j, by rw [b1.int, b2.int], by unfold LIM at hz; omega, q _ F' H' s itok_rng ?_⟩
      rw [rngL_len, sizeLine_eq]
      unfold LIM at hz; omega
    · cases er
  · cases er
theorem itok_rngD {K : PySem.W.Frag} {F1 B1 : Hp} {i : Int} {n : Nat} : ItOk K (Itc i (-1) n) (rngDL i n) F1 B1 := by
  intro k F H sf sb le
  have len : (rngDL i n).length = n := by unfold rngDL; rw [List.length_map, List.length_range]
  refine ⟨fun e he => ?_, fun hi => by rw [len] at hi; show n ≤ k; omega⟩
  obtain ⟨h1, h2⟩ := List.getElem?_eq_some_iff.mp he
  rw [len] at h1
  refine ⟨h1, fun x H' ⟨e1, e2⟩ => ?_⟩
  subst e1 e2
  refine ⟨F, Step.rfl' le, ?_⟩
  have : e = .int (i + (k : Nat) * (-1)) := by
    clear h2
    unfold rngDL at he
    rw [List.getElem?_map, List.getElem?_range h1] at he
    cases he
    show PyData.int (i - (k : Nat)) = _
    congr 1; omega
  rw [this]
  exact .int _
theorem si_rngD {b : Bool} (O : Ok X ci C G) {tg a c : Expr} {k : Nat} {p p1 p2 pos : Pos} {ea ec : En → Option PV} (hg : Gl X ("range" : Str)) (hs : noStar a = true) (hs2 : noStar c = true) (ha : SndB X a ea) (hc : SndB X c ec) :
    SndI b X tg (.Call (.Name "range" p) [a, c, .UnaryOp .USub (.Constant (.int 1) k p1) p2] [] pos) (fun ρ => do
    let x ← ea ρ
    let y ← ec ρ
    match x, y with
    | .int i, .int j => if i.natAbs ≤ LIM && j.natAbs ≤ LIM then some (rngDL i (i - j).toNat) else none
    | _, _ => none) := by
  intro F0 B ρ σ F H xs R Rl er q
  obtain ⟨x, e1, er⟩ := bind_some er
  obtain ⟨y, e2, er⟩ := bind_some er
  split at er
  · rename_i i j _
    split at er
    · rename_i hz
      cases er
      rw [Bool.and_eq_true, decide_eq_true_eq, decide_eq_true_eq] at hz
      have neg : PE X (.UnaryOp .USub (.Constant (.int 1) k p1) p2) (wE X (.UnaryOp .USub (.Constant (.int 1) k p1) p2)) := pe_w
      refine wI_of (pi_range3 hg (O.blt _ (by decide +kernel)) (pa_cons pe_w (pa_cons pe_w (pa_cons (pe_un un_neg pe_int) pa_nil rfl) (star_of hs2)) (star_of hs)) (by rw [star_of hs]) (by rw [star_of hs2]; rfl)) (R := R) (snd_two ha hc Rl e1 e2 fun v w F' H' s b1 b2 => ?_) fun J H' _ r => r
      have len : (rngDL i (i - j).toNat).length = (i - j).toNat := by unfold rngDL; rw [List.length_map, List.length_range]
      refine ⟨1, rfl, i, j, -1, (i - j).toNat, by rw [b1.int, b2.int], RgC.neg (by unfold LIM at hz; omega) (by unfold LIM at hz; omega) (by unfold LIM at hz; omega) (by unfold LIM at hz; omega), q _ F' H' s itok_rngD ?_⟩
      rw [len, sizeLine_eq]
      unfold LIM at hz; omega
    · cases er
  · cases er
theorem si_enum {b : Bool} (O : Ok X ci C G) {a : Expr} {es : List Expr} {k : Nat} {tp p pos : Pos} {ev : En → Option PV} (hg : Gl X ("enumerate" : Str)) (hs : noStar a = true) (h : SndS b X a ev) :
    SndI b X (.Tuple es k tp) (.Call (.Name "enumerate" p) [a] [] pos) (fun ρ => do
    let x ← ev ρ
    (items x).map enumL) := by
  intro F0 B ρ σ F H xs R Rl er q
  obtain ⟨x, e1, er⟩ := bind_some er
  obtain ⟨ys, e2, er⟩ := Option.map_eq_some_iff.mp er
  subst er
  have mk : ∀ {t : TI}, PI X (.Tuple es k tp) (.Call (.Name "enumerate" p) [a] [] pos) t → t = iEnumA X.K (tCons (wE X a) tNil) → wI X (.Tuple es k tp) (.Call (.Name "enumerate" p) [a] [] pos) σ H R := fun {t} ht et => by
    subst et
    refine wI_of ht (R' := fun J H' => ∃ F', Step F H F' H' ∧ ItOk X.K J (enumL ys) F' (if b then F' else H') ∧ ∃ a vs, (SqL X.K H' a vs ∨ SqT X.K H' a vs) ∧ vs.length = ys.length) (h F0 B ρ σ F H _ _ Rl e1 fun v F' H' s bo => ?_)
      fun J H' I ⟨F', s, it, a, vs, hz, e⟩ => q J F' H' s it (by rw [enumL_len, ← e]; exact hz.elim (sz_list I) (sz_tup I))
    cases x with
    | list zs =>
      cases (show some zs = some ys from e2)
      obtain ⟨a, vs, rfl, h1, h2, d⟩ := bo.list s.le
      exact ⟨a, vs, rfl, .inl ⟨h2, F', s, itok_enumL h1 d, a, vs, .inl h2, dpAll_len d⟩⟩
    | tuple zs =>
      cases (show some zs = some ys from e2)
      obtain ⟨a, vs, rfl, h1, h2, d⟩ := bo.tup s.le
      exact ⟨a, vs, rfl, .inr ⟨h2, F', s, itok_enumT h1 d, a, vs, .inr h2, dpAll_len d⟩⟩
    | none => cases e2
    | bool b => cases e2
    | int i => cases e2
    | str z => cases e2
    | dict kvs => cases e2
  exact mk (pi_enumA hg (O.blt _ (by decide +kernel)) (pa_cons pe_w pa_nil (star_of hs)) (by rw [star_of hs]; rfl)) rfl
theorem si_zip {b : Bool} (O : Ok X ci C G) {a c : Expr} {es : List Expr} {k : Nat} {tp p pos : Pos} {ea ec : En → Option PV} (hg : Gl X ("zip" : Str)) (hs : noStar a = true) (hs2 : noStar c = true) (ha : SndS b X a ea) (hc : SndS b X c ec) :
    SndI b X (.Tuple es k tp) (.Call (.Name "zip" p) [a, c] [] pos) (fun ρ => do
    let x ← ea ρ
    let y ← ec ρ
    match x, y with
    | .list xs, .list ys => some (zipL xs ys)
    | .tuple xs, .tuple ys => some (zipL xs ys)
    | _, _ => none) := by
  intro F0 B ρ σ F H zs R Rl er q
  obtain ⟨x, e1, er⟩ := bind_some er
  obtain ⟨y, e2, er⟩ := bind_some er
  have two : ∀ {k : V → V → Hp → Prop}, (∀ v w F' H', Step F H F' H' → BorS b X.K F' H' v x → BorS b X.K F' H' w y → k v w H') → wE X a σ H fun v H1 => wE X c σ H1 fun w H2 => k v w H2 := fun {k} kq =>
    ha F0 B ρ σ F H x _ Rl e1 fun v F1 H1 s1 b1 => hc F0 B ρ σ F1 H1 y _ (Rl.step s1) e2 fun w F2 H2 s2 b2 => kq v w F2 H2 (s1.trans s2) (b1.step s2) b2
  have pi := RZ.pi_zipA (X := X) (elts := es) (kk := k) (tpos := tp) (p := p) (pos := pos) hg (O.blt _ (by decide +kernel)) (pa_cons (X := X) (e := a) pe_w (pa_cons (e := c) pe_w pa_nil (star_of hs2)) (star_of hs)) (star_of hs) (by rw [star_of hs2]; rfl)
  split at er
  · rename_i xs ys _
    cases er
    refine wI_of pi (R' := fun J H' => ∃ F', Step F H F' H' ∧ ItOk X.K J (zipL xs ys) F' (if b then F' else H') ∧ ∃ a vs, SqL X.K H' a vs ∧ vs.length = xs.length) (two fun v w F' H' s b1 b2 => ?_)
      fun J H' I ⟨F', s, it, a, vs, hz, e⟩ => q J F' H' s it (by rw [zipL_len, ← e]; exact Nat.le_trans (Nat.min_le_left _ _) (sz_list I hz))
    obtain ⟨a1, vs, rfl, h1, h2, d⟩ := b1.list s.le
    obtain ⟨a2, ws, rfl, h3, h4, d2⟩ := b2.list s.le
    exact ⟨a1, a2, vs, ws, rfl, .inl ⟨h2, h4, F', s, itok_zipL h1 h3 d d2, a1, vs, h2, dpAll_len d⟩⟩
  · rename_i xs ys _
    cases er
    refine wI_of pi (R' := fun J H' => ∃ F', Step F H F' H' ∧ ItOk X.K J (zipL xs ys) F' (if b then F' else H') ∧ ∃ a vs, SqT X.K H' a vs ∧ vs.length = xs.length) (two fun v w F' H' s b1 b2 => ?_)
      fun J H' I ⟨F', s, it, a, vs, hz, e⟩ => q J F' H' s it (by rw [zipL_len, ← e]; exact Nat.le_trans (Nat.min_le_left _ _) (sz_tup I hz))
    obtain ⟨a1, vs, rfl, h1, h2, d⟩ := b1.tup s.le
    obtain ⟨a2, ws, rfl, h3, h4, d2⟩ := b2.tup s.le
    exact ⟨a1, a2, vs, ws, rfl, .inr ⟨h2, h4, F', s, itok_zipT h1 h3 d d2, a1, vs, h2, dpAll_len d⟩⟩
  · cases er
end
end Pz
set_option Elab.async false
set_option linter.all false
set_option maxRecDepth 100000
set_option maxHeartbeats 1000000
/-! Pz: targets; comprehensions. -/
namespace Pz
open PySem PySem.Spec PyProof.Rows L2

/-! ### targets -/
def wG (X : Cx) (tg : Expr) : TG := fun v σ H Q => ∀ (pins : List (Addr × Obj)) (s : Shared) (u : Value), Inv X pins σ H s → RelV v u →
  wpAny (model X.prog X.w) X.A (assign tg X.env u) (fun _ s' => ∃ σ' H', Inv X pins σ' H' s' ∧ Q σ' H') X.xe s
theorem pg_w {X : Cx} {tg : Expr} : PG X tg (wG X tg) := ⟨fun pins s σ H v u Q I r h => h pins s u I r⟩
theorem wG_of {X : Cx} {tg : Expr} {t : TG} {v : V} {σ : L2.St} {H : Hp} {Q : L2.St → Hp → Prop} (h : PG X tg t) (q : t v σ H Q) : wG X tg v σ H Q := fun pins s u I r => h.run pins s σ H v u Q I r q
def wGs (X : Cx) (ts : List Expr) : TGs := fun vs σ H Q => ∀ (pins : List (Addr × Obj)) (s : Shared) (us : List Value), Inv X pins σ H s → Vals vs us →
  wpAny (model X.prog X.w) X.A (assignInOrder ((assignEach ts X.env).map (·.2)) us) (fun _ s' => ∃ σ' H', Inv X pins σ' H' s' ∧ Q σ' H') X.xe s
theorem pgs_w {X : Cx} {ts : List Expr} : PGs X ts (wGs X ts) := ⟨fun pins s σ H vs us Q I r h => h pins s us I r⟩
theorem wGs_of {X : Cx} {ts : List Expr} {t : TGs} {vs : List V} {σ : L2.St} {H : Hp} {Q : L2.St → Hp → Prop} (h : PGs X ts t) (q : t vs σ H Q) : wGs X ts vs σ H Q := fun pins s us I r => h.run pins s σ H vs us Q I r q

/-- outside these slots nothing changes -/
structure Keeps (sl : List Nat) (σ σ' : L2.St) : Prop where
  len : σ'.length = σ.length
  out : ∀ j, j ∉ sl → σ'[j]? = σ[j]?
theorem Keeps.wipe {sl vs : List Nat} {σ σ' : L2.St} (h : Keeps sl σ σ') (s : ∀ i ∈ sl, i ∈ vs) : L2.wipe σ' vs = L2.wipe σ vs := by
  apply List.ext_getElem?
  intro j
  by_cases hj : j ∈ vs
  · have z : ∀ {τ : L2.St}, (L2.wipe τ vs)[j]? = if j < τ.length then some none else none := fun {τ} => by
      clear h s
      induction vs with
      | nil => cases hj
      | cons v vs ih =>
        unfold L2.wipe
        by_cases e : v = j
        · subst e
          by_cases hl : v < τ.length
          · rw [if_pos hl, List.getElem?_set_self (by rw [wipe_length]; exact hl)]
          · rw [if_neg hl, List.getElem?_eq_none (by rw [List.length_set, wipe_length]; omega)]
        · rw [List.getElem?_set_ne e]
          exact ih ((List.mem_cons.mp hj).resolve_left fun q => e q.symm)
    rw [z, z, h.len]
  · rw [wipe_out hj, wipe_out hj]
    exact h.out j fun q => hj (s j q)
theorem Keeps.trans {a b : List Nat} {σ σ1 σ2 : L2.St} (h : Keeps a σ σ1) (h2 : Keeps b σ1 σ2) : Keeps (a ++ b) σ σ2 :=
  ⟨h2.len.trans h.len, fun j hj => (h2.out j fun q => hj (List.mem_append_right _ q)).trans (h.out j fun q => hj (List.mem_append_left _ q))⟩

def SndG (X : Cx) (tg : Expr) (t : Tg) : Prop := ∀ (F0 B : Hp) (ρ : En) (σ : L2.St) (F H : Hp) (v : V) (d : PV) (ρ' : En) (Q : L2.St → Hp → Prop), Rel X.K F0 B ρ σ F H → Dp X.K F v d → asg t d ρ = some ρ' →
  (∀ σ', Rel X.K F0 B ρ' σ' F H → Keeps t.slots σ σ' → Q σ' H) → wG X tg v σ H Q
def SndGs (X : Cx) (tgs : List Expr) (t : Tgs) : Prop := ∀ (F0 B : Hp) (ρ : En) (σ : L2.St) (F H : Hp) (vs : List V) (ds : List PV) (ρ' : En) (Q : L2.St → Hp → Prop), Rel X.K F0 B ρ σ F H → DpAll X.K F vs ds → asgs t ds ρ = some ρ' →
  (∀ σ', Rel X.K F0 B ρ' σ' F H → Keeps t.slots σ σ' → Q σ' H) → wGs X tgs vs σ H Q

section
variable {X : Cx} {ci : CI} {C : Str → List PV → Option RV} {G : Str → Option PV}
theorem isGs_stars {ci : CI} : ∀ {ts : Tgs} {es : List Expr} {env : Env}, isGs ci ts es = true → (assignEach es env).findIdx? (·.1) = none
  | .nil, [], _, _ => rfl
  | .nil, _ :: _, _, h => by cases h
  | .cons _ _, [], _, h => by cases h
  | .cons t ts, e :: es, env, h => by
    have h : (isG ci t e && noStar e && isGs ci ts es) = true := h
    rw [Bool.and_eq_true, Bool.and_eq_true] at h
    have z : assignEach (e :: es) env = (false, assign e env) :: assignEach es env := by
      obtain ⟨⟨_, h⟩, _⟩ := h
      cases e <;> first | rfl | cases h
    rw [z, List.findIdx?_cons, isGs_stars h.2]
    rfl
theorem assignEach_len : ∀ {es : List Expr} {env : Env}, (assignEach es env).length = es.length
  | [], _ => rfl
  | e :: es, env => by
    have := @assignEach_len es env
    cases e <;> (show _ + 1 = _ + 1; rw [this])
theorem asgs_len : ∀ {ts : Tgs} {es : List Expr} {ds : List PV} {ρ ρ' : En}, isGs ci ts es = true → asgs ts ds ρ = some ρ' → ds.length = es.length
  | .nil, [], [], _, _, _, _ => rfl
  | .nil, [], _ :: _, _, _, _, h => by cases h
  | .nil, _ :: _, _, _, _, h, _ => by cases h
  | .cons _ _, [], _, _, _, h, _ => by cases h
  | .cons _ _, _ :: _, [], _, _, _, h => by cases h
  | .cons t ts, e :: es, d :: ds, ρ, ρ', h, a => by
    have h : (isG ci t e && noStar e && isGs ci ts es) = true := h
    rw [Bool.and_eq_true] at h
    have a : (asg t d ρ).bind (asgs ts ds) = some ρ' := a
    obtain ⟨ρ1, _, a2⟩ := Option.bind_eq_some_iff.mp a
    rw [List.length_cons, List.length_cons, asgs_len h.2 a2]
mutual
theorem snd_g (O : Ok X ci C G) : ∀ {t : Tg} {e : Expr}, isG ci t e = true → SndG X e t
  | .nm i, e, h => by
    cases e with
    | Name x pos =>
      have h : (decide (ci.N[i]? = some x) && locB ci x && ci.st x) = true := h
      simp only [Bool.and_eq_true, decide_eq_true_eq] at h
      intro F0 B ρ σ F H v d ρ' Q R dv a q
      cases a
      refine wG_of (pg_name O.nd (nm_of O h.1.1) (loc_of O h.1.2) (O.st _ h.2)) (q _ (R.setV dv) ⟨by rw [List.length_set], fun j hj => ?_⟩)
      rw [List.getElem?_set_ne]
      intro e
      exact hj (by rw [e]; exact List.mem_singleton.mpr rfl)
    | _ => cases h
  | .tp ts, e, h => by
    cases e with
    | Tuple es k pos =>
      have h : isGs ci ts es = true := h
      intro F0 B ρ σ F H v d ρ' Q R dv a q
      cases dv with
      | tup hq hs =>
        rename_i a1 xs ds
        have a : asgs ts ds ρ = some ρ' := a
        refine wG_of (pg_tup (n := es.length) O.calm pgs_w assignEach_len (isGs_stars h)) ⟨a1, xs, rfl, sqT_same R.le hq, ?_, snd_gs O h F0 B ρ σ F H xs ds ρ' Q R hs a q⟩
        rw [dpAll_len hs]; exact asgs_len h a
      | non => cases a
      | bl b => cases a
      | int i => cases a
      | str x => cases a
      | lst _ _ => cases a
    | _ => cases h
theorem snd_gs (O : Ok X ci C G) : ∀ {t : Tgs} {e : List Expr}, isGs ci t e = true → SndGs X e t
  | .nil, [], h => by
    intro F0 B ρ σ F H vs ds ρ' Q R dv a q
    cases dv with
    | nil => cases a; exact wGs_of pgs_nil ⟨rfl, q σ R ⟨rfl, fun _ _ => rfl⟩⟩
    | cons _ _ => cases a
  | .nil, _ :: _, h => by cases h
  | .cons _ _, [], h => by cases h
  | .cons t ts, e :: es, h => by
    have h : (isG ci t e && noStar e && isGs ci ts es) = true := h
    rw [Bool.and_eq_true, Bool.and_eq_true] at h
    have z : (assignEach (e :: es) X.env).map (·.2) = assign e X.env :: (assignEach es X.env).map (·.2) := by
      obtain ⟨⟨_, h⟩, _⟩ := h
      cases e <;> first | rfl | cases h
    intro F0 B ρ σ F H vs ds ρ' Q R dv a q
    cases dv with
    | nil => cases a
    | cons d1 d2 =>
      rename_i v vs d ds
      have a : (asg t d ρ).bind (asgs ts ds) = some ρ' := a
      obtain ⟨ρ1, a1, a2⟩ := Option.bind_eq_some_iff.mp a
      refine wGs_of (pgs_cons pg_w pgs_w z) ⟨v, vs, rfl, snd_g O h.1.1 F0 B ρ σ F H v d ρ1 _ R d1 a1 fun σ1 R1 k1 => ?_⟩
      exact snd_gs O h.2 F0 B ρ1 σ1 F H vs ds ρ' Q R1 d2 a2 fun σ2 R2 k2 => q σ2 R2 (k1.trans k2)
end

/-! ### tests of a clause -/
def wTs (X : Cx) (ifs : List Expr) : TT := fun σ H Q => ∀ (pins : List (Addr × Obj)) (s : Shared), Inv X pins σ H s →
  wpAny (model X.prog X.w) X.A (forIn ifs true fun c r => if r = true then do let ok ← isTrue c X.env (eval c X.env); pure (ForInStep.yield ok) else pure (ForInStep.yield r)) (TP X pins σ Q) X.xe s
theorem pts_w {X : Cx} {ifs : List Expr} : PTs X ifs (wTs X ifs) := ⟨fun pins s σ H Q I h => h pins s I⟩
theorem wTs_of {X : Cx} {ifs : List Expr} {t : TT} {σ : L2.St} {H : Hp} {Q : Bool → Hp → Prop} (h : PTs X ifs t) (q : t σ H Q) : wTs X ifs σ H Q := fun pins s I => h.run pins s σ H Q I q
def SndF (X : Cx) (ifs : List Expr) (ev : En → Option Bool) : Prop := ∀ (F0 B : Hp) (ρ : En) (σ : L2.St) (F H : Hp) (b : Bool) (Q : Bool → Hp → Prop), Rel X.K F0 B ρ σ F H → ev ρ = some b →
  (∀ F' H', Step F H F' H' → Q b H') → wTs X ifs σ H Q

/-! ### the block -/
/-- for every context of the block -/
def AllB (X : Cx) (scope : Scope) (p : Cx → Prop) : Prop := ∀ (s : Shared) (H : Hp) (D : Addr) (cl : List (Str × Addr)) (fp : List Addr), p (X.blk s H scope (compEnvC scope cl D X.env) fp)
def bG (X : Cx) (scope : Scope) (tg : Expr) : TG := fun v σ H Q => AllB X scope fun Y => wG Y tg v σ H Q
def bT (X : Cx) (scope : Scope) (ifs : List Expr) : TT := fun σ H Q => AllB X scope fun Y => wTs Y ifs σ H Q
def bE (X : Cx) (scope : Scope) (e : Expr) : TE := fun σ H Q => AllB X scope fun Y => wE Y e σ H Q
def bI (X : Cx) (scope : Scope) (tg iter : Expr) : TI := fun σ H Q => AllB X scope fun Y => wI Y tg iter σ H Q
theorem ok_blk (O : Ok X ci C G) {scope : Scope} {own : List (Str × Nat)} (h : blkB ci scope own = true) : AllB X scope fun Y => Ok Y (blkCI ci scope) C G := by
  intro s H D cl fp
  have hb := blkOk_by h
  have e : relabel scope X.env = relS scope ci.sc := by rw [← O.sc]; rfl
  refine { N := O.N, sc := e, fk := hb.kind, nd := O.nd, calm := O.calm, hd := O.hd, hu := O.hu, st := fun x hx => ?_, glob := O.glob, blt := O.blt, call := O.call, im := O.im }
  have hx : (match scope.names.lookup x with | some .local => true | some .cell => true | _ => false) = true := hx
  split at hx
  · rename_i e1
    refine .inr ?_
    show (relabel scope X.env).names.lookup x = _
    rw [e]
    exact lookup_relS_keep (by decide) e1
  · rename_i e1
    refine .inl ?_
    show (scope.names.lookup x == some .cell) = true
    rw [e1]; rfl
  · cases hx

/-! ### one clause -/
theorem compL_len {f : PV → Option (List PV)} (h1 : ∀ x ys, f x = some ys → ys.length ≤ 1) : ∀ {xs ys : List PV}, compL f xs = some ys → ys.length ≤ xs.length
  | [], _, h => by cases h; exact Nat.le_refl _
  | x :: xs, zs, h => by
    obtain ⟨y, e1, h⟩ := bind_some h
    obtain ⟨ys, e2, h⟩ := bind_some h
    cases h
    have a := h1 _ _ e1
    have b := compL_len h1 e2
    rw [List.length_append, List.length_cons]; omega
theorem compL_step {f : PV → Option (List PV)} {xs ys : List PV} {i : Nat} (h : compL f (xs.drop i) = some ys) : (xs.length ≤ i ∧ ys = []) ∨ (∃ x y zs, xs[i]? = some x ∧ f x = some y ∧ compL f (xs.drop (i + 1)) = some zs ∧ ys = y ++ zs) := by
  by_cases hi : i < xs.length
  · rw [List.drop_eq_getElem_cons hi] at h
    obtain ⟨y, e1, h⟩ := bind_some h
    obtain ⟨zs, e2, h⟩ := bind_some h
    cases h
    exact .inr ⟨xs[i], y, zs, List.getElem?_eq_getElem hi, e1, e2, rfl⟩
  · rw [List.drop_eq_nil_of_le (by omega)] at h
    cases h
    exact .inl ⟨by omega, rfl⟩

/-- D, the list that is being made -/
structure Mk (K : PySem.W.Frag) (F1 H1 F H : Hp) (D : Addr) (ds : List PV) : Prop where
  s : Step F1 H1 F H
  n1 : H1 D = none
  nF : F D = none
  ex : ∃ vs, H D = some (.lst vs) ∧ DpAll K F vs ds
theorem Mk.init {K : PySem.W.Frag} {F1 H1 : Hp} {D : Addr} (le : Same F1 H1) (h : H1 D = none) : Mk K F1 H1 F1 (upd H1 D (.lst [])) D [] :=
  ⟨Step.lay le h, h, le.free h, [], upd_same, .nil⟩
theorem Mk.step {K : PySem.W.Frag} {F1 H1 F H F' H' : Hp} {D : Addr} {ds : List PV} (m : Mk K F1 H1 F H D ds) (s : Step F H F' H') : Mk K F1 H1 F' H' D ds := by
  obtain ⟨vs, e, d⟩ := m.ex
  exact ⟨m.s.trans s, m.n1, s.nw _ _ e m.nF, vs, s.h _ _ e, dpAll_mono s.f d⟩
theorem Mk.app {K : PySem.W.Frag} {F1 H1 F H : Hp} {D : Addr} {ds : List PV} {v : V} {d : PV} (m : Mk K F1 H1 F H D ds) (dv : Dp K F v d) : ∃ acc, H D = some (.lst acc) ∧ acc.length = ds.length ∧ Mk K F1 H1 F (upd H D (.lst (acc ++ [v]))) D (ds ++ [d]) := by
  obtain ⟨vs, e, dd⟩ := m.ex
  refine ⟨vs, e, dpAll_len dd, ⟨⟨fun b x q => ?_, m.s.f, fun b x q => ?_, m.s.nw⟩, m.n1, m.nF, vs ++ [v], upd_same, dpAll_app dd (.cons dv .nil)⟩⟩
  · rw [upd_ne (ne_of_none q m.n1)]; exact m.s.h _ _ q
  · rw [upd_ne (ne_of_none q m.nF)]; exact m.s.le _ _ q

/-- an expression's plan does what ev says -/
def SndQ (K : PySem.W.Frag) (t : TE) (ev : En → Option RV) : Prop := ∀ (F0 B : Hp) (ρ : En) (σ : L2.St) (F H : Hp) (r : RV) (Q : VK), Rel K F0 B ρ σ F H → ev ρ = some r →
  (∀ v F' H', Step F H F' H' → RepR K H F' H' r v → Q v H') → t σ H Q
theorem sq_lc {scope : Scope} {tg iter elt : Expr} {ifs : List Expr} {t : Tg} {sl : List Nat} {eI : En → Option (List PV)} {eF : En → Option Bool} {eE : En → Option RV}
    (hI : SndI false X tg iter eI) (hG : AllB X scope fun Y => SndG Y tg t) (hF : AllB X scope fun Y => SndF Y ifs eF) (hE : AllB X scope fun Y => Snd Y elt eE) (hsl : ∀ i ∈ t.slots, i ∈ sl) :
    SndQ X.K (tLc (wI X tg iter) (bG X scope tg) (bT X scope ifs) (bE X scope elt) sl) (fun ρ => do
      let xs ← eI ρ
      let ys ← compL (fun x => do
        let ρ1 ← asg t x (wipeS ρ sl)
        let k ← eF ρ1
        if k then (eE ρ1).map fun r => [r.v] else some []) xs
      some ⟨.list ys, true⟩) := by
  intro F0 B ρ σ F H r Q R e q
  obtain ⟨xs, e1, e⟩ := bind_some e
  obtain ⟨ys, e2, e⟩ := bind_some e
  cases e
  generalize hf : (fun x => do
        let ρ1 ← asg t x (wipeS ρ sl)
        let k ← eF ρ1
        if k then (eE ρ1).map fun r => [r.v] else some [] : PV → Option (List PV)) = f at e2
  have f1 : ∀ x ys, f x = some ys → ys.length ≤ 1 := fun x ys h => by
    rw [← hf] at h
    obtain ⟨ρ1, _, h⟩ := bind_some h
    obtain ⟨k, _, h⟩ := bind_some h
    split at h
    · obtain ⟨r, _, h⟩ := Option.map_eq_some_iff.mp h
      subst h; exact Nat.le_refl _
    · cases h; exact Nat.zero_le _
  refine hI F0 B ρ σ F H xs _ R e1 fun J F1 H1 s1 it hz D hD => ?_
  have it : ItOk X.K J xs F1 H1 := it
  refine ⟨fun i m H' => m = xs.length - i ∧ i ≤ xs.length ∧ ∃ F' ds es, Mk X.K F1 H1 F' H' D ds ∧ ds.length ≤ i ∧ compL f (xs.drop i) = some es ∧ ds ++ es = ys,
    ⟨_, rfl, Nat.zero_le _, F1, [], ys, Mk.init s1.le hD, Nat.le_refl _, e2, rfl⟩, fun i m H2 ⟨em, hi, F2, ds, es, mk, hl, ec, eo⟩ => ?_⟩
  obtain ⟨itg, its⟩ := it i F2 H2 mk.s.f mk.s.h mk.s.le
  rcases compL_step ec with ⟨hx, rfl⟩ | ⟨x, y, zs, hx, hy, hz2, rfl⟩
  · refine .inl ⟨its hx, q _ F2 H2 (s1.trans mk.s) ?_⟩
    obtain ⟨vs, h1, h2⟩ := mk.ex
    rw [List.append_nil] at eo; subst eo
    exact .new (s1.h.free hD) h1 mk.nF h2
  · obtain ⟨go, yl⟩ := itg x hx
    have hlt : i < xs.length := (List.getElem?_eq_some_iff.mp hx).1
    refine .inr ⟨go, fun H' => ∃ F' ds es, Mk X.K F1 H1 F' H' D ds ∧ ds.length ≤ i + 1 ∧ compL f (xs.drop (i + 1)) = some es ∧ ds ++ es = ys, fun H' h => ⟨xs.length - (i + 1), by omega, rfl, hlt, h⟩, fun u H3 hy3 => ?_⟩
    obtain ⟨F3, s3, du⟩ := yl u H3 hy3
    have mk3 := mk.step s3
    have R3 := ((R.step s1).step mk3.s).wipe sl
    rw [← hf] at hy
    obtain ⟨ρ1, a1, hy⟩ := bind_some hy
    obtain ⟨k, ek, hy⟩ := bind_some hy
    intro s0 H0 D0 cl fp
    refine hG s0 H0 D0 cl fp F0 B _ _ F3 H3 u x ρ1 _ R3 du a1 fun σ2 R4 k2 => ?_
    refine ⟨?_, ?_⟩
    · rw [k2.wipe hsl]
      exact Keeps.wipe (sl := sl) ⟨wipe_length _ _, fun j hj => wipe_out hj⟩ fun i h => h
    · intro s0 H0 D0 cl fp
      refine hF s0 H0 D0 cl fp F0 B ρ1 σ2 F3 H3 k _ R4 ek fun F5 H5 s5 => ?_
      have mk5 := mk3.step s5
      cases k with
      | false =>
        rw [if_neg Bool.false_ne_true] at hy ⊢
        cases hy
        exact ⟨F5, ds, zs, mk5, by omega, hz2, eo⟩
      | true =>
        rw [if_pos rfl] at hy ⊢
        obtain ⟨r, er, hy⟩ := Option.map_eq_some_iff.mp hy
        subst hy
        intro s0 H0 D0 cl fp
        refine (hE s0 H0 D0 cl fp).va (R4.step s5) er fun v F6 H6 s6 dv => ?_
        obtain ⟨acc, h1, h2, m6⟩ := (mk5.step s6).app dv
        refine ⟨acc, h1, by omega, F6, ds ++ [r.v], zs, m6, by rw [List.length_append]; simp; omega, hz2, ?_⟩
        rw [List.append_assoc]; exact eo
theorem snd_of_q {t : TE} {e : Expr} {ev : En → Option RV} (h : PE X e t) (q : SndQ X.K t ev) : Snd X e ev := fun F0 B ρ σ F H r Q R er k => wE_of h (q F0 B ρ σ F H r Q R er k)
end
end Pz
set_option Elab.async false
set_option linter.all false
set_option maxRecDepth 100000
set_option maxHeartbeats 1000000
/-! Pz: comprehensions of two clauses. -/
namespace Pz
open PySem PySem.Spec PyProof.Rows L2
section
variable {X : Cx} {ci : CI} {C : Str → List PV → Option RV} {G : Str → Option PV}
/-- but for D -/
def cutH (D : Addr) (H : Hp) : Hp := fun b => if b = D then none else H b
theorem cut_le {D : Addr} {H : Hp} : Same (cutH D H) H := fun b x e => by
  unfold cutH at e
  split at e
  · cases e
  · exact e
theorem cut_ne {D b : Addr} {H : Hp} (h : b ≠ D) : cutH D H b = H b := if_neg h
theorem le_cut {D : Addr} {F H : Hp} (le : Same F H) (h : F D = none) : Same F (cutH D H) := fun b x e => by
  rw [cut_ne (ne_of_none e h)]; exact le _ _ e
theorem cut_upd {D : Addr} {H : Hp} {o : HO} : cutH D (upd H D o) = cutH D H := by
  funext b
  by_cases h : b = D
  · unfold cutH; rw [if_pos h, if_pos h]
  · rw [cut_ne h, cut_ne h, upd_ne h]
theorem Mk.cut {K : PySem.W.Frag} {F1 H1 F H F' H' : Hp} {D : Addr} {ds : List PV} (m : Mk K F1 H1 F H D ds) (s : Step F H F' H') : Step F (cutH D H) F' (cutH D H') := by
  refine ⟨fun b x e => ?_, s.f, le_cut s.le (m.step s).nF, fun b x e n => s.nw b x (cut_le _ _ e) n⟩
  by_cases h : b = D
  · unfold cutH at e; rw [if_pos h] at e; cases e
  · rw [cut_ne h] at e ⊢; exact s.h _ _ e
theorem _root_.Pz.Rel.up {K : PySem.W.Frag} {F0 B F H H' : Hp} {ρ : En} {σ : L2.St} (R : Rel K F0 B ρ σ F H) (s : Same H H') (le : Same F H') : Rel K F0 B ρ σ F H' where
  le := le
  len := R.len
  val := R.val
  own := fun i ds e => let ⟨a, vs, h1, h2, h3, h4, h5⟩ := R.own i ds e; ⟨a, vs, h1, s _ _ h2, h3, h4, h5⟩
  dj := R.dj
  go := ⟨R.go.h.trans s, R.go.f, le, R.go.nw⟩
theorem _root_.Pz.Rel.cut {K : PySem.W.Frag} {F0 B F H : Hp} {ρ : En} {σ : L2.St} {D : Addr} (R : Rel K F0 B ρ σ F H) (hF : F D = none) (hB : B D = none) (h : ∀ (j : Nat) (ds : Oc) (b : Addr), ρ[j]? = some (Sl.obj ds) → σ[j]? = some (some (V.ref b)) → b ≠ D) : Rel K F0 B ρ σ F (cutH D H) where
  le := le_cut R.le hF
  len := R.len
  val := R.val
  own := fun i ds e => let ⟨a, vs, h1, h2, h3, h4, h5⟩ := R.own i ds e; ⟨a, vs, h1, (cut_ne (h i ds a e h1)).trans h2, h3, h4, h5⟩
  dj := R.dj
  go := ⟨le_cut R.go.h hB, R.go.f, le_cut R.le hF, R.go.nw⟩
mutual
theorem asg_own : ∀ {t : Tg} {v : PV} {ρ ρ' : En} {j : Nat} {ds : Oc}, asg t v ρ = some ρ' → ρ'[j]? = some (Sl.obj ds) → j ∉ t.slots ∧ ρ[j]? = some (Sl.obj ds)
  | .nm i, v, ρ, ρ', j, ds, a, e => by
    cases a
    by_cases hi : i < ρ.length
    · rw [sl_get_set hi] at e
      by_cases hj : j = i
      · rw [if_pos hj] at e; cases e
      · rw [if_neg hj] at e; exact ⟨fun h => hj (List.mem_singleton.mp h), e⟩
    · rw [set_out hi] at e
      refine ⟨fun h => ?_, e⟩
      have h := List.mem_singleton.mp h
      subst h
      exact hi (List.getElem?_eq_some_iff.mp e).1
  | .tp ts, v, ρ, ρ', j, ds, a, e => by
    cases v with
    | tuple vs => exact asgs_own (show asgs ts vs ρ = some ρ' from a) e
    | _ => cases a
theorem asgs_own : ∀ {t : Tgs} {v : List PV} {ρ ρ' : En} {j : Nat} {ds : Oc}, asgs t v ρ = some ρ' → ρ'[j]? = some (Sl.obj ds) → j ∉ t.slots ∧ ρ[j]? = some (Sl.obj ds)
  | .nil, [], ρ, ρ', j, ds, a, e => by cases a; exact ⟨List.not_mem_nil, e⟩
  | .nil, _ :: _, _, _, _, _, a, _ => by cases a
  | .cons _ _, [], _, _, _, _, a, _ => by cases a
  | .cons t ts, v :: vs, ρ, ρ', j, ds, a, e => by
    obtain ⟨ρ1, a1, a2⟩ := Option.bind_eq_some_iff.mp (show (asg t v ρ).bind (asgs ts vs) = some ρ' from a)
    obtain ⟨h1, e1⟩ := asgs_own a2 e
    obtain ⟨h2, e2⟩ := asg_own a1 e1
    exact ⟨fun h => (List.mem_append.mp h).elim h2 h1, e2⟩
end
theorem sq_lc2 {scope : Scope} {tg iter tg1 iter1 elt : Expr} {ifs ifs1 : List Expr} {t t1 : Tg} {sl sl1 : List Nat} {eI eI1 : En → Option (List PV)} {eF eF1 : En → Option Bool} {eE : En → Option RV}
    (hI : SndI false X tg iter eI) (hG : AllB X scope fun Y => SndG Y tg t) (hF : AllB X scope fun Y => SndF Y ifs eF)
    (hI1 : AllB X scope fun Y => SndI true Y tg1 iter1 eI1) (hG1 : AllB X scope fun Y => SndG Y tg1 t1) (hF1 : AllB X scope fun Y => SndF Y ifs1 eF1)
    (hE : AllB X scope fun Y => Snd Y elt eE) (hsl : ∀ i ∈ t.slots, i ∈ sl) (hsl1 : ∀ i ∈ t1.slots, i ∈ sl1) :
    SndQ X.K (tLc2 (wI X tg iter) (bG X scope tg) (bT X scope ifs) (bI X scope tg1 iter1) (bG X scope tg1) (bT X scope ifs1) (bE X scope elt) sl sl1) (fun ρ => do
      let xs ← eI ρ
      let ys ← compL (fun x => do
        let ρ1 ← asg t x (wipeS ρ sl)
        let k ← eF ρ1
        if k then do
          let xs1 ← eI1 ρ1
          compL (fun x1 => do
            let ρ2 ← asg t1 x1 (wipeS ρ1 sl1)
            let k1 ← eF1 ρ2
            if k1 then (eE ρ2).map fun r => [r.v] else some []) xs1
        else some []) xs
      if ys.length ≤ LIM then some ⟨.list ys, true⟩ else none) := by
  intro F0 B ρ σ F H r Q R e q
  obtain ⟨xs, e1, e⟩ := bind_some e
  obtain ⟨ys, e2, e⟩ := bind_some e
  split at e
  case isFalse => cases e
  rename_i hz
  cases e
  generalize hf : (fun x => do
        let ρ1 ← asg t x (wipeS ρ sl)
        let k ← eF ρ1
        if k then do
          let xs1 ← eI1 ρ1
          compL (fun x1 => do
            let ρ2 ← asg t1 x1 (wipeS ρ1 sl1)
            let k1 ← eF1 ρ2
            if k1 then (eE ρ2).map fun r => [r.v] else some []) xs1
        else some [] : PV → Option (List PV)) = f at e2
  refine hI F0 B ρ σ F H xs _ R e1 fun J F1 H1 s1 it hzl D hD => ?_
  have it : ItOk X.K J xs F1 H1 := it
  refine ⟨fun i m H' => m = xs.length - i ∧ i ≤ xs.length ∧ ∃ F' ds es, Mk X.K F1 H1 F' H' D ds ∧ compL f (xs.drop i) = some es ∧ ds ++ es = ys,
    ⟨_, rfl, Nat.zero_le _, F1, [], ys, Mk.init s1.le hD, e2, rfl⟩, fun i m H2 ⟨em, hi, F2, ds, es, mk, ec, eo⟩ => ?_⟩
  obtain ⟨itg, its⟩ := it i F2 H2 mk.s.f mk.s.h mk.s.le
  rcases compL_step ec with ⟨hx, rfl⟩ | ⟨x, y, zs, hx, hy, hz2, rfl⟩
  · refine .inl ⟨its hx, q _ F2 H2 (s1.trans mk.s) ?_⟩
    obtain ⟨vs, h1, h2⟩ := mk.ex
    rw [List.append_nil] at eo; subst eo
    exact .new (s1.h.free hD) h1 mk.nF h2
  · obtain ⟨go, yl⟩ := itg x hx
    have hlt : i < xs.length := (List.getElem?_eq_some_iff.mp hx).1
    refine .inr ⟨go, fun H' => ∃ F' ds es, Mk X.K F1 H1 F' H' D ds ∧ compL f (xs.drop (i + 1)) = some es ∧ ds ++ es = ys, fun H' h => ⟨xs.length - (i + 1), by omega, rfl, hlt, h⟩, fun u H3 hy3 => ?_⟩
    obtain ⟨F3, s3, du⟩ := yl u H3 hy3
    have mk3 := mk.step s3
    have R3 := ((R.step s1).step mk3.s).wipe sl
    rw [← hf] at hy
    obtain ⟨ρ1, a1, hy⟩ := bind_some hy
    obtain ⟨k, ek, hy⟩ := bind_some hy
    intro s0 H0 D0 cl fp
    refine hG s0 H0 D0 cl fp F0 B _ _ F3 H3 u x ρ1 _ R3 du a1 fun σ2 R4 k2 => ?_
    refine ⟨?_, ?_⟩
    · rw [k2.wipe hsl]
      exact Keeps.wipe (sl := sl) ⟨wipe_length _ _, fun j hj => wipe_out hj⟩ fun i h => h
    · intro s0 H0 D0 cl fp
      refine hF s0 H0 D0 cl fp F0 B ρ1 σ2 F3 H3 k _ R4 ek fun F5 H5 s5 => ?_
      have mk5 := mk3.step s5
      cases k with
      | false =>
        rw [if_neg Bool.false_ne_true] at hy ⊢
        cases hy
        exact ⟨F5, ds, zs, mk5, hz2, eo⟩
      | true =>
        rw [if_pos rfl] at hy ⊢
        obtain ⟨xs1, ex1, hy⟩ := bind_some hy
        intro s0 H0 D0 cl fp
        refine hI1 s0 H0 D0 cl fp F0 B ρ1 σ2 F5 H5 xs1 _ (R4.step s5) ex1 fun J1 F6 H6 s6 it1 hz1 => ?_
        have it1 : ItOk X.K J1 xs1 F6 F6 := it1
        have mk6 := mk5.step s6
        have R6 := ((R4.step s5).step s6).cut (D := D) mk6.nF (R.go.h.free (s1.h.free hD)) fun j ds b ej sj eb => by
          obtain ⟨oj, o2⟩ := asg_own a1 ej
          obtain ⟨a, vs, h1, h2, _⟩ := ((R.step s1).wipe sl).own j ds o2
          rw [k2.out j oj, h1] at sj
          cases sj
          subst eb
          rw [hD] at h2; cases h2
        generalize hf1 : (fun x1 => do
            let ρ2 ← asg t1 x1 (wipeS ρ1 sl1)
            let k1 ← eF1 ρ2
            if k1 then (eE ρ2).map fun r => [r.v] else some [] : PV → Option (List PV)) = f1 at hy
        refine ⟨fun j n H' => n = xs1.length - j ∧ j ≤ xs1.length ∧ ∃ F' ds' es', Step F6 (cutH D H6) F' (cutH D H') ∧ Mk X.K F1 H1 F' H' D ds' ∧ compL f1 (xs1.drop j) = some es' ∧ ds' ++ (es' ++ zs) = ys,
          ⟨_, rfl, Nat.zero_le _, F6, ds, y, Step.rfl' (le_cut s6.le mk6.nF), mk6, hy, eo⟩, fun j n H7 ⟨en, hj, F7, ds7, es7, s7, mk7, ec7, eo7⟩ => ?_⟩
        obtain ⟨itg1, its1⟩ := it1 j F7 H7 s7.f (s7.f.trans mk7.s.le) mk7.s.le
        rcases compL_step ec7 with ⟨hx1, rfl⟩ | ⟨x1, y1, zs1, hx1, hy1, hz21, rfl⟩
        · refine .inl ⟨its1 hx1, F7, ds7, zs, mk7, hz2, ?_⟩
          rw [List.nil_append] at eo7; exact eo7
        · obtain ⟨go1, yl1⟩ := itg1 x1 hx1
          have hlt1 : j < xs1.length := (List.getElem?_eq_some_iff.mp hx1).1
          refine .inr ⟨go1, fun H' => ∃ F' ds' es', Step F6 (cutH D H6) F' (cutH D H') ∧ Mk X.K F1 H1 F' H' D ds' ∧ compL f1 (xs1.drop (j + 1)) = some es' ∧ ds' ++ (es' ++ zs) = ys, fun H' h => ⟨xs1.length - (j + 1), by omega, rfl, hlt1, h⟩, fun u1 H8 hy8 => ?_⟩
          obtain ⟨F8, s8, du8⟩ := yl1 u1 H8 hy8
          have mk8 := mk7.step s8
          have s78 := s7.trans (mk7.cut s8)
          have R8 := ((R6.step s78).up (cut_le) mk8.s.le).wipe sl1
          rw [← hf1] at hy1
          obtain ⟨ρ2, a2, hy1⟩ := bind_some hy1
          obtain ⟨k1, ek1, hy1⟩ := bind_some hy1
          intro s0 H0 D0 cl fp
          refine hG1 s0 H0 D0 cl fp F0 B _ _ F8 H8 u1 x1 ρ2 _ R8 du8 a2 fun σ9 R9 k9 => ?_
          refine ⟨?_, ?_⟩
          · rw [k9.wipe hsl1]
            exact Keeps.wipe (sl := sl1) ⟨wipe_length _ _, fun j hj => wipe_out hj⟩ fun i h => h
          · intro s0 H0 D0 cl fp
            refine hF1 s0 H0 D0 cl fp F0 B ρ2 σ9 F8 H8 k1 _ R9 ek1 fun F9 H9 s9 => ?_
            have mk9 := mk8.step s9
            have s69 := s78.trans (mk8.cut s9)
            cases k1 with
            | false =>
              rw [if_neg Bool.false_ne_true] at hy1 ⊢
              cases hy1
              exact ⟨F9, ds7, zs1, s69, mk9, hz21, eo7⟩
            | true =>
              rw [if_pos rfl] at hy1 ⊢
              obtain ⟨r, er, hy1⟩ := Option.map_eq_some_iff.mp hy1
              subst hy1
              intro s0 H0 D0 cl fp
              refine (hE s0 H0 D0 cl fp).va (R9.step s9) er fun v F10 H10 s10 dv => ?_
              obtain ⟨acc, h1, h2, m10⟩ := (mk9.step s10).app dv
              have eo8 : (ds7 ++ [r.v]) ++ (zs1 ++ zs) = ys := by rw [← eo7]; simp
              refine ⟨acc, h1, ?_, F10, ds7 ++ [r.v], zs1, ?_, m10, hz21, eo8⟩
              · rw [sizeLine_eq]
                rw [← eo8] at hz
                simp only [List.length_append, List.length_cons, List.length_nil] at hz
                unfold LIM at hz; omega
              · rw [cut_upd]; exact s69.trans (mk9.cut s10)
end
end Pz
set_option Elab.async false
set_option linter.all false
set_option maxRecDepth 100000
set_option maxHeartbeats 2000000
/-! Pz: every expression that passes the check does what the evaluator says. -/
namespace Pz
open PySem PySem.Spec PyProof.Rows L2
section
variable {X : Cx} {ci : CI} {C : Str → List PV → Option RV} {G : Str → Option PV}
theorem SndT.weak {e : Expr} {f g : En → Option PV} (h : SndT X e g) (w : ∀ ρ d, f ρ = some d → g ρ = some d) : SndT X e f := fun F0 B ρ σ F H d b Q R e1 t q => h F0 B ρ σ F H d b Q R (w ρ d e1) t q
theorem SndW.weak {e : Expr} {f g : En → Option PV} (h : SndW X e g) (w : ∀ ρ d, f ρ = some d → g ρ = some d) : SndW X e f := fun F0 B ρ σ F H d b Q R e1 t q => h F0 B ρ σ F H d b Q R (w ρ d e1) t q
theorem SndB.weak {e : Expr} {f g : En → Option PV} (h : SndB X e g) (w : ∀ ρ d, f ρ = some d → g ρ = some d) : SndB X e f := fun F0 B ρ σ F H d Q R e1 q => h F0 B ρ σ F H d Q R (w ρ d e1) q
theorem rd_of {p : Tx} {ρ : En} {r : RV} (h : evE C G p ρ = some r) : rd p (evE C G p ρ) ρ = some r.v := by
  unfold rd
  split
  · rename_i i
    have h : (match ρ[i]? with | some (.val v) => some (⟨v, false⟩ : RV) | _ => none) = some r := h
    unfold slotR
    split at h
    · rename_i v hv
      cases h
      rw [hv]
    · cases h
  · rw [h]; rfl
/-- a test that is the truth of a bool -/
theorem snt_of_q {e : Expr} {t : TE} {ev : En → Option RV} (h : PT X e (tTest t)) (q : SndQ X.K t ev) (hb : ∀ ρ r, ev ρ = some r → ∃ b, r = ⟨.bool b, false⟩) : SndT X e (fun ρ => (ev ρ).map (·.v)) := by
  intro F0 B ρ σ F H d b Q R e1 t k
  obtain ⟨r, e2, e3⟩ := Option.map_eq_some_iff.mp e1
  obtain ⟨c, rfl⟩ := hb ρ r e2
  subst e3
  obtain rfl : c = b := Option.some.inj t
  refine wT_of h (q F0 B ρ σ F H _ _ R e2 fun v F' H' s rp => ⟨c, ?_, k F' H' s⟩)
  have dp := rp.va
  cases dp
  rfl
theorem sq_chain {o o' : Cm} {a b c : Expr} {ea eb ec : En → Option PV} (hu : X.A.units + 100 < cLine) (ha : SndB X a ea) (hb : SndB X b eb) (hc : SndB X c ec) :
    SndQ X.K (tChain (rData (evCmp o) X.K) (rData (evCmp o') X.K) (wE X a) (wE X b) (wE X c)) (fun ρ => do
      let x ← ea ρ
      let y ← eb ρ
      let k ← evCmp o x y
      if k then do
        let z ← ec ρ
        (evCmp o' y z).map fun c => ⟨.bool c, false⟩
      else some ⟨.bool false, false⟩) := by
  intro F0 B ρ σ F H r Q R e q
  obtain ⟨x, e1, e⟩ := bind_some e
  obtain ⟨y, e2, e⟩ := bind_some e
  obtain ⟨k, e3, e⟩ := bind_some e
  refine (snd_two ha hb R e1 e2 fun v w F' H' s b1 b2 => ⟨x, y, k, b1.dp s.le, b2.dp s.le, e3, k, rfl, ?_⟩)
  cases k with
  | true =>
    rw [if_pos rfl] at e ⊢
    obtain ⟨z, e4, e⟩ := bind_some e
    obtain ⟨c', h', e⟩ := Option.map_eq_some_iff.mp e
    exact hc.run (R.step s) e4 fun u F2 H2 s2 b3 => ⟨y, z, c', (b2.step s2).dp s2.le, b3.dp s2.le, h', boolQ (X := X) e q (s.trans s2)⟩
  | false =>
    rw [if_neg Bool.false_ne_true] at e ⊢
    exact boolQ (X := X) (Option.some.inj e) q s
end

structure GoodE (C : Str → List PV → Option RV) (G : Str → Option PV) (X : Cx) (p : Tx) (e : Expr) : Prop where
  ev : Snd X e (evE C G p)
  b : SndB X e (fun ρ => rd p (evE C G p ρ) ρ)
  t : tst p = true → SndT X e (fun ρ => rd p (evE C G p ρ) ρ)
  w : tst p = true → (∃ op es pos, e = .BoolOp op es pos) → SndW X e (fun ρ => rd p (evE C G p ρ) ρ)
structure GoodA (C : Str → List PV → Option RV) (G : Str → Option PV) (X : Cx) (t : Txs) (es : List Expr) : Prop where
  a : noStars es = true → SndA X es (evA C G t)
  r : noStars es = true → SndR X es (evR C G t)
  f : tsts t = true → SndF X es (evF C G t)
section
variable {X : Cx} {ci : CI} {C : Str → List PV → Option RV} {G : Str → Option PV}
theorem nobo {e : Expr} (h : ∀ op es pos, e ≠ .BoolOp op es pos) {p : Prop} : (∃ op es pos, e = .BoolOp op es pos) → p := fun ⟨op, es, pos, q⟩ => absurd q (h op es pos)
/-- where the test is the value's truth -/
theorem good_plain {t : Tx} {e : Expr} (hv : ∀ i, t ≠ .var i) (h : Snd X e (evE C G t)) (hp : plainT e = true) : GoodE C G X t e where
  ev := h
  b := snd_rd h fun i hi => absurd hi (hv i)
  t := fun _ => snt_plain hp (snd_rd h fun i hi => absurd hi (hv i))
  w := fun _ => nobo fun op es pos q => by subst q; cases hp
/-- .. where there is no test -/
theorem good_no {t : Tx} {e : Expr} (hv : ∀ i, t ≠ .var i) (h : Snd X e (evE C G t)) (hp : tst t = false) : GoodE C G X t e where
  ev := h
  b := snd_rd h fun i hi => absurd hi (hv i)
  t := fun q => Bool.noConfusion (hp.symm.trans q)
  w := fun q => Bool.noConfusion (hp.symm.trans q)
/-- .. with a test of its own -/
theorem good_t {t : Tx} {e : Expr} {f : En → Option PV} (hv : ∀ i, t ≠ .var i) (h : Snd X e (evE C G t)) (ht : SndT X e f) (hf : ∀ ρ r, evE C G t ρ = some r → f ρ = some r.v) (hb : ∀ op es pos, e ≠ .BoolOp op es pos) : GoodE C G X t e where
  ev := h
  b := snd_rd h fun i hi => absurd hi (hv i)
  t := fun _ => ht.weak fun ρ d e => by
    unfold rd at e
    split at e
    · exact absurd rfl (hv _)
    · obtain ⟨r, e1, e2⟩ := Option.map_eq_some_iff.mp e
      subst e2; exact hf ρ r e1
  w := fun _ => nobo hb
theorem rd_eq {t : Tx} {ρ : En} {d : PV} (hv : ∀ i, t ≠ .var i) (h : rd t (evE C G t ρ) ρ = some d) : ∃ r, evE C G t ρ = some r ∧ r.v = d := by
  unfold rd at h
  split at h
  · exact absurd rfl (hv _)
  · exact Option.map_eq_some_iff.mp h
theorem map_bool {f : Bool → PV} {o : Option Bool} {r : RV} (h : (o.map fun c => (⟨f c, false⟩ : RV)) = some r) : (o.map fun c => f c) = some r.v := by
  cases o with
  | none => cases h
  | some c => cases h; rfl

theorem evA_len {ci : CI} : ∀ {t : Txs} {es : List Expr} {ρ : En} {ds : List PV}, isA ci t es = true → evA C G t ρ = some ds → ds.length = es.length
  | .nil, [], _, _, _, e => by cases e; rfl
  | .nil, _ :: _, _, _, h, _ => by cases h
  | .cons _ _, [], _, _, h, _ => by cases h
  | .cons e r, x :: xs, ρ, ds, h, ev => by
    have h : (isE ci e x && isA ci r xs) = true := h
    rw [Bool.and_eq_true] at h
    obtain ⟨a, _, ev⟩ := bind_some ev
    obtain ⟨vs, e2, ev⟩ := bind_some ev
    cases ev
    rw [List.length_cons, List.length_cons, evA_len h.2 e2]
theorem stars_hd {e : Expr} {es : List Expr} (h : noStars (e :: es) = true) : noStar e = true := by
  unfold noStars at h; rw [List.all_cons, Bool.and_eq_true] at h; exact h.1
theorem stars_tl {e : Expr} {es : List Expr} (h : noStars (e :: es) = true) : noStars es = true := by
  unfold noStars at h; rw [List.all_cons, Bool.and_eq_true] at h; exact h.2
theorem set_of {e : Expr} {env : Env} {x : Value} (h : noSet e = true) : foldedSetIterable e env x = pure x := by
  cases e <;> first | rfl | cases h
theorem blk_ok (O : Ok X ci C G) {scope : Scope} {own : List (Str × Nat)} (h : blkB ci scope own = true) : BlkOk X.N X.env.scope scope own := by
  rw [O.N, O.sc]; exact blkOk_by h
theorem pg_b {scope : Scope} {tg : Expr} : AllB X scope fun Y => PG Y tg (bG X scope tg) := fun s H D cl fp => ⟨fun pins s' σ H' v u Q I r h => h s H D cl fp pins s' u I r⟩
theorem pts_b {scope : Scope} {ifs : List Expr} : AllB X scope fun Y => PTs Y ifs (bT X scope ifs) := fun s H D cl fp => ⟨fun pins s' σ H' Q I h => h s H D cl fp pins s' I⟩
theorem pe_b {scope : Scope} {e : Expr} : AllB X scope fun Y => PE Y e (bE X scope e) := fun s H D cl fp => ⟨fun pins s' σ H' Q I h => h s H D cl fp pins s' I⟩
theorem pi_b {scope : Scope} {tg iter : Expr} : AllB X scope fun Y => PI Y tg iter (bI X scope tg iter) := fun s H D cl fp => ⟨fun pins s' σ H' R I h => h s H D cl fp pins s' I⟩
mutual
theorem gE : ∀ (t : Tx) {X : Cx} {ci : CI} {e : Expr}, Ok X ci C G → isE ci t e = true → GoodE C G X t e
  | .var i, X, ci, e, O, h => by
    cases e with
    | Name x pos => exact ⟨snd_var O h, snd_rd (snd_var O h) fun j hj => by cases hj; exact snd_var_b O h, fun _ => snt_plain rfl (snd_rd (snd_var O h) fun j hj => by cases hj; exact snd_var_b O h), fun _ => nobo (by intros; exact Expr.noConfusion)⟩
    | _ => cases h
  | .glob y, X, ci, e, O, h => by
    cases e with
    | Name x pos => exact good_plain (by intros; exact Tx.noConfusion) (snd_glob O h) rfl
    | _ => cases h
  | .non, X, ci, e, O, h => by
    have h : (match (generalizing := false) e with | .Constant .none _ _ => true | _ => false) = true := h
    split at h
    · exact good_no (by intros; exact Tx.noConfusion) (snd_c pe_non fun F => .non) rfl
    · cases h
  | .bl b, X, ci, e, O, h => by
    have h : (match (generalizing := false) e with | .Constant (.bool c) _ _ => b == c | _ => false) = true := h
    split at h
    · obtain rfl := eq_of_beq h
      exact good_no (by intros; exact Tx.noConfusion) (snd_c pe_bl fun F => .bl _) rfl
    · cases h
  | .int i, X, ci, e, O, h => by
    have h : (match (generalizing := false) e with | .Constant (.int j) _ _ => decide (i = j) | _ => false) = true := h
    split at h
    · obtain rfl := of_decide_eq_true h
      exact good_no (by intros; exact Tx.noConfusion) (snd_c pe_int fun F => .int _) rfl
    · cases h
  | .str x, X, ci, e, O, h => by
    have h : (match (generalizing := false) e with | .Constant (.str y) _ _ => decide (x = y) | _ => false) = true := h
    split at h
    · obtain rfl := of_decide_eq_true h
      exact good_no (by intros; exact Tx.noConfusion) (snd_c pe_str fun F => .str _) rfl
    · cases h
  | .bin o a b, X, ci, e, O, h => by
    have h : (match (generalizing := false) e with | .BinOp ea op eb _ => decide (op = opOp o) && isE ci a ea && isE ci b eb | _ => false) = true := h
    split at h
    · simp only [Bool.and_eq_true, decide_eq_true_eq] at h
      obtain ⟨⟨rfl, h1⟩, h2⟩ := h
      exact good_plain (by intros; exact Tx.noConfusion) (snd_bin (gE a O h1).b (gE b O h2).b) rfl
    · cases h
  | .neg a, X, ci, e, O, h => by
    have h : (match (generalizing := false) e with | .UnaryOp .USub ea _ => isE ci a ea | _ => false) = true := h
    split at h
    · exact good_no (by intros; exact Tx.noConfusion) (snd_neg (gE a O h).b) rfl
    · cases h
  | .not a, X, ci, e, O, h => by
    have h : (match (generalizing := false) e with | .UnaryOp .Not ea _ => isE ci a ea | _ => false) = true := h
    split at h
    · refine ⟨snd_not (gE a O h).b, snd_rd (snd_not (gE a O h).b) fun i hi => (by cases hi), fun ht => (snt_not ((gE a O h).t ht)).weak fun ρ d e => ?_, fun _ => nobo (by intros; exact Expr.noConfusion)⟩
      obtain ⟨r, e1, e2⟩ := rd_eq (by intros; exact Tx.noConfusion) e
      obtain ⟨x, ex, e1⟩ := bind_some e1
      rw [ex, ← e2]
      exact map_bool e1
    · cases h
  | .cmp o a b, X, ci, e, O, h => by
    have h : (match (generalizing := false) e with | .Compare ea [op] [eb] _ => decide (op = cmOp o) && noSet eb && isE ci a ea && isE ci b eb | _ => false) = true := h
    split at h
    · simp only [Bool.and_eq_true, decide_eq_true_eq] at h
      obtain ⟨⟨⟨rfl, hs⟩, h1⟩, h2⟩ := h
      refine good_t (by intros; exact Tx.noConfusion) (snd_cmp O.hu hs (gE a O h1).b (gE b O h2).b) (snt_cmp O.hu hs (gE a O h1).b (gE b O h2).b) (fun ρ r e => ?_) (by intros; exact Expr.noConfusion)
      obtain ⟨x, ex, e⟩ := bind_some e
      obtain ⟨y, ey, e⟩ := bind_some e
      rw [ex, ey]
      exact map_bool e
    · cases h
  | .isN a, X, ci, e, O, h => by
    have h : (match (generalizing := false) e with | .Compare ea [.Is] [.Constant .none _ _] _ => isE ci a ea | _ => false) = true := h
    split at h
    · refine good_t (by intros; exact Tx.noConfusion) (snd_isN (gE a O h).b) (snt_isN (gE a O h).b) (fun ρ r e => ?_) (by intros; exact Expr.noConfusion)
      obtain ⟨x, ex, e⟩ := bind_some e
      rw [ex]; cases e; rfl
    · cases h
  | .notN a, X, ci, e, O, h => by
    have h : (match (generalizing := false) e with | .Compare ea [.IsNot] [.Constant .none _ _] _ => isE ci a ea | _ => false) = true := h
    split at h
    · refine good_t (by intros; exact Tx.noConfusion) (snd_notN (gE a O h).b) (snt_notN (gE a O h).b) (fun ρ r e => ?_) (by intros; exact Expr.noConfusion)
      obtain ⟨x, ex, e⟩ := bind_some e
      rw [ex]; cases e; rfl
    · cases h
  | .isB a b, X, ci, e, O, h => by
    have h : (match (generalizing := false) e with | .Compare ea [.Is] [.Constant (.bool c) _ _] _ => decide (b = c) && isE ci a ea | _ => false) = true := h
    split at h
    · simp only [Bool.and_eq_true, decide_eq_true_eq] at h
      obtain ⟨rfl, hh⟩ := h
      refine good_t (by intros; exact Tx.noConfusion) (snd_isB (gE a O hh).b) (snt_isB (gE a O hh).b) (fun ρ r e => ?_) (by intros; exact Expr.noConfusion)
      obtain ⟨x, ex, e⟩ := bind_some e
      rw [ex]
      cases x with
      | bool c => cases e; rfl
      | _ => cases e
    · cases h
  | .chain o o' a b c, X, ci, e, O, h => by
    have h : (match (generalizing := false) e with | .Compare ea [op, op'] [eb, ec] _ => decide (op = cmOp o) && decide (op' = cmOp o') && noSet eb && noSet ec && isE ci a ea && isE ci b eb && isE ci c ec | _ => false) = true := h
    split at h
    · simp only [Bool.and_eq_true, decide_eq_true_eq] at h
      obtain ⟨⟨⟨⟨⟨⟨rfl, rfl⟩, hs⟩, hs2⟩, h1⟩, h2⟩, h3⟩ := h
      refine good_t (by intros; exact Tx.noConfusion) (snd_chain O.hu hs hs2 (gE a O h1).b (gE b O h2).b (gE c O h3).b)
        (snt_of_q (pt_chain (op_cmP O.hu o) (op_cmP O.hu o') pe_w pe_w pe_w (show lastMarks _ _ = false from mark_of hs2)) (sq_chain O.hu (gE a O h1).b (gE b O h2).b (gE c O h3).b) fun ρ r e => ?_) (fun ρ r e => ?_) (by intros; exact Expr.noConfusion)
      · obtain ⟨x, ex, e⟩ := bind_some e
        obtain ⟨y, ey, e⟩ := bind_some e
        obtain ⟨k, ek, e⟩ := bind_some e
        split at e
        · obtain ⟨z, ez, e⟩ := bind_some e
          obtain ⟨c, _, e⟩ := Option.map_eq_some_iff.mp e
          exact ⟨c, e.symm⟩
        · exact ⟨_, (Option.some.inj e).symm⟩
      · exact Option.map_eq_some_iff.mpr ⟨r, e, rfl⟩
    · cases h
  | .and a b, X, ci, e, O, h => by
    have h : (match (generalizing := false) e with | .BoolOp .And (ea :: eb :: es) pos => isE ci a ea && (match es with | [] => isE ci b eb | _ => isE ci b (.BoolOp .And (eb :: es) pos)) | _ => false) = true := h
    split at h
    · rename_i ea eb es pos _
      rw [Bool.and_eq_true] at h
      obtain ⟨h1, h2⟩ := h
      have A := gE a O h1
      have hw : ∀ (f : En → Option PV), (∀ ρ d, rd (.and a b) (evE C G (.and a b) ρ) ρ = some d → f ρ = some d) → True := fun _ _ => trivial
      have key : Snd X (.BoolOp .And (eb :: es) pos) (evE C G b) ∧ (tst b = true → SndW X (.BoolOp .And (eb :: es) pos) (fun ρ => rd b (evE C G b ρ) ρ)) := by
        cases es with
        | nil => exact ⟨snd_one (gE b O h2).ev, fun hb => sw_and1 ((gE b O h2).t hb)⟩
        | cons e3 es => exact ⟨(gE b O h2).ev, fun hb => (gE b O h2).w hb ⟨_, _, _, rfl⟩⟩
      have E := snd_and A.b A.ev key.1
      have W : tst (.and a b) = true → SndW X (.BoolOp .And (ea :: eb :: es) pos) (fun ρ => rd (.and a b) (evE C G (.and a b) ρ) ρ) := fun ht => by
        have ht : (tst a && tst b) = true := ht
        rw [Bool.and_eq_true] at ht
        refine (sw_and (A.t ht.1) (key.2 ht.2)).weak fun ρ d e => ?_
        obtain ⟨r, e1, e2⟩ := rd_eq (by intros; exact Tx.noConfusion) e
        obtain ⟨x, ex, e1⟩ := bind_some e1
        obtain ⟨k, ek, e1⟩ := bind_some e1
        subst e2
        cases k with
        | true =>
          rw [if_pos rfl] at e1
          rw [ex]
          show ((truth x) >>= fun k => if k = true then rd b (evE C G b ρ) ρ else some x) = _
          rw [ek]
          exact rd_of e1
        | false =>
          rw [if_neg Bool.false_ne_true] at e1
          rw [ex]
          show ((truth x) >>= fun k => if k = true then rd b (evE C G b ρ) ρ else some x) = _
          rw [ek]
          exact (rd_va ex e1).symm ▸ rfl
      exact ⟨E, snd_rd E fun i hi => (by cases hi), fun ht => (W ht).t, fun ht _ => W ht⟩
    · cases h
  | .or a b, X, ci, e, O, h => by
    have h : (match (generalizing := false) e with | .BoolOp .Or (ea :: eb :: es) pos => isE ci a ea && (match es with | [] => isE ci b eb | _ => isE ci b (.BoolOp .Or (eb :: es) pos)) | _ => false) = true := h
    split at h
    · rename_i ea eb es pos _
      rw [Bool.and_eq_true] at h
      obtain ⟨h1, h2⟩ := h
      have A := gE a O h1
      have key : Snd X (.BoolOp .Or (eb :: es) pos) (evE C G b) ∧ (tst b = true → SndW X (.BoolOp .Or (eb :: es) pos) (fun ρ => rd b (evE C G b ρ) ρ)) := by
        cases es with
        | nil => exact ⟨snd_one (gE b O h2).ev, fun hb => sw_or1 ((gE b O h2).t hb)⟩
        | cons e3 es => exact ⟨(gE b O h2).ev, fun hb => (gE b O h2).w hb ⟨_, _, _, rfl⟩⟩
      have E := snd_or A.b A.ev key.1
      have W : tst (.or a b) = true → SndW X (.BoolOp .Or (ea :: eb :: es) pos) (fun ρ => rd (.or a b) (evE C G (.or a b) ρ) ρ) := fun ht => by
        have ht : (tst a && tst b) = true := ht
        rw [Bool.and_eq_true] at ht
        refine (sw_or (A.t ht.1) (key.2 ht.2)).weak fun ρ d e => ?_
        obtain ⟨r, e1, e2⟩ := rd_eq (by intros; exact Tx.noConfusion) e
        obtain ⟨x, ex, e1⟩ := bind_some e1
        obtain ⟨k, ek, e1⟩ := bind_some e1
        subst e2
        cases k with
        | false =>
          rw [if_neg Bool.false_ne_true] at e1
          rw [ex]
          show ((truth x) >>= fun k => if k = true then some x else rd b (evE C G b ρ) ρ) = _
          rw [ek]
          exact rd_of e1
        | true =>
          rw [if_pos rfl] at e1
          rw [ex]
          show ((truth x) >>= fun k => if k = true then some x else rd b (evE C G b ρ) ρ) = _
          rw [ek]
          exact (rd_va ex e1).symm ▸ rfl
      exact ⟨E, snd_rd E fun i hi => (by cases hi), fun ht => (W ht).t, fun ht _ => W ht⟩
    · cases h
  | .ife c a b, X, ci, e, O, h => by
    have h : (match (generalizing := false) e with | .IfExp ec ea eb _ => tst c && isE ci c ec && isE ci a ea && isE ci b eb | _ => false) = true := h
    split at h
    · simp only [Bool.and_eq_true] at h
      obtain ⟨⟨⟨ht, h1⟩, h2⟩, h3⟩ := h
      exact good_no (by intros; exact Tx.noConfusion) (snd_ife ((gE c O h1).t ht) (gE a O h2).ev (gE b O h3).ev) rfl
    · cases h
  | .tup es, X, ci, e, O, h => by
    have h : (match (generalizing := false) e with | .Tuple xs _ _ => noStars xs && decide (xs.length ≤ 1000) && isA ci es xs | _ => false) = true := h
    split at h
    · simp only [Bool.and_eq_true, decide_eq_true_eq] at h
      obtain ⟨⟨h1, hz⟩, h2⟩ := h
      exact good_plain (by intros; exact Tx.noConfusion) (snd_tup ((gA es O h2).a h1) fun ρ ds e => by rw [evA_len h2 e]; unfold LIM; omega) rfl
    · cases h
  | .lst es, X, ci, e, O, h => by
    have h : (match (generalizing := false) e with | .List xs _ => noStars xs && decide (xs.length ≤ 1000) && isA ci es xs | _ => false) = true := h
    split at h
    · simp only [Bool.and_eq_true, decide_eq_true_eq] at h
      obtain ⟨⟨h1, hz⟩, h2⟩ := h
      exact good_plain (by intros; exact Tx.noConfusion) (snd_lst ((gA es O h2).a h1) fun ρ ds e => by rw [evA_len h2 e]; unfold LIM; omega) rfl
    · cases h
  | .idx a b, X, ci, e, O, h => by
    have h : (match (generalizing := false) e with | .Subscript ea eb _ => plainIx eb && isE ci a ea && isE ci b eb | _ => false) = true := h
    split at h
    · simp only [Bool.and_eq_true] at h
      obtain ⟨⟨h1, h2⟩, h3⟩ := h
      exact good_plain (by intros; exact Tx.noConfusion) (snd_idx h1 (gE a O h2).b (gE b O h3).b) rfl
    · cases h
  | .cut a lo hi, X, ci, e, O, h => by
    have h : (match (generalizing := false) e with | .Subscript ea (.Slice el eh none _) _ => isE ci a ea && isO ci lo el && isO ci hi eh | _ => false) = true := h
    split at h
    · simp only [Bool.and_eq_true] at h
      obtain ⟨⟨h1, h2⟩, h3⟩ := h
      exact good_plain (by intros; exact Tx.noConfusion) (snd_cut (gE a O h1).b (gO lo O h2) (gO hi O h3)) rfl
    · cases h
  | .call f es, X, ci, e, O, h => by
    have h : (match (generalizing := false) e with | .Call (.Name x _) xs [] _ => decide (x = f) && glB ci x && okName x && noStars xs && (match xs with | [] => false | _ => true) && isA ci es xs | _ => false) = true := h
    split at h
    · rename_i x p xs pos _
      simp only [Bool.and_eq_true, decide_eq_true_eq] at h
      obtain ⟨⟨⟨⟨⟨rfl, h1⟩, h2⟩, h3⟩, h4⟩, h5⟩ := h
      cases xs with
      | nil => cases h4
      | cons z zs =>
        have hd : (x == ("__debug__" : Str)) = false := by
          unfold okName at h2
          simp only [Bool.and_eq_true, Bool.not_eq_true'] at h2
          exact h2.1.1
        exact good_plain (by intros; exact Tx.noConfusion) (snd_call O (gl_of O h1) hd (stars_hd h3) (stars_tl h3) ((gA es O h5).a h3)) rfl
    · cases h
  | .blt b es, X, ci, e, O, h => by
    have h : (match (generalizing := false) e with | .Call (.Name x _) xs [] _ => decide (x = blName b) && glB ci x && noStars xs && (match xs with | [] => false | _ => true) && isA ci es xs | _ => false) = true := h
    split at h
    · rename_i x p xs pos _
      simp only [Bool.and_eq_true, decide_eq_true_eq] at h
      obtain ⟨⟨⟨⟨rfl, h1⟩, h3⟩, h4⟩, h5⟩ := h
      cases xs with
      | nil => cases h4
      | cons z zs => exact good_plain (by intros; exact Tx.noConfusion) (snd_blt O (gl_of O h1) (stars_hd h3) (stars_tl h3) ((gA es O h5).r h3)) rfl
    · cases h
  | .isi a t, X, ci, e, O, h => by
    have h : (match (generalizing := false) e with | .Call (.Name x _) [ea, .Name y _] [] _ => decide (x = ("isinstance" : Str)) && glB ci x && decide (y = tyName t) && glB ci y && noStar ea && isE ci a ea | _ => false) = true := h
    split at h
    · simp only [Bool.and_eq_true, decide_eq_true_eq] at h
      obtain ⟨⟨⟨⟨⟨rfl, h1⟩, rfl⟩, h2⟩, h3⟩, h4⟩ := h
      exact good_plain (by intros; exact Tx.noConfusion) (snd_isi O (gl_of O h1) (gl_of O h2) h3 (gE a O h4).b) rfl
    · cases h
  | .best b a d, X, ci, e, O, h => by
    have h : (match (generalizing := false) e with | .Call (.Name x _) [ea] [⟨some y, ed, _⟩] _ => decide (x = (if b then "max" else "min" : Str)) && glB ci x && decide (y = ("default" : Str)) && noStar ea && isE ci a ea && isE ci d ed | _ => false) = true := h
    split at h
    · simp only [Bool.and_eq_true, decide_eq_true_eq] at h
      obtain ⟨⟨⟨⟨⟨rfl, h1⟩, rfl⟩, h3⟩, h4⟩, h5⟩ := h
      exact good_plain (by intros; exact Tx.noConfusion) (snd_best O (gl_of O h1) h3 (gE a O h4).b (gE d O h5).ev) rfl
    · cases h
  | .comb a b, X, ci, e, O, h => by
    have h : (match (generalizing := false) e with | .Call (.Name x _) [ea, eb] [] _ => decide (x = ("comb" : Str)) && glB ci x && ci.im.contains (("comb" : Str), "math.comb") && noStar ea && noStar eb && isE ci a ea && isE ci b eb | _ => false) = true := h
    split at h
    · simp only [Bool.and_eq_true, decide_eq_true_eq] at h
      obtain ⟨⟨⟨⟨⟨⟨rfl, h1⟩, h2⟩, h3⟩, h4⟩, h5⟩, h6⟩ := h
      exact good_plain (by intros; exact Tx.noConfusion) (snd_comb O (gl_of O h1) (O.im _ (List.contains_iff_mem.mp h2)) h3 h4 (gE a O h5).b (gE b O h6).b) rfl
    · cases h
  | .sset a, X, ci, e, O, h => by
    have h : (match (generalizing := false) e with | .Call (.Name x _) [.Call (.Name y _) [ea] [] _] [] _ => decide (x = ("sorted" : Str)) && decide (y = ("set" : Str)) && glB ci x && glB ci y && noStar ea && isE ci a ea | _ => false) = true := h
    split at h
    · simp only [Bool.and_eq_true, decide_eq_true_eq] at h
      obtain ⟨⟨⟨⟨⟨rfl, rfl⟩, h1⟩, h2⟩, h3⟩, h4⟩ := h
      exact good_plain (by intros; exact Tx.noConfusion) (snd_sset O (gl_of O h1) (gl_of O h2) h3 (gE a O h4).b) rfl
    · cases h
  | .lset a, X, ci, e, O, h => by
    have h : (match (generalizing := false) e with | .Call (.Name x _) [.Call (.Name y _) [ea] [] _] [] _ => decide (x = ("len" : Str)) && decide (y = ("set" : Str)) && glB ci x && glB ci y && noStar ea && isE ci a ea | _ => false) = true := h
    split at h
    · simp only [Bool.and_eq_true, decide_eq_true_eq] at h
      obtain ⟨⟨⟨⟨⟨rfl, rfl⟩, h1⟩, h2⟩, h3⟩, h4⟩ := h
      exact good_plain (by intros; exact Tx.noConfusion) (snd_lset O (gl_of O h1) (gl_of O h2) h3 (gE a O h4).b) rfl
    · cases h
  | .dsort i, X, ci, e, O, h => by
    have h : (match (generalizing := false) e with | .Call (.Name x _) [.Name y _] [] _ => decide (x = ("sorted" : Str)) && glB ci x && rdB ci i y | _ => false) = true := h
    split at h
    · simp only [Bool.and_eq_true, decide_eq_true_eq] at h
      obtain ⟨⟨rfl, h1⟩, h2⟩ := h
      exact good_plain (by intros; exact Tx.noConfusion) (snd_dsort O (gl_of O h1) h2) rfl
    · cases h
  | .rev a, X, ci, e, O, h => by
    have h : (match (generalizing := false) e with | .Subscript ea (.Slice none none (some (.UnaryOp .USub (.Constant (.int 1) _ _) _)) _) _ => isE ci a ea | _ => false) = true := h
    split at h
    · exact good_plain (by intros; exact Tx.noConfusion) (snd_rev O (gE a O h).b) rfl
    · cases h
  | .index a b, X, ci, e, O, h => by
    have h : (match (generalizing := false) e with | .Call (.Attribute ea m apos) [eb] [] cpos => decide (m = ("index" : Str)) && (apos.endLine == cpos.line) && noStar eb && plainO ea && isE ci a ea && isE ci b eb | _ => false) = true := h
    split at h
    · simp only [Bool.and_eq_true, decide_eq_true_eq] at h
      obtain ⟨⟨⟨⟨⟨rfl, h1⟩, h2⟩, h3⟩, h4⟩, h5⟩ := h
      exact good_plain (by intros; exact Tx.noConfusion) (snd_index O h1 h2 h3 (gE a O h4).b (gE b O h5).b) rfl
    · cases h
  | .dget i k, X, ci, e, O, h => by
    have h : (match (generalizing := false) e with | .Subscript (.Name x p) ek _ => plainIx ek && rdB ci i x && isE ci k ek | _ => false) = true := h
    split at h
    · simp only [Bool.and_eq_true] at h
      obtain ⟨⟨h1, h2⟩, h3⟩ := h
      exact good_plain (by intros; exact Tx.noConfusion) (snd_dget O h1 h2 (gE k O h3).b) rfl
    · cases h
  | .dgetd i k d, X, ci, e, O, h => by
    have h : (match (generalizing := false) e with | .Call (.Attribute (.Name x p) m apos) [ek, ed] [] cpos => decide (m = ("get" : Str)) && (apos.endLine == cpos.line) && noStar ek && noStar ed && rdB ci i x && isE ci k ek && isE ci d ed | _ => false) = true := h
    split at h
    · simp only [Bool.and_eq_true, decide_eq_true_eq] at h
      obtain ⟨⟨⟨⟨⟨⟨rfl, h1⟩, h2⟩, h3⟩, h4⟩, h5⟩, h6⟩ := h
      exact good_plain (by intros; exact Tx.noConfusion) (snd_dgetd O h2 h3 h1 h4 (gE k O h5).b (gE d O h6).ev) rfl
    · cases h
  | .dget1 i k, X, ci, e, O, h => by
    have h : (match (generalizing := false) e with | .Call (.Attribute (.Name x p) m apos) [ek] [] cpos => decide (m = ("get" : Str)) && (apos.endLine == cpos.line) && noStar ek && rdB ci i x && isE ci k ek | _ => false) = true := h
    split at h
    · simp only [Bool.and_eq_true, decide_eq_true_eq] at h
      obtain ⟨⟨⟨⟨rfl, h1⟩, h2⟩, h4⟩, h5⟩ := h
      exact good_plain (by intros; exact Tx.noConfusion) (snd_dget1 O h2 h1 h4 (gE k O h5).b) rfl
    · cases h
  | .din b i k, X, ci, e, O, h => by
    have h : (match (generalizing := false) e with | .Compare ek [op] [.Name x p] _ => decide (op = if b then .NotIn else .In) && rdB ci i x && isE ci k ek | _ => false) = true := h
    split at h
    · simp only [Bool.and_eq_true, decide_eq_true_eq] at h
      obtain ⟨⟨rfl, h1⟩, h2⟩ := h
      refine good_t (by intros; exact Tx.noConfusion) (snd_din (b := b) O h1 (gE k O h2).b) (snt_din (b := b) O h1 (gE k O h2).b) (fun ρ r e => ?_) (by intros; exact Expr.noConfusion)
      obtain ⟨y, ey, e⟩ := bind_some e
      obtain ⟨o, eo, e⟩ := bind_some e
      cases e
      rw [ey]
      show (do let o ← dAt ρ i y; some (PyData.bool (o.isSome != b))) = _
      rw [eo]; rfl
    · cases h
  | .comp elt tg it ifs own, X, ci, e, O, h => by
    have h : (match (generalizing := false) e with | .ListComp ee [⟨et, ei, efs, 0⟩] scope _ => blkB ci scope own && tg.slots.all (fun i => (own.map (·.2)).contains i) && noSet ei && isI ci it ei (isTup et) && isG (blkCI ci scope) tg et && tsts ifs && isA (blkCI ci scope) ifs efs && isE (blkCI ci scope) elt ee | _ => false) = true := h
    split at h
    · simp only [Bool.and_eq_true] at h
      obtain ⟨⟨⟨⟨⟨⟨⟨h1, h2⟩, h3⟩, h4⟩, h5⟩, h6⟩, h7⟩, h8⟩ := h
      have OB := ok_blk O h1
      refine good_plain (by intros; exact Tx.noConfusion) (snd_of_q (pe_lc O.calm O.nd pi_w (blk_ok O h1) (fun s H D cl fp => pg_b s H D cl fp) (fun s H D cl fp => pts_b s H D cl fp) (fun s H D cl fp => pe_b s H D cl fp) (fun x => set_of h3))
        (sq_lc (gI it O h4) (fun s H D cl fp => snd_g (OB s H D cl fp) h5) (fun s H D cl fp => (gA ifs (OB s H D cl fp) h7).f h6) (fun s H D cl fp => (gE elt (OB s H D cl fp) h8).ev) fun i hi => ?_)) rfl
      rw [List.all_eq_true] at h2
      simpa using h2 i hi
    · cases h
  | .comp2 elt tg it ifs tg1 it1 ifs1 own own1, X, ci, e, O, h => by
    have h : (match (generalizing := false) e with | .ListComp ee [⟨et, ei, efs, 0⟩, ⟨et1, ei1, efs1, 0⟩] scope _ => blkB ci scope own && noSet ei && noSet ei1 && own1.all (fun i => (own.map (·.2)).contains i) && tg.slots.all (fun i => (own.map (·.2)).contains i) && tg1.slots.all own1.contains && isI ci it ei (isTup et) && isG (blkCI ci scope) tg et && tsts ifs && isA (blkCI ci scope) ifs efs && isI (blkCI ci scope) it1 ei1 (isTup et1) && isG (blkCI ci scope) tg1 et1 && tsts ifs1 && isA (blkCI ci scope) ifs1 efs1 && isE (blkCI ci scope) elt ee | _ => false) = true := h
    split at h
    · simp only [Bool.and_eq_true] at h
      obtain ⟨⟨⟨⟨⟨⟨⟨⟨⟨⟨⟨⟨⟨⟨h1, h2⟩, h3⟩, h4⟩, h5⟩, h6⟩, h7⟩, h8⟩, h9⟩, h10⟩, h11⟩, h12⟩, h13⟩, h14⟩, h15⟩ := h
      have OB := ok_blk O h1
      rw [List.all_eq_true] at h4 h5 h6
      refine good_plain (by intros; exact Tx.noConfusion) (snd_of_q (pe_lc2 O.calm O.nd pi_w (blk_ok O h1) (fun i hi => by simpa using h4 i hi) (fun s H D cl fp => pg_b s H D cl fp) (fun s H D cl fp => pts_b s H D cl fp) (fun s H D cl fp => pi_b s H D cl fp) (fun s H D cl fp => pg_b s H D cl fp) (fun s H D cl fp => pts_b s H D cl fp) (fun s H D cl fp => pe_b s H D cl fp) (fun x => set_of h2) (fun env x => set_of h3))
        (sq_lc2 (gI it O h7) (fun s H D cl fp => snd_g (OB s H D cl fp) h8) (fun s H D cl fp => (gA ifs (OB s H D cl fp) h10).f h9) (fun s H D cl fp => gI it1 (OB s H D cl fp) h11) (fun s H D cl fp => snd_g (OB s H D cl fp) h12) (fun s H D cl fp => (gA ifs1 (OB s H D cl fp) h14).f h13) (fun s H D cl fp => (gE elt (OB s H D cl fp) h15).ev)
          (fun i hi => by simpa using h5 i hi) fun i hi => by simpa using h6 i hi)) rfl
    · cases h
theorem gA : ∀ (t : Txs) {X : Cx} {ci : CI} {es : List Expr}, Ok X ci C G → isA ci t es = true → GoodA C G X t es
  | .nil, X, ci, [], O, h => ⟨fun _ => sa_nil, fun _ => sr_nil, fun _ => by
    intro F0 B ρ σ F H b Q R e q
    cases e
    exact wTs_of pts_nil (q F H (Step.rfl' R.le))⟩
  | .nil, X, ci, _ :: _, O, h => by cases h
  | .cons e r, X, ci, [], O, h => by cases h
  | .cons e r, X, ci, x :: xs, O, h => by
    have h : (isE ci e x && isA ci r xs) = true := h
    rw [Bool.and_eq_true] at h
    have g := gE e O h.1
    refine ⟨fun hs => sa_cons (stars_hd hs) g.ev ((gA r O h.2).a (stars_tl hs)), fun hs => sr_cons (stars_hd hs) g.b ((gA r O h.2).r (stars_tl hs)), fun ht => ?_⟩
    cases r with
    | cons _ _ => cases ht
    | nil =>
      cases xs with
      | cons _ _ => cases h.2
      | nil =>
        intro F0 B ρ σ F H b Q R e1 q
        obtain ⟨d, ed, e2⟩ := bind_some e1
        obtain ⟨k, ek, e3⟩ := bind_some e2
        have hk : k = b := by
          cases k with
          | true => exact Option.some.inj e3
          | false => exact Option.some.inj e3
        subst hk
        exact wTs_of (pts_one pt_w) (g.t ht F0 B ρ σ F H d k Q R ed ek q)
theorem gO : ∀ (t : To) {X : Cx} {ci : CI} {e : Option Expr}, Ok X ci C G → isO ci t e = true → SndO X e (evO C G t)
  | .no, X, ci, none, O, h => so_no
  | .no, X, ci, some _, O, h => by cases h
  | .so a, X, ci, none, O, h => by cases h
  | .so a, X, ci, some e, O, h => so_so (gE a O h).b
theorem gI : ∀ (t : Ti) {X : Cx} {ci : CI} {e tg : Expr} {b : Bool}, Ok X ci C G → isI ci t e (isTup tg) = true → SndI b X tg e (evI C G b t)
  | .seq a, X, ci, e, tg, b, O, h => by
    have h : (isE ci a e && noSet e) = true := h
    rw [Bool.and_eq_true] at h
    have g := gE a O h.1
    exact si_seq (snds g.ev g.b)
  | .rng1 a, X, ci, e, tg, b, O, h => by
    have h : (match (generalizing := false) e with | .Call (.Name x _) [ea] [] _ => decide (x = ("range" : Str)) && glB ci x && noStar ea && isE ci a ea | _ => false) = true := h
    split at h
    · simp only [Bool.and_eq_true, decide_eq_true_eq] at h
      obtain ⟨⟨⟨rfl, h1⟩, h2⟩, h3⟩ := h
      exact si_rng1 O (gl_of O h1) h2 (gE a O h3).b
    · cases h
  | .rng2 a c, X, ci, e, tg, b, O, h => by
    have h : (match (generalizing := false) e with | .Call (.Name x _) [ea, eb] [] _ => decide (x = ("range" : Str)) && glB ci x && noStar ea && noStar eb && isE ci a ea && isE ci c eb | _ => false) = true := h
    split at h
    · simp only [Bool.and_eq_true, decide_eq_true_eq] at h
      obtain ⟨⟨⟨⟨⟨rfl, h1⟩, h2⟩, h3⟩, h4⟩, h5⟩ := h
      exact si_rng2 O (gl_of O h1) h2 h3 (gE a O h4).b (gE c O h5).b
    · cases h
  | .rngD a c, X, ci, e, tg, b, O, h => by
    have h : (match (generalizing := false) e with | .Call (.Name x _) [ea, eb, .UnaryOp .USub (.Constant (.int 1) _ _) _] [] _ => decide (x = ("range" : Str)) && glB ci x && noStar ea && noStar eb && isE ci a ea && isE ci c eb | _ => false) = true := h
    split at h
    · simp only [Bool.and_eq_true, decide_eq_true_eq] at h
      obtain ⟨⟨⟨⟨⟨rfl, h1⟩, h2⟩, h3⟩, h4⟩, h5⟩ := h
      exact si_rngD O (gl_of O h1) h2 h3 (gE a O h4).b (gE c O h5).b
    · cases h
  | .enum a, X, ci, e, tg, b, O, h => by
    have h : (match (generalizing := false) e with | .Call (.Name x _) [ea] [] _ => isTup tg && decide (x = ("enumerate" : Str)) && glB ci x && noStar ea && isE ci a ea | _ => false) = true := h
    split at h
    · simp only [Bool.and_eq_true, decide_eq_true_eq] at h
      obtain ⟨⟨⟨⟨ht, rfl⟩, h1⟩, h2⟩, h3⟩ := h
      cases tg with
      | Tuple es k tp =>
        have g := gE a O h3
        exact si_enum O (gl_of O h1) h2 (snds g.ev g.b)
      | _ => cases ht
    · cases h
  | .zip a c, X, ci, e, tg, b, O, h => by
    have h : (match (generalizing := false) e with | .Call (.Name x _) [ea, eb] [] _ => isTup tg && decide (x = ("zip" : Str)) && glB ci x && noStar ea && noStar eb && isE ci a ea && isE ci c eb | _ => false) = true := h
    split at h
    · simp only [Bool.and_eq_true, decide_eq_true_eq] at h
      obtain ⟨⟨⟨⟨⟨⟨ht, rfl⟩, h1⟩, h2⟩, h3⟩, h4⟩, h5⟩ := h
      cases tg with
      | Tuple es k tp =>
        have g := gE a O h4
        have g2 := gE c O h5
        exact si_zip O (gl_of O h1) h2 h3 (snds g.ev g.b) (snds g2.ev g2.b)
      | _ => cases ht
    · cases h
end
end
end Pz
set_option Elab.async false
set_option linter.all false
set_option maxRecDepth 100000
set_option maxHeartbeats 1000000
/-! Pz: statements: syntax, evaluator, check. -/
namespace Pz
open PySem PySem.Spec PyProof.Rows L2

mutual
inductive Ts where
  /-- name = e (ow: a list of its own) -/
  | set (i : Nat) (ow : Bool) (e : Tx)
  | asg (tg : Tg) (e : Tx)
  | par (i j : Nat) (o1 o2 : Bool) (a b : Tx)
  | par3 (i j l : Nat) (o1 o2 o3 : Bool) (a b c : Tx)
  | setix (i : Nat) (ix e : Tx)
  | aug (i : Nat) (sub : Bool) (e : Tx)
  | augIx (i : Nat) (ix : Tx) (sub : Bool) (e : Tx)
  | app (i : Nat) (e : Tx) | ext (i : Nat) (e : Tx)
  | expr (e : Tx) | ret (e : Tx) | retO (i : Nat) | retN
  | ife (c : Tx) (a b : Tb)
  | for_ (tg : Tg) (it : Ti) (body : Tb)
  | while_ (n : Nat) (c : Tx) (body : Tb)
  | brk | cont | pass
  /-- name = {}; name[k] = e: a dict of its own; raise: never reached -/
  | dnew (i : Nat) | dset (i : Nat) (k e : Tx) | rse
  /-- name = {k: v for ..}; name, name = {k: v for ..}, e -/
  | dcm (i : Nat) (k v : Tx) (tg : Tg) (it : Ti) (ifs : Txs) (own : List (Str × Nat))
  | dcm2 (i j : Nat) (ow : Bool) (k v : Tx) (tg : Tg) (it : Ti) (ifs : Txs) (own : List (Str × Nat)) (e : Tx)
inductive Tb where
  | nil
  | cons (s : Ts) (r : Tb)
  /-- a list of one's own becomes a value; a name is forgotten -/
  | frz (i : Nat) (r : Tb)
  | fgt (i : Nat) (r : Tb)
end

inductive Out where
  | nx (ρ : En) | bk (ρ : En) | ct (ρ : En) | rt (r : RV)

/-- what is stored for a result -/
def slOf (ow : Bool) (r : RV) : Option Sl := if ow then (if r.fr then match r.v with | .list ds => some (.own ds) | _ => none else none) else some (.val r.v)
def loopF (body : En → Option Out) (tg : Tg) : List PV → En → Option Out
  | [], ρ => some (.nx ρ)
  | x :: r, ρ => do
    let ρ1 ← asg tg x ρ
    match ← body ρ1 with
    | .nx ρ2 => loopF body tg r ρ2
    | .ct ρ2 => loopF body tg r ρ2
    | .bk ρ2 => some (.nx ρ2)
    | .rt v => some (.rt v)
def loopW (c : En → Option Bool) (body : En → Option Out) : Nat → En → Option Out
  | 0, _ => none
  | n + 1, ρ => do
    let k ← c ρ
    if k then
      match ← body ρ with
      | .nx ρ2 => loopW c body n ρ2
      | .ct ρ2 => loopW c body n ρ2
      | .bk ρ2 => some (.nx ρ2)
      | .rt v => some (.rt v)
    else some (.nx ρ)
def frzE (ρ : En) (i : Nat) : En := match ρ[i]? with
  | some (.obj (.l ds)) => ρ.set i (.val (.list ds))
  | _ => ρ
/-- {k: v for ..} -/
def dcL (f : PV → Option (Option (L2.Key × PV))) : List PV → List (L2.Key × PV) → Option (List (L2.Key × PV))
  | [], kvs => some kvs
  | x :: r, kvs => do
    match ← f x with
    | none => dcL f r kvs
    | some p => if kvs.length < LIM then dcL f r (putP kvs p.1 p.2) else none
section
variable (C : Str → List PV → Option RV) (G : Str → Option PV)
def evDc (k v : Tx) (tg : Tg) (it : Ti) (ifs : Txs) (own : List (Str × Nat)) (ρ : En) : Option (List (L2.Key × PV)) := do
  let xs ← evI C G false it ρ
  dcL (fun x => do
    let ρ1 ← asg tg x (wipeS ρ (own.map (·.2)))
    let b ← evF C G ifs ρ1
    if b then do
      let y ← rd k (evE C G k ρ1) ρ1
      let z ← evE C G v ρ1
      (keyO y).map fun q => some (q, z.v)
    else some none) xs []
def evT (c : Tx) (ρ : En) : Option Bool := do
  let x ← rd c (evE C G c ρ) ρ
  truth x
mutual
def evS : Ts → En → Option Out
  | .set i ow e, ρ => do
    let r ← evE C G e ρ
    let s ← slOf ow r
    some (.nx (ρ.set i s))
  | .asg tg e, ρ => do
    let r ← evE C G e ρ
    let ρ' ← asg tg r.v ρ
    some (.nx ρ')
  | .par i j o1 o2 a b, ρ => do
    let r1 ← evE C G a ρ
    let r2 ← evE C G b ρ
    let s1 ← slOf o1 r1
    let s2 ← slOf o2 r2
    some (.nx ((ρ.set i s1).set j s2))
  | .par3 i j l o1 o2 o3 a b c, ρ => do
    let r1 ← evE C G a ρ
    let r2 ← evE C G b ρ
    let r3 ← evE C G c ρ
    let s1 ← slOf o1 r1
    let s2 ← slOf o2 r2
    let s3 ← slOf o3 r3
    some (.nx (((ρ.set i s1).set j s2).set l s3))
  | .setix i ix e, ρ => do
    let r ← evE C G e ρ
    let k ← rd ix (evE C G ix ρ) ρ
    match ρ[i]?, k with
    | some (.obj (.l ds)), .int k => (ixOf ds.length k).map fun j => .nx (ρ.set i (.own (ds.set j r.v)))
    | _, _ => none
  | .aug i sub e, ρ => do
    let y ← rd e (evE C G e ρ) ρ
    match ρ[i]?, y with
    | some (.val (.int a)), .int b => some (.nx (ρ.set i (.val (.int (if sub then a - b else a + b)))))
    | _, _ => none
  | .augIx i ix sub e, ρ => do
    let k ← rd ix (evE C G ix ρ) ρ
    let y ← rd e (evE C G e ρ) ρ
    match ρ[i]?, k, y with
    | some (.obj (.l ds)), .int k, .int b => (ixOf ds.length k).bind fun j => match ds[j]? with
      | some (.int a) => some (.nx (ρ.set i (.own (ds.set j (.int (if sub then a - b else a + b))))))
      | _ => none
    | _, _, _ => none
  | .app i e, ρ => do
    let r ← evE C G e ρ
    match ρ[i]? with
    | some (.obj (.l ds)) => if ds.length < LIM then some (.nx (ρ.set i (.own (ds ++ [r.v])))) else none
    | _ => none
  | .ext i e, ρ => do
    let r ← evE C G e ρ
    match ρ[i]?, r with
    | some (.obj (.l ds)), ⟨.list es, true⟩ => if ds.length + es.length ≤ LIM then some (.nx (ρ.set i (.own (ds ++ es)))) else none
    | _, _ => none
  | .expr e, ρ => do
    let _ ← evE C G e ρ
    some (.nx ρ)
  | .ret e, ρ => (evE C G e ρ).map .rt
  | .retO i, ρ => match ρ[i]? with
    | some (.obj (.l ds)) => some (.rt ⟨.list ds, true⟩)
    | _ => none
  | .retN, _ => some (.rt ⟨.none, false⟩)
  | .ife c a b, ρ => do
    let k ← evT C G c ρ
    if k then evB a ρ else evB b ρ
  | .for_ tg it body, ρ => do
    let xs ← evI C G true it ρ
    loopF (evB body) tg xs ρ
  | .while_ n c body, ρ => loopW (evT C G c) (evB body) n ρ
  | .brk, ρ => some (.bk ρ)
  | .cont, ρ => some (.ct ρ)
  | .pass, ρ => some (.nx ρ)
  | .dnew i, ρ => some (.nx (ρ.set i (.dic [])))
  | .dset i k e, ρ => do
    let r ← evE C G e ρ
    let y ← rd k (evE C G k ρ) ρ
    match ρ[i]?, keyO y with
    | some (.obj (.d kvs)), some q => if kvs.length < LIM then some (.nx (ρ.set i (.dic (putP kvs q r.v)))) else none
    | _, _ => none
  | .rse, _ => none
  | .dcm i k v tg it ifs own, ρ => do
    let kvs ← evDc C G k v tg it ifs own ρ
    some (.nx (ρ.set i (.dic kvs)))
  | .dcm2 i j ow k v tg it ifs own e, ρ => do
    let kvs ← evDc C G k v tg it ifs own ρ
    let r ← evE C G e ρ
    let s ← slOf ow r
    some (.nx ((ρ.set i (.dic kvs)).set j s))
def evB : Tb → En → Option Out
  | .nil, ρ => some (.nx ρ)
  | .cons s r, ρ => do
    match ← evS s ρ with
    | .nx ρ' => evB r ρ'
    | o => some o
  | .frz i r, ρ => evB r (frzE ρ i)
  | .fgt i r, ρ => evB r (ρ.set i .no)
end
end

/-- a name that may be stored by slot -/
def nmB (ci : CI) (i : Nat) (x : Str) : Bool := decide (ci.N[i]? = some x) && locB ci x && ci.st x
def lclB (ci : CI) (i : Nat) (x : Str) : Bool := decide (ci.N[i]? = some x) && decide (ci.sc.names.lookup x = some .local)
def celB (ci : CI) (x : Str) : Bool := decide (ci.sc.names.lookup x = some .cell)
def noComp : Expr → Bool
  | .ListComp .. => false
  | .SetComp .. => false
  | .DictComp .. => false
  | _ => true
/-- [..] stored into a local on one line -/
def swpC (ci : CI) (x : Str) (py : Pos) : Expr → Bool
  | .ListComp _ _ scope pos => decide (ci.sc.names.lookup x = some .local) && (py.line == pos.line) && !(scope.names.any fun (n, k) => n == x && (k == .local || k == .cell))
  | _ => false
def swpD (ci : CI) (x : Str) (py : Pos) : Expr → Bool
  | .DictComp _ _ _ scope pos => decide (ci.sc.names.lookup x = some .local) && (py.line == pos.line) && !(scope.names.any fun (n, k) => n == x && (k == .local || k == .cell))
  | _ => false
/-- {k: v for ..} -/
def isDc (ci : CI) (k v : Tx) (tg : Tg) (it : Ti) (ifs : Txs) (own : List (Str × Nat)) (e : Expr) : Bool := match e with
  | .DictComp ek ev [⟨et, ei, efs, 0⟩] scope _ => blkB ci scope own && tg.slots.all (fun i => (own.map (·.2)).contains i) && noSet ei && isI ci it ei (isTup et) && isG (blkCI ci scope) tg et && tsts ifs && isA (blkCI ci scope) ifs efs && isE (blkCI ci scope) k ek && isE (blkCI ci scope) v ev
  | _ => false
/-- the value is no display, or all of it is folded -/
def noPar (e : Expr) : Bool := match e with
  | .Tuple vs _ _ => vs.all (foldedForSure 8)
  | _ => true
def parB (ts vs : List Expr) : Bool := !(vs.all (foldedForSure 8)) && !(vs.all (constantsAlone 8)) &&
  (ts.all fun t => t.pos.line == (ts.head?.map (·.pos.line)).getD 0)
def tgNo : Expr → Bool
  | .Tuple .. => true
  | _ => false
mutual
def isS (ci : CI) (t : Ts) (st : Stmt) : Bool := match t with
  | .set i ow e => match st with
    | .Assign [.Name x py] ee _ => nmB ci i x && isE ci e ee && (noComp ee || celB ci x || swpC ci x py ee)
    | _ => false
  | .asg tg e => match st with
    | .Assign [et] ee _ => tgNo et && isG ci tg et && noStar et && isE ci e ee && noComp ee && noPar ee
    | _ => false
  | .par i j o1 o2 a b => match st with
    | .Assign [.Tuple [.Name x px, .Name y py] kt pt] (.Tuple [ea, eb] k2 pt2) _ => noStar ea && noStar eb && ((lclB ci i x && lclB ci j y && !(i == j) && parB [.Name x px, .Name y py] [ea, eb]) || (nmB ci i x && nmB ci j y && (celB ci x || celB ci y))) && isE ci a ea && isE ci b eb
    | _ => false
  | .par3 i j l o1 o2 o3 a b c => match st with
    | .Assign [.Tuple [.Name x px, .Name y py, .Name z pz] kt pt] (.Tuple [ea, eb, ec] k2 pt2) _ => noStar ea && noStar eb && noStar ec && ((lclB ci i x && lclB ci j y && lclB ci l z && !(i == j) && !(i == l) && !(j == l) && parB [.Name x px, .Name y py, .Name z pz] [ea, eb, ec]) || (nmB ci i x && nmB ci j y && nmB ci l z && (celB ci x || celB ci y || celB ci z))) && isE ci a ea && isE ci b eb && isE ci c ec
    | _ => false
  | .setix i ix e => match st with
    | .Assign [.Subscript (.Name x p) eix _] ee _ => isE ci (.var i) (.Name x p) && plainIx eix && isE ci ix eix && isE ci e ee && noComp ee && noPar ee
    | _ => false
  | .aug i sub e => match st with
    | .AugAssign (.Name x _) op ee _ => nmB ci i x && decide (op = if sub then .Sub else .Add) && isE ci e ee
    | _ => false
  | .augIx i ix sub e => match st with
    | .AugAssign (.Subscript (.Name x p) eix _) op ee _ => isE ci (.var i) (.Name x p) && plainIx eix && isE ci ix eix && decide (op = if sub then .Sub else .Add) && isE ci e ee
    | _ => false
  | .app i e => match st with
    | .Expr (.Call (.Attribute (.Name x p) m apos) [ee] [] cpos) _ => isE ci (.var i) (.Name x p) && decide (m = ("append" : Str)) && (apos.endLine == cpos.line) && noStar ee && isE ci e ee
    | _ => false
  | .ext i e => match st with
    | .Expr (.Call (.Attribute (.Name x p) m apos) [ee] [] cpos) _ => isE ci (.var i) (.Name x p) && decide (m = ("extend" : Str)) && (apos.endLine == cpos.line) && noStar ee && isE ci e ee
    | _ => false
  | .expr e => match st with
    | .Expr ee _ => noComp ee && isE ci e ee
    | _ => false
  | .ret e => match st with
    | .Return (some ee) _ => isE ci e ee
    | _ => false
  | .retO i => match st with
    | .Return (some (.Name x p)) _ => isE ci (.var i) (.Name x p)
    | _ => false
  | .retN => match st with
    | .Return none _ => true
    | _ => false
  | .ife c a b => match st with
    | .If ec sa sb _ => tst c && isE ci c ec && isBk ci a sa && isBk ci b sb
    | _ => false
  | .for_ tg it body => match st with
    | .For et ei sb [] _ => isI ci it ei (isTup et) && noSet ei && isG ci tg et && isBk ci body sb
    | _ => false
  | .while_ n c body => match st with
    | .While ec sb [] _ => tst c && isE ci c ec && isBk ci body sb
    | _ => false
  | .brk => match st with
    | .Break _ => true
    | _ => false
  | .cont => match st with
    | .Continue _ => true
    | _ => false
  | .pass => match st with
    | .Pass _ => true
    | _ => false
  | .dnew i => match st with
    | .Assign [.Name x py] (.Dict [] [] _) _ => nmB ci i x
    | _ => false
  | .dset i k e => match st with
    | .Assign [.Subscript (.Name x p) ek _] ee _ => rdB ci i x && isE ci k ek && isE ci e ee && noComp ee
    | _ => false
  | .dcm i k v tg it ifs own => match st with
    | .Assign [.Name x py] ee _ => nmB ci i x && isDc ci k v tg it ifs own ee && (celB ci x || swpD ci x py ee)
    | _ => false
  | .dcm2 i j ow k v tg it ifs own e => match st with
    | .Assign [.Tuple [.Name x px, .Name y py] kt pt] (.Tuple [ea, eb] k2 pt2) _ => noStar ea && noStar eb && lclB ci i x && lclB ci j y && !(i == j) && parB [.Name x px, .Name y py] [ea, eb] && isDc ci k v tg it ifs own ea && isE ci e eb
    | _ => false
  | .rse => match st with
    | .Raise .. => true
    | _ => false
def isBk (ci : CI) (t : Tb) (l : List Stmt) : Bool := match t with
  | .nil => match l with
    | [] => true
    | _ => false
  | .cons s r => match l with
    | st :: sts => isS ci s st && isBk ci r sts
    | _ => false
  | .frz _ r => isBk ci r l
  | .fgt _ r => isBk ci r l
end
end Pz
set_option Elab.async false
set_option linter.all false
set_option maxRecDepth 100000
set_option maxHeartbeats 2000000
/-! Pz: every statement that passes the check does what the evaluator says. -/
namespace Pz
open PySem PySem.Spec PyProof.Rows L2

def wS (X : Cx) (st : Stmt) : TS := fun D σ H => ∀ (pins : List (Addr × Obj)) (s : Shared), Inv X pins σ H s → wpAny (model X.prog X.w) X.A (exec st X.env) (SP X pins D) X.xe s
theorem ps_w {X : Cx} {st : Stmt} : PS X st (wS X st) := ⟨fun pins s σ H D I h => h pins s I⟩
theorem wS_of {X : Cx} {st : Stmt} {t : TS} {D : Ends} {σ : L2.St} {H : Hp} (h : PS X st t) (q : t D σ H) : wS X st D σ H := fun pins s I => h.run pins s σ H D I q
def wSs (X : Cx) (sts : List Stmt) : TS := fun D σ H => ∀ (pins : List (Addr × Obj)) (s : Shared), Inv X pins σ H s → wpAny (model X.prog X.w) X.A (execs sts X.env) (SP X pins D) X.xe s
theorem pss_w {X : Cx} {sts : List Stmt} : PSs X sts (wSs X sts) := ⟨fun pins s σ H D I h => h pins s I⟩
theorem wSs_of {X : Cx} {sts : List Stmt} {t : TS} {D : Ends} {σ : L2.St} {H : Hp} (h : PSs X sts t) (q : t D σ H) : wSs X sts D σ H := fun pins s I => h.run pins s σ H D I q

/-- what is to follow -/
def KO (K : PySem.W.Frag) (D : Ends) (F0 B F : Hp) : Out → Prop
  | .nx ρ => ∀ σ' F' H', Rel K F0 B ρ σ' F' H' → Same F F' → D.nx σ' H'
  | .bk ρ => ∀ σ' F' H', Rel K F0 B ρ σ' F' H' → Same F F' → D.bk σ' H'
  | .ct ρ => ∀ σ' F' H', Rel K F0 B ρ σ' F' H' → Same F F' → D.ct σ' H'
  | .rt r => ∀ v F' H', Step F0 B F' H' → RepR K B F' H' r v → D.rt v H'
theorem KO.up {K : PySem.W.Frag} {D : Ends} {F0 B F F1 : Hp} (s : Same F F1) : ∀ {o : Out}, KO K D F0 B F o → KO K D F0 B F1 o
  | .nx _, h => fun σ' F' H' R q => h σ' F' H' R (s.trans q)
  | .bk _, h => fun σ' F' H' R q => h σ' F' H' R (s.trans q)
  | .ct _, h => fun σ' F' H' R q => h σ' F' H' R (s.trans q)
  | .rt _, h => h
def SndS1 (X : Cx) (st : Stmt) (ev : En → Option Out) : Prop := ∀ (F0 B : Hp) (ρ : En) (σ : L2.St) (F H : Hp) (o : Out) (D : Ends), Rel X.K F0 B ρ σ F H → ev ρ = some o → KO X.K D F0 B F o → wS X st D σ H
def SndSs (X : Cx) (sts : List Stmt) (ev : En → Option Out) : Prop := ∀ (F0 B : Hp) (ρ : En) (σ : L2.St) (F H : Hp) (o : Out) (D : Ends), Rel X.K F0 B ρ σ F H → ev ρ = some o → KO X.K D F0 B F o → wSs X sts D σ H

section
variable {X : Cx} {ci : CI} {C : Str → List PV → Option RV} {G : Str → Option PV} {F0 B F H : Hp} {ρ : En} {σ : L2.St}

/-- lists of one's own were there at H0 -/
def Was (H0 : Hp) (ρ : En) (σ : L2.St) : Prop := ∀ (j : Nat) (ds : Oc) (b : Addr), ρ[j]? = some (Sl.obj ds) → σ[j]? = some (some (V.ref b)) → H0 b ≠ none
theorem Rel.was (R : Rel X.K F0 B ρ σ F H) : Was H ρ σ := fun j ds b e1 e2 => by
  obtain ⟨a, vs, h1, h2, _⟩ := R.own j ds e1
  rw [h1] at e2; cases e2
  rw [h2]; exact fun h => by cases h
theorem Was.up {H0 H1 : Hp} (s : Same H0 H1) (w : Was H0 ρ σ) : Was H1 ρ σ := fun j ds b e1 e2 h => by
  have := w j ds b e1 e2
  cases e : H0 b with
  | none => exact this e
  | some o => rw [s b o e] at h; cases h
theorem Rel.addF (R : Rel X.K F0 B ρ σ F H) {a : Addr} {vs : List V} (h1 : H a = some (.lst vs)) (h2 : F a = none) (h3 : B a = none) (ap : ∀ (j : Nat) (ds : Oc) (b : Addr), ρ[j]? = some (Sl.obj ds) → σ[j]? = some (some (V.ref b)) → b ≠ a) :
    Rel X.K F0 B ρ σ (upd F a (.lst vs)) H := by
  have sm : Same F (upd F a (.lst vs)) := same_new h2
  have le' : Same (upd F a (.lst vs)) H := fun b x q => by
    by_cases hb : b = a
    · subst hb; rw [upd_same] at q; cases q; exact h1
    · rw [upd_ne hb] at q; exact R.le _ _ q
  refine ⟨le', R.len, fun j v q => ?_, fun j es q => ?_, R.dj, R.go.h, R.go.f.trans sm, le', fun b o q n => ?_⟩
  · obtain ⟨x, q1, q2⟩ := R.val j v q
    exact ⟨x, q1, dp_mono sm q2⟩
  · obtain ⟨b, ws, q1, q2, q3, q4, q5⟩ := R.own j es q
    exact ⟨b, ws, q1, q2, by rw [upd_ne (ap j es b q q1)]; exact q3, q4, q5.mono sm⟩
  · rw [upd_ne (ne_of_none q h3)]; exact R.go.nw b o q n
/-- a result is stored -/
theorem Rel.put (R : Rel X.K F0 B ρ σ F H) {H0 : Hp} {r : RV} {v : V} {ow : Bool} {s : Sl} {i : Nat} (sB : Same B H0) (w : Was H0 ρ σ) (h : RepR X.K H0 F H r v) (e : slOf ow r = some s) :
    ∃ F', Same F F' ∧ (F' = F ∨ ∃ a, v = .ref a ∧ r.fr = true ∧ ∀ b, b ≠ a → F' b = F b) ∧ Rel X.K F0 B (ρ.set i s) (σ.set i (some v)) F' H := by
  obtain ⟨d, fr⟩ := r
  cases fr with
  | false =>
    cases ow with
    | false =>
      have e : some (Sl.val d) = some s := e
      cases e
      exact ⟨F, Same.refl _, .inl rfl, R.setV h.va⟩
    | true => cases e
  | true =>
    obtain ⟨a, vs, ds, rfl, rfl, h0, h1, h2, h3⟩ := h.fr
    have ap : ∀ (j : Nat) (ds : Oc) (b : Addr), ρ[j]? = some (Sl.obj ds) → σ[j]? = some (some (V.ref b)) → b ≠ a := fun j ds b e1 e2 e3 => by
      subst e3; exact w j ds b e1 e2 h0
    cases ow with
    | false =>
      have e : some (Sl.val (.list ds)) = some s := e
      cases e
      have sm : Same F (upd F a (.lst vs)) := same_new h2
      exact ⟨_, sm, .inr ⟨a, rfl, rfl, fun b hb => upd_ne hb⟩, (R.addF h1 h2 (sB.free h0) ap).setV (.lst (SqL.of upd_same) (dpAll_mono sm h3))⟩
    | true =>
      have e : some (Sl.own ds) = some s := e
      cases e
      exact ⟨F, Same.refl _, .inl rfl, R.setO h1 h2 (sB.free h0) h3 fun j es b _ e1 e2 => ap j es b e1 e2⟩
theorem Was.put {H0 H1 F1 : Hp} {r : RV} {v : V} {ow : Bool} {s : Sl} {i : Nat} (w : Was H1 ρ σ) (hl : ρ.length = σ.length) (h : RepR X.K H0 F1 H1 r v) (e : slOf ow r = some s) : Was H1 (ρ.set i s) (σ.set i (some v)) := by
  intro j ds b e1 e2
  by_cases hi : i < ρ.length
  · rw [sl_get_set hi] at e1
    rw [st_get_set (by rw [← hl]; exact hi)] at e2
    by_cases hj : j = i
    · rw [if_pos hj] at e1 e2
      cases e1; cases e2
      obtain ⟨d, fr⟩ := r
      cases ow with
      | false => cases e
      | true =>
        cases fr with
        | false => cases e
        | true =>
          obtain ⟨a, vs, ds', rfl, ea, h0, h1, h2, h3⟩ := h.fr
          cases ea
          rw [h1]; exact fun h => by cases h
    · rw [if_neg hj] at e1 e2
      exact w j ds b e1 e2
  · rw [set_out hi] at e1
    rw [set_out (by rw [← hl]; exact hi)] at e2
    exact w j ds b e1 e2
/-- later, the result is what it was -/
theorem RepR.step {K : PySem.W.Frag} {H0 F H F' H' : Hp} {r : RV} {v : V} (s : Step F H F' H') (h : RepR K H0 F H r v) : RepR K H0 F' H' r v := by
  obtain ⟨d, fr⟩ := r
  cases fr with
  | false => exact .of (dp_mono s.f h.va)
  | true =>
    obtain ⟨a, vs, ds, rfl, rfl, h0, h1, h2, h3⟩ := h.fr
    exact .new h0 (s.h _ _ h1) (s.nw _ _ h1 h2) (dpAll_mono s.f h3)
/-- .. though F grows by another list -/
theorem RepR.keep {K : PySem.W.Frag} {H1 F F' H : Hp} {r : RV} {v : V} (h : RepR K H1 F H r v) (sm : Same F F') (g : F' = F ∨ ∃ a, H1 a ≠ none ∧ ∀ b, b ≠ a → F' b = F b) : RepR K H1 F' H r v := by
  rcases g with rfl | ⟨a, ha, g⟩
  · exact h
  · obtain ⟨d, fr⟩ := r
    cases fr with
    | false => exact .of (dp_mono sm h.va)
    | true =>
      obtain ⟨c, vs, ds, rfl, rfl, h0, h1, h2, h3⟩ := h.fr
      refine .new h0 h1 ?_ (dpAll_mono sm h3)
      rw [g c fun e => ha (by rw [← e]; exact h0)]
      exact h2
theorem RepR.had {K : PySem.W.Frag} {H0 F H : Hp} {r : RV} {v : V} {a : Addr} (h : RepR K H0 F H r v) (e : v = .ref a) (f : r.fr = true) : H a ≠ none := by
  obtain ⟨d, fr⟩ := r
  obtain rfl : fr = true := f
  obtain ⟨c, vs, ds, rfl, ec, h0, h1, h2, h3⟩ := h.fr
  rw [e] at ec; cases ec
  rw [h1]; exact fun h => by cases h
/-- name = e -/
theorem ss_set (O : Ok X ci C G) {i : Nat} {ow : Bool} {ev : En → Option RV} {t : TE} {st : Stmt} (hp : PS X st (tAsg t (gName i))) (h : SndQ X.K t ev) :
    SndS1 X st (fun ρ => do let r ← ev ρ; let s ← slOf ow r; some (.nx (ρ.set i s))) := by
  intro F0 B ρ σ F H o D R e k
  obtain ⟨r, e1, e⟩ := bind_some e
  obtain ⟨s, e2, e⟩ := bind_some e
  cases e
  refine wS_of hp (h F0 B ρ σ F H r _ R e1 fun v F' H' st rp => ?_)
  obtain ⟨F2, sm, _, R2⟩ := (R.step st).put (i := i) R.go.h R.was rp e2
  exact k _ F2 H' R2 (st.f.trans sm)
/-- a, b = e1, e2 -/
theorem ss_par (O : Ok X ci C G) {i j : Nat} {o1 o2 : Bool} {a b : Expr} {ea eb : En → Option RV} {st : Stmt} {ta : TA} (hp : PS X st (tPar i j ta)) (ht : ta = tCons (wE X a) (tCons (wE X b) tNil)) (ha : Snd X a ea) (hb : Snd X b eb) :
    SndS1 X st (fun ρ => do
      let r1 ← ea ρ
      let r2 ← eb ρ
      let s1 ← slOf o1 r1
      let s2 ← slOf o2 r2
      some (.nx ((ρ.set i s1).set j s2))) := by
  subst ht
  intro F0 B ρ σ F H o D R e k
  obtain ⟨r1, e1, e⟩ := bind_some e
  obtain ⟨r2, e2, e⟩ := bind_some e
  obtain ⟨s1, e3, e⟩ := bind_some e
  obtain ⟨s2, e4, e⟩ := bind_some e
  cases e
  refine wS_of hp (ha F0 B ρ σ F H r1 _ R e1 fun v F1 H1 st1 rp1 => hb F0 B ρ σ F1 H1 r2 _ (R.step st1) e2 fun w F2 H2 st2 rp2 => ⟨v, w, rfl, ?_⟩)
  have R2 := (R.step st1).step st2
  obtain ⟨F3, sm3, g3, R3⟩ := R2.put (i := i) R.go.h R.was (rp1.step st2) e3
  have g3' : F3 = F2 ∨ ∃ a, H1 a ≠ none ∧ ∀ b, b ≠ a → F3 b = F2 b := g3.elim .inl fun ⟨a, ea, fa, g⟩ => .inr ⟨a, rp1.had ea fa, g⟩
  have w1 : Was H1 (ρ.set i s1) (σ.set i (some v)) := (R.was.up st1.h).put R.len rp1 e3
  obtain ⟨F4, sm4, _, R4⟩ := R3.put (i := j) (R.go.h.trans st1.h) w1 (rp2.keep sm3 g3') e4
  exact k _ F4 H2 R4 (((st1.f.trans st2.f).trans sm3).trans sm4)
theorem ss_par3 (O : Ok X ci C G) {i j l : Nat} {o1 o2 o3 : Bool} {a b c : Expr} {ea eb ec : En → Option RV} {st : Stmt} {ta : TA} (hp : PS X st (tPar3 i j l ta)) (ht : ta = tCons (wE X a) (tCons (wE X b) (tCons (wE X c) tNil)))
    (ha : Snd X a ea) (hb : Snd X b eb) (hc : Snd X c ec) :
    SndS1 X st (fun ρ => do
      let r1 ← ea ρ
      let r2 ← eb ρ
      let r3 ← ec ρ
      let s1 ← slOf o1 r1
      let s2 ← slOf o2 r2
      let s3 ← slOf o3 r3
      some (.nx (((ρ.set i s1).set j s2).set l s3))) := by
  subst ht
  intro F0 B ρ σ F H o D R e k
  obtain ⟨r1, e1, e⟩ := bind_some e
  obtain ⟨r2, e2, e⟩ := bind_some e
  obtain ⟨r3, e5, e⟩ := bind_some e
  obtain ⟨s1, e3, e⟩ := bind_some e
  obtain ⟨s2, e4, e⟩ := bind_some e
  obtain ⟨s3, e6, e⟩ := bind_some e
  cases e
  refine wS_of hp (ha F0 B ρ σ F H r1 _ R e1 fun v F1 H1 st1 rp1 => hb F0 B ρ σ F1 H1 r2 _ (R.step st1) e2 fun w F2 H2 st2 rp2 => hc F0 B ρ σ F2 H2 r3 _ ((R.step st1).step st2) e5 fun u F5 H5 st5 rp5 => ⟨v, w, u, rfl, ?_⟩)
  have R2 := ((R.step st1).step st2).step st5
  obtain ⟨F3, sm3, g3, R3⟩ := R2.put (i := i) R.go.h R.was ((rp1.step st2).step st5) e3
  have g3' : F3 = F5 ∨ ∃ a, H1 a ≠ none ∧ ∀ b, b ≠ a → F3 b = F5 b := g3.elim .inl fun ⟨a, ea, fa, g⟩ => .inr ⟨a, rp1.had ea fa, g⟩
  have g3'' : F3 = F5 ∨ ∃ a, H2 a ≠ none ∧ ∀ b, b ≠ a → F3 b = F5 b := g3.elim .inl fun ⟨a, ea, fa, g⟩ => .inr ⟨a, (rp1.step st2).had ea fa, g⟩
  have w1 : Was H1 (ρ.set i s1) (σ.set i (some v)) := (R.was.up st1.h).put R.len rp1 e3
  have rp2' : RepR X.K H1 F3 H5 r2 w := (rp2.step st5).keep sm3 g3'
  obtain ⟨F4, sm4, g4, R4⟩ := R3.put (i := j) (R.go.h.trans st1.h) w1 rp2' e4
  have g4' : F4 = F3 ∨ ∃ a, H2 a ≠ none ∧ ∀ b, b ≠ a → F4 b = F3 b := g4.elim .inl fun ⟨a, ea, fa, g⟩ => .inr ⟨a, rp2.had ea fa, g⟩
  have w2 : Was H2 ((ρ.set i s1).set j s2) ((σ.set i (some v)).set j (some w)) := (w1.up st2.h).put (by rw [List.length_set, List.length_set]; exact R.len) rp2 e4
  obtain ⟨F6, sm6, _, R6⟩ := R4.put (i := l) ((R.go.h.trans st1.h).trans st2.h) w2 ((rp5.keep sm3 g3'').keep sm4 g4') e6
  exact k _ F6 H5 R6 (((((st1.f.trans st2.f).trans st5.f).trans sm3).trans sm4).trans sm6)
/-- a, b = e1, e2 by a tuple -/
theorem ss_parT (O : Ok X ci C G) {i j : Nat} {o1 o2 : Bool} {a b : Expr} {ea eb : En → Option RV} {st : Stmt} (hp : PS X st (tAsg (tTup (tCons (wE X a) (tCons (wE X b) tNil))) (gTup X.K 2 (gCons (gName i) (gCons (gName j) gNil))))) (ha : Snd X a ea) (hb : Snd X b eb) :
    SndS1 X st (fun ρ => do
      let r1 ← ea ρ
      let r2 ← eb ρ
      let s1 ← slOf o1 r1
      let s2 ← slOf o2 r2
      some (.nx ((ρ.set i s1).set j s2))) := by
  intro F0 B ρ σ F H o D R e k
  obtain ⟨r1, e1, e⟩ := bind_some e
  obtain ⟨r2, e2, e⟩ := bind_some e
  obtain ⟨s1, e3, e⟩ := bind_some e
  obtain ⟨s2, e4, e⟩ := bind_some e
  cases e
  refine wS_of hp (ha F0 B ρ σ F H r1 _ R e1 fun v F1 H1 st1 rp1 => hb F0 B ρ σ F1 H1 r2 _ (R.step st1) e2 fun w F2 H2 st2 rp2 => ⟨by rw [sizeLine_eq]; simp, fun p np => ⟨p, [v, w], rfl, SqT.of upd_same, rfl, v, [w], rfl, w, [], rfl, rfl, ?_⟩⟩)
  have st3 : Step F2 H2 F2 (L2.upd H2 p (.tup [v, w])) := Step.lay st2.le np
  have R2 := ((R.step st1).step st2).step st3
  obtain ⟨F3, sm3, g3, R3⟩ := R2.put (i := i) R.go.h R.was ((rp1.step st2).step st3) e3
  have g3' : F3 = F2 ∨ ∃ a, H1 a ≠ none ∧ ∀ b, b ≠ a → F3 b = F2 b := g3.elim .inl fun ⟨a, ea, fa, g⟩ => .inr ⟨a, rp1.had ea fa, g⟩
  have w1 : Was H1 (ρ.set i s1) (σ.set i (some v)) := (R.was.up st1.h).put R.len rp1 e3
  obtain ⟨F4, sm4, _, R4⟩ := R3.put (i := j) (R.go.h.trans st1.h) w1 ((rp2.step st3).keep sm3 g3') e4
  exact k _ F4 _ R4 (((st1.f.trans st2.f).trans sm3).trans sm4)
theorem ss_par3T (O : Ok X ci C G) {i j l : Nat} {o1 o2 o3 : Bool} {a b c : Expr} {ea eb ec : En → Option RV} {st : Stmt} (hp : PS X st (tAsg (tTup (tCons (wE X a) (tCons (wE X b) (tCons (wE X c) tNil)))) (gTup X.K 3 (gCons (gName i) (gCons (gName j) (gCons (gName l) gNil))))))
    (ha : Snd X a ea) (hb : Snd X b eb) (hc : Snd X c ec) :
    SndS1 X st (fun ρ => do
      let r1 ← ea ρ
      let r2 ← eb ρ
      let r3 ← ec ρ
      let s1 ← slOf o1 r1
      let s2 ← slOf o2 r2
      let s3 ← slOf o3 r3
      some (.nx (((ρ.set i s1).set j s2).set l s3))) := by
  intro F0 B ρ σ F H o D R e k
  obtain ⟨r1, e1, e⟩ := bind_some e
  obtain ⟨r2, e2, e⟩ := bind_some e
  obtain ⟨r3, e5, e⟩ := bind_some e
  obtain ⟨s1, e3, e⟩ := bind_some e
  obtain ⟨s2, e4, e⟩ := bind_some e
  obtain ⟨s3, e6, e⟩ := bind_some e
  cases e
  refine wS_of hp (ha F0 B ρ σ F H r1 _ R e1 fun v F1 H1 st1 rp1 => hb F0 B ρ σ F1 H1 r2 _ (R.step st1) e2 fun w F2 H2 st2 rp2 => hc F0 B ρ σ F2 H2 r3 _ ((R.step st1).step st2) e5 fun u F5 H5 st5 rp5 =>
    ⟨by rw [sizeLine_eq]; simp, fun p np => ⟨p, [v, w, u], rfl, SqT.of upd_same, rfl, v, [w, u], rfl, w, [u], rfl, u, [], rfl, rfl, ?_⟩⟩)
  have st6 : Step F5 H5 F5 (L2.upd H5 p (.tup [v, w, u])) := Step.lay st5.le np
  have R2 := (((R.step st1).step st2).step st5).step st6
  obtain ⟨F3, sm3, g3, R3⟩ := R2.put (i := i) R.go.h R.was (((rp1.step st2).step st5).step st6) e3
  have g3' : F3 = F5 ∨ ∃ a, H1 a ≠ none ∧ ∀ b, b ≠ a → F3 b = F5 b := g3.elim .inl fun ⟨a, ea, fa, g⟩ => .inr ⟨a, rp1.had ea fa, g⟩
  have g3'' : F3 = F5 ∨ ∃ a, H2 a ≠ none ∧ ∀ b, b ≠ a → F3 b = F5 b := g3.elim .inl fun ⟨a, ea, fa, g⟩ => .inr ⟨a, (rp1.step st2).had ea fa, g⟩
  have w1 : Was H1 (ρ.set i s1) (σ.set i (some v)) := (R.was.up st1.h).put R.len rp1 e3
  have rp2' : RepR X.K H1 F3 _ r2 w := ((rp2.step st5).step st6).keep sm3 g3'
  obtain ⟨F4, sm4, g4, R4⟩ := R3.put (i := j) (R.go.h.trans st1.h) w1 rp2' e4
  have g4' : F4 = F3 ∨ ∃ a, H2 a ≠ none ∧ ∀ b, b ≠ a → F4 b = F3 b := g4.elim .inl fun ⟨a, ea, fa, g⟩ => .inr ⟨a, rp2.had ea fa, g⟩
  have w2 : Was H2 ((ρ.set i s1).set j s2) ((σ.set i (some v)).set j (some w)) := (w1.up st2.h).put (by rw [List.length_set, List.length_set]; exact R.len) rp2 e4
  obtain ⟨F6, sm6, _, R6⟩ := R4.put (i := l) ((R.go.h.trans st1.h).trans st2.h) w2 (((rp5.step st6).keep sm3 g3'').keep sm4 g4') e6
  exact k _ F6 _ R6 (((((st1.f.trans st2.f).trans st5.f).trans sm3).trans sm4).trans sm6)
/-- (a, b, ..) = e -/
theorem ss_asg (O : Ok X ci C G) {tg : Tg} {t e : Expr} {ev : En → Option RV} {st : Stmt} (hp : PS X st (tAsg (wE X e) (wG X t))) (h : Snd X e ev) (hg : SndG X t tg) :
    SndS1 X st (fun ρ => do let r ← ev ρ; let ρ' ← asg tg r.v ρ; some (.nx ρ')) := by
  intro F0 B ρ σ F H o D R e k
  obtain ⟨r, e1, e⟩ := bind_some e
  obtain ⟨ρ', e2, e⟩ := bind_some e
  cases e
  refine wS_of hp (h.va R e1 fun v F' H' st dv => ?_)
  exact hg F0 B ρ σ F' H' v r.v ρ' _ (R.step st) dv e2 fun σ' R' _ => k σ' F' H' R' st.f
/-- a list of one's own is written -/
theorem Rel.updO (R : Rel X.K F0 B ρ σ F H) {i : Nat} {ds es : Oc} {a : Addr} {ws : HO} (e : ρ[i]? = some (Sl.obj ds)) (ea : σ[i]? = some (some (V.ref a))) (d : Shp X.K F es ws) :
    Rel X.K F0 B (ρ.set i (.obj es)) σ F (upd H a ws) := by
  obtain ⟨a', vs, h1, h2, h3, h4, h5⟩ := R.own i _ e
  rw [h1] at ea; cases ea
  have hi : i < ρ.length := (List.getElem?_eq_some_iff.mp e).1
  have le' : Same F (L2.upd H a ws) := fun b x q => by rw [upd_ne (ne_of_none q h3)]; exact R.le _ _ q
  refine ⟨le', by simp [R.len], fun j v q => ?_, fun j qs q => ?_, fun j k ps qs b e1 e2 e3 e4 => ?_, fun b x q => ?_, R.go.f, le', R.go.nw⟩
  · rw [sl_get_set hi] at q
    by_cases hj : j = i
    · rw [if_pos hj] at q; cases q
    · rw [if_neg hj] at q; exact R.val j v q
  · rw [sl_get_set hi] at q
    by_cases hj : j = i
    · rw [if_pos hj] at q; cases q
      rw [hj]
      exact ⟨a, ws, h1, upd_same, h3, h4, d⟩
    · rw [if_neg hj] at q
      obtain ⟨b, us, q1, q2, q3, q4, q5⟩ := R.own j qs q
      refine ⟨b, us, q1, ?_, q3, q4, q5⟩
      rw [upd_ne]; exact q2
      intro z; subst z
      exact hj (R.dj j i qs ds b q e q1 h1)
  · have back : ∀ {m : Nat} {us : Oc}, (ρ.set i (.obj es))[m]? = some (Sl.obj us) → ∃ us', ρ[m]? = some (Sl.obj us') := fun {m us} q => by
      rw [sl_get_set hi] at q
      by_cases hj : m = i
      · exact ⟨ds, by rw [hj]; exact e⟩
      · rw [if_neg hj] at q; exact ⟨us, q⟩
    obtain ⟨p1, q1⟩ := back e1
    obtain ⟨p2, q2⟩ := back e2
    exact R.dj j k p1 p2 b q1 q2 e3 e4
  · rw [upd_ne (ne_of_none q h4)]; exact R.go.h _ _ q
theorem Rel.upd (R : Rel X.K F0 B ρ σ F H) {i : Nat} {ds es : List PV} {a : Addr} {ws : List V} (e : ρ[i]? = some (Sl.own ds)) (ea : σ[i]? = some (some (V.ref a))) (d : DpAll X.K F ws es) :
    Rel X.K F0 B (ρ.set i (.own es)) σ F (L2.upd H a (.lst ws)) := R.updO e ea ⟨ws, rfl, d⟩
/-- the name of one's own list, read -/
theorem own_rd (O : Ok X ci C G) {i : Nat} {x : Str} {p : Pos} (h : isE ci (.var i) (.Name x p) = true) (R : Rel X.K F0 B ρ σ F H) {ds : List PV} (e : ρ[i]? = some (Sl.own ds)) {Q : VK} (q : ∀ a vs, σ[i]? = some (some (V.ref a)) → H a = some (.lst vs) → DpAll X.K F vs ds → Q (.ref a) H) : wE X (.Name x p) σ H Q := by
  have h : (decide (ci.N[i]? = some x) && visB ci x && okName x) = true := h
  simp only [Bool.and_eq_true, decide_eq_true_eq] at h
  obtain ⟨⟨h1, h2⟩, h3⟩ := h
  unfold okName at h3
  simp only [Bool.and_eq_true, Bool.not_eq_true'] at h3
  obtain ⟨a, vs, e1, e2, _, _, d⟩ := R.ownL i ds e
  exact wE_of (pe_var (nm_of O h1) (vis_of O h2) h3.1.1 h3.1.2) ⟨_, e1, q a vs e1 e2 d⟩
end
end Pz
set_option Elab.async false
set_option linter.all false
set_option maxRecDepth 100000
set_option maxHeartbeats 2000000
/-! Pz: every statement that passes the check does what the evaluator says, second half. -/
namespace Pz
open PySem PySem.Spec PyProof.Rows L2
section
variable {X : Cx} {ci : CI} {C : Str → List PV → Option RV} {G : Str → Option PV} {F0 B F H : Hp} {ρ : En} {σ : L2.St}
theorem ixN_of {n : Nat} {i : Int} : ixN n i = ixOf n i := rfl
/-- own[ix] = e -/
theorem ss_setix (O : Ok X ci C G) {i : Nat} {x : Str} {p : Pos} {ix e : Expr} {eix : En → Option PV} {ee : En → Option RV} {st : Stmt} (hn : isE ci (.var i) (.Name x p) = true) (hp : PS X st (tAsg (wE X e) (gSub (wE X (.Name x p)) (wE X ix) rSetL))) (he : Snd X e ee) (hi : SndB X ix eix) :
    SndS1 X st (fun ρ => do
      let r ← ee ρ
      let k ← eix ρ
      match ρ[i]?, k with
      | some (.obj (.l ds)), .int k => (ixOf ds.length k).map fun j => .nx (ρ.set i (.own (ds.set j r.v)))
      | _, _ => none) := by
  intro F0 B ρ σ F H o D R e k
  obtain ⟨r, e1, e⟩ := bind_some e
  obtain ⟨kk, e2, e⟩ := bind_some e
  split at e
  · rename_i ds z eo
    obtain ⟨j, ej, e⟩ := Option.map_eq_some_iff.mp e
    subst e
    refine wS_of hp (he.va R e1 fun v F1 H1 s1 dv => own_rd O hn (R.step s1) eo fun a vs ea ha dd => ?_)
    refine hi F0 B ρ σ F1 H1 _ _ (R.step s1) e2 fun w F2 H2 s2 b2 => ?_
    have R2 := (R.step s1).step s2
    have d2 := dpAll_mono s2.f dd
    refine ⟨a, vs, z, j, rfl, b2.int, s2.h _ _ ha, by rw [ixN_of, dpAll_len d2]; exact ej, ?_⟩
    exact k σ F2 _ (R2.upd eo ea (dpAll_set (dp_mono s2.f dv) j d2)) (s1.f.trans s2.f)
  · cases e
/-- name += e, name -= e: ints -/
theorem ss_aug (O : Ok X ci C G) {i : Nat} {sub : Bool} {e : Expr} {ee : En → Option PV} {st : Stmt} (hp : PS X st (tAug i (wE X e) (ipI fun a b => if sub then a - b else a + b))) (he : SndB X e ee) :
    SndS1 X st (fun ρ => do
      let y ← ee ρ
      match ρ[i]?, y with
      | some (.val (.int a)), .int b => some (.nx (ρ.set i (.val (.int (if sub then a - b else a + b)))))
      | _, _ => none) := by
  intro F0 B ρ σ F H o D R e k
  obtain ⟨y, e1, e⟩ := bind_some e
  split at e
  · rename_i a b eo
    cases e
    obtain ⟨x, ex, dx⟩ := R.val i _ eo
    cases dx
    exact wS_of hp ⟨_, ex, he F0 B ρ σ F H _ _ R e1 fun v F1 H1 s1 bo => ⟨a, b, rfl, bo.int, k _ F1 H1 ((R.step s1).setV (.int _)) s1.f⟩⟩
  · cases e
theorem get_list : PGet X (rIxL X.K) := by
  intro pins s σ H x y v u Q I rx ry h
  obtain ⟨p, xs, i, z, rfl, rfl, hq, he, q⟩ := h
  cases rx
  obtain ⟨t, rfl⟩ := ry
  obtain ⟨its, r, pl, hz⟩ := I.list hq
  obtain ⟨j, h1, h2, h3, h4, h5⟩ := atI_get he
  obtain ⟨w, ew, rw'⟩ := r.get h2
  have hl := r.length
  have hn := line63
  have fin : EP X pins σ Q w s := ⟨z, H, I, rw', q⟩
  by_cases h0 : 0 ≤ i
  · have hj : i.toNat = j := by
      rw [seqIndex_of h0 h5] at h1
      exact Option.some.inj h1
    exact getItem_listL pl.isList h0 (by omega) (by rw [hj]; simpa using ew) fin
  · have hj : (i + (its.toArray.size : Int)).toNat = j := by
      rw [seqIndex_neg (by omega) h4] at h1
      rw [List.size_toArray, ← hl]
      exact Option.some.inj h1
    exact wpAny_getItem_list_neg pl.isList (by omega) (by rw [List.size_toArray] <;> omega) (by omega) (by rw [hj]; simpa using ew) fin
/-- own[ix] += e, -= e: ints -/
theorem ss_augIx (O : Ok X ci C G) {i : Nat} {sub : Bool} {x : Str} {p : Pos} {ix e : Expr} {eix ee : En → Option PV} {st : Stmt} (hn : isE ci (.var i) (.Name x p) = true)
    (hp : PS X st (tAugS (wE X (.Name x p)) (wE X ix) (wE X e) (rIxL X.K) (ipI fun a b => if sub then a - b else a + b) rSetL)) (hi : SndB X ix eix) (he : SndB X e ee) :
    SndS1 X st (fun ρ => do
      let k ← eix ρ
      let y ← ee ρ
      match ρ[i]?, k, y with
      | some (.obj (.l ds)), .int k, .int b => (ixOf ds.length k).bind fun j => match ds[j]? with
        | some (.int a) => some (.nx (ρ.set i (.own (ds.set j (.int (if sub then a - b else a + b))))))
        | _ => none
      | _, _, _ => none) := by
  intro F0 B ρ σ F H o D R e0 k
  obtain ⟨kk, e1, e0⟩ := bind_some e0
  obtain ⟨y, e2, e0⟩ := bind_some e0
  split at e0
  · rename_i ds z b eo _
    obtain ⟨j, ej, e0⟩ := Option.bind_eq_some_iff.mp e0
    split at e0
    · rename_i a ea
      cases e0
      refine wS_of hp (own_rd O hn R eo fun l vs el hl dd => ?_)
      refine hi F0 B ρ σ F H _ _ R e1 fun w F1 H1 s1 b1 => ?_
      have d1 := dpAll_mono s1.f dd
      obtain ⟨v, hv, dv⟩ := dpAll_get d1 ea
      cases dv
      have at1 : atI vs z = some (.int a) := by
        unfold atI
        rw [ixN_of, dpAll_len d1, ej]; exact hv
      refine ⟨l, vs, z, _, rfl, b1.int, SqL.of (s1.h _ _ hl), at1, ?_⟩
      refine he F0 B ρ σ F1 H1 _ _ (R.step s1) e2 fun u F2 H2 s2 b2 => ?_
      have R2 := (R.step s1).step s2
      have d2 := dpAll_mono s2.f d1
      refine ⟨a, b, rfl, b2.int, l, vs, z, j, rfl, b1.int, s2.h _ _ (s1.h _ _ hl), by rw [ixN_of, dpAll_len d2]; exact ej, ?_⟩
      exact k σ F2 _ (R2.upd eo el (dpAll_set (.int _) j d2)) (s1.f.trans s2.f)
    · cases e0
  · cases e0
/-- own.append(e) -/
theorem ss_app (O : Ok X ci C G) {i : Nat} {x : Str} {p : Pos} {e : Expr} {ee : En → Option RV} {st : Stmt} (hn : isE ci (.var i) (.Name x p) = true) (hp : PS X st (tDrop (tBM X.K "list" rAppend (wE X (.Name x p)) (tCons (wE X e) tNil)))) (he : Snd X e ee) :
    SndS1 X st (fun ρ => do
      let r ← ee ρ
      match ρ[i]? with
      | some (.obj (.l ds)) => if ds.length < LIM then some (.nx (ρ.set i (.own (ds ++ [r.v])))) else none
      | _ => none) := by
  intro F0 B ρ σ F H o D R e k
  obtain ⟨r, e1, e⟩ := bind_some e
  split at e
  · rename_i ds eo
    split at e
    · rename_i hz
      cases e
      refine wS_of hp (own_rd O hn R eo fun a vs ea ha dd => ⟨.inl ⟨rfl, _, SqL.of ha⟩, he.va R e1 fun v F1 H1 s1 dv => ?_⟩)
      have d2 := dpAll_mono s1.f dd
      refine ⟨a, vs, v, rfl, rfl, s1.h _ _ ha, ?_, k σ F1 _ ((R.step s1).upd eo ea (dpAll_app d2 (.cons dv .nil))) s1.f⟩
      rw [dpAll_len d2, sizeLine_eq]
      unfold LIM at hz; omega
    · cases e
  · cases e
/-- own.extend(a list just made) -/
theorem ss_ext (O : Ok X ci C G) {i : Nat} {x : Str} {p : Pos} {e : Expr} {ee : En → Option RV} {st : Stmt} (hn : isE ci (.var i) (.Name x p) = true) (hp : PS X st (tDrop (tBM X.K "list" rExtend (wE X (.Name x p)) (tCons (wE X e) tNil)))) (he : Snd X e ee) :
    SndS1 X st (fun ρ => do
      let r ← ee ρ
      match ρ[i]?, r with
      | some (.obj (.l ds)), ⟨.list es, true⟩ => if ds.length + es.length ≤ LIM then some (.nx (ρ.set i (.own (ds ++ es)))) else none
      | _, _ => none) := by
  intro F0 B ρ σ F H o D R e k
  obtain ⟨r, e1, e⟩ := bind_some e
  split at e
  · rename_i ds es eo
    split at e
    · rename_i hz
      cases e
      refine wS_of hp (own_rd O hn R eo fun a vs ea ha dd => ⟨.inl ⟨rfl, _, SqL.of ha⟩, he F0 B ρ σ F H _ _ R e1 fun v F1 H1 s1 rp => ?_⟩)
      have d2 := dpAll_mono s1.f dd
      obtain ⟨b, ws, qs, eq, rfl, h0, h1, h2, h3⟩ := rp.fr
      cases eq
      refine ⟨a, b, vs, ws, rfl, rfl, s1.h _ _ ha, h1, ?_, k σ F1 _ ((R.step s1).upd eo ea (dpAll_app d2 h3)) s1.f⟩
      rw [dpAll_len d2, dpAll_len h3]
      exact lim_line hz
    · cases e
  · cases e
/-- name = {} -/
theorem ss_dnew (O : Ok X ci C G) {i : Nat} {st : Stmt} (hp : PS X st (tAsg tDNewK (gName i))) : SndS1 X st (fun ρ => some (.nx (ρ.set i (.dic [])))) := by
  intro F0 B ρ σ F H o D R e k
  cases e
  refine wS_of hp fun p np => ?_
  have s := Step.lay (o := .dK []) R.le np
  refine k _ F _ ((R.step s).setObj (i := i) (a := p) upd_same (R.le.free np) (R.go.h.free np) ⟨[], rfl, .nil⟩ fun j es b hj e1 e2 e3 => ?_) s.f
  subst e3
  obtain ⟨a, h, h1, h2, _⟩ := R.own j es e1
  rw [h1] at e2
  cases e2
  rw [np] at h2; cases h2
/-- name[k] = e -/
theorem ss_dset (O : Ok X ci C G) {i : Nat} {x : Str} {p : Pos} {ek e : Expr} {kk : En → Option PV} {ee : En → Option RV} {st : Stmt} (hn : rdB ci i x = true) (hp : PS X st (sDPut (wE X (.Name x p)) (wE X ek) (wE X e))) (he : Snd X e ee) (hk : SndB X ek kk) :
    SndS1 X st (fun ρ => do
      let r ← ee ρ
      let y ← kk ρ
      match ρ[i]?, keyO y with
      | some (.obj (.d kvs)), some q => if kvs.length < LIM then some (.nx (ρ.set i (.dic (putP kvs q r.v)))) else none
      | _, _ => none) := by
  intro F0 B ρ σ F H o D R e k
  obtain ⟨r, e1, e⟩ := bind_some e
  obtain ⟨y, e2, e⟩ := bind_some e
  split at e
  · rename_i kvs q eo ek
    split at e
    · rename_i hz
      cases e
      refine wS_of hp (he.va R e1 fun v F1 H1 s1 dv => dic_rd O hn (R.step s1) eo fun a rr ea ha dd => ?_)
      refine hk F0 B ρ σ F1 H1 _ _ (R.step s1) e2 fun w F2 H2 s2 b2 => ?_
      have R2 := (R.step s1).step s2
      have d2 := dpKv_mono s2.f dd
      refine ⟨a, _, rfl, ?_, k σ F2 _ (R2.updO eo ea ⟨_, rfl, dpKv_put q (dp_mono s2.f dv) d2⟩) (s1.f.trans s2.f)⟩
      rw [key_of b2 ek]
      exact DPut.k (s2.h _ _ ha) (by rw [dpKv_len d2, sizeLine_eq]; unfold LIM at hz; omega)
    · cases e
  · cases e
/-- D, the dict that is being made -/
structure MkD (K : PySem.W.Frag) (F1 H1 F H : Hp) (D : Addr) (kvs : List (L2.Key × PV)) : Prop where
  s : Step F1 H1 F H
  n1 : H1 D = none
  nF : F D = none
  ex : ∃ r, H D = some (.dK r) ∧ DpKv K F r kvs
theorem MkD.init {K : PySem.W.Frag} {F1 H1 : Hp} {D : Addr} (le : Same F1 H1) (h : H1 D = none) : MkD K F1 H1 F1 (upd H1 D (.dK [])) D [] :=
  ⟨Step.lay le h, h, le.free h, [], upd_same, .nil⟩
theorem MkD.step {K : PySem.W.Frag} {F1 H1 F H F' H' : Hp} {D : Addr} {ds : List (L2.Key × PV)} (m : MkD K F1 H1 F H D ds) (s : Step F H F' H') : MkD K F1 H1 F' H' D ds := by
  obtain ⟨vs, e, d⟩ := m.ex
  exact ⟨m.s.trans s, m.n1, s.nw _ _ e m.nF, vs, s.h _ _ e, dpKv_mono s.f d⟩
theorem MkD.put {K : PySem.W.Frag} {F1 H1 F H : Hp} {D : Addr} {ds : List (L2.Key × PV)} {v : V} {d : PV} (m : MkD K F1 H1 F H D ds) (k : L2.Key) (dv : Dp K F v d) : ∃ acc, H D = some (.dK acc) ∧ acc.length = ds.length ∧ MkD K F1 H1 F (upd H D (.dK (putK acc k v))) D (putP ds k d) := by
  obtain ⟨vs, e, dd⟩ := m.ex
  refine ⟨vs, e, dpKv_len dd, ⟨⟨fun b x q => ?_, m.s.f, fun b x q => ?_, m.s.nw⟩, m.n1, m.nF, putK vs k v, upd_same, dpKv_put k dv dd⟩⟩
  · rw [upd_ne (ne_of_none q m.n1)]; exact m.s.h _ _ q
  · rw [upd_ne (ne_of_none q m.nF)]; exact m.s.le _ _ q
/-- a new dict -/
def SndD (K : PySem.W.Frag) (t : TE) (ev : En → Option (List (L2.Key × PV))) : Prop := ∀ (F0 B : Hp) (ρ : En) (σ : L2.St) (F H : Hp) (kvs : List (L2.Key × PV)) (Q : VK), Rel K F0 B ρ σ F H → ev ρ = some kvs →
  (∀ a r F' H', Step F H F' H' → H a = none → F' a = none → H' a = some (.dK r) → DpKv K F' r kvs → Q (.ref a) H') → t σ H Q
theorem dcL_step {f : PV → Option (Option (L2.Key × PV))} {xs : List PV} {kvs out : List (L2.Key × PV)} {i : Nat} (h : dcL f (xs.drop i) kvs = some out) : (xs.length ≤ i ∧ out = kvs) ∨ (∃ x, xs[i]? = some x ∧ ((f x = some none ∧ dcL f (xs.drop (i + 1)) kvs = some out) ∨ ∃ p, f x = some (some p) ∧ kvs.length < LIM ∧ dcL f (xs.drop (i + 1)) (putP kvs p.1 p.2) = some out)) := by
  by_cases hi : i < xs.length
  · rw [List.drop_eq_getElem_cons hi] at h
    obtain ⟨y, e1, h⟩ := bind_some h
    refine .inr ⟨xs[i], List.getElem?_eq_getElem hi, ?_⟩
    cases y with
    | none => exact .inl ⟨e1, h⟩
    | some p =>
      have h : (if kvs.length < LIM then dcL f (xs.drop (i + 1)) (putP kvs p.1 p.2) else none) = some out := h
      split at h
      · rename_i hz; exact .inr ⟨p, e1, hz, h⟩
      · cases h
  · rw [List.drop_eq_nil_of_le (by omega)] at h
    cases h
    exact .inl ⟨by omega, rfl⟩
theorem sq_dc {scope : Scope} {tg iter ek ev : Expr} {ifs : List Expr} {t : Tg} {sl : List Nat} {eI : En → Option (List PV)} {eF : En → Option Bool} {eK : En → Option PV} {eE : En → Option RV}
    (hI : SndI false X tg iter eI) (hG : AllB X scope fun Y => SndG Y tg t) (hF : AllB X scope fun Y => SndF Y ifs eF) (hK : AllB X scope fun Y => SndB Y ek eK) (hE : AllB X scope fun Y => Snd Y ev eE) (hsl : ∀ i ∈ t.slots, i ∈ sl) :
    SndD X.K (tDc (wI X tg iter) (bG X scope tg) (bT X scope ifs) (bE X scope ek) (bE X scope ev) sl) (fun ρ => do
      let xs ← eI ρ
      dcL (fun x => do
        let ρ1 ← asg t x (wipeS ρ sl)
        let k ← eF ρ1
        if k then do
          let y ← eK ρ1
          let z ← eE ρ1
          (keyO y).map fun q => some (q, z.v)
        else some none) xs []) := by
  intro F0 B ρ σ F H kvs Q R e q
  obtain ⟨xs, e1, e2⟩ := bind_some e
  generalize hf : (fun x => do
        let ρ1 ← asg t x (wipeS ρ sl)
        let k ← eF ρ1
        if k then do
          let y ← eK ρ1
          let z ← eE ρ1
          (keyO y).map fun q => some (q, z.v)
        else some none : PV → Option (Option (L2.Key × PV))) = f at e2
  refine hI F0 B ρ σ F H xs _ R e1 fun J F1 H1 s1 it hz D hD => ?_
  have it : ItOk X.K J xs F1 H1 := it
  refine ⟨fun i m H' => m = xs.length - i ∧ i ≤ xs.length ∧ ∃ F' ds, MkD X.K F1 H1 F' H' D ds ∧ dcL f (xs.drop i) ds = some kvs,
    ⟨_, rfl, Nat.zero_le _, F1, [], MkD.init s1.le hD, e2⟩, fun i m H2 ⟨em, hi, F2, ds, mk, ec⟩ => ?_⟩
  obtain ⟨itg, its⟩ := it i F2 H2 mk.s.f mk.s.h mk.s.le
  rcases dcL_step ec with ⟨hx, rfl⟩ | ⟨x, hx, hy⟩
  · obtain ⟨vs, h1, h2⟩ := mk.ex
    exact .inl ⟨its hx, q _ _ F2 H2 (s1.trans mk.s) (s1.h.free hD) mk.nF h1 h2⟩
  · obtain ⟨go, yl⟩ := itg x hx
    have hlt : i < xs.length := (List.getElem?_eq_some_iff.mp hx).1
    refine .inr ⟨go, fun H' => ∃ F' ds, MkD X.K F1 H1 F' H' D ds ∧ dcL f (xs.drop (i + 1)) ds = some kvs, fun H' h => ⟨xs.length - (i + 1), by omega, rfl, hlt, h⟩, fun u H3 hy3 => ?_⟩
    obtain ⟨F3, s3, du⟩ := yl u H3 hy3
    have mk3 := mk.step s3
    have R3 := ((R.step s1).step mk3.s).wipe sl
    have fx : ∃ o, f x = some o := by rcases hy with ⟨a, _⟩ | ⟨p, a, _⟩ <;> exact ⟨_, a⟩
    obtain ⟨o, fo⟩ := fx
    have fo' := fo
    rw [← hf] at fo'
    obtain ⟨ρ1, a1, fo'⟩ := bind_some fo'
    obtain ⟨k, ek', fo'⟩ := bind_some fo'
    intro s0 H0 D0 cl fp
    refine hG s0 H0 D0 cl fp F0 B _ _ F3 H3 u x ρ1 _ R3 du a1 fun σ2 R4 k2 => ?_
    refine ⟨?_, ?_⟩
    · rw [k2.wipe hsl]
      exact Keeps.wipe (sl := sl) ⟨wipe_length _ _, fun j hj => wipe_out hj⟩ fun i h => h
    · intro s0 H0 D0 cl fp
      refine hF s0 H0 D0 cl fp F0 B ρ1 σ2 F3 H3 k _ R4 ek' fun F5 H5 s5 => ?_
      have mk5 := mk3.step s5
      cases k with
      | false =>
        rw [if_neg Bool.false_ne_true] at fo' ⊢
        cases fo'
        rcases hy with ⟨_, h⟩ | ⟨p, h, _⟩
        · exact ⟨F5, ds, mk5, h⟩
        · rw [fo] at h; cases h
      | true =>
        rw [if_pos rfl] at fo' ⊢
        obtain ⟨y, ey, fo'⟩ := bind_some fo'
        obtain ⟨z, ez, fo'⟩ := bind_some fo'
        obtain ⟨kk, eo, fo'⟩ := Option.map_eq_some_iff.mp fo'
        subst fo'
        rcases hy with ⟨h, _⟩ | ⟨p, h, hz3, h2⟩
        · rw [fo] at h; cases h
        rw [fo] at h
        cases h
        intro s0 H0 D0 cl fp
        refine hK s0 H0 D0 cl fp F0 B ρ1 σ2 F5 H5 y _ (R4.step s5) ey fun w F6 H6 s6 bw => ?_
        intro s0 H0 D0 cl fp
        refine (hE s0 H0 D0 cl fp).va ((R4.step s5).step s6) ez fun v F7 H7 s7 dv => ?_
        obtain ⟨acc, h1, h3, m6⟩ := ((mk5.step s6).step s7).put kk dv
        exact ⟨acc, kk, key_of bw eo, h1, by rw [h3, sizeLine_eq]; unfold LIM at hz3; omega, F7, _, m6, h2⟩
/-- name = {k: v for ..} -/
theorem ss_dcm {i : Nat} {st : Stmt} {t : TE} {ev : En → Option (List (L2.Key × PV))} (hp : PS X st (tAsg t (gName i))) (q : SndD X.K t ev) : SndS1 X st (fun ρ => do let kvs ← ev ρ; some (.nx (ρ.set i (.dic kvs)))) := by
  intro F0 B ρ σ F H o D R e k
  obtain ⟨kvs, e1, e⟩ := bind_some e
  cases e
  refine wS_of hp (q F0 B ρ σ F H kvs _ R e1 fun a r F' H' s n1 n2 h1 h2 => ?_)
  refine k _ F' _ ((R.step s).setObj (i := i) (a := a) h1 n2 (R.go.h.free n1) ⟨r, rfl, h2⟩ fun j es b hj e1 e2 e3 => ?_) s.f
  subst e3
  obtain ⟨a', h, g1, g2, _⟩ := R.own j es e1
  rw [g1] at e2
  cases e2
  rw [n1] at g2; cases g2
/-- name, name = {k: v for ..}, e -/
theorem ss_dcm2 {i j : Nat} {ow : Bool} {st : Stmt} {t : TE} {b : Expr} {ev : En → Option (List (L2.Key × PV))} {eb : En → Option RV} (hp : PS X st (tPar i j (tCons t (tCons (wE X b) tNil)))) (q : SndD X.K t ev) (hb : Snd X b eb) : SndS1 X st (fun ρ => do
      let kvs ← ev ρ
      let r ← eb ρ
      let s ← slOf ow r
      some (.nx ((ρ.set i (.dic kvs)).set j s))) := by
  intro F0 B ρ σ F H o D R e k
  obtain ⟨kvs, e1, e⟩ := bind_some e
  obtain ⟨r2, e2, e⟩ := bind_some e
  obtain ⟨s2, e4, e⟩ := bind_some e
  cases e
  refine wS_of hp (q F0 B ρ σ F H kvs _ R e1 fun a r F1 H1 s n1 n2 h1 h2 => hb F0 B ρ σ F1 H1 r2 _ (R.step s) e2 fun w F2 H2 st2 rp2 => ⟨_, w, rfl, ?_⟩)
  have R2 := (R.step s).step st2
  have R3 := R2.setObj (i := i) (a := a) (ds := .d kvs) (st2.h _ _ h1) (st2.nw _ _ h1 n2) (R.go.h.free n1) ⟨r, rfl, dpKv_mono st2.f h2⟩ fun j es b hj e1 e2 e3 => by
    subst e3
    obtain ⟨a', h, g1, g2, _⟩ := R.own j es e1
    rw [g1] at e2
    cases e2
    rw [n1] at g2; cases g2
  have w1 : Was H1 (ρ.set i (.dic kvs)) (σ.set i (some (V.ref a))) := fun j es b' e1 e2 => by
    by_cases hi : i < ρ.length
    · rw [sl_get_set hi] at e1
      rw [st_get_set (by rw [← R.len]; exact hi)] at e2
      by_cases hj : j = i
      · rw [if_pos hj] at e1 e2
        cases e1; cases e2
        rw [h1]; exact fun h => by cases h
      · rw [if_neg hj] at e1 e2
        exact (R.was.up s.h) j es b' e1 e2
    · rw [List.set_eq_of_length_le (by omega)] at e1
      rw [List.set_eq_of_length_le (by rw [← R.len]; omega)] at e2
      exact (R.was.up s.h) j es b' e1 e2
  obtain ⟨F4, sm4, _, R4⟩ := R3.put (i := j) (R.go.h.trans s.h) w1 rp2 e4
  exact k _ F4 H2 R4 ((s.f.trans st2.f).trans sm4)
theorem ps_setDc {i : Nat} {y : Str} {py : Pos} {kx vx tg iter : Expr} {ifs : List Expr} {scope : Scope} {own : List (Str × Nat)} {pos spos : Pos} {wi : TI} {g : TG} {tt : TT} {tk tv : TE} (hc : X.calm = true) (hN : X.N.Nodup) (hy : X.N[i]? = some y) (hyl : X.env.scope.names.lookup y = some .local)
    (hsw : swapsWith (.DictComp kx vx [⟨tg, iter, ifs, 0⟩] scope pos) (some (.Name y py)) spos.line X.env = pure true) (hi : PI X tg iter wi) (ok : BlkOk X.N X.env.scope scope own)
    (hg : AllB X scope fun Y => PG Y tg g) (ht : AllB X scope fun Y => PTs Y ifs tt) (hk : AllB X scope fun Y => PE Y kx tk) (he : AllB X scope fun Y => PE Y vx tv) (hs : ∀ x, foldedSetIterable iter X.env x = pure x) :
    PS X (.Assign [.Name y py] (.DictComp kx vx [⟨tg, iter, ifs, 0⟩] scope pos) spos) (tAsg (tDc wi g tt tk tv (own.map (·.2))) (gName i)) := by
  refine ⟨fun pins s σ H D I h => ?_⟩
  rw [exec_Assign_Name_used _ _ _ _ hsw]
  refine wpAny_bind (wpAny_standAt (wpAny_bind ?_))
  show wpAny _ X.A (do let _ ← comprehension (.DictComp kx vx [⟨tg, iter, ifs, 0⟩] scope pos) scope X.env (firstIterPos [⟨tg, iter, ifs, 0⟩] pos) newDict false (eval iter X.env) (some (assign (.Name y py) X.env))) _ _ s
  have h : tDc wi g tt tk tv (own.map (·.2)) σ H (fun x H1 => gName i x σ H1 D.nx) := h
  refine wpAny_bind (thn (dc_core (Qf := fun _ s' => SP X pins D .next s') hc hN I hi ok hg ht hk he hs h fun L C s' m H' I' q hn f => ?_) fun _ s' hq => wpAny_pure (wpAny_pure hq))
  show wpAny _ _ (assign (.Name y py) X.env (.ref L)) _ _ _
  refine wpAny_assign_Name (store_ok2 (v := V.ref L) I' hN hy (.inl hyl) rfl (fun s2 I2 ⟨a, sb, ha⟩ => ?_) (.inr hyl))
  obtain ⟨f0, f1, f2, f3, f4, f5⟩ := f
  have haC : C ≠ a := by
    rcases ha with z | z
    · rw [z]; exact f1
    · exact fun e => f4 y a z e.symm
  refine ⟨m, hn.sameBut sb haC, fun h3 sb3 => ?_⟩
  exact ⟨_, H', I2.turned (t' := s2.toks) (fun b o hb e => (sb3.2 b hb).trans e) f0 f1 f3 f4 f5, q⟩
/-- raise: never reached -/
theorem ss_rse {st : Stmt} : SndS1 X st (fun _ => none) := by
  intro F0 B ρ σ F H o D R e k
  cases e
theorem ss_expr (O : Ok X ci C G) {e : Expr} {ee : En → Option RV} {st : Stmt} (hp : PS X st (tDrop (wE X e))) (he : Snd X e ee) : SndS1 X st (fun ρ => do let _ ← ee ρ; some (.nx ρ)) := by
  intro F0 B ρ σ F H o D R e k
  obtain ⟨r, e1, e⟩ := bind_some e
  cases e
  exact wS_of hp (he.va R e1 fun v F1 H1 s1 dv => k σ F1 H1 (R.step s1) s1.f)
theorem ss_ret (O : Ok X ci C G) {e : Expr} {ee : En → Option RV} {st : Stmt} (hp : PS X st (tRet (wE X e))) (he : Snd X e ee) : SndS1 X st (fun ρ => (ee ρ).map .rt) := by
  intro F0 B ρ σ F H o D R e k
  obtain ⟨r, e1, e⟩ := Option.map_eq_some_iff.mp e
  subst e
  exact wS_of hp (he F0 B ρ σ F H r _ R e1 fun v F1 H1 s1 rp => k v F1 H1 (R.go.trans s1) (rp.weak R.go.h))
theorem ss_retO (O : Ok X ci C G) {i : Nat} {x : Str} {p : Pos} {st : Stmt} (hn : isE ci (.var i) (.Name x p) = true) (hp : PS X st (tRet (wE X (.Name x p)))) : SndS1 X st (fun ρ => match ρ[i]? with
    | some (.obj (.l ds)) => some (.rt ⟨.list ds, true⟩)
    | _ => none) := by
  intro F0 B ρ σ F H o D R e k
  have e : (match ρ[i]? with | some (.obj (.l ds)) => some (.rt ⟨.list ds, true⟩) | _ => none : Option Out) = some o := e
  split at e
  · rename_i ds eo
    cases e
    refine wS_of hp (own_rd O hn R eo fun a vs ea ha dd => ?_)
    obtain ⟨a', vs', h1, h2, h3, h4, h5⟩ := R.ownL i ds eo
    rw [h1] at ea; cases ea
    exact k _ F H R.go (.new h4 h2 h3 h5)
  · cases e
theorem ss_retN {st : Stmt} (hp : PS X st tRetN) : SndS1 X st (fun _ => some (.rt ⟨.none, false⟩)) := by
  intro F0 B ρ σ F H o D R e k
  cases e
  exact wS_of hp (k _ F H R.go (.of .non))
theorem ss_ife {c : Expr} {a b : List Stmt} {xc : En → Option PV} {ea eb : En → Option Out} {pos : Pos} (hc : SndT X c xc) (ha : SndSs X a ea) (hb : SndSs X b eb) : SndS1 X (.If c a b pos) (fun ρ => do
      let k ← (do let x ← xc ρ; truth x : Option Bool)
      if k then ea ρ else eb ρ) := by
  intro F0 B ρ σ F H o D R e k
  obtain ⟨kk, e1, e⟩ := bind_some e
  obtain ⟨x, e1, t⟩ := bind_some e1
  refine wS_of (ps_if pt_w pss_w pss_w) (hc F0 B ρ σ F H x kk _ R e1 t fun F' H' s => ?_)
  cases kk with
  | true => rw [if_pos rfl] at e ⊢; exact ha F0 B ρ σ F' H' o D (R.step s) e (k.up s.f)
  | false => rw [if_neg Bool.false_ne_true] at e ⊢; exact hb F0 B ρ σ F' H' o D (R.step s) e (k.up s.f)
theorem loop_step {body : En → Option Out} {tg : Tg} {xs : List PV} {i : Nat} {ρ : En} {o : Out} (h : loopF body tg (xs.drop i) ρ = some o) : (xs.length ≤ i ∧ o = .nx ρ) ∨ (∃ x ρ1 o1, xs[i]? = some x ∧ asg tg x ρ = some ρ1 ∧ body ρ1 = some o1 ∧
    ((∃ ρ2, (o1 = .nx ρ2 ∨ o1 = .ct ρ2) ∧ loopF body tg (xs.drop (i + 1)) ρ2 = some o) ∨ (∃ ρ2, o1 = .bk ρ2 ∧ o = .nx ρ2) ∨ (∃ v, o1 = .rt v ∧ o = .rt v))) := by
  by_cases hi : i < xs.length
  · rw [List.drop_eq_getElem_cons hi] at h
    obtain ⟨ρ1, e1, h⟩ := bind_some h
    obtain ⟨o1, e2, h⟩ := bind_some h
    refine .inr ⟨xs[i], ρ1, o1, List.getElem?_eq_getElem hi, e1, e2, ?_⟩
    cases o1 with
    | nx ρ2 => exact .inl ⟨ρ2, .inl rfl, h⟩
    | ct ρ2 => exact .inl ⟨ρ2, .inr rfl, h⟩
    | bk ρ2 => exact .inr (.inl ⟨ρ2, rfl, (Option.some.inj h).symm⟩)
    | rt v => exact .inr (.inr ⟨v, rfl, (Option.some.inj h).symm⟩)
  · rw [List.drop_eq_nil_of_le (by omega)] at h
    cases h
    exact .inl ⟨by omega, rfl⟩
theorem ss_for {tg iter : Expr} {t : Tg} {sb : List Stmt} {eI : En → Option (List PV)} {body : En → Option Out} {st : Stmt} (hp : PS X st (tFor (wI X tg iter) (wG X tg) (wSs X sb))) (hI : SndI true X tg iter eI) (hG : SndG X tg t) (hb : SndSs X sb body) :
    SndS1 X st (fun ρ => do let xs ← eI ρ; loopF body t xs ρ) := by
  intro F0 B ρ σ F H o D R e k
  obtain ⟨xs, e1, e⟩ := bind_some e
  refine wS_of hp (hI F0 B ρ σ F H xs _ R e1 fun J F1 H1 s1 it hz => ?_)
  have it : ItOk X.K J xs F1 F1 := it
  refine ⟨fun i m σ' H' => m = xs.length - i ∧ i ≤ xs.length ∧ ∃ ρ' F', Rel X.K F0 B ρ' σ' F' H' ∧ Same F1 F' ∧ loopF body t (xs.drop i) ρ' = some o,
    ⟨_, rfl, Nat.zero_le _, ρ, F1, R.step s1, Same.refl _, e⟩, fun i m σ2 H2 ⟨em, hi, ρ2, F2, R2, sf, el⟩ => ?_⟩
  obtain ⟨itg, its⟩ := it i F2 H2 sf (sf.trans R2.le) R2.le
  rcases loop_step el with ⟨hx, rfl⟩ | ⟨x, ρ3, o3, hx, ha, hbd, rest⟩
  · exact .inl ⟨its hx, k σ2 F2 H2 R2 (s1.f.trans sf)⟩
  · obtain ⟨go, yl⟩ := itg x hx
    have hlt : i < xs.length := (List.getElem?_eq_some_iff.mp hx).1
    refine .inr ⟨go, fun σ' H' => ∃ ρ' F', Rel X.K F0 B ρ' σ' F' H' ∧ Same F1 F' ∧ loopF body t (xs.drop (i + 1)) ρ' = some o, fun σ' H' h => ⟨xs.length - (i + 1), by omega, rfl, hlt, h⟩, fun u H3 hy3 => ?_⟩
    obtain ⟨F3, s3, du⟩ := yl u H3 hy3
    refine hG F0 B ρ2 σ2 F3 H3 u x ρ3 _ (R2.step s3) du ha fun σ4 R4 _ => ?_
    have sf3 := sf.trans s3.f
    refine hb F0 B ρ3 σ4 F3 H3 o3 _ R4 hbd ?_
    rcases rest with ⟨ρ5, he, hl⟩ | ⟨ρ5, rfl, rfl⟩ | ⟨v, rfl, rfl⟩
    · rcases he with rfl | rfl
      · exact fun σ' F' H' R' q => ⟨ρ5, F', R', sf3.trans q, hl⟩
      · exact fun σ' F' H' R' q => ⟨ρ5, F', R', sf3.trans q, hl⟩
    · exact fun σ' F' H' R' q => k σ' F' H' R' ((s1.f.trans sf3).trans q)
    · exact k
theorem ss_while {c : Expr} {sb : List Stmt} {n : Nat} {xc : En → Option PV} {body : En → Option Out} {st : Stmt} (hp : PS X st (tWhile (wT X c) (wSs X sb))) (hc : SndT X c xc) (hb : SndSs X sb body) :
    SndS1 X st (fun ρ => loopW (fun ρ => do let x ← xc ρ; truth x) body n ρ) := by
  intro F0 B ρ σ F H o D R e k
  refine wS_of hp ⟨fun m σ' H' => ∃ ρ' F', Rel X.K F0 B ρ' σ' F' H' ∧ Same F F' ∧ loopW (fun ρ => do let x ← xc ρ; truth x) body m ρ' = some o, ⟨n, ρ, F, R, Same.refl _, e⟩, fun m σ2 H2 ⟨ρ2, F2, R2, sf, el⟩ => ?_⟩
  cases m with
  | zero => cases el
  | succ m =>
    obtain ⟨kk, e1, el⟩ := bind_some el
    obtain ⟨x, e1, t⟩ := bind_some e1
    refine hc F0 B ρ2 σ2 F2 H2 x kk _ R2 e1 t fun F3 H3 s3 => ?_
    cases kk with
    | false =>
      rw [if_neg Bool.false_ne_true] at el ⊢
      cases el
      exact k σ2 F3 H3 (R2.step s3) (sf.trans s3.f)
    | true =>
      rw [if_pos rfl] at el ⊢
      obtain ⟨o3, e3, el⟩ := bind_some el
      refine ⟨fun σ' H' => ∃ ρ' F', Rel X.K F0 B ρ' σ' F' H' ∧ Same F F' ∧ loopW (fun ρ => do let x ← xc ρ; truth x) body m ρ' = some o, fun σ' H' h => ⟨m, Nat.lt_succ_self _, h⟩, ?_⟩
      have sf3 := sf.trans s3.f
      refine hb F0 B ρ2 σ2 F3 H3 o3 _ (R2.step s3) e3 ?_
      cases o3 with
      | nx ρ5 => exact fun σ' F' H' R' q => ⟨ρ5, F', R', sf3.trans q, el⟩
      | ct ρ5 => exact fun σ' F' H' R' q => ⟨ρ5, F', R', sf3.trans q, el⟩
      | bk ρ5 => cases el; exact fun σ' F' H' R' q => k σ' F' H' R' (sf3.trans q)
      | rt v => cases el; exact k
end
end Pz
set_option Elab.async false
set_option linter.all false
set_option maxRecDepth 100000
set_option maxHeartbeats 2000000
/-! Pz: the whole of a def's statements. -/
namespace Pz
open PySem PySem.Spec PyProof.Rows L2
section
variable {X : Cx} {ci : CI} {C : Str → List PV → Option RV} {G : Str → Option PV}
theorem swaps_false {e : Expr} {t : Option Expr} {l : Nat} {env : Env} (h : noComp e = true) : swapsWith e t l env = pure false := by
  cases e <;> first | rfl | cases h
theorem swaps_sole {e t : Expr} {l : Nat} {env : Env} (h : noComp e = true) : swapsWithSole [t] e l env = pure false := swaps_false h
theorem block_fn (O : Ok X ci C G) : X.env.blockKind = .function := by
  unfold Env.blockKind
  rw [O.fk]; rfl
theorem swaps_true (O : Ok X ci C G) {x : Str} {py pos : Pos} {elt : Expr} {gs : List Comprehension} {scope : Scope} {l : Nat} (h : swpC ci x py (.ListComp elt gs scope pos) = true) :
    swapsWith (.ListComp elt gs scope pos) (some (.Name x py)) l X.env = pure true ∧ X.env.scope.names.lookup x = some .local := by
  have h : (decide (ci.sc.names.lookup x = some .local) && (py.line == pos.line) && !(scope.names.any fun (n, k) => n == x && (k == .local || k == .cell))) = true := h
  rw [Bool.and_eq_true, Bool.and_eq_true, decide_eq_true_eq] at h
  obtain ⟨⟨h1, h2⟩, h3⟩ := h
  have h1 : X.env.scope.names.lookup x = some .local := by rw [O.sc]; exact h1
  refine ⟨?_, h1⟩
  show (pure (X.env.blockKind == .function && X.env.kindOf x == some .local && py.line == pos.line && !(scope.names.any fun (n, k) => n == x && (k == .local || k == .cell))) : Sem Bool) = pure true
  have e1 : (X.env.blockKind == .function) = true := by rw [block_fn O]; rfl
  have e2 : (X.env.kindOf x == some .local) = true := by unfold Env.kindOf; rw [h1]; rfl
  rw [e1, e2, h2, h3]; rfl
theorem swaps_trueD (O : Ok X ci C G) {x : Str} {py pos : Pos} {ek ev : Expr} {gs : List Comprehension} {scope : Scope} {l : Nat} (h : swpD ci x py (.DictComp ek ev gs scope pos) = true) :
    swapsWith (.DictComp ek ev gs scope pos) (some (.Name x py)) l X.env = pure true ∧ X.env.scope.names.lookup x = some .local := by
  have h : (decide (ci.sc.names.lookup x = some .local) && (py.line == pos.line) && !(scope.names.any fun (n, k) => n == x && (k == .local || k == .cell))) = true := h
  rw [Bool.and_eq_true, Bool.and_eq_true, decide_eq_true_eq] at h
  obtain ⟨⟨h1, h2⟩, h3⟩ := h
  have h1 : X.env.scope.names.lookup x = some .local := by rw [O.sc]; exact h1
  refine ⟨?_, h1⟩
  show (pure (X.env.blockKind == .function && X.env.kindOf x == some .local && py.line == pos.line && !(scope.names.any fun (n, k) => n == x && (k == .local || k == .cell))) : Sem Bool) = pure true
  have e1 : (X.env.blockKind == .function) = true := by rw [block_fn O]; rfl
  have e2 : (X.env.kindOf x == some .local) = true := by unfold Env.kindOf; rw [h1]; rfl
  rw [e1, e2, h2, h3]; rfl
theorem swapped_none {t e : Expr} (h : noPar e = true) (env : Env) : swappedStores [t] e env = pure none := by
  unfold swappedStores
  split
  · rename_i ts vs hm
    have hv : vs.all (foldedForSure 8) = true := by
      split at hm
      · cases hm; exact h
      · cases hm; exact h
      · cases hm
    split
    · rfl
    · split
      · rfl
      · dsimp only
        split
        · rfl
        · rfl
  · rfl
theorem star_no {a : Expr} (h : noStar a = true) : (match (generalizing := false) a with | .Starred .. => true | _ => false) = false := by
  cases a <;> first | rfl | cases h
theorem swapped_two (O : Ok X ci C G) {x y : Str} {px py pt pt2 : Pos} {k k2} {a b : Expr} (hx : X.env.scope.names.lookup x = some .local) (hy : X.env.scope.names.lookup y = some .local) (hne : x ≠ y) (ha : noStar a = true) (hb : noStar b = true) (h : parB [.Name x px, .Name y py] [a, b] = true) :
    swappedStores [.Tuple [.Name x px, .Name y py] k pt] (.Tuple [a, b] k2 pt2) X.env = pure (some [x, y]) := by
  unfold parB at h
  simp only [Bool.and_eq_true, Bool.not_eq_true'] at h
  obtain ⟨⟨h2, h3⟩, h4⟩ := h
  simp only [List.all_cons, List.all_nil, Bool.and_true, Bool.and_eq_true] at h4
  have l2 : (py.line == px.line) = true := h4.2
  have bk := block_fn O
  have e1 : (X.env.blockKind != .function) = false := by rw [bk]; rfl
  have kx : X.env.kindOf x = some .local := hx
  have ky : X.env.kindOf y = some .local := hy
  have l1 : (px.line == px.line) = true := by simp
  have b1 : (X.env.kindOf x == some .local && px.line == px.line) = true := by rw [kx, l1]; rfl
  have b2 : (X.env.kindOf y == some .local && py.line == px.line) = true := by rw [ky, l2]; rfl
  unfold swappedStores
  dsimp only [Expr.pos, List.head?, Option.map, Option.getD]
  rw [e1, h2, h3]
  refine (if_neg (by simp)).trans ?_
  refine (if_neg ?_).trans ?_
  · show ¬ ((match (generalizing := false) a with | .Starred .. => true | _ => false) || ((match (generalizing := false) b with | .Starred .. => true | _ => false) || false)) = true
    rw [star_no ha, star_no hb]; decide
  simp only [List.filterMap, b1, b2, if_true]
  simp [List.eraseDups_cons, hne, Ne.symm hne]
theorem swapped_three (O : Ok X ci C G) {x y z : Str} {px py pz pt pt2 : Pos} {k k2} {a b c : Expr} (hx : X.env.scope.names.lookup x = some .local) (hy : X.env.scope.names.lookup y = some .local) (hz : X.env.scope.names.lookup z = some .local) (hne : x ≠ y) (hne2 : x ≠ z) (hne3 : y ≠ z)
    (ha : noStar a = true) (hb : noStar b = true) (hc : noStar c = true) (h : parB [.Name x px, .Name y py, .Name z pz] [a, b, c] = true) :
    swappedStores [.Tuple [.Name x px, .Name y py, .Name z pz] k pt] (.Tuple [a, b, c] k2 pt2) X.env = pure (some [x, y, z]) := by
  unfold parB at h
  simp only [Bool.and_eq_true, Bool.not_eq_true'] at h
  obtain ⟨⟨h2, h3⟩, h4⟩ := h
  simp only [List.all_cons, List.all_nil, Bool.and_true, Bool.and_eq_true] at h4
  have l2 : (py.line == px.line) = true := h4.2.1
  have l3 : (pz.line == px.line) = true := h4.2.2
  have bk := block_fn O
  have e1 : (X.env.blockKind != .function) = false := by rw [bk]; rfl
  have kx : X.env.kindOf x = some .local := hx
  have ky : X.env.kindOf y = some .local := hy
  have kz : X.env.kindOf z = some .local := hz
  have l1 : (px.line == px.line) = true := by simp
  have b1 : (X.env.kindOf x == some .local && px.line == px.line) = true := by rw [kx, l1]; rfl
  have b2 : (X.env.kindOf y == some .local && py.line == px.line) = true := by rw [ky, l2]; rfl
  have b3 : (X.env.kindOf z == some .local && pz.line == px.line) = true := by rw [kz, l3]; rfl
  unfold swappedStores
  dsimp only [Expr.pos, List.head?, Option.map, Option.getD]
  rw [e1, h2, h3]
  refine (if_neg (by simp)).trans ?_
  refine (if_neg ?_).trans ?_
  · show ¬ ((match (generalizing := false) a with | .Starred .. => true | _ => false) || ((match (generalizing := false) b with | .Starred .. => true | _ => false) || ((match (generalizing := false) c with | .Starred .. => true | _ => false) || false))) = true
    rw [star_no ha, star_no hb, star_no hc]; decide
  simp only [List.filterMap, b1, b2, b3, if_true]
  simp [List.eraseDups_cons, hne, Ne.symm hne, hne2, Ne.symm hne2, hne3, Ne.symm hne3]
theorem swaps_cell (O : Ok X ci C G) {x : Str} {py : Pos} {e : Expr} {l : Nat} (h : X.env.scope.names.lookup x = some .cell) : swapsWith e (some (.Name x py)) l X.env = pure false := by
  have e2 : (X.env.kindOf x == some .local) = false := by unfold Env.kindOf; rw [h]; rfl
  unfold swapsWith
  split
  · show (pure _ : Sem Bool) = pure false
    rw [e2, Bool.and_false, Bool.false_and, Bool.false_and]
  · rfl
theorem swapped_cell2 (O : Ok X ci C G) {x y : Str} {px py pt pt2 : Pos} {k k2} {a b : Expr} (h : X.env.scope.names.lookup x = some .cell ∨ X.env.scope.names.lookup y = some .cell) :
    swappedStores [.Tuple [.Name x px, .Name y py] k pt] (.Tuple [a, b] k2 pt2) X.env = pure none := by
  unfold swappedStores
  dsimp only [Expr.pos, List.head?, Option.map, Option.getD]
  split
  · rfl
  · split
    · rfl
    · refine (if_pos ?_).trans rfl
      rcases h with h | h
      · have e2 : (X.env.kindOf x == some .local) = false := by unfold Env.kindOf; rw [h]; rfl
        simp only [List.filterMap, e2, Bool.false_and]
        generalize (X.env.kindOf y == some NameKind.local && py.line == px.line) = c1
        cases c1 <;> simp
      · have e2 : (X.env.kindOf y == some .local) = false := by unfold Env.kindOf; rw [h]; rfl
        simp only [List.filterMap, e2, Bool.false_and]
        generalize (X.env.kindOf x == some NameKind.local && px.line == px.line) = c1
        cases c1 <;> simp
theorem swapped_cell3 (O : Ok X ci C G) {x y z : Str} {px py pz pt pt2 : Pos} {k k2} {a b c : Expr} (h : X.env.scope.names.lookup x = some .cell ∨ X.env.scope.names.lookup y = some .cell ∨ X.env.scope.names.lookup z = some .cell) :
    swappedStores [.Tuple [.Name x px, .Name y py, .Name z pz] k pt] (.Tuple [a, b, c] k2 pt2) X.env = pure none := by
  unfold swappedStores
  dsimp only [Expr.pos, List.head?, Option.map, Option.getD]
  split
  · rfl
  · split
    · rfl
    · refine (if_pos ?_).trans rfl
      rcases h with h | h | h
      · have e2 : (X.env.kindOf x == some .local) = false := by unfold Env.kindOf; rw [h]; rfl
        simp only [List.filterMap, e2, Bool.false_and]
        generalize (X.env.kindOf y == some NameKind.local && py.line == px.line) = c1
        generalize (X.env.kindOf z == some NameKind.local && pz.line == px.line) = c2
        cases c1 <;> cases c2 <;> simp
      · have e2 : (X.env.kindOf y == some .local) = false := by unfold Env.kindOf; rw [h]; rfl
        simp only [List.filterMap, e2, Bool.false_and]
        generalize (X.env.kindOf x == some NameKind.local && px.line == px.line) = c1
        generalize (X.env.kindOf z == some NameKind.local && pz.line == px.line) = c2
        cases c1 <;> cases c2 <;> simp
      · have e2 : (X.env.kindOf z == some .local) = false := by unfold Env.kindOf; rw [h]; rfl
        simp only [List.filterMap, e2, Bool.false_and]
        generalize (X.env.kindOf y == some NameKind.local && py.line == px.line) = c1
        generalize (X.env.kindOf x == some NameKind.local && px.line == px.line) = c2
        cases c1 <;> cases c2 <;> simp
end
end Pz
set_option Elab.async false
set_option linter.all false
set_option maxRecDepth 100000
set_option maxHeartbeats 4000000
/-! Pz: the whole of a def's statements. -/
namespace Pz
open PySem PySem.Spec PyProof.Rows L2
section
variable {X : Cx} {ci : CI} {C : Str → List PV → Option RV} {G : Str → Option PV}
theorem nm_b (O : Ok X ci C G) {i : Nat} {x : Str} (h : nmB ci i x = true) : X.N[i]? = some x ∧ L2.Loc X.env.scope x ∧ (X.fn x = true ∨ X.env.scope.names.lookup x = some .local) := by
  unfold nmB at h
  rw [Bool.and_eq_true, Bool.and_eq_true, decide_eq_true_eq] at h
  exact ⟨nm_of O h.1.1, loc_of O h.1.2, O.st _ h.2⟩
theorem lcl_b (O : Ok X ci C G) {i : Nat} {x : Str} (h : lclB ci i x = true) : X.N[i]? = some x ∧ X.env.scope.names.lookup x = some .local := by
  unfold lclB at h
  rw [Bool.and_eq_true, decide_eq_true_eq, decide_eq_true_eq] at h
  exact ⟨nm_of O h.1, by rw [O.sc]; exact h.2⟩
theorem nm_ne {N : List Str} {i j : Nat} {x y : Str} (nd : N.Nodup) (h1 : N[i]? = some x) (h2 : N[j]? = some y) (h : (i == j) = false) : x ≠ y := by
  intro e
  subst e
  obtain ⟨a, b⟩ := List.getElem?_eq_some_iff.mp h1
  obtain ⟨c, d⟩ := List.getElem?_eq_some_iff.mp h2
  have e : i = j := (List.getElem?_inj a nd).mp (h1.trans h2.symm)
  simp [e] at h
theorem stores_no {e : Expr} {env : Env} (h : noStar e = true) : (assignEach [e] env).map (·.2) = [assign e env] := by
  cases e <;> first | rfl | cases h
theorem sub_as {o i : Expr} {pos : Pos} {env : Env} (h : plainIx i = true) : ∀ v, assign (.Subscript o i pos) env v = (do
      let ov ← holding [v] (eval o env)
      let iv ← holding [v, ov] (eval i env)
      standAt pos
      holding [v, ov, iv] (setItem ov iv v)
      release [v, ov, iv] []) := by
  intro v
  cases i <;> first | rfl | cases h
theorem aug_st {i : Expr} (h : plainIx i = true) : ∀ ov iv new, augStore i ov iv new = (do holding [new, ov, iv] (setItem ov iv new); release [new, ov, iv] []; pure .next) := by
  intro ov iv new
  cases i <;> first | rfl | cases h
/-- {k: v for ..}: its plan -/
theorem dc_of (O : Ok X ci C G) {k v : Tx} {tg : Tg} {it : Ti} {ifs : Txs} {own : List (Str × Nat)} {ek ev et ei : Expr} {efs : List Expr} {scope : Scope} {pos : Pos}
    (h : isDc ci k v tg it ifs own (.DictComp ek ev [⟨et, ei, efs, 0⟩] scope pos) = true) : BlkOk X.N X.env.scope scope own ∧ noSet ei = true ∧
    SndD X.K (tDc (wI X et ei) (bG X scope et) (bT X scope efs) (bE X scope ek) (bE X scope ev) (own.map (·.2))) (evDc C G k v tg it ifs own) := by
  have h : (blkB ci scope own && tg.slots.all (fun i => (own.map (·.2)).contains i) && noSet ei && isI ci it ei (isTup et) && isG (blkCI ci scope) tg et && tsts ifs && isA (blkCI ci scope) ifs efs && isE (blkCI ci scope) k ek && isE (blkCI ci scope) v ev) = true := h
  simp only [Bool.and_eq_true] at h
  obtain ⟨⟨⟨⟨⟨⟨⟨⟨h1, h2⟩, h3⟩, h4⟩, h5⟩, h6⟩, h7⟩, h8⟩, h9⟩ := h
  have OB := ok_blk O h1
  refine ⟨blk_ok O h1, h3, sq_dc (gI it O h4) (fun s H D cl fp => snd_g (OB s H D cl fp) h5) (fun s H D cl fp => (gA ifs (OB s H D cl fp) h7).f h6) (fun s H D cl fp => (gE k (OB s H D cl fp) h8).b) (fun s H D cl fp => (gE v (OB s H D cl fp) h9).ev) fun i hi => ?_⟩
  rw [List.all_eq_true] at h2
  simpa using h2 i hi
theorem isDc_sh {k v : Tx} {tg : Tg} {it : Ti} {ifs : Txs} {own : List (Str × Nat)} {e : Expr} (h : isDc ci k v tg it ifs own e = true) : ∃ ek ev et ei efs scope pos, e = .DictComp ek ev [⟨et, ei, efs, 0⟩] scope pos := by
  unfold isDc at h
  split at h
  · exact ⟨_, _, _, _, _, _, _, rfl⟩
  · cases h
mutual
theorem gS (hp : PassesOwn (model X.prog X.w) X.A X.env X.xe) (O : Ok X ci C G) : ∀ (t : Ts) {st : Stmt}, isS ci t st = true → SndS1 X st (evS C G t)
  | .set i ow e, st, h => by
    have h : (match (generalizing := false) st with | .Assign [.Name x py] ee _ => nmB ci i x && isE ci e ee && (noComp ee || celB ci x || swpC ci x py ee) | _ => false) = true := h
    split at h
    · rename_i x py ee pos _
      rw [Bool.and_eq_true, Bool.and_eq_true] at h
      obtain ⟨⟨h1, h2⟩, h3⟩ := h
      obtain ⟨n1, n2, n3⟩ := nm_b O h1
      cases hc : noComp ee with
      | true => exact ss_set O (ps_set O.nd n1 n2 pe_w (swaps_false hc) n3) (gE e O h2).ev
      | false =>
        rw [hc, Bool.false_or, Bool.or_eq_true] at h3
        rcases h3 with h3 | h3
        · exact ss_set O (ps_set O.nd n1 n2 pe_w (swaps_cell O (by rw [O.sc]; exact of_decide_eq_true h3)) n3) (gE e O h2).ev
        have h2' := h2
        cases e with
        | comp elt tg it ifs own =>
          have h : (match (generalizing := false) ee with | .ListComp ee [⟨et, ei, efs, 0⟩] scope _ => blkB ci scope own && tg.slots.all (fun i => (own.map (·.2)).contains i) && noSet ei && isI ci it ei (isTup et) && isG (blkCI ci scope) tg et && tsts ifs && isA (blkCI ci scope) ifs efs && isE (blkCI ci scope) elt ee | _ => false) = true := h2
          split at h
          · obtain ⟨sw, lx⟩ := swaps_true O (l := pos.line) h3
            simp only [Bool.and_eq_true] at h
            obtain ⟨⟨⟨⟨⟨⟨⟨h1, h2⟩, h3⟩, h4⟩, h5⟩, h6⟩, h7⟩, h8⟩ := h
            have OB := ok_blk O h1
            refine ss_set O (ps_setLc O.calm O.nd n1 lx sw pi_w (blk_ok O h1) (fun s H D cl fp => pg_b s H D cl fp) (fun s H D cl fp => pts_b s H D cl fp) (fun s H D cl fp => pe_b s H D cl fp) (fun x => set_of h3))
              (sq_lc (gI it O h4) (fun s H D cl fp => snd_g (OB s H D cl fp) h5) (fun s H D cl fp => (gA ifs (OB s H D cl fp) h7).f h6) (fun s H D cl fp => (gE elt (OB s H D cl fp) h8).ev) fun i hi => ?_)
            rw [List.all_eq_true] at h2
            simpa using h2 i hi
          · cases h
        | comp2 elt tg it ifs tg1 it1 ifs1 own own1 =>
          have h : (match (generalizing := false) ee with | .ListComp ee [⟨et, ei, efs, 0⟩, ⟨et1, ei1, efs1, 0⟩] scope _ => blkB ci scope own && noSet ei && noSet ei1 && own1.all (fun i => (own.map (·.2)).contains i) && tg.slots.all (fun i => (own.map (·.2)).contains i) && tg1.slots.all own1.contains && isI ci it ei (isTup et) && isG (blkCI ci scope) tg et && tsts ifs && isA (blkCI ci scope) ifs efs && isI (blkCI ci scope) it1 ei1 (isTup et1) && isG (blkCI ci scope) tg1 et1 && tsts ifs1 && isA (blkCI ci scope) ifs1 efs1 && isE (blkCI ci scope) elt ee | _ => false) = true := h2
          split at h
          · obtain ⟨sw, lx⟩ := swaps_true O (l := pos.line) h3
            simp only [Bool.and_eq_true] at h
            obtain ⟨⟨⟨⟨⟨⟨⟨⟨⟨⟨⟨⟨⟨⟨h1, h2⟩, h3⟩, h4⟩, h5⟩, h6⟩, h7⟩, h8⟩, h9⟩, h10⟩, h11⟩, h12⟩, h13⟩, h14⟩, h15⟩ := h
            have OB := ok_blk O h1
            rw [List.all_eq_true] at h4 h5 h6
            exact ss_set O (ps_setLc2 O.calm O.nd n1 lx sw pi_w (blk_ok O h1) (fun i hi => by simpa using h4 i hi) (fun s H D cl fp => pg_b s H D cl fp) (fun s H D cl fp => pts_b s H D cl fp) (fun s H D cl fp => pi_b s H D cl fp) (fun s H D cl fp => pg_b s H D cl fp) (fun s H D cl fp => pts_b s H D cl fp) (fun s H D cl fp => pe_b s H D cl fp) (fun x => set_of h2) (fun env x => set_of h3))
              (sq_lc2 (gI it O h7) (fun s H D cl fp => snd_g (OB s H D cl fp) h8) (fun s H D cl fp => (gA ifs (OB s H D cl fp) h10).f h9) (fun s H D cl fp => gI it1 (OB s H D cl fp) h11) (fun s H D cl fp => snd_g (OB s H D cl fp) h12) (fun s H D cl fp => (gA ifs1 (OB s H D cl fp) h14).f h13) (fun s H D cl fp => (gE elt (OB s H D cl fp) h15).ev)
                (fun i hi => by simpa using h5 i hi) fun i hi => by simpa using h6 i hi)
          · cases h
        | _ =>
          exfalso
          cases ee with
          | ListComp _ _ _ _ => cases h2'
          | _ => cases h3
    · cases h
  | .asg tg e, st, h => by
    have h : (match (generalizing := false) st with | .Assign [et] ee _ => tgNo et && isG ci tg et && noStar et && isE ci e ee && noComp ee && noPar ee | _ => false) = true := h
    split at h
    · simp only [Bool.and_eq_true] at h
      obtain ⟨⟨⟨⟨⟨h1, h2⟩, h3⟩, h4⟩, h5⟩, h6⟩ := h
      exact ss_asg O (ps_asg pe_w pg_w (swaps_sole h5) (swapped_none h6 _) (stores_no h3)) (gE e O h4).ev (snd_g O h2)
    · cases h
  | .par i j o1 o2 a b, st, h => by
    have h : (match (generalizing := false) st with | .Assign [.Tuple [.Name x px, .Name y py] kt pt] (.Tuple [ea, eb] k2 pt2) _ => noStar ea && noStar eb && ((lclB ci i x && lclB ci j y && !(i == j) && parB [.Name x px, .Name y py] [ea, eb]) || (nmB ci i x && nmB ci j y && (celB ci x || celB ci y))) && isE ci a ea && isE ci b eb | _ => false) = true := h
    split at h
    · obtain ⟨h, h8⟩ := Bool.and_eq_true_iff.mp h
      obtain ⟨h, h7⟩ := Bool.and_eq_true_iff.mp h
      obtain ⟨h, hh⟩ := Bool.and_eq_true_iff.mp h
      obtain ⟨h4, h5⟩ := Bool.and_eq_true_iff.mp h
      have hh := Bool.or_eq_true_iff.mp hh
      rcases hh with hh | hh
      rotate_left
      · simp only [Bool.and_eq_true, Bool.or_eq_true] at hh
        obtain ⟨⟨h1, h2⟩, h3⟩ := hh
        obtain ⟨n1, l1, f1⟩ := nm_b O h1
        obtain ⟨n2, l2, f2⟩ := nm_b O h2
        exact ss_parT O (ps_asg (pe_tup (pa_cons pe_w (pa_cons pe_w pa_nil (star_of h5)) (star_of h4))) (pg_tup O.calm (pgs_cons (pg_name O.nd n1 l1 f1) (pgs_cons (pg_name O.nd n2 l2 f2) pgs_nil))) rfl
          (swapped_cell2 O (h3.imp (fun q => by rw [O.sc]; exact of_decide_eq_true q) fun q => by rw [O.sc]; exact of_decide_eq_true q)) rfl) (gE a O h7).ev (gE b O h8).ev
      simp only [Bool.and_eq_true, Bool.not_eq_true'] at hh
      obtain ⟨⟨⟨h1, h2⟩, h3⟩, h6⟩ := hh
      obtain ⟨n1, l1⟩ := lcl_b O h1
      obtain ⟨n2, l2⟩ := lcl_b O h2
      exact ss_par O (ps_par O.calm O.nd n1 n2 (by simpa using h3) l1 l2 (pa_cons pe_w (pa_cons pe_w pa_nil (star_of h5)) (star_of h4)) (swapped_two O l1 l2 (nm_ne O.nd n1 n2 h3) h4 h5 h6)) rfl (gE a O h7).ev (gE b O h8).ev
    · cases h
  | .par3 i j l o1 o2 o3 a b c, st, h => by
    have h : (match (generalizing := false) st with | .Assign [.Tuple [.Name x px, .Name y py, .Name z pz] kt pt] (.Tuple [ea, eb, ec] k2 pt2) _ => noStar ea && noStar eb && noStar ec && ((lclB ci i x && lclB ci j y && lclB ci l z && !(i == j) && !(i == l) && !(j == l) && parB [.Name x px, .Name y py, .Name z pz] [ea, eb, ec]) || (nmB ci i x && nmB ci j y && nmB ci l z && (celB ci x || celB ci y || celB ci z))) && isE ci a ea && isE ci b eb && isE ci c ec | _ => false) = true := h
    split at h
    · obtain ⟨h, h13⟩ := Bool.and_eq_true_iff.mp h
      obtain ⟨h, h12⟩ := Bool.and_eq_true_iff.mp h
      obtain ⟨h, h11⟩ := Bool.and_eq_true_iff.mp h
      obtain ⟨h, hh⟩ := Bool.and_eq_true_iff.mp h
      obtain ⟨h, h9⟩ := Bool.and_eq_true_iff.mp h
      obtain ⟨h7, h8⟩ := Bool.and_eq_true_iff.mp h
      have hh := Bool.or_eq_true_iff.mp hh
      rcases hh with hh | hh
      rotate_left
      · simp only [Bool.and_eq_true, Bool.or_eq_true] at hh
        obtain ⟨⟨⟨h1, h2⟩, h3⟩, h4⟩ := hh
        obtain ⟨n1, l1, f1⟩ := nm_b O h1
        obtain ⟨n2, l2, f2⟩ := nm_b O h2
        obtain ⟨n3, l3, f3⟩ := nm_b O h3
        have hc : ∀ {x : Str}, celB ci x = true → X.env.scope.names.lookup x = some .cell := fun q => by rw [O.sc]; exact of_decide_eq_true q
        exact ss_par3T O (ps_asg (pe_tup (pa_cons pe_w (pa_cons pe_w (pa_cons pe_w pa_nil (star_of h9)) (star_of h8)) (star_of h7))) (pg_tup O.calm (pgs_cons (pg_name O.nd n1 l1 f1) (pgs_cons (pg_name O.nd n2 l2 f2) (pgs_cons (pg_name O.nd n3 l3 f3) pgs_nil)))) rfl
          (swapped_cell3 O (h4.elim (fun q => q.elim (fun q => .inl (hc q)) fun q => .inr (.inl (hc q))) fun q => .inr (.inr (hc q)))) rfl) (gE a O h11).ev (gE b O h12).ev (gE c O h13).ev
      simp only [Bool.and_eq_true, Bool.not_eq_true'] at hh
      obtain ⟨⟨⟨⟨⟨⟨h1, h2⟩, h3⟩, h4⟩, h5⟩, h6⟩, h10⟩ := hh
      obtain ⟨n1, l1⟩ := lcl_b O h1
      obtain ⟨n2, l2⟩ := lcl_b O h2
      obtain ⟨n3, l3⟩ := lcl_b O h3
      exact ss_par3 O (ps_par3 O.calm O.nd n1 n2 n3 (by simpa using h4) (by simpa using h5) (by simpa using h6) l1 l2 l3 (pa_cons pe_w (pa_cons pe_w (pa_cons pe_w pa_nil (star_of h9)) (star_of h8)) (star_of h7))
        (swapped_three O l1 l2 l3 (nm_ne O.nd n1 n2 h4) (nm_ne O.nd n1 n3 h5) (nm_ne O.nd n2 n3 h6) h7 h8 h9 h10)) rfl (gE a O h11).ev (gE b O h12).ev (gE c O h13).ev
    · cases h
  | .setix i ix e, st, h => by
    have h : (match (generalizing := false) st with | .Assign [.Subscript (.Name x p) eix _] ee _ => isE ci (.var i) (.Name x p) && plainIx eix && isE ci ix eix && isE ci e ee && noComp ee && noPar ee | _ => false) = true := h
    split at h
    · simp only [Bool.and_eq_true] at h
      obtain ⟨⟨⟨⟨⟨h1, h2⟩, h3⟩, h4⟩, h5⟩, h6⟩ := h
      refine ss_setix O h1 (ps_asg pe_w (pg_sub pe_w pe_w set_list ?_) (swaps_sole h5) (swapped_none h6 _) rfl) (gE e O h4).ev (gE ix O h3).b
      exact sub_as h2
    · cases h
  | .aug i sub e, st, h => by
    have h : (match (generalizing := false) st with | .AugAssign (.Name x _) op ee _ => nmB ci i x && decide (op = if sub then .Sub else .Add) && isE ci e ee | _ => false) = true := h
    split at h
    · simp only [Bool.and_eq_true, decide_eq_true_eq] at h
      obtain ⟨⟨h1, rfl⟩, h3⟩ := h
      obtain ⟨n1, n2, n3⟩ := nm_b O h1
      cases sub with
      | true => exact ss_aug O (ps_aug O.nd n1 n2 pe_w ip_sub n3) (gE e O h3).b
      | false => exact ss_aug O (ps_aug O.nd n1 n2 pe_w ip_add n3) (gE e O h3).b
    · cases h
  | .augIx i ix sub e, st, h => by
    have h : (match (generalizing := false) st with | .AugAssign (.Subscript (.Name x p) eix _) op ee _ => isE ci (.var i) (.Name x p) && plainIx eix && isE ci ix eix && decide (op = if sub then .Sub else .Add) && isE ci e ee | _ => false) = true := h
    split at h
    · simp only [Bool.and_eq_true, decide_eq_true_eq] at h
      obtain ⟨⟨⟨⟨h1, h2⟩, h3⟩, rfl⟩, h4⟩ := h
      cases sub with
      | true => exact ss_augIx O h1 (ps_augS pe_w pe_w get_list pe_w ip_sub set_list (aug_st h2)) (gE ix O h3).b (gE e O h4).b
      | false => exact ss_augIx O h1 (ps_augS pe_w pe_w get_list pe_w ip_add set_list (aug_st h2)) (gE ix O h3).b (gE e O h4).b
    · cases h
  | .app i e, st, h => by
    have h : (match (generalizing := false) st with | .Expr (.Call (.Attribute (.Name x p) m apos) [ee] [] cpos) _ => isE ci (.var i) (.Name x p) && decide (m = ("append" : Str)) && (apos.endLine == cpos.line) && noStar ee && isE ci e ee | _ => false) = true := h
    split at h
    · simp only [Bool.and_eq_true, decide_eq_true_eq] at h
      obtain ⟨⟨⟨⟨h1, rfl⟩, h2⟩, h3⟩, h4⟩ := h
      refine ss_app O h1 (ps_expr (pe_bm PySem.F.plainAttrs_list PySem.F.slot_list_append PySem.F.type_list_append mt_append pe_w (pa_cons pe_w pa_nil (star_of h3)) rfl (by rw [star_of h3]; rfl) h2 (star_of h3) rfl)) (gE e O h4).ev
    · cases h
  | .ext i e, st, h => by
    have h : (match (generalizing := false) st with | .Expr (.Call (.Attribute (.Name x p) m apos) [ee] [] cpos) _ => isE ci (.var i) (.Name x p) && decide (m = ("extend" : Str)) && (apos.endLine == cpos.line) && noStar ee && isE ci e ee | _ => false) = true := h
    split at h
    · simp only [Bool.and_eq_true, decide_eq_true_eq] at h
      obtain ⟨⟨⟨⟨h1, rfl⟩, h2⟩, h3⟩, h4⟩ := h
      refine ss_ext O h1 (ps_expr (pe_bm PySem.F.plainAttrs_list PySem.F.slot_list_extend PySem.F.type_list_extend mt_extend pe_w (pa_cons pe_w pa_nil (star_of h3)) rfl (by rw [star_of h3]; rfl) h2 (star_of h3) rfl)) (gE e O h4).ev
    · cases h
  | .expr e, st, h => by
    have h : (match (generalizing := false) st with | .Expr ee _ => noComp ee && isE ci e ee | _ => false) = true := h
    split at h
    · rw [Bool.and_eq_true] at h
      exact ss_expr O (ps_expr pe_w (swaps_false h.1)) (gE e O h.2).ev
    · cases h
  | .ret e, st, h => by
    have h : (match (generalizing := false) st with | .Return (some ee) _ => isE ci e ee | _ => false) = true := h
    split at h
    · exact ss_ret O (ps_ret pe_w) (gE e O h).ev
    · cases h
  | .retO i, st, h => by
    have h : (match (generalizing := false) st with | .Return (some (.Name x p)) _ => isE ci (.var i) (.Name x p) | _ => false) = true := h
    split at h
    · exact ss_retO O h (ps_ret pe_w)
    · cases h
  | .retN, st, h => by
    have h : (match (generalizing := false) st with | .Return none _ => true | _ => false) = true := h
    split at h
    · exact ss_retN ps_retN
    · cases h
  | .ife c a b, st, h => by
    have h : (match (generalizing := false) st with | .If ec sa sb _ => tst c && isE ci c ec && isBk ci a sa && isBk ci b sb | _ => false) = true := h
    split at h
    · simp only [Bool.and_eq_true] at h
      obtain ⟨⟨⟨ht, h1⟩, h2⟩, h3⟩ := h
      exact ss_ife ((gE c O h1).t ht) (gB hp O a h2) (gB hp O b h3)
    · cases h
  | .for_ tg it body, st, h => by
    have h : (match (generalizing := false) st with | .For et ei sb [] _ => isI ci it ei (isTup et) && noSet ei && isG ci tg et && isBk ci body sb | _ => false) = true := h
    split at h
    · simp only [Bool.and_eq_true] at h
      obtain ⟨⟨⟨h1, h2⟩, h3⟩, h4⟩ := h
      exact ss_for (ps_for hp O.calm pi_w pg_w pss_w fun x => set_of h2) (gI it O h1) (snd_g O h3) (gB hp O body h4)
    · cases h
  | .while_ n c body, st, h => by
    have h : (match (generalizing := false) st with | .While ec sb [] _ => tst c && isE ci c ec && isBk ci body sb | _ => false) = true := h
    split at h
    · simp only [Bool.and_eq_true] at h
      obtain ⟨⟨ht, h1⟩, h2⟩ := h
      exact ss_while (ps_while hp pt_w pss_w) ((gE c O h1).t ht) (gB hp O body h2)
    · cases h
  | .brk, st, h => by
    have h : (match (generalizing := false) st with | .Break _ => true | _ => false) = true := h
    split at h
    · intro F0 B ρ σ F H o D R e k
      cases e
      exact wS_of ps_break (k σ F H R (Same.refl _))
    · cases h
  | .cont, st, h => by
    have h : (match (generalizing := false) st with | .Continue _ => true | _ => false) = true := h
    split at h
    · intro F0 B ρ σ F H o D R e k
      cases e
      exact wS_of ps_continue (k σ F H R (Same.refl _))
    · cases h
  | .dnew i, st, h => by
    have h : (match (generalizing := false) st with | .Assign [.Name x py] (.Dict [] [] _) _ => nmB ci i x | _ => false) = true := h
    split at h
    · obtain ⟨n1, n2, n3⟩ := nm_b O h
      exact ss_dnew O (ps_asg pe_dnewK (pg_name O.nd n1 n2 n3) (swaps_sole rfl) (swapped_none rfl _) rfl)
    · cases h
  | .dset i k e, st, h => by
    have h : (match (generalizing := false) st with | .Assign [.Subscript (.Name x p) ek _] ee _ => rdB ci i x && isE ci k ek && isE ci e ee && noComp ee | _ => false) = true := h
    split at h
    · simp only [Bool.and_eq_true] at h
      obtain ⟨⟨⟨h1, h2⟩, h3⟩, h4⟩ := h
      exact ss_dset O h1 (ps_dput (by have := O.hu; omega) pe_w pe_w pe_w (swaps_false h4)) (gE e O h3).ev (gE k O h2).b
    · cases h
  | .dcm i k v tg it ifs own, st, h => by
    have h : (match (generalizing := false) st with | .Assign [.Name x py] ee _ => nmB ci i x && isDc ci k v tg it ifs own ee && (celB ci x || swpD ci x py ee) | _ => false) = true := h
    split at h
    · rename_i x py ee pos _
      rw [Bool.and_eq_true, Bool.and_eq_true] at h
      obtain ⟨⟨h1, h2⟩, h3⟩ := h
      obtain ⟨n1, n2, n3⟩ := nm_b O h1
      obtain ⟨ek, ev, et, ei, efs, scope, pos2, rfl⟩ := isDc_sh h2
      obtain ⟨b1, b2, b3⟩ := dc_of O h2
      rw [Bool.or_eq_true] at h3
      rcases h3 with h3 | h3
      · exact ss_dcm (ps_asg (pe_dc O.calm O.nd pi_w b1 (fun s H D cl fp => pg_b s H D cl fp) (fun s H D cl fp => pts_b s H D cl fp) (fun s H D cl fp => pe_b s H D cl fp) (fun s H D cl fp => pe_b s H D cl fp) (fun x => set_of b2)) (pg_name O.nd n1 n2 n3) (show swapsWith (.DictComp ek ev [⟨et, ei, efs, 0⟩] scope pos2) (some (.Name x py)) pos.line X.env = pure false from swaps_cell O (by rw [O.sc]; exact of_decide_eq_true h3)) (swapped_none rfl _) rfl) b3
      · obtain ⟨sw, lx⟩ := swaps_trueD O (l := pos.line) h3
        exact ss_dcm (ps_setDc O.calm O.nd n1 lx sw pi_w b1 pg_b pts_b pe_b pe_b (fun x => set_of b2)) b3
    · cases h
  | .dcm2 i j ow k v tg it ifs own e, st, h => by
    have h : (match (generalizing := false) st with | .Assign [.Tuple [.Name x px, .Name y py] kt pt] (.Tuple [ea, eb] k2 pt2) _ => noStar ea && noStar eb && lclB ci i x && lclB ci j y && !(i == j) && parB [.Name x px, .Name y py] [ea, eb] && isDc ci k v tg it ifs own ea && isE ci e eb | _ => false) = true := h
    split at h
    · obtain ⟨h, h8⟩ := Bool.and_eq_true_iff.mp h
      obtain ⟨h, h7⟩ := Bool.and_eq_true_iff.mp h
      obtain ⟨h, h6⟩ := Bool.and_eq_true_iff.mp h
      obtain ⟨h, h3⟩ := Bool.and_eq_true_iff.mp h
      obtain ⟨h, h2⟩ := Bool.and_eq_true_iff.mp h
      obtain ⟨h, h1⟩ := Bool.and_eq_true_iff.mp h
      obtain ⟨h4, h5⟩ := Bool.and_eq_true_iff.mp h
      obtain ⟨n1, l1⟩ := lcl_b O h1
      obtain ⟨n2, l2⟩ := lcl_b O h2
      have h3 : (i == j) = false := by simpa using h3
      obtain ⟨ek, ev, et, ei, efs, scope, pos2, rfl⟩ := isDc_sh h7
      obtain ⟨b1, b2, b3⟩ := dc_of O h7
      exact ss_dcm2 (ps_par O.calm O.nd n1 n2 (by simpa using h3) l1 l2 (pa_cons (pe_dc O.calm O.nd pi_w b1 (fun s H D cl fp => pg_b s H D cl fp) (fun s H D cl fp => pts_b s H D cl fp) (fun s H D cl fp => pe_b s H D cl fp) (fun s H D cl fp => pe_b s H D cl fp) (fun x => set_of b2)) (pa_cons pe_w pa_nil (star_of h5)) (star_of h4)) (swapped_two O l1 l2 (nm_ne O.nd n1 n2 h3) h4 h5 h6)) b3 (gE e O h8).ev
    · cases h
  | .rse, st, h => ss_rse
  | .pass, st, h => by
    have h : (match (generalizing := false) st with | .Pass _ => true | _ => false) = true := h
    split at h
    · intro F0 B ρ σ F H o D R e k
      cases e
      exact wS_of ps_pass (k σ F H R (Same.refl _))
    · cases h
theorem gB (hp : PassesOwn (model X.prog X.w) X.A X.env X.xe) (O : Ok X ci C G) : ∀ (t : Tb) {sts : List Stmt}, isBk ci t sts = true → SndSs X sts (evB C G t)
  | .nil, [], h => by
    intro F0 B ρ σ F H o D R e k
    cases e
    exact wSs_of pss_nil (k σ F H R (Same.refl _))
  | .nil, _ :: _, h => by cases h
  | .cons s r, [], h => by cases h
  | .cons s r, st :: sts, h => by
    have h : (isS ci s st && isBk ci r sts) = true := h
    rw [Bool.and_eq_true] at h
    intro F0 B ρ σ F H o D R e k
    obtain ⟨o1, e1, e⟩ := bind_some e
    refine wSs_of (pss_cons ps_w pss_w) (gS hp O s h.1 F0 B ρ σ F H o1 _ R e1 ?_)
    cases o1 with
    | nx ρ1 => exact fun σ' F' H' R' q => gB hp O r h.2 F0 B ρ1 σ' F' H' o D R' e (k.up q)
    | bk ρ1 => cases e; exact k
    | ct ρ1 => cases e; exact k
    | rt v => cases e; exact k
  | .frz i r, sts, h => by
    intro F0 B ρ σ F H o D R e k
    have e : evB C G r (frzE ρ i) = some o := e
    have h : isBk ci r sts = true := h
    unfold frzE at e
    split at e
    · rename_i ds eo
      obtain ⟨F', sm, R'⟩ := R.frz eo
      exact gB hp O r h F0 B _ σ F' H o D R' e (k.up sm)
    · exact gB hp O r h F0 B ρ σ F H o D R e k
  | .fgt i r, sts, h => by
    intro F0 B ρ σ F H o D R e k
    exact gB hp O r h F0 B _ σ F H o D (R.forget i) e k
end
end
end Pz
set_option Elab.async false
set_option linter.all false
set_option maxRecDepth 100000
set_option maxHeartbeats 2000000
/-! Pz: defs, calls, the law. -/
namespace Pz
open PySem PySem.Spec PyProof.Rows L2

/-- a def of the text: its name, its parameters, its names, its body in the own syntax, its text -/
structure DefR where
  name : Str
  ps : List Str
  N : List Str
  body : Tb
  st : Stmt
  /-- names that an import binds to a built-in -/
  im : List (Str × String)
def DefR.ci (d : DefR) : CI := ⟨d.N, defScope d.st, fun _ => true, d.im⟩
def DefR.chk (d : DefR) : Bool :=
  decide ((defScope d.st).kind = .function) && !(defScope d.st).isCoroutine && !(defScope d.st).isGenerator && decide d.N.Nodup && decide (d.N.take d.ps.length = d.ps) &&
  (d.ps.all fun x => locB d.ci x) && ((defScope d.st).names.all fun y => decide (y.2 ≠ .free)) && isBk d.ci d.body (defBody d.st)
theorem DefR.scope {d : DefR} (h : d.chk = true) : FnScope d.N d.ps (defScope d.st) ∧ isBk d.ci d.body (defBody d.st) = true := by
  unfold DefR.chk at h
  simp only [Bool.and_eq_true, decide_eq_true_eq, Bool.not_eq_true', List.all_eq_true] at h
  obtain ⟨⟨⟨⟨⟨⟨⟨h1, h2⟩, h3⟩, h4⟩, h5⟩, h6⟩, h7⟩, h8⟩ := h
  refine ⟨⟨h1, h2, h3, h4, h5, fun x hx => ?_, h7⟩, h8⟩
  have := h6 x hx
  unfold locB knd at this
  have e : (DefR.ci d).sc = defScope d.st := rfl
  rw [e] at this
  split at this <;> simp_all
def init (N : List Str) (vs : List PV) : En := vs.map .val ++ List.replicate (N.length - vs.length) .no
def outR : Option Out → Option RV
  | some (.rt r) => some r
  | some (.nx _) => some ⟨.none, false⟩
  | _ => none
section
variable (G : Str → Option PV) (tbl : List DefR)
/-- what a call gives, k calls deep -/
def callF : Nat → Str → List PV → Option RV
  | 0, _, _ => none
  | k + 1, f, vs => match tbl.find? (fun d => d.name == f) with
    | some d => if vs.length = d.ps.length then outR (evB (callF k) G d.body (init d.N vs)) else none
    | none => none
end
/-- a def's promise -/
def spF (K : PySem.W.Frag) (C : Str → List PV → Option RV) (f : Str) : Sp := fun ws H Q _ => ∃ (F : Hp) (vs : List PV) (r : RV), Same F H ∧ DpAll K F ws vs ∧ C f vs = some r ∧ ∀ v F' H', Step F H F' H' → RepR K H F' H' r v → Q v H'
structure DefIn (K : PySem.W.Frag) (mg : Str → Option Value) (d : DefR) (a : Addr) (fd : FuncData) : Prop where
  fn : Fun K d.name d.name d.st a fd
  mg : mg d.name = some (.ref a)
  bd : Binds K fd d.ps []
theorem find_name {tbl : List DefR} {f : Str} {d : DefR} (h : tbl.find? (fun d => d.name == f) = some d) : d ∈ tbl ∧ d.name = f :=
  ⟨List.mem_of_find?_eq_some h, by have := List.find?_some h; exact beq_iff_eq.mp this⟩
theorem dpAll_val {K : PySem.W.Frag} {F : Hp} : ∀ {ws : List V} {vs : List PV} {i : Nat} {v : PV} {r : List Sl} {r2 : List (Option V)}, DpAll K F ws vs → (∀ j : Nat, r[j]? = some (Sl.val v) → False) → (vs.map Sl.val ++ r)[i]? = some (.val v) → ∃ x, (ws.map some ++ r2)[i]? = some (some x) ∧ Dp K F x v
  | _, _, i, v, r, r2, .nil, h, e => (h i (by simpa using e)).elim
  | _, _, 0, v, r, r2, .cons d _, h, e => by cases e; exact ⟨_, rfl, d⟩
  | _, _, i + 1, v, r, r2, .cons _ ds, h, e => dpAll_val (i := i) ds h (by simpa using e)
theorem rel_init {K : PySem.W.Frag} {F H : Hp} {N : List Str} {ws : List V} {vs : List PV} (le : Same F H) (d : DpAll K F ws vs) : Rel K F H (init N vs) (L2.start N ws) F H := by
  refine ⟨le, ?_, fun i v e => ?_, fun i ds e => ?_, fun i j ds es a e => ?_, Step.rfl' le⟩
  · unfold init L2.start
    rw [List.length_append, List.length_append, List.length_map, List.length_map, List.length_replicate, List.length_replicate, dpAll_len d]
  · exact dpAll_val d (fun j h => by
      obtain ⟨h1, h2⟩ := List.getElem?_eq_some_iff.mp h
      rw [List.getElem_replicate] at h2; cases h2) e
  all_goals
    exfalso
    unfold init at e
    by_cases hi : i < (vs.map Sl.val).length
    · rw [List.getElem?_append_left hi, List.getElem?_map] at e
      obtain ⟨_, _, e⟩ := Option.map_eq_some_iff.mp e
      cases e
    · rw [List.getElem?_append_right (by omega)] at e
      obtain ⟨h1, h2⟩ := List.getElem?_eq_some_iff.mp e
      rw [List.getElem_replicate] at h2; cases h2
section
variable {P : Program} {w : World} {K : PySem.W.Frag} {mg : Str → Option Value} {base : Heap} {G : Str → Option PV} {tbl : List DefR}
theorem fn_all (hG : ∀ x v, G x = some v → ∃ u y, mg x = some u ∧ RelV y u ∧ ∀ F : Hp, Dp K F y v) (hB : ∀ x ∈ bltNames, mg x = none) (hD : ∀ d ∈ tbl, d.chk = true ∧ ∃ a fd, DefIn K mg d a fd) (hI : ∀ d ∈ tbl, ∀ p ∈ d.im, mg p.1 = some (.builtin p.2)) :
    ∀ (k : Nat) (f : Str) (d : DefR), tbl.find? (fun d => d.name == f) = some d → ∀ a fd, DefIn K mg d a fd → FnOk P w K mg base CX0 k a fd d.ps (spF K (callF G tbl k) f)
  | 0, f, d, hf, a, fd, I => ⟨fun vs H Q E ⟨_, _, _, _, _, e, _⟩ => (by cases e), fun A outer s H args us vs Q E _ _ _ _ ⟨_, _, _, _, _, e, _⟩ => (by cases e)⟩
  | k + 1, f, d, hf, a, fd, I => by
    obtain ⟨hm, hn⟩ := find_name hf
    obtain ⟨hc, _⟩ := hD d hm
    obtain ⟨hs, hb⟩ := DefR.scope hc
    have call : ∀ {vs : List PV} {r : RV}, callF G tbl (k + 1) f vs = some r → vs.length = d.ps.length ∧ outR (evB (callF G tbl k) G d.body (init d.N vs)) = some r := fun {vs r} e => by
      have e : (match tbl.find? (fun d => d.name == f) with
        | some d => if vs.length = d.ps.length then outR (evB (callF G tbl k) G d.body (init d.N vs)) else none
        | none => none) = some r := e
      rw [hf] at e
      have e : (if vs.length = d.ps.length then outR (evB (callF G tbl k) G d.body (init d.N vs)) else none) = some r := e
      split at e
      · exact ⟨by assumption, e⟩
      · cases e
    refine I.fn.ok hs (fun ws H Q E ⟨F, vs, r, le, dd, e, q⟩ => ?_) (fun cdv A outer s H ws Q E hr ⟨F, vs, r, le, dd, e, q⟩ => ?_)
    · rw [dpAll_len dd]; exact (call e).1
    · have O : Ok (cxOf CX0 P w K mg base d.N d.name (defScope d.st) a cdv A outer s H E).nox d.ci (callF G tbl k) G :=
        { N := rfl, sc := rfl, fk := hs.kind, nd := hs.nd, calm := rfl, hd := hr.hd, hu := by have := hr.un; show (A.deeper _).units + 100 < cLine; omega, st := fun _ _ => .inl rfl, glob := hG, blt := hB, im := hI d hm,
          call := fun g ⟨us, r', eg⟩ => by
            cases k with
            | zero => cases eg
            | succ k =>
              cases eg' : tbl.find? (fun d => d.name == g) with
              | none =>
                have e : (match tbl.find? (fun d => d.name == g) with
                  | some d => if us.length = d.ps.length then outR (evB (callF G tbl k) G d.body (init d.N us)) else none
                  | none => none) = some r' := eg
                rw [eg'] at e; cases e
              | some d2 =>
                obtain ⟨hm2, hn2⟩ := find_name eg'
                obtain ⟨hc2, a2, fd2, I2⟩ := hD d2 hm2
                refine ⟨k + 1, a2, fd2, d2.ps, _, fn_all hG hB hD hI (k + 1) g d2 eg' a2 fd2 I2, hr, by rw [← hn2]; exact I2.mg, I2.fn.kp, I2.bd, fun vs r ws F H Q e le dd q => ⟨F, vs, r, le, dd, e, q⟩⟩ }
      refine ⟨_, pss_w, ?_⟩
      have R := rel_init (N := d.N) le dd
      have eo := (call e).2
      cases eb : evB (callF G tbl k) G d.body (init d.N vs) with
      | none => rw [eb] at eo; cases eo
      | some o =>
        rw [eb] at eo
        refine gB PassesOwn.never O d.body hb F H _ _ F H o _ R eb ?_
        cases o with
        | rt r1 => cases eo; exact q
        | nx ρ => cases eo; exact fun σ' F' H' R' _ => q .non F' H' R'.go (.of .non)
        | bk ρ => cases eo
        | ct ρ => cases eo
end
theorem dp_ints {K : PySem.W.Frag} {F : Hp} : ∀ ns : List Int, DpAll K F (ns.map V.int) (ns.map .int)
  | [] => .nil
  | n :: r => .cons (.int n) (dp_ints r)
/-- the law's own call -/
theorem law_sp {G : Str → Option PV} {tbl : List DefR} {k n : Nat} (h : ∀ ns : List Int, ns.length ≤ n → callF G tbl k "law" [.list (ns.map .int)] = some ⟨.bool true, false⟩)
    (K : PySem.W.Frag) (H : Hp) (a : Addr) (ns : List Int) (hl : ns.length ≤ n) (hS : SqL K H a (ns.map V.int)) : spF K (callF G tbl k) "law" [.ref a] H (fun v _ => v = .bl true) fun _ _ _ => False :=
  ⟨H, [.list (ns.map .int)], ⟨.bool true, false⟩, Same.refl _, .cons (.lst hS (dp_ints ns)) .nil, h ns hl, fun v F' H' _ rp => by have d := rp.va; cases d; rfl⟩
end Pz
namespace Pz
open PySem PySem.Spec PyProof.Rows L2
/-- what the head tells of a def -/
theorem defIn_mk {K : PySem.W.Frag} {h : Heap} {mg : Str → Option Value} (X : K.In h) (G : h.Ns mainGlobals mg) {d : DefR} {f : Addr} {oc : Value} {od an : Option Addr} {sl : Array (Option Value)} {kV dc pm cd ct : Value}
    (a1 : PySem.W.nsIn K mainGlobals d.name = some (some (.ref f))) (l1 : K.lookup f = some ⟨oc, od, .func (PySem.W.fnOf d.name d.name (defArgs d.st) (defBody d.st) (defScope d.st) .none kV dc pm an cd ct), sl⟩) (c1 : PySem.W.codeIn K cd d.name = true) (k1 : PySem.W.keepIn K (.ref f) = true)
    (hb : ∀ (kV doc pm : Value) (an : Option Addr) (cdv ct : Value) (us : List Value), us.length = d.ps.length → bindArgs (PySem.W.fnOf d.name d.name (defArgs d.st) (defBody d.st) (defScope d.st) .none kV doc pm an cdv ct) ⟨us, []⟩ = pure (d.ps.zip us)) :
    ∃ a fd, DefIn K mg d a fd := ⟨_, _, fun_mk l1 c1 k1, PySem.W.mg_of X G a1, (fun_mk l1 c1 k1).binds hb⟩
end Pz
set_option Elab.async false
set_option linter.all false
set_option maxRecDepth 100000
/-! Pz: words for plain laws. -/
namespace Pz
open PySem
section
variable {G : Str → Option PV} {tbl : List DefR}
theorem call_eq {k : Nat} {f : Str} {vs : List PV} {d : DefR} (h : tbl.find? (fun d => d.name == f) = some d) (hl : vs.length = d.ps.length) : callF G tbl (k + 1) f vs = outR (evB (callF G tbl k) G d.body (init d.N vs)) := by
  show (match tbl.find? (fun d => d.name == f) with
    | some d => if vs.length = d.ps.length then outR (evB (callF G tbl k) G d.body (init d.N vs)) else none
    | none => none) = _
  rw [h]; exact if_pos hl
end
theorem compL_flat {α : Type} {f : PV → Option (List PV)} {e : α → PV} {g : α → List PV} : ∀ {xs : List α}, (∀ x ∈ xs, f (e x) = some (g x)) → compL f (xs.map e) = some (xs.flatMap g)
  | [], _ => rfl
  | x :: r, h => by
    show (do let y ← f (e x); let ys ← compL f (r.map e); some (y ++ ys)) = _
    rw [h x List.mem_cons_self, compL_flat (xs := r) fun y hy => h y (List.mem_cons_of_mem _ hy)]
    rfl
theorem compL_map {α : Type} {f : PV → Option (List PV)} {e g : α → PV} {xs : List α} (h : ∀ x ∈ xs, f (e x) = some [g x]) : compL f (xs.map e) = some (xs.map g) := by
  rw [compL_flat (g := fun x => [g x]) h]
  congr 1
  induction xs with
  | nil => rfl
  | cons x r ih => rw [List.flatMap_cons, ih fun y hy => h y (List.mem_cons_of_mem _ hy)]; rfl
theorem compL_filter {α : Type} {f : PV → Option (List PV)} {e g : α → PV} {p : α → Bool} {xs : List α} (h : ∀ x ∈ xs, f (e x) = some (if p x then [g x] else [])) : compL f (xs.map e) = some ((xs.filter p).map g) := by
  rw [compL_flat (g := fun x => if p x then [g x] else []) h]
  congr 1
  induction xs with
  | nil => rfl
  | cons x r ih =>
    rw [List.flatMap_cons, ih fun y hy => h y (List.mem_cons_of_mem _ hy), List.filter_cons]
    cases p x <;> rfl
/-- one pass of a loop's body: the next state, or the result -/
def turnsR {α β : Type} (step : β → α → β ⊕ RV) : List α → β → β ⊕ RV
  | [], b => .inl b
  | x :: r, b => match step b x with
    | .inl b' => turnsR step r b'
    | .inr v => .inr v
def outOf {β : Type} (st : β → En) : β ⊕ RV → Out
  | .inl b => .nx (st b)
  | .inr v => .rt v
/-- a for loop by its turns: st writes the state, I holds ahead of turn i -/
theorem loopF_turns {α β : Type} {body : En → Option Out} {tg : Tg} {e : α → PV} {st : β → En} {step : β → α → β ⊕ RV} {I : Nat → β → Prop} : ∀ {xs : List α} {i : Nat} {b : β}, I i b →
    (∀ (j : Nat) (x : α) (b : β), xs[j]? = some x → I (i + j) b → (∃ ρ1, asg tg (e x) (st b) = some ρ1 ∧ (body ρ1 = some (outOf st (step b x)) ∨ ∃ b', step b x = .inl b' ∧ body ρ1 = some (.ct (st b')))) ∧ ∀ b', step b x = .inl b' → I (i + j + 1) b') →
    loopF body tg (xs.map e) (st b) = some (outOf st (turnsR step xs b)) ∧ ∀ b', turnsR step xs b = .inl b' → I (i + xs.length) b'
  | [], i, b, hI, _ => ⟨rfl, fun b' h => by cases h; exact hI⟩
  | x :: r, i, b, hI, h => by
    obtain ⟨⟨ρ1, e1, e2⟩, h2⟩ := h 0 x b rfl hI
    have rest : ∀ b', step b x = .inl b' → loopF body tg (r.map e) (st b') = some (outOf st (turnsR step r b')) ∧ ∀ b'', turnsR step r b' = .inl b'' → I (i + (x :: r).length) b'' := fun b' hb => by
      have := loopF_turns (xs := r) (i := i + 1) (b := b') (I := I) (h2 b' hb) fun j y c hy hc => by
        have := h (j + 1) y c (by simpa using hy) (by rw [← Nat.add_assoc, Nat.add_right_comm]; exact hc)
        rw [show i + (j + 1) + 1 = i + 1 + j + 1 by omega] at this
        exact this
      rw [List.length_cons, show i + (r.length + 1) = i + 1 + r.length by omega]
      exact this
    have u1 : loopF body tg ((x :: r).map e) (st b) = (do match ← body ρ1 with | .nx ρ2 => loopF body tg (r.map e) ρ2 | .ct ρ2 => loopF body tg (r.map e) ρ2 | .bk ρ2 => some (.nx ρ2) | .rt v => some (.rt v)) := by
      show (do let ρ1 ← asg tg (e x) (st b); match ← body ρ1 with | .nx ρ2 => loopF body tg (r.map e) ρ2 | .ct ρ2 => loopF body tg (r.map e) ρ2 | .bk ρ2 => some (.nx ρ2) | .rt v => some (.rt v)) = _
      rw [e1]; rfl
    rw [u1]
    cases hs : step b x with
    | inl b' =>
      obtain ⟨r1, r2⟩ := rest b' hs
      have u2 : turnsR step (x :: r) b = turnsR step r b' := by
        show (match step b x with | .inl b' => turnsR step r b' | .inr v => .inr v) = _
        rw [hs]
      rw [u2]
      refine ⟨?_, r2⟩
      rcases e2 with e2 | ⟨b2, e3, e2⟩
      · rw [e2, hs]; exact r1
      · rw [hs] at e3; cases e3
        rw [e2]; exact r1
    | inr v =>
      have u2 : turnsR step (x :: r) b = .inr v := by
        show (match step b x with | .inl b' => turnsR step r b' | .inr v => .inr v) = _
        rw [hs]
      rw [u2]
      refine ⟨?_, fun b' h => by cases h⟩
      rcases e2 with e2 | ⟨b2, e3, e2⟩
      · rw [e2, hs]; rfl
      · rw [hs] at e3; cases e3
theorem ixOf_nat {n i : Nat} (h : i < n) : ixOf n (i : Int) = some i := by
  unfold ixOf
  rw [if_pos (by omega), if_pos (by omega)]; rfl
theorem ixOf_int {n : Nat} {i : Int} (h0 : 0 ≤ i) (h : i < n) : ixOf n i = some i.toNat := by
  unfold ixOf
  rw [if_pos h0, if_pos h]
/-! ### operators, by shapes -/
section
variable {a b : Int} {x y : List PV}
@[simp] theorem bin_add : evBin .add (.int a) (.int b) = some ⟨.int (a + b), false⟩ := rfl
@[simp] theorem bin_sub : evBin .sub (.int a) (.int b) = some ⟨.int (a - b), false⟩ := rfl
@[simp] theorem bin_cat (h : x.length + y.length ≤ LIM) : evBin .add (.tuple x) (.tuple y) = some ⟨.tuple (x ++ y), false⟩ := if_pos h
@[simp] theorem bin_catL (h : x.length + y.length ≤ LIM) : evBin .add (.list x) (.list y) = some ⟨.list (x ++ y), true⟩ := if_pos h
theorem bin_mul (h : a.natAbs < 18446744073709551616 ∨ b.natAbs < 18446744073709551616) : evBin .mul (.int a) (.int b) = some ⟨.int (a * b), false⟩ := by
  show (if a.natAbs < 18446744073709551616 || b.natAbs < 18446744073709551616 then some (⟨.int (a * b), false⟩ : RV) else none) = _
  rw [if_pos (by simpa using h)]
@[simp] theorem bin_mulR (h : b.natAbs < 18446744073709551616) : evBin .mul (.int a) (.int b) = some ⟨.int (a * b), false⟩ := bin_mul (.inr h)
theorem bin_mulL (h : a.natAbs < 18446744073709551616) : evBin .mul (.int a) (.int b) = some ⟨.int (a * b), false⟩ := bin_mul (.inl h)
@[simp] theorem bin_repL (h : 0 ≤ b) (h1 : b ≤ 1000) (h2 : x.length ≤ 1000) : evBin .mul (.list x) (.int b) = some ⟨.list (List.replicate b.toNat x).flatten, true⟩ := by
  unfold evBin
  simp [h, h1, h2]
@[simp] theorem bin_repT (h : 1 ≤ b) (h1 : b ≤ 1000) (h2 : x.length ≤ 1000) (h3 : x ≠ []) : evBin .mul (.tuple x) (.int b) = some ⟨.tuple (List.replicate b.toNat x).flatten, false⟩ := by
  unfold evBin
  simp [h, h1, h2, h3]
@[simp] theorem bin_fdiv (h : 0 < b) (h2 : b < 1073741824) : evBin .fdiv (.int a) (.int b) = some ⟨.int (a / b), false⟩ := by
  show (if 0 < b && decide (b < 1073741824) then some (⟨.int (a / b), false⟩ : RV) else none) = _
  rw [if_pos (by simp [h, h2])]
@[simp] theorem bin_mod (h : 0 < b) : evBin .mod (.int a) (.int b) = some ⟨.int (a % b), false⟩ := if_pos h
@[simp] theorem bin_pow (h : 0 ≤ b) (h2 : b ≤ 100000) (h3 : a.natAbs < 18446744073709551616) : evBin .pow (.int a) (.int b) = some ⟨.int (a ^ b.toNat), false⟩ := by
  show (if 0 ≤ b && b ≤ 100000 && a.natAbs < 18446744073709551616 then some (⟨.int (a ^ b.toNat), false⟩ : RV) else none) = _
  rw [if_pos (by simp [h, h2, h3])]
@[simp] theorem cmp_lt : evCmp .lt (.int a) (.int b) = some (decide (a < b)) := rfl
@[simp] theorem cmp_le : evCmp .le (.int a) (.int b) = some (decide (a ≤ b)) := rfl
@[simp] theorem cmp_gt : evCmp .gt (.int a) (.int b) = some (decide (b < a)) := rfl
@[simp] theorem cmp_ge : evCmp .ge (.int a) (.int b) = some (decide (b ≤ a)) := rfl
@[simp] theorem blt_lenL : evBlt .len [.list x] = some ⟨.int x.length, false⟩ := rfl
@[simp] theorem blt_lenT : evBlt .len [.tuple x] = some ⟨.int x.length, false⟩ := rfl
@[simp] theorem blt_int : evBlt .int [.int a] = some ⟨.int a, false⟩ := rfl
@[simp] theorem blt_intB {c : Bool} : evBlt .int [.bool c] = some ⟨.int (if c then 1 else 0), false⟩ := rfl
@[simp] theorem blt_tupL : evBlt .tuple [.list x] = some ⟨.tuple x, false⟩ := rfl
@[simp] theorem blt_tupT : evBlt .tuple [.tuple x] = some ⟨.tuple x, false⟩ := rfl
@[simp] theorem blt_lstL : evBlt .list [.list x] = some ⟨.list x, true⟩ := rfl
@[simp] theorem blt_lstT : evBlt .list [.tuple x] = some ⟨.list x, true⟩ := rfl
@[simp] theorem ix_list : evIdx (.list x) (.int a) = (ixOf x.length a).bind (x[·]?) := rfl
@[simp] theorem ix_tup : evIdx (.tuple x) (.int a) = (ixOf x.length a).bind (x[·]?) := rfl
@[simp] theorem ixOf_zero {n : Nat} : ixOf (n + 1) 0 = some 0 := ixOf_nat (i := 0) (by omega)
@[simp] theorem ixOf_one {n : Nat} : ixOf (n + 1 + 1) 1 = some 1 := ixOf_nat (i := 1) (by omega)
@[simp] theorem ixOf_two {n : Nat} : ixOf (n + 1 + 1 + 1) 2 = some 2 := ixOf_nat (i := 2) (by omega)
theorem intsO_map : ∀ ns : List Int, intsO (ns.map .int) = some ns
  | [] => rfl
  | n :: r => by show (intsO (r.map .int)).map (n :: ·) = _; rw [intsO_map r]; rfl
theorem boolsO_map : ∀ ns : List Bool, boolsO (ns.map .bool) = some ns
  | [] => rfl
  | n :: r => by show (boolsO (r.map .bool)).map (n :: ·) = _; rw [boolsO_map r]; rfl
@[simp] theorem blt_sum {ns : List Int} : evBlt .sum [.list (ns.map .int)] = some ⟨.int ns.sum, false⟩ := by
  show (intsO (ns.map .int)).map _ = _
  rw [intsO_map]; rfl
@[simp] theorem blt_sumTup {ns : List Int} : evBlt .sum [.tuple (ns.map .int)] = some ⟨.int ns.sum, false⟩ := by
  show (intsO (ns.map .int)).map _ = _
  rw [intsO_map]; rfl
@[simp] theorem blt_allB {ns : List Bool} : evBlt .all [.list (ns.map .bool)] = some ⟨.bool (ns.all id), false⟩ := by
  show (boolsO (ns.map .bool)).map _ = _
  rw [boolsO_map]; rfl
@[simp] theorem blt_anyB {ns : List Bool} : evBlt .any [.list (ns.map .bool)] = some ⟨.bool (ns.any id), false⟩ := by
  show (boolsO (ns.map .bool)).map _ = _
  rw [boolsO_map]; rfl
@[simp] theorem tr_int : truth (.int a) = some (a != 0) := rfl
@[simp] theorem tr_bool {c : Bool} : truth (.bool c) = some c := rfl
@[simp] theorem tr_list : truth (.list x) = some (!x.isEmpty) := rfl
@[simp] theorem tr_tup : truth (.tuple x) = some (!x.isEmpty) := rfl
@[simp] theorem tr_none : truth .none = some false := rfl
end
/-! ### data that Lean types tell -/
open PySem.W (Datum DatumOrd Tup)
section
variable {α : Type} [DecidableEq α] [Datum α]
theorem okD_toD (x : α) (h : Datum.depth α ≤ 60) : okD (Datum.toD x) = true := by
  unfold okD
  rw [Datum.plain, Bool.true_and, decide_eq_true_eq]
  exact Nat.le_trans (Datum.depth_le x) h
theorem peq_toD (x y : α) (h : Datum.depth α ≤ 60 := by decide) : peq (Datum.toD x) (Datum.toD y) = some (decide (x = y)) := by
  unfold peq
  rw [okD_toD x h, okD_toD y h]
  show some _ = _
  rw [Datum.eqv]
end
@[simp] theorem cmp_eqI {a b : Int} : evCmp .eq (.int a) (.int b) = some (decide (a = b)) := peq_toD a b
@[simp] theorem cmp_eqB {a b : Bool} : evCmp .eq (.bool a) (.bool b) = some (decide (a = b)) := peq_toD a b
@[simp] theorem cmp_eqS {a b : Str} : evCmp .eq (.str a) (.str b) = some (decide (a = b)) := peq_toD a b
@[simp] theorem cmp_neI {a b : Int} : evCmp .ne (.int a) (.int b) = some (!decide (a = b)) := by
  show (peq (.int a) (.int b)).map _ = _
  rw [show peq (.int a) (.int b) = some (decide (a = b)) from peq_toD a b]; rfl
@[simp] theorem cmp_neB {a b : Bool} : evCmp .ne (.bool a) (.bool b) = some (!decide (a = b)) := by
  show (peq (.bool a) (.bool b)).map _ = _
  rw [show peq (.bool a) (.bool b) = some (decide (a = b)) from peq_toD a b]; rfl
@[simp] theorem cmp_neS {a b : Str} : evCmp .ne (.str a) (.str b) = some (!decide (a = b)) := by
  show (peq (.str a) (.str b)).map _ = _
  rw [show peq (.str a) (.str b) = some (decide (a = b)) from peq_toD a b]; rfl
theorem rngL_zero (n : Nat) : rngL 0 n = (List.range n).map fun i => .int (i : Nat) := by
  unfold rngL
  congr 1
  funext i
  rw [Int.zero_add]
theorem all_true : ∀ {α : Type} (xs : List α), (xs.map fun _ => true).all id = true
  | _, [] => rfl
  | _, _ :: r => by rw [List.map_cons, List.all_cons, all_true r]; rfl
@[simp] theorem blt_allM {α : Type} {xs : List α} {p : α → Bool} : evBlt .all [.list (xs.map fun x => .bool (p x))] = some ⟨.bool (xs.all p), false⟩ := by
  have := blt_allB (ns := xs.map p)
  rw [List.map_map, List.all_map] at this
  exact this
@[simp] theorem blt_anyM {α : Type} {xs : List α} {p : α → Bool} : evBlt .any [.list (xs.map fun x => .bool (p x))] = some ⟨.bool (xs.any p), false⟩ := by
  have := blt_anyB (ns := xs.map p)
  rw [List.map_map, List.any_map] at this
  exact this
@[simp] theorem blt_sumM {α : Type} {xs : List α} {p : α → Int} : evBlt .sum [.list (xs.map fun x => .int (p x))] = some ⟨.int (xs.map p).sum, false⟩ := by
  have := blt_sum (ns := xs.map p)
  rw [List.map_map] at this
  exact this
@[simp] theorem asg_nm {i : Nat} {v : PV} {ρ : En} : asg (.nm i) v ρ = some (ρ.set i (.val v)) := rfl
@[simp] theorem asg_tp {ts : Tgs} {vs : List PV} {ρ : En} : asg (.tp ts) (.tuple vs) ρ = asgs ts vs ρ := rfl
@[simp] theorem asgs_nil {ρ : En} : asgs .nil [] ρ = some ρ := rfl
@[simp] theorem asgs_cons {t : Tg} {ts : Tgs} {v : PV} {vs : List PV} {ρ : En} : asgs (.cons t ts) (v :: vs) ρ = (asg t v ρ).bind (asgs ts vs) := rfl
/-- a for loop that never returns: the state behind i turns -/
theorem loopF_st {α : Type} {body : En → Option Out} {tg : Tg} {e : α → PV} : ∀ {xs : List α} (st : Nat → En),
    (∀ (i : Nat) (x : α), xs[i]? = some x → ∃ ρ1, asg tg (e x) (st i) = some ρ1 ∧ (body ρ1 = some (.nx (st (i + 1))) ∨ body ρ1 = some (.ct (st (i + 1))))) → loopF body tg (xs.map e) (st 0) = some (.nx (st xs.length))
  | [], _, _ => rfl
  | x :: r, st, h => by
    obtain ⟨ρ1, e1, e2⟩ := h 0 x rfl
    have ih := loopF_st (xs := r) (body := body) (tg := tg) (e := e) (fun i => st (i + 1)) fun i y hy => h (i + 1) y (by simpa using hy)
    show (do let ρ1 ← asg tg (e x) (st 0); match ← body ρ1 with | .nx ρ2 => loopF body tg (r.map e) ρ2 | .ct ρ2 => loopF body tg (r.map e) ρ2 | .bk ρ2 => some (.nx ρ2) | .rt v => some (.rt v)) = _
    rw [e1]
    rcases e2 with e2 | e2
    · show (body ρ1 >>= _) = _
      rw [e2]; exact ih
    · show (body ρ1 >>= _) = _
      rw [e2]; exact ih
/-- .. that returns at the first x with p -/
theorem loopF_find {α : Type} {body : En → Option Out} {tg : Tg} {e : α → PV} {p : α → Bool} {f : α → RV} {ρ : En} : ∀ {xs : List α},
    (∀ x ∈ xs, ∃ ρ1, asg tg (e x) ρ = some ρ1 ∧ body ρ1 = some (if p x then .rt (f x) else .nx ρ)) → loopF body tg (xs.map e) ρ = some (match xs.find? p with | some x => .rt (f x) | none => .nx ρ)
  | [], _ => rfl
  | x :: r, h => by
    obtain ⟨ρ1, e1, e2⟩ := h x List.mem_cons_self
    have ih := loopF_find (xs := r) (body := body) (tg := tg) (e := e) (p := p) (f := f) (ρ := ρ) fun y hy => h y (List.mem_cons_of_mem _ hy)
    show (do let ρ1 ← asg tg (e x) ρ; match ← body ρ1 with | .nx ρ2 => loopF body tg (r.map e) ρ2 | .ct ρ2 => loopF body tg (r.map e) ρ2 | .bk ρ2 => some (.nx ρ2) | .rt v => some (.rt v)) = _
    rw [e1, List.find?_cons]
    show (body ρ1 >>= _) = _
    rw [e2]
    cases hp : p x with
    | true => rfl
    | false => exact ih
theorem enumL_map {α : Type} (e : α → PV) (xs : List α) : enumL (xs.map e) = xs.zipIdx.map fun p => .tuple [.int (p.2 : Nat), e p.1] := by
  unfold enumL
  rw [List.zipIdx_map, List.map_map]
  rfl
theorem zipL_map {α β : Type} (e : α → PV) (g : β → PV) (xs : List α) (ys : List β) : zipL (xs.map e) (ys.map g) = (xs.zip ys).map fun p => .tuple [e p.1, g p.2] := by
  unfold zipL
  rw [List.zip_map, List.map_map]
  rfl
/-- an embedding of a Lean type into the data: equal data are of equal things -/
structure Emb {α : Type} [DecidableEq α] (e : α → PV) (d : Nat) : Prop where
  plain : ∀ x, (e x).plain = true
  deep : ∀ x, (e x).depth ≤ d
  eqv : ∀ x y, PyData.eqv (e x) (e y) = decide (x = y)
section
variable {α β : Type} [DecidableEq α] [DecidableEq β] {e : α → PV} {d : Nat}
theorem Emb.of [Datum β] (f : α → β) (inj : ∀ x y, f x = f y → x = y) : Emb (fun x => Datum.toD (f x)) (Datum.depth β) where
  plain := fun x => Datum.plain _
  deep := fun x => Datum.depth_le _
  eqv := fun x y => by
    rw [Datum.eqv, Bool.eq_iff_iff, decide_eq_true_eq, decide_eq_true_eq]
    exact ⟨inj x y, fun h => by rw [h]⟩
theorem Emb.ok (h : Emb e d) (hd : d ≤ 59) (x : α) : okD (e x) = true := by
  unfold okD
  rw [h.plain, Bool.true_and, decide_eq_true_eq]
  exact Nat.le_trans (h.deep x) (by omega)
theorem Emb.okL (h : Emb e d) (hd : d ≤ 59) : ∀ xs : List α, Pz.okL (xs.map e) = true := by
  intro xs
  unfold Pz.okL
  rw [Bool.and_eq_true, decide_eq_true_eq]
  induction xs with
  | nil => exact ⟨rfl, by show 0 ≤ 60; omega⟩
  | cons x r ih =>
    obtain ⟨a, b⟩ := ih
    refine ⟨?_, ?_⟩
    · show ((e x).plain && PyData.plainAll (r.map e)) = true
      rw [h.plain, a]; rfl
    · show max (e x).depth (PyData.depthAll (r.map e)) ≤ 60
      have := h.deep x
      omega
theorem Emb.peq (h : Emb e d) (hd : d ≤ 59) (x y : α) : Pz.peq (e x) (e y) = some (decide (x = y)) := by
  unfold Pz.peq
  rw [h.ok hd, h.ok hd]
  show some _ = _
  rw [h.eqv]
theorem Emb.any (h : Emb e d) (x : α) : ∀ (xs : List α) [Decidable (x ∈ xs)], ((xs.map e).any fun z => PyData.eqv z (e x)) = decide (x ∈ xs)
  | [], _ => by simp
  | y :: r, _ => by
    haveI : Decidable (x ∈ r) := Classical.propDecidable _
    rw [List.map_cons, List.any_cons, h.any x r, h.eqv, Bool.eq_iff_iff, Bool.or_eq_true, decide_eq_true_eq, decide_eq_true_eq, decide_eq_true_eq, List.mem_cons]
    exact ⟨fun q => q.imp Eq.symm id, fun q => q.imp Eq.symm id⟩
theorem Emb.pinL (h : Emb e d) (hd : d ≤ 59) (x : α) (xs : List α) [Decidable (x ∈ xs)] : pin (e x) (.list (xs.map e)) = some (decide (x ∈ xs)) := by
  show (if okD (e x) && Pz.okL (xs.map e) then some ((xs.map e).any fun z => PyData.eqv z (e x)) else none) = _
  rw [h.ok hd, h.okL hd, h.any]; rfl
theorem Emb.pinT (h : Emb e d) (hd : d ≤ 59) (x : α) (xs : List α) [Decidable (x ∈ xs)] : pin (e x) (.tuple (xs.map e)) = some (decide (x ∈ xs)) := by
  show (if okD (e x) && Pz.okL (xs.map e) then some ((xs.map e).any fun z => PyData.eqv z (e x)) else none) = _
  rw [h.ok hd, h.okL hd, h.any]; rfl
theorem Emb.eq (h : Emb e d) (hd : d ≤ 59) (x y : α) : evCmp .eq (e x) (e y) = some (decide (x = y)) := h.peq hd x y
theorem Emb.ne (h : Emb e d) (hd : d ≤ 59) (x y : α) : evCmp .ne (e x) (e y) = some (!decide (x = y)) := by
  show (Pz.peq (e x) (e y)).map _ = _
  rw [h.peq hd]; rfl
theorem Emb.inL (h : Emb e d) (hd : d ≤ 59) (x : α) (xs : List α) [Decidable (x ∈ xs)] : evCmp .isIn (e x) (.list (xs.map e)) = some (decide (x ∈ xs)) := h.pinL hd x xs
theorem Emb.inT (h : Emb e d) (hd : d ≤ 59) (x : α) (xs : List α) [Decidable (x ∈ xs)] : evCmp .isIn (e x) (.tuple (xs.map e)) = some (decide (x ∈ xs)) := h.pinT hd x xs
theorem Emb.notInL (h : Emb e d) (hd : d ≤ 59) (x : α) (xs : List α) [Decidable (x ∈ xs)] : evCmp .notIn (e x) (.list (xs.map e)) = some (!decide (x ∈ xs)) := by
  show (pin (e x) (.list (xs.map e))).map _ = _
  rw [h.pinL hd]; rfl
theorem Emb.notInT (h : Emb e d) (hd : d ≤ 59) (x : α) (xs : List α) [Decidable (x ∈ xs)] : evCmp .notIn (e x) (.tuple (xs.map e)) = some (!decide (x ∈ xs)) := by
  show (pin (e x) (.tuple (xs.map e))).map _ = _
  rw [h.pinT hd]; rfl
end
theorem emb_nat : Emb (fun n : Nat => PyData.int (n : Nat)) 0 := Emb.of (β := Int) (fun n : Nat => (n : Int)) fun x y h => by omega
theorem emb_int : Emb PyData.int 0 := Emb.of (β := Int) id fun x y h => h
theorem emb_bool : Emb PyData.bool 0 := Emb.of (β := Bool) id fun x y h => h
theorem map_inj {α β : Type} {f : α → β} (inj : ∀ x y, f x = f y → x = y) : ∀ xs ys : List α, xs.map f = ys.map f → xs = ys
  | [], [], _ => rfl
  | [], _ :: _, h => by cases h
  | _ :: _, [], h => by cases h
  | x :: xs, y :: ys, h => by
    rw [List.map_cons, List.map_cons, List.cons.injEq] at h
    rw [inj x y h.1, map_inj inj xs ys h.2]
theorem emb_nats : Emb (fun r : List Nat => PyData.tuple (r.map fun n => .int (n : Nat))) (Datum.depth (Tup Int)) := by
  have := Emb.of (β := Tup Int) (fun r : List Nat => Tup.mk (r.map fun n : Nat => (n : Int))) fun x y h => map_inj (fun a b h => by omega) x y (Tup.mk.inj h)
  have e : (fun r : List Nat => Datum.toD (Tup.mk (r.map fun n : Nat => (n : Int)))) = fun r : List Nat => PyData.tuple (r.map fun n => .int (n : Nat)) := by
    funext r
    show PyData.tuple ((r.map fun n : Nat => (n : Int)).map Datum.toD) = _
    rw [List.map_map]; rfl
  rw [e] at this
  exact this
@[simp] theorem cut_to {α : Type} (xs : List α) (k : Nat) : cutL xs none (some (k : Int)) = xs.take k := by
  unfold cutL
  rw [show HT.sIx xs.length xs.length (some (k : Int)) = min k xs.length from HT.sIx_nat _ _ k, HT.sIx_none, List.drop_zero, Nat.sub_zero]
  by_cases h : k ≤ xs.length
  · rw [Nat.min_eq_left h]
  · rw [Nat.min_eq_right (by omega), List.take_of_length_le (by omega), List.take_of_length_le (by omega)]
@[simp] theorem cut_from {α : Type} (xs : List α) (k : Nat) : cutL xs (some (k : Int)) none = xs.drop k := by
  unfold cutL
  rw [show HT.sIx xs.length 0 (some (k : Int)) = min k xs.length from HT.sIx_nat _ _ k, HT.sIx_none]
  by_cases h : k ≤ xs.length
  · rw [Nat.min_eq_left h, List.take_of_length_le (by rw [List.length_drop]; omega)]
  · rw [Nat.min_eq_right (by omega), List.drop_of_length_le (by omega), List.drop_of_length_le (by omega), List.take_nil]
@[simp] theorem cut_to1 {α : Type} (xs : List α) : cutL xs none (some 1) = xs.take 1 := cut_to xs 1
@[simp] theorem cut_from1 {α : Type} (xs : List α) : cutL xs (some 1) none = xs.drop 1 := cut_from xs 1
@[simp] theorem evCut_L {x : List PV} {lo hi : Option Int} : evCut (.list x) lo hi = some ⟨.list (cutL x lo hi), true⟩ := rfl
@[simp] theorem evCut_T {x : List PV} {lo hi : Option Int} : evCut (.tuple x) lo hi = some ⟨.tuple (cutL x lo hi), false⟩ := rfl
theorem dec_nat {a b : Nat} : decide ((a : Int) = (b : Int)) = (a == b) := by
  rw [Bool.eq_iff_iff, decide_eq_true_eq, beq_iff_eq]; omega
/-! ### order -/
open PySem.W (minOf maxOf minD maxD alike dataLt)
section
variable {α : Type} [DecidableEq α] [DatumOrd α]
theorem emb_ord : Emb (Datum.toD : α → PV) (Datum.depth α) := Emb.of (β := α) id fun x y h => h
theorem alikeB_toD (xs : List α) : alikeB (xs.map Datum.toD) = true := by
  unfold alikeB
  rw [List.all_eq_true]
  intro x hx
  rw [List.all_eq_true]
  intro y hy
  obtain ⟨a, _, rfl⟩ := List.mem_map.mp hx
  obtain ⟨b, _, rfl⟩ := List.mem_map.mp hy
  exact DatumOrd.alike a b
theorem notNone_toD (x : α) : isNone (Datum.toD x) = false := by
  have := DatumOrd.notNone x
  cases h : (Datum.toD x : PyData) <;> first | rfl | exact absurd h this
theorem bestB_toD (b : Bool) (x : α) (xs : List α) (h : Datum.depth α ≤ 59) : bestB b ((x :: xs).map Datum.toD) = some (Datum.toD (if b then maxOf x xs else minOf x xs)) := by
  have h1 := (emb_ord (α := α)).okL h (x :: xs)
  have h2 := alikeB_toD (x :: xs)
  have h3 : ((x :: xs).map Datum.toD).all (fun y : PV => !isNone y) = true := by
    rw [List.all_eq_true]
    intro y hy
    obtain ⟨a, _, rfl⟩ := List.mem_map.mp hy
    rw [notNone_toD]; rfl
  rw [List.map_cons] at h1 h2 h3 ⊢
  show (if okL _ && alikeB _ && _ then some _ else none) = _
  rw [h1, h2, h3]
  cases b with
  | true => exact congrArg some (PySem.W.maxD_map x xs)
  | false => exact congrArg some (PySem.W.minD_map x xs)
theorem plt_toD (x y : α) (h : Datum.depth α ≤ 59) : plt (Datum.toD x) (Datum.toD y) = some (DatumOrd.lt x y) := by
  unfold plt
  rw [(emb_ord (α := α)).ok h, (emb_ord (α := α)).ok h, DatumOrd.alike, notNone_toD]
  exact congrArg some (DatumOrd.lt_eq x y)
end
theorem maxOf_le : ∀ (xs : List Int) (x : Int), x ≤ maxOf x xs ∧ (∀ y ∈ xs, y ≤ maxOf x xs) ∧ (maxOf x xs = x ∨ maxOf x xs ∈ xs)
  | [], x => ⟨Int.le_refl _, fun y h => (by cases h), .inl rfl⟩
  | z :: r, x => by
    have e : maxOf x (z :: r) = maxOf (if x < z then z else x) r := by
      show (r.foldl _ (if DatumOrd.lt x z = true then z else x)) = _
      have : (DatumOrd.lt x z = true) = (x < z) := by
        show (decide (x < z) = true) = _
        rw [decide_eq_true_eq]
      simp only [this]; rfl
    rw [e]
    obtain ⟨a, b, c⟩ := maxOf_le r (if x < z then z else x)
    by_cases h : x < z
    · rw [if_pos h] at a b c ⊢
      refine ⟨by omega, fun y hy => ?_, ?_⟩
      · rcases List.mem_cons.mp hy with rfl | hy
        · exact a
        · exact b y hy
      · rcases c with c | c
        · exact .inr (by rw [c]; exact List.mem_cons_self)
        · exact .inr (List.mem_cons_of_mem _ c)
    · rw [if_neg h] at a b c ⊢
      refine ⟨a, fun y hy => ?_, ?_⟩
      · rcases List.mem_cons.mp hy with rfl | hy
        · omega
        · exact b y hy
      · rcases c with c | c
        · exact .inl c
        · exact .inr (List.mem_cons_of_mem _ c)
end Pz
set_option Elab.async false
set_option linter.all false
set_option maxRecDepth 100000
/-! Pz: more words for plain laws: loops as folds, greatest common divisors. -/
namespace Pz
open PySem
/-- a for loop that never returns, as a fold; I holds all the way -/
theorem loopF_fold {α β : Type} {body : En → Option Out} {tg : Tg} {e : α → PV} (st : β → En) (f : β → α → β) (I : β → Prop) : ∀ {xs : List α} {b : β}, I b →
    (∀ (x : α) (b : β), x ∈ xs → I b → I (f b x) ∧ ∃ ρ1, asg tg (e x) (st b) = some ρ1 ∧ (body ρ1 = some (.nx (st (f b x))) ∨ body ρ1 = some (.ct (st (f b x))))) → loopF body tg (xs.map e) (st b) = some (.nx (st (xs.foldl f b)))
  | [], _, _, _ => rfl
  | x :: r, b, hI, h => by
    obtain ⟨i2, ρ1, e1, e2⟩ := h x b List.mem_cons_self hI
    have ih := loopF_fold st f I (xs := r) (body := body) (tg := tg) (e := e) i2 fun y c hy hc => h y c (List.mem_cons_of_mem _ hy) hc
    show (do let ρ1 ← asg tg (e x) (st b); match ← body ρ1 with | .nx ρ2 => loopF body tg (r.map e) ρ2 | .ct ρ2 => loopF body tg (r.map e) ρ2 | .bk ρ2 => some (.nx ρ2) | .rt v => some (.rt v)) = _
    rw [e1]
    rcases e2 with e2 | e2
    · show (body ρ1 >>= _) = _
      rw [e2]; exact ih
    · show (body ρ1 >>= _) = _
      rw [e2]; exact ih
theorem loopW_step {c : En → Option Bool} {body : En → Option Out} {n : Nat} {ρ ρ2 : En} (h1 : c ρ = some true) (h2 : body ρ = some (.nx ρ2)) : loopW c body (n + 1) ρ = loopW c body n ρ2 := by
  show (do let k ← c ρ; if k then match ← body ρ with | .nx ρ2 => loopW c body n ρ2 | .ct ρ2 => loopW c body n ρ2 | .bk ρ2 => some (.nx ρ2) | .rt v => some (.rt v) else some (.nx ρ)) = _
  rw [h1]
  show (body ρ >>= _) = _
  rw [h2]; rfl
theorem loopW_end {c : En → Option Bool} {body : En → Option Out} {n : Nat} {ρ : En} (h1 : c ρ = some false) : loopW c body (n + 1) ρ = some (.nx ρ) := by
  show (do let k ← c ρ; if k then match ← body ρ with | .nx ρ2 => loopW c body n ρ2 | .ct ρ2 => loopW c body n ρ2 | .bk ρ2 => some (.nx ρ2) | .rt v => some (.rt v) else some (.nx ρ)) = _
  rw [h1]; rfl
theorem loopF_cons {body : En → Option Out} {tg : Tg} {x : PV} {r : List PV} {ρ ρ1 ρ2 : En} (h1 : asg tg x ρ = some ρ1) (h2 : body ρ1 = some (.nx ρ2)) : loopF body tg (x :: r) ρ = loopF body tg r ρ2 := by
  show (do let ρ1 ← asg tg x ρ; match ← body ρ1 with | .nx ρ2 => loopF body tg r ρ2 | .ct ρ2 => loopF body tg r ρ2 | .bk ρ2 => some (.nx ρ2) | .rt v => some (.rt v)) = _
  rw [h1]
  show (body ρ1 >>= _) = _
  rw [h2]; rfl
theorem loopF_brk {body : En → Option Out} {tg : Tg} {x : PV} {r : List PV} {ρ ρ1 ρ2 : En} (h1 : asg tg x ρ = some ρ1) (h2 : body ρ1 = some (.bk ρ2)) : loopF body tg (x :: r) ρ = some (.nx ρ2) := by
  show (do let ρ1 ← asg tg x ρ; match ← body ρ1 with | .nx ρ2 => loopF body tg r ρ2 | .ct ρ2 => loopF body tg r ρ2 | .bk ρ2 => some (.nx ρ2) | .rt v => some (.rt v)) = _
  rw [h1]
  show (body ρ1 >>= _) = _
  rw [h2]; rfl
theorem gcd_half {n a b : Nat} (hb : 0 < b) (hr : 0 < a % b) (h : b < 2 ^ (n + 1)) : b % (a % b) < 2 ^ n := by
  have h1 := Nat.mod_lt a hb
  have h2 := Nat.mod_lt b hr
  have h3 : b % (a % b) + a % b ≤ b := by
    have := Nat.div_add_mod b (a % b)
    have : 1 ≤ b / (a % b) := Nat.div_pos (by omega) hr
    have : a % b * 1 ≤ a % b * (b / (a % b)) := Nat.mul_le_mul_left _ this
    omega
  rw [Nat.pow_succ] at h
  omega
theorem gcd_step (a b : Nat) : Nat.gcd b (a % b) = Nat.gcd a b := by
  rw [Nat.gcd_comm b, Nat.gcd_comm a, ← Nat.gcd_rec]
end Pz
set_option Elab.async false
set_option linter.all false
set_option maxRecDepth 100000
/-! Pz: the helpers that every law has. -/
namespace Pz
open PySem
def h_mixed : Tb :=
  (.cons (.set 2 false (.int 0))
  (.cons (.ife (.cmp .gt (.blt .len (.cons (.var 0) .nil)) (.int 0)) (.cons (.set 2 false (.idx (.var 0) (.bin .mod (.var 1) (.blt .len (.cons (.var 0) .nil)))))
  .nil) .nil)
  (.cons (.set 3 false (.bin .mod (.blt .int (.cons (.bin .add (.bin .add (.bin .mul (.var 2) (.int 48271)) (.bin .mul (.var 1) (.int 69621))) (.int 8191)) .nil)) (.int 2147483647)))
  (.fgt 2 (.cons (.set 4 false (.bin .mod (.blt .int (.cons (.bin .add (.bin .add (.bin .mul (.var 3) (.var 3)) (.bin .fdiv (.var 3) (.int 7))) (.bin .mul (.var 1) (.int 16807))) .nil)) (.int 2147483629)))
  (.fgt 3 (.cons (.set 5 false (.bin .mod (.blt .int (.cons (.bin .add (.bin .add (.bin .mul (.var 4) (.var 4)) (.bin .fdiv (.var 4) (.int 11))) (.int 40692)) .nil)) (.int 2147483563)))
  (.fgt 4 (.cons (.ret (.bin .mod (.bin .fdiv (.var 5) (.int 5)) (.int 1000003)))
  .nil)))))))))
def h_row_1 : Tb :=
  (.cons (.ife (.cmp .gt (.var 2) (.int 0)) (.cons (.app 3 (.bin .mod (.blt .int (.cons (.var 2) .nil)) (.int 1000)))
  (.fgt 4 (.cons (.set 2 false (.bin .fdiv (.var 2) (.int 1000)))
  .nil))) (.cons (.app 3 (.call "_law_mixed" (.cons (.var 0) (.cons (.var 4) .nil))))
  (.fgt 4 .nil)))
  (.fgt 4 .nil))
def h_row : Tb :=
  (.cons (.set 2 false (.int 0))
  (.cons (.ife (.and (.cmp .gt (.blt .len (.cons (.var 0) .nil)) (.int 0)) (.cmp .ge (.idx (.var 0) (.int 0)) (.bin .pow (.int 10) (.int 18)))) (.cons (.set 2 false (.idx (.var 0) (.int 0)))
  .nil) .nil)
  (.cons (.set 3 true (.lst .nil))
  (.cons (.for_ (.nm 4) (.rng1 (.var 1)) h_row_1)
  (.fgt 2 (.fgt 4 (.cons (.retO 3)
  .nil)))))))
def h_is_int : Tb :=
  (.cons (.ret (.and (.isi (.var 0) .int) (.not (.isi (.var 0) .bool))))
  .nil)
def h_like : Tb :=
  (.cons (.ife (.isN (.var 1)) (.cons (.ret (.isN (.var 0)))
  .nil) .nil)
  (.cons (.ife (.isi (.var 1) .bool) (.cons (.ret (.and (.isi (.var 0) .bool) (.cmp .eq (.var 0) (.var 1))))
  .nil) .nil)
  (.cons (.ife (.isi (.var 1) .tuple) (.cons (.ife (.or (.not (.isi (.var 0) .tuple)) (.cmp .ne (.blt .len (.cons (.var 0) .nil)) (.blt .len (.cons (.var 1) .nil)))) (.cons (.ret (.bl false))
  .nil) .nil)
  (.cons (.ret (.blt .all (.cons (.comp (.call "_law_like" (.cons (.idx (.var 0) (.var 2)) (.cons (.idx (.var 1) (.var 2)) .nil))) (.nm 2) (.rng1 (.blt .len (.cons (.var 1) .nil))) .nil [("k", 2)]) .nil)))
  .nil)) .nil)
  (.cons (.ife (.isi (.var 1) .str) (.cons (.ret (.and (.isi (.var 0) .str) (.cmp .eq (.var 0) (.var 1))))
  .nil) .nil)
  (.cons (.ret (.and (.call "_law_is_int" (.cons (.var 0) .nil)) (.cmp .eq (.var 0) (.var 1))))
  .nil)))))
structure Helps (tbl : List DefR) : Prop where
  mixed : ∃ st, tbl.find? (fun d => d.name == ("_law_mixed" : Str)) = some ⟨"_law_mixed", ["script", "k"], ["script", "k", "cell", "first", "second", "third"], h_mixed, st, []⟩
  row : ∃ st, tbl.find? (fun d => d.name == ("_law_row" : Str)) = some ⟨"_law_row", ["script", "many"], ["script", "many", "big", "row", "k"], h_row, st, []⟩
  isInt : ∃ st, tbl.find? (fun d => d.name == ("_law_is_int" : Str)) = some ⟨"_law_is_int", ["value"], ["value"], h_is_int, st, []⟩
  like : ∃ st, tbl.find? (fun d => d.name == ("_law_like" : Str)) = some ⟨"_law_like", ["value", "due"], ["value", "due", "k"], h_like, st, []⟩
variable {G : Str → Option PV} {tbl : List DefR}
theorem mod_nat {a b : Int} (h : 0 < b) (h2 : b < 18446744073709551616) : (a % b).natAbs < 18446744073709551616 := by
  have := Int.emod_nonneg a (show b ≠ 0 by omega)
  have := Int.emod_lt_of_pos a h
  omega
def mixF (cell k : Int) : Int :=
  let first := (cell * 48271 + k * 69621 + 8191) % 2147483647
  let second := (first * first + first / 7 + k * 16807) % 2147483629
  let third := (second * second + second / 11 + 40692) % 2147483563
  third / 5 % 1000003
theorem mixed_ok (T : Helps tbl) (j : Nat) (ns : List Int) (k : Int) : ∃ v : Int, callF G tbl (j + 1) "_law_mixed" [.list (ns.map .int), .int k] = some ⟨.int v, false⟩ ∧ 0 ≤ v ∧ v < 1000003 := by
  obtain ⟨st, h⟩ := T.mixed
  rw [call_eq h rfl]
  have fin : ∀ c : Int, 0 ≤ mixF c k ∧ mixF c k < 1000003 := fun x => ⟨Int.emod_nonneg _ (by decide), Int.emod_lt_of_pos _ (by decide)⟩
  cases ns with
  | nil =>
    refine ⟨_, ?_, fin 0⟩
    simp [h_mixed, evB, evS, evT, evE, evA, evR, evF, evI, evO, rd, rdS, slotR, init, slOf, outR, frzE, wipeS, bin_mulL, mod_nat, mixF]
  | cons c r =>
    have hm : 0 ≤ k % ((r.length : Int) + 1) ∧ k % ((r.length : Int) + 1) < (r.length : Int) + 1 := ⟨Int.emod_nonneg _ (by omega), Int.emod_lt_of_pos _ (by omega)⟩
    obtain ⟨v, hv⟩ : ∃ v, (c :: r)[(k % ((r.length : Int) + 1)).toNat]? = some v := ⟨_, List.getElem?_eq_getElem (by rw [List.length_cons]; omega)⟩
    have hx : ixOf (r.length + 1) (k % ((r.length : Int) + 1)) = some (k % ((r.length : Int) + 1)).toNat := ixOf_int hm.1 (by omega)
    have hv2 : (PyData.int c :: r.map PyData.int)[(k % ((r.length : Int) + 1)).toNat]? = some (.int v) := by
      have : ((c :: r).map PyData.int)[(k % ((r.length : Int) + 1)).toNat]? = some (.int v) := by rw [List.getElem?_map, hv]; rfl
      exact this
    have hp : (0 : Int) < (r.length : Int) + 1 := by omega
    refine ⟨_, ?_, fin v⟩
    simp [h_mixed, evB, evS, evT, evE, evA, evR, evF, evI, evO, rd, rdS, slotR, init, slOf, outR, frzE, wipeS, bin_mulL, mod_nat, hx, hv2, hp, mixF]
/-- the loop of a row -/
theorem row_loop (T : Helps tbl) (j : Nat) (ns : List Int) (m : Nat) (hm : m ≤ 1000) (big : Int) : ∃ (row : List Int) (b2 : Int), loopF (evB (callF G tbl (j + 1)) G h_row_1)
    (.nm 4) ((List.range m).map fun i => .int (i : Nat)) [.val (.list (ns.map .int)), .val (.int m), .val (.int big), .own [], .no] = some (.nx [.val (.list (ns.map .int)), .val (.int m), .val (.int b2), .own (row.map .int), .no]) ∧ row.length = m ∧ ∀ x ∈ row, 0 ≤ x ∧ x < 1000003 := by
  have H := fun k : Int => mixed_ok (G := G) T j ns k
  let mv := fun k : Int => Classical.choose (H k)
  have hv : ∀ k, callF G tbl (j + 1) "_law_mixed" [.list (ns.map .int), .int k] = some ⟨.int (mv k), false⟩ ∧ 0 ≤ mv k ∧ mv k < 1000003 := fun k => Classical.choose_spec (H k)
  generalize mv = mw at hv
  let st : Int × List Int → En := fun b => [.val (.list (ns.map .int)), .val (.int m), .val (.int b.1), .own (b.2.map .int), .no]
  let step : Int × List Int → Nat → (Int × List Int) ⊕ RV := fun b i => .inl (if 0 < b.1 then (b.1 / 1000, b.2 ++ [b.1 % 1000]) else (b.1, b.2 ++ [mw i]))
  let I : Nat → Int × List Int → Prop := fun i b => b.2.length = i ∧ ∀ x ∈ b.2, 0 ≤ x ∧ x < 1000003
  obtain ⟨l1, l2⟩ := loopF_turns (e := fun i : Nat => PyData.int (i : Nat)) (st := st) (step := step) (I := I) (tg := .nm 4) (xs := List.range m) (i := 0) (b := (big, []))
    (body := evB (callF G tbl (j + 1)) G h_row_1)
    ⟨rfl, fun x h => by cases h⟩ (fun i x b hx ⟨hl, hb⟩ => by
      obtain ⟨hi, ex⟩ := List.getElem?_eq_some_iff.mp hx
      rw [List.length_range] at hi
      rw [List.getElem_range] at ex
      subst ex
      obtain ⟨bg, row⟩ := b
      have hz : row.length < LIM := by
        have : row.length = 0 + i := hl
        unfold LIM; omega
      by_cases hp : 0 < bg
      · refine ⟨⟨_, rfl, .inl ?_⟩, fun b' e => ?_⟩
        · simp [h_row_1, evB, evS, evT, evE, evA, evR, evF, evI, evO, rd, rdS, slotR, init, slOf, outR, frzE, wipeS, st, step, outOf, hp, hz]
        · simp only [step, hp, if_true] at e
          cases e
          refine ⟨by simp; simpa using hl, fun x hx => ?_⟩
          rcases List.mem_append.mp hx with hx | hx
          · exact hb x hx
          · rw [List.mem_singleton] at hx; subst hx
            have := Int.emod_nonneg bg (show (1000 : Int) ≠ 0 by decide)
            have := Int.emod_lt_of_pos bg (show (0 : Int) < 1000 by decide)
            omega
      · refine ⟨⟨_, rfl, .inl ?_⟩, fun b' e => ?_⟩
        · simp [h_row_1, evB, evS, evT, evE, evA, evR, evF, evI, evO, rd, rdS, slotR, init, slOf, outR, frzE, wipeS, st, step, outOf, hp, hz, (hv _).1]
        · simp only [step, hp, if_false] at e
          cases e
          refine ⟨by simp; simpa using hl, fun x hx => ?_⟩
          rcases List.mem_append.mp hx with hx | hx
          · exact hb x hx
          · rw [List.mem_singleton] at hx; subst hx
            exact (hv _).2)
  cases ht : turnsR step (List.range m) (big, []) with
  | inr v =>
    exfalso
    have : ∀ (xs : List Nat) b, turnsR step xs b ≠ .inr v := fun xs => by
      induction xs with
      | nil => intro b h; cases h
      | cons x r ih => intro b h; exact ih _ h
    exact this _ _ ht
  | inl b =>
    obtain ⟨i1, i2⟩ := l2 b ht
    refine ⟨b.2, b.1, ?_, by rw [i1]; simp, i2⟩
    rw [ht] at l1
    exact l1
theorem row_ok (T : Helps tbl) (j : Nat) (ns : List Int) (m : Nat) (hm : m ≤ 1000) : ∃ row : List Int, callF G tbl (j + 2) "_law_row" [.list (ns.map .int), .int m] = some ⟨.list (row.map .int), true⟩ ∧ row.length = m ∧ ∀ x ∈ row, 0 ≤ x ∧ x < 1000003 := by
  obtain ⟨st, h⟩ := T.row
  rw [call_eq h rfl]
  have ml : (m : Int).natAbs ≤ LIM := by unfold LIM; omega
  have ml : m ≤ LIM := by unfold LIM; omega
  cases ns with
  | nil =>
    obtain ⟨row, b, e, r⟩ := row_loop (G := G) T j [] m hm 0
    rw [List.map_nil] at e
    refine ⟨row, ?_, r⟩
    simp [h_row, evB, evS, evT, evE, evA, evR, evF, evI, evO, rd, rdS, slotR, init, slOf, outR, frzE, wipeS, ml, rngL_zero, e]
  | cons c r =>
    by_cases hc : (10 : Int) ^ 18 ≤ c
    · obtain ⟨row, b, e, q⟩ := row_loop (G := G) T j (c :: r) m hm c
      rw [List.map_cons] at e
      refine ⟨row, ?_, q⟩
      have hc2 : (1000000000000000000 : Int) ≤ c := by simpa using hc
      simp [h_row, evB, evS, evT, evE, evA, evR, evF, evI, evO, rd, rdS, slotR, init, slOf, outR, frzE, wipeS, ml, rngL_zero, hc2, e]
    · obtain ⟨row, b, e, q⟩ := row_loop (G := G) T j (c :: r) m hm 0
      rw [List.map_cons] at e
      refine ⟨row, ?_, q⟩
      have hc2 : ¬ (1000000000000000000 : Int) ≤ c := by simpa using hc
      simp [h_row, evB, evS, evT, evE, evA, evR, evF, evI, evO, rd, rdS, slotR, init, slOf, outR, frzE, wipeS, ml, rngL_zero, hc2, e]
/-! ### _law_like of a value and itself -/
mutual
/-- what _law_like speaks of -/
def lk : PV → Bool
  | .none => true
  | .bool _ => true
  | .int _ => true
  | .str _ => true
  | .tuple xs => decide (xs.length ≤ LIM) && lks xs
  | _ => false
def lks : List PV → Bool
  | [] => true
  | x :: r => lk x && lks r
end
mutual
def ldp : PV → Nat
  | .tuple xs => ldps xs + 1
  | _ => 0
def ldps : List PV → Nat
  | [] => 0
  | x :: r => max (ldp x) (ldps r)
end
theorem lks_get : ∀ {xs : List PV} {i : Nat} {x : PV}, lks xs = true → xs[i]? = some x → lk x = true ∧ ldp x ≤ ldps xs
  | [], _, _, _, e => by simp at e
  | y :: r, 0, x, h, e => by
    cases e
    have h : (lk y && lks r) = true := h
    rw [Bool.and_eq_true] at h
    exact ⟨h.1, Nat.le_max_left _ _⟩
  | y :: r, i + 1, x, h, e => by
    have h : (lk y && lks r) = true := h
    rw [Bool.and_eq_true] at h
    obtain ⟨a, b⟩ := lks_get (i := i) h.2 (by simpa using e)
    exact ⟨a, Nat.le_trans b (Nat.le_max_right _ _)⟩
theorem is_int_ok (T : Helps tbl) (j : Nat) (i : Int) : callF G tbl (j + 1) "_law_is_int" [.int i] = some ⟨.bool true, false⟩ := by
  obtain ⟨st, h⟩ := T.isInt
  rw [call_eq h rfl]
  simp [h_is_int, evB, evS, evT, evE, evA, evR, evF, evI, evO, rd, rdS, slotR, init, slOf, outR, frzE, wipeS, isiB]
theorem like_ok (T : Helps tbl) : ∀ (n j : Nat) (x : PV), lk x = true → ldp x ≤ n → callF G tbl (n + j + 2) "_law_like" [x, x] = some ⟨.bool true, false⟩ := by
  intro n
  obtain ⟨st, h⟩ := T.like
  induction n with
  | zero =>
    intro j x hx hd
    rw [call_eq h rfl]
    have hi := fun i => is_int_ok (G := G) T j i
    cases x with
    | none => simp [h_like, evB, evS, evT, evE, evA, evR, evF, evI, evO, rd, rdS, slotR, init, slOf, outR, frzE, wipeS, isiB, isNone]
    | bool b => simp [h_like, evB, evS, evT, evE, evA, evR, evF, evI, evO, rd, rdS, slotR, init, slOf, outR, frzE, wipeS, isiB, isNone]
    | int i => simp [h_like, evB, evS, evT, evE, evA, evR, evF, evI, evO, rd, rdS, slotR, init, slOf, outR, frzE, wipeS, isiB, isNone, hi]
    | str s => simp [h_like, evB, evS, evT, evE, evA, evR, evF, evI, evO, rd, rdS, slotR, init, slOf, outR, frzE, wipeS, isiB, isNone]
    | list xs => cases hx
    | tuple xs =>
      have hd : ldps xs + 1 ≤ 0 := hd
      omega
    | dict kvs => cases hx
  | succ n ih =>
    intro j x hx hd
    rw [call_eq h rfl]
    have hi := fun i => is_int_ok (G := G) T (n + 1 + j) i
    cases x with
    | none => simp [h_like, evB, evS, evT, evE, evA, evR, evF, evI, evO, rd, rdS, slotR, init, slOf, outR, frzE, wipeS, isiB, isNone]
    | bool b => simp [h_like, evB, evS, evT, evE, evA, evR, evF, evI, evO, rd, rdS, slotR, init, slOf, outR, frzE, wipeS, isiB, isNone]
    | int i => simp [h_like, evB, evS, evT, evE, evA, evR, evF, evI, evO, rd, rdS, slotR, init, slOf, outR, frzE, wipeS, isiB, isNone, hi]
    | str s => simp [h_like, evB, evS, evT, evE, evA, evR, evF, evI, evO, rd, rdS, slotR, init, slOf, outR, frzE, wipeS, isiB, isNone]
    | list xs => cases hx
    | tuple xs =>
      have hd : ldps xs + 1 ≤ n + 1 := hd
      have hx : (decide (xs.length ≤ LIM) && lks xs) = true := hx
      rw [Bool.and_eq_true, decide_eq_true_eq] at hx
      have key : ∀ i ∈ List.range xs.length, (do
          let vs ← (ixOf xs.length (i : Int)).bind (xs[·]?)
          callF G tbl (n + 1 + j + 1) "_law_like" [vs, vs]) = some ⟨.bool true, false⟩ := fun i hi => by
        rw [List.mem_range] at hi
        rw [ixOf_nat hi]
        show (xs[i]? >>= _) = _
        rw [List.getElem?_eq_getElem hi]
        obtain ⟨a, b⟩ := lks_get hx.2 (List.getElem?_eq_getElem hi)
        have := ih j xs[i] a (by omega)
        rw [show n + j + 2 = n + 1 + j + 1 by omega] at this
        exact this
      simp [h_like, evB, evS, evT, evE, evA, evR, evF, evI, evO, rd, rdS, slotR, init, slOf, outR, frzE, wipeS, isiB, isNone, hx.1, rngL_zero]
      rw [compL_map (e := fun i : Nat => PyData.int i) (g := fun _ => .bool true) fun i hi => ?_]
      · simp [evB, evS, evT, evE, evA, evR, evF, evI, evO, rd, rdS, slotR, init, slOf, outR, frzE, wipeS]
      · have k2 := key i hi
        rw [List.mem_range] at hi
        simp [ixOf_nat hi, hi] at k2 ⊢
        exact ⟨_, k2, rfl⟩
    | dict kvs => cases hx
end Pz
set_option Elab.async false
set_option linter.all false
set_option maxRecDepth 100000
/-! Pz: more words for plain laws. -/
namespace Pz
open PySem
theorem loopF_ret {body : En → Option Out} {tg : Tg} {x : PV} {r : List PV} {ρ ρ1 : En} {v : RV} (h1 : asg tg x ρ = some ρ1) (h2 : body ρ1 = some (.rt v)) : loopF body tg (x :: r) ρ = some (.rt v) := by
  show (do let ρ1 ← asg tg x ρ; match ← body ρ1 with | .nx ρ2 => loopF body tg r ρ2 | .ct ρ2 => loopF body tg r ρ2 | .bk ρ2 => some (.nx ρ2) | .rt v => some (.rt v)) = _
  rw [h1]
  show (body ρ1 >>= _) = _
  rw [h2]; rfl
theorem bmul {a b : Nat} (h : a < 18446744073709551616) : evBin .mul (.int (a : Nat)) (.int (b : Nat)) = some ⟨.int (a * b : Nat), false⟩ := by
  rw [bin_mulL (by simpa using h), Int.natCast_mul]
theorem nsub {a b : Nat} (h : b ≤ a) : (a : Int) - (b : Int) = ((a - b : Nat) : Int) := by omega
theorem nonneg (a : Nat) : ¬ ((a : Int) < 0) := by omega
theorem rep_flat {α : Type} (x : α) : ∀ n : Nat, (List.replicate n [x]).flatten = List.replicate n x
  | 0 => rfl
  | n + 1 => by rw [List.replicate_succ, List.flatten_cons, rep_flat x n]; rfl
theorem row_ix {row : List Int} {i : Nat} (h : i < row.length) : evIdx (.list (row.map .int)) (.int (i : Nat)) = some (.int row[i]) := by
  simp [ixOf_nat h, h]
/-- a row of numbers -/
def pn (r : List Nat) : PV := .tuple (r.map fun n => .int (n : Nat))
theorem lk_pn (r : List Nat) (h : r.length ≤ 1000000) : lk (pn r) = true ∧ ldp (pn r) ≤ 1 := by
  have a : ∀ r : List Nat, lks (r.map fun n => .int (n : Nat)) = true := fun r => by
    induction r with
    | nil => rfl
    | cons x r ih => exact ih
  have b : ∀ r : List Nat, ldps (r.map fun n => .int (n : Nat)) = 0 := fun r => by
    induction r with
    | nil => rfl
    | cons x r ih => show max 0 (ldps (r.map fun n => .int (n : Nat))) = 0; rw [ih]; rfl
  refine ⟨?_, ?_⟩
  · show (decide (_ ≤ LIM) && lks _) = true
    rw [a]; simp [LIM]; omega
  · show ldps _ + 1 ≤ 1
    rw [b]; omega
theorem lk_tup (xs : List PV) (n : Nat) (hl : xs.length ≤ 1000000) (h : ∀ x ∈ xs, lk x = true ∧ ldp x ≤ n) : lk (.tuple xs) = true ∧ ldp (.tuple xs) ≤ n + 1 := by
  have a : ∀ xs : List PV, (∀ x ∈ xs, lk x = true ∧ ldp x ≤ n) → lks xs = true ∧ ldps xs ≤ n := fun xs => by
    induction xs with
    | nil => exact fun _ => ⟨rfl, by show 0 ≤ n; omega⟩
    | cons x r ih =>
      intro h
      obtain ⟨a, b⟩ := ih fun y hy => h y (List.mem_cons_of_mem _ hy)
      obtain ⟨c, d⟩ := h x List.mem_cons_self
      refine ⟨?_, ?_⟩
      · show (lk x && lks r) = true
        rw [c, a]; rfl
      · show max (ldp x) (ldps r) ≤ n
        omega
  obtain ⟨b, c⟩ := a xs h
  refine ⟨?_, ?_⟩
  · show (decide (_ ≤ LIM) && lks _) = true
    rw [b, decide_eq_true (by unfold LIM; omega)]; rfl
  · show ldps _ + 1 ≤ n + 1
    omega
theorem sum_nat : ∀ r : List Nat, (r.map fun n : Nat => (n : Int)).sum = ((r.sum : Nat) : Int)
  | [] => rfl
  | x :: r => by rw [List.map_cons, List.sum_cons, List.sum_cons, sum_nat r, Int.natCast_add]
theorem sum_natM {α : Type} (f : α → Nat) : ∀ r : List α, (r.map fun x => ((f x : Nat) : Int)).sum = (((r.map f).sum : Nat) : Int)
  | [] => rfl
  | x :: r => by rw [List.map_cons, List.map_cons, List.sum_cons, List.sum_cons, sum_natM f r, Int.natCast_add]
theorem minOf_le : ∀ (xs : List Int) (x : Int), PySem.W.minOf x xs ≤ x ∧ (∀ y ∈ xs, PySem.W.minOf x xs ≤ y) ∧ (PySem.W.minOf x xs = x ∨ PySem.W.minOf x xs ∈ xs)
  | [], x => ⟨Int.le_refl _, fun y h => (by cases h), .inl rfl⟩
  | z :: r, x => by
    have e : PySem.W.minOf x (z :: r) = PySem.W.minOf (if z < x then z else x) r := by
      show (r.foldl _ (if PySem.W.DatumOrd.lt z x = true then z else x)) = _
      have : (PySem.W.DatumOrd.lt z x = true) = (z < x) := by
        show (decide (z < x) = true) = _
        rw [decide_eq_true_eq]
      simp only [this]; rfl
    rw [e]
    obtain ⟨a, b, c⟩ := minOf_le r (if z < x then z else x)
    by_cases h : z < x
    · rw [if_pos h] at a b c ⊢
      refine ⟨by omega, fun y hy => ?_, ?_⟩
      · rcases List.mem_cons.mp hy with rfl | hy
        · exact a
        · exact b y hy
      · rcases c with c | c
        · exact .inr (by rw [c]; exact List.mem_cons_self)
        · exact .inr (List.mem_cons_of_mem _ c)
    · rw [if_neg h] at a b c ⊢
      refine ⟨a, fun y hy => ?_, ?_⟩
      · rcases List.mem_cons.mp hy with rfl | hy
        · omega
        · exact b y hy
      · rcases c with c | c
        · exact .inl c
        · exact .inr (List.mem_cons_of_mem _ c)
/-- the least of whole numbers -/
theorem blt_minL {xs : List Int} {m : Int} (h : m ∈ xs) (h2 : ∀ y ∈ xs, m ≤ y) : evBlt .min [.list (xs.map .int)] = some ⟨.int m, false⟩ := by
  cases xs with
  | nil => cases h
  | cons x r =>
    show (bestB false ((x :: r).map .int)).map _ = _
    rw [show bestB false ((x :: r).map PyData.int) = _ from bestB_toD (α := Int) false x r (by decide)]
    obtain ⟨a, b, c⟩ := minOf_le r x
    have e : PySem.W.minOf x r = m := by
      have h3 : m ≤ PySem.W.minOf x r := by
        rcases c with c | c
        · rw [c]; exact h2 x List.mem_cons_self
        · exact h2 _ (List.mem_cons_of_mem _ c)
      have h4 : PySem.W.minOf x r ≤ m := by
        rcases List.mem_cons.mp h with rfl | h
        · exact a
        · exact b m h
      omega
    show some (⟨.int (PySem.W.minOf x r), false⟩ : RV) = _
    rw [e]
theorem blt_maxL {xs : List Int} {m : Int} (h : m ∈ xs) (h2 : ∀ y ∈ xs, y ≤ m) : evBlt .max [.list (xs.map .int)] = some ⟨.int m, false⟩ := by
  cases xs with
  | nil => cases h
  | cons x r =>
    show (bestB true ((x :: r).map .int)).map _ = _
    rw [show bestB true ((x :: r).map PyData.int) = _ from bestB_toD (α := Int) true x r (by decide)]
    obtain ⟨a, b, c⟩ := maxOf_le r x
    have e : PySem.W.maxOf x r = m := by
      have h3 : PySem.W.maxOf x r ≤ m := by
        rcases c with c | c
        · rw [c]; exact h2 x List.mem_cons_self
        · exact h2 _ (List.mem_cons_of_mem _ c)
      have h4 : m ≤ PySem.W.maxOf x r := by
        rcases List.mem_cons.mp h with rfl | h
        · exact a
        · exact b m h
      omega
    show some (⟨.int (PySem.W.maxOf x r), false⟩ : RV) = _
    rw [e]
theorem lkp_put (kvs : List (L2.Key × PV)) (k k' : L2.Key) (v : PV) : lkp (putP kvs k v) k' = if k' = k then some v else lkp kvs k' := by
  have hm : ∀ kvs : List (L2.Key × PV), lkp (kvs.map fun kv => if kv.1 = k then (kv.1, v) else kv) k' = if k' = k then (if (kvs.any fun kv => decide (kv.1 = k)) = true then some v else none) else lkp kvs k' := fun kvs => by
    induction kvs with
    | nil => unfold lkp; simp
    | cons q r ih =>
      rw [List.map_cons]
      by_cases h : q.1 = k
      · rw [if_pos h]
        by_cases h2 : k' = k
        · rw [if_pos h2]
          unfold lkp
          rw [List.find?_cons]
          simp [h, h2]
        · rw [if_neg h2] at ih ⊢
          have : ¬ q.1 = k' := fun e => h2 (e.symm.trans h)
          unfold lkp at ih ⊢
          rw [List.find?_cons, List.find?_cons]
          simp only [this, decide_false]
          exact ih
      · rw [if_neg h]
        by_cases h2 : k' = k
        · rw [if_pos h2] at ih ⊢
          have : ¬ q.1 = k' := fun e => h (e.trans h2)
          unfold lkp at ih ⊢
          rw [List.find?_cons]
          simp only [this, decide_false, List.any_cons, h, Bool.false_or]
          exact ih
        · rw [if_neg h2] at ih ⊢
          unfold lkp at ih ⊢
          rw [List.find?_cons, List.find?_cons]
          split
          · rfl
          · exact ih
  unfold putP
  by_cases ha : (kvs.any fun kv => decide (kv.1 = k)) = true
  · rw [if_pos ha, hm]
    simp only [ha, if_true]
  · rw [if_neg ha]
    have nf : ∀ kvs : List (L2.Key × PV), ¬ (kvs.any fun kv => decide (kv.1 = k)) = true → lkp (kvs ++ [(k, v)]) k' = if k' = k then some v else lkp kvs k' := fun kvs => by
      induction kvs with
      | nil =>
        intro _
        unfold lkp
        by_cases h2 : k' = k
        · subst h2; simp
        · have : ¬ k = k' := fun e => h2 e.symm
          simp [h2, this]
      | cons q r ih =>
        intro hn
        rw [List.any_cons, Bool.or_eq_true, not_or] at hn
        have hq : ¬ q.1 = k := by simpa using hn.1
        have ih := ih hn.2
        rw [List.cons_append]
        unfold lkp at ih ⊢
        rw [List.find?_cons, List.find?_cons]
        by_cases h3 : q.1 = k'
        · have : ¬ k' = k := fun e => hq (h3.trans e)
          simp [h3, this]
        · simp only [h3, decide_false]
          exact ih
    exact nf kvs ha
theorem putP_len (kvs : List (L2.Key × PV)) (k : L2.Key) (v : PV) : (putP kvs k v).length ≤ kvs.length + 1 := by
  unfold putP
  split
  · rw [List.length_map]; omega
  · rw [List.length_append]; simp
end Pz
set_option Elab.async false
set_option linter.all false
set_option maxRecDepth 100000
/-! the defs of the text, in the own syntax (printed by gen.py) -/
namespace K64
open PySem Pz L2
def topS (i : Nat) : Stmt := PySem.Challenge.pw_lentkept_k64_whole_names_seen_round.main.body.getD i (.Pass ⟨0, 0, 0, 0⟩)
def l_joined_1 : Tb :=
  (.cons (.ife (.and (.cmp .eq (.var 4) (.idx (.var 2) (.var 3))) (.cmp .notIn (.var 5) (.var 2))) (.cons (.app 2 (.var 5))
  .nil) .nil)
  (.cons (.ife (.and (.cmp .eq (.var 5) (.idx (.var 2) (.var 3))) (.cmp .notIn (.var 4) (.var 2))) (.cons (.app 2 (.var 4))
  (.fgt 4 (.fgt 5 .nil))) .nil)
  (.fgt 4 (.fgt 5 .nil))))
def l_joined_2 : Tb :=
  (.cons (.for_ (.tp (.cons (.nm 4) (.cons (.nm 5) .nil))) (.seq (.var 0)) l_joined_1)
  (.fgt 4 (.fgt 5 (.cons (.aug 3 false (.int 1))
  .nil))))
def b_joined : Tb :=
  (.cons (.par 2 3 true false (.lst (.cons (.var 1) .nil)) (.int 0))
  (.cons (.while_ 1000 (.cmp .lt (.var 3) (.blt .len (.cons (.var 2) .nil))) l_joined_2)
  (.fgt 3 (.fgt 4 (.fgt 5 (.cons (.ret (.blt .tuple (.cons (.blt .sorted (.cons (.var 2) .nil)) .nil)))
  .nil))))))
def d_joined : DefR := ⟨"joined", ["pairs", "name"], ["pairs", "name", "found", "at", "one", "other"], b_joined, topS 1, []⟩
def b_name_sets : Tb :=
  (.cons (.set 1 false (.sset (.comp2 (.var 5) (.nm 4) (.seq (.var 0)) .nil (.nm 5) (.seq (.var 4)) .nil [("pair", 4), ("name", 5)] [5])))
  (.cons (.set 2 false (.sset (.comp (.call "joined" (.cons (.var 0) (.cons (.var 5) .nil))) (.nm 5) (.seq (.var 1)) .nil [("name", 5)])))
  (.fgt 1 (.cons (.ret (.blt .tuple (.cons (.comp (.var 3) (.nm 3) (.seq (.var 2)) (.cons (.cmp .gt (.blt .len (.cons (.var 3) .nil)) (.int 1)) .nil) [("one", 3)]) .nil)))
  .nil))))
def d_name_sets : DefR := ⟨"name_sets", ["pairs"], ["pairs", "names", "sets", "one", "pair", "name"], b_name_sets, topS 2, []⟩
def b_head_of : Tb :=
  (.cons (.ret (.idx (.call "joined" (.cons (.var 0) (.cons (.var 1) .nil))) (.int 0)))
  .nil)
def d_head_of : DefR := ⟨"head_of", ["pairs", "name"], ["pairs", "name"], b_head_of, topS 3, []⟩
def l_see_end_1 : Tb :=
  (.cons (.ife (.din true 2 (.var 1)) (.cons (.ret (.var 1))
  .nil) .nil)
  (.fgt 3 (.cons (.set 1 false (.dget 2 (.var 1)))
  .nil)))
def b_see_end : Tb :=
  (.cons (.dcm 2 (.var 4) (.var 5) (.tp (.cons (.nm 4) (.cons (.nm 5) .nil))) (.seq (.var 0)) .nil [("one", 4), ("other", 5)])
  (.cons (.for_ (.nm 3) (.rng1 (.bin .add (.blt .len (.cons (.var 0) .nil)) (.int 1))) l_see_end_1)
  (.fgt 2 (.fgt 3 (.cons (.ret .non)
  .nil)))))
def d_see_end : DefR := ⟨"see_end", ["table", "name"], ["table", "name", "told", "_", "one", "other"], b_see_end, topS 4, []⟩
def l_see_rings_1 : Tb :=
  (.cons (.app 4 (.var 5))
  (.cons (.set 5 false (.dget 1 (.var 5)))
  .nil))
def l_see_rings_2 : Tb :=
  (.cons (.par 4 5 true false (.lst (.cons (.var 3) .nil)) (.dget 1 (.var 3)))
  (.cons (.while_ 1000 (.and (.din false 1 (.var 5)) (.cmp .notIn (.var 5) (.var 4))) l_see_rings_1)
  (.cons (.ife (.and (.cmp .eq (.var 5) (.var 3)) (.cmp .eq (.var 3) (.blt .min (.cons (.var 4) .nil)))) (.cons (.app 2 (.blt .tuple (.cons (.var 4) .nil)))
  (.fgt 3 (.fgt 4 (.fgt 5 .nil)))) .nil)
  (.fgt 3 (.fgt 4 (.fgt 5 .nil))))))
def b_see_rings : Tb :=
  (.cons (.dcm2 1 2 true (.var 6) (.var 7) (.tp (.cons (.nm 6) (.cons (.nm 7) .nil))) (.seq (.var 0)) .nil [("one", 6), ("other", 7)] (.lst .nil))
  (.cons (.for_ (.nm 3) (.seq (.dsort 1)) l_see_rings_2)
  (.fgt 1 (.fgt 3 (.fgt 4 (.fgt 5 (.cons (.ret (.blt .tuple (.cons (.var 2) .nil)))
  .nil)))))))
def d_see_rings : DefR := ⟨"see_rings", ["table"], ["table", "told", "found", "start", "row", "here", "one", "other"], b_see_rings, topS 5, []⟩
def b_short_see : Tb :=
  (.cons (.set 1 false (.comp (.tup (.cons (.var 2) (.cons (.call "see_end" (.cons (.var 0) (.cons (.var 2) .nil))) .nil))) (.tp (.cons (.nm 2) (.cons (.nm 3) .nil))) (.seq (.var 0)) .nil [("one", 2), ("other", 3)]))
  (.cons (.ret (.blt .tuple (.cons (.blt .sorted (.cons (.comp (.var 4) (.nm 4) (.seq (.var 1)) (.cons (.notN (.idx (.var 4) (.int 1))) .nil) [("pair", 4)]) .nil)) .nil)))
  .nil))
def d_short_see : DefR := ⟨"short_see", ["table"], ["table", "found", "one", "other", "pair"], b_short_see, topS 6, []⟩
def b_is_pair : Tb :=
  (.cons (.ife (.or (.not (.isi (.var 0) .tuple)) (.cmp .ne (.blt .len (.cons (.var 0) .nil)) (.int 2))) (.cons (.ret (.bl false))
  .nil) .nil)
  (.cons (.ret (.blt .all (.cons (.comp (.and (.isi (.var 1) .int) (.and (.not (.isi (.var 1) .bool)) (.chain .le .le (.int 0) (.var 1) (.glob "MOST_SUBJECT")))) (.nm 1) (.seq (.var 0)) .nil [("part", 1)]) .nil)))
  .nil))
def d_is_pair : DefR := ⟨"is_pair", ["value"], ["value", "part"], b_is_pair, topS 9, []⟩
def b_is_subjects : Tb :=
  (.cons (.ife (.or (.not (.isi (.var 0) .tuple)) (.not (.blt .all (.cons (.comp (.call "is_pair" (.cons (.var 4) .nil)) (.nm 4) (.seq (.var 0)) .nil [("pair", 4)]) .nil)))) (.cons (.ret (.bl false))
  .nil) .nil)
  (.cons (.ife (.not (.blt .all (.cons (.comp (.cmp .lt (.idx (.var 0) (.var 1)) (.idx (.var 0) (.bin .add (.var 1) (.int 1)))) (.nm 1) (.rng1 (.bin .sub (.blt .len (.cons (.var 0) .nil)) (.int 1))) .nil [("place", 1)]) .nil))) (.cons (.ret (.bl false))
  .nil) .nil)
  (.cons (.ret (.not (.blt .any (.cons (.comp (.cmp .isIn (.var 3) (.call "below_all" (.cons (.var 0) (.cons (.var 2) .nil)))) (.tp (.cons (.nm 2) (.cons (.nm 3) .nil))) (.seq (.var 0)) .nil [("below", 2), ("above", 3)]) .nil))))
  .nil)))
def d_is_subjects : DefR := ⟨"is_subjects", ["value"], ["value", "place", "below", "above", "pair"], b_is_subjects, topS 10, []⟩
def l_reach_1 : Tb :=
  (.cons (.ext 2 (.comp (.var 5) (.tp (.cons (.nm 4) (.cons (.nm 5) .nil))) (.seq (.var 0)) (.cons (.and (.cmp .eq (.var 4) (.idx (.var 2) (.var 3))) (.cmp .notIn (.var 5) (.var 2))) .nil) [("u", 4), ("v", 5)]))
  (.cons (.aug 3 false (.int 1))
  .nil))
def b_reach : Tb :=
  (.cons (.par 2 3 true false (.lst (.cons (.var 1) .nil)) (.int 0))
  (.cons (.while_ 1000 (.cmp .lt (.var 3) (.blt .len (.cons (.var 2) .nil))) l_reach_1)
  (.fgt 3 (.cons (.ret (.blt .tuple (.cons (.sset (.var 2)) .nil)))
  .nil))))
def d_reach : DefR := ⟨"reach", ["pairs", "subject"], ["pairs", "subject", "found", "at", "u", "v"], b_reach, topS 11, []⟩
def b_above_all : Tb :=
  (.cons (.ret (.call "reach" (.cons (.var 0) (.cons (.var 1) .nil))))
  .nil)
def d_above_all : DefR := ⟨"above_all", ["pairs", "subject"], ["pairs", "subject"], b_above_all, topS 12, []⟩
def b_below_all : Tb :=
  (.cons (.ret (.call "reach" (.cons (.comp (.tup (.cons (.var 3) (.cons (.var 2) .nil))) (.tp (.cons (.nm 2) (.cons (.nm 3) .nil))) (.seq (.var 0)) .nil [("below", 2), ("above", 3)]) (.cons (.var 1) .nil))))
  .nil)
def d_below_all : DefR := ⟨"below_all", ["pairs", "subject"], ["pairs", "subject", "below", "above"], b_below_all, topS 13, []⟩
def l_ways_up_1 : Tb :=
  (.cons (.set 6 false (.comp (.var 8) (.tp (.cons (.nm 7) (.cons (.nm 8) .nil))) (.seq (.var 0)) (.cons (.cmp .eq (.var 7) (.idx (.var 5) (.neg (.int 1)))) .nil) [("u", 7), ("v", 8)]))
  (.cons (.ext 3 (.ife (.var 6) (.lst .nil) (.lst (.cons (.var 5) .nil))))
  (.cons (.ext 4 (.comp (.bin .add (.var 5) (.tup (.cons (.var 8) .nil))) (.nm 8) (.seq (.var 6)) .nil [("v", 8)]))
  (.fgt 5 (.fgt 6 .nil)))))
def l_ways_up_2 : Tb :=
  (.cons (.set 4 true (.lst .nil))
  (.cons (.for_ (.nm 5) (.seq (.var 2)) l_ways_up_1)
  (.fgt 5 (.fgt 6 (.frz 4 (.cons (.set 2 false (.var 4))
  (.fgt 4 .nil)))))))
def b_ways_up : Tb :=
  (.cons (.par 2 3 false true (.lst (.cons (.tup (.cons (.var 1) .nil)) .nil)) (.lst .nil))
  (.cons (.while_ 1000 (.var 2) l_ways_up_2)
  (.fgt 2 (.fgt 4 (.fgt 5 (.fgt 6 (.cons (.ret (.blt .tuple (.cons (.blt .sorted (.cons (.var 3) .nil)) .nil)))
  .nil)))))))
def d_ways_up : DefR := ⟨"ways_up", ["pairs", "subject"], ["pairs", "subject", "rows", "found", "grown", "row", "above", "u", "v"], b_ways_up, topS 14, []⟩
def b_law_mixed : Tb :=
  (.cons (.set 2 false (.int 0))
  (.cons (.ife (.cmp .gt (.blt .len (.cons (.var 0) .nil)) (.int 0)) (.cons (.set 2 false (.idx (.var 0) (.bin .mod (.var 1) (.blt .len (.cons (.var 0) .nil)))))
  .nil) .nil)
  (.cons (.set 3 false (.bin .mod (.blt .int (.cons (.bin .add (.bin .add (.bin .mul (.var 2) (.int 48271)) (.bin .mul (.var 1) (.int 69621))) (.int 8191)) .nil)) (.int 2147483647)))
  (.fgt 2 (.cons (.set 4 false (.bin .mod (.blt .int (.cons (.bin .add (.bin .add (.bin .mul (.var 3) (.var 3)) (.bin .fdiv (.var 3) (.int 7))) (.bin .mul (.var 1) (.int 16807))) .nil)) (.int 2147483629)))
  (.fgt 3 (.cons (.set 5 false (.bin .mod (.blt .int (.cons (.bin .add (.bin .add (.bin .mul (.var 4) (.var 4)) (.bin .fdiv (.var 4) (.int 11))) (.int 40692)) .nil)) (.int 2147483563)))
  (.fgt 4 (.cons (.ret (.bin .mod (.bin .fdiv (.var 5) (.int 5)) (.int 1000003)))
  .nil)))))))))
def d_law_mixed : DefR := ⟨"_law_mixed", ["script", "k"], ["script", "k", "cell", "first", "second", "third"], b_law_mixed, topS 16, []⟩
def l_law_row_1 : Tb :=
  (.cons (.ife (.cmp .gt (.var 2) (.int 0)) (.cons (.app 3 (.bin .mod (.blt .int (.cons (.var 2) .nil)) (.int 1000)))
  (.fgt 4 (.cons (.set 2 false (.bin .fdiv (.var 2) (.int 1000)))
  .nil))) (.cons (.app 3 (.call "_law_mixed" (.cons (.var 0) (.cons (.var 4) .nil))))
  (.fgt 4 .nil)))
  (.fgt 4 .nil))
def b_law_row : Tb :=
  (.cons (.set 2 false (.int 0))
  (.cons (.ife (.and (.cmp .gt (.blt .len (.cons (.var 0) .nil)) (.int 0)) (.cmp .ge (.idx (.var 0) (.int 0)) (.bin .pow (.int 10) (.int 18)))) (.cons (.set 2 false (.idx (.var 0) (.int 0)))
  .nil) .nil)
  (.cons (.set 3 true (.lst .nil))
  (.cons (.for_ (.nm 4) (.rng1 (.var 1)) l_law_row_1)
  (.fgt 2 (.fgt 4 (.cons (.retO 3)
  .nil)))))))
def d_law_row : DefR := ⟨"_law_row", ["script", "many"], ["script", "many", "big", "row", "k"], b_law_row, topS 17, []⟩
def b_law_is_int : Tb :=
  (.cons (.ret (.and (.isi (.var 0) .int) (.not (.isi (.var 0) .bool))))
  .nil)
def d_law_is_int : DefR := ⟨"_law_is_int", ["value"], ["value"], b_law_is_int, topS 18, []⟩
def b_law_like : Tb :=
  (.cons (.ife (.isN (.var 1)) (.cons (.ret (.isN (.var 0)))
  .nil) .nil)
  (.cons (.ife (.isi (.var 1) .bool) (.cons (.ret (.and (.isi (.var 0) .bool) (.cmp .eq (.var 0) (.var 1))))
  .nil) .nil)
  (.cons (.ife (.isi (.var 1) .tuple) (.cons (.ife (.or (.not (.isi (.var 0) .tuple)) (.cmp .ne (.blt .len (.cons (.var 0) .nil)) (.blt .len (.cons (.var 1) .nil)))) (.cons (.ret (.bl false))
  .nil) .nil)
  (.cons (.ret (.blt .all (.cons (.comp (.call "_law_like" (.cons (.idx (.var 0) (.var 2)) (.cons (.idx (.var 1) (.var 2)) .nil))) (.nm 2) (.rng1 (.blt .len (.cons (.var 1) .nil))) .nil [("k", 2)]) .nil)))
  .nil)) .nil)
  (.cons (.ife (.isi (.var 1) .str) (.cons (.ret (.and (.isi (.var 0) .str) (.cmp .eq (.var 0) (.var 1))))
  .nil) .nil)
  (.cons (.ret (.and (.call "_law_is_int" (.cons (.var 0) .nil)) (.cmp .eq (.var 0) (.var 1))))
  .nil)))))
def d_law_like : DefR := ⟨"_law_like", ["value", "due"], ["value", "due", "k"], b_law_like, topS 19, []⟩
def l_law_table_1 : Tb :=
  (.cons (.set 4 false (.blt .int (.cons (.idx (.var 0) (.bin .add (.int 1) (.var 3))) .nil)))
  (.cons (.set 5 false (.bin .mod (.bin .fdiv (.var 4) (.int 4)) (.int 10)))
  (.cons (.ife (.var 2) (.cons (.set 5 false (.bin .add (.bin .add (.var 3) (.int 1)) (.bin .mod (.bin .fdiv (.var 4) (.int 4)) (.bin .sub (.int 10) (.var 3)))))
  .nil) .nil)
  (.cons (.ife (.and (.cmp .gt (.bin .mod (.var 4) (.int 4)) (.int 0)) (.cmp .lt (.var 5) (.int 10))) (.cons (.app 1 (.tup (.cons (.var 3) (.cons (.var 5) .nil))))
  (.fgt 3 (.fgt 4 (.fgt 5 .nil)))) .nil)
  (.fgt 3 (.fgt 4 (.fgt 5 .nil)))))))
def b_law_table : Tb :=
  (.cons (.par 1 2 true false (.lst .nil) (.cmp .eq (.bin .mod (.blt .int (.cons (.idx (.var 0) (.int 0)) .nil)) (.int 3)) (.int 0)))
  (.cons (.for_ (.nm 3) (.rng1 (.int 10)) l_law_table_1)
  (.fgt 2 (.fgt 3 (.fgt 4 (.fgt 5 (.cons (.ret (.blt .tuple (.cons (.var 1) .nil)))
  .nil)))))))
def d_law_table : DefR := ⟨"_law_table", ["row"], ["row", "found", "forward", "name", "cell", "target"], b_law_table, topS 20, []⟩
def l_law_steps_1 : Tb :=
  (.cons (.set 4 false (.comp (.var 6) (.tp (.cons (.nm 5) (.cons (.nm 6) .nil))) (.seq (.var 0)) (.cons (.cmp .eq (.var 5) (.idx (.var 2) (.neg (.int 1)))) .nil) [("one", 5), ("other", 6)]))
  (.fgt 3 (.cons (.ife (.cmp .gt (.blt .len (.cons (.var 4) .nil)) (.int 0)) (.cons (.app 2 (.idx (.var 4) (.int 0)))
  (.fgt 4 .nil)) .nil)
  (.fgt 4 .nil))))
def b_law_steps : Tb :=
  (.cons (.set 2 true (.lst (.cons (.var 1) .nil)))
  (.cons (.for_ (.nm 3) (.rng1 (.int 11)) l_law_steps_1)
  (.fgt 3 (.fgt 4 (.cons (.retO 2)
  .nil)))))
def d_law_steps : DefR := ⟨"_law_steps", ["table", "name"], ["table", "name", "found", "turn", "after", "one", "other"], b_law_steps, topS 21, []⟩
def b_law_end : Tb :=
  (.cons (.set 2 false (.call "_law_steps" (.cons (.var 0) (.cons (.var 1) .nil))))
  (.cons (.ife (.cmp .gt (.blt .len (.cons (.var 2) .nil)) (.int 11)) (.cons (.ret .non)
  .nil) .nil)
  (.cons (.ret (.idx (.var 2) (.neg (.int 1))))
  .nil)))
def d_law_end : DefR := ⟨"_law_end", ["table", "name"], ["table", "name", "row"], b_law_end, topS 22, []⟩
def l_law_rings_1 : Tb :=
  (.cons (.set 4 false (.call "_law_steps" (.cons (.var 0) (.cons (.var 2) .nil))))
  (.fgt 3 (.cons (.ife (.cmp .isIn (.var 2) (.cut (.var 4) (.so (.int 1)) .no)) (.cons (.set 5 false (.blt .tuple (.cons (.cut (.var 4) .no (.so (.bin .add (.int 1) (.index (.cut (.var 4) (.so (.int 1)) .no) (.var 2))))) .nil)))
  (.fgt 4 (.cons (.ife (.cmp .eq (.blt .min (.cons (.var 5) .nil)) (.var 2)) (.cons (.app 1 (.var 5))
  (.fgt 2 (.fgt 5 .nil))) .nil)
  (.fgt 2 (.fgt 5 .nil))))) .nil)
  (.fgt 2 (.fgt 4 (.fgt 5 .nil))))))
def b_law_rings : Tb :=
  (.cons (.set 1 true (.lst .nil))
  (.cons (.for_ (.tp (.cons (.nm 2) (.cons (.nm 3) .nil))) (.seq (.var 0)) l_law_rings_1)
  (.fgt 2 (.fgt 3 (.fgt 4 (.fgt 5 (.cons (.ret (.blt .tuple (.cons (.var 1) .nil)))
  .nil)))))))
def d_law_rings : DefR := ⟨"_law_rings", ["table"], ["table", "found", "name", "other", "row", "ring"], b_law_rings, topS 23, []⟩
def l_law_joined_1 : Tb :=
  (.cons (.set 4 false (.bin .add (.comp (.var 6) (.tp (.cons (.nm 5) (.cons (.nm 6) .nil))) (.seq (.var 0)) (.cons (.cmp .isIn (.var 5) (.var 2)) .nil) [("one", 5), ("other", 6)]) (.comp (.var 5) (.tp (.cons (.nm 5) (.cons (.nm 6) .nil))) (.seq (.var 0)) (.cons (.cmp .isIn (.var 6) (.var 2)) .nil) [("one", 5), ("other", 6)])))
  (.fgt 3 (.cons (.set 2 false (.sset (.bin .add (.var 2) (.var 4))))
  (.fgt 4 .nil))))
def b_law_joined : Tb :=
  (.cons (.set 2 false (.lst (.cons (.var 1) .nil)))
  (.cons (.for_ (.nm 3) (.rng1 (.int 10)) l_law_joined_1)
  (.fgt 3 (.fgt 4 (.cons (.ret (.blt .tuple (.cons (.var 2) .nil)))
  .nil)))))
def d_law_joined : DefR := ⟨"_law_joined", ["table", "name"], ["table", "name", "found", "turn", "more", "one", "other"], b_law_joined, topS 24, []⟩
def l_law_table_right_1 : Tb :=
  (.cons (.ife (.not (.call "_law_like" (.cons (.call "see_end" (.cons (.var 0) (.cons (.var 2) .nil))) (.cons (.call "_law_end" (.cons (.var 0) (.cons (.var 2) .nil))) .nil)))) (.cons (.ret (.bl false))
  .nil) .nil)
  .nil)
def l_law_table_right_2 : Tb :=
  (.cons (.ife (.not (.call "_law_like" (.cons (.call "head_of" (.cons (.var 0) (.cons (.var 2) .nil))) (.cons (.idx (.idx (.var 4) (.var 2)) (.int 0)) .nil)))) (.cons (.ret (.bl false))
  .nil) .nil)
  (.fgt 6 (.cons (.set 7 false (.call "_law_steps" (.cons (.var 0) (.cons (.var 2) .nil))))
  (.cons (.ife (.and (.cmp .eq (.blt .len (.cons (.var 1) .nil)) (.int 0)) (.not (.call "_law_like" (.cons (.call "ways_up" (.cons (.var 0) (.cons (.var 2) .nil))) (.cons (.tup (.cons (.blt .tuple (.cons (.var 7) .nil)) .nil)) .nil))))) (.cons (.ret (.bl false))
  .nil) .nil)
  (.cons (.ife (.and (.cmp .eq (.blt .len (.cons (.var 1) .nil)) (.int 0)) (.not (.call "_law_like" (.cons (.call "above_all" (.cons (.var 0) (.cons (.var 2) .nil))) (.cons (.blt .tuple (.cons (.blt .sorted (.cons (.var 7) .nil)) .nil)) .nil))))) (.cons (.ret (.bl false))
  .nil) .nil)
  (.fgt 2 (.fgt 7 .nil)))))))
def b_law_table_right : Tb :=
  (.cons (.set 1 false (.call "_law_rings" (.cons (.var 0) .nil)))
  (.cons (.for_ (.nm 2) (.rng1 (.int 10)) l_law_table_right_1)
  (.cons (.ife (.or (.not (.call "_law_like" (.cons (.call "see_rings" (.cons (.var 0) .nil)) (.cons (.var 1) .nil)))) (.not (.call "_law_like" (.cons (.call "is_subjects" (.cons (.var 0) .nil)) (.cons (.cmp .eq (.blt .len (.cons (.var 1) .nil)) (.int 0)) .nil))))) (.cons (.ret (.bl false))
  .nil) .nil)
  (.cons (.set 3 false (.blt .tuple (.cons (.comp (.tup (.cons (.var 2) (.cons (.call "_law_end" (.cons (.var 0) (.cons (.var 2) .nil))) .nil))) (.tp (.cons (.nm 2) (.cons (.nm 6) .nil))) (.seq (.var 0)) (.cons (.notN (.call "_law_end" (.cons (.var 0) (.cons (.var 2) .nil)))) .nil) [("name", 2), ("other", 6)]) .nil)))
  (.cons (.ife (.or (.not (.call "_law_like" (.cons (.call "short_see" (.cons (.var 0) .nil)) (.cons (.var 3) .nil)))) (.not (.call "_law_like" (.cons (.call "see_rings" (.cons (.var 3) .nil)) (.cons (.tup .nil) .nil))))) (.cons (.ret (.bl false))
  .nil) .nil)
  (.fgt 3 (.cons (.set 4 false (.comp (.call "_law_joined" (.cons (.var 0) (.cons (.var 2) .nil))) (.nm 2) (.rng1 (.int 10)) .nil [("name", 2)]))
  (.fgt 2 (.cons (.set 5 false (.blt .tuple (.cons (.sset (.comp (.var 8) (.nm 8) (.seq (.var 4)) (.cons (.cmp .gt (.blt .len (.cons (.var 8) .nil)) (.int 1)) .nil) [("one", 8)])) .nil)))
  (.cons (.ife (.not (.call "_law_like" (.cons (.call "name_sets" (.cons (.var 0) .nil)) (.cons (.var 5) .nil)))) (.cons (.ret (.bl false))
  .nil) .nil)
  (.fgt 5 (.cons (.for_ (.tp (.cons (.nm 2) (.cons (.nm 6) .nil))) (.seq (.var 0)) l_law_table_right_2)
  (.fgt 1 (.fgt 2 (.fgt 4 (.fgt 6 (.fgt 7 (.cons (.ret (.bl true))
  .nil))))))))))))))))))
def d_law_table_right : DefR := ⟨"_law_table_right", ["table"], ["table", "rings", "name", "short", "sets", "due", "other", "steps", "one"], b_law_table_right, topS 25, []⟩
def l_law_1 : Tb :=
  (.cons (.ife (.not (.call "_law_table_right" (.cons (.var 5) .nil))) (.cons (.ret (.bl false))
  .nil) .nil)
  (.fgt 5 .nil))
def b_law : Tb :=
  (.cons (.set 1 false (.call "_law_row" (.cons (.var 0) (.cons (.int 14) .nil))))
  (.cons (.par 2 3 false false (.bin .mod (.blt .int (.cons (.idx (.var 1) (.int 11)) .nil)) (.int 10)) (.bin .mod (.blt .int (.cons (.idx (.var 1) (.int 12)) .nil)) (.int 9)))
  (.cons (.set 4 false (.bin .mod (.blt .int (.cons (.bin .add (.bin .add (.var 2) (.int 1)) (.bin .mod (.blt .int (.cons (.idx (.var 1) (.int 13)) .nil)) (.int 9))) .nil)) (.int 10)))
  (.cons (.for_ (.nm 5) (.seq (.tup (.cons (.tup (.cons (.tup (.cons (.var 3) (.cons (.int 9) .nil))) .nil)) (.cons (.tup (.cons (.tup (.cons (.int 9) (.cons (.var 3) .nil))) .nil)) (.cons (.tup (.cons (.tup (.cons (.var 2) (.cons (.var 2) .nil))) .nil)) (.cons (.tup (.cons (.tup (.cons (.var 2) (.cons (.var 4) .nil))) .nil)) (.cons (.blt .tuple (.cons (.blt .sorted (.cons (.tup (.cons (.tup (.cons (.var 2) (.cons (.var 4) .nil))) (.cons (.tup (.cons (.var 4) (.cons (.var 2) .nil))) .nil))) .nil)) .nil)) .nil))))))) l_law_1)
  (.fgt 2 (.fgt 3 (.fgt 4 (.fgt 5 (.cons (.ret (.call "_law_table_right" (.cons (.call "_law_table" (.cons (.var 1) .nil)) .nil)))
  .nil)))))))))
def d_law : DefR := ⟨"law", ["script"], ["script", "row", "one", "low", "other", "table"], b_law, topS 26, []⟩
def glob : Str → Option PV := fun x => if x = ("MOST_SUBJECT" : Str) then some (.int 9) else none
def tbl : List DefR := [d_joined, d_name_sets, d_head_of, d_see_end, d_see_rings, d_short_see, d_is_pair, d_is_subjects, d_reach, d_above_all, d_below_all, d_ways_up, d_law_mixed, d_law_row, d_law_is_int, d_law_like, d_law_table, d_law_steps, d_law_end, d_law_rings, d_law_joined, d_law_table_right, d_law]
theorem chk_joined : d_joined.chk = true := by decide +kernel
theorem chk_name_sets : d_name_sets.chk = true := by decide +kernel
theorem chk_head_of : d_head_of.chk = true := by decide +kernel
theorem chk_see_end : d_see_end.chk = true := by decide +kernel
theorem chk_see_rings : d_see_rings.chk = true := by decide +kernel
theorem chk_short_see : d_short_see.chk = true := by decide +kernel
theorem chk_is_pair : d_is_pair.chk = true := by decide +kernel
theorem chk_is_subjects : d_is_subjects.chk = true := by decide +kernel
theorem chk_reach : d_reach.chk = true := by decide +kernel
theorem chk_above_all : d_above_all.chk = true := by decide +kernel
theorem chk_below_all : d_below_all.chk = true := by decide +kernel
theorem chk_ways_up : d_ways_up.chk = true := by decide +kernel
theorem chk_law_mixed : d_law_mixed.chk = true := by decide +kernel
theorem chk_law_row : d_law_row.chk = true := by decide +kernel
theorem chk_law_is_int : d_law_is_int.chk = true := by decide +kernel
theorem chk_law_like : d_law_like.chk = true := by decide +kernel
theorem chk_law_table : d_law_table.chk = true := by decide +kernel
theorem chk_law_steps : d_law_steps.chk = true := by decide +kernel
theorem chk_law_end : d_law_end.chk = true := by decide +kernel
theorem chk_law_rings : d_law_rings.chk = true := by decide +kernel
theorem chk_law_joined : d_law_joined.chk = true := by decide +kernel
theorem chk_law_table_right : d_law_table_right.chk = true := by decide +kernel
theorem chk_law : d_law.chk = true := by decide +kernel
end K64
set_option Elab.async false
set_option linter.all false
set_option maxRecDepth 100000
set_option maxHeartbeats 1000000
/-! k64: a table as a walk, in plain words. -/
namespace K64
open PySem Pz
abbrev T := List (Nat × Nat)
structure Tb (t : T) : Prop where
  asc : t.Pairwise fun a b => a.1 < b.1
  lt : ∀ p ∈ t, p.1 < 10 ∧ p.2 < 10
/-- what a name sees; 10: nothing -/
def nx (t : T) (n : Nat) : Nat := ((t.find? fun p => p.1 == n).map (·.2)).getD 10
def it (t : T) (n : Nat) : Nat → Nat
  | 0 => n
  | k + 1 => nx t (it t n k)
theorem nx_mem {t : T} (h : Tb t) {n m : Nat} : (n, m) ∈ t ↔ nx t n = m ∧ m < 10 := by
  obtain ⟨ha, hl⟩ := h
  unfold nx
  induction t with
  | nil => simp; omega
  | cons p r ih =>
    obtain ⟨a1, a2⟩ := List.pairwise_cons.mp ha
    have hr := ih a2 fun q hq => hl q (List.mem_cons_of_mem _ hq)
    have hp := hl p List.mem_cons_self
    rw [List.find?_cons, List.mem_cons]
    by_cases e : p.1 = n
    · have e1 : (p.1 == n) = true := by simpa using e
      rw [e1]
      refine ⟨fun q => ?_, fun ⟨q1, q2⟩ => .inl ?_⟩
      · rcases q with q | q
        · subst q; exact ⟨rfl, hp.2⟩
        · have := a1 _ q
          exfalso
          have : p.1 < n := this
          omega
      · have q1 : p.2 = m := q1
        rw [← e, ← q1]
    · have e1 : (p.1 == n) = false := by simpa using e
      rw [e1]
      rw [← hr]
      refine ⟨fun q => q.resolve_left fun z => e (by rw [← z]), .inr⟩
theorem nx_lt {t : T} (h : Tb t) {n : Nat} (q : nx t n ≠ 10) : n < 10 ∧ nx t n < 10 ∧ (n, nx t n) ∈ t := by
  have : ∃ m, (n, m) ∈ t ∧ nx t n = m := by
    unfold nx at q ⊢
    cases e : t.find? fun p => p.1 == n with
    | none => rw [e] at q; exact absurd rfl q
    | some p =>
      have h1 := List.mem_of_find?_eq_some e
      have h2 := List.find?_some e
      have h2 : p.1 = n := by simpa using h2
      exact ⟨p.2, by rw [← h2]; exact h1, rfl⟩
  obtain ⟨m, h1, h2⟩ := this
  have := h.lt _ h1
  subst h2
  exact ⟨this.1, this.2, h1⟩
theorem nx_le {t : T} (h : Tb t) (n : Nat) : nx t n ≤ 10 := by
  by_cases q : nx t n = 10
  · omega
  · have := (nx_lt h q).2.1; omega
theorem nx_ten {t : T} (h : Tb t) : nx t 10 = 10 := by
  by_cases q : nx t 10 = 10
  · exact q
  · have := (nx_lt h q).1; omega
theorem it_add (t : T) (n i : Nat) : ∀ j, it t n (i + j) = it t (it t n i) j
  | 0 => rfl
  | j + 1 => by
    show nx t (it t n (i + j)) = nx t (it t (it t n i) j)
    rw [it_add t n i j]
theorem it_ten {t : T} (h : Tb t) : ∀ j, it t 10 j = 10
  | 0 => rfl
  | j + 1 => by show nx t (it t 10 j) = 10; rw [it_ten h j, nx_ten h]
theorem it_dead {t : T} (h : Tb t) {n k j : Nat} (e : it t n k = 10) (q : k ≤ j) : it t n j = 10 := by
  obtain ⟨d, rfl⟩ : ∃ d, j = k + d := ⟨j - k, by omega⟩
  rw [it_add, e, it_ten h]
theorem it_live {t : T} (h : Tb t) {n k j : Nat} (e : it t n k ≠ 10) (q : j ≤ k) : it t n j ≠ 10 := fun z => e (it_dead h z q)
theorem it_lt {t : T} (h : Tb t) {n : Nat} (hn : n < 10) : ∀ {k : Nat}, it t n k ≠ 10 → it t n k < 10
  | 0, _ => hn
  | k + 1, e => (nx_lt h (n := it t n k) e).2.1
theorem pig {α : Type} [DecidableEq α] : ∀ {L M : List α}, L.Nodup → (∀ x ∈ L, x ∈ M) → L.length ≤ M.length
  | [], M, _, _ => Nat.zero_le _
  | x :: r, M, h, s => by
    obtain ⟨h1, h2⟩ := List.nodup_cons.mp h
    have hm := s x List.mem_cons_self
    have := pig (L := r) (M := M.erase x) h2 fun y hy => (List.mem_erase_of_ne (fun e => h1 (by rw [← e]; exact hy))).mpr (s y (List.mem_cons_of_mem _ hy))
    rw [List.length_erase_of_mem hm] at this
    have : 0 < M.length := List.length_pos_of_mem hm
    rw [List.length_cons]; omega
/-- all unlike, or two alike -/
theorem alike {f : Nat → Nat} {k : Nat} (M : List Nat) (h : ∀ i < k, f i ∈ M) (hl : M.length < k) : ∃ i j, i < j ∧ j < k ∧ f i = f j := by
  refine Classical.byContradiction fun hn => ?_
  have inj : ∀ i j, i < j → j < k → f i ≠ f j := fun i j a b e => hn ⟨i, j, a, b, e⟩
  have nd : ((List.range k).map f).Nodup := by
    rw [List.Nodup, List.pairwise_map]
    refine List.pairwise_lt_range.imp_of_mem ?_
    intro a b ha hb hab
    exact inj a b hab (List.mem_range.mp hb)
  have := pig nd (M := M) fun x hx => by
    obtain ⟨i, hi, rfl⟩ := List.mem_map.mp hx
    exact h i (List.mem_range.mp hi)
  rw [List.length_map, List.length_range] at this
  omega
theorem ever_of {t : T} (h : Tb t) {n i j : Nat} (hij : i < j) (e : it t n i = it t n j) (l : it t n j ≠ 10) : ∀ k, it t n k ≠ 10 := by
  intro k
  induction k using Nat.strongRecOn with
  | _ k ih =>
    by_cases q : k ≤ j
    · exact it_live h l q
    · have : it t n k = it t n (i + (k - j)) := by
        rw [show k = j + (k - j) by omega, it_add, ← e, ← it_add]
        congr 1; omega
      rw [this]
      exact ih _ (by omega)
theorem dom_mem {t : T} (h : Tb t) {n : Nat} (q : nx t n ≠ 10) : n ∈ t.map (·.1) := List.mem_map.mpr ⟨_, (nx_lt h q).2.2, rfl⟩
theorem mem_dom {t : T} (h : Tb t) {n : Nat} (q : n ∈ t.map (·.1)) : nx t n ≠ 10 := by
  obtain ⟨p, hp, rfl⟩ := List.mem_map.mp q
  have := (nx_mem h (n := p.1) (m := p.2)).mp hp
  omega
/-- a walk of more steps than names goes on for ever -/
theorem ever {t : T} (h : Tb t) {n : Nat} (e : it t n (t.length + 1) ≠ 10) : ∀ k, it t n k ≠ 10 := by
  obtain ⟨i, j, a, b, c⟩ := alike (f := it t n) (k := t.length + 1) (t.map (·.1)) (fun i hi => dom_mem h (n := it t n i) (it_live h e (j := i + 1) (by omega))) (by simp)
  exact ever_of h a c (it_live h e (by omega))
theorem asc_len : ∀ {t : T} {k : Nat}, t.Pairwise (fun a b => a.1 < b.1) → (∀ p ∈ t, k ≤ p.1 ∧ p.1 < 10) → t.length + k ≤ 10 ∨ t = []
  | [], _, _, _ => .inr rfl
  | [p], k, _, h => .inl (by have := h p List.mem_cons_self; simp; omega)
  | p :: q :: r, k, ha, h => by
    obtain ⟨a1, a2⟩ := List.pairwise_cons.mp ha
    have hp := h p List.mem_cons_self
    rcases asc_len (t := q :: r) (k := p.1 + 1) a2 (fun z hz => ⟨a1 z hz, (h z (List.mem_cons_of_mem _ hz)).2⟩) with z | z
    · rw [List.length_cons]; exact .inl (by omega)
    · cases z
theorem tb_len {t : T} (h : Tb t) : t.length ≤ 10 := by
  rcases asc_len (k := 0) h.asc (fun p hp => ⟨Nat.zero_le _, (h.lt p hp).1⟩) with z | z
  · omega
  · rw [z]; decide
/-- the steps of at most k turns -/
def wk (t : T) (n k : Nat) : List Nat := ((List.range (k + 1)).map (it t n)).filter (· != 10)
theorem wk_succ (t : T) (n k : Nat) : wk t n (k + 1) = wk t n k ++ (if it t n (k + 1) = 10 then [] else [it t n (k + 1)]) := by
  unfold wk
  rw [List.range_succ, List.map_append, List.filter_append]
  congr 1
  by_cases e : it t n (k + 1) = 10
  · rw [if_pos e]; simp [e]
  · rw [if_neg e]; simp [e]
theorem wk_last {t : T} (h : Tb t) {n : Nat} (hn : n < 10) : ∀ k, ∃ l y, wk t n k = l ++ [y] ∧ nx t y = it t n (k + 1) ∧ y < 10
  | 0 => ⟨[], n, by
      have : (n != 10) = true := by simp; omega
      unfold wk; simp [it, this], rfl, hn⟩
  | k + 1 => by
    rw [wk_succ]
    by_cases e : it t n (k + 1) = 10
    · rw [if_pos e, List.append_nil]
      obtain ⟨l, y, e1, e2, e3⟩ := wk_last h hn k
      refine ⟨l, y, e1, ?_, e3⟩
      rw [e2, e]
      show 10 = nx t (it t n (k + 1))
      rw [e, nx_ten h]
    · rw [if_neg e]
      exact ⟨_, _, rfl, rfl, it_lt h hn e⟩
theorem wk_live {t : T} (h : Tb t) {n k : Nat} (e : it t n k ≠ 10) : wk t n k = (List.range (k + 1)).map (it t n) := by
  unfold wk
  rw [List.filter_eq_self]
  intro x hx
  obtain ⟨i, hi, rfl⟩ := List.mem_map.mp hx
  have := it_live h e (j := i) (by rw [List.mem_range] at hi; omega)
  simpa using this
theorem wk_dead {t : T} (h : Tb t) {n k : Nat} (e : it t n (k + 1) = 10) : ∀ d, wk t n (k + d) = wk t n k
  | 0 => rfl
  | d + 1 => by
    rw [← Nat.add_assoc, wk_succ, if_pos (it_dead h e (by omega)), List.append_nil, wk_dead h e d]
theorem wk_len {t : T} {n k : Nat} : (wk t n k).length ≤ k + 1 := by
  unfold wk
  refine Nat.le_trans (List.length_filter_le _ _) ?_
  rw [List.length_map, List.length_range]; exact Nat.le_refl _
/-- a walk ends within as many steps as there are names, or never -/
theorem end_or {t : T} (h : Tb t) {n : Nat} (hn : n < 10) : (∃ k, k ≤ t.length ∧ it t n k ≠ 10 ∧ it t n (k + 1) = 10) ∨ ∀ k, it t n k ≠ 10 := by
  by_cases e : it t n (t.length + 1) = 10
  · have : ∀ m, it t n m = 10 → ∃ k, k < m ∧ it t n k ≠ 10 ∧ it t n (k + 1) = 10 := fun m => by
      induction m with
      | zero => intro q; have q : n = 10 := q; omega
      | succ m ih =>
        intro q
        by_cases z : it t n m = 10
        · obtain ⟨k, a, b⟩ := ih z
          exact ⟨k, by omega, b⟩
        · exact ⟨m, by omega, z, q⟩
    obtain ⟨k, a, b⟩ := this _ e
    exact .inl ⟨k, by omega, b⟩
  · exact .inr (ever h e)
/-- the name comes back -/
def Ret (t : T) (n : Nat) : Prop := ∃ k, it t n (k + 1) = n
/-- .. first behind k + 1 steps -/
def RetK (t : T) (n k : Nat) : Prop := it t n (k + 1) = n ∧ ∀ i, 1 ≤ i → i ≤ k → it t n i ≠ n
theorem ret_k {t : T} {n : Nat} (h : Ret t n) : ∃ k, RetK t n k := by
  obtain ⟨k, e⟩ := h
  induction k using Nat.strongRecOn with
  | _ k ih =>
    by_cases q : ∃ i, 1 ≤ i ∧ i ≤ k ∧ it t n i = n
    · obtain ⟨i, a, b, c⟩ := q
      exact ih (i - 1) (by omega) (by rw [show i - 1 + 1 = i by omega]; exact c)
    · exact ⟨k, e, fun i a b c => q ⟨i, a, b, c⟩⟩
theorem retK_uniq {t : T} {n k k' : Nat} (a : RetK t n k) (b : RetK t n k') : k = k' := by
  rcases Nat.lt_trichotomy k k' with h | h | h
  · exact absurd a.1 (b.2 (k + 1) (by omega) (by omega))
  · exact h
  · exact absurd b.1 (a.2 (k' + 1) (by omega) (by omega))
theorem ret_ever {t : T} (h : Tb t) {n : Nat} (hn : n < 10) (r : Ret t n) : ∀ k, it t n k ≠ 10 := by
  obtain ⟨k, e⟩ := r
  refine ever_of h (i := 0) (j := k + 1) (by omega) (by rw [e]; rfl) ?_
  rw [e]; omega
/-- up to the return all are unlike -/
theorem retK_inj {t : T} {n k i j : Nat} (r : RetK t n k) (hij : i < j) (hj : j ≤ k) : it t n i ≠ it t n j := by
  intro e
  have : it t n (i + (k + 1 - j)) = n := by
    rw [it_add, e, ← it_add, show j + (k + 1 - j) = k + 1 by omega]; exact r.1
  exact r.2 _ (by omega) (by omega) this
theorem retK_len {t : T} (h : Tb t) {n k : Nat} (hn : n < 10) (r : RetK t n k) : k + 1 ≤ t.length := by
  refine Classical.byContradiction fun hc => ?_
  have ev := ret_ever h hn ⟨k, r.1⟩
  obtain ⟨i, j, a, b, c⟩ := alike (f := it t n) (k := k + 1) (t.map (·.1)) (fun i hi => dom_mem h (n := it t n i) (ev (i + 1))) (by rw [List.length_map]; omega)
  exact retK_inj r a (by omega) c
/-- the ring of a name: the steps up to its return, if it is the least there -/
def RingO (t : T) (n : Nat) (r : Option (List Nat)) : Prop := (∃ k, RetK t n k ∧ (∀ i ≤ k, n ≤ it t n i) ∧ r = some ((List.range (k + 1)).map (it t n))) ∨ ((∀ k, RetK t n k → ∃ i ≤ k, it t n i < n) ∧ r = none)
theorem ringO_ex (t : T) (n : Nat) : ∃ r, RingO t n r := by
  by_cases h : ∃ k, RetK t n k ∧ ∀ i ≤ k, n ≤ it t n i
  · obtain ⟨k, a, b⟩ := h
    exact ⟨_, .inl ⟨k, a, b, rfl⟩⟩
  · refine ⟨none, .inr ⟨fun k a => Classical.byContradiction fun hn => h ⟨k, a, fun i hi => ?_⟩, rfl⟩⟩
    refine Classical.byContradiction fun q => hn ⟨i, hi, by omega⟩
noncomputable def ringF (t : T) (n : Nat) : Option (List Nat) := Classical.choose (ringO_ex t n)
theorem ringF_ok (t : T) (n : Nat) : RingO t n (ringF t n) := Classical.choose_spec (ringO_ex t n)
theorem ringF_some {t : T} {n k : Nat} (a : RetK t n k) (b : ∀ i ≤ k, n ≤ it t n i) : ringF t n = some ((List.range (k + 1)).map (it t n)) := by
  rcases ringF_ok t n with ⟨k', a', _, e⟩ | ⟨q, _⟩
  · rw [e, retK_uniq a' a]
  · obtain ⟨i, hi, lt⟩ := q k a
    have := b i hi
    omega
theorem ringF_none {t : T} {n : Nat} (a : ∀ k, RetK t n k → ∃ i ≤ k, it t n i < n) : ringF t n = none := by
  rcases ringF_ok t n with ⟨k', a', b', e⟩ | ⟨_, q⟩
  · obtain ⟨i, hi, lt⟩ := a k' a'
    have := b' i hi
    omega
  · exact q
/-- all rings -/
noncomputable def rings (t : T) : List (List Nat) := (t.map (·.1)).filterMap (ringF t)
theorem rings_of {t : T} (h : Tb t) {n : Nat} (hn : n < 10) (r : Ret t n) : rings t ≠ [] := by
  obtain ⟨k, rk⟩ := ret_k r
  have ev := ret_ever h hn r
  -- the least of the ring
  have least : ∀ m, ∃ i, i ≤ m ∧ ∀ j ≤ m, it t n i ≤ it t n j := fun m => by
    induction m with
    | zero => exact ⟨0, Nat.le_refl _, fun j hj => by rw [Nat.le_zero.mp hj]; exact Nat.le_refl _⟩
    | succ m ih =>
      obtain ⟨i, a, b⟩ := ih
      by_cases q : it t n i ≤ it t n (m + 1)
      · refine ⟨i, by omega, fun j hj => ?_⟩
        by_cases z : j ≤ m
        · exact b j z
        · rw [show j = m + 1 by omega]; exact q
      · refine ⟨m + 1, Nat.le_refl _, fun j hj => ?_⟩
        by_cases z : j ≤ m
        · have := b j z; omega
        · rw [show j = m + 1 by omega]; exact Nat.le_refl _
  obtain ⟨i, hi, hm⟩ := least k
  have all : ∀ j, it t n i ≤ it t n j := fun j => by
    induction j using Nat.strongRecOn with
    | _ j ih =>
      by_cases q : j ≤ k
      · exact hm j q
      · have : it t n j = it t n (j - (k + 1)) := by
          conv => lhs; rw [show j = (k + 1) + (j - (k + 1)) by omega, it_add, rk.1]
        rw [this]
        exact ih _ (by omega)
  have ri : Ret t (it t n i) := ⟨k, by
    rw [← it_add, show i + (k + 1) = (k + 1) + i by omega, it_add, rk.1]⟩
  obtain ⟨k2, rk2⟩ := ret_k ri
  have e := ringF_some rk2 fun j _ => by rw [← it_add]; exact all _
  have md : it t n i ∈ t.map (·.1) := dom_mem h (n := it t n i) (ev (i + 1))
  intro hr
  have : (List.range (k2 + 1)).map (it t (it t n i)) ∈ rings t := List.mem_filterMap.mpr ⟨_, md, e⟩
  rw [hr] at this
  cases this
theorem ret_of_rings {t : T} (h : Tb t) (hr : rings t ≠ []) : ∃ n, n ∈ t.map (·.1) ∧ Ret t n := by
  cases e : rings t with
  | nil => exact absurd e hr
  | cons r rs =>
    have : r ∈ rings t := by rw [e]; exact List.mem_cons_self
    obtain ⟨n, hn, er⟩ := List.mem_filterMap.mp this
    rcases ringF_ok t n with ⟨k, a, _, _⟩ | ⟨_, q⟩
    · exact ⟨n, hn, k, a.1⟩
    · rw [q] at er; cases er
/-- no rings: each walk ends, all its steps unlike -/
theorem no_rings {t : T} (h : Tb t) (hr : rings t = []) {n : Nat} (hn : n < 10) : ∃ k, k ≤ t.length ∧ it t n k ≠ 10 ∧ it t n (k + 1) = 10 ∧ ∀ i j, i < j → j ≤ k → it t n i ≠ it t n j := by
  have nr : ∀ m < 10, ¬ Ret t m := fun m hm r => rings_of h hm r hr
  have inj : ∀ i j, i < j → it t n j ≠ 10 → it t n i ≠ it t n j := fun i j hij l e => by
    have l0 : it t n i ≠ 10 := by rw [e]; exact l
    refine nr _ (it_lt h hn l0) ⟨j - i - 1, ?_⟩
    rw [← it_add, show i + (j - i - 1 + 1) = j by omega, e]
  rcases end_or h hn with ⟨k, a, b, c⟩ | ev
  · exact ⟨k, a, b, c, fun i j x y => inj i j x (it_live h b y)⟩
  · exfalso
    obtain ⟨i, j, a, b, c⟩ := alike (f := it t n) (k := t.length + 1) (t.map (·.1)) (fun i hi => dom_mem h (n := it t n i) (ev (i + 1))) (by simp)
    exact inj i j a (ev j) c
end K64
set_option Elab.async false
set_option linter.all false
set_option maxRecDepth 100000
set_option maxHeartbeats 1000000
/-! k64: the walk of a name. -/
namespace K64
open PySem Pz
theorem helps : Helps tbl := ⟨⟨_, rfl⟩, ⟨_, rfl⟩, ⟨_, rfl⟩, ⟨_, rfl⟩⟩
abbrev CF := callF glob tbl
def pp (p : Nat × Nat) : PV := .tuple [.int (p.1 : Nat), .int (p.2 : Nat)]
def pt (t : T) : PV := .tuple (t.map pp)
def told (t : T) : List (L2.Key × PV) := t.map fun p => (.inl (p.1 : Nat), .int (p.2 : Nat))
theorem lkp_told (t : T) (n : Nat) : lkp (told t) (.inl (n : Nat)) = if (t.find? fun p => p.1 == n).isSome then some (.int (nx t n : Nat)) else none := by
  induction t with
  | nil => rfl
  | cons p r ih =>
    unfold told lkp nx at ih ⊢
    rw [List.map_cons, List.find?_cons, List.find?_cons]
    by_cases e : p.1 = n
    · simp [e]
    · have e1 : (p.1 == n) = false := by simpa using e
      have e2 : decide ((Sum.inl ((p.1 : Nat) : Int) : L2.Key) = Sum.inl ((n : Nat) : Int)) = false := by
        rw [decide_eq_false_iff_not]; intro z; injection z with z; omega
      rw [e1, e2]
      exact ih
theorem find_some {t : T} (h : Tb t) (n : Nat) : (t.find? fun p => p.1 == n).isSome = decide (nx t n ≠ 10) := by
  unfold nx
  cases e : t.find? fun p => p.1 == n with
  | none => simp
  | some p =>
    have := h.lt p (List.mem_of_find?_eq_some e)
    simp; omega
theorem dAt_told {t : T} (h : Tb t) {ρ : En} {i : Nat} (e : ρ[i]? = some (.obj (.d (told t)))) (n : Nat) : dAt ρ i (.int (n : Nat)) = some (if nx t n = 10 then none else some (.int (nx t n : Nat))) := by
  unfold dAt
  rw [e]
  show some (lkp (told t) (.inl (n : Nat))) = _
  rw [lkp_told, find_some h]
  by_cases q : nx t n = 10 <;> simp [q]
theorem dc_told {f : PV → Option (Option (L2.Key × PV))} (hf : ∀ p, f (pp p) = some (some (.inl (p.1 : Nat), .int (p.2 : Nat)))) : ∀ (t u : T), (u ++ t).Pairwise (fun a b => a.1 < b.1) → (u ++ t).length ≤ 1000 → dcL f (t.map pp) (told u) = some (told (u ++ t))
  | [], u, _, _ => by rw [List.append_nil]; rfl
  | p :: r, u, ha, hl => by
    rw [List.map_cons]
    unfold dcL
    rw [hf p]
    have hu : (told u).length < LIM := by unfold told; rw [List.length_map]; rw [List.length_append] at hl; simp at hl; unfold LIM; omega
    show (if (told u).length < LIM then dcL f (r.map pp) (putP (told u) (.inl (p.1 : Nat)) (.int (p.2 : Nat))) else none) = _
    rw [if_pos hu]
    have nw : putP (told u) (.inl (p.1 : Nat)) (.int (p.2 : Nat)) = told (u ++ [p]) := by
      unfold putP
      rw [if_neg ?_]
      · unfold told; rw [List.map_append]; rfl
      · rw [List.any_eq_true]
        rintro ⟨kv, hk, e⟩
        obtain ⟨q, hq, rfl⟩ := List.mem_map.mp hk
        have := (List.pairwise_append.mp ha).2.2 q hq p List.mem_cons_self
        have e : (Sum.inl ((q.1 : Nat) : Int) : L2.Key) = Sum.inl ((p.1 : Nat) : Int) := by simpa using e
        injection e with e
        omega
    rw [nw, dc_told hf r (u ++ [p]) (by simpa using ha) (by simpa using hl)]
    simp
theorem told_ok {f : PV → Option (Option (L2.Key × PV))} {t : T} (h : Tb t) (hf : ∀ p, f (pp p) = some (some (.inl (p.1 : Nat), .int (p.2 : Nat)))) : dcL f (t.map pp) [] = some (told t) :=
  dc_told hf t [] (by simpa using h.asc) (by have := tb_len h; simp; omega)
/-! ### see_end -/
def lastN (t : T) (n : Nat) : Nat := (wk t n 11).getLast?.getD 0
def endV (t : T) (n : Nat) : PV := if it t n 11 = 10 then .int (lastN t n : Nat) else .none
theorem wk_end {t : T} (h : Tb t) {n k : Nat} (a : it t n k ≠ 10) (b : it t n (k + 1) = 10) (hk : k ≤ 11) : wk t n 11 = (List.range (k + 1)).map (it t n) := by
  have := wk_dead h b (11 - k)
  rw [show k + (11 - k) = 11 by omega] at this
  rw [this, wk_live h a]
theorem last_end {t : T} (h : Tb t) {n k : Nat} (a : it t n k ≠ 10) (b : it t n (k + 1) = 10) (hk : k ≤ 11) : lastN t n = it t n k := by
  unfold lastN
  rw [wk_end h a b hk, List.range_succ, List.map_append]
  simp
section
variable {j : Nat} {t : T}
theorem see_die (h : Tb t) {n : Nat} : ∀ (xs : List PV) (k d : Nat), d < xs.length → it t n (k + d) ≠ 10 → it t n (k + d + 1) = 10 →
    loopF (evB (CF j) glob l_see_end_1) (.nm 3) xs [.val (pt t), .val (.int (it t n k : Nat)), .dic (told t), .no, .no, .no] = some (.rt ⟨.int (it t n (k + d) : Nat), false⟩)
  | [], _, _, hd, _, _ => by simp at hd
  | x :: r, k, 0, _, a, b => by
    refine loopF_ret rfl ?_
    have e := fun (ρ : En) (i : Nat) (q : ρ[i]? = some (.obj (.d (told t)))) => dAt_told h q (it t n k)
    have b : nx t (it t n k) = 10 := b
    simp [l_see_end_1, evB, evS, evT, evE, evA, evR, evF, evI, evO, rd, rdS, slotR, init, slOf, outR, frzE, wipeS, e, b]
  | x :: r, k, d + 1, hd, a, b => by
    have e := fun (ρ : En) (i : Nat) (q : ρ[i]? = some (.obj (.d (told t)))) => dAt_told h q (it t n k)
    have l : nx t (it t n k) ≠ 10 := it_live h a (j := k + 1) (by omega)
    rw [loopF_cons (ρ1 := [.val (pt t), .val (.int (it t n k : Nat)), .dic (told t), .val x, .no, .no]) (ρ2 := [.val (pt t), .val (.int (it t n (k + 1) : Nat)), .dic (told t), .no, .no, .no]) rfl ?_]
    · have := see_die h r (k + 1) d (by simpa using hd) (by rw [show k + 1 + d = k + (d + 1) by omega]; exact a) (by rw [show k + 1 + d = k + (d + 1) by omega]; exact b)
      rw [this, show k + 1 + d = k + (d + 1) by omega]
    · show evB _ _ _ _ = some (Out.nx [.val (pt t), .val (.int (nx t (it t n k) : Nat)), .dic (told t), .no, .no, .no])
      simp [l_see_end_1, evB, evS, evT, evE, evA, evR, evF, evI, evO, rd, rdS, slotR, init, slOf, outR, frzE, wipeS, e, l]
theorem see_live (h : Tb t) {n : Nat} (ev : ∀ k, it t n k ≠ 10) : ∀ (xs : List PV) (k : Nat),
    loopF (evB (CF j) glob l_see_end_1) (.nm 3) xs [.val (pt t), .val (.int (it t n k : Nat)), .dic (told t), .no, .no, .no] = some (.nx [.val (pt t), .val (.int (it t n (k + xs.length) : Nat)), .dic (told t), .no, .no, .no])
  | [], _ => rfl
  | x :: r, k => by
    have e := fun (ρ : En) (i : Nat) (q : ρ[i]? = some (.obj (.d (told t)))) => dAt_told h q (it t n k)
    have l : nx t (it t n k) ≠ 10 := ev (k + 1)
    rw [loopF_cons (ρ1 := [.val (pt t), .val (.int (it t n k : Nat)), .dic (told t), .val x, .no, .no]) (ρ2 := [.val (pt t), .val (.int (it t n (k + 1) : Nat)), .dic (told t), .no, .no, .no]) rfl ?_]
    · rw [see_live h ev r (k + 1), List.length_cons, show k + 1 + r.length = k + (r.length + 1) by omega]
    · show evB _ _ _ _ = some (Out.nx [.val (pt t), .val (.int (nx t (it t n k) : Nat)), .dic (told t), .no, .no, .no])
      simp [l_see_end_1, evB, evS, evT, evE, evA, evR, evF, evI, evO, rd, rdS, slotR, init, slOf, outR, frzE, wipeS, e, l]
theorem see_end_ok (h : Tb t) {n : Nat} (hn : n < 10) : CF (j + 1) "see_end" [pt t, .int (n : Nat)] = some ⟨endV t n, false⟩ := by
  have tl := tb_len h
  have hd : ∀ {f : PV → Option (Option (L2.Key × PV))}, (∀ p, f (pp p) = some (some (.inl (p.1 : Nat), .int (p.2 : Nat)))) → dcL f (t.map pp) [] = some (told t) := fun hf => told_ok h hf
  have lim : (t.length : Int) + 1 ≤ 1000000 := by omega
  have rl : rngL 0 ((t.length : Int) + 1).toNat = rngL 0 (t.length + 1) := by congr 1
  have rlen : (rngL 0 (t.length + 1)).length = t.length + 1 := rngL_len
  have la : ((t.length : Int) + 1).natAbs ≤ LIM := by unfold LIM; omega
  rw [CF, call_eq (d := d_see_end) rfl rfl]
  rcases end_or h hn with ⟨k, a, b, c⟩ | ev
  · have dead : it t n 11 = 10 := it_dead h c (by omega)
    have lp := see_die (j := j) h (rngL 0 (t.length + 1)) 0 k (by rw [rlen]; omega) (by rw [Nat.zero_add]; exact b) (by rw [Nat.zero_add]; exact c)
    rw [Nat.zero_add] at lp
    unfold endV
    rw [if_pos dead, last_end h b c (by omega)]
    simp only [CF] at lp
    have lp : loopF (evB (callF glob tbl j) glob l_see_end_1) (.nm 3) (rngL 0 (t.length + 1)) [.val (pt t), .val (.int (n : Nat)), .dic (told t), .no, .no, .no] = some (.rt ⟨.int (it t n k : Nat), false⟩) := lp
    simp only [pt] at lp
    simp [d_see_end, b_see_end, evB, evS, evT, evE, evA, evR, evF, evI, evO, rd, rdS, slotR, init, slOf, outR, frzE, wipeS, evDc, pt]
    rw [hd fun p => by simp [pp, keyO]]
    simp [la, rl, lp]
  · have alive : it t n 11 ≠ 10 := ev 11
    have lp := see_live (j := j) h ev (rngL 0 (t.length + 1)) 0
    unfold endV
    rw [if_neg alive]
    have lp : loopF (evB (callF glob tbl j) glob l_see_end_1) (.nm 3) (rngL 0 (t.length + 1)) [.val (pt t), .val (.int (n : Nat)), .dic (told t), .no, .no, .no] = some (.nx [.val (pt t), .val (.int (it t n (0 + (rngL 0 (t.length + 1)).length) : Nat)), .dic (told t), .no, .no, .no]) := lp
    simp only [pt] at lp
    simp [d_see_end, b_see_end, evB, evS, evT, evE, evA, evR, evF, evI, evO, rd, rdS, slotR, init, slOf, outR, frzE, wipeS, evDc, pt]
    rw [hd fun p => by simp [pp, keyO]]
    simp [la, rl, lp]
/-! ### the law's own steps -/
theorem after_f (h : Tb t) (n : Nat) : (t.filter fun p => decide (p.1 = n)).map (·.2) = if nx t n = 10 then [] else [nx t n] := by
  obtain ⟨ha, hl⟩ := h
  unfold nx
  induction t with
  | nil => rfl
  | cons p r ih =>
    obtain ⟨a1, a2⟩ := List.pairwise_cons.mp ha
    have hr := ih a2 fun q hq => hl q (List.mem_cons_of_mem _ hq)
    have hp := hl p List.mem_cons_self
    rw [List.find?_cons, List.filter_cons]
    by_cases e : p.1 = n
    · have e1 : (p.1 == n) = true := by simpa using e
      have e2 : r.filter (fun p => decide (p.1 = n)) = [] := by
        rw [List.filter_eq_nil_iff]
        intro q hq
        have : p.1 < q.1 := a1 q hq
        simp; omega
      have : p.2 ≠ 10 := by omega
      simp [e, e2, this]
    · have e1 : (p.1 == n) = false := by simpa using e
      rw [e1, if_neg (by simpa using e)]
      exact hr
def iL (l : List Nat) : List PV := l.map fun n => .int (n : Nat)
theorem iL_app (a b : List Nat) : iL (a ++ b) = iL a ++ iL b := List.map_append
theorem iL_len (a : List Nat) : (iL a).length = a.length := List.length_map ..
theorem ix_last (l : List Nat) (y : Nat) : evIdx (.list (iL (l ++ [y]))) (.int (-1)) = some (.int (y : Nat)) := by
  rw [ix_list]
  have e : ixOf (iL (l ++ [y])).length (-1) = some l.length := by
    unfold ixOf
    rw [iL_len, List.length_append]
    rw [if_neg (by decide), if_pos (by simp; omega)]
    congr 1; simp; omega
  rw [e]
  show (iL (l ++ [y]))[l.length]? = _
  rw [iL_app, List.getElem?_append_right (by rw [iL_len]; exact Nat.le_refl _), iL_len]
  simp [iL]
theorem steps_loop (h : Tb t) {n : Nat} (hn : n < 10) : ∀ (xs : List PV) (k : Nat), k + xs.length ≤ 1000 →
    loopF (evB (CF j) glob l_law_steps_1) (.nm 3) xs [.val (pt t), .val (.int (n : Nat)), .own (iL (wk t n k)), .no, .no, .no, .no] = some (.nx [.val (pt t), .val (.int (n : Nat)), .own (iL (wk t n (k + xs.length))), .no, .no, .no, .no])
  | [], _, _ => rfl
  | x :: r, k, hk => by
    obtain ⟨l, y, e1, e2, e3⟩ := wk_last h hn k
    rw [List.length_cons] at hk
    rw [loopF_cons (ρ1 := [.val (pt t), .val (.int (n : Nat)), .own (iL (wk t n k)), .val x, .no, .no, .no]) (ρ2 := [.val (pt t), .val (.int (n : Nat)), .own (iL (wk t n (k + 1))), .no, .no, .no, .no]) rfl ?_]
    · rw [steps_loop h hn r (k + 1) (by omega), List.length_cons, show k + 1 + r.length = k + (r.length + 1) by omega]
    · have ix : evIdx (.list (iL (wk t n k))) (.int (-1)) = some (.int (y : Nat)) := by rw [e1]; exact ix_last l y
      have ln : (iL (wk t n k)).length < LIM := by rw [iL_len]; have := wk_len (t := t) (n := n) (k := k); unfold LIM; omega
      rw [wk_succ, iL_app]
      generalize iL (wk t n k) = W at ix ln
      have cf : ∀ f : PV → Option (List PV), (∀ p ∈ t, f (pp p) = some (if decide (p.1 = y) then [.int (p.2 : Nat)] else [])) → compL f (t.map pp) = some (if nx t y = 10 then [] else [.int (nx t y : Nat)]) := fun f hf => by
        rw [compL_filter (e := pp) (g := fun p => .int (p.2 : Nat)) (p := fun p => decide (p.1 = y)) hf]
        have := congrArg (List.map fun n : Nat => PyData.int (n : Nat)) (after_f h y)
        rw [List.map_map] at this
        rw [show (fun p : Nat × Nat => PyData.int (p.2 : Nat)) = (fun n : Nat => PyData.int (n : Nat)) ∘ (·.2) from rfl, this]
        split <;> rfl
      rw [ix_list] at ix
      obtain ⟨z, z1, z2⟩ := Option.bind_eq_some_iff.mp ix
      simp [l_law_steps_1, evB, evS, evT, evE, evA, evR, evF, evI, evO, rd, rdS, slotR, init, slOf, outR, frzE, wipeS, pt]
      rw [cf _ fun p _ => ?_]
      · rw [e2]
        by_cases q : it t n (k + 1) = 10
        · simp [q, iL]
        · simp [q, iL, ln]
      · by_cases q : p.1 = y
        · simp [pp, q, z1, z2]
        · have : ¬ (p.1 : Int) = (y : Int) := by omega
          simp [pp, q, this, z1, z2]
theorem steps_ok (h : Tb t) {n : Nat} (hn : n < 10) : CF (j + 1) "_law_steps" [pt t, .int (n : Nat)] = some ⟨.list (iL (wk t n 11)), true⟩ := by
  rw [CF, call_eq (d := d_law_steps) rfl rfl]
  have lp := steps_loop (j := j) h hn (rngL 0 11) 0 (by rw [rngL_len]; omega)
  have w0 : iL (wk t n 0) = [.int (n : Nat)] := by
    have : (n != 10) = true := by simp; omega
    unfold wk; simp [it, this, iL]
  rw [w0, rngL_len] at lp
  simp only [CF] at lp
  have l11 : 11 ≤ LIM := by decide
  simp [d_law_steps, b_law_steps, evB, evS, evT, evE, evA, evR, evF, evI, evO, rd, rdS, slotR, init, slOf, outR, frzE, wipeS, lp, l11]
theorem law_end_ok (h : Tb t) {n : Nat} (hn : n < 10) : CF (j + 2) "_law_end" [pt t, .int (n : Nat)] = some ⟨endV t n, false⟩ := by
  rw [CF, call_eq (d := d_law_end) rfl rfl]
  have st := steps_ok (j := j) h hn
  obtain ⟨l, y, e1, e2, e3⟩ := wk_last h hn 11
  have ix : evIdx (.list (iL (wk t n 11))) (.int (-1)) = some (.int (y : Nat)) := by rw [e1]; exact ix_last l y
  have ly : lastN t n = y := by unfold lastN; rw [e1]; simp
  have ln : (iL (wk t n 11)).length = (wk t n 11).length := iL_len _
  have big : (it t n 11 = 10) = ¬ (11 < (wk t n 11).length) := by
    by_cases q : it t n 11 = 10
    · have := wk_len (t := t) (n := n) (k := 10)
      have e := wk_succ t n 10
      rw [if_pos q, List.append_nil] at e
      rw [e]
      simp [q]; omega
    · rw [wk_live h q]; simp [q]
  unfold endV
  rw [ly]
  simp only [CF] at st
  generalize iL (wk t n 11) = W at *
  rw [ix_list] at ix
  obtain ⟨z, z1, z2⟩ := Option.bind_eq_some_iff.mp ix
  generalize (wk t n 11).length = M at *
  by_cases q : it t n 11 = 10
  · have b2 : ¬ (11 < (M : Int)) := by have : ¬ 11 < M := by rw [← big]; exact q
                                       omega
    simp [d_law_end, b_law_end, evB, evS, evT, evE, evA, evR, evF, evI, evO, rd, rdS, slotR, init, slOf, outR, frzE, wipeS, st, ln, b2, q]
    rw [← ln, z1]; simp [z2]
  · have b2 : 11 < (M : Int) := by rw [big, Classical.not_not] at q; omega
    simp [d_law_end, b_law_end, evB, evS, evT, evE, evA, evR, evF, evI, evO, rd, rdS, slotR, init, slOf, outR, frzE, wipeS, st, ln, b2, q]
end
end K64
set_option Elab.async false
set_option linter.all false
set_option maxRecDepth 100000
set_option maxHeartbeats 1000000
/-! k64: the rings. -/
namespace K64
open PySem Pz
def its (t : T) (n k : Nat) : List Nat := (List.range (k + 1)).map (it t n)
theorem its_succ (t : T) (n k : Nat) : its t n (k + 1) = its t n k ++ [it t n (k + 1)] := by
  unfold its; rw [List.range_succ, List.map_append]; rfl
theorem mem_its {t : T} {n k x : Nat} : x ∈ its t n k ↔ ∃ i ≤ k, it t n i = x := by
  unfold its
  rw [List.mem_map]
  exact ⟨fun ⟨i, hi, e⟩ => ⟨i, by rw [List.mem_range] at hi; omega, e⟩, fun ⟨i, hi, e⟩ => ⟨i, by rw [List.mem_range]; omega, e⟩⟩
theorem its_len {t : T} {n k : Nat} : (its t n k).length = k + 1 := by unfold its; rw [List.length_map, List.length_range]
/-- where the look along a ring stops -/
def Stop (t : T) (n k : Nat) : Prop := nx t (it t n (k + 1)) = 10 ∨ it t n (k + 1) ∈ its t n k
instance {t : T} {n k : Nat} : Decidable (Stop t n k) := by unfold Stop; exact inferInstance
theorem stop_ex {t : T} (h : Tb t) {n : Nat} (hd : nx t n ≠ 10) : ∃ K, K ≤ 10 ∧ Stop t n K ∧ ∀ k < K, ¬ Stop t n k := by
  have : ∃ K, K ≤ 10 ∧ Stop t n K := by
    refine Classical.byContradiction fun hn => ?_
    have hn : ∀ k ≤ 10, ¬ Stop t n k := fun k hk s => hn ⟨k, hk, s⟩
    have dm : ∀ i < 11, it t n i ∈ t.map (·.1) := fun i hi => by
      cases i with
      | zero => exact dom_mem h (n := n) hd
      | succ i => exact dom_mem h (n := it t n (i + 1)) fun e => hn i (by omega) (.inl e)
    obtain ⟨i, j, a, b, c⟩ := alike (t.map (·.1)) dm (by rw [List.length_map]; have := tb_len h; omega)
    obtain ⟨d, rfl⟩ : ∃ d, j = d + 1 := ⟨j - 1, by omega⟩
    exact hn d (by omega) (.inr (mem_its.mpr ⟨i, by omega, c⟩))
  obtain ⟨K, hK, hs⟩ := this
  induction K using Nat.strongRecOn with
  | _ K ih =>
    by_cases q : ∃ k, k < K ∧ Stop t n k
    · obtain ⟨k, a, b⟩ := q
      exact ih k a (by omega) b
    · exact ⟨K, hK, hs, fun k hk s => q ⟨k, hk, s⟩⟩
/-- what the stop tells -/
theorem stop_ret {t : T} (h : Tb t) {n K : Nat} (hd : nx t n ≠ 10) (hs : Stop t n K) (hl : ∀ k < K, ¬ Stop t n k) : (it t n (K + 1) = n ∧ RetK t n K) ∨ (it t n (K + 1) ≠ n ∧ ∀ k, ¬ RetK t n k) := by
  have hn := (nx_lt h hd).1
  have ne : ∀ i, 1 ≤ i → i ≤ K → it t n i ≠ n := fun i a b e => by
    obtain ⟨d, rfl⟩ : ∃ d, i = d + 1 := ⟨i - 1, by omega⟩
    exact hl d (by omega) (.inr (mem_its.mpr ⟨0, by omega, e.symm⟩))
  by_cases q : it t n (K + 1) = n
  · exact .inl ⟨q, q, ne⟩
  refine .inr ⟨q, fun k r => ?_⟩
  rcases hs with e | e
  · exact ret_ever h hn ⟨k, r.1⟩ (K + 2) e
  · obtain ⟨i, hi, e⟩ := mem_its.mp e
    by_cases z : K + 1 ≤ k
    · exact retK_inj r (i := i) (j := K + 1) (by omega) z e
    · by_cases z2 : k + 1 ≤ K
      · exact ne (k + 1) (by omega) z2 r.1
      · exact q (by rw [show K = k by omega]; exact r.1)
theorem min_ex (f : Nat → Nat) (K : Nat) : ∃ i, i ≤ K ∧ ∀ j ≤ K, f i ≤ f j := by
  induction K with
  | zero => exact ⟨0, Nat.le_refl _, fun j hj => by rw [Nat.le_zero.mp hj]; exact Nat.le_refl _⟩
  | succ m ih =>
    obtain ⟨i, a, b⟩ := ih
    by_cases q : f i ≤ f (m + 1)
    · refine ⟨i, by omega, fun j hj => ?_⟩
      by_cases z : j ≤ m
      · exact b j z
      · rw [show j = m + 1 by omega]; exact q
    · refine ⟨m + 1, Nat.le_refl _, fun j hj => ?_⟩
      by_cases z : j ≤ m
      · have := b j z; omega
      · rw [show j = m + 1 by omega]; exact Nat.le_refl _
theorem min_its (t : T) (n K : Nat) : ∃ m : Nat, evBlt .min [.list (iL (its t n K))] = some ⟨.int (m : Nat), false⟩ ∧ evBlt .min [.tuple (iL (its t n K))] = evBlt .min [.tuple (iL (its t n K))] ∧ (m = n ↔ ∀ i ≤ K, n ≤ it t n i) := by
  obtain ⟨i, a, b⟩ := min_ex (it t n) K
  refine ⟨it t n i, ?_, rfl, ?_⟩
  · have e : iL (its t n K) = ((its t n K).map fun n : Nat => (n : Int)).map .int := by unfold iL; rw [List.map_map]; rfl
    rw [e]
    refine blt_minL (List.mem_map.mpr ⟨_, mem_its.mpr ⟨i, a, rfl⟩, rfl⟩) fun y hy => ?_
    obtain ⟨x, hx, rfl⟩ := List.mem_map.mp hy
    obtain ⟨j, hj, rfl⟩ := mem_its.mp hx
    have := b j hj
    omega
  · refine ⟨fun e j hj => by have := b j hj; omega, fun q => ?_⟩
    have h1 := q i a
    have h2 : it t n i ≤ n := b 0 (Nat.zero_le _)
    omega
section
variable {j : Nat} {t : T}
def wst (t : T) (n : Nat) (F : List PV) (k : Nat) : En := [.val (pt t), .dic (told t), .own F, .val (.int (n : Nat)), .own (iL (its t n k)), .val (.int (it t n (k + 1) : Nat)), .no, .no]
theorem wcond (h : Tb t) {n : Nat} {F : List PV} (k : Nat) : evT (CF j) glob (.and (.din false 1 (.var 5)) (.cmp .notIn (.var 5) (.var 4))) (wst t n F k) = some (decide (¬ Stop t n k)) := by
  have e := fun (ρ : En) (i : Nat) (q : ρ[i]? = some (.obj (.d (told t)))) => dAt_told h q (it t n (k + 1))
  have m : evCmp .notIn (.int (it t n (k + 1) : Nat)) (.list (iL (its t n k))) = some (!decide (it t n (k + 1) ∈ its t n k)) := emb_nat.notInL (by decide) _ _
  have dz : decide (¬ Stop t n k) = (!decide (nx t (it t n (k + 1)) = 10) && !decide (it t n (k + 1) ∈ its t n k)) := by
    unfold Stop
    by_cases a : nx t (it t n (k + 1)) = 10 <;> by_cases b : it t n (k + 1) ∈ its t n k <;> simp [a, b]
  rw [dz]
  unfold wst
  generalize it t n (k + 1) = y at *
  generalize its t n k = L at *
  by_cases a : nx t y = 10
  · simp [evB, evS, evT, evE, evA, evR, evF, evI, evO, rd, rdS, slotR, init, slOf, outR, frzE, wipeS, e, a]
  · by_cases b : y ∈ L
    · simp [evB, evS, evT, evE, evA, evR, evF, evI, evO, rd, rdS, slotR, init, slOf, outR, frzE, wipeS, e, a, m, b]
    · simp [evB, evS, evT, evE, evA, evR, evF, evI, evO, rd, rdS, slotR, init, slOf, outR, frzE, wipeS, e, a, m, b]
theorem wbody (h : Tb t) {n : Nat} {F : List PV} (k : Nat) (hk : k ≤ 100) (l : nx t (it t n (k + 1)) ≠ 10) : evB (CF j) glob l_see_rings_1 (wst t n F k) = some (.nx (wst t n F (k + 1))) := by
  have e := fun (ρ : En) (i : Nat) (q : ρ[i]? = some (.obj (.d (told t)))) => dAt_told h q (it t n (k + 1))
  have ln : (iL (its t n k)).length < LIM := by rw [iL_len, its_len]; unfold LIM; omega
  have e3 : it t n (k + 1 + 1) = nx t (it t n (k + 1)) := rfl
  unfold wst
  rw [its_succ, iL_app, e3]
  generalize it t n (k + 1) = y at *
  generalize iL (its t n k) = L at *
  simp [l_see_rings_1, evB, evS, evT, evE, evA, evR, evF, evI, evO, rd, rdS, slotR, init, slOf, outR, frzE, wipeS, e, l, ln]
  rfl
theorem wrun (h : Tb t) {n : Nat} {F : List PV} {K : Nat} (hK : K ≤ 10) (hs : Stop t n K) (hl : ∀ k < K, ¬ Stop t n k) : ∀ (d k fuel : Nat), k + d = K → 100 ≤ fuel →
    loopW (evT (CF j) glob (.and (.din false 1 (.var 5)) (.cmp .notIn (.var 5) (.var 4)))) (evB (CF j) glob l_see_rings_1) (d + fuel) (wst t n F k) = some (.nx (wst t n F K))
  | 0, k, fuel, e, hf => by
    obtain ⟨f, rfl⟩ : ∃ f, fuel = f + 1 := ⟨fuel - 1, by omega⟩
    have e : k = K := by omega
    subst e
    rw [Nat.zero_add]
    exact loopW_end (by rw [wcond h]; simp [hs])
  | d + 1, k, fuel, e, hf => by
    have ns := hl k (by omega)
    rw [show d + 1 + fuel = (d + fuel) + 1 by omega, loopW_step (by rw [wcond h]; simp [ns]) (wbody h k (by omega) fun z => ns (.inl z))]
    exact wrun h hK hs hl d (k + 1) fuel (by omega) hf
/-- a ring as data -/
def rO (o : Option (List Nat)) : List PV := o.toList.map pn
theorem rings_turn (h : Tb t) {n : Nat} (hd : nx t n ≠ 10) (F : List PV) (hF : F.length ≤ 1000) : evB (CF j) glob l_see_rings_2 [.val (pt t), .dic (told t), .own F, .val (.int (n : Nat)), .no, .no, .no, .no] = some (.nx [.val (pt t), .dic (told t), .own (F ++ rO (ringF t n)), .no, .no, .no, .no, .no]) := by
  obtain ⟨K, hK, hs, hl⟩ := stop_ex h hd
  have lp := wrun (j := j) (F := F) h hK hs hl K 0 (1000 - K) (by omega) (by omega)
  rw [show K + (1000 - K) = 1000 by omega] at lp
  have e := fun (ρ : En) (i : Nat) (q : ρ[i]? = some (.obj (.d (told t)))) => dAt_told h q n
  have w0 : wst t n F 0 = [.val (pt t), .dic (told t), .own F, .val (.int (n : Nat)), .own [.int (n : Nat)], .val (.int (nx t n : Nat)), .no, .no] := rfl
  rw [w0] at lp
  obtain ⟨m, m1, _, m2⟩ := min_its t n K
  have fl : F.length < LIM := by unfold LIM; omega
  have fin : F ++ rO (ringF t n) = if it t n (K + 1) = n ∧ n = m then F ++ [.tuple (iL (its t n K))] else F := by
    rcases stop_ret h hd hs hl with ⟨a, b⟩ | ⟨a, b⟩
    · by_cases q : n = m
      · rw [if_pos ⟨a, q⟩, ringF_some b (m2.mp q.symm)]; rfl
      · rw [if_neg fun z => q z.2, ringF_none fun k r => ?_]
        · show F ++ [] = F; simp
        · have := retK_uniq r b
          subst this
          refine Classical.byContradiction fun z => q (m2.mpr fun i hi => ?_).symm
          refine Classical.byContradiction fun y => z ⟨i, hi, by omega⟩
    · rw [if_neg fun z => a z.1, ringF_none fun k r => absurd r (b k)]
      show F ++ [] = F; simp
  rw [fin]
  unfold wst at lp
  simp only [CF] at lp
  generalize iL (its t n K) = L at *
  generalize it t n (K + 1) = y at *
  by_cases a : y = n
  · have a1 : ((y : Int) = (n : Int)) = True := eq_true (by omega)
    by_cases b : n = m
    · have b1 : ((n : Int) = (m : Int)) = True := eq_true (by omega)
      rw [if_pos ⟨a, b⟩]
      simp [l_see_rings_2, evB, evS, evT, evE, evA, evR, evF, evI, evO, rd, rdS, slotR, init, slOf, outR, frzE, wipeS, e, hd, lp, m1, a1, b1, fl]
    · have b1 : ((n : Int) = (m : Int)) = False := eq_false (by omega)
      rw [if_neg fun z => b z.2]
      simp [l_see_rings_2, evB, evS, evT, evE, evA, evR, evF, evI, evO, rd, rdS, slotR, init, slOf, outR, frzE, wipeS, e, hd, lp, m1, a1, b1, fl]
  · have a1 : ((y : Int) = (n : Int)) = False := eq_false (by omega)
    rw [if_neg fun z => a z.1]
    simp [l_see_rings_2, evB, evS, evT, evE, evA, evR, evF, evI, evO, rd, rdS, slotR, init, slOf, outR, frzE, wipeS, e, hd, lp, m1, a1, fl]
theorem foldl_opt {α β : Type} (g : α → Option β) : ∀ (xs : List α) (b : List β), xs.foldl (fun b x => b ++ (g x).toList) b = b ++ xs.filterMap g
  | [], b => by simp
  | x :: r, b => by
    rw [List.foldl_cons, foldl_opt g r, List.filterMap_cons]
    cases g x <;> simp
theorem foldl_len {α β : Type} (g : α → Option β) : ∀ (xs : List α) (b : List β), (xs.foldl (fun b x => b ++ (g x).toList) b).length ≤ b.length + xs.length
  | [], b => by simp
  | x :: r, b => by
    rw [List.foldl_cons, List.length_cons]
    have := foldl_len g r (b ++ (g x).toList)
    have e : (b ++ (g x).toList).length ≤ b.length + 1 := by rw [List.length_append]; cases g x <;> simp
    omega
noncomputable def ringsV (t : T) : PV := .tuple ((rings t).map pn)
theorem fold_from {α : Type} {body : En → Option Out} {tg : Tg} {e : α → PV} (key : α → Nat) (st : List (List Nat) → En) (t : T) (hb : ∀ x F, key x ∈ t.map (·.1) → F.length ≤ 1000 → ∃ ρ1, asg tg (e x) (st F) = some ρ1 ∧ body ρ1 = some (.nx (st (F ++ (ringF t (key x)).toList)))) : ∀ (xs : List α) (F : List (List Nat)), (∀ x ∈ xs, key x ∈ t.map (·.1)) → F.length + xs.length ≤ 1000 → loopF body tg (xs.map e) (st F) = some (.nx (st (F ++ (xs.map key).filterMap (ringF t))))
  | [], F, _, _ => by simp; rfl
  | x :: r, F, hx, hl => by
    rw [List.length_cons] at hl
    obtain ⟨ρ1, e1, e2⟩ := hb x F (hx x List.mem_cons_self) (by omega)
    rw [List.map_cons, loopF_cons e1 e2, fold_from key st t hb r _ (fun y hy => hx y (List.mem_cons_of_mem _ hy)) (by rw [List.length_append]; cases ringF t (key x) <;> simp <;> omega), List.map_cons, List.filterMap_cons]
    cases ringF t (key x) <;> simp
theorem told_keys : ∀ t : T, keysI (told t) = some ((t.map (·.1)).map fun n : Nat => (n : Int))
  | [] => rfl
  | p :: r => by
    show (keysI (told r)).map _ = _
    rw [told_keys r]; rfl
theorem sort_asc (L : List Nat) (h : L.Pairwise (· < ·)) : sortI (L.map fun n : Nat => (n : Int)) = L.map fun n : Nat => (n : Int) := by
  refine (sortI_perm ?_ (List.Perm.refl _)).symm
  rw [List.pairwise_map]
  exact h.imp fun {a b} q => by omega
theorem see_rings_ok (h : Tb t) : CF (j + 1) "see_rings" [pt t] = some ⟨ringsV t, false⟩ := by
  have tl := tb_len h
  have hd : ∀ {f : PV → Option (Option (L2.Key × PV))}, (∀ p, f (pp p) = some (some (.inl (p.1 : Nat), .int (p.2 : Nat)))) → dcL f (t.map pp) [] = some (told t) := fun hf => told_ok h hf
  have asc : (t.map (·.1)).Pairwise (· < ·) := List.pairwise_map.mpr h.asc
  have ks := told_keys t
  have so := sort_asc _ asc
  have lp := fold_from (body := evB (CF j) glob l_see_rings_2) (tg := .nm 3) (e := fun n : Nat => .int (n : Nat)) id (fun F => [.val (pt t), .dic (told t), .own (F.map pn), .no, .no, .no, .no, .no]) t (fun n F hn hF => ⟨_, rfl, by
    have := rings_turn (j := j) h (mem_dom h hn) (F.map pn) (by rw [List.length_map]; exact hF)
    rw [List.map_append]
    exact this⟩) (t.map (·.1)) [] (fun x hx => hx) (by simp; omega)
  rw [CF, call_eq (d := d_see_rings) rfl rfl]
  unfold ringsV rings
  simp only [CF, List.nil_append, List.map_nil, List.map_id] at lp
  have e2 : ((t.map (·.1)).map fun n : Nat => (n : Int)).map PyData.int = (t.map (·.1)).map fun n : Nat => .int (n : Nat) := by rw [List.map_map]; rfl
  rw [← e2] at lp
  have kl : ((t.map (·.1)).map fun n : Nat => (n : Int)).length < 64 := by simp; omega
  generalize (t.map (·.1)).filterMap (ringF t) = R at *
  generalize (t.map (·.1)).map (fun n : Nat => (n : Int)) = K at *
  have go : ∀ f : PV → Option (Option (L2.Key × PV)), (∀ p, f (pp p) = some (some (.inl (p.1 : Nat), .int (p.2 : Nat)))) → dcL f (t.map pp) [] = some (told t) := fun f hf => hd hf
  simp only [pt] at lp
  simp [d_see_rings, b_see_rings, evB, evS, evT, evE, evA, evR, evF, evI, evO, rd, rdS, slotR, init, slOf, outR, frzE, wipeS, evDc, pt]
  rw [go _ fun p => by simp [pp, keyO]]
  simp [ks, so, kl, lp]
/-! ### the law's own rings -/
theorem wk_ret (h : Tb t) {n k : Nat} (hn : n < 10) (r : RetK t n k) : ∃ A B, its t n k = n :: A ∧ A.length = k ∧ n ∉ A ∧ wk t n 11 = n :: (A ++ n :: B) := by
  have kl := retK_len h hn r
  have tl := tb_len h
  have ev := ret_ever h hn ⟨k, r.1⟩
  have e1 : its t n k = n :: (List.range k).map fun i => it t n (i + 1) := by
    unfold its
    rw [List.range_succ_eq_map, List.map_cons, List.map_map]; rfl
  have e2 : wk t n 11 = its t n k ++ (List.range (11 - k)).map fun i => it t n (k + 1 + i) := by
    rw [wk_live h (ev 11), show 11 + 1 = (k + 1) + (11 - k) by omega, List.range_add, List.map_append, List.map_map]; rfl
  have e3 : (List.range (11 - k)).map (fun i => it t n (k + 1 + i)) = n :: (List.range (10 - k)).map fun i => it t n (k + 1 + (i + 1)) := by
    rw [show 11 - k = (10 - k) + 1 by omega, List.range_succ_eq_map, List.map_cons, List.map_map, Nat.add_zero, r.1]; rfl
  refine ⟨_, _, e1, by simp, ?_, by rw [e2, e1, e3]; rfl⟩
  intro hm
  obtain ⟨i, hi, e⟩ := List.mem_map.mp hm
  rw [List.mem_range] at hi
  exact r.2 (i + 1) (by omega) (by omega) e
theorem wk_noret {n : Nat} (hn : n < 10) (r : ∀ k, ¬ RetK t n k) : ∃ B, wk t n 11 = n :: B ∧ n ∉ B := by
  have : (n != 10) = true := by simp; omega
  refine ⟨((List.range 11).map fun i => it t n (i + 1)).filter (· != 10), ?_, fun hm => ?_⟩
  · unfold wk
    rw [List.range_succ_eq_map, List.map_cons, List.map_map, List.filter_cons]
    show (if (n != 10) = true then _ else _) = _
    rw [if_pos this]; rfl
  · obtain ⟨i, hi, e⟩ := List.mem_map.mp (List.mem_filter.mp hm).1
    obtain ⟨k, hk⟩ := ret_k ⟨i, e⟩
    exact r k hk
theorem index_ok (A B : List Nat) (n : Nat) (h : n ∉ A) : evIndex (.list (iL (A ++ n :: B))) (.int (n : Nat)) = some ⟨.int (A.length : Nat), false⟩ := by
  have e : iL (A ++ n :: B) = ((A ++ n :: B).map fun n : Nat => (n : Int)).map .int := by unfold iL; rw [List.map_map]; rfl
  have ix : ((A ++ n :: B).map fun n : Nat => (n : Int)).idxOf (n : Int) = A.length := by
    rw [List.map_append, List.idxOf_append, if_neg, List.map_cons, List.idxOf_cons_self, List.length_map, Nat.zero_add]
    intro hm
    obtain ⟨x, hx, e⟩ := List.mem_map.mp hm
    exact h (by rw [show n = x by omega]; exact hx)
  show (intsO _).bind _ = _
  rw [e, intsO_map]
  show (if _ then _ else _) = _
  rw [ix, if_pos (by simp)]
theorem lrings_turn (h : Tb t) {n m : Nat} (hn : n < 10) (F : List PV) (hF : F.length ≤ 1000) : evB (CF (j + 1)) glob l_law_rings_1 [.val (pt t), .own F, .val (.int (n : Nat)), .val (.int (m : Nat)), .no, .no] = some (.nx [.val (pt t), .own (F ++ rO (ringF t n)), .no, .no, .no, .no]) := by
  have st := steps_ok (j := j) h hn
  have fl : F.length < LIM := by unfold LIM; omega
  simp only [CF] at st
  by_cases q : ∃ k, RetK t n k
  · obtain ⟨k, r⟩ := q
    obtain ⟨A, B, e1, e2, e3, e4⟩ := wk_ret h hn r
    have ix := index_ok A B n e3
    have im : evCmp .isIn (.int (n : Nat)) (.list (iL (A ++ n :: B))) = some true := by
      rw [show evCmp .isIn (.int (n : Nat)) (.list (iL (A ++ n :: B))) = _ from emb_nat.inL (by decide) _ _]; simp
    rw [e4] at st
    have c1 : cutL (iL (n :: (A ++ n :: B))) (some 1) none = iL (A ++ n :: B) := by rw [cut_from1]; rfl
    have c2 : cutL (iL (n :: (A ++ n :: B))) none (some (1 + (A.length : Int))) = iL (its t n k) := by
      rw [show (1 + (A.length : Int)) = ((A.length + 1 : Nat) : Int) by omega, cut_to, e1]
      unfold iL
      rw [← List.map_take, List.take_succ_cons, List.take_append_of_le_length (Nat.le_refl _), List.take_length]
    obtain ⟨mm, m1, _, m2⟩ := min_its t n k
    have m1 : evBlt .min [.tuple (iL (its t n k))] = some ⟨.int (mm : Nat), false⟩ := m1
    have fin : F ++ rO (ringF t n) = if mm = n then F ++ [.tuple (iL (its t n k))] else F := by
      by_cases q : mm = n
      · rw [if_pos q, ringF_some r (m2.mp q)]; rfl
      · rw [if_neg q, ringF_none fun k' r' => ?_]
        · show F ++ [] = F; simp
        · have := retK_uniq r' r
          subst this
          refine Classical.byContradiction fun z => q (m2.mpr fun i hi => ?_)
          refine Classical.byContradiction fun y => z ⟨i, hi, by omega⟩
    rw [fin]
    generalize iL (its t n k) = L at *
    generalize iL (n :: (A ++ n :: B)) = W at *
    generalize iL (A ++ n :: B) = W2 at *
    by_cases q : mm = n
    · have a1 : ((mm : Int) = (n : Int)) = True := eq_true (by omega)
      rw [if_pos q]
      simp [l_law_rings_1, evB, evS, evT, evE, evA, evR, evF, evI, evO, rd, rdS, slotR, init, slOf, outR, frzE, wipeS, st, c1, c2, ix, im, m1, a1, fl]
    · have a1 : ((mm : Int) = (n : Int)) = False := eq_false (by omega)
      rw [if_neg q]
      simp [l_law_rings_1, evB, evS, evT, evE, evA, evR, evF, evI, evO, rd, rdS, slotR, init, slOf, outR, frzE, wipeS, st, c1, c2, ix, im, m1, a1, fl]
  · obtain ⟨B, e1, e2⟩ := wk_noret hn fun k r => q ⟨k, r⟩
    have im : evCmp .isIn (.int (n : Nat)) (.list (iL B)) = some false := by
      rw [show evCmp .isIn (.int (n : Nat)) (.list (iL B)) = _ from emb_nat.inL (by decide) _ _]; simp [e2]
    rw [e1] at st
    have c1 : cutL (iL (n :: B)) (some 1) none = iL B := by rw [cut_from1]; rfl
    have fin : F ++ rO (ringF t n) = F := by
      rw [ringF_none fun k r => absurd ⟨k, r⟩ q]
      show F ++ [] = F; simp
    rw [fin]
    generalize iL (n :: B) = W at *
    generalize iL B = W2 at *
    simp [l_law_rings_1, evB, evS, evT, evE, evA, evR, evF, evI, evO, rd, rdS, slotR, init, slOf, outR, frzE, wipeS, st, c1, im]
theorem law_rings_ok (h : Tb t) : CF (j + 2) "_law_rings" [pt t] = some ⟨ringsV t, false⟩ := by
  have tl := tb_len h
  have lp := fold_from (body := evB (CF (j + 1)) glob l_law_rings_1) (tg := .tp (.cons (.nm 2) (.cons (.nm 3) .nil))) (e := pp) (·.1) (fun F => [.val (pt t), .own (F.map pn), .no, .no, .no, .no]) t (fun p F hn hF => ⟨_, rfl, by
    have := lrings_turn (j := j) (m := p.2) h (nx_lt h (mem_dom h hn)).1 (F.map pn) (by rw [List.length_map]; exact hF)
    rw [List.map_append]
    exact this⟩) t [] (fun x hx => List.mem_map.mpr ⟨x, hx, rfl⟩) (by simp; omega)
  rw [CF, call_eq (d := d_law_rings) rfl rfl]
  unfold ringsV rings
  simp only [CF, List.nil_append, List.map_nil] at lp
  generalize (t.map (·.1)).filterMap (ringF t) = R at *
  simp only [pt] at lp
  simp [d_law_rings, b_law_rings, evB, evS, evT, evE, evA, evR, evF, evI, evO, rd, rdS, slotR, init, slOf, outR, frzE, wipeS, pt, lp]
end
end K64
set_option Elab.async false
set_option linter.all false
set_option maxRecDepth 100000
set_option maxHeartbeats 1000000
/-! k64: what can be reached. -/
namespace K64
open PySem Pz
/-- what stands behind s along the pairs -/
inductive Cl (u : T) (s : Nat) : Nat → Prop
  | refl : Cl u s s
  | step {x y : Nat} : Cl u s x → (x, y) ∈ u → Cl u s y
open Classical in
noncomputable def cls (P : Nat → Prop) : List Nat := (List.range 10).filter fun x => decide (P x)
open Classical in
theorem mem_cls {P : Nat → Prop} {x : Nat} : x ∈ cls P ↔ x < 10 ∧ P x := by
  unfold cls
  rw [List.mem_filter, List.mem_range, decide_eq_true_eq]
open Classical in
theorem cls_asc (P : Nat → Prop) : (cls P).Pairwise (· < ·) := List.pairwise_lt_range.sublist List.filter_sublist
open Classical in
theorem cls_len (P : Nat → Prop) : (cls P).length ≤ 10 := by
  unfold cls
  exact Nat.le_trans (List.length_filter_le _ _) (by simp)
open Classical in
theorem cls_ext {P Q : Nat → Prop} (h : ∀ x < 10, P x ↔ Q x) : cls P = cls Q := by
  unfold cls
  refine List.filter_congr fun x hx => ?_
  rw [List.mem_range] at hx
  by_cases q : P x
  · have := (h x hx).mp q; simp [q, this]
  · have : ¬ Q x := fun z => q ((h x hx).mpr z)
    simp [q, this]
def cI (L : List Nat) : List Int := L.map fun n : Nat => (n : Int)
theorem iL_cI (L : List Nat) : iL L = (cI L).map .int := by unfold iL cI; rw [List.map_map]; rfl
theorem mem_cI {L : List Nat} {k : Int} : k ∈ cI L ↔ ∃ n : Nat, n ∈ L ∧ (n : Int) = k := by unfold cI; rw [List.mem_map]
theorem cls_cI_asc (P : Nat → Prop) : (cI (cls P)).Pairwise (· < ·) := by
  unfold cI
  rw [List.pairwise_map]
  exact (cls_asc P).imp fun {a b} h => by omega
theorem sset_cls {L : List Nat} {P : Nat → Prop} (h : ∀ x, x ∈ L ↔ x < 10 ∧ P x) (hl : L.length ≤ 4000) : evSset (.list (iL L)) = some ⟨.list (iL (cls P)), true⟩ := by
  have hm : ∀ k : Int, k ∈ cI (cls P) ↔ k ∈ cI L := fun k => by
    rw [mem_cI, mem_cI]
    constructor
    · rintro ⟨n, hn, e⟩; exact ⟨n, (h n).mpr (mem_cls.mp hn), e⟩
    · rintro ⟨n, hn, e⟩; exact ⟨n, mem_cls.mpr ((h n).mp hn), e⟩
  have so := sortI_uniq (cls_cI_asc P) hm
  have nd : (cI (cls P)).Nodup := (cls_cI_asc P).imp fun {a b} h e => by omega
  have dl := dd_len nd hm
  have cl : (cI (cls P)).length ≤ 10 := by unfold cI; rw [List.length_map]; exact cls_len P
  unfold evSset
  rw [iL_cI, iL_cI]
  simp only [intsO_map]
  rw [if_pos, so]
  have : (cI L).length = L.length := List.length_map ..
  simp only [Bool.and_eq_true, decide_eq_true_eq]
  omega
theorem sortB_map {α β : Type} (le : β → β → Bool) (f : α → β) : ∀ xs : List α, sortB le (xs.map f) = (sortB (fun a b => le (f a) (f b)) xs).map f := by
  have ins : ∀ (x : α) (l : List α), insB le (f x) (l.map f) = (insB (fun a b => le (f a) (f b)) x l).map f := fun x l => by
    induction l with
    | nil => rfl
    | cons y r ih =>
      rw [List.map_cons]
      unfold insB
      split
      · rfl
      · rw [ih]; rfl
  intro xs
  induction xs with
  | nil => rfl
  | cons x r ih =>
    show insB le (f x) (sortB le (r.map f)) = _
    rw [ih, ins]; rfl
theorem le_int (a b : Int) : PySem.W.dataLe false id (.int a) (.int b) = decide (a ≤ b) := by
  rw [PySem.W.dataLe_eq]
  show (!PySem.W.dataLt (.int b) (.int a)) = _
  have : PySem.W.dataLt (.int b) (.int a) = decide (b < a) := PySem.W.DatumOrd.lt_eq (α := Int) b a
  rw [this]
  by_cases q : a ≤ b
  · have : ¬ b < a := by omega
    simp [q, this]
  · have : b < a := by omega
    simp [q, this]
theorem sorted_int (ns : List Int) : evBlt .sorted [.list (ns.map .int)] = some ⟨.list ((sortI ns).map .int), true⟩ := by
  have c : canSort (ns.map .int) = true := by
    unfold canSort
    have a1 : okL (ns.map PyData.int) = true := emb_int.okL (by decide) ns
    have a2 : alikeB (ns.map PyData.int) = true := alikeB_toD (α := Int) ns
    have a3 : (ns.map PyData.int).all noTup = true := by
      rw [List.all_map, List.all_eq_true]; intro x _; rfl
    rw [a1, a2, a3]; simp
  show (if canSort (ns.map .int) then _ else _) = _
  rw [if_pos c, sortB_map]
  have : (fun a b : Int => PySem.W.dataLe false id (.int a) (.int b)) = fun a b => decide (a ≤ b) := by
    funext a b; exact le_int a b
  rw [this]; rfl
theorem sorted_cls {L : List Nat} {P : Nat → Prop} (nd : L.Nodup) (h : ∀ x, x ∈ L ↔ x < 10 ∧ P x) : evBlt .sorted [.list (iL L)] = some ⟨.list (iL (cls P)), true⟩ := by
  rw [iL_cI, sorted_int, iL_cI]
  have n2 : (cls P).Nodup := (cls_asc P).imp fun {a b} h e => by omega
  have pm : (cls P).Perm L := (List.perm_ext_iff_of_nodup n2 nd).mpr fun x => by rw [mem_cls, h]
  have : cI (cls P) = sortI (cI L) := sortI_perm ((cls_cI_asc P).imp fun {a b} h => by omega) (pm.map _)
  rw [this]
/-! ### reach -/
def nwOf (u L : T) : T := u
/-- one turn: all that follows the at-th one and is not there yet -/
def addR (u : T) (L : List Nat) (x : Nat) : List Nat := (u.filter fun p => decide (p.1 = x) && !decide (p.2 ∈ L)).map (·.2)
structure RInv (u : T) (s : Nat) (L : List Nat) (a : Nat) : Prop where
  nd : L.Nodup
  lt : ∀ x ∈ L, x < 10
  at0 : s ∈ L
  cl : ∀ x ∈ L, Cl u s x
  done : ∀ i (h : i < L.length), i < a → ∀ y, (L[i], y) ∈ u → y ∈ L
  le : a ≤ L.length
theorem rinv_step {u : T} (hu : u.Nodup) (hl : ∀ p ∈ u, p.1 < 10 ∧ p.2 < 10) {s : Nat} {L : List Nat} {a : Nat} (I : RInv u s L a) (ha : a < L.length) : RInv u s (L ++ addR u L L[a]) (a + 1) where
  nd := by
    rw [List.nodup_append]
    refine ⟨I.nd, ?_, fun x hx y hy e => ?_⟩
    · unfold addR
      rw [List.Nodup, List.pairwise_map]
      refine (hu.sublist List.filter_sublist).imp_of_mem fun {p q} hp hq ne e => ne ?_
      rw [List.mem_filter, Bool.and_eq_true, decide_eq_true_eq] at hp hq
      exact Prod.ext (hp.2.1.trans hq.2.1.symm) e
    · subst e
      obtain ⟨p, hp, rfl⟩ := List.mem_map.mp hy
      rw [List.mem_filter, Bool.and_eq_true, decide_eq_true_eq, Bool.not_eq_true', decide_eq_false_iff_not] at hp
      exact hp.2.2 hx
  lt := fun x hx => by
    rcases List.mem_append.mp hx with hx | hx
    · exact I.lt x hx
    · obtain ⟨p, hp, rfl⟩ := List.mem_map.mp hx
      exact (hl p (List.mem_filter.mp hp).1).2
  at0 := List.mem_append_left _ I.at0
  cl := fun x hx => by
    rcases List.mem_append.mp hx with hx | hx
    · exact I.cl x hx
    · obtain ⟨p, hp, rfl⟩ := List.mem_map.mp hx
      rw [List.mem_filter, Bool.and_eq_true, decide_eq_true_eq] at hp
      refine .step (I.cl _ (List.getElem_mem ha)) ?_
      rw [← hp.2.1]; exact hp.1
  done := fun i h hi y hy => by
    have hiL : i < L.length := by omega
    rw [List.getElem_append_left hiL] at hy
    by_cases q : i < a
    · exact List.mem_append_left _ (I.done i hiL q y hy)
    · have : i = a := by omega
      subst this
      by_cases z : y ∈ L
      · exact List.mem_append_left _ z
      · refine List.mem_append_right _ (List.mem_map.mpr ⟨_, List.mem_filter.mpr ⟨hy, ?_⟩, rfl⟩)
        simp [z]
  le := by rw [List.length_append]; omega
theorem rinv_len {u : T} {s : Nat} {L : List Nat} {a : Nat} (I : RInv u s L a) : L.length ≤ 10 := by
  have := pig I.nd (M := List.range 10) fun x hx => List.mem_range.mpr (I.lt x hx)
  simpa using this
theorem rinv_end {u : T} {s : Nat} {L : List Nat} (I : RInv u s L L.length) (x : Nat) : x ∈ L ↔ x < 10 ∧ Cl u s x := by
  have all : ∀ x, Cl u s x → x ∈ L := fun x h => by
    induction h with
    | refl => exact I.at0
    | step h1 h2 ih =>
      obtain ⟨i, hi, e⟩ := List.getElem_of_mem ih
      exact I.done i hi hi _ (by rw [e]; exact h2)
  exact ⟨fun h => ⟨I.lt x h, I.cl x h⟩, fun h => all x h.2⟩
section
variable {j : Nat}
theorem ext_list (u : T) (L : List Nat) (x : Nat) (f : PV → Option (List PV)) (hf : ∀ p ∈ u, f (pp p) = some (if (decide (p.1 = x) && !decide (p.2 ∈ L)) then [.int (p.2 : Nat)] else [])) : compL f (u.map pp) = some (iL (addR u L x)) := by
  rw [compL_filter (e := pp) (g := fun p => .int (p.2 : Nat)) (p := fun p => decide (p.1 = x) && !decide (p.2 ∈ L)) hf]
  unfold addR iL
  rw [List.map_map]; rfl
theorem reach_body {u : T} (P : PV) (hP : P = .list (u.map pp) ∨ P = .tuple (u.map pp)) {s : Nat} {L : List Nat} {a : Nat} (ha : a < L.length) (hL : L.length ≤ 10) (hA : (addR u L L[a]).length ≤ 100) :
    evB (CF j) glob l_reach_1 [.val P, .val (.int (s : Nat)), .own (iL L), .val (.int (a : Nat)), .no, .no] = some (.nx [.val P, .val (.int (s : Nat)), .own (iL (L ++ addR u L L[a])), .val (.int ((a + 1 : Nat) : Int)), .no, .no]) := by
  have ix : evIdx (.list (iL L)) (.int (a : Nat)) = some (.int (L[a] : Nat)) := by
    rw [ix_list, iL_len, ixOf_nat ha]
    show (iL L)[a]? = _
    unfold iL
    rw [List.getElem?_map, List.getElem?_eq_getElem ha]; rfl
  have nin : ∀ y : Nat, evCmp .notIn (.int (y : Nat)) (.list (iL L)) = some (!decide (y ∈ L)) := fun y => emb_nat.notInL (by decide) _ _
  have go := ext_list u L L[a]
  have lim : (iL L).length + (iL (addR u L L[a])).length ≤ LIM := by rw [iL_len, iL_len]; unfold LIM; omega
  rw [iL_app]
  generalize iL (addR u L L[a]) = A at *
  generalize hx : L[a] = x at *
  have mem : ∀ y : Nat, decide (y ∈ L) = decide (y ∈ L) := fun _ => rfl
  generalize iL L = W at *
  rw [ix_list] at ix
  obtain ⟨z, z1, z2⟩ := Option.bind_eq_some_iff.mp ix
  have turn : ∀ xs, (P = .list xs ∨ P = .tuple xs) → xs = u.map pp → evB (CF j) glob l_reach_1 [.val P, .val (.int (s : Nat)), .own W, .val (.int (a : Nat)), .no, .no] = some (.nx [.val P, .val (.int (s : Nat)), .own (W ++ A), .val (.int ((a + 1 : Nat) : Int)), .no, .no]) := fun xs h e => by
    rcases h with rfl | rfl <;> subst e
    · simp [l_reach_1, evB, evS, evT, evE, evA, evR, evF, evI, evO, rd, rdS, slotR, init, slOf, outR, frzE, wipeS]
      rw [go _ fun p _ => ?_]
      · simp [lim]
      · by_cases q : p.1 = x
        · simp [pp, q, z1, z2, nin]
          by_cases q2 : p.2 ∈ L <;> simp [q2]
        · have : ¬ (p.1 : Int) = (x : Int) := by omega
          simp [pp, q, this, z1, z2]
    · simp [l_reach_1, evB, evS, evT, evE, evA, evR, evF, evI, evO, rd, rdS, slotR, init, slOf, outR, frzE, wipeS]
      rw [go _ fun p _ => ?_]
      · simp [lim]
      · by_cases q : p.1 = x
        · simp [pp, q, z1, z2, nin]
          by_cases q2 : p.2 ∈ L <;> simp [q2]
        · have : ¬ (p.1 : Int) = (x : Int) := by omega
          simp [pp, q, this, z1, z2]
  exact turn _ hP rfl
theorem reach_run {u : T} (hu : u.Nodup) (hl : ∀ p ∈ u, p.1 < 10 ∧ p.2 < 10) (P : PV) (hP : P = .list (u.map pp) ∨ P = .tuple (u.map pp)) {s : Nat} : ∀ (d : Nat) (L : List Nat) (a fuel : Nat), RInv u s L a → d + a = 10 → 100 ≤ fuel →
    ∃ L', RInv u s L' L'.length ∧ loopW (evT (CF j) glob (.cmp .lt (.var 3) (.blt .len (.cons (.var 2) .nil)))) (evB (CF j) glob l_reach_1) (d + fuel) [.val P, .val (.int (s : Nat)), .own (iL L), .val (.int (a : Nat)), .no, .no] = some (.nx [.val P, .val (.int (s : Nat)), .own (iL L'), .val (.int (L'.length : Nat)), .no, .no]) := by
  have cond : ∀ (L : List Nat) (a : Nat), evT (CF j) glob (.cmp .lt (.var 3) (.blt .len (.cons (.var 2) .nil))) [.val P, .val (.int (s : Nat)), .own (iL L), .val (.int (a : Nat)), .no, .no] = some (decide (a < L.length)) := fun L a => by
    have := iL_len L
    generalize iL L = W at *
    simp [evB, evS, evT, evE, evA, evR, evF, evI, evO, rd, rdS, slotR, init, slOf, outR, frzE, wipeS, this]
  have stop : ∀ (L : List Nat) (a f : Nat), RInv u s L a → ¬ a < L.length → 1 ≤ f → ∃ L', RInv u s L' L'.length ∧ loopW (evT (CF j) glob (.cmp .lt (.var 3) (.blt .len (.cons (.var 2) .nil)))) (evB (CF j) glob l_reach_1) f [.val P, .val (.int (s : Nat)), .own (iL L), .val (.int (a : Nat)), .no, .no] = some (.nx [.val P, .val (.int (s : Nat)), .own (iL L'), .val (.int (L'.length : Nat)), .no, .no]) := fun L a f I q hf => by
    have e : a = L.length := by have := I.le; omega
    subst e
    obtain ⟨g, rfl⟩ : ∃ g, f = g + 1 := ⟨f - 1, by omega⟩
    exact ⟨L, I, loopW_end (by rw [cond]; simp)⟩
  intro d
  induction d with
  | zero =>
    intro L a fuel I e hf
    have := rinv_len I
    exact stop L a _ I (by omega) (by omega)
  | succ d ih =>
    intro L a fuel I e hf
    by_cases q : a < L.length
    · have I2 := rinv_step hu hl I q
      have l2 := rinv_len I2
      rw [List.length_append] at l2
      obtain ⟨L', I', e'⟩ := ih _ (a + 1) fuel I2 (by omega) hf
      refine ⟨L', I', ?_⟩
      rw [show d + 1 + fuel = (d + fuel) + 1 by omega, loopW_step (by rw [cond]; simp [q]) (reach_body P hP q (rinv_len I) (by omega))]
      exact e'
    · exact stop L a _ I q (by omega)
theorem reach_ok {u : T} (hu : u.Nodup) (hl : ∀ p ∈ u, p.1 < 10 ∧ p.2 < 10) (P : PV) (hP : P = .list (u.map pp) ∨ P = .tuple (u.map pp)) {s : Nat} (hs : s < 10) : CF (j + 1) "reach" [P, .int (s : Nat)] = some ⟨.tuple (iL (cls (Cl u s))), false⟩ := by
  rw [CF, call_eq (d := d_reach) rfl rfl]
  have I0 : RInv u s [s] 0 := ⟨by simp, fun x hx => by rw [List.mem_singleton] at hx; omega, by simp, fun x hx => by rw [List.mem_singleton] at hx; subst hx; exact .refl, fun i h hi => absurd hi (by omega), Nat.zero_le _⟩
  obtain ⟨L, I, lp⟩ := reach_run (j := j) hu hl P hP 10 [s] 0 990 I0 rfl (by omega)
  have lp : loopW (evT (callF glob tbl j) glob (.cmp .lt (.var 3) (.blt .len (.cons (.var 2) .nil)))) (evB (callF glob tbl j) glob l_reach_1) 1000 [.val P, .val (.int (s : Nat)), .own [.int (s : Nat)], .val (.int 0), .no, .no] = some (.nx [.val P, .val (.int (s : Nat)), .own (iL L), .val (.int (L.length : Nat)), .no, .no]) := lp
  have ss := sset_cls (rinv_end I) (by have := rinv_len I; omega)
  generalize iL (cls (Cl u s)) = W at *
  generalize iL L = W2 at *
  simp [d_reach, b_reach, evB, evS, evT, evE, evA, evR, evF, evI, evO, rd, rdS, slotR, init, slOf, outR, frzE, wipeS, lp, ss]
end
end K64
set_option Elab.async false
set_option linter.all false
set_option maxRecDepth 100000
set_option maxHeartbeats 1000000
/-! k64: subjects: no rings; the one way up. -/
namespace K64
open PySem Pz
def rt (t : T) : T := t.map fun p => (p.2, p.1)
theorem tb_nd {t : T} (h : Tb t) : t.Nodup := h.asc.imp fun {a b} q e => by rw [e] at q; omega
theorem rt_nd {t : T} (h : Tb t) : (rt t).Nodup := by
  unfold rt
  rw [List.Nodup, List.pairwise_map]
  exact h.asc.imp fun {a b} q e => by
    have : a.1 = b.1 := congrArg Prod.snd e
    omega
theorem rt_lt {t : T} (h : Tb t) : ∀ p ∈ rt t, p.1 < 10 ∧ p.2 < 10 := fun p hp => by
  obtain ⟨q, hq, rfl⟩ := List.mem_map.mp hp
  exact ⟨(h.lt q hq).2, (h.lt q hq).1⟩
theorem mem_rt {t : T} {a b : Nat} : (a, b) ∈ rt t ↔ (b, a) ∈ t := by
  unfold rt
  rw [List.mem_map]
  exact ⟨fun ⟨p, hp, e⟩ => by
    have e1 : p.2 = a := congrArg Prod.fst e
    have e2 : p.1 = b := congrArg Prod.snd e
    rw [← e1, ← e2]; exact hp, fun h => ⟨_, h, rfl⟩⟩
/-- forward: the walk -/
theorem cl_it {t : T} (h : Tb t) {s : Nat} (hs : s < 10) (x : Nat) : Cl t s x ↔ x < 10 ∧ ∃ k, it t s k = x := by
  constructor
  · intro c
    induction c with
    | refl => exact ⟨hs, 0, rfl⟩
    | step c1 c2 ih =>
      obtain ⟨_, k, e⟩ := ih
      have := (nx_mem h).mp c2
      exact ⟨this.2, k + 1, by show nx t (it t s k) = _; rw [e]; exact this.1⟩
  · rintro ⟨hx, k, e⟩
    induction k generalizing x with
    | zero => have e : s = x := e; subst e; exact .refl
    | succ k ih =>
      have e : nx t (it t s k) = x := e
      have l : nx t (it t s k) ≠ 10 := by omega
      exact .step (ih (it t s k) (nx_lt h l).1 rfl) (by rw [← e]; exact (nx_lt h l).2.2)
/-- backward -/
theorem cl_rt {t : T} (h : Tb t) {s : Nat} (hs : s < 10) (x : Nat) : Cl (rt t) s x ↔ x < 10 ∧ ∃ k, it t x k = s := by
  constructor
  · intro c
    induction c with
    | refl => exact ⟨hs, 0, rfl⟩
    | @step a b c1 c2 ih =>
      obtain ⟨_, k, e⟩ := ih
      have m := mem_rt.mp c2
      have := (nx_mem h).mp m
      refine ⟨(h.lt _ m).1, 1 + k, ?_⟩
      rw [it_add]
      show it t (nx t b) k = s
      rw [this.1]; exact e
  · rintro ⟨hx, k, e⟩
    induction k generalizing x with
    | zero => have e : x = s := e; subst e; exact .refl
    | succ k ih =>
      have e : it t (nx t x) k = s := by
        rw [show k + 1 = 1 + k by omega, it_add] at e; exact e
      have l : nx t x ≠ 10 := fun z => by rw [z, it_ten h] at e; omega
      exact .step (ih (nx t x) (nx_lt h l).2.1 e) (mem_rt.mpr (nx_lt h l).2.2)
theorem cyc {t : T} (h : Tb t) {p : Nat × Nat} (hp : p ∈ t) : p.2 ∈ cls (Cl (rt t) p.1) ↔ Ret t p.1 := by
  have hl := h.lt p hp
  have e := (nx_mem h (n := p.1) (m := p.2)).mp hp
  rw [mem_cls, cl_rt h hl.1]
  constructor
  · rintro ⟨_, _, k, q⟩
    refine ⟨k, ?_⟩
    rw [show k + 1 = 1 + k by omega, it_add]
    show it t (nx t p.1) k = p.1
    rw [e.1]; exact q
  · rintro ⟨k, q⟩
    refine ⟨hl.2, hl.2, k, ?_⟩
    rw [show k + 1 = 1 + k by omega, it_add] at q
    have q : it t (nx t p.1) k = p.1 := q
    rw [e.1] at q; exact q
theorem any_cyc {t : T} (h : Tb t) : (t.any fun p => decide (p.2 ∈ cls (Cl (rt t) p.1))) = decide (rings t ≠ []) := by
  by_cases q : rings t = []
  · have : (t.any fun p => decide (p.2 ∈ cls (Cl (rt t) p.1))) = false := by
      rw [List.any_eq_false]
      intro p hp hc
      have := (cyc h hp).mp (by simpa using hc)
      exact rings_of h (h.lt p hp).1 this q
    rw [this]; simp [q]
  · obtain ⟨n, hn, r⟩ := ret_of_rings h q
    obtain ⟨p, hp, rfl⟩ := List.mem_map.mp hn
    have : (t.any fun p => decide (p.2 ∈ cls (Cl (rt t) p.1))) = true := by
      rw [List.any_eq_true]
      exact ⟨p, hp, by simpa using (cyc h hp).mpr r⟩
    rw [this]; simp [q]
section
variable {j : Nat} {t : T}
theorem above_ok (h : Tb t) {n : Nat} (hn : n < 10) : CF (j + 2) "above_all" [pt t, .int (n : Nat)] = some ⟨.tuple (iL (cls (Cl t n))), false⟩ := by
  rw [CF, call_eq (d := d_above_all) rfl rfl]
  have r := reach_ok (j := j) (tb_nd h) h.lt (pt t) (.inr rfl) hn
  simp only [CF] at r
  simp [d_above_all, b_above_all, evB, evS, evT, evE, evA, evR, evF, evI, evO, rd, rdS, slotR, init, slOf, outR, frzE, wipeS, r]
theorem below_ok (h : Tb t) {n : Nat} (hn : n < 10) : CF (j + 2) "below_all" [pt t, .int (n : Nat)] = some ⟨.tuple (iL (cls (Cl (rt t) n))), false⟩ := by
  rw [CF, call_eq (d := d_below_all) rfl rfl]
  have r := reach_ok (j := j) (rt_nd h) (rt_lt h) (.list ((rt t).map pp)) (.inl rfl) hn
  simp only [CF] at r
  simp [d_below_all, b_below_all, evB, evS, evT, evE, evA, evR, evF, evI, evO, rd, rdS, slotR, init, slOf, outR, frzE, wipeS, pt]
  rw [compL_map (e := pp) (g := fun p => pp (p.2, p.1)) fun p hp => by simp [pp]]
  have e : t.map (fun p => pp (p.2, p.1)) = (rt t).map pp := by unfold rt; rw [List.map_map]; rfl
  simp [e, r]
theorem is_pair_ok {p : Nat × Nat} (hp : p.1 < 10 ∧ p.2 < 10) : CF (j + 1) "is_pair" [pp p] = some ⟨.bool true, false⟩ := by
  rw [CF, call_eq (d := d_is_pair) rfl rfl]
  have g : glob ("MOST_SUBJECT" : Str) = some (.int 9) := rfl
  have a1 : (p.1 : Int) ≤ 9 := by omega
  have a2 : (p.2 : Int) ≤ 9 := by omega
  have a3 : (0 : Int) ≤ (p.1 : Int) := by omega
  have a4 : (0 : Int) ≤ (p.2 : Int) := by omega
  have al : evBlt .all [.list [.bool true, .bool true]] = some ⟨.bool true, false⟩ := rfl
  simp [d_is_pair, b_is_pair, evB, evS, evT, evE, evA, evR, evF, evI, evO, rd, rdS, slotR, init, slOf, outR, frzE, wipeS, pp, isiB, g, a1, a2, a3, a4, compL, al]
theorem lt_pp {p q : Nat × Nat} (h : p.1 < q.1) : evCmp .lt (pp p) (pp q) = some true := by
  have e := plt_toD (α := PySem.W.Tup Int) ⟨[(p.1 : Int), (p.2 : Int)]⟩ ⟨[(q.1 : Int), (q.2 : Int)]⟩ (by decide)
  have l : PySem.W.DatumOrd.lt (α := PySem.W.Tup Int) ⟨[(p.1 : Int), (p.2 : Int)]⟩ ⟨[(q.1 : Int), (q.2 : Int)]⟩ = true := by
    show PySem.W.listLt [(p.1 : Int), (p.2 : Int)] [(q.1 : Int), (q.2 : Int)] = true
    unfold PySem.W.listLt
    rw [if_neg (by omega)]
    show decide ((p.1 : Int) < (q.1 : Int)) = true
    rw [decide_eq_true_eq]; omega
  rw [l] at e
  exact e
theorem is_subjects_ok (h : Tb t) : CF (j + 3) "is_subjects" [pt t] = some ⟨.bool (decide (rings t = [])), false⟩ := by
  rw [CF, call_eq (d := d_is_subjects) rfl rfl]
  have tl := tb_len h
  have ip := fun p (hp : p ∈ t) => is_pair_ok (j := j + 1) (h.lt p hp)
  have bl := fun n (hn : n < 10) => below_ok (j := j) h hn
  have ac := any_cyc h
  have rl : rngL 0 ((t.length : Int) - 1).toNat = (List.range (t.length - 1)).map fun i => .int (i : Nat) := by
    rw [rngL_zero]; congr 2; omega
  have rl2 : rngL 0 (t.length - 1) = (List.range (t.length - 1)).map fun i => .int (i : Nat) := rngL_zero _
  have la : ((t.length : Int) - 1).natAbs ≤ LIM := by unfold LIM; omega
  have lt : ∀ i, i < t.length - 1 → ∃ p q, evIdx (pt t) (.int (i : Nat)) = some (pp p) ∧ evIdx (pt t) (.int ((i : Int) + 1)) = some (pp q) ∧ p.1 < q.1 := fun i hi => by
    have h1 : i < t.length := by omega
    have h2 : i + 1 < t.length := by omega
    refine ⟨t[i], t[i + 1], ?_, ?_, List.pairwise_iff_getElem.mp h.asc i (i + 1) h1 h2 (by omega)⟩
    · unfold pt
      rw [ix_tup, List.length_map, ixOf_nat h1]
      show (t.map pp)[i]? = _
      rw [List.getElem?_map, List.getElem?_eq_getElem h1]; rfl
    · unfold pt
      rw [ix_tup, List.length_map, show ((i : Int) + 1) = ((i + 1 : Nat) : Int) by omega, ixOf_nat h2]
      show (t.map pp)[i + 1]? = _
      rw [List.getElem?_map, List.getElem?_eq_getElem h2]; rfl
  have c1 : ∀ f : PV → Option (List PV), (∀ p ∈ t, f (pp p) = some [.bool true]) → compL f (t.map pp) = some (t.map fun _ => .bool true) := fun f hf => compL_map (e := pp) (g := fun _ => .bool true) hf
  have c2 : ∀ f : PV → Option (List PV), (∀ i ∈ List.range (t.length - 1), f (.int (i : Nat)) = some [.bool true]) → compL f ((List.range (t.length - 1)).map fun i => .int (i : Nat)) = some ((List.range (t.length - 1)).map fun _ => .bool true) := fun f hf => compL_map (e := fun i : Nat => PyData.int (i : Nat)) (g := fun _ => .bool true) hf
  have c3 : ∀ f : PV → Option (List PV), (∀ p ∈ t, f (pp p) = some [.bool (decide (p.2 ∈ cls (Cl (rt t) p.1)))]) → compL f (t.map pp) = some (t.map fun p => .bool (decide (p.2 ∈ cls (Cl (rt t) p.1)))) := fun f hf => compL_map (e := pp) (g := fun p => .bool (decide (p.2 ∈ cls (Cl (rt t) p.1)))) hf
  have a1 : evBlt .all [.list (t.map fun _ => .bool true)] = some ⟨.bool true, false⟩ := by
    have := blt_allM (xs := t) (p := fun _ => true)
    rw [this]; simp
  have a2 : evBlt .all [.list ((List.range (t.length - 1)).map fun _ => .bool true)] = some ⟨.bool true, false⟩ := by
    have := blt_allM (xs := List.range (t.length - 1)) (p := fun _ => true)
    rw [this]; simp
  have a3 : evBlt .any [.list (t.map fun p => .bool (decide (p.2 ∈ cls (Cl (rt t) p.1))))] = some ⟨.bool (decide (rings t ≠ [])), false⟩ := by
    rw [blt_anyM (xs := t) (p := fun p => decide (p.2 ∈ cls (Cl (rt t) p.1))), ac]
  have ty : isiB (pt t) .tuple = some true := rfl
  have ev : evI (callF glob tbl (j + 2)) glob false (.seq (.var 0)) = evI (callF glob tbl (j + 2)) glob false (.seq (.var 0)) := rfl
  have pl : evBlt .len [pt t] = some ⟨.int (t.length : Nat), false⟩ := by unfold pt; rw [blt_lenT, List.length_map]
  simp only [CF] at ip bl
  have ed : (!decide (rings t ≠ [])) = decide (rings t = []) := by simp
  have unf : pt t = .tuple (t.map pp) := rfl
  simp only [unf] at lt ty pl bl ⊢
  simp [d_is_subjects, b_is_subjects, evB, evS, evT, evE, evA, evR, evF, evI, evO, rd, rdS, slotR, init, slOf, outR, frzE, wipeS, isiB, la]
  rw [c1 _ fun p hp => by simp [ip p hp]]
  simp [a1, la, rl2]
  rw [c2 _ fun i hi => by
    obtain ⟨p, q, e1, e2, e3⟩ := lt i (List.mem_range.mp hi)
    rw [ix_tup] at e1 e2
    obtain ⟨z, z1, z2⟩ := Option.bind_eq_some_iff.mp e1
    obtain ⟨y, y1, y2⟩ := Option.bind_eq_some_iff.mp e2
    rw [List.length_map] at z1 y1
    simp at z2 y2
    obtain ⟨_, _, z2, z3⟩ := z2
    obtain ⟨_, _, y2, y3⟩ := y2
    simp [z1, y1, z2, y2, z3, y3, lt_pp e3]]
  simp [a2]
  rw [c3 _ fun p hp => by
    have hb := bl p.1 (h.lt p hp).1
    have hi : evCmp .isIn (.int (p.2 : Nat)) (.tuple (iL (cls (Cl (rt t) p.1)))) = some (decide (p.2 ∈ cls (Cl (rt t) p.1))) := emb_nat.inT (by decide) _ _
    simp [pp, hb, hi]]
  simp [a3, ed]
end
end K64
set_option Elab.async false
set_option linter.all false
set_option maxRecDepth 100000
set_option maxHeartbeats 1000000
/-! k64: the one way up. -/
namespace K64
open PySem Pz
theorem its_last (t : T) (n k : Nat) : ∃ l, its t n k = l ++ [it t n k] := by
  unfold its
  rw [List.range_succ, List.map_append]
  exact ⟨_, rfl⟩
theorem ix_lastT (l : List Nat) (y : Nat) : evIdx (.tuple (iL (l ++ [y]))) (.int (-1)) = some (.int (y : Nat)) := ix_last l y
section
variable {j : Nat} {t : T}
theorem way_turn (h : Tb t) {n k : Nat} (hk : k ≤ 100) : evB (CF j) glob l_ways_up_2 [.val (pt t), .val (.int (n : Nat)), .val (.list [.tuple (iL (its t n k))]), .own [], .no, .no, .no, .no, .no] = some (.nx
    (if nx t (it t n k) = 10 then [.val (pt t), .val (.int (n : Nat)), .val (.list []), .own [.tuple (iL (its t n k))], .no, .no, .no, .no, .no]
     else [.val (pt t), .val (.int (n : Nat)), .val (.list [.tuple (iL (its t n (k + 1)))]), .own [], .no, .no, .no, .no, .no])) := by
  obtain ⟨l, el⟩ := its_last t n k
  have ix : evIdx (.tuple (iL (its t n k))) (.int (-1)) = some (.int (it t n k : Nat)) := by rw [el]; exact ix_lastT _ _
  have e2 : iL (its t n (k + 1)) = iL (its t n k) ++ [.int (nx t (it t n k) : Nat)] := by rw [its_succ, iL_app]; rfl
  have ln : (iL (its t n k)).length ≤ 101 := by rw [iL_len, its_len]; omega
  rw [e2]
  have af := after_f h (it t n k)
  generalize iL (its t n k) = W at *
  generalize it t n k = y at *
  have cf : ∀ f : PV → Option (List PV), (∀ p ∈ t, f (pp p) = some (if decide (p.1 = y) then [.int (p.2 : Nat)] else [])) → compL f (t.map pp) = some (if nx t y = 10 then [] else [.int (nx t y : Nat)]) := fun f hf => by
    rw [compL_filter (e := pp) (g := fun p => .int (p.2 : Nat)) (p := fun p => decide (p.1 = y)) hf]
    have := congrArg (List.map fun n : Nat => PyData.int (n : Nat)) af
    rw [List.map_map] at this
    rw [show (fun p : Nat × Nat => PyData.int (p.2 : Nat)) = (fun n : Nat => PyData.int (n : Nat)) ∘ (·.2) from rfl, this]
    split <;> rfl
  rw [ix_tup] at ix
  obtain ⟨z, z1, z2⟩ := Option.bind_eq_some_iff.mp ix
  have cat : evBin .add (.tuple W) (.tuple [.int (nx t y : Nat)]) = some ⟨.tuple (W ++ [.int (nx t y : Nat)]), false⟩ := bin_cat (by simp; unfold LIM; omega)
  have body : evB (CF j) glob l_ways_up_1 [.val (.tuple (t.map pp)), .val (.int (n : Nat)), .val (.list [.tuple W]), .own [], .own [], .val (.tuple W), .no, .no, .no] = some (.nx
      (if nx t y = 10 then [.val (.tuple (t.map pp)), .val (.int (n : Nat)), .val (.list [.tuple W]), .own [.tuple W], .own [], .no, .no, .no, .no]
       else [.val (.tuple (t.map pp)), .val (.int (n : Nat)), .val (.list [.tuple W]), .own [], .own [.tuple (W ++ [.int (nx t y : Nat)])], .no, .no, .no, .no])) := by
    have l1 : 1 ≤ LIM := by decide
    simp [l_ways_up_1, evB, evS, evT, evE, evA, evR, evF, evI, evO, rd, rdS, slotR, init, slOf, outR, frzE, wipeS]
    rw [cf _ fun p _ => ?_]
    · by_cases q : nx t y = 10
      · simp [q, compL, l1]
      · simp [q, compL, cat, l1]
    · by_cases q : p.1 = y
      · simp [pp, q, z1, z2]
      · have : ¬ (p.1 : Int) = (y : Int) := by omega
        simp [pp, q, this, z1, z2]
  have lp : ∀ ρ2, evB (CF j) glob l_ways_up_1 [.val (.tuple (t.map pp)), .val (.int (n : Nat)), .val (.list [.tuple W]), .own [], .own [], .val (.tuple W), .no, .no, .no] = some (.nx ρ2) → loopF (evB (CF j) glob l_ways_up_1) (.nm 5) [.tuple W] [.val (.tuple (t.map pp)), .val (.int (n : Nat)), .val (.list [.tuple W]), .own [], .own [], .no, .no, .no, .no] = some (.nx ρ2) := fun ρ2 hb => by
    rw [loopF_cons rfl hb]; rfl
  have lp := lp _ body
  unfold pt
  by_cases q : nx t y = 10
  · rw [if_pos q] at lp ⊢
    simp [l_ways_up_2, evB, evS, evT, evE, evA, evR, evF, evI, evO, rd, rdS, slotR, init, slOf, outR, frzE, wipeS, lp]
  · rw [if_neg q] at lp ⊢
    simp [l_ways_up_2, evB, evS, evT, evE, evA, evR, evF, evI, evO, rd, rdS, slotR, init, slOf, outR, frzE, wipeS, lp]
theorem way_run (h : Tb t) {n K : Nat} (hK : K ≤ 10) (e1 : it t n K ≠ 10) (e2 : it t n (K + 1) = 10) : ∀ (d k fuel : Nat), k + d = K → 100 ≤ fuel →
    loopW (evT (CF j) glob (.var 2)) (evB (CF j) glob l_ways_up_2) (d + fuel) [.val (pt t), .val (.int (n : Nat)), .val (.list [.tuple (iL (its t n k))]), .own [], .no, .no, .no, .no, .no] = some (.nx [.val (pt t), .val (.int (n : Nat)), .val (.list []), .own [.tuple (iL (its t n K))], .no, .no, .no, .no, .no]) := by
  have c1 : ∀ (X : List PV) (F : List PV), evT (CF j) glob (.var 2) [.val (pt t), .val (.int (n : Nat)), .val (.list X), .own F, .no, .no, .no, .no, .no] = some (!X.isEmpty) := fun X F => by simp [evB, evS, evT, evE, evA, evR, evF, evI, evO, rd, rdS, slotR, init, slOf, outR, frzE, wipeS]
  intro d
  induction d with
  | zero =>
    intro k fuel e hf
    obtain ⟨f, rfl⟩ : ∃ f, fuel = f + 1 + 1 := ⟨fuel - 2, by omega⟩
    have e : k = K := by omega
    subst e
    have tr := way_turn (j := j) (t := t) h (n := n) (k := k) (by omega)
    have e2 : nx t (it t n k) = 10 := e2
    rw [if_pos e2] at tr
    rw [Nat.zero_add, loopW_step (by rw [c1]; rfl) tr, loopW_end (by rw [c1]; rfl)]
  | succ d ih =>
    intro k fuel e hf
    have tr := way_turn (j := j) (t := t) h (n := n) (k := k) (by omega)
    have l : ¬ nx t (it t n k) = 10 := it_live h e1 (j := k + 1) (by omega)
    rw [if_neg l] at tr
    rw [show d + 1 + fuel = (d + fuel) + 1 by omega, loopW_step (by rw [c1]; rfl) tr]
    exact ih (k + 1) fuel (by omega) hf
theorem sort_one (W : List PV) (hW : W ≠ []) (ho : okL [.tuple W] = true) (ha : alikeB [.tuple W] = true) : evBlt .sorted [.list [.tuple W]] = some ⟨.list [.tuple W], true⟩ := by
  have c : canSort [.tuple W] = true := by
    unfold canSort
    rw [ho, ha]
    cases W with
    | nil => exact absurd rfl hW
    | cons x r => rfl
  show (if canSort [.tuple W] then _ else _) = _
  rw [if_pos c]; rfl
theorem ways_ok (h : Tb t) (hr : rings t = []) {n : Nat} (hn : n < 10) : CF (j + 1) "ways_up" [pt t, .int (n : Nat)] = some ⟨.tuple [.tuple (iL (wk t n 11))], false⟩ := by
  rw [CF, call_eq (d := d_ways_up) rfl rfl]
  obtain ⟨k, a, b, c, _⟩ := no_rings h hr hn
  have tl := tb_len h
  have e : wk t n 11 = its t n k := wk_end h b c (by omega)
  rw [e]
  have lp := way_run (j := j) h (by omega) b c k 0 (1000 - k) (by omega) (by omega)
  rw [show k + (1000 - k) = 1000 by omega] at lp
  have lp : loopW (evT (callF glob tbl j) glob (.var 2)) (evB (callF glob tbl j) glob l_ways_up_2) 1000 [.val (pt t), .val (.int (n : Nat)), .val (.list [.tuple [.int (n : Nat)]]), .own [], .no, .no, .no, .no, .no] = some (.nx [.val (pt t), .val (.int (n : Nat)), .val (.list []), .own [.tuple (iL (its t n k))], .no, .no, .no, .no, .no]) := lp
  have tu : PyData.tuple (iL (its t n k)) = PySem.W.Datum.toD (α := PySem.W.Tup Int) ⟨cI (its t n k)⟩ := by rw [iL_cI]; rfl
  have so := sort_one (iL (its t n k)) (by intro z; have := iL_len (its t n k); rw [z, its_len] at this; simp at this) (by rw [tu]; exact emb_ord.okL (by decide) [(⟨cI (its t n k)⟩ : PySem.W.Tup Int)]) (by rw [tu]; exact alikeB_toD [(⟨cI (its t n k)⟩ : PySem.W.Tup Int)])
  generalize iL (its t n k) = W at *
  simp [d_ways_up, b_ways_up, evB, evS, evT, evE, evA, evR, evF, evI, evO, rd, rdS, slotR, init, slOf, outR, frzE, wipeS, lp, so]
end
end K64
set_option Elab.async false
set_option linter.all false
set_option maxRecDepth 100000
set_option maxHeartbeats 1000000
/-! k64: names joined. -/
namespace K64
open PySem Pz
def sy (t : T) : T := t ++ rt t
theorem mem_sy {t : T} {a b : Nat} : (a, b) ∈ sy t ↔ (a, b) ∈ t ∨ (b, a) ∈ t := by
  unfold sy
  rw [List.mem_append, mem_rt]
def jst (x : Nat) (L : List Nat) (p : Nat × Nat) : List Nat :=
  let L1 := if p.1 = x ∧ p.2 ∉ L then L ++ [p.2] else L
  if p.2 = x ∧ p.1 ∉ L1 then L1 ++ [p.1] else L1
theorem jst_ok (x : Nat) (L : List Nat) (p : Nat × Nat) : (∃ A, jst x L p = L ++ A) ∧ (L.Nodup → (jst x L p).Nodup) ∧ (∀ y ∈ jst x L p, y ∈ L ∨ (x, y) = p ∨ (y, x) = p) ∧ (p.1 = x → p.2 ∈ jst x L p) ∧ (p.2 = x → p.1 ∈ jst x L p) := by
  have nd : ∀ (L : List Nat) (a : Nat), L.Nodup → a ∉ L → (L ++ [a]).Nodup := fun L a h1 h2 => by
    rw [List.nodup_append]
    exact ⟨h1, by simp, fun z hz y hy e => by rw [List.mem_singleton] at hy; subst hy e; exact h2 hz⟩
  have ex : p = (p.1, p.2) := rfl
  unfold jst
  dsimp only
  generalize hL1 : (if p.1 = x ∧ p.2 ∉ L then L ++ [p.2] else L) = L1
  have a1 : (∃ A, L1 = L ++ A) ∧ (L.Nodup → L1.Nodup) ∧ (∀ y ∈ L1, y ∈ L ∨ (x, y) = p) ∧ (p.1 = x → p.2 ∈ L1) := by
    rw [← hL1]
    split
    · rename_i q
      refine ⟨⟨_, rfl⟩, fun h => nd L _ h q.2, fun y hy => ?_, fun _ => by simp⟩
      rcases List.mem_append.mp hy with hy | hy
      · exact .inl hy
      · rw [List.mem_singleton] at hy
        exact .inr (by rw [hy, ← q.1])
    · rename_i q
      refine ⟨⟨[], by simp⟩, fun h => h, fun y hy => .inl hy, fun e => ?_⟩
      exact Classical.byContradiction fun z => q ⟨e, z⟩
  obtain ⟨⟨A, eA⟩, b2, b3, b4⟩ := a1
  split
  · rename_i q
    refine ⟨⟨A ++ [p.1], by rw [eA, List.append_assoc]⟩, fun h => nd L1 _ (b2 h) q.2, fun y hy => ?_, fun e => List.mem_append_left _ (b4 e), fun _ => by simp⟩
    rcases List.mem_append.mp hy with hy | hy
    · exact (b3 y hy).elim .inl fun z => .inr (.inl z)
    · rw [List.mem_singleton] at hy
      exact .inr (.inr (by rw [hy, ← q.1]))
  · rename_i q
    refine ⟨⟨A, eA⟩, b2, fun y hy => (b3 y hy).elim .inl fun z => .inr (.inl z), b4, fun e => ?_⟩
    exact Classical.byContradiction fun z => q ⟨e, z⟩
theorem jfold (x : Nat) : ∀ (u : T) (L : List Nat), (∃ A, u.foldl (jst x) L = L ++ A) ∧ (L.Nodup → (u.foldl (jst x) L).Nodup) ∧ (∀ y ∈ u.foldl (jst x) L, y ∈ L ∨ (x, y) ∈ u ∨ (y, x) ∈ u) ∧ ∀ p ∈ u, (p.1 = x → p.2 ∈ u.foldl (jst x) L) ∧ (p.2 = x → p.1 ∈ u.foldl (jst x) L)
  | [], L => ⟨⟨[], by simp⟩, fun h => h, fun y h => .inl h, fun p h => by cases h⟩
  | p :: r, L => by
    obtain ⟨⟨A, a1⟩, a2, a3, a4, a5⟩ := jst_ok x L p
    obtain ⟨⟨B, b1⟩, b2, b3, b4⟩ := jfold x r (jst x L p)
    rw [List.foldl_cons]
    have up : ∀ y, y ∈ jst x L p → y ∈ r.foldl (jst x) (jst x L p) := fun y hy => by rw [b1]; exact List.mem_append_left _ hy
    refine ⟨⟨A ++ B, by rw [b1, a1, List.append_assoc]⟩, fun h => b2 (a2 h), fun y hy => ?_, fun q hq => ?_⟩
    · rcases b3 y hy with z | z | z
      · rcases a3 y z with z | z | z
        · exact .inl z
        · exact .inr (.inl (by rw [z]; exact List.mem_cons_self))
        · exact .inr (.inr (by rw [z]; exact List.mem_cons_self))
      · exact .inr (.inl (List.mem_cons_of_mem _ z))
      · exact .inr (.inr (List.mem_cons_of_mem _ z))
    · rcases List.mem_cons.mp hq with rfl | hq
      · exact ⟨fun e => up _ (a4 e), fun e => up _ (a5 e)⟩
      · exact b4 q hq
theorem jinv {t : T} (h : Tb t) {s : Nat} {L : List Nat} {a : Nat} (I : RInv (sy t) s L a) (ha : a < L.length) : RInv (sy t) s (t.foldl (jst L[a]) L) (a + 1) := by
  obtain ⟨⟨A, e⟩, b2, b3, b4⟩ := jfold L[a] t L
  refine ⟨b2 I.nd, fun x hx => ?_, by rw [e]; exact List.mem_append_left _ I.at0, fun x hx => ?_, fun i hi hia y hy => ?_, by rw [e, List.length_append]; omega⟩
  · rcases b3 x hx with z | z | z
    · exact I.lt x z
    · exact (h.lt _ z).2
    · exact (h.lt _ z).1
  · rcases b3 x hx with z | z | z
    · exact I.cl x z
    · exact .step (I.cl _ (List.getElem_mem ha)) (mem_sy.mpr (.inl z))
    · exact .step (I.cl _ (List.getElem_mem ha)) (mem_sy.mpr (.inr z))
  · have hiL : i < L.length := by omega
    have ei : (t.foldl (jst L[a]) L)[i] = L[i] := by
      have : (t.foldl (jst L[a]) L)[i]? = L[i]? := by rw [e, List.getElem?_append_left hiL]
      rw [List.getElem?_eq_getElem hi, List.getElem?_eq_getElem hiL] at this
      exact Option.some.inj this
    rw [ei] at hy
    by_cases q : i < a
    · rw [e]; exact List.mem_append_left _ (I.done i hiL q y hy)
    · have : i = a := by omega
      subst this
      rcases mem_sy.mp hy with z | z
      · exact (b4 _ z).1 rfl
      · exact (b4 _ z).2 rfl
section
variable {j : Nat} {t : T}
theorem ix_nat {L : List Nat} {a : Nat} {x : Nat} (e : L[a]? = some x) : ∃ z, ixOf (iL L).length (a : Int) = some z ∧ (iL L)[z]? = some (.int (x : Nat)) := by
  obtain ⟨ha, _⟩ := List.getElem?_eq_some_iff.mp e
  refine ⟨a, by rw [iL_len]; exact ixOf_nat ha, ?_⟩
  unfold iL
  rw [List.getElem?_map, e]; rfl
theorem j_body {s a x : Nat} {L : List Nat} {p : Nat × Nat} (ea : L[a]? = some x) (hl : L.length ≤ 100) (Q : PV) : evB (CF j) glob l_joined_1 [.val Q, .val (.int (s : Nat)), .own (iL L), .val (.int (a : Nat)), .val (.int (p.1 : Nat)), .val (.int (p.2 : Nat))] = some (.nx [.val Q, .val (.int (s : Nat)), .own (iL (jst x L p)), .val (.int (a : Nat)), .no, .no]) := by
  have nin : ∀ (L : List Nat) (y : Nat), evCmp .notIn (.int (y : Nat)) (.list (iL L)) = some (!decide (y ∈ L)) := fun L y => emb_nat.notInL (by decide) _ _
  unfold jst
  dsimp only
  obtain ⟨z, z1, z2⟩ := ix_nat ea
  have ln : (iL L).length < LIM := by rw [iL_len]; unfold LIM; omega
  by_cases q1 : p.1 = x ∧ p.2 ∉ L
  · rw [if_pos q1]
    have ea2 : (L ++ [p.2])[a]? = some x := by rw [List.getElem?_append_left (List.getElem?_eq_some_iff.mp ea).1]; exact ea
    obtain ⟨y, y1, y2⟩ := ix_nat ea2
    have n1 := nin L p.2
    have n2 := nin (L ++ [p.2]) p.1
    have ln2 : (iL (L ++ [p.2])).length < LIM := by rw [iL_len, List.length_append]; simp; unfold LIM; omega
    have ap : iL L ++ [.int (p.2 : Nat)] = iL (L ++ [p.2]) := by rw [iL_app]; rfl
    have c1 : ((p.1 : Int) = (x : Int)) = True := eq_true (by omega)
    have m1 : (p.2 ∈ L) = False := eq_false q1.2
    by_cases q2 : p.2 = x ∧ p.1 ∉ L ++ [p.2]
    · rw [if_pos q2]
      have ap2 : iL (L ++ [p.2]) ++ [.int (p.1 : Nat)] = iL (L ++ [p.2] ++ [p.1]) := by rw [iL_app (L ++ [p.2])]; rfl
      have c2 : ((p.2 : Int) = (x : Int)) = True := eq_true (by omega)
      have m2 : (p.1 ∈ L ++ [p.2]) = False := eq_false q2.2
      generalize hL2 : L ++ [p.2] = L2 at *
      simp [l_joined_1, evB, evS, evT, evE, evA, evR, evF, evI, evO, rd, rdS, slotR, init, slOf, outR, frzE, wipeS, z1, z2, c1, n1, m1, ln, ap, y1, y2, c2, n2, m2, ln2, ap2]
    · rw [if_neg q2]
      by_cases c : p.2 = x
      · have c2 : ((p.2 : Int) = (x : Int)) = True := eq_true (by omega)
        have m2 : (p.1 ∈ L ++ [p.2]) = True := eq_true (Classical.byContradiction fun z => q2 ⟨c, z⟩)
        generalize hL2 : L ++ [p.2] = L2 at *
        simp [l_joined_1, evB, evS, evT, evE, evA, evR, evF, evI, evO, rd, rdS, slotR, init, slOf, outR, frzE, wipeS, z1, z2, c1, n1, m1, ln, ap, y1, y2, c2, n2, m2, ln2]
      · have c2 : ((p.2 : Int) = (x : Int)) = False := eq_false (by omega)
        generalize hL2 : L ++ [p.2] = L2 at *
        simp [l_joined_1, evB, evS, evT, evE, evA, evR, evF, evI, evO, rd, rdS, slotR, init, slOf, outR, frzE, wipeS, z1, z2, c1, n1, m1, ln, ap, y1, y2, c2, ln2]
  · rw [if_neg q1]
    have n1 := nin L p.2
    have n2 := nin L p.1
    have c1 : (((p.1 : Int) = (x : Int)) = False) ∨ (((p.1 : Int) = (x : Int)) = True ∧ (p.2 ∈ L) = True) := by
      by_cases c : p.1 = x
      · exact .inr ⟨eq_true (by omega), eq_true (Classical.byContradiction fun z => q1 ⟨c, z⟩)⟩
      · exact .inl (eq_false (by omega))
    by_cases q2 : p.2 = x ∧ p.1 ∉ L
    · rw [if_pos q2]
      have ap2 : iL L ++ [.int (p.1 : Nat)] = iL (L ++ [p.1]) := by rw [iL_app]; rfl
      have c2 : ((p.2 : Int) = (x : Int)) = True := eq_true (by omega)
      have m2 : (p.1 ∈ L) = False := eq_false q2.2
      rcases c1 with c1 | ⟨c1, m1⟩
      · simp [l_joined_1, evB, evS, evT, evE, evA, evR, evF, evI, evO, rd, rdS, slotR, init, slOf, outR, frzE, wipeS, z1, z2, c1, ln, c2, n2, m2, ap2]
      · simp [l_joined_1, evB, evS, evT, evE, evA, evR, evF, evI, evO, rd, rdS, slotR, init, slOf, outR, frzE, wipeS, z1, z2, c1, n1, m1, ln, c2, n2, m2, ap2]
    · rw [if_neg q2]
      have c2 : (((p.2 : Int) = (x : Int)) = False) ∨ (((p.2 : Int) = (x : Int)) = True ∧ (p.1 ∈ L) = True) := by
        by_cases c : p.2 = x
        · exact .inr ⟨eq_true (by omega), eq_true (Classical.byContradiction fun z => q2 ⟨c, z⟩)⟩
        · exact .inl (eq_false (by omega))
      rcases c1 with c1 | ⟨c1, m1⟩ <;> rcases c2 with c2 | ⟨c2, m2⟩
      · simp [l_joined_1, evB, evS, evT, evE, evA, evR, evF, evI, evO, rd, rdS, slotR, init, slOf, outR, frzE, wipeS, z1, z2, c1, c2]
      · simp [l_joined_1, evB, evS, evT, evE, evA, evR, evF, evI, evO, rd, rdS, slotR, init, slOf, outR, frzE, wipeS, z1, z2, c1, c2, n2, m2]
      · simp [l_joined_1, evB, evS, evT, evE, evA, evR, evF, evI, evO, rd, rdS, slotR, init, slOf, outR, frzE, wipeS, z1, z2, c1, n1, m1, c2]
      · simp [l_joined_1, evB, evS, evT, evE, evA, evR, evF, evI, evO, rd, rdS, slotR, init, slOf, outR, frzE, wipeS, z1, z2, c1, n1, m1, c2, n2, m2]
end
end K64
set_option Elab.async false
set_option linter.all false
set_option maxRecDepth 100000
set_option maxHeartbeats 1000000
/-! k64: names joined, both ways. -/
namespace K64
open PySem Pz
noncomputable def comp (t : T) (s : Nat) : List Nat := cls (Cl (sy t) s)
section
variable {j : Nat} {t : T}
theorem jl_body (h : Tb t) {s : Nat} {L : List Nat} {a : Nat} (I : RInv (sy t) s L a) (ha : a < L.length) : evB (CF j) glob l_joined_2 [.val (pt t), .val (.int (s : Nat)), .own (iL L), .val (.int (a : Nat)), .no, .no] = some (.nx [.val (pt t), .val (.int (s : Nat)), .own (iL (t.foldl (jst L[a]) L)), .val (.int ((a + 1 : Nat) : Int)), .no, .no]) := by
  have lp := loopF_fold (body := evB (CF j) glob l_joined_1) (tg := .tp (.cons (.nm 4) (.cons (.nm 5) .nil))) (e := pp) (fun L : List Nat => [.val (pt t), .val (.int (s : Nat)), .own (iL L), .val (.int (a : Nat)), .no, .no]) (jst L[a]) (fun M => M[a]? = some L[a] ∧ M.Nodup ∧ ∀ x ∈ M, x < 10) (xs := t) (b := L) ⟨List.getElem?_eq_getElem ha, I.nd, I.lt⟩ fun p M hp ⟨m1, m2, m3⟩ => by
    obtain ⟨⟨A, e⟩, b2, b3, _, _⟩ := jst_ok L[a] M p
    have len : M.length ≤ 10 := by
      have := pig m2 (M := List.range 10) fun x hx => List.mem_range.mpr (m3 x hx)
      simpa using this
    refine ⟨⟨?_, b2 m2, fun y hy => ?_⟩, _, rfl, .inl (j_body m1 (by omega) _)⟩
    · rw [e, List.getElem?_append_left (List.getElem?_eq_some_iff.mp m1).1]; exact m1
    · have hl := h.lt p hp
      rcases b3 y hy with z | z | z
      · exact m3 y z
      · rw [← z] at hl; exact hl.2
      · rw [← z] at hl; exact hl.1
  generalize t.foldl (jst L[a]) L = L2 at *
  unfold pt at *
  simp [l_joined_2, evB, evS, evT, evE, evA, evR, evF, evI, evO, rd, rdS, slotR, init, slOf, outR, frzE, wipeS, lp]
theorem jn_run (h : Tb t) {s : Nat} : ∀ (d : Nat) (L : List Nat) (a fuel : Nat), RInv (sy t) s L a → d + a = 10 → 100 ≤ fuel →
    ∃ L', RInv (sy t) s L' L'.length ∧ loopW (evT (CF j) glob (.cmp .lt (.var 3) (.blt .len (.cons (.var 2) .nil)))) (evB (CF j) glob l_joined_2) (d + fuel) [.val (pt t), .val (.int (s : Nat)), .own (iL L), .val (.int (a : Nat)), .no, .no] = some (.nx [.val (pt t), .val (.int (s : Nat)), .own (iL L'), .val (.int (L'.length : Nat)), .no, .no]) := by
  have cond : ∀ (L : List Nat) (a : Nat), evT (CF j) glob (.cmp .lt (.var 3) (.blt .len (.cons (.var 2) .nil))) [.val (pt t), .val (.int (s : Nat)), .own (iL L), .val (.int (a : Nat)), .no, .no] = some (decide (a < L.length)) := fun L a => by
    have := iL_len L
    generalize iL L = W at *
    simp [evB, evS, evT, evE, evA, evR, evF, evI, evO, rd, rdS, slotR, init, slOf, outR, frzE, wipeS, this]
  have stop : ∀ (L : List Nat) (a f : Nat), RInv (sy t) s L a → ¬ a < L.length → 1 ≤ f → ∃ L', RInv (sy t) s L' L'.length ∧ loopW (evT (CF j) glob (.cmp .lt (.var 3) (.blt .len (.cons (.var 2) .nil)))) (evB (CF j) glob l_joined_2) f [.val (pt t), .val (.int (s : Nat)), .own (iL L), .val (.int (a : Nat)), .no, .no] = some (.nx [.val (pt t), .val (.int (s : Nat)), .own (iL L'), .val (.int (L'.length : Nat)), .no, .no]) := fun L a f I q hf => by
    have e : a = L.length := by have := I.le; omega
    subst e
    obtain ⟨g, rfl⟩ : ∃ g, f = g + 1 := ⟨f - 1, by omega⟩
    exact ⟨L, I, loopW_end (by rw [cond]; simp)⟩
  intro d
  induction d with
  | zero =>
    intro L a fuel I e hf
    have := rinv_len I
    exact stop L a _ I (by omega) (by omega)
  | succ d ih =>
    intro L a fuel I e hf
    by_cases q : a < L.length
    · have I2 := jinv h I q
      obtain ⟨L', I', e'⟩ := ih _ (a + 1) fuel I2 (by omega) hf
      refine ⟨L', I', ?_⟩
      rw [show d + 1 + fuel = (d + fuel) + 1 by omega, loopW_step (by rw [cond]; simp [q]) (jl_body h I q)]
      exact e'
    · exact stop L a _ I q (by omega)
theorem joined_ok (h : Tb t) {s : Nat} (hs : s < 10) : CF (j + 1) "joined" [pt t, .int (s : Nat)] = some ⟨.tuple (iL (comp t s)), false⟩ := by
  rw [CF, call_eq (d := d_joined) rfl rfl]
  have I0 : RInv (sy t) s [s] 0 := ⟨by simp, fun x hx => by rw [List.mem_singleton] at hx; omega, by simp, fun x hx => by rw [List.mem_singleton] at hx; subst hx; exact .refl, fun i h hi => absurd hi (by omega), Nat.zero_le _⟩
  obtain ⟨L, I, lp⟩ := jn_run (j := j) h 10 [s] 0 990 I0 rfl (by omega)
  have lp : loopW (evT (callF glob tbl j) glob (.cmp .lt (.var 3) (.blt .len (.cons (.var 2) .nil)))) (evB (callF glob tbl j) glob l_joined_2) 1000 [.val (pt t), .val (.int (s : Nat)), .own [.int (s : Nat)], .val (.int 0), .no, .no] = some (.nx [.val (pt t), .val (.int (s : Nat)), .own (iL L), .val (.int (L.length : Nat)), .no, .no]) := lp
  have ss := sorted_cls I.nd (rinv_end I)
  unfold comp
  generalize iL (cls (Cl (sy t) s)) = W at *
  generalize iL L = W2 at *
  simp [d_joined, b_joined, evB, evS, evT, evE, evA, evR, evF, evI, evO, rd, rdS, slotR, init, slOf, outR, frzE, wipeS, lp, ss]
end
/-! ### the law's own joining -/
noncomputable def J (t : T) (s : Nat) : Nat → List Nat
  | 0 => [s]
  | k + 1 => cls fun x => x ∈ J t s k ∨ ∃ y ∈ J t s k, (y, x) ∈ sy t
def Closed (t : T) (L : List Nat) : Prop := ∀ y ∈ L, ∀ x, (y, x) ∈ sy t → x ∈ L
theorem sy_lt {t : T} (h : Tb t) {a b : Nat} (m : (a, b) ∈ sy t) : a < 10 ∧ b < 10 := by
  rcases mem_sy.mp m with z | z
  · exact h.lt _ z
  · exact ⟨(h.lt _ z).2, (h.lt _ z).1⟩
theorem J_lt {t : T} {s : Nat} (hs : s < 10) : ∀ k, ∀ x ∈ J t s k, x < 10
  | 0, x, h => by have : x = s := List.mem_singleton.mp h; omega
  | k + 1, x, h => (mem_cls.mp h).1
theorem J_nd (t : T) (s : Nat) : ∀ k, (J t s k).Nodup
  | 0 => by show [s].Nodup; simp
  | k + 1 => (cls_asc _).imp fun {a b} h e => by omega
theorem J_up {t : T} {s : Nat} (hs : s < 10) (k : Nat) : ∀ x ∈ J t s k, x ∈ J t s (k + 1) := fun x h => mem_cls.mpr ⟨J_lt hs k x h, .inl h⟩
theorem J_cl {t : T} {s : Nat} : ∀ k, ∀ x ∈ J t s k, Cl (sy t) s x
  | 0, x, h => by have : x = s := List.mem_singleton.mp h; subst this; exact .refl
  | k + 1, x, h => by
    rcases (mem_cls.mp h).2 with z | ⟨y, hy, z⟩
    · exact J_cl k x z
    · exact .step (J_cl k y hy) z
theorem J_grow {t : T} (h : Tb t) {s : Nat} (hs : s < 10) : ∀ k, Closed t (J t s k) ∨ k + 1 ≤ (J t s k).length
  | 0 => .inr (by show 0 + 1 ≤ [s].length; simp)
  | k + 1 => by
    rcases J_grow h hs k with c | l
    · refine .inl fun y hy x hx => ?_
      have back : ∀ z, z ∈ J t s (k + 1) → z ∈ J t s k := fun z hz => by
        rcases (mem_cls.mp hz).2 with q | ⟨w, hw, q⟩
        · exact q
        · exact c w hw z q
      exact J_up hs k x (c y (back y hy) x hx)
    · by_cases c : Closed t (J t s (k + 1))
      · exact .inl c
      · refine .inr ?_
        have : ¬ Closed t (J t s k) := fun c' => c fun y hy x hx => by
          have back : ∀ z, z ∈ J t s (k + 1) → z ∈ J t s k := fun z hz => by
            rcases (mem_cls.mp hz).2 with q | ⟨w, hw, q⟩
            · exact q
            · exact c' w hw z q
          exact J_up hs k x (c' y (back y hy) x hx)
        obtain ⟨y, hy, x, hx, nx⟩ : ∃ y, y ∈ J t s k ∧ ∃ x, (y, x) ∈ sy t ∧ x ∉ J t s k := by
          refine Classical.byContradiction fun z => this fun y hy x hx => ?_
          exact Classical.byContradiction fun w => z ⟨y, hy, x, hx, w⟩
        have hx1 : x ∈ J t s (k + 1) := mem_cls.mpr ⟨(sy_lt h hx).2, .inr ⟨y, hy, hx⟩⟩
        have := pig (L := x :: J t s k) (M := J t s (k + 1)) (List.nodup_cons.mpr ⟨nx, J_nd t s k⟩) fun z hz => by
          rcases List.mem_cons.mp hz with rfl | hz
          · exact hx1
          · exact J_up hs k z hz
        rw [List.length_cons] at this
        omega
theorem J_ten {t : T} (h : Tb t) {s : Nat} (hs : s < 10) : J t s 10 = comp t s := by
  have cl : Closed t (J t s 10) := by
    rcases J_grow h hs 10 with c | l
    · exact c
    · exfalso
      have := pig (J_nd t s 10) (M := List.range 10) fun x hx => List.mem_range.mpr (J_lt hs 10 x hx)
      simp at this; omega
  have s0 : ∀ k, s ∈ J t s k := fun k => by
    induction k with
    | zero => exact List.mem_singleton.mpr rfl
    | succ k ih => exact J_up hs k s ih
  have all : ∀ x, Cl (sy t) s x → x ∈ J t s 10 := fun x c => by
    induction c with
    | refl => exact s0 10
    | step c1 c2 ih => exact cl _ ih _ c2
  unfold comp
  show cls _ = _
  refine cls_ext fun x hx => ⟨fun q => J_cl 10 x (mem_cls.mpr ⟨hx, q⟩), fun q => (mem_cls.mp (all x q)).2⟩
section
variable {j : Nat} {t : T}
theorem lj_turn (h : Tb t) {s : Nat} (hs : s < 10) (k : Nat) (x : PV) : evB (CF j) glob l_law_joined_1 [.val (pt t), .val (.int (s : Nat)), .val (.list (iL (J t s k))), .val x, .no, .no, .no] = some (.nx [.val (pt t), .val (.int (s : Nat)), .val (.list (iL (J t s (k + 1)))), .no, .no, .no, .no]) := by
  have tl := tb_len h
  have jl : (J t s k).length ≤ 10 := by
    have := pig (J_nd t s k) (M := List.range 10) fun x hx => List.mem_range.mpr (J_lt hs k x hx)
    simpa using this
  have inn : ∀ y : Nat, evCmp .isIn (.int (y : Nat)) (.list (iL (J t s k))) = some (decide (y ∈ J t s k)) := fun y => emb_nat.inL (by decide) _ _
  have ss : evSset (.list (iL (J t s k ++ ((t.filter fun p => decide (p.1 ∈ J t s k)).map (·.2) ++ (t.filter fun p => decide (p.2 ∈ J t s k)).map (·.1))))) = some ⟨.list (iL (J t s (k + 1))), true⟩ := by
    refine sset_cls (fun x => ?_) ?_
    · rw [List.mem_append, List.mem_append, List.mem_map, List.mem_map]
      constructor
      · rintro (z | ⟨p, hp, rfl⟩ | ⟨p, hp, rfl⟩)
        · exact ⟨J_lt hs k x z, .inl z⟩
        · rw [List.mem_filter, decide_eq_true_eq] at hp
          exact ⟨(h.lt p hp.1).2, .inr ⟨p.1, hp.2, mem_sy.mpr (.inl hp.1)⟩⟩
        · rw [List.mem_filter, decide_eq_true_eq] at hp
          exact ⟨(h.lt p hp.1).1, .inr ⟨p.2, hp.2, mem_sy.mpr (.inr hp.1)⟩⟩
      · rintro ⟨_, z | ⟨y, hy, z⟩⟩
        · exact .inl z
        · rcases mem_sy.mp z with z | z
          · exact .inr (.inl ⟨_, List.mem_filter.mpr ⟨z, by simpa using hy⟩, rfl⟩)
          · exact .inr (.inr ⟨_, List.mem_filter.mpr ⟨z, by simpa using hy⟩, rfl⟩)
    · have a := List.length_filter_le (fun p : Nat × Nat => decide (p.1 ∈ J t s k)) t
      have b := List.length_filter_le (fun p : Nat × Nat => decide (p.2 ∈ J t s k)) t
      simp only [List.length_append, List.length_map]
      omega
  have f1 : ∀ f : PV → Option (List PV), (∀ p ∈ t, f (pp p) = some (if decide (p.1 ∈ J t s k) then [.int (p.2 : Nat)] else [])) → compL f (t.map pp) = some (iL ((t.filter fun p => decide (p.1 ∈ J t s k)).map (·.2))) := fun f hf => by
    rw [compL_filter (e := pp) (g := fun p => .int (p.2 : Nat)) (p := fun p => decide (p.1 ∈ J t s k)) hf]
    unfold iL; rw [List.map_map]; rfl
  have f2 : ∀ f : PV → Option (List PV), (∀ p ∈ t, f (pp p) = some (if decide (p.2 ∈ J t s k) then [.int (p.1 : Nat)] else [])) → compL f (t.map pp) = some (iL ((t.filter fun p => decide (p.2 ∈ J t s k)).map (·.1))) := fun f hf => by
    rw [compL_filter (e := pp) (g := fun p => .int (p.1 : Nat)) (p := fun p => decide (p.2 ∈ J t s k)) hf]
    unfold iL; rw [List.map_map]; rfl
  rw [iL_app, iL_app] at ss
  have n1 : (iL ((t.filter fun p => decide (p.1 ∈ J t s k)).map (·.2))).length ≤ 10 := by
    rw [iL_len, List.length_map]
    exact Nat.le_trans (List.length_filter_le _ _) tl
  have n2 : (iL ((t.filter fun p => decide (p.2 ∈ J t s k)).map (·.1))).length ≤ 10 := by
    rw [iL_len, List.length_map]
    exact Nat.le_trans (List.length_filter_le _ _) tl
  have n3 : (iL (J t s k)).length ≤ 10 := by rw [iL_len]; exact jl
  generalize iL ((t.filter fun p => decide (p.1 ∈ J t s k)).map (·.2)) = A at *
  generalize iL ((t.filter fun p => decide (p.2 ∈ J t s k)).map (·.1)) = B at *
  generalize iL (J t s k) = W at *
  generalize iL (J t s (k + 1)) = W2 at *
  have c1 : evBin .add (.list A) (.list B) = some ⟨.list (A ++ B), true⟩ := bin_catL (by unfold LIM; omega)
  have c2 : evBin .add (.list W) (.list (A ++ B)) = some ⟨.list (W ++ (A ++ B)), true⟩ := bin_catL (by rw [List.length_append]; unfold LIM; omega)
  unfold pt
  simp [l_law_joined_1, evB, evS, evT, evE, evA, evR, evF, evI, evO, rd, rdS, slotR, init, slOf, outR, frzE, wipeS]
  rw [f1 _ fun p _ => by
    by_cases q : p.1 ∈ J t s k <;> simp [pp, inn, q]]
  rw [f2 _ fun p _ => by
    by_cases q : p.2 ∈ J t s k <;> simp [pp, inn, q]]
  simp [c1, c2, ss]
theorem law_joined_ok (h : Tb t) {s : Nat} (hs : s < 10) : CF (j + 1) "_law_joined" [pt t, .int (s : Nat)] = some ⟨.tuple (iL (comp t s)), false⟩ := by
  rw [CF, call_eq (d := d_law_joined) rfl rfl, ← J_ten h hs]
  have lp : ∀ (xs : List PV) (k : Nat), loopF (evB (CF j) glob l_law_joined_1) (.nm 3) xs [.val (pt t), .val (.int (s : Nat)), .val (.list (iL (J t s k))), .no, .no, .no, .no] = some (.nx [.val (pt t), .val (.int (s : Nat)), .val (.list (iL (J t s (k + xs.length)))), .no, .no, .no, .no]) := fun xs => by
    induction xs with
    | nil => intro k; rfl
    | cons x r ih =>
      intro k
      rw [loopF_cons rfl (lj_turn h hs k x), ih (k + 1), List.length_cons, show k + 1 + r.length = k + (r.length + 1) by omega]
  have lp := lp (rngL 0 10) 0
  rw [rngL_len] at lp
  have lp : loopF (evB (callF glob tbl j) glob l_law_joined_1) (.nm 3) (rngL 0 10) [.val (pt t), .val (.int (s : Nat)), .val (.list [.int (s : Nat)]), .no, .no, .no, .no] = some (.nx [.val (pt t), .val (.int (s : Nat)), .val (.list (iL (J t s 10))), .no, .no, .no, .no]) := lp
  have l10 : 10 ≤ LIM := by decide
  generalize iL (J t s 10) = W at *
  simp [d_law_joined, b_law_joined, evB, evS, evT, evE, evA, evR, evF, evI, evO, rd, rdS, slotR, init, slOf, outR, frzE, wipeS, lp, l10]
end
end K64
set_option Elab.async false
set_option linter.all false
set_option maxRecDepth 100000
set_option maxHeartbeats 1000000
/-! k64: the sets of names in order. -/
namespace K64
open PySem Pz
def leT (a b : List Int) : Bool := PySem.W.dataLe false id (tupD a) (tupD b)
def srt (ks : List (List Int)) : List (List Int) := sortB leT (dd ks)
theorem leT_total : PySem.W.TotalLe leT where
  total := fun a b => (dataLe_total id).total (tupD a) (tupD b)
  trans := fun a b c => (dataLe_total id).trans (tupD a) (tupD b) (tupD c)
theorem srt_nd (ks : List (List Int)) : (srt ks).Nodup := (sortB_perm (dd ks)).nodup_iff.mpr (dd_nodup ks)
theorem srt_mem (ks : List (List Int)) (k : List Int) : k ∈ srt ks ↔ k ∈ ks := by
  unfold srt
  rw [(sortB_perm (dd ks)).mem_iff, dd_mem]
theorem srt_pw (ks : List (List Int)) : (srt ks).Pairwise fun a b => leT a b = true := sortB_sorted leT_total (dd ks)
theorem uniqT {a b : List (List Int)} (n1 : a.Nodup) (n2 : b.Nodup) (p1 : a.Pairwise fun x y => leT x y = true) (p2 : b.Pairwise fun x y => leT x y = true) (m : ∀ k, k ∈ a ↔ k ∈ b) : a = b :=
  ((List.perm_ext_iff_of_nodup n1 n2).mpr m).eq_of_pairwise (le := fun x y => leT x y = true) (fun x y _ _ h1 h2 => tupD_anti h1 h2) p1 p2
theorem srt_fil (ks : List (List Int)) (p : List Int → Bool) (qs : List (List Int)) (h : ∀ k, k ∈ qs ↔ k ∈ ks ∧ p k = true) : (srt ks).filter p = srt qs :=
  uniqT ((srt_nd ks).sublist List.filter_sublist) (srt_nd qs) ((srt_pw ks).sublist List.filter_sublist) (srt_pw qs) fun k => by rw [List.mem_filter, srt_mem, srt_mem, h]
theorem tupsO_tupD : ∀ ks : List (List Int), tupsO (ks.map tupD) = some ks
  | [] => rfl
  | k :: r => by
    show (intsO (k.map .int)).bind _ = _
    rw [intsO_map]
    show (tupsO (r.map tupD)).map (k :: ·) = _
    rw [tupsO_tupD r]; rfl
theorem sset_tup (ks : List (List Int)) (hl : ks.length < 64) (hn : ∀ k ∈ ks, k ≠ []) : evSset (.list (ks.map tupD)) = some ⟨.list ((srt ks).map tupD), true⟩ := by
  cases ks with
  | nil => rfl
  | cons k r =>
    have e1 : intsO ((k :: r).map tupD) = none := rfl
    unfold evSset
    simp only [e1, tupsO_tupD]
    rw [if_pos, sortB_map]
    · rfl
    · simp only [Bool.and_eq_true, decide_eq_true_eq, List.all_eq_true]
      refine ⟨hl, fun x hx => ?_⟩
      have := hn x hx
      cases x with
      | nil => exact absurd rfl this
      | cons _ _ => rfl
theorem iL_tupD (L : List Nat) : PyData.tuple (iL L) = tupD (cI L) := by rw [iL_cI]; rfl
theorem cl_start {u : T} {s x : Nat} (c : Cl u s x) : x = s ∨ ∃ y, (s, y) ∈ u := by
  induction c with
  | refl => exact .inl rfl
  | @step a b c1 c2 ih =>
    rcases ih with rfl | z
    · exact .inr ⟨_, c2⟩
    · exact .inr z
theorem self_comp {t : T} {s : Nat} (hs : s < 10) : s ∈ comp t s := mem_cls.mpr ⟨hs, .refl⟩
theorem comp_big {t : T} {s : Nat} (hs : s < 10) (h : 1 < (comp t s).length) : ∃ y, (s, y) ∈ sy t := by
  refine Classical.byContradiction fun z => ?_
  have : ∀ x ∈ comp t s, x ∈ [s] := fun x hx => by
    rcases cl_start (mem_cls.mp hx).2 with e | e
    · rw [e]; simp
    · exact absurd e z
  have nd : (comp t s).Nodup := (cls_asc _).imp fun {a b} h e => by omega
  have := pig nd this
  simp at this; omega
def big (k : List Int) : Bool := decide (1 < k.length)
noncomputable def gI (t : T) (n : Nat) : List Int := cI (comp t n)
noncomputable def dueL (t : T) : List (List Int) := srt (((List.range 10).map (gI t)).filter big)
theorem gI_len (t : T) (n : Nat) : (gI t n).length = (comp t n).length := List.length_map ..
section
variable {j : Nat} {t : T}
def nms (t : T) : List Nat := t.flatMap fun p => [p.1, p.2]
def NmP (t : T) (x : Nat) : Prop := ∃ p ∈ t, x = p.1 ∨ x = p.2
theorem nms_mem (h : Tb t) (x : Nat) : x ∈ nms t ↔ x < 10 ∧ NmP t x := by
  unfold nms NmP
  rw [List.mem_flatMap]
  constructor
  · rintro ⟨p, hp, hx⟩
    have hl := h.lt p hp
    have hx : x = p.1 ∨ x = p.2 := by simpa using hx
    exact ⟨by rcases hx with rfl | rfl <;> omega, p, hp, hx⟩
  · rintro ⟨_, p, hp, hx⟩
    exact ⟨p, hp, by simpa using hx⟩
theorem nms_len : (nms t).length = 2 * t.length := by
  unfold nms
  rw [List.length_flatMap]
  induction t with
  | nil => rfl
  | cons p r ih => rw [List.map_cons, List.sum_cons, ih, List.length_cons]; simp; omega
theorem ne_gI {n : Nat} (hn : n < 10) : gI t n ≠ [] := by
  intro z
  have := gI_len t n
  rw [z] at this
  have m := self_comp (t := t) hn
  rw [List.length_eq_zero_iff.mp this.symm] at m
  cases m
theorem big_eq (h : Tb t) (k : List Int) : k ∈ ((List.range 10).map (gI t)).filter big ↔ k ∈ (cls (NmP t)).map (gI t) ∧ big k = true := by
  rw [List.mem_filter]
  constructor
  · rintro ⟨a, b⟩
    refine ⟨?_, b⟩
    obtain ⟨n, hn, rfl⟩ := List.mem_map.mp a
    rw [List.mem_range] at hn
    have hb : 1 < (comp t n).length := by rw [← gI_len]; simpa [big] using b
    obtain ⟨y, hy⟩ := comp_big hn hb
    refine List.mem_map.mpr ⟨n, mem_cls.mpr ⟨hn, ?_⟩, rfl⟩
    rcases mem_sy.mp hy with z | z
    · exact ⟨_, z, .inl rfl⟩
    · exact ⟨_, z, .inr rfl⟩
  · rintro ⟨a, b⟩
    obtain ⟨n, hn, rfl⟩ := List.mem_map.mp a
    exact ⟨List.mem_map.mpr ⟨n, List.mem_range.mpr (mem_cls.mp hn).1, rfl⟩, b⟩
theorem name_sets_ok (h : Tb t) : CF (j + 2) "name_sets" [pt t] = some ⟨.tuple ((dueL t).map tupD), false⟩ := by
  rw [CF, call_eq (d := d_name_sets) rfl rfl]
  have tl := tb_len h
  have jo := fun n (hn : n < 10) => joined_ok (j := j) h hn
  have s1 := sset_cls (nms_mem h) (by rw [nms_len]; omega)
  have f1 : ∀ f : PV → Option (List PV), (∀ p ∈ t, f (pp p) = some [.int (p.1 : Nat), .int (p.2 : Nat)]) → compL f (t.map pp) = some (iL (nms t)) := fun f hf => by
    rw [compL_flat (e := pp) (g := fun p => [.int (p.1 : Nat), .int (p.2 : Nat)]) hf]
    unfold iL nms
    rw [List.map_flatMap]; rfl
  have nl : (iL (nms t)).length ≤ LIM := by rw [iL_len, nms_len]; unfold LIM; omega
  have f2 : ∀ f : PV → Option (List PV), (∀ n ∈ cls (NmP t), f (.int (n : Nat)) = some [tupD (gI t n)]) → compL f (iL (cls (NmP t))) = some (((cls (NmP t)).map (gI t)).map tupD) := fun f hf => by
    unfold iL
    rw [compL_map (e := fun n : Nat => PyData.int (n : Nat)) (g := fun n => tupD (gI t n)) hf, List.map_map]; rfl
  have s2 := sset_tup ((cls (NmP t)).map (gI t)) (by rw [List.length_map]; have := cls_len (NmP t); omega) fun k hk => by
    obtain ⟨n, hn, rfl⟩ := List.mem_map.mp hk
    exact ne_gI (mem_cls.mp hn).1
  have f3 : ∀ f : PV → Option (List PV), (∀ k ∈ srt ((cls (NmP t)).map (gI t)), f (tupD k) = some (if big k then [tupD k] else [])) → compL f ((srt ((cls (NmP t)).map (gI t))).map tupD) = some ((dueL t).map tupD) := fun f hf => by
    rw [compL_filter (e := tupD) (g := tupD) (p := big) hf, srt_fil _ _ _ (big_eq h)]; rfl
  have jo : ∀ n ∈ cls (NmP t), callF glob tbl (j + 1) "joined" [.tuple (t.map pp), .int (n : Nat)] = some ⟨tupD (gI t n), false⟩ := fun n hn => by
    rw [show tupD (gI t n) = .tuple (iL (comp t n)) from (iL_tupD _).symm]
    exact jo n (mem_cls.mp hn).1
  generalize hA : iL (nms t) = A at *
  generalize hB : iL (cls (NmP t)) = B at *
  generalize hC : ((cls (NmP t)).map (gI t)).map tupD = Cc at *
  generalize hD : (srt ((cls (NmP t)).map (gI t))).map tupD = Dd at *
  generalize hE : (dueL t).map tupD = Ee at *
  unfold pt
  simp [d_name_sets, b_name_sets, evB, evS, evT, evE, evA, evR, evF, evI, evO, rd, rdS, slotR, init, slOf, outR, frzE, wipeS]
  rw [f1 _ fun p _ => by simp [pp, compL]]
  simp [nl, s1]
  rw [f2 _ fun n hn => by simp [jo n hn]]
  simp [s2]
  rw [f3 _ fun k _ => by
    have : evBlt .len [tupD k] = some ⟨.int (k.length : Nat), false⟩ := by unfold tupD; rw [blt_lenT, List.length_map]
    by_cases q : 1 < k.length
    · have c : ((1 : Int) < (k.length : Int)) = True := eq_true (by omega)
      simp [this, big, q, c]
    · have c : ((1 : Int) < (k.length : Int)) = False := eq_false (by omega)
      simp [this, big, q, c]]
  simp
theorem head_ex (t : T) {n : Nat} (hn : n < 10) : ∃ y r, comp t n = y :: r := by
  cases e : comp t n with
  | nil => have := self_comp (t := t) hn; rw [e] at this; cases this
  | cons y r => exact ⟨y, r, rfl⟩
theorem head_of_ok (h : Tb t) {n y : Nat} {r : List Nat} (hn : n < 10) (e : comp t n = y :: r) : CF (j + 2) "head_of" [pt t, .int (n : Nat)] = some ⟨.int (y : Nat), false⟩ := by
  rw [CF, call_eq (d := d_head_of) rfl rfl]
  have jo := joined_ok (j := j) h hn
  rw [e] at jo
  have jo : callF glob tbl (j + 1) "joined" [pt t, .int (n : Nat)] = some ⟨.tuple (.int (y : Nat) :: iL r), false⟩ := jo
  simp [d_head_of, b_head_of, evB, evS, evT, evE, evA, evR, evF, evI, evO, rd, rdS, slotR, init, slOf, outR, frzE, wipeS, jo]
end
end K64
set_option Elab.async false
set_option linter.all false
set_option maxRecDepth 100000
set_option maxHeartbeats 1000000
/-! k64: the short table. -/
namespace K64
open PySem Pz
def pI (p : Nat × Nat) : List Int := [(p.1 : Int), (p.2 : Int)]
theorem pp_tupD (p : Nat × Nat) : pp p = tupD (pI p) := rfl
theorem leT_lt {p q : Nat × Nat} (h : p.1 < q.1) : leT (pI p) (pI q) = true := by
  unfold leT
  rw [PySem.W.dataLe_eq]
  show (!PySem.W.dataLt (tupD (pI q)) (tupD (pI p))) = true
  rw [show PySem.W.dataLt (tupD (pI q)) (tupD (pI p)) = PySem.W.listLt (pI q) (pI p) from PySem.W.DatumOrd.lt_eq (α := PySem.W.Tup Int) ⟨pI q⟩ ⟨pI p⟩]
  unfold pI PySem.W.listLt
  rw [if_neg (by omega)]
  show (!decide ((q.1 : Int) < (p.1 : Int))) = true
  rw [decide_eq_false (by omega)]; rfl
theorem canSort_pp (u : T) : canSort (u.map pp) = true := by
  have e : u.map pp = (u.map fun p => (⟨pI p⟩ : PySem.W.Tup Int)).map PySem.W.Datum.toD := by rw [List.map_map]; rfl
  unfold canSort
  have a1 : okL (u.map pp) = true := by rw [e]; exact emb_ord.okL (by decide) _
  have a2 : alikeB (u.map pp) = true := by rw [e]; exact alikeB_toD _
  have a3 : (u.map pp).all isTup1 = true := by
    rw [List.all_map, List.all_eq_true]; intro x _; rfl
  rw [a1, a2, a3]; rfl
theorem sort_pp {u v : T} (asc : v.Pairwise fun a b => a.1 < b.1) (pm : v.Perm u) : sortB (PySem.W.dataLe false id) (u.map pp) = v.map pp := by
  have e : ∀ w : T, w.map pp = (w.map pI).map tupD := fun w => by rw [List.map_map]; rfl
  rw [e u, e v, sortB_map]
  congr 1
  have pw : (v.map pI).Pairwise fun x y => leT x y = true := by
    rw [List.pairwise_map]
    exact asc.imp fun {a b} h => leT_lt h
  refine (List.Perm.eq_of_pairwise (le := fun x y => leT x y = true) (fun x y _ _ h1 h2 => tupD_anti h1 h2) ?_ pw ?_)
  · exact sortB_sorted leT_total (u.map pI)
  · exact (sortB_perm (u.map pI)).trans (pm.symm.map pI)
theorem sorted_pp {u v : T} (asc : v.Pairwise fun a b => a.1 < b.1) (pm : v.Perm u) : evBlt .sorted [.list (u.map pp)] = some ⟨.list (v.map pp), true⟩ ∧ evBlt .sorted [.tuple (u.map pp)] = some ⟨.list (v.map pp), true⟩ := by
  have : (if canSort (u.map pp) then some (⟨.list (sortB (PySem.W.dataLe false id) (u.map pp)), true⟩ : RV) else none) = some ⟨.list (v.map pp), true⟩ := by
    rw [if_pos (canSort_pp u), sort_pp asc pm]
  exact ⟨this, this⟩
/-! ### short -/
def short (t : T) : T := t.filterMap fun p => if it t p.1 11 = 10 then some (p.1, lastN t p.1) else none
theorem last_ok {t : T} (h : Tb t) {n : Nat} (hn : n < 10) (e : it t n 11 = 10) : lastN t n < 10 ∧ nx t (lastN t n) = 10 := by
  obtain ⟨l, y, e1, e2, e3⟩ := wk_last h hn 11
  have : lastN t n = y := by unfold lastN; rw [e1]; simp
  rw [this]
  exact ⟨e3, by rw [e2]; exact it_dead h e (by omega)⟩
theorem mem_short {t : T} {p : Nat × Nat} (hp : p ∈ short t) : ∃ q ∈ t, q.1 = p.1 ∧ it t p.1 11 = 10 ∧ p.2 = lastN t p.1 := by
  obtain ⟨q, hq, e⟩ := List.mem_filterMap.mp hp
  split at e
  · rename_i z
    cases e
    exact ⟨q, hq, rfl, z, rfl⟩
  · cases e
theorem tb_short {t : T} (h : Tb t) : Tb (short t) where
  asc := by
    unfold short
    rw [List.pairwise_filterMap]
    refine h.asc.imp fun {a b} q c hc d hd => ?_
    split at hc
    · split at hd
      · cases hc; cases hd; exact q
      · cases hd
    · cases hc
  lt := fun p hp => by
    obtain ⟨q, hq, e1, e2, e3⟩ := mem_short hp
    have := (h.lt q hq).1
    rw [e1] at this
    exact ⟨this, by rw [e3]; exact (last_ok h this e2).1⟩
theorem rings_short {t : T} (h : Tb t) : rings (short t) = [] := by
  refine Classical.byContradiction fun z => ?_
  obtain ⟨n, hn, r⟩ := ret_of_rings (tb_short h) z
  have hd := mem_dom (tb_short h) hn
  obtain ⟨n1, n2, m⟩ := nx_lt (tb_short h) hd
  obtain ⟨q, hq, e1, e2, e3⟩ := mem_short m
  have e3 : nx (short t) n = lastN t n := e3
  have e2 : it t n 11 = 10 := e2
  have l2 : nx (short t) (nx (short t) n) = 10 := by
    refine Classical.byContradiction fun w => ?_
    obtain ⟨_, _, m2⟩ := nx_lt (tb_short h) w
    obtain ⟨q2, hq2, f1, _, _⟩ := mem_short m2
    have f1 : q2.1 = nx (short t) n := f1
    have : nx t (nx (short t) n) ≠ 10 := mem_dom h (List.mem_map.mpr ⟨q2, hq2, f1⟩)
    rw [e3] at this
    exact this (last_ok h n1 e2).2
  exact ret_ever (tb_short h) n1 r 2 l2
section
variable {j : Nat} {t : T}
theorem endV_none (t : T) (n : Nat) : isNone (endV t n) = decide (it t n 11 ≠ 10) := by
  unfold endV
  by_cases q : it t n 11 = 10
  · rw [if_pos q]; simp [q, isNone]
  · rw [if_neg q]; simp [q, isNone]
theorem short_map (t u : T) : (u.filter fun p => !isNone (endV t p.1)).map (fun p => PyData.tuple [.int (p.1 : Nat), endV t p.1]) = (u.filterMap fun p => if it t p.1 11 = 10 then some (p.1, lastN t p.1) else none).map pp := by
  induction u with
  | nil => rfl
  | cons p r ih =>
    rw [List.filter_cons, List.filterMap_cons, endV_none]
    by_cases q : it t p.1 11 = 10
    · have e : endV t p.1 = .int (lastN t p.1 : Nat) := by unfold endV; rw [if_pos q]
      rw [if_pos q]
      simp only [q, ne_eq, not_true_eq_false, decide_false, Bool.not_false, if_true]
      rw [List.map_cons, List.map_cons, ih, e]; rfl
    · rw [if_neg q]
      simp only [q, ne_eq, not_false_eq_true, decide_true, Bool.not_true, Bool.false_eq_true, if_false]
      exact ih
theorem short_see_ok (h : Tb t) : CF (j + 2) "short_see" [pt t] = some ⟨pt (short t), false⟩ := by
  rw [CF, call_eq (d := d_short_see) rfl rfl]
  have se := fun n (hn : n < 10) => see_end_ok (j := j) h hn
  have f1 : ∀ f : PV → Option (List PV), (∀ p ∈ t, f (pp p) = some [.tuple [.int (p.1 : Nat), endV t p.1]]) → compL f (t.map pp) = some (t.map fun p => .tuple [.int (p.1 : Nat), endV t p.1]) := fun f hf => compL_map hf
  have f2 : ∀ f : PV → Option (List PV), (∀ p ∈ t, f (.tuple [.int (p.1 : Nat), endV t p.1]) = some (if !isNone (endV t p.1) then [.tuple [.int (p.1 : Nat), endV t p.1]] else [])) → compL f (t.map fun p => .tuple [.int (p.1 : Nat), endV t p.1]) = some ((short t).map pp) := fun f hf => by
    rw [compL_filter (e := fun p : Nat × Nat => PyData.tuple [.int (p.1 : Nat), endV t p.1]) (g := fun p => .tuple [.int (p.1 : Nat), endV t p.1]) (p := fun p => !isNone (endV t p.1)) hf, short_map]; rfl
  have so := (sorted_pp (tb_short h).asc (List.Perm.refl (short t))).1
  simp only [CF] at se
  have unf : pt t = .tuple (t.map pp) := rfl
  have unf2 : pt (short t) = .tuple ((short t).map pp) := rfl
  rw [unf2]
  simp only [unf] at se ⊢
  generalize (short t).map pp = S at *
  simp [d_short_see, b_short_see, evB, evS, evT, evE, evA, evR, evF, evI, evO, rd, rdS, slotR, init, slOf, outR, frzE, wipeS]
  rw [f1 _ fun p hp => by
    have := se p.1 (h.lt p hp).1
    simp [pp, this]]
  simp
  rw [f2 _ fun p hp => by
    cases e : isNone (endV t p.1) <;> simp [e]]
  simp [so]
end
end K64
set_option Elab.async false
set_option linter.all false
set_option maxRecDepth 100000
set_option maxHeartbeats 2000000
/-! k64: a table is right. -/
namespace K64
open PySem Pz
section
variable {j : Nat} {t : T}
theorem like2 (j : Nat) (x : PV) (h : lk x = true ∧ ldp x ≤ 2) : callF glob tbl (j + 4) "_law_like" [x, x] = some ⟨.bool true, false⟩ := by
  have := like_ok (G := glob) helps 2 j x h.1 h.2
  rw [show 2 + j + 2 = j + 4 by omega] at this
  exact this
theorem lk_iL (L : List Nat) (h : L.length ≤ 1000) : lk (.tuple (iL L)) = true ∧ ldp (.tuple (iL L)) ≤ 1 := lk_pn L (by omega)
theorem lk_one (x : PV) (h : lk x = true ∧ ldp x ≤ 1) : lk x = true ∧ ldp x ≤ 2 := ⟨h.1, by omega⟩
theorem lk_endV (t : T) (n : Nat) : lk (endV t n) = true ∧ ldp (endV t n) ≤ 2 := by
  unfold endV
  split
  · exact ⟨rfl, by show 0 ≤ 2; omega⟩
  · exact ⟨rfl, by show 0 ≤ 2; omega⟩
theorem rings_len (t : T) : (rings t).length ≤ t.length := by
  unfold rings
  refine Nat.le_trans (List.length_filterMap_le _ _) ?_
  rw [List.length_map]; exact Nat.le_refl _
theorem lk_rings (h : Tb t) : lk (ringsV t) = true ∧ ldp (ringsV t) ≤ 2 := by
  have tl := tb_len h
  have rl := rings_len t
  refine lk_tup _ 1 (by rw [List.length_map]; omega) fun x hx => ?_
  obtain ⟨r, hr, rfl⟩ := List.mem_map.mp hx
  refine lk_pn r ?_
  obtain ⟨n, hn, e⟩ := List.mem_filterMap.mp hr
  rcases ringF_ok t n with ⟨k, a, _, e2⟩ | ⟨_, e2⟩
  · rw [e2] at e
    cases e
    have := retK_len h (nx_lt h (mem_dom h hn)).1 a
    simp; omega
  · rw [e2] at e; cases e
theorem lk_pt (u : T) (hl : u.length ≤ 1000) : lk (pt u) = true ∧ ldp (pt u) ≤ 2 := by
  refine lk_tup _ 1 (by rw [List.length_map]; omega) fun x hx => ?_
  obtain ⟨p, hp, rfl⟩ := List.mem_map.mp hx
  exact lk_pn [p.1, p.2] (by simp)
theorem due_len : (dueL t).length ≤ 10 := by
  have := pig (srt_nd (((List.range 10).map (gI t)).filter big)) (M := (List.range 10).map (gI t)) fun k hk => (List.mem_filter.mp ((srt_mem _ k).mp hk)).1
  unfold dueL
  simpa using this
theorem lk_due : lk (.tuple ((dueL t).map tupD)) = true ∧ ldp (.tuple ((dueL t).map tupD)) ≤ 2 := by
  have := due_len (t := t)
  refine lk_tup _ 1 (by rw [List.length_map]; omega) fun x hx => ?_
  obtain ⟨k, hk, rfl⟩ := List.mem_map.mp hx
  obtain ⟨n, hn, rfl⟩ := List.mem_map.mp (List.mem_filter.mp ((srt_mem _ k).mp hk)).1
  show lk (tupD (gI t n)) = true ∧ _
  rw [show tupD (gI t n) = .tuple (iL (comp t n)) from (iL_tupD _).symm]
  exact lk_iL _ (by have := cls_len (Cl (sy t) n); show (cls _).length ≤ _; omega)
theorem short_len : (short t).length ≤ t.length := List.length_filterMap_le _ _
noncomputable def sW (t : T) : List PV := (List.range 10).map fun n => tupD (gI t n)
theorem turn2 (h : Tb t) (p : Nat × Nat) (hp : p ∈ t) : evB (CF (j + 4)) glob l_law_table_right_2 [.val (pt t), .val (ringsV t), .val (.int (p.1 : Nat)), .no, .val (.list (sW t)), .no, .val (.int (p.2 : Nat)), .no, .no] = some (.nx [.val (pt t), .val (ringsV t), .no, .no, .val (.list (sW t)), .no, .no, .no, .no]) := by
  have hn := (h.lt p hp).1
  obtain ⟨y, r, ey⟩ := head_ex t hn
  have ho := head_of_ok (j := j + 2) h hn ey
  have st := steps_ok (j := j + 3) h hn
  have ab := above_ok (j := j + 2) h hn
  have ly := like2 j (.int (y : Nat)) ⟨rfl, by show 0 ≤ 2; omega⟩
  have i1 : ixOf (sW t).length (p.1 : Nat) = some p.1 := ixOf_nat (by unfold sW; simpa using hn)
  have i2 : (sW t)[p.1]? = some (.tuple (.int (y : Nat) :: iL r)) := by
    unfold sW
    rw [List.getElem?_map, List.getElem?_range hn]
    show some (tupD (gI t p.1)) = _
    rw [show tupD (gI t p.1) = .tuple (iL (comp t p.1)) from (iL_tupD _).symm, ey]; rfl
  have rl : evBlt .len [ringsV t] = some ⟨.int ((rings t).length : Nat), false⟩ := by unfold ringsV; rw [blt_lenT, List.length_map]
  simp only [CF] at ho st ab
  by_cases q : rings t = []
  · have wy := ways_ok (j := j + 3) h q hn
    simp only [CF] at wy
    have c0 : (((rings t).length : Nat) : Int) = 0 := by rw [q]; rfl
    obtain ⟨k, a, b, c, inj⟩ := no_rings h q hn
    have tl := tb_len h
    have e : wk t p.1 11 = its t p.1 k := wk_end h b c (by omega)
    have nd : (wk t p.1 11).Nodup := by
      rw [e]
      unfold its
      rw [List.Nodup, List.pairwise_map]
      refine List.pairwise_lt_range.imp_of_mem ?_
      intro x z hx hz hxz
      exact inj x z hxz (by rw [List.mem_range] at hz; omega)
    have sc := sorted_cls (P := Cl t p.1) nd fun x => by
      rw [e, mem_its, cl_it h hn]
      constructor
      · rintro ⟨i, hi, rfl⟩
        have := it_lt h hn (it_live h b hi)
        exact ⟨this, this, i, rfl⟩
      · rintro ⟨hx, _, i, rfl⟩
        by_cases z : i ≤ k
        · exact ⟨i, z, rfl⟩
        · exact absurd (it_dead h c (j := i) (by omega)) (by omega)
    have wl : (wk t p.1 11).length ≤ 12 := wk_len
    have l1 := like2 j (.tuple [.tuple (iL (wk t p.1 11))]) (lk_tup _ 1 (by simp) fun x hx => by
      rw [List.mem_singleton] at hx; subst hx; exact lk_iL _ (by omega))
    have l2 := like2 j (.tuple (iL (cls (Cl t p.1)))) (lk_one _ (lk_iL _ (by have := cls_len (Cl t p.1); omega)))
    generalize iL (wk t p.1 11) = W at *
    generalize iL (cls (Cl t p.1)) = W2 at *
    generalize ringsV t = RV at *
    generalize sW t = SW at *
    generalize pt t = PT at *
    simp [l_law_table_right_2, evB, evS, evT, evE, evA, evR, evF, evI, evO, rd, rdS, slotR, init, slOf, outR, frzE, wipeS, ho, i1, i2, ly, st, rl, c0, wy, l1, ab, sc, l2]
  · have c0 : ((((rings t).length : Nat) : Int) = 0) = False := eq_false (by
      cases e : rings t with
      | nil => exact absurd e q
      | cons a b => simp; omega)
    generalize iL (wk t p.1 11) = W at *
    generalize ringsV t = RV at *
    generalize sW t = SW at *
    generalize pt t = PT at *
    generalize (((rings t).length : Nat) : Int) = M at *
    simp [l_law_table_right_2, evB, evS, evT, evE, evA, evR, evF, evI, evO, rd, rdS, slotR, init, slOf, outR, frzE, wipeS, ho, i1, i2, ly, st, rl, c0]
end
end K64
set_option Elab.async false
set_option linter.all false
set_option maxRecDepth 100000
set_option maxHeartbeats 4000000
/-! k64: a table is right, the whole. -/
namespace K64
open PySem Pz
section
variable {j : Nat} {t : T}
theorem table_right_ok (h : Tb t) : CF (j + 5) "_law_table_right" [pt t] = some ⟨.bool true, false⟩ := by
  rw [CF, call_eq (d := d_law_table_right) rfl rfl]
  have tl := tb_len h
  have se := fun n (hn : n < 10) => see_end_ok (j := j + 3) h hn
  have le := fun n (hn : n < 10) => law_end_ok (j := j + 2) h hn
  have lke := fun n => like2 j _ (lk_endV t n)
  have lr := law_rings_ok (j := j + 2) h
  have sr := see_rings_ok (j := j + 3) h
  have lkr := like2 j _ (lk_rings h)
  have is := is_subjects_ok (j := j + 1) h
  have lkb := fun b : Bool => like2 j (.bool b) ⟨rfl, by show 0 ≤ 2; omega⟩
  have ss := short_see_ok (j := j + 2) h
  have lks := like2 j _ (lk_pt (short t) (by have := short_len (t := t); omega))
  have s2 := see_rings_ok (j := j + 3) (tb_short h)
  have rs : ringsV (short t) = .tuple [] := by unfold ringsV; rw [rings_short h]; rfl
  rw [rs] at s2
  have lk0 := like2 j (.tuple []) ⟨rfl, by show 0 + 1 ≤ 2; omega⟩
  have lj := fun n (hn : n < 10) => law_joined_ok (j := j + 3) h hn
  have ns := name_sets_ok (j := j + 2) h
  have lkd := like2 j _ (lk_due (t := t))
  simp only [CF] at se le lr sr is ss s2 lj ns
  have rl : evBlt .len [ringsV t] = some ⟨.int ((rings t).length : Nat), false⟩ := by unfold ringsV; rw [blt_lenT, List.length_map]
  -- the first loop
  have lp1 : loopF (evB (callF glob tbl (j + 4)) glob l_law_table_right_1) (.nm 2) (rngL 0 10) [.val (pt t), .val (ringsV t), .no, .no, .no, .no, .no, .no, .no] = some (.nx [.val (pt t), .val (ringsV t), .val (.int 9), .no, .no, .no, .no, .no, .no]) := by
    have := loopF_fold (body := evB (callF glob tbl (j + 4)) glob l_law_table_right_1) (tg := .nm 2) (e := fun n : Nat => PyData.int (n : Nat)) (fun o : Sl => [.val (pt t), .val (ringsV t), o, .no, .no, .no, .no, .no, .no]) (fun _ n => .val (.int (n : Nat))) (fun _ => True) (xs := List.range 10) (b := .no) trivial fun n o hn _ => ⟨trivial, _, rfl, .inl (by
      have hn := List.mem_range.mp hn
      have a := se n hn
      have b := le n hn
      have c := lke n
      generalize endV t n = EV at *
      generalize pt t = PT at *
      generalize ringsV t = RV at *
      simp [l_law_table_right_1, evB, evS, evT, evE, evA, evR, evF, evI, evO, rd, rdS, slotR, init, slOf, outR, frzE, wipeS, a, b, c])⟩
    rw [rngL_zero]
    exact this
  have lp2 : loopF (evB (callF glob tbl (j + 4)) glob l_law_table_right_2) (.tp (.cons (.nm 2) (.cons (.nm 6) .nil))) (t.map pp) [.val (pt t), .val (ringsV t), .no, .no, .val (.list (sW t)), .no, .no, .no, .no] = some (.nx [.val (pt t), .val (ringsV t), .no, .no, .val (.list (sW t)), .no, .no, .no, .no]) :=
    loopF_fold (body := evB (callF glob tbl (j + 4)) glob l_law_table_right_2) (tg := .tp (.cons (.nm 2) (.cons (.nm 6) .nil))) (e := pp) (fun _ : Unit => [.val (pt t), .val (ringsV t), .no, .no, .val (.list (sW t)), .no, .no, .no, .no]) (fun _ _ => ()) (fun _ => True) (xs := t) (b := ()) trivial fun p _ hp _ => ⟨trivial, _, rfl, .inl (turn2 (j := j) h p hp)⟩
  have f1 : ∀ f : PV → Option (List PV), (∀ p ∈ t, f (pp p) = some (if !isNone (endV t p.1) then [.tuple [.int (p.1 : Nat), endV t p.1]] else [])) → compL f (t.map pp) = some ((short t).map pp) := fun f hf => by
    rw [compL_filter (e := pp) (g := fun p => .tuple [.int (p.1 : Nat), endV t p.1]) (p := fun p => !isNone (endV t p.1)) hf, short_map]; rfl
  have f2 : ∀ f : PV → Option (List PV), (∀ n ∈ List.range 10, f (.int (n : Nat)) = some [tupD (gI t n)]) → compL f (rngL 0 10) = some (sW t) := fun f hf => by
    rw [rngL_zero, compL_map (e := fun n : Nat => PyData.int (n : Nat)) (g := fun n => tupD (gI t n)) hf]; rfl
  have f3 : ∀ f : PV → Option (List PV), (∀ n ∈ List.range 10, f (tupD (gI t n)) = some (if big (gI t n) then [tupD (gI t n)] else [])) → compL f (sW t) = some ((((List.range 10).map (gI t)).filter big).map tupD) := fun f hf => by
    unfold sW
    rw [compL_filter (e := fun n => tupD (gI t n)) (g := fun n => tupD (gI t n)) (p := fun n => big (gI t n)) hf, List.filter_map, List.map_map]; rfl
  have ds := sset_tup (((List.range 10).map (gI t)).filter big) (by
    have := List.length_filter_le big ((List.range 10).map (gI t))
    simp at this; omega) fun k hk => by
    obtain ⟨n, hn, rfl⟩ := List.mem_map.mp (List.mem_filter.mp hk).1
    exact ne_gI (List.mem_range.mp hn)
  have ds : evSset (.list ((((List.range 10).map (gI t)).filter big).map tupD)) = some ⟨.list ((dueL t).map tupD), true⟩ := ds
  have lj : ∀ n ∈ List.range 10, callF glob tbl (j + 4) "_law_joined" [pt t, .int (n : Nat)] = some ⟨tupD (gI t n), false⟩ := fun n hn => by
    rw [show tupD (gI t n) = .tuple (iL (comp t n)) from (iL_tupD _).symm]
    exact lj n (List.mem_range.mp hn)
  have kl : ∀ n, evBlt .len [tupD (gI t n)] = some ⟨.int ((gI t n).length : Nat), false⟩ := fun n => by unfold tupD; rw [blt_lenT, List.length_map]
  have l10 : 10 ≤ LIM := by decide
  have unf2 : pt (short t) = .tuple ((short t).map pp) := rfl
  have unf : pt t = .tuple (t.map pp) := rfl
  have rq : decide ((((rings t).length : Nat) : Int) = 0) = decide (rings t = []) := by
    cases e : rings t with
    | nil => rfl
    | cons a b => simp; omega
  rw [unf2] at ss lks s2
  generalize (short t).map pp = S at *
  generalize hD : (dueL t).map tupD = Dd at *
  generalize hB : (((List.range 10).map (gI t)).filter big).map tupD = Bb at *
  generalize hW : sW t = SW at *
  generalize hR : ringsV t = RV at *
  generalize hM : (((rings t).length : Nat) : Int) = M at *
  generalize decide (rings t = []) = bq at *
  simp only [unf] at *
  simp [d_law_table_right, b_law_table_right, evB, evS, evT, evE, evA, evR, evF, evI, evO, rd, rdS, slotR, init, slOf, outR, frzE, wipeS, lr, lp1, sr, lkr, is, rl, rq, lkb, l10]
  rw [f1 _ fun p hp => by
    have a := le p.1 (h.lt p hp).1
    cases e : isNone (endV t p.1) <;> simp [pp, a, e]]
  simp [ss, lks, s2, lk0, l10]
  rw [f2 _ fun n hn => by simp [lj n hn]]
  simp
  rw [f3 _ fun n hn => by
    have := kl n
    by_cases q : 1 < (gI t n).length
    · have c : ((1 : Int) < ((gI t n).length : Int)) = True := eq_true (by omega)
      simp [this, big, q, c]
    · have c : ((1 : Int) < ((gI t n).length : Int)) = False := eq_false (by omega)
      simp [this, big, q, c]]
  simp [ds, ns, lkd, lp2]
end
end K64
set_option Elab.async false
set_option linter.all false
set_option maxRecDepth 100000
set_option maxHeartbeats 4000000
/-! k64: the drawn table; the law. -/
namespace K64
open PySem Pz
theorem lev {J K : Nat} (e : J = K) {f : Str} {vs : List PV} {r : RV} (h : callF glob tbl J f vs = some r) : callF glob tbl K f vs = some r := by rw [← e]; exact h
theorem row14 (ns : List Int) : ∃ row : List Int, callF glob tbl 11 "_law_row" [.list (ns.map .int), .int 14] = some ⟨.list (row.map .int), true⟩ ∧ row.length = 14 ∧ ∀ x ∈ row, 0 ≤ x ∧ x < 1000003 := by
  have h : ∀ (m : Nat) (M : Int), M = m → m ≤ 1000 → ∃ row : List Int, callF glob tbl (9 + 2) "_law_row" [.list (ns.map .int), .int M] = some ⟨.list (row.map .int), true⟩ ∧ row.length = m ∧ ∀ x ∈ row, 0 ≤ x ∧ x < 1000003 := fun m M e hm => by
    subst e; exact row_ok (G := glob) helps 9 ns m hm
  obtain ⟨row, a, b⟩ := h 14 14 rfl (by omega)
  exact ⟨row, lev rfl a, b⟩
def tgt (fwd : Bool) (R : Nat → Nat) (n : Nat) : Nat := if fwd then n + 1 + R (1 + n) / 4 % (10 - n) else R (1 + n) / 4 % 10
def ent (fwd : Bool) (R : Nat → Nat) (n : Nat) : Option (Nat × Nat) := if 0 < R (1 + n) % 4 ∧ tgt fwd R n < 10 then some (n, tgt fwd R n) else none
def tabF (fwd : Bool) (R : Nat → Nat) : T := (List.range 10).filterMap (ent fwd R)
theorem tb_tab (fwd : Bool) (R : Nat → Nat) : Tb (tabF fwd R) where
  asc := by
    unfold tabF
    rw [List.pairwise_filterMap]
    refine List.pairwise_lt_range.imp fun {a b} q c hc d hd => ?_
    unfold ent at hc hd
    split at hc
    · split at hd
      · cases hc; cases hd; exact q
      · cases hd
    · cases hc
  lt := fun p hp => by
    obtain ⟨n, hn, e⟩ := List.mem_filterMap.mp hp
    rw [List.mem_range] at hn
    unfold ent at e
    split at e
    · rename_i q; cases e; exact ⟨hn, q.2⟩
    · cases e
theorem tab_turn (j : Nat) {RW : PV} {R : Nat → Nat} (ix : ∀ i < 14, evIdx RW (.int (i : Nat)) = some (.int (R i : Nat))) (fwd : Bool) {n : Nat} (hn : n < 10) (F : T) (hF : F.length ≤ 1000) :
    evB (callF glob tbl j) glob l_law_table_1 [.val RW, .own (F.map pp), .val (.bool fwd), .val (.int (n : Nat)), .no, .no] = some (.nx [.val RW, .own ((F ++ (ent fwd R n).toList).map pp), .val (.bool fwd), .no, .no, .no]) := by
  have i1 : evIdx RW (.int (1 + (n : Int))) = some (.int (R (1 + n) : Nat)) := by
    rw [show (1 + (n : Int)) = ((1 + n : Nat) : Int) by omega]; exact ix (1 + n) (by omega)
  have ln : (F.map pp).length < LIM := by rw [List.length_map]; unfold LIM; omega
  unfold ent tgt
  generalize R (1 + n) = c at *
  have t1 : ((c : Int) / 4 % 10) = ((c / 4 % 10 : Nat) : Int) := by omega
  have t2 : (c : Int) / 4 % (10 - (n : Int)) = ((c / 4 % (10 - n) : Nat) : Int) := by
    rw [show (10 - (n : Int)) = ((10 - n : Nat) : Int) by omega, show ((c : Int) / 4) = ((c / 4 : Nat) : Int) by omega, Int.natCast_emod]
  have p10 : (0 : Int) < 10 - (n : Int) := by omega
  have c4 : (0 < (c : Int) % 4) = (0 < c % 4) := propext (by omega)
  have mp : ∀ y : Nat, (F ++ [(n, y)]).map pp = F.map pp ++ [.tuple [.int (n : Nat), .int (y : Nat)]] := fun y => by rw [List.map_append]; rfl
  cases fwd with
  | true =>
    rw [if_pos rfl]
    have t3 : (n : Int) + 1 + ((c / 4 % (10 - n) : Nat) : Int) = ((n + 1 + c / 4 % (10 - n) : Nat) : Int) := by omega
    generalize c / 4 % (10 - n) = u at *
    generalize hy : n + 1 + u = y at *
    by_cases q : 0 < c % 4
    · by_cases q2 : y < 10
      · have z2 : ((y : Int) < 10) = True := eq_true (by omega)
        rw [if_pos ⟨q, q2⟩]
        rw [show (some (n, y)).toList = [(n, y)] from rfl, mp]
        generalize F.map pp = W at *
        simp [l_law_table_1, evB, evS, evT, evE, evA, evR, evF, evI, evO, rd, rdS, slotR, init, slOf, outR, frzE, wipeS, i1, bin_mod p10, t2, t3, c4, q, z2, ln]
      · have z2 : ((y : Int) < 10) = False := eq_false (by omega)
        rw [if_neg fun z => q2 z.2]
        rw [show (none : Option (Nat × Nat)).toList = [] from rfl, List.append_nil]
        generalize F.map pp = W at *
        simp [l_law_table_1, evB, evS, evT, evE, evA, evR, evF, evI, evO, rd, rdS, slotR, init, slOf, outR, frzE, wipeS, i1, bin_mod p10, t2, t3, c4, q, z2, ln]
    · rw [if_neg fun z => q z.1]
      rw [show (none : Option (Nat × Nat)).toList = [] from rfl, List.append_nil]
      generalize F.map pp = W at *
      simp [l_law_table_1, evB, evS, evT, evE, evA, evR, evF, evI, evO, rd, rdS, slotR, init, slOf, outR, frzE, wipeS, i1, bin_mod p10, t2, t3, c4, q, ln]
  | false =>
    rw [if_neg Bool.false_ne_true]
    generalize hy : c / 4 % 10 = y at *
    by_cases q : 0 < c % 4
    · by_cases q2 : y < 10
      · have z2 : ((y : Int) < 10) = True := eq_true (by omega)
        rw [if_pos ⟨q, q2⟩]
        rw [show (some (n, y)).toList = [(n, y)] from rfl, mp]
        generalize F.map pp = W at *
        simp [l_law_table_1, evB, evS, evT, evE, evA, evR, evF, evI, evO, rd, rdS, slotR, init, slOf, outR, frzE, wipeS, i1, t1, c4, q, z2, ln]
      · have z2 : ((y : Int) < 10) = False := eq_false (by omega)
        rw [if_neg fun z => q2 z.2]
        rw [show (none : Option (Nat × Nat)).toList = [] from rfl, List.append_nil]
        generalize F.map pp = W at *
        simp [l_law_table_1, evB, evS, evT, evE, evA, evR, evF, evI, evO, rd, rdS, slotR, init, slOf, outR, frzE, wipeS, i1, t1, c4, q, z2, ln]
    · rw [if_neg fun z => q z.1]
      rw [show (none : Option (Nat × Nat)).toList = [] from rfl, List.append_nil]
      generalize F.map pp = W at *
      simp [l_law_table_1, evB, evS, evT, evE, evA, evR, evF, evI, evO, rd, rdS, slotR, init, slOf, outR, frzE, wipeS, i1, t1, c4, q, ln]
theorem tab_loop (j : Nat) {RW : PV} {R : Nat → Nat} (ix : ∀ i < 14, evIdx RW (.int (i : Nat)) = some (.int (R i : Nat))) (fwd : Bool) : ∀ (xs : List Nat) (F : T), (∀ x ∈ xs, x < 10) → F.length + xs.length ≤ 1000 →
    loopF (evB (callF glob tbl j) glob l_law_table_1) (.nm 3) (xs.map fun n => .int (n : Nat)) [.val RW, .own (F.map pp), .val (.bool fwd), .no, .no, .no] = some (.nx [.val RW, .own ((F ++ xs.filterMap (ent fwd R)).map pp), .val (.bool fwd), .no, .no, .no])
  | [], F, _, _ => by simp; rfl
  | x :: r, F, hx, hl => by
    rw [List.length_cons] at hl
    rw [List.map_cons, loopF_cons rfl (tab_turn j ix fwd (hx x List.mem_cons_self) F (by omega)), tab_loop j ix fwd r _ (fun y hy => hx y (List.mem_cons_of_mem _ hy)) (by rw [List.length_append]; cases ent fwd R x <;> simp <;> omega), List.filterMap_cons]
    cases ent fwd R x <;> simp
theorem table_ok (j : Nat) {RW : PV} {R : Nat → Nat} (ix : ∀ i < 14, evIdx RW (.int (i : Nat)) = some (.int (R i : Nat))) : ∃ t, Tb t ∧ callF glob tbl (j + 1) "_law_table" [RW] = some ⟨pt t, false⟩ := by
  refine ⟨tabF (decide (R 0 % 3 = 0)) R, tb_tab _ _, ?_⟩
  rw [call_eq (d := d_law_table) rfl rfl]
  generalize hf : decide (R 0 % 3 = 0) = fwd
  have i0 : evIdx RW (.int 0) = some (.int (R 0 : Nat)) := ix 0 (by omega)
  have f0 : decide (((R 0 : Nat) : Int) % 3 = 0) = fwd := by
    rw [← hf]
    by_cases q : R 0 % 3 = 0
    · have : ((R 0 : Nat) : Int) % 3 = 0 := by omega
      simp [q, this]
    · have : ¬ ((R 0 : Nat) : Int) % 3 = 0 := by omega
      simp [q, this]
  have lp := tab_loop j ix fwd (List.range 10) [] (fun x hx => List.mem_range.mp hx) (by simp)
  rw [← rngL_zero, List.map_nil] at lp
  unfold tabF
  rw [List.nil_append] at lp
  have unf : pt ((List.range 10).filterMap (ent fwd R)) = .tuple (((List.range 10).filterMap (ent fwd R)).map pp) := rfl
  rw [unf]
  generalize ((List.range 10).filterMap (ent fwd R)).map pp = W at *
  have l10 : 10 ≤ LIM := by decide
  simp [d_law_table, b_law_table, evB, evS, evT, evE, evA, evR, evF, evI, evO, rd, rdS, slotR, init, slOf, outR, frzE, wipeS, i0, f0, lp, l10]
theorem tb_one {a b : Nat} (ha : a < 10) (hb : b < 10) : Tb [(a, b)] := ⟨by simp, fun p hp => by rw [List.mem_singleton] at hp; subst hp; exact ⟨ha, hb⟩⟩
theorem tb_two {a b : Nat} (ha : a < 10) (hb : b < 10) (h : a < b) : Tb [(a, b), (b, a)] := ⟨by simp [h], fun p hp => by
  simp only [List.mem_cons, List.not_mem_nil, or_false] at hp
  rcases hp with rfl | rfl
  · exact ⟨ha, hb⟩
  · exact ⟨hb, ha⟩⟩
theorem law_true (ns : List Int) (h : ns.length ≤ 63) : callF glob tbl 12 "law" [.list (ns.map .int)] = some ⟨.bool true, false⟩ := by
  rw [call_eq (d := d_law) rfl rfl]
  obtain ⟨row, er, hl, hv⟩ := row14 ns
  obtain ⟨R, hR⟩ : ∃ R : Nat → Nat, ∀ i (h : i < row.length), row[i] = (R i : Int) := ⟨fun i => (row[i]?.getD 0).toNat, fun i h => by
    have := hv row[i] (List.getElem_mem h)
    show row[i] = (((row[i]?.getD 0).toNat : Nat) : Int)
    rw [List.getElem?_eq_getElem h, Option.getD_some]; omega⟩
  have ix : ∀ i (h : i < 14), evIdx (.list (row.map .int)) (.int (i : Nat)) = some (.int (R i : Nat)) := fun i h => by
    rw [row_ix (by omega), hR i (by omega)]
  obtain ⟨t, Tt, et⟩ := table_ok 10 ix
  have right := fun (t : List (Nat × Nat)) (h : Tb t) => table_right_ok (j := 6) h
  simp only [CF] at right
  have rt := right t Tt
  generalize PyData.list (row.map .int) = RW at ix er et
  have i11 : evIdx RW (.int 11) = some (.int (R 11 : Nat)) := ix 11 (by omega)
  have i12 : evIdx RW (.int 12) = some (.int (R 12 : Nat)) := ix 12 (by omega)
  have i13 : evIdx RW (.int 13) = some (.int (R 13 : Nat)) := ix 13 (by omega)
  obtain ⟨one, e1, o9⟩ : ∃ n : Nat, ((R 11 : Nat) : Int) % 10 = n ∧ n < 10 := ⟨R 11 % 10, by omega, by omega⟩
  obtain ⟨low, e2, l8⟩ : ∃ n : Nat, ((R 12 : Nat) : Int) % 9 = n ∧ n < 9 := ⟨R 12 % 9, by omega, by omega⟩
  obtain ⟨m, e3, m9⟩ : ∃ n : Nat, ((R 13 : Nat) : Int) % 9 = n ∧ n < 9 := ⟨R 13 % 9, by omega, by omega⟩
  obtain ⟨oth, e4, h9, ne⟩ : ∃ n : Nat, ((one : Int) + 1 + (m : Nat)) % 10 = n ∧ n < 10 ∧ n ≠ one := ⟨(one + 1 + m) % 10, by omega, by omega, by omega⟩
  have r1 : callF glob tbl 11 "_law_table_right" [.tuple [.tuple [.int (low : Nat), .int 9]]] = some ⟨.bool true, false⟩ := right [(low, 9)] (tb_one (by omega) (by omega))
  have r2 : callF glob tbl 11 "_law_table_right" [.tuple [.tuple [.int 9, .int (low : Nat)]]] = some ⟨.bool true, false⟩ := right [(9, low)] (tb_one (by omega) (by omega))
  have r3 : callF glob tbl 11 "_law_table_right" [.tuple [.tuple [.int (one : Nat), .int (one : Nat)]]] = some ⟨.bool true, false⟩ := right [(one, one)] (tb_one (by omega) (by omega))
  have r4 : callF glob tbl 11 "_law_table_right" [.tuple [.tuple [.int (one : Nat), .int (oth : Nat)]]] = some ⟨.bool true, false⟩ := right [(one, oth)] (tb_one (by omega) (by omega))
  obtain ⟨S, s1, r5⟩ : ∃ S, evBlt .sorted [.tuple [.tuple [.int (one : Nat), .int (oth : Nat)], .tuple [.int (oth : Nat), .int (one : Nat)]]] = some ⟨.list S, true⟩ ∧ callF glob tbl 11 "_law_table_right" [.tuple S] = some ⟨.bool true, false⟩ := by
    by_cases q : one < oth
    · have tb := tb_two o9 h9 q
      exact ⟨_, (sorted_pp tb.asc (List.Perm.refl _)).2, right _ tb⟩
    · have tb := tb_two h9 o9 (by omega)
      exact ⟨_, (sorted_pp (u := [(one, oth), (oth, one)]) tb.asc (List.Perm.swap _ _ _)).2, right _ tb⟩
  have body : ∀ (x : PV), callF glob tbl 11 "_law_table_right" [x] = some ⟨.bool true, false⟩ → evB (callF glob tbl 11) glob l_law_1 [.val (.list (ns.map .int)), .val RW, .val (.int (one : Nat)), .val (.int (low : Nat)), .val (.int (oth : Nat)), .val x] = some (.nx [.val (.list (ns.map .int)), .val RW, .val (.int (one : Nat)), .val (.int (low : Nat)), .val (.int (oth : Nat)), .no]) := fun x hx => by
    simp [l_law_1, evB, evS, evT, evE, evA, evR, evF, evI, evO, rd, rdS, slotR, init, slOf, outR, frzE, wipeS, hx]
  have lp : loopF (evB (callF glob tbl 11) glob l_law_1) (.nm 5) [.tuple [.tuple [.int (low : Nat), .int 9]], .tuple [.tuple [.int 9, .int (low : Nat)]], .tuple [.tuple [.int (one : Nat), .int (one : Nat)]], .tuple [.tuple [.int (one : Nat), .int (oth : Nat)]], .tuple S] [.val (.list (ns.map .int)), .val RW, .val (.int (one : Nat)), .val (.int (low : Nat)), .val (.int (oth : Nat)), .no] = some (.nx [.val (.list (ns.map .int)), .val RW, .val (.int (one : Nat)), .val (.int (low : Nat)), .val (.int (oth : Nat)), .no]) := by
    rw [loopF_cons rfl (body _ r1), loopF_cons rfl (body _ r2), loopF_cons rfl (body _ r3), loopF_cons rfl (body _ r4), loopF_cons rfl (body _ r5)]; rfl
  have e4' : ((one : Int) + 1 + (m : Nat)) % 10 = (oth : Nat) := e4
  simp [d_law, b_law, evB, evS, evT, evE, evA, evR, evF, evI, evO, rd, rdS, slotR, init, slOf, outR, frzE, wipeS, er, i11, e1, i12, e2, i13, e3, e4', s1, lp, et, rt]
end K64
set_option Elab.async false
set_option linter.all false
set_option maxRecDepth 100000
namespace K64
open PySem PySem.Spec PyProof.Rows Pz L2
theorem bd_joined (kV doc pm : Value) (an : Option Addr) (cdv ct : Value) (us : List Value) (hl : us.length = d_joined.ps.length) : bindArgs (PySem.W.fnOf d_joined.name d_joined.name (defArgs d_joined.st) (defBody d_joined.st) (defScope d_joined.st) .none kV doc pm an cdv ct) ⟨us, []⟩ = pure (d_joined.ps.zip us) := match us, hl with | [_, _], _ => rfl
theorem bd_name_sets (kV doc pm : Value) (an : Option Addr) (cdv ct : Value) (us : List Value) (hl : us.length = d_name_sets.ps.length) : bindArgs (PySem.W.fnOf d_name_sets.name d_name_sets.name (defArgs d_name_sets.st) (defBody d_name_sets.st) (defScope d_name_sets.st) .none kV doc pm an cdv ct) ⟨us, []⟩ = pure (d_name_sets.ps.zip us) := match us, hl with | [_], _ => rfl
theorem bd_head_of (kV doc pm : Value) (an : Option Addr) (cdv ct : Value) (us : List Value) (hl : us.length = d_head_of.ps.length) : bindArgs (PySem.W.fnOf d_head_of.name d_head_of.name (defArgs d_head_of.st) (defBody d_head_of.st) (defScope d_head_of.st) .none kV doc pm an cdv ct) ⟨us, []⟩ = pure (d_head_of.ps.zip us) := match us, hl with | [_, _], _ => rfl
theorem bd_see_end (kV doc pm : Value) (an : Option Addr) (cdv ct : Value) (us : List Value) (hl : us.length = d_see_end.ps.length) : bindArgs (PySem.W.fnOf d_see_end.name d_see_end.name (defArgs d_see_end.st) (defBody d_see_end.st) (defScope d_see_end.st) .none kV doc pm an cdv ct) ⟨us, []⟩ = pure (d_see_end.ps.zip us) := match us, hl with | [_, _], _ => rfl
theorem bd_see_rings (kV doc pm : Value) (an : Option Addr) (cdv ct : Value) (us : List Value) (hl : us.length = d_see_rings.ps.length) : bindArgs (PySem.W.fnOf d_see_rings.name d_see_rings.name (defArgs d_see_rings.st) (defBody d_see_rings.st) (defScope d_see_rings.st) .none kV doc pm an cdv ct) ⟨us, []⟩ = pure (d_see_rings.ps.zip us) := match us, hl with | [_], _ => rfl
theorem bd_short_see (kV doc pm : Value) (an : Option Addr) (cdv ct : Value) (us : List Value) (hl : us.length = d_short_see.ps.length) : bindArgs (PySem.W.fnOf d_short_see.name d_short_see.name (defArgs d_short_see.st) (defBody d_short_see.st) (defScope d_short_see.st) .none kV doc pm an cdv ct) ⟨us, []⟩ = pure (d_short_see.ps.zip us) := match us, hl with | [_], _ => rfl
theorem bd_is_pair (kV doc pm : Value) (an : Option Addr) (cdv ct : Value) (us : List Value) (hl : us.length = d_is_pair.ps.length) : bindArgs (PySem.W.fnOf d_is_pair.name d_is_pair.name (defArgs d_is_pair.st) (defBody d_is_pair.st) (defScope d_is_pair.st) .none kV doc pm an cdv ct) ⟨us, []⟩ = pure (d_is_pair.ps.zip us) := match us, hl with | [_], _ => rfl
theorem bd_is_subjects (kV doc pm : Value) (an : Option Addr) (cdv ct : Value) (us : List Value) (hl : us.length = d_is_subjects.ps.length) : bindArgs (PySem.W.fnOf d_is_subjects.name d_is_subjects.name (defArgs d_is_subjects.st) (defBody d_is_subjects.st) (defScope d_is_subjects.st) .none kV doc pm an cdv ct) ⟨us, []⟩ = pure (d_is_subjects.ps.zip us) := match us, hl with | [_], _ => rfl
theorem bd_reach (kV doc pm : Value) (an : Option Addr) (cdv ct : Value) (us : List Value) (hl : us.length = d_reach.ps.length) : bindArgs (PySem.W.fnOf d_reach.name d_reach.name (defArgs d_reach.st) (defBody d_reach.st) (defScope d_reach.st) .none kV doc pm an cdv ct) ⟨us, []⟩ = pure (d_reach.ps.zip us) := match us, hl with | [_, _], _ => rfl
theorem bd_above_all (kV doc pm : Value) (an : Option Addr) (cdv ct : Value) (us : List Value) (hl : us.length = d_above_all.ps.length) : bindArgs (PySem.W.fnOf d_above_all.name d_above_all.name (defArgs d_above_all.st) (defBody d_above_all.st) (defScope d_above_all.st) .none kV doc pm an cdv ct) ⟨us, []⟩ = pure (d_above_all.ps.zip us) := match us, hl with | [_, _], _ => rfl
theorem bd_below_all (kV doc pm : Value) (an : Option Addr) (cdv ct : Value) (us : List Value) (hl : us.length = d_below_all.ps.length) : bindArgs (PySem.W.fnOf d_below_all.name d_below_all.name (defArgs d_below_all.st) (defBody d_below_all.st) (defScope d_below_all.st) .none kV doc pm an cdv ct) ⟨us, []⟩ = pure (d_below_all.ps.zip us) := match us, hl with | [_, _], _ => rfl
theorem bd_ways_up (kV doc pm : Value) (an : Option Addr) (cdv ct : Value) (us : List Value) (hl : us.length = d_ways_up.ps.length) : bindArgs (PySem.W.fnOf d_ways_up.name d_ways_up.name (defArgs d_ways_up.st) (defBody d_ways_up.st) (defScope d_ways_up.st) .none kV doc pm an cdv ct) ⟨us, []⟩ = pure (d_ways_up.ps.zip us) := match us, hl with | [_, _], _ => rfl
theorem bd_law_mixed (kV doc pm : Value) (an : Option Addr) (cdv ct : Value) (us : List Value) (hl : us.length = d_law_mixed.ps.length) : bindArgs (PySem.W.fnOf d_law_mixed.name d_law_mixed.name (defArgs d_law_mixed.st) (defBody d_law_mixed.st) (defScope d_law_mixed.st) .none kV doc pm an cdv ct) ⟨us, []⟩ = pure (d_law_mixed.ps.zip us) := match us, hl with | [_, _], _ => rfl
theorem bd_law_row (kV doc pm : Value) (an : Option Addr) (cdv ct : Value) (us : List Value) (hl : us.length = d_law_row.ps.length) : bindArgs (PySem.W.fnOf d_law_row.name d_law_row.name (defArgs d_law_row.st) (defBody d_law_row.st) (defScope d_law_row.st) .none kV doc pm an cdv ct) ⟨us, []⟩ = pure (d_law_row.ps.zip us) := match us, hl with | [_, _], _ => rfl
theorem bd_law_is_int (kV doc pm : Value) (an : Option Addr) (cdv ct : Value) (us : List Value) (hl : us.length = d_law_is_int.ps.length) : bindArgs (PySem.W.fnOf d_law_is_int.name d_law_is_int.name (defArgs d_law_is_int.st) (defBody d_law_is_int.st) (defScope d_law_is_int.st) .none kV doc pm an cdv ct) ⟨us, []⟩ = pure (d_law_is_int.ps.zip us) := match us, hl with | [_], _ => rfl
theorem bd_law_like (kV doc pm : Value) (an : Option Addr) (cdv ct : Value) (us : List Value) (hl : us.length = d_law_like.ps.length) : bindArgs (PySem.W.fnOf d_law_like.name d_law_like.name (defArgs d_law_like.st) (defBody d_law_like.st) (defScope d_law_like.st) .none kV doc pm an cdv ct) ⟨us, []⟩ = pure (d_law_like.ps.zip us) := match us, hl with | [_, _], _ => rfl
theorem bd_law_table (kV doc pm : Value) (an : Option Addr) (cdv ct : Value) (us : List Value) (hl : us.length = d_law_table.ps.length) : bindArgs (PySem.W.fnOf d_law_table.name d_law_table.name (defArgs d_law_table.st) (defBody d_law_table.st) (defScope d_law_table.st) .none kV doc pm an cdv ct) ⟨us, []⟩ = pure (d_law_table.ps.zip us) := match us, hl with | [_], _ => rfl
theorem bd_law_steps (kV doc pm : Value) (an : Option Addr) (cdv ct : Value) (us : List Value) (hl : us.length = d_law_steps.ps.length) : bindArgs (PySem.W.fnOf d_law_steps.name d_law_steps.name (defArgs d_law_steps.st) (defBody d_law_steps.st) (defScope d_law_steps.st) .none kV doc pm an cdv ct) ⟨us, []⟩ = pure (d_law_steps.ps.zip us) := match us, hl with | [_, _], _ => rfl
theorem bd_law_end (kV doc pm : Value) (an : Option Addr) (cdv ct : Value) (us : List Value) (hl : us.length = d_law_end.ps.length) : bindArgs (PySem.W.fnOf d_law_end.name d_law_end.name (defArgs d_law_end.st) (defBody d_law_end.st) (defScope d_law_end.st) .none kV doc pm an cdv ct) ⟨us, []⟩ = pure (d_law_end.ps.zip us) := match us, hl with | [_, _], _ => rfl
theorem bd_law_rings (kV doc pm : Value) (an : Option Addr) (cdv ct : Value) (us : List Value) (hl : us.length = d_law_rings.ps.length) : bindArgs (PySem.W.fnOf d_law_rings.name d_law_rings.name (defArgs d_law_rings.st) (defBody d_law_rings.st) (defScope d_law_rings.st) .none kV doc pm an cdv ct) ⟨us, []⟩ = pure (d_law_rings.ps.zip us) := match us, hl with | [_], _ => rfl
theorem bd_law_joined (kV doc pm : Value) (an : Option Addr) (cdv ct : Value) (us : List Value) (hl : us.length = d_law_joined.ps.length) : bindArgs (PySem.W.fnOf d_law_joined.name d_law_joined.name (defArgs d_law_joined.st) (defBody d_law_joined.st) (defScope d_law_joined.st) .none kV doc pm an cdv ct) ⟨us, []⟩ = pure (d_law_joined.ps.zip us) := match us, hl with | [_, _], _ => rfl
theorem bd_law_table_right (kV doc pm : Value) (an : Option Addr) (cdv ct : Value) (us : List Value) (hl : us.length = d_law_table_right.ps.length) : bindArgs (PySem.W.fnOf d_law_table_right.name d_law_table_right.name (defArgs d_law_table_right.st) (defBody d_law_table_right.st) (defScope d_law_table_right.st) .none kV doc pm an cdv ct) ⟨us, []⟩ = pure (d_law_table_right.ps.zip us) := match us, hl with | [_], _ => rfl
theorem bd_law (kV doc pm : Value) (an : Option Addr) (cdv ct : Value) (us : List Value) (hl : us.length = d_law.ps.length) : bindArgs (PySem.W.fnOf d_law.name d_law.name (defArgs d_law.st) (defBody d_law.st) (defScope d_law.st) .none kV doc pm an cdv ct) ⟨us, []⟩ = pure (d_law.ps.zip us) := match us, hl with | [_], _ => rfl
theorem bltn_mk {mg : Str → Option Value} (z0 : mg "len" = none) (z1 : mg "sum" = none) (z2 : mg "min" = none) (z3 : mg "max" = none) (z4 : mg "all" = none) (z5 : mg "any" = none) (z6 : mg "tuple" = none) (z7 : mg "list" = none) (z8 : mg "sorted" = none) (z9 : mg "int" = none) (z10 : mg "str" = none) (z11 : mg "abs" = none) (z12 : mg "bool" = none) (z13 : mg "reversed" = none) (z14 : mg "isinstance" = none) (z15 : mg "range" = none) (z16 : mg "enumerate" = none) (z17 : mg "zip" = none) (z18 : mg "set" = none) : ∀ x ∈ bltNames, mg x = none := by
  intro x hx
  simp only [bltNames, List.mem_cons, List.not_mem_nil, or_false] at hx
  rcases hx with rfl | rfl | rfl | rfl | rfl | rfl | rfl | rfl | rfl | rfl | rfl | rfl | rfl | rfl | rfl | rfl | rfl | rfl | rfl
  all_goals assumption
theorem glob_ok {K : PySem.W.Frag} {h : Heap} {mg : Str → Option Value} (X : K.In h) (G : h.Ns mainGlobals mg)
    {gt0 : Tok} (kg0 : PySem.W.nsIn K mainGlobals "MOST_SUBJECT" = some (some (.int 9 gt0)))
    : ∀ x v, glob x = some v → ∃ u y, mg x = some u ∧ RelV y u ∧ ∀ F : Hp, Dp K F y v := by
  intro x v e
  unfold glob at e
  split at e
  · rename_i hx
    subst hx
    cases e
    exact ⟨_, .int (9), PySem.W.mg_of X G kg0, ⟨_, rfl⟩, fun F => .int _⟩
  cases e
theorem all_mk {P : Program} {w : World} {K : PySem.W.Frag} {h : Heap} {mg : Str → Option Value} {fa : Addr} (X : K.In h) (G : h.Ns mainGlobals mg) (hfa : mg "law" = some (.ref fa))
    {f0 : Addr} {oc0 : Value} {od0 an0 : Option Addr} {sl0 : Array (Option Value)} {kV0 dc0 pm0 cd0 ct0 : Value} (a0 : PySem.W.nsIn K mainGlobals "joined" = some (some (.ref f0))) (l0 : K.lookup f0 = some ⟨oc0, od0, .func (PySem.W.fnOf "joined" "joined" (defArgs d_joined.st) (defBody d_joined.st) (defScope d_joined.st) .none kV0 dc0 pm0 an0 cd0 ct0), sl0⟩) (c0 : PySem.W.codeIn K cd0 "joined" = true) (k0 : PySem.W.keepIn K (.ref f0) = true)
    {f1 : Addr} {oc1 : Value} {od1 an1 : Option Addr} {sl1 : Array (Option Value)} {kV1 dc1 pm1 cd1 ct1 : Value} (a1 : PySem.W.nsIn K mainGlobals "name_sets" = some (some (.ref f1))) (l1 : K.lookup f1 = some ⟨oc1, od1, .func (PySem.W.fnOf "name_sets" "name_sets" (defArgs d_name_sets.st) (defBody d_name_sets.st) (defScope d_name_sets.st) .none kV1 dc1 pm1 an1 cd1 ct1), sl1⟩) (c1 : PySem.W.codeIn K cd1 "name_sets" = true) (k1 : PySem.W.keepIn K (.ref f1) = true)
    {f2 : Addr} {oc2 : Value} {od2 an2 : Option Addr} {sl2 : Array (Option Value)} {kV2 dc2 pm2 cd2 ct2 : Value} (a2 : PySem.W.nsIn K mainGlobals "head_of" = some (some (.ref f2))) (l2 : K.lookup f2 = some ⟨oc2, od2, .func (PySem.W.fnOf "head_of" "head_of" (defArgs d_head_of.st) (defBody d_head_of.st) (defScope d_head_of.st) .none kV2 dc2 pm2 an2 cd2 ct2), sl2⟩) (c2 : PySem.W.codeIn K cd2 "head_of" = true) (k2 : PySem.W.keepIn K (.ref f2) = true)
    {f3 : Addr} {oc3 : Value} {od3 an3 : Option Addr} {sl3 : Array (Option Value)} {kV3 dc3 pm3 cd3 ct3 : Value} (a3 : PySem.W.nsIn K mainGlobals "see_end" = some (some (.ref f3))) (l3 : K.lookup f3 = some ⟨oc3, od3, .func (PySem.W.fnOf "see_end" "see_end" (defArgs d_see_end.st) (defBody d_see_end.st) (defScope d_see_end.st) .none kV3 dc3 pm3 an3 cd3 ct3), sl3⟩) (c3 : PySem.W.codeIn K cd3 "see_end" = true) (k3 : PySem.W.keepIn K (.ref f3) = true)
    {f4 : Addr} {oc4 : Value} {od4 an4 : Option Addr} {sl4 : Array (Option Value)} {kV4 dc4 pm4 cd4 ct4 : Value} (a4 : PySem.W.nsIn K mainGlobals "see_rings" = some (some (.ref f4))) (l4 : K.lookup f4 = some ⟨oc4, od4, .func (PySem.W.fnOf "see_rings" "see_rings" (defArgs d_see_rings.st) (defBody d_see_rings.st) (defScope d_see_rings.st) .none kV4 dc4 pm4 an4 cd4 ct4), sl4⟩) (c4 : PySem.W.codeIn K cd4 "see_rings" = true) (k4 : PySem.W.keepIn K (.ref f4) = true)
    {f5 : Addr} {oc5 : Value} {od5 an5 : Option Addr} {sl5 : Array (Option Value)} {kV5 dc5 pm5 cd5 ct5 : Value} (a5 : PySem.W.nsIn K mainGlobals "short_see" = some (some (.ref f5))) (l5 : K.lookup f5 = some ⟨oc5, od5, .func (PySem.W.fnOf "short_see" "short_see" (defArgs d_short_see.st) (defBody d_short_see.st) (defScope d_short_see.st) .none kV5 dc5 pm5 an5 cd5 ct5), sl5⟩) (c5 : PySem.W.codeIn K cd5 "short_see" = true) (k5 : PySem.W.keepIn K (.ref f5) = true)
    {f6 : Addr} {oc6 : Value} {od6 an6 : Option Addr} {sl6 : Array (Option Value)} {kV6 dc6 pm6 cd6 ct6 : Value} (a6 : PySem.W.nsIn K mainGlobals "is_pair" = some (some (.ref f6))) (l6 : K.lookup f6 = some ⟨oc6, od6, .func (PySem.W.fnOf "is_pair" "is_pair" (defArgs d_is_pair.st) (defBody d_is_pair.st) (defScope d_is_pair.st) .none kV6 dc6 pm6 an6 cd6 ct6), sl6⟩) (c6 : PySem.W.codeIn K cd6 "is_pair" = true) (k6 : PySem.W.keepIn K (.ref f6) = true)
    {f7 : Addr} {oc7 : Value} {od7 an7 : Option Addr} {sl7 : Array (Option Value)} {kV7 dc7 pm7 cd7 ct7 : Value} (a7 : PySem.W.nsIn K mainGlobals "is_subjects" = some (some (.ref f7))) (l7 : K.lookup f7 = some ⟨oc7, od7, .func (PySem.W.fnOf "is_subjects" "is_subjects" (defArgs d_is_subjects.st) (defBody d_is_subjects.st) (defScope d_is_subjects.st) .none kV7 dc7 pm7 an7 cd7 ct7), sl7⟩) (c7 : PySem.W.codeIn K cd7 "is_subjects" = true) (k7 : PySem.W.keepIn K (.ref f7) = true)
    {f8 : Addr} {oc8 : Value} {od8 an8 : Option Addr} {sl8 : Array (Option Value)} {kV8 dc8 pm8 cd8 ct8 : Value} (a8 : PySem.W.nsIn K mainGlobals "reach" = some (some (.ref f8))) (l8 : K.lookup f8 = some ⟨oc8, od8, .func (PySem.W.fnOf "reach" "reach" (defArgs d_reach.st) (defBody d_reach.st) (defScope d_reach.st) .none kV8 dc8 pm8 an8 cd8 ct8), sl8⟩) (c8 : PySem.W.codeIn K cd8 "reach" = true) (k8 : PySem.W.keepIn K (.ref f8) = true)
    {f9 : Addr} {oc9 : Value} {od9 an9 : Option Addr} {sl9 : Array (Option Value)} {kV9 dc9 pm9 cd9 ct9 : Value} (a9 : PySem.W.nsIn K mainGlobals "above_all" = some (some (.ref f9))) (l9 : K.lookup f9 = some ⟨oc9, od9, .func (PySem.W.fnOf "above_all" "above_all" (defArgs d_above_all.st) (defBody d_above_all.st) (defScope d_above_all.st) .none kV9 dc9 pm9 an9 cd9 ct9), sl9⟩) (c9 : PySem.W.codeIn K cd9 "above_all" = true) (k9 : PySem.W.keepIn K (.ref f9) = true)
    {f10 : Addr} {oc10 : Value} {od10 an10 : Option Addr} {sl10 : Array (Option Value)} {kV10 dc10 pm10 cd10 ct10 : Value} (a10 : PySem.W.nsIn K mainGlobals "below_all" = some (some (.ref f10))) (l10 : K.lookup f10 = some ⟨oc10, od10, .func (PySem.W.fnOf "below_all" "below_all" (defArgs d_below_all.st) (defBody d_below_all.st) (defScope d_below_all.st) .none kV10 dc10 pm10 an10 cd10 ct10), sl10⟩) (c10 : PySem.W.codeIn K cd10 "below_all" = true) (k10 : PySem.W.keepIn K (.ref f10) = true)
    {f11 : Addr} {oc11 : Value} {od11 an11 : Option Addr} {sl11 : Array (Option Value)} {kV11 dc11 pm11 cd11 ct11 : Value} (a11 : PySem.W.nsIn K mainGlobals "ways_up" = some (some (.ref f11))) (l11 : K.lookup f11 = some ⟨oc11, od11, .func (PySem.W.fnOf "ways_up" "ways_up" (defArgs d_ways_up.st) (defBody d_ways_up.st) (defScope d_ways_up.st) .none kV11 dc11 pm11 an11 cd11 ct11), sl11⟩) (c11 : PySem.W.codeIn K cd11 "ways_up" = true) (k11 : PySem.W.keepIn K (.ref f11) = true)
    {f12 : Addr} {oc12 : Value} {od12 an12 : Option Addr} {sl12 : Array (Option Value)} {kV12 dc12 pm12 cd12 ct12 : Value} (a12 : PySem.W.nsIn K mainGlobals "_law_mixed" = some (some (.ref f12))) (l12 : K.lookup f12 = some ⟨oc12, od12, .func (PySem.W.fnOf "_law_mixed" "_law_mixed" (defArgs d_law_mixed.st) (defBody d_law_mixed.st) (defScope d_law_mixed.st) .none kV12 dc12 pm12 an12 cd12 ct12), sl12⟩) (c12 : PySem.W.codeIn K cd12 "_law_mixed" = true) (k12 : PySem.W.keepIn K (.ref f12) = true)
    {f13 : Addr} {oc13 : Value} {od13 an13 : Option Addr} {sl13 : Array (Option Value)} {kV13 dc13 pm13 cd13 ct13 : Value} (a13 : PySem.W.nsIn K mainGlobals "_law_row" = some (some (.ref f13))) (l13 : K.lookup f13 = some ⟨oc13, od13, .func (PySem.W.fnOf "_law_row" "_law_row" (defArgs d_law_row.st) (defBody d_law_row.st) (defScope d_law_row.st) .none kV13 dc13 pm13 an13 cd13 ct13), sl13⟩) (c13 : PySem.W.codeIn K cd13 "_law_row" = true) (k13 : PySem.W.keepIn K (.ref f13) = true)
    {f14 : Addr} {oc14 : Value} {od14 an14 : Option Addr} {sl14 : Array (Option Value)} {kV14 dc14 pm14 cd14 ct14 : Value} (a14 : PySem.W.nsIn K mainGlobals "_law_is_int" = some (some (.ref f14))) (l14 : K.lookup f14 = some ⟨oc14, od14, .func (PySem.W.fnOf "_law_is_int" "_law_is_int" (defArgs d_law_is_int.st) (defBody d_law_is_int.st) (defScope d_law_is_int.st) .none kV14 dc14 pm14 an14 cd14 ct14), sl14⟩) (c14 : PySem.W.codeIn K cd14 "_law_is_int" = true) (k14 : PySem.W.keepIn K (.ref f14) = true)
    {f15 : Addr} {oc15 : Value} {od15 an15 : Option Addr} {sl15 : Array (Option Value)} {kV15 dc15 pm15 cd15 ct15 : Value} (a15 : PySem.W.nsIn K mainGlobals "_law_like" = some (some (.ref f15))) (l15 : K.lookup f15 = some ⟨oc15, od15, .func (PySem.W.fnOf "_law_like" "_law_like" (defArgs d_law_like.st) (defBody d_law_like.st) (defScope d_law_like.st) .none kV15 dc15 pm15 an15 cd15 ct15), sl15⟩) (c15 : PySem.W.codeIn K cd15 "_law_like" = true) (k15 : PySem.W.keepIn K (.ref f15) = true)
    {f16 : Addr} {oc16 : Value} {od16 an16 : Option Addr} {sl16 : Array (Option Value)} {kV16 dc16 pm16 cd16 ct16 : Value} (a16 : PySem.W.nsIn K mainGlobals "_law_table" = some (some (.ref f16))) (l16 : K.lookup f16 = some ⟨oc16, od16, .func (PySem.W.fnOf "_law_table" "_law_table" (defArgs d_law_table.st) (defBody d_law_table.st) (defScope d_law_table.st) .none kV16 dc16 pm16 an16 cd16 ct16), sl16⟩) (c16 : PySem.W.codeIn K cd16 "_law_table" = true) (k16 : PySem.W.keepIn K (.ref f16) = true)
    {f17 : Addr} {oc17 : Value} {od17 an17 : Option Addr} {sl17 : Array (Option Value)} {kV17 dc17 pm17 cd17 ct17 : Value} (a17 : PySem.W.nsIn K mainGlobals "_law_steps" = some (some (.ref f17))) (l17 : K.lookup f17 = some ⟨oc17, od17, .func (PySem.W.fnOf "_law_steps" "_law_steps" (defArgs d_law_steps.st) (defBody d_law_steps.st) (defScope d_law_steps.st) .none kV17 dc17 pm17 an17 cd17 ct17), sl17⟩) (c17 : PySem.W.codeIn K cd17 "_law_steps" = true) (k17 : PySem.W.keepIn K (.ref f17) = true)
    {f18 : Addr} {oc18 : Value} {od18 an18 : Option Addr} {sl18 : Array (Option Value)} {kV18 dc18 pm18 cd18 ct18 : Value} (a18 : PySem.W.nsIn K mainGlobals "_law_end" = some (some (.ref f18))) (l18 : K.lookup f18 = some ⟨oc18, od18, .func (PySem.W.fnOf "_law_end" "_law_end" (defArgs d_law_end.st) (defBody d_law_end.st) (defScope d_law_end.st) .none kV18 dc18 pm18 an18 cd18 ct18), sl18⟩) (c18 : PySem.W.codeIn K cd18 "_law_end" = true) (k18 : PySem.W.keepIn K (.ref f18) = true)
    {f19 : Addr} {oc19 : Value} {od19 an19 : Option Addr} {sl19 : Array (Option Value)} {kV19 dc19 pm19 cd19 ct19 : Value} (a19 : PySem.W.nsIn K mainGlobals "_law_rings" = some (some (.ref f19))) (l19 : K.lookup f19 = some ⟨oc19, od19, .func (PySem.W.fnOf "_law_rings" "_law_rings" (defArgs d_law_rings.st) (defBody d_law_rings.st) (defScope d_law_rings.st) .none kV19 dc19 pm19 an19 cd19 ct19), sl19⟩) (c19 : PySem.W.codeIn K cd19 "_law_rings" = true) (k19 : PySem.W.keepIn K (.ref f19) = true)
    {f20 : Addr} {oc20 : Value} {od20 an20 : Option Addr} {sl20 : Array (Option Value)} {kV20 dc20 pm20 cd20 ct20 : Value} (a20 : PySem.W.nsIn K mainGlobals "_law_joined" = some (some (.ref f20))) (l20 : K.lookup f20 = some ⟨oc20, od20, .func (PySem.W.fnOf "_law_joined" "_law_joined" (defArgs d_law_joined.st) (defBody d_law_joined.st) (defScope d_law_joined.st) .none kV20 dc20 pm20 an20 cd20 ct20), sl20⟩) (c20 : PySem.W.codeIn K cd20 "_law_joined" = true) (k20 : PySem.W.keepIn K (.ref f20) = true)
    {f21 : Addr} {oc21 : Value} {od21 an21 : Option Addr} {sl21 : Array (Option Value)} {kV21 dc21 pm21 cd21 ct21 : Value} (a21 : PySem.W.nsIn K mainGlobals "_law_table_right" = some (some (.ref f21))) (l21 : K.lookup f21 = some ⟨oc21, od21, .func (PySem.W.fnOf "_law_table_right" "_law_table_right" (defArgs d_law_table_right.st) (defBody d_law_table_right.st) (defScope d_law_table_right.st) .none kV21 dc21 pm21 an21 cd21 ct21), sl21⟩) (c21 : PySem.W.codeIn K cd21 "_law_table_right" = true) (k21 : PySem.W.keepIn K (.ref f21) = true)
    {f22 : Addr} {oc22 : Value} {od22 an22 : Option Addr} {sl22 : Array (Option Value)} {kV22 dc22 pm22 cd22 ct22 : Value} (a22 : PySem.W.nsIn K mainGlobals "law" = some (some (.ref f22))) (l22 : K.lookup f22 = some ⟨oc22, od22, .func (PySem.W.fnOf "law" "law" (defArgs d_law.st) (defBody d_law.st) (defScope d_law.st) .none kV22 dc22 pm22 an22 cd22 ct22), sl22⟩) (c22 : PySem.W.codeIn K cd22 "law" = true) (k22 : PySem.W.keepIn K (.ref f22) = true)
    (z0 : PySem.W.nsIn K mainGlobals "len" = some none)
    (z1 : PySem.W.nsIn K mainGlobals "sum" = some none)
    (z2 : PySem.W.nsIn K mainGlobals "min" = some none)
    (z3 : PySem.W.nsIn K mainGlobals "max" = some none)
    (z4 : PySem.W.nsIn K mainGlobals "all" = some none)
    (z5 : PySem.W.nsIn K mainGlobals "any" = some none)
    (z6 : PySem.W.nsIn K mainGlobals "tuple" = some none)
    (z7 : PySem.W.nsIn K mainGlobals "list" = some none)
    (z8 : PySem.W.nsIn K mainGlobals "sorted" = some none)
    (z9 : PySem.W.nsIn K mainGlobals "int" = some none)
    (z10 : PySem.W.nsIn K mainGlobals "str" = some none)
    (z11 : PySem.W.nsIn K mainGlobals "abs" = some none)
    (z12 : PySem.W.nsIn K mainGlobals "bool" = some none)
    (z13 : PySem.W.nsIn K mainGlobals "reversed" = some none)
    (z14 : PySem.W.nsIn K mainGlobals "isinstance" = some none)
    (z15 : PySem.W.nsIn K mainGlobals "range" = some none)
    (z16 : PySem.W.nsIn K mainGlobals "enumerate" = some none)
    (z17 : PySem.W.nsIn K mainGlobals "zip" = some none)
    (z18 : PySem.W.nsIn K mainGlobals "set" = some none)
    {gt0 : Tok} (kg0 : PySem.W.nsIn K mainGlobals "MOST_SUBJECT" = some (some (.int 9 gt0))) :
    ∃ fd : FuncData, (∀ (s : Shared) (v : Value), BindsTo s fd ⟨[v], []⟩ [("script", v)]) ∧ ∀ base : Heap, K.In base → base.Ns mainGlobals mg → FnOk P w K mg base CX0 12 fa fd ["script"] (spF K (callF glob tbl 12) "law") := by
  have e := hfa.symm.trans (PySem.W.mg_of X G a22)
  cases e
  have i0 : DefIn K mg d_joined f0 _ := ⟨fun_mk (st := d_joined.st) l0 c0 k0, PySem.W.mg_of X G a0, (fun_mk (st := d_joined.st) l0 c0 k0).binds bd_joined⟩
  have i1 : DefIn K mg d_name_sets f1 _ := ⟨fun_mk (st := d_name_sets.st) l1 c1 k1, PySem.W.mg_of X G a1, (fun_mk (st := d_name_sets.st) l1 c1 k1).binds bd_name_sets⟩
  have i2 : DefIn K mg d_head_of f2 _ := ⟨fun_mk (st := d_head_of.st) l2 c2 k2, PySem.W.mg_of X G a2, (fun_mk (st := d_head_of.st) l2 c2 k2).binds bd_head_of⟩
  have i3 : DefIn K mg d_see_end f3 _ := ⟨fun_mk (st := d_see_end.st) l3 c3 k3, PySem.W.mg_of X G a3, (fun_mk (st := d_see_end.st) l3 c3 k3).binds bd_see_end⟩
  have i4 : DefIn K mg d_see_rings f4 _ := ⟨fun_mk (st := d_see_rings.st) l4 c4 k4, PySem.W.mg_of X G a4, (fun_mk (st := d_see_rings.st) l4 c4 k4).binds bd_see_rings⟩
  have i5 : DefIn K mg d_short_see f5 _ := ⟨fun_mk (st := d_short_see.st) l5 c5 k5, PySem.W.mg_of X G a5, (fun_mk (st := d_short_see.st) l5 c5 k5).binds bd_short_see⟩
  have i6 : DefIn K mg d_is_pair f6 _ := ⟨fun_mk (st := d_is_pair.st) l6 c6 k6, PySem.W.mg_of X G a6, (fun_mk (st := d_is_pair.st) l6 c6 k6).binds bd_is_pair⟩
  have i7 : DefIn K mg d_is_subjects f7 _ := ⟨fun_mk (st := d_is_subjects.st) l7 c7 k7, PySem.W.mg_of X G a7, (fun_mk (st := d_is_subjects.st) l7 c7 k7).binds bd_is_subjects⟩
  have i8 : DefIn K mg d_reach f8 _ := ⟨fun_mk (st := d_reach.st) l8 c8 k8, PySem.W.mg_of X G a8, (fun_mk (st := d_reach.st) l8 c8 k8).binds bd_reach⟩
  have i9 : DefIn K mg d_above_all f9 _ := ⟨fun_mk (st := d_above_all.st) l9 c9 k9, PySem.W.mg_of X G a9, (fun_mk (st := d_above_all.st) l9 c9 k9).binds bd_above_all⟩
  have i10 : DefIn K mg d_below_all f10 _ := ⟨fun_mk (st := d_below_all.st) l10 c10 k10, PySem.W.mg_of X G a10, (fun_mk (st := d_below_all.st) l10 c10 k10).binds bd_below_all⟩
  have i11 : DefIn K mg d_ways_up f11 _ := ⟨fun_mk (st := d_ways_up.st) l11 c11 k11, PySem.W.mg_of X G a11, (fun_mk (st := d_ways_up.st) l11 c11 k11).binds bd_ways_up⟩
  have i12 : DefIn K mg d_law_mixed f12 _ := ⟨fun_mk (st := d_law_mixed.st) l12 c12 k12, PySem.W.mg_of X G a12, (fun_mk (st := d_law_mixed.st) l12 c12 k12).binds bd_law_mixed⟩
  have i13 : DefIn K mg d_law_row f13 _ := ⟨fun_mk (st := d_law_row.st) l13 c13 k13, PySem.W.mg_of X G a13, (fun_mk (st := d_law_row.st) l13 c13 k13).binds bd_law_row⟩
  have i14 : DefIn K mg d_law_is_int f14 _ := ⟨fun_mk (st := d_law_is_int.st) l14 c14 k14, PySem.W.mg_of X G a14, (fun_mk (st := d_law_is_int.st) l14 c14 k14).binds bd_law_is_int⟩
  have i15 : DefIn K mg d_law_like f15 _ := ⟨fun_mk (st := d_law_like.st) l15 c15 k15, PySem.W.mg_of X G a15, (fun_mk (st := d_law_like.st) l15 c15 k15).binds bd_law_like⟩
  have i16 : DefIn K mg d_law_table f16 _ := ⟨fun_mk (st := d_law_table.st) l16 c16 k16, PySem.W.mg_of X G a16, (fun_mk (st := d_law_table.st) l16 c16 k16).binds bd_law_table⟩
  have i17 : DefIn K mg d_law_steps f17 _ := ⟨fun_mk (st := d_law_steps.st) l17 c17 k17, PySem.W.mg_of X G a17, (fun_mk (st := d_law_steps.st) l17 c17 k17).binds bd_law_steps⟩
  have i18 : DefIn K mg d_law_end f18 _ := ⟨fun_mk (st := d_law_end.st) l18 c18 k18, PySem.W.mg_of X G a18, (fun_mk (st := d_law_end.st) l18 c18 k18).binds bd_law_end⟩
  have i19 : DefIn K mg d_law_rings f19 _ := ⟨fun_mk (st := d_law_rings.st) l19 c19 k19, PySem.W.mg_of X G a19, (fun_mk (st := d_law_rings.st) l19 c19 k19).binds bd_law_rings⟩
  have i20 : DefIn K mg d_law_joined f20 _ := ⟨fun_mk (st := d_law_joined.st) l20 c20 k20, PySem.W.mg_of X G a20, (fun_mk (st := d_law_joined.st) l20 c20 k20).binds bd_law_joined⟩
  have i21 : DefIn K mg d_law_table_right f21 _ := ⟨fun_mk (st := d_law_table_right.st) l21 c21 k21, PySem.W.mg_of X G a21, (fun_mk (st := d_law_table_right.st) l21 c21 k21).binds bd_law_table_right⟩
  have i22 : DefIn K mg d_law fa _ := ⟨fun_mk (st := d_law.st) l22 c22 k22, PySem.W.mg_of X G a22, (fun_mk (st := d_law.st) l22 c22 k22).binds bd_law⟩
  have hD : ∀ d ∈ tbl, d.chk = true ∧ ∃ a fd, DefIn K mg d a fd := by
    intro d hd
    simp only [tbl, List.mem_cons, List.not_mem_nil, or_false] at hd
    rcases hd with rfl | rfl | rfl | rfl | rfl | rfl | rfl | rfl | rfl | rfl | rfl | rfl | rfl | rfl | rfl | rfl | rfl | rfl | rfl | rfl | rfl | rfl | rfl
    · exact ⟨chk_joined, _, _, i0⟩
    · exact ⟨chk_name_sets, _, _, i1⟩
    · exact ⟨chk_head_of, _, _, i2⟩
    · exact ⟨chk_see_end, _, _, i3⟩
    · exact ⟨chk_see_rings, _, _, i4⟩
    · exact ⟨chk_short_see, _, _, i5⟩
    · exact ⟨chk_is_pair, _, _, i6⟩
    · exact ⟨chk_is_subjects, _, _, i7⟩
    · exact ⟨chk_reach, _, _, i8⟩
    · exact ⟨chk_above_all, _, _, i9⟩
    · exact ⟨chk_below_all, _, _, i10⟩
    · exact ⟨chk_ways_up, _, _, i11⟩
    · exact ⟨chk_law_mixed, _, _, i12⟩
    · exact ⟨chk_law_row, _, _, i13⟩
    · exact ⟨chk_law_is_int, _, _, i14⟩
    · exact ⟨chk_law_like, _, _, i15⟩
    · exact ⟨chk_law_table, _, _, i16⟩
    · exact ⟨chk_law_steps, _, _, i17⟩
    · exact ⟨chk_law_end, _, _, i18⟩
    · exact ⟨chk_law_rings, _, _, i19⟩
    · exact ⟨chk_law_joined, _, _, i20⟩
    · exact ⟨chk_law_table_right, _, _, i21⟩
    · exact ⟨chk_law, _, _, i22⟩
  have hI : ∀ d ∈ tbl, ∀ p ∈ d.im, mg p.1 = some (.builtin p.2) := by
    intro d hd p hp
    simp only [tbl, List.mem_cons, List.not_mem_nil, or_false] at hd
    rcases hd with rfl | rfl | rfl | rfl | rfl | rfl | rfl | rfl | rfl | rfl | rfl | rfl | rfl | rfl | rfl | rfl | rfl | rfl | rfl | rfl | rfl | rfl | rfl
    · cases hp
    · cases hp
    · cases hp
    · cases hp
    · cases hp
    · cases hp
    · cases hp
    · cases hp
    · cases hp
    · cases hp
    · cases hp
    · cases hp
    · cases hp
    · cases hp
    · cases hp
    · cases hp
    · cases hp
    · cases hp
    · cases hp
    · cases hp
    · cases hp
    · cases hp
    · cases hp
  refine ⟨_, fun s v => .of_eq (bd_law _ _ _ _ _ _ [v] rfl), fun base _ _ => fn_all (d := d_law) (G := glob) (glob_ok X G kg0) (bltn_mk (PySem.W.mg_none_of X G z0) (PySem.W.mg_none_of X G z1) (PySem.W.mg_none_of X G z2) (PySem.W.mg_none_of X G z3) (PySem.W.mg_none_of X G z4) (PySem.W.mg_none_of X G z5) (PySem.W.mg_none_of X G z6) (PySem.W.mg_none_of X G z7) (PySem.W.mg_none_of X G z8) (PySem.W.mg_none_of X G z9) (PySem.W.mg_none_of X G z10) (PySem.W.mg_none_of X G z11) (PySem.W.mg_none_of X G z12) (PySem.W.mg_none_of X G z13) (PySem.W.mg_none_of X G z14) (PySem.W.mg_none_of X G z15) (PySem.W.mg_none_of X G z16) (PySem.W.mg_none_of X G z17) (PySem.W.mg_none_of X G z18)) hD hI 12 "law" rfl _ _ i22⟩
end K64
open PySem PySem.W PyProof.Rows
set_option maxHeartbeats 0 in
theorem PySem.Challenge.cw_lentkept_k64_whole_names_seen_round_holds : PySem.Challenge.rw_lentkept_k64_whole_names_seen_round.Holds := by
  w_on; o_law; k_head; (case hw => w_witness2)
  k_fill
  refine L2.walk_ofK (l := PySem.Challenge.rw_lentkept_k64_whole_names_seen_round) (n := 63) (k := 12) (x := "script") (CX := L2.CX0) (sp := fun K => Pz.spF K (Pz.callF K64.glob K64.tbl 12) "law") rfl (by decide) rfl ⟨rfl, by decide, by decide⟩ (fun w h Y => PySem.W.kIn_of Y) ?F (fun K H a ns hl _ hS => Pz.law_sp K64.law_true K H a ns hl hS) (fun _ _ _ _ h => h)
  case F =>
    intro w mg fa h KX G hmg
    refine' K64.all_mk KX G hmg ?a0 ?l0 ?c0 ?k0 ?a1 ?l1 ?c1 ?k1 ?a2 ?l2 ?c2 ?k2 ?a3 ?l3 ?c3 ?k3 ?a4 ?l4 ?c4 ?k4 ?a5 ?l5 ?c5 ?k5 ?a6 ?l6 ?c6 ?k6 ?a7 ?l7 ?c7 ?k7 ?a8 ?l8 ?c8 ?k8 ?a9 ?l9 ?c9 ?k9 ?a10 ?l10 ?c10 ?k10 ?a11 ?l11 ?c11 ?k11 ?a12 ?l12 ?c12 ?k12 ?a13 ?l13 ?c13 ?k13 ?a14 ?l14 ?c14 ?k14 ?a15 ?l15 ?c15 ?k15 ?a16 ?l16 ?c16 ?k16 ?a17 ?l17 ?c17 ?k17 ?a18 ?l18 ?c18 ?k18 ?a19 ?l19 ?c19 ?k19 ?a20 ?l20 ?c20 ?k20 ?a21 ?l21 ?c21 ?k21 ?a22 ?l22 ?c22 ?k22 ?z0 ?z1 ?z2 ?z3 ?z4 ?z5 ?z6 ?z7 ?z8 ?z9 ?z10 ?z11 ?z12 ?z13 ?z14 ?z15 ?z16 ?z17 ?z18 ?kg0
    (case a0 => k_is)
    (case l0 => k_is)
    (case c0 => k_is)
    (case k0 => k_is)
    (case a1 => k_is)
    (case l1 => k_is)
    (case c1 => k_is)
    (case k1 => k_is)
    (case a2 => k_is)
    (case l2 => k_is)
    (case c2 => k_is)
    (case k2 => k_is)
    (case a3 => k_is)
    (case l3 => k_is)
    (case c3 => k_is)
    (case k3 => k_is)
    (case a4 => k_is)
    (case l4 => k_is)
    (case c4 => k_is)
    (case k4 => k_is)
    (case a5 => k_is)
    (case l5 => k_is)
    (case c5 => k_is)
    (case k5 => k_is)
    (case a6 => k_is)
    (case l6 => k_is)
    (case c6 => k_is)
    (case k6 => k_is)
    (case a7 => k_is)
    (case l7 => k_is)
    (case c7 => k_is)
    (case k7 => k_is)
    (case a8 => k_is)
    (case l8 => k_is)
    (case c8 => k_is)
    (case k8 => k_is)
    (case a9 => k_is)
    (case l9 => k_is)
    (case c9 => k_is)
    (case k9 => k_is)
    (case a10 => k_is)
    (case l10 => k_is)
    (case c10 => k_is)
    (case k10 => k_is)
    (case a11 => k_is)
    (case l11 => k_is)
    (case c11 => k_is)
    (case k11 => k_is)
    (case a12 => k_is)
    (case l12 => k_is)
    (case c12 => k_is)
    (case k12 => k_is)
    (case a13 => k_is)
    (case l13 => k_is)
    (case c13 => k_is)
    (case k13 => k_is)
    (case a14 => k_is)
    (case l14 => k_is)
    (case c14 => k_is)
    (case k14 => k_is)
    (case a15 => k_is)
    (case l15 => k_is)
    (case c15 => k_is)
    (case k15 => k_is)
    (case a16 => k_is)
    (case l16 => k_is)
    (case c16 => k_is)
    (case k16 => k_is)
    (case a17 => k_is)
    (case l17 => k_is)
    (case c17 => k_is)
    (case k17 => k_is)
    (case a18 => k_is)
    (case l18 => k_is)
    (case c18 => k_is)
    (case k18 => k_is)
    (case a19 => k_is)
    (case l19 => k_is)
    (case c19 => k_is)
    (case k19 => k_is)
    (case a20 => k_is)
    (case l20 => k_is)
    (case c20 => k_is)
    (case k20 => k_is)
    (case a21 => k_is)
    (case l21 => k_is)
    (case c21 => k_is)
    (case k21 => k_is)
    (case a22 => k_is)
    (case l22 => k_is)
    (case c22 => k_is)
    (case k22 => k_is)
    (case z0 => k_is)
    (case z1 => k_is)
    (case z2 => k_is)
    (case z3 => k_is)
    (case z4 => k_is)
    (case z5 => k_is)
    (case z6 => k_is)
    (case z7 => k_is)
    (case z8 => k_is)
    (case z9 => k_is)
    (case z10 => k_is)
    (case z11 => k_is)
    (case z12 => k_is)
    (case z13 => k_is)
    (case z14 => k_is)
    (case z15 => k_is)
    (case z16 => k_is)
    (case z17 => k_is)
    (case z18 => k_is)
    (case kg0 => k_is)
