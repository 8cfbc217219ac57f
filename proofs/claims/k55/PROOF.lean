import PyProof.Rows.All
import Wide.All
import OpenK.AllK
import Wide.FinOn
import HandS.ForMost
import HandS.IsInst
import HandS.Flow
import HandS.Conv
import HandS.Zip
import HandS.Deep
import HandS.TupAny
import KE.SortData
import KE.DatumOrd
import KE.DatumMore
import KE.DataEq
import KE.DataCmp
import KE.DataMinMax
import KE.DataFind
import KE.DataIsa
import KE.KTupSum
import KE.KMathGC
import HandS.Gcd
import HandS.TupMul
import HandS.SortKw
import HandS.TupLe
import KE.GoesEnum
import HandS.Style
import PySem.Challenge.RW_lentkept_k55_whole_torn_held_and_mended
set_option Elab.async false
set_option linter.all false
set_option maxRecDepth 100000
/-! Pz: a pure evaluator for the plain part of the language, its own small syntax, and the check that it is the model's. -/
namespace Pz
open PySem

abbrev PV := PyData
/-- no list, tuple or text of the evaluator grows beyond this -/
abbrev LIM : Nat := 1000000

/-- a value, and whether it is a list just made -/
structure RV where
  v : PV
  fr : Bool
/-- what only one name has: a list, a dict -/
inductive Oc where
  | l (xs : List PV) | d (kvs : List (L2.Key × PV))
inductive Sl where
  | no | val (v : PV) | obj (o : Oc)
abbrev Sl.own (xs : List PV) : Sl := .obj (.l xs)
abbrev Sl.dic (kvs : List (L2.Key × PV)) : Sl := .obj (.d kvs)
abbrev En := List Sl

inductive Op2 where
  | add | sub | mul | fdiv | mod | pow | shl
  deriving DecidableEq
inductive Cm where
  | eq | ne | lt | le | gt | ge | isIn | notIn
  deriving DecidableEq
inductive Bl where
  | len | sum | min | max | all | any | tuple | list | sorted | int | str | abs | bool | reversed
  deriving DecidableEq
/-- classes of isinstance -/
inductive Ty where
  | int | bool | str | tuple | list
  deriving DecidableEq

mutual
inductive Tg where
  | nm (i : Nat) | tp (ts : Tgs)
inductive Tgs where
  | nil | cons (t : Tg) (ts : Tgs)
end

mutual
def Tg.slots : Tg → List Nat
  | .nm i => [i]
  | .tp ts => ts.slots
def Tgs.slots : Tgs → List Nat
  | .nil => []
  | .cons t ts => t.slots ++ ts.slots
end

mutual
inductive Tx where
  | var (i : Nat)
  | glob (x : Str)
  | non | bl (b : Bool) | int (i : Int) | str (x : Str)
  | bin (o : Op2) (a b : Tx)
  | neg (a : Tx) | not (a : Tx)
  | cmp (o : Cm) (a b : Tx) | isN (a : Tx) | notN (a : Tx) | isB (a : Tx) (b : Bool)
  | chain (o o' : Cm) (a b c : Tx)
  | and (a b : Tx) | or (a b : Tx)
  | ife (c a b : Tx)
  | tup (es : Txs) | lst (es : Txs)
  | idx (a b : Tx)
  | cut (a : Tx) (lo hi : To)
  | call (f : Str) (es : Txs)
  | blt (b : Bl) (es : Txs)
  | isi (a : Tx) (t : Ty)
  | best (b : Bool) (a d : Tx)
  | comb (a b : Tx)
  /-- d[k], d.get(k, e), d.get(k), k in d (b: not in): of a name's own dict -/
  | dget (i : Nat) (k : Tx) | dgetd (i : Nat) (k e : Tx) | dget1 (i : Nat) (k : Tx) | din (b : Bool) (i : Nat) (k : Tx)
  | comp (elt : Tx) (tg : Tg) (it : Ti) (ifs : Txs) (own : List (Str × Nat))
  | comp2 (elt : Tx) (tg : Tg) (it : Ti) (ifs : Txs) (tg1 : Tg) (it1 : Ti) (ifs1 : Txs) (own : List (Str × Nat)) (own1 : List Nat)
inductive Txs where
  | nil | cons (e : Tx) (es : Txs)
inductive To where
  | no | so (e : Tx)
inductive Ti where
  | seq (e : Tx)
  | rng1 (e : Tx) | rng2 (a b : Tx)
  | enum (e : Tx) | zip (a b : Tx)
end

/-- keys of dicts -/
def keyO : PV → Option L2.Key
  | .int i => some (.inl i)
  | .str s => some (.inr s)
  | _ => none
/-- what a key has -/
def lkp (kvs : List (L2.Key × PV)) (k : L2.Key) : Option PV := (kvs.find? fun kv => decide (kv.1 = k)).map (·.2)
def putP (kvs : List (L2.Key × PV)) (k : L2.Key) (v : PV) : List (L2.Key × PV) :=
  if (kvs.any fun kv => decide (kv.1 = k)) = true then kvs.map (fun kv => if kv.1 = k then (kv.1, v) else kv) else kvs ++ [(k, v)]
/-- a name's own dict at a key -/
def dAt (ρ : En) (i : Nat) (y : PV) : Option (Option PV) := match ρ[i]?, keyO y with
  | some (.obj (.d kvs)), some k => some (lkp kvs k)
  | _, _ => none
def slotR (ρ : En) (i : Nat) : Option PV := match ρ[i]? with
  | some (.obj (.l ds)) => some (.list ds)
  | some (.val v) => some v
  | _ => none
/-- read: a name's own list may be looked at -/
def rd (p : Tx) (r : Option RV) (ρ : En) : Option PV := match p with
  | .var i => slotR ρ i
  | _ => r.map (·.v)

/-- .. or not (b) -/
def rdS (b : Bool) (p : Tx) (r : Option RV) (ρ : En) : Option PV := if b then r.map (·.v) else rd p r ρ

def truth : PV → Option Bool
  | .none => some false
  | .bool b => some b
  | .int i => some (i != 0)
  | .str s => if s.length ≤ LIM then some (s.length != 0) else none
  | .list xs => some (!xs.isEmpty)
  | .tuple xs => some (!xs.isEmpty)
  | .dict _ => none

open PySem.W (alike dataLt minD maxD dataLe)
/-- plain data, not too deep -/
def okD (d : PV) : Bool := d.plain && decide (d.depth ≤ 60)
def okL (ds : List PV) : Bool := PyData.plainAll ds && decide (PyData.depthAll ds ≤ 60)
def isNone : PV → Bool
  | .none => true
  | _ => false
def peq (x y : PV) : Option Bool := if okD x && okD y then some (PyData.eqv x y) else none
def items : PV → Option (List PV)
  | .list xs => some xs
  | .tuple xs => some xs
  | _ => none
def pin (x : PV) (y : PV) : Option Bool := do
  let xs ← items y
  if okD x && okL xs then some (xs.any fun z => PyData.eqv z x) else none
/-- x < y, for data that can be compared -/
def plt (x y : PV) : Option Bool := if okD x && okD y && alike x y && !isNone x then some (dataLt x y) else none

def evCmp : Cm → PV → PV → Option Bool
  | .eq, x, y => peq x y
  | .ne, x, y => (peq x y).map (!·)
  | .isIn, x, y => pin x y
  | .notIn, x, y => (pin x y).map (!·)
  | .lt, x, y => match x, y with
    | .int a, .int b => some (decide (a < b))
    | x, y => plt x y
  | .le, x, y => match x, y with
    | .int a, .int b => some (decide (a ≤ b))
    | x, y => (plt y x).map (!·)
  | .gt, x, y => match x, y with
    | .int a, .int b => some (decide (b < a))
    | x, y => plt y x
  | .ge, x, y => match x, y with
    | .int a, .int b => some (decide (b ≤ a))
    | x, y => (plt x y).map (!·)

def evBin : Op2 → PV → PV → Option RV
  | .add, .int a, .int b => some ⟨.int (a + b), false⟩
  | .add, .str a, .str b => if a.length + b.length ≤ LIM then some ⟨.str (a ++ b), false⟩ else none
  | .add, .tuple a, .tuple b => if a.length + b.length ≤ LIM then some ⟨.tuple (a ++ b), false⟩ else none
  | .add, .list a, .list b => if a.length + b.length ≤ LIM then some ⟨.list (a ++ b), true⟩ else none
  | .sub, .int a, .int b => some ⟨.int (a - b), false⟩
  | .mul, .int a, .int b => if a.natAbs < 18446744073709551616 || b.natAbs < 18446744073709551616 then some ⟨.int (a * b), false⟩ else none
  | .mul, .list xs, .int k => if 0 ≤ k && k ≤ 1000 && decide (xs.length ≤ 1000) then some ⟨.list (List.replicate k.toNat xs).flatten, true⟩ else none
  | .mul, .tuple xs, .int k => if 1 ≤ k && k ≤ 1000 && !xs.isEmpty && decide (xs.length ≤ 1000) then some ⟨.tuple (List.replicate k.toNat xs).flatten, false⟩ else none
  | .fdiv, .int a, .int b => if 0 < b && decide (b < 1073741824) then some ⟨.int (a / b), false⟩ else none
  | .mod, .int a, .int b => if 0 < b then some ⟨.int (a % b), false⟩ else none
  | .pow, .int a, .int b => if 0 ≤ b && b ≤ 100000 && a.natAbs < 18446744073709551616 then some ⟨.int (a ^ b.toNat), false⟩ else none
  | .shl, .int a, .int b => if 0 ≤ b && b ≤ 100000 && a.natAbs < 18446744073709551616 then some ⟨.int (a * 2 ^ b.toNat), false⟩ else none
  | _, _, _ => none

/-- the place of an index -/
def ixOf (n : Nat) (i : Int) : Option Nat := if 0 ≤ i then (if i < n then some i.toNat else none) else if -(n : Int) ≤ i then some (i + n).toNat else none
def evIdx : PV → PV → Option PV
  | .list xs, .int i => (ixOf xs.length i).bind (xs[·]?)
  | .tuple xs, .int i => (ixOf xs.length i).bind (xs[·]?)
  | .str s, .int i => if s.length ≤ LIM then ((ixOf s.length i).bind (s.cps.toList[·]?)).map fun c => .str ⟨#[c]⟩ else none
  | _, _ => none
def cutL {α : Type} (xs : List α) (lo hi : Option Int) : List α := (xs.drop (HT.sIx xs.length 0 lo)).take (HT.sIx xs.length xs.length hi - HT.sIx xs.length 0 lo)
def evCut : PV → Option Int → Option Int → Option RV
  | .list xs, lo, hi => some ⟨.list (cutL xs lo hi), true⟩
  | .tuple xs, lo, hi => some ⟨.tuple (cutL xs lo hi), false⟩
  | .str s, lo, hi => if s.length ≤ LIM then some ⟨.str (L2.cutS s lo hi), false⟩ else none
  | _, _, _ => none

def intsO : List PV → Option (List Int)
  | [] => some []
  | .int i :: r => (intsO r).map (i :: ·)
  | _ => none
def boolsO : List PV → Option (List Bool)
  | [] => some []
  | .bool i :: r => (boolsO r).map (i :: ·)
  | _ => none

/-- put into a row in order, ahead of those that it is not above -/
def insB {α : Type} (le : α → α → Bool) (x : α) : List α → List α
  | [] => [x]
  | y :: r => if le x y then x :: y :: r else y :: insB le x r
def sortB {α : Type} (le : α → α → Bool) (xs : List α) : List α := xs.foldr (insB le) []
def alikeB (ds : List PV) : Bool := ds.all fun x => ds.all fun y => alike x y
def isTup1 : PV → Bool
  | .tuple (_ :: _) => true
  | _ => false
def noTup : PV → Bool
  | .tuple _ => false
  | .none => false
  | _ => true
def canSort (ds : List PV) : Bool := okL ds && alikeB ds && (ds.all isTup1 || ds.all noTup)
/-- the least (b: the greatest) one, the first of several -/
def bestB (b : Bool) (ds : List PV) : Option PV := match ds with
  | [] => none
  | x :: r => if okL ds && alikeB ds && ds.all (fun y => !isNone y) then some (if b then maxD x r else minD x r) else none

def evBlt : Bl → List PV → Option RV
  | .len, [.list xs] => some ⟨.int xs.length, false⟩
  | .len, [.tuple xs] => some ⟨.int xs.length, false⟩
  | .len, [.str s] => if s.length ≤ LIM then some ⟨.int s.length, false⟩ else none
  | .sum, [.list xs] => (intsO xs).map fun is => ⟨.int is.sum, false⟩
  | .sum, [.tuple xs] => (intsO xs).map fun is => ⟨.int is.sum, false⟩
  | .all, [.list xs] => (boolsO xs).map fun bs => ⟨.bool (bs.all id), false⟩
  | .any, [.list xs] => (boolsO xs).map fun bs => ⟨.bool (bs.any id), false⟩
  | .tuple, [.list xs] => some ⟨.tuple xs, false⟩
  | .tuple, [.tuple xs] => some ⟨.tuple xs, false⟩
  | .list, [.list xs] => some ⟨.list xs, true⟩
  | .list, [.tuple xs] => some ⟨.list xs, true⟩
  | .int, [.int i] => some ⟨.int i, false⟩
  | .int, [.bool b] => some ⟨.int (if b then 1 else 0), false⟩
  | .abs, [.int i] => some ⟨.int (if i < 0 then -i else i), false⟩
  | .min, [.int i, .int j] => some ⟨.int (if j < i then j else i), false⟩
  | .max, [.int i, .int j] => some ⟨.int (if j > i then j else i), false⟩
  | .sorted, [.list xs] => if canSort xs then some ⟨.list (sortB (dataLe false id) xs), true⟩ else none
  | .min, [.list xs] => (bestB false xs).map (⟨·, false⟩)
  | .max, [.list xs] => (bestB true xs).map (⟨·, false⟩)
  | _, _ => none

/-- .. with a default -/
def evBest (b : Bool) (x y : PV) : Option RV := match x with
  | .list [] => some ⟨y, false⟩
  | .list xs => (bestB b xs).map (⟨·, false⟩)
  | _ => none
/-- math.comb -/
def evComb : PV → PV → Option RV
  | .int i, .int j => if 0 ≤ i && 0 ≤ j && decide (i ≤ 18000) then some ⟨.int (PySem.W.mcComb i j), false⟩ else none
  | _, _ => none
def isiB : PV → Ty → Option Bool
  | .none, _ => some false
  | .bool _, .int => some true
  | .bool _, .bool => some true
  | .bool _, _ => some false
  | .int _, .int => some true
  | .int _, _ => some false
  | .str _, .str => some true
  | .str _, _ => some false
  | .tuple _, .tuple => some true
  | .tuple _, _ => some false
  | .list _, .list => some true
  | .list _, _ => some false
  | .dict _, _ => none

mutual
/-- a value goes to a target -/
def asg : Tg → PV → En → Option En
  | .nm i, v, ρ => some (ρ.set i (.val v))
  | .tp ts, .tuple vs, ρ => asgs ts vs ρ
  | _, _, _ => none
def asgs : Tgs → List PV → En → Option En
  | .nil, [], ρ => some ρ
  | .cons t ts, v :: vs, ρ => (asg t v ρ).bind (asgs ts vs)
  | _, _, _ => none
end
def wipeS (ρ : En) : List Nat → En
  | [] => ρ
  | i :: r => (wipeS ρ r).set i .no
def rngL (lo : Int) (n : Nat) : List PV := (List.range n).map fun i => .int (lo + (i : Nat))
def enumL (xs : List PV) : List PV := xs.zipIdx.map fun p => .tuple [.int (p.2 : Nat), p.1]
def zipL (xs ys : List PV) : List PV := (xs.zip ys).map fun p => .tuple [p.1, p.2]
def compL (f : PV → Option (List PV)) : List PV → Option (List PV)
  | [] => some []
  | x :: r => do
    let y ← f x
    let ys ← compL f r
    some (y ++ ys)

section
variable (C : Str → List PV → Option RV) (G : Str → Option PV)
mutual
def evE : Tx → En → Option RV
  | .var i, ρ => match ρ[i]? with
    | some (.val v) => some ⟨v, false⟩
    | _ => none
  | .glob x, _ => (G x).map (⟨·, false⟩)
  | .non, _ => some ⟨.none, false⟩
  | .bl b, _ => some ⟨.bool b, false⟩
  | .int i, _ => some ⟨.int i, false⟩
  | .str x, _ => some ⟨.str x, false⟩
  | .bin o a b, ρ => do
    let x ← rd a (evE a ρ) ρ
    let y ← rd b (evE b ρ) ρ
    evBin o x y
  | .neg a, ρ => do
    match ← rd a (evE a ρ) ρ with
    | .int i => some ⟨.int (-i), false⟩
    | _ => none
  | .not a, ρ => do
    let x ← rd a (evE a ρ) ρ
    (truth x).map fun b => ⟨.bool (!b), false⟩
  | .cmp o a b, ρ => do
    let x ← rd a (evE a ρ) ρ
    let y ← rd b (evE b ρ) ρ
    (evCmp o x y).map fun c => ⟨.bool c, false⟩
  | .isN a, ρ => do
    let x ← rd a (evE a ρ) ρ
    some ⟨.bool (isNone x), false⟩
  | .notN a, ρ => do
    let x ← rd a (evE a ρ) ρ
    some ⟨.bool (!isNone x), false⟩
  | .isB a b, ρ => do
    match ← rd a (evE a ρ) ρ with
    | .bool c => some ⟨.bool (decide (c = b)), false⟩
    | _ => none
  | .chain o o' a b c, ρ => do
    let x ← rd a (evE a ρ) ρ
    let y ← rd b (evE b ρ) ρ
    let k ← evCmp o x y
    if k then do
      let z ← rd c (evE c ρ) ρ
      (evCmp o' y z).map fun c => ⟨.bool c, false⟩
    else some ⟨.bool false, false⟩
  | .and a b, ρ => do
    let x ← rd a (evE a ρ) ρ
    let k ← truth x
    if k then evE b ρ else evE a ρ
  | .or a b, ρ => do
    let x ← rd a (evE a ρ) ρ
    let k ← truth x
    if k then evE a ρ else evE b ρ
  | .ife c a b, ρ => do
    let x ← rd c (evE c ρ) ρ
    let k ← truth x
    if k then evE a ρ else evE b ρ
  | .tup es, ρ => (evA es ρ).map fun vs => ⟨.tuple vs, false⟩
  | .lst es, ρ => (evA es ρ).map fun vs => ⟨.list vs, true⟩
  | .idx a b, ρ => do
    let x ← rd a (evE a ρ) ρ
    let y ← rd b (evE b ρ) ρ
    (evIdx x y).map (⟨·, false⟩)
  | .cut a lo hi, ρ => do
    let x ← rd a (evE a ρ) ρ
    let l ← evO lo ρ
    let h ← evO hi ρ
    evCut x l h
  | .call f es, ρ => do
    let vs ← evA es ρ
    C f vs
  | .blt b es, ρ => do
    let vs ← evR es ρ
    evBlt b vs
  | .isi a t, ρ => do
    let x ← rd a (evE a ρ) ρ
    (isiB x t).map fun c => ⟨.bool c, false⟩
  | .best b a d, ρ => do
    let x ← rd a (evE a ρ) ρ
    let y ← evE d ρ
    evBest b x y.v
  | .comb a b, ρ => do
    let x ← rd a (evE a ρ) ρ
    let y ← rd b (evE b ρ) ρ
    evComb x y
  | .dget i k, ρ => do
    let y ← rd k (evE k ρ) ρ
    let o ← dAt ρ i y
    o.map (⟨·, false⟩)
  | .dgetd i k e, ρ => do
    let y ← rd k (evE k ρ) ρ
    let z ← evE e ρ
    let o ← dAt ρ i y
    some ⟨o.getD z.v, false⟩
  | .dget1 i k, ρ => do
    let y ← rd k (evE k ρ) ρ
    let o ← dAt ρ i y
    some ⟨o.getD .none, false⟩
  | .din b i k, ρ => do
    let y ← rd k (evE k ρ) ρ
    let o ← dAt ρ i y
    some ⟨.bool (o.isSome != b), false⟩
  | .comp elt tg it ifs own, ρ => do
    let xs ← evI false it ρ
    let ys ← compL (fun x => do
      let ρ1 ← asg tg x (wipeS ρ (own.map (·.2)))
      let k ← evF ifs ρ1
      if k then (evE elt ρ1).map fun r => [r.v] else some []) xs
    some ⟨.list ys, true⟩
  | .comp2 elt tg it ifs tg1 it1 ifs1 own own1, ρ => do
    let xs ← evI false it ρ
    let ys ← compL (fun x => do
      let ρ1 ← asg tg x (wipeS ρ (own.map (·.2)))
      let k ← evF ifs ρ1
      if k then do
        let xs1 ← evI true it1 ρ1
        compL (fun x1 => do
          let ρ2 ← asg tg1 x1 (wipeS ρ1 own1)
          let k1 ← evF ifs1 ρ2
          if k1 then (evE elt ρ2).map fun r => [r.v] else some []) xs1
      else some []) xs
    if ys.length ≤ LIM then some ⟨.list ys, true⟩ else none
/-- arguments that are handed on -/
def evA : Txs → En → Option (List PV)
  | .nil, _ => some []
  | .cons e es, ρ => do
    let r ← evE e ρ
    let vs ← evA es ρ
    some (r.v :: vs)
/-- arguments that are looked at -/
def evR : Txs → En → Option (List PV)
  | .nil, _ => some []
  | .cons e es, ρ => do
    let r ← rd e (evE e ρ) ρ
    let vs ← evR es ρ
    some (r :: vs)
/-- tests, all must hold -/
def evF : Txs → En → Option Bool
  | .nil, _ => some true
  | .cons e es, ρ => do
    let x ← rd e (evE e ρ) ρ
    let k ← truth x
    if k then evF es ρ else some false
def evO : To → En → Option (Option Int)
  | .no, _ => some none
  | .so e, ρ => do
    match ← rd e (evE e ρ) ρ with
    | .int i => some (some i)
    | _ => none
/-- what is walked (b: it may change meanwhile) -/
def evI (b : Bool) : Ti → En → Option (List PV)
  | .seq e, ρ => do
    match ← rdS b e (evE e ρ) ρ with
    | .list xs => some xs
    | .tuple xs => some xs
    | .str s => if s.length ≤ LIM then some (s.cps.toList.map fun c => .str ⟨#[c]⟩) else none
    | _ => none
  | .rng1 e, ρ => do
    match ← rd e (evE e ρ) ρ with
    | .int n => if n.natAbs ≤ LIM then some (rngL 0 n.toNat) else none
    | _ => none
  | .rng2 a c, ρ => do
    let x ← rd a (evE a ρ) ρ
    let y ← rd c (evE c ρ) ρ
    match x, y with
    | .int i, .int j => if i.natAbs ≤ LIM && j.natAbs ≤ LIM then some (rngL i (j - i).toNat) else none
    | _, _ => none
  | .enum e, ρ => do
    let x ← rdS b e (evE e ρ) ρ
    (items x).map enumL
  | .zip a c, ρ => do
    let x ← rdS b a (evE a ρ) ρ
    let y ← rdS b c (evE c ρ) ρ
    match x, y with
    | .list xs, .list ys => some (zipL xs ys)
    | .tuple xs, .tuple ys => some (zipL xs ys)
    | _, _ => none
end
end
end Pz
set_option Elab.async false
set_option linter.all false
set_option maxRecDepth 100000
/-! Pz: the check that a piece of the own syntax is the model's. -/
namespace Pz
open PySem L2

/-- where a piece stands: the names by slot, the scope, the names that may be stored -/
structure CI where
  N : List Str
  sc : Scope
  st : Str → Bool
  /-- names that an import binds to a built-in -/
  im : List (Str × String)

def knd (ci : CI) (x : Str) : Option NameKind := ci.sc.names.lookup x
def visB (ci : CI) (x : Str) : Bool := match knd ci x with
  | some .local => true
  | some .cell => true
  | some .free => true
  | _ => false
def locB (ci : CI) (x : Str) : Bool := match knd ci x with
  | some .local => true
  | some .cell => true
  | _ => false
def glB (ci : CI) (x : Str) : Bool := match knd ci x with
  | some .globalImplicit => true
  | _ => false
def okName (x : Str) : Bool := !(x == ("__debug__" : Str)) && !(x == ("__classdict__" : Str)) && !(decide (x = ("__name__" : Str)))
def noStar : Expr → Bool
  | .Starred .. => false
  | _ => true
def noStars (es : List Expr) : Bool := es.all noStar
/-- an index that is no slice -/
def plainIx : Expr → Bool
  | .Slice .. => false
  | .Constant .. => true
  | .Name .. => true
  | .BinOp .. => true
  | .UnaryOp .. => true
  | .Call .. => true
  | .Subscript .. => true
  | .IfExp .. => true
  | _ => false
/-- an expression whose test is the truth of its value -/
def plainT : Expr → Bool
  | .Name .. => true
  | .Call .. => true
  | .Subscript .. => true
  | .Attribute .. => true
  | .BinOp .. => true
  | .ListComp .. => true
  | .List .. => true
  | .Tuple .. => true
  | _ => false
def noSet : Expr → Bool
  | .Set .. => false
  | _ => true
def cmOp : Cm → CmpOp
  | .eq => .Eq | .ne => .NotEq | .lt => .Lt | .le => .LtE | .gt => .Gt | .ge => .GtE | .isIn => .In | .notIn => .NotIn
def opOp : Op2 → Operator
  | .add => .Add | .sub => .Sub | .mul => .Mult | .fdiv => .FloorDiv | .mod => .Mod | .pow => .Pow | .shl => .LShift
def blName : Bl → Str
  | .len => "len" | .sum => "sum" | .min => "min" | .max => "max" | .all => "all" | .any => "any" | .tuple => "tuple" | .list => "list" | .sorted => "sorted" | .int => "int" | .str => "str" | .abs => "abs" | .bool => "bool" | .reversed => "reversed"
def tyName : Ty → Str
  | .int => "int" | .bool => "bool" | .str => "str" | .tuple => "tuple" | .list => "list"

mutual
def isG (ci : CI) : Tg → Expr → Bool
  | .nm i, .Name x _ => decide (ci.N[i]? = some x) && locB ci x && ci.st x
  | .tp ts, .Tuple es _ _ => isGs ci ts es
  | _, _ => false
def isGs (ci : CI) : Tgs → List Expr → Bool
  | .nil, [] => true
  | .cons t ts, e :: es => isG ci t e && noStar e && isGs ci ts es
  | _, _ => false
end
def isTup : Expr → Bool
  | .Tuple .. => true
  | _ => false
/-- the scope of a comprehension's block -/
def blkCI (ci : CI) (scope : Scope) : CI := ⟨ci.N, relS scope ci.sc, fun x => match scope.names.lookup x with | some .local => true | some .cell => true | _ => false, ci.im⟩
def blkB (ci : CI) (scope : Scope) (own : List (Str × Nat)) : Bool := blkC ci.N ci.sc scope own

/-- may stand as a test -/
def tst : Tx → Bool
  | .non => false | .bl _ => false | .int _ => false | .str _ => false | .neg _ => false | .ife .. => false
  | .not a => tst a
  | .and a b => tst a && tst b
  | .or a b => tst a && tst b
  | _ => true
def tsts : Txs → Bool
  | .nil => true
  | .cons e .nil => tst e
  | _ => false
/-- a name that may be read by slot -/
def rdB (ci : CI) (i : Nat) (x : Str) : Bool := decide (ci.N[i]? = some x) && visB ci x && okName x
mutual
def isE (ci : CI) (t : Tx) (e : Expr) : Bool := match t with
  | .var i => match e with
    | .Name x _ => decide (ci.N[i]? = some x) && visB ci x && okName x
    | _ => false
  | .glob y => match e with
    | .Name x _ => decide (x = y) && glB ci x && okName x
    | _ => false
  | .non => match e with
    | .Constant .none _ _ => true
    | _ => false
  | .bl b => match e with
    | .Constant (.bool c) _ _ => b == c
    | _ => false
  | .int i => match e with
    | .Constant (.int j) _ _ => decide (i = j)
    | _ => false
  | .str x => match e with
    | .Constant (.str y) _ _ => decide (x = y)
    | _ => false
  | .bin o a b => match e with
    | .BinOp ea op eb _ => decide (op = opOp o) && isE ci a ea && isE ci b eb
    | _ => false
  | .neg a => match e with
    | .UnaryOp .USub ea _ => isE ci a ea
    | _ => false
  | .not a => match e with
    | .UnaryOp .Not ea _ => isE ci a ea
    | _ => false
  | .cmp o a b => match e with
    | .Compare ea [op] [eb] _ => decide (op = cmOp o) && noSet eb && isE ci a ea && isE ci b eb
    | _ => false
  | .isN a => match e with
    | .Compare ea [.Is] [.Constant .none _ _] _ => isE ci a ea
    | _ => false
  | .notN a => match e with
    | .Compare ea [.IsNot] [.Constant .none _ _] _ => isE ci a ea
    | _ => false
  | .isB a b => match e with
    | .Compare ea [.Is] [.Constant (.bool c) _ _] _ => decide (b = c) && isE ci a ea
    | _ => false
  | .chain o o' a b c => match e with
    | .Compare ea [op, op'] [eb, ec] _ => decide (op = cmOp o) && decide (op' = cmOp o') && noSet eb && noSet ec && isE ci a ea && isE ci b eb && isE ci c ec
    | _ => false
  | .and a b => match e with
    | .BoolOp .And (ea :: eb :: es) pos => isE ci a ea && (match es with | [] => isE ci b eb | _ => isE ci b (.BoolOp .And (eb :: es) pos))
    | _ => false
  | .or a b => match e with
    | .BoolOp .Or (ea :: eb :: es) pos => isE ci a ea && (match es with | [] => isE ci b eb | _ => isE ci b (.BoolOp .Or (eb :: es) pos))
    | _ => false
  | .ife c a b => match e with
    | .IfExp ec ea eb _ => tst c && isE ci c ec && isE ci a ea && isE ci b eb
    | _ => false
  | .tup es => match e with
    | .Tuple xs _ _ => noStars xs && decide (xs.length ≤ 1000) && isA ci es xs
    | _ => false
  | .lst es => match e with
    | .List xs _ => noStars xs && decide (xs.length ≤ 1000) && isA ci es xs
    | _ => false
  | .idx a b => match e with
    | .Subscript ea eb _ => plainIx eb && isE ci a ea && isE ci b eb
    | _ => false
  | .cut a lo hi => match e with
    | .Subscript ea (.Slice el eh none _) _ => isE ci a ea && isO ci lo el && isO ci hi eh
    | _ => false
  | .call f es => match e with
    | .Call (.Name x _) xs [] _ => decide (x = f) && glB ci x && okName x && noStars xs && (match xs with | [] => false | _ => true) && isA ci es xs
    | _ => false
  | .blt b es => match e with
    | .Call (.Name x _) xs [] _ => decide (x = blName b) && glB ci x && noStars xs && (match xs with | [] => false | _ => true) && isA ci es xs
    | _ => false
  | .isi a t => match e with
    | .Call (.Name x _) [ea, .Name y _] [] _ => decide (x = ("isinstance" : Str)) && glB ci x && decide (y = tyName t) && glB ci y && noStar ea && isE ci a ea
    | _ => false
  | .best b a d => match e with
    | .Call (.Name x _) [ea] [⟨some y, ed, _⟩] _ => decide (x = (if b then "max" else "min" : Str)) && glB ci x && decide (y = ("default" : Str)) && noStar ea && isE ci a ea && isE ci d ed
    | _ => false
  | .comb a b => match e with
    | .Call (.Name x _) [ea, eb] [] _ => decide (x = ("comb" : Str)) && glB ci x && ci.im.contains (("comb" : Str), "math.comb") && noStar ea && noStar eb && isE ci a ea && isE ci b eb
    | _ => false
  | .dget i k => match e with
    | .Subscript (.Name x p) ek _ => plainIx ek && rdB ci i x && isE ci k ek
    | _ => false
  | .dgetd i k d => match e with
    | .Call (.Attribute (.Name x p) m apos) [ek, ed] [] cpos => decide (m = ("get" : Str)) && (apos.endLine == cpos.line) && noStar ek && noStar ed && rdB ci i x && isE ci k ek && isE ci d ed
    | _ => false
  | .dget1 i k => match e with
    | .Call (.Attribute (.Name x p) m apos) [ek] [] cpos => decide (m = ("get" : Str)) && (apos.endLine == cpos.line) && noStar ek && rdB ci i x && isE ci k ek
    | _ => false
  | .din b i k => match e with
    | .Compare ek [op] [.Name x p] _ => decide (op = if b then .NotIn else .In) && rdB ci i x && isE ci k ek
    | _ => false
  | .comp elt tg it ifs own => match e with
    | .ListComp ee [⟨et, ei, efs, 0⟩] scope _ => blkB ci scope own && tg.slots.all (fun i => (own.map (·.2)).contains i) && noSet ei && isI ci it ei (isTup et) && isG (blkCI ci scope) tg et && tsts ifs && isA (blkCI ci scope) ifs efs && isE (blkCI ci scope) elt ee
    | _ => false
  | .comp2 elt tg it ifs tg1 it1 ifs1 own own1 => match e with
    | .ListComp ee [⟨et, ei, efs, 0⟩, ⟨et1, ei1, efs1, 0⟩] scope _ => blkB ci scope own && noSet ei && noSet ei1 && own1.all (fun i => (own.map (·.2)).contains i) && tg.slots.all (fun i => (own.map (·.2)).contains i) && tg1.slots.all own1.contains && isI ci it ei (isTup et) && isG (blkCI ci scope) tg et && tsts ifs && isA (blkCI ci scope) ifs efs && isI (blkCI ci scope) it1 ei1 (isTup et1) && isG (blkCI ci scope) tg1 et1 && tsts ifs1 && isA (blkCI ci scope) ifs1 efs1 && isE (blkCI ci scope) elt ee
    | _ => false
def isA (ci : CI) (t : Txs) (l : List Expr) : Bool := match t with
  | .nil => match l with
    | [] => true
    | _ => false
  | .cons e es => match l with
    | x :: xs => isE ci e x && isA ci es xs
    | _ => false
def isO (ci : CI) (t : To) (l : Option Expr) : Bool := match t with
  | .no => match l with
    | none => true
    | _ => false
  | .so e => match l with
    | some x => isE ci e x
    | _ => false
/-- b: the target is a tuple -/
def isI (ci : CI) (t : Ti) (e : Expr) (tt : Bool) : Bool := match t with
  | .seq a => isE ci a e && noSet e
  | .rng1 a => match e with
    | .Call (.Name x _) [ea] [] _ => decide (x = ("range" : Str)) && glB ci x && noStar ea && isE ci a ea
    | _ => false
  | .rng2 a b => match e with
    | .Call (.Name x _) [ea, eb] [] _ => decide (x = ("range" : Str)) && glB ci x && noStar ea && noStar eb && isE ci a ea && isE ci b eb
    | _ => false
  | .enum a => match e with
    | .Call (.Name x _) [ea] [] _ => tt && decide (x = ("enumerate" : Str)) && glB ci x && noStar ea && isE ci a ea
    | _ => false
  | .zip a b => match e with
    | .Call (.Name x _) [ea, eb] [] _ => tt && decide (x = ("zip" : Str)) && glB ci x && noStar ea && noStar eb && isE ci a ea && isE ci b eb
    | _ => false
end
end Pz
set_option Elab.async false
set_option linter.all false
set_option maxRecDepth 100000
/-! Pz: what stands in the heap for a value; steps; the state. -/
namespace Pz
open PySem PySem.Spec PyProof.Rows L2

section
variable {K : PySem.W.Frag} {F F' F1 H H' H1 : Hp}

theorem sqT_same {a : Addr} {xs : List V} (e : Same F F') (h : SqT K F a xs) : SqT K F' a xs := by
  rcases h with (h | ⟨o, h⟩) | h
  · exact .inl (.inl (e _ _ h))
  · exact .inl (.inr ⟨o, e _ _ h⟩)
  · exact .inr h
mutual
theorem dp_mono (e : Same F F') : ∀ {v : V} {d : PV}, Dp K F v d → Dp K F' v d
  | _, _, .non => .non
  | _, _, .bl b => .bl b
  | _, _, .int i => .int i
  | _, _, .str x => .str x
  | _, _, .lst h hs => .lst (e.seq h) (dpAll_mono e hs)
  | _, _, .tup h hs => .tup (sqT_same e h) (dpAll_mono e hs)
theorem dpAll_mono (e : Same F F') : ∀ {vs : List V} {ds : List PV}, DpAll K F vs ds → DpAll K F' vs ds
  | _, _, .nil => .nil
  | _, _, .cons h hs => .cons (dp_mono e h) (dpAll_mono e hs)
end
theorem dpAll_len : ∀ {vs : List V} {ds : List PV}, DpAll K F vs ds → vs.length = ds.length
  | _, _, .nil => rfl
  | _, _, .cons _ hs => by rw [List.length_cons, List.length_cons, dpAll_len hs]
theorem dpAll_get : ∀ {vs : List V} {ds : List PV} {i : Nat} {d : PV}, DpAll K F vs ds → ds[i]? = some d → ∃ v, vs[i]? = some v ∧ Dp K F v d
  | _, _, i, _, .nil, h => by simp at h
  | _, _, 0, _, .cons h _, e => by simp at e; subst e; exact ⟨_, rfl, h⟩
  | _, _, i + 1, _, .cons _ hs, e => by
    obtain ⟨v, h1, h2⟩ := dpAll_get (i := i) hs (by simpa using e)
    exact ⟨v, by simpa using h1, h2⟩
theorem dpAll_get' : ∀ {vs : List V} {ds : List PV} {i : Nat} {v : V}, DpAll K F vs ds → vs[i]? = some v → ∃ d, ds[i]? = some d ∧ Dp K F v d
  | _, _, i, _, .nil, h => by simp at h
  | _, _, 0, _, .cons h _, e => by simp at e; subst e; exact ⟨_, rfl, h⟩
  | _, _, i + 1, _, .cons _ hs, e => by
    obtain ⟨v, h1, h2⟩ := dpAll_get' (i := i) hs (by simpa using e)
    exact ⟨v, by simpa using h1, h2⟩
theorem dpAll_app : ∀ {vs ws : List V} {ds es : List PV}, DpAll K F vs ds → DpAll K F ws es → DpAll K F (vs ++ ws) (ds ++ es)
  | _, _, _, _, .nil, h => h
  | _, _, _, _, .cons h hs, q => .cons h (dpAll_app hs q)
theorem dpAll_rep {vs : List V} {ds : List PV} (h : DpAll K F vs ds) : ∀ n : Nat, DpAll K F (List.replicate n vs).flatten (List.replicate n ds).flatten
  | 0 => .nil
  | n + 1 => by
    rw [List.replicate_succ, List.replicate_succ, List.flatten_cons, List.flatten_cons]
    exact dpAll_app h (dpAll_rep h n)
theorem dpAll_take : ∀ {vs : List V} {ds : List PV} (n : Nat), DpAll K F vs ds → DpAll K F (vs.take n) (ds.take n)
  | _, _, 0, _ => by simpa using DpAll.nil
  | _, _, _ + 1, .nil => .nil
  | _, _, n + 1, .cons h hs => .cons h (dpAll_take n hs)
theorem dpAll_drop : ∀ {vs : List V} {ds : List PV} (n : Nat), DpAll K F vs ds → DpAll K F (vs.drop n) (ds.drop n)
  | _, _, 0, h => h
  | _, _, _ + 1, .nil => .nil
  | _, _, n + 1, .cons _ hs => dpAll_drop n hs
theorem dpAll_set {v : V} {d : PV} (h : Dp K F v d) : ∀ {vs : List V} {ds : List PV} (n : Nat), DpAll K F vs ds → DpAll K F (vs.set n v) (ds.set n d)
  | _, _, _, .nil => .nil
  | _, _, 0, .cons _ hs => .cons h hs
  | _, _, n + 1, .cons q hs => .cons q (dpAll_set h n hs)
theorem dpAll_int : ∀ {vs : List V} {ds : List PV} {is : List Int}, DpAll K F vs ds → intsO ds = some is → vs = is.map V.int
  | _, _, _, .nil, e => by cases e; rfl
  | _, _, is, .cons h hs, e => by
    cases h with
    | int i =>
      unfold intsO at e
      obtain ⟨js, e1, e2⟩ := Option.map_eq_some_iff.mp e
      subst e2
      rw [dpAll_int hs e1]; rfl
    | non => cases e
    | bl b => cases e
    | str x => cases e
    | lst _ _ => cases e
    | tup _ _ => cases e
theorem dpAll_bool : ∀ {vs : List V} {ds : List PV} {is : List Bool}, DpAll K F vs ds → boolsO ds = some is → vs = is.map V.bl
  | _, _, _, .nil, e => by cases e; rfl
  | _, _, is, .cons h hs, e => by
    cases h with
    | bl i =>
      unfold boolsO at e
      obtain ⟨js, e1, e2⟩ := Option.map_eq_some_iff.mp e
      subst e2
      rw [dpAll_bool hs e1]; rfl
    | non => cases e
    | int b => cases e
    | str x => cases e
    | lst _ _ => cases e
    | tup _ _ => cases e

/-- from (F, H) to (F', H'): all that stood stands, what was no value's is no value's -/
structure Step (F H F' H' : Hp) : Prop where
  h : Same H H'
  f : Same F F'
  le : Same F' H'
  nw : ∀ a o, H a = some o → F a = none → F' a = none
theorem Step.rfl' (le : Same F H) : Step F H F H := ⟨Same.refl _, Same.refl _, le, fun _ _ _ e => e⟩
theorem Step.trans {F1 H1 F2 H2 : Hp} (a : Step F H F1 H1) (b : Step F1 H1 F2 H2) : Step F H F2 H2 :=
  ⟨a.h.trans b.h, a.f.trans b.f, b.le, fun c o e n => b.nw c o (a.h _ _ e) (a.nw c o e n)⟩
theorem same_new {H : Hp} {p : Addr} {o : HO} (h : H p = none) : Same H (upd H p o) := fun b x e => by
  rw [upd_ne (ne_of_none e h)]
  exact e
/-- a new object that is a value's -/
theorem Step.new {p : Addr} {o : HO} (le : Same F H) (h : H p = none) : Step F H (upd F p o) (upd H p o) := by
  have hf : F p = none := le.free h
  refine ⟨same_new h, same_new hf, fun b x e => ?_, fun a x e n => ?_⟩
  · by_cases hb : b = p
    · subst hb; rw [upd_same] at e ⊢; exact e
    · rw [upd_ne hb] at e ⊢; exact le _ _ e
  · rw [upd_ne (ne_of_none e h)]; exact n
/-- a new object that is no value's yet -/
theorem Step.lay {p : Addr} {o : HO} (le : Same F H) (h : H p = none) : Step F H F (upd H p o) :=
  ⟨same_new h, Same.refl _, fun b x e => same_new h _ _ (le _ _ e), fun _ _ _ n => n⟩

/-- what stands for a result -/
def RepR (K : PySem.W.Frag) (H F' H' : Hp) (r : RV) (v : V) : Prop :=
  if r.fr = true then ∃ a vs ds, r.v = .list ds ∧ v = .ref a ∧ H a = none ∧ H' a = some (.lst vs) ∧ F' a = none ∧ DpAll K F' vs ds
  else Dp K F' v r.v
theorem RepR.fr {H F' H' : Hp} {d : PV} {v : V} (h : RepR K H F' H' ⟨d, true⟩ v) : ∃ a vs ds, d = .list ds ∧ v = .ref a ∧ H a = none ∧ H' a = some (.lst vs) ∧ F' a = none ∧ DpAll K F' vs ds := by
  unfold RepR at h; simpa using h
theorem RepR.va {H F' H' : Hp} {d : PV} {v : V} (h : RepR K H F' H' ⟨d, false⟩ v) : Dp K F' v d := by
  unfold RepR at h; simpa using h
theorem RepR.of {H F' H' : Hp} {d : PV} {v : V} (h : Dp K F' v d) : RepR K H F' H' ⟨d, false⟩ v := by
  unfold RepR; simpa using h
theorem RepR.new {H F' H' : Hp} {ds : List PV} {a : Addr} {vs : List V} (h0 : H a = none) (h1 : H' a = some (.lst vs)) (h2 : F' a = none) (h3 : DpAll K F' vs ds) : RepR K H F' H' ⟨.list ds, true⟩ (.ref a) := by
  unfold RepR
  rw [if_pos rfl]
  exact ⟨a, vs, ds, rfl, rfl, h0, h1, h2, h3⟩
/-- a new list becomes a value -/
theorem freeze {H F' H' : Hp} {r : RV} {v : V} (s : Step F H F' H') (h : RepR K H F' H' r v) : ∃ F'', Step F H F'' H' ∧ Same F' F'' ∧ Dp K F'' v r.v := by
  obtain ⟨d, fr⟩ := r
  cases fr with
  | false => exact ⟨F', s, Same.refl _, h.va⟩
  | true =>
    obtain ⟨a, vs, ds, rfl, rfl, h0, h1, h2, h3⟩ := h.fr
    have sm : Same F' (upd F' a (.lst vs)) := same_new h2
    refine ⟨upd F' a (.lst vs), ⟨s.h, s.f.trans sm, fun b x e => ?_, fun b o e n => ?_⟩, sm, .lst (SqL.of upd_same) (dpAll_mono sm h3)⟩
    · by_cases hb : b = a
      · subst hb; rw [upd_same] at e; cases e; exact h1
      · rw [upd_ne hb] at e; exact s.le _ _ e
    · rw [upd_ne (ne_of_none e h0)]; exact s.nw b o e n

/-- a value, or a list of one's own that is looked at -/
def Bor (K : PySem.W.Frag) (F H : Hp) (v : V) (d : PV) : Prop :=
  Dp K F v d ∨ ∃ a vs ds, d = .list ds ∧ v = .ref a ∧ H a = some (.lst vs) ∧ DpAll K F vs ds
theorem Bor.dp (le : Same F H) {v : V} {d : PV} (h : Bor K F H v d) : Dp K H v d := by
  rcases h with h | ⟨a, vs, ds, rfl, rfl, h1, h2⟩
  · exact dp_mono le h
  · exact .lst (SqL.of h1) (dpAll_mono le h2)
theorem Bor.list (le : Same F H) {v : V} {ds : List PV} (h : Bor K F H v (.list ds)) : ∃ a vs, v = .ref a ∧ SqL K H a vs ∧ DpAll K F vs ds := by
  rcases h with h | ⟨a, vs, es, e, rfl, h1, h2⟩
  · cases h with
    | lst h hs => exact ⟨_, _, rfl, le.seq h, hs⟩
  · cases e; exact ⟨a, vs, rfl, SqL.of h1, h2⟩
theorem Bor.tup (le : Same F H) {v : V} {ds : List PV} (h : Bor K F H v (.tuple ds)) : ∃ a vs, v = .ref a ∧ SqT K H a vs ∧ DpAll K F vs ds := by
  rcases h with h | ⟨a, vs, es, e, rfl, h1, h2⟩
  · cases h with
    | tup h hs => exact ⟨_, _, rfl, sqT_same le h, hs⟩
  · cases e
theorem Bor.int {v : V} {i : Int} (h : Bor K F H v (.int i)) : v = .int i := by
  rcases h with h | ⟨a, vs, es, e, _⟩
  · cases h; rfl
  · cases e
theorem Bor.bool {v : V} {i : Bool} (h : Bor K F H v (.bool i)) : v = .bl i := by
  rcases h with h | ⟨a, vs, es, e, _⟩
  · cases h; rfl
  · cases e
theorem Bor.str {v : V} {i : Str} (h : Bor K F H v (.str i)) : v = .str i := by
  rcases h with h | ⟨a, vs, es, e, _⟩
  · cases h; rfl
  · cases e
theorem Bor.none {v : V} (h : Bor K F H v .none) : v = .non := by
  rcases h with h | ⟨a, vs, es, e, _⟩
  · cases h; rfl
  · cases e
theorem Bor.step {F' H' : Hp} (s : Step F H F' H') {v : V} {d : PV} (h : Bor K F H v d) : Bor K F' H' v d := by
  rcases h with h | ⟨a, vs, ds, rfl, rfl, h1, h2⟩
  · exact .inl (dp_mono s.f h)
  · exact .inr ⟨a, vs, ds, rfl, rfl, s.h _ _ h1, dpAll_mono s.f h2⟩
theorem Bor.dict {v : V} {kvs} (h : Bor K F H v (.dict kvs)) : False := by
  rcases h with h | ⟨a, vs, es, e, _⟩
  · cases h
  · cases e
theorem RepR.bor {H0 F' H' : Hp} {r : RV} {v : V} (h : RepR K H0 F' H' r v) : Bor K F' H' v r.v := by
  obtain ⟨d, fr⟩ := r
  cases fr with
  | false => exact .inl h.va
  | true =>
    obtain ⟨a, vs, ds, rfl, rfl, h0, h1, h2, h3⟩ := h.fr
    exact .inr ⟨a, vs, ds, rfl, rfl, h1, h3⟩

/-- a dict's pairs -/
inductive DpKv (K : PySem.W.Frag) (F : Hp) : List (L2.Key × V) → List (L2.Key × PV) → Prop
  | nil : DpKv K F [] []
  | cons {k : L2.Key} {v : V} {d : PV} {r : List (L2.Key × V)} {q : List (L2.Key × PV)} : Dp K F v d → DpKv K F r q → DpKv K F ((k, v) :: r) ((k, d) :: q)
theorem dpKv_mono (e : Same F F') : ∀ {r : List (L2.Key × V)} {q : List (L2.Key × PV)}, DpKv K F r q → DpKv K F' r q
  | _, _, .nil => .nil
  | _, _, .cons h hs => .cons (dp_mono e h) (dpKv_mono e hs)
theorem dpKv_len : ∀ {r : List (L2.Key × V)} {q : List (L2.Key × PV)}, DpKv K F r q → r.length = q.length
  | _, _, .nil => rfl
  | _, _, .cons _ hs => by rw [List.length_cons, List.length_cons, dpKv_len hs]
theorem dpKv_lkp (k : L2.Key) : ∀ {r : List (L2.Key × V)} {q : List (L2.Key × PV)}, DpKv K F r q → (∀ d, lkp q k = some d → ∃ v, valV r k = some v ∧ Dp K F v d) ∧ (lkp q k = none → valV r k = none)
  | _, _, .nil => ⟨fun d e => (by cases e), fun _ => rfl⟩
  | _, _, .cons (k := k') (v := v) (d := d) (r := r) (q := q) h hs => by
    obtain ⟨a, b⟩ := dpKv_lkp k hs
    by_cases e : k' = k
    · have e1 : lkp ((k', d) :: q) k = some d := by unfold lkp; rw [List.find?_cons]; simp [e]
      have e2 : valV ((k', v) :: r) k = some v := valV_pos (p := (k', v)) e
      rw [e1, e2]
      exact ⟨fun d' q => by cases q; exact ⟨v, rfl, h⟩, fun q => by cases q⟩
    · have e1 : lkp ((k', d) :: q) k = lkp q k := by unfold lkp; rw [List.find?_cons]; simp [e]
      have e2 : valV ((k', v) :: r) k = valV r k := valV_neg (p := (k', v)) e
      rw [e1, e2]; exact ⟨a, b⟩
theorem dpKv_any (k : L2.Key) : ∀ {r : List (L2.Key × V)} {q : List (L2.Key × PV)}, DpKv K F r q → (r.any fun kv => decide (kv.1 = k)) = (q.any fun kv => decide (kv.1 = k))
  | _, _, .nil => rfl
  | _, _, .cons _ hs => by rw [List.any_cons, List.any_cons, dpKv_any k hs]
theorem dpKv_map (k : L2.Key) {v : V} {d : PV} (h : Dp K F v d) : ∀ {r : List (L2.Key × V)} {q : List (L2.Key × PV)}, DpKv K F r q → DpKv K F (r.map fun kv => if kv.1 = k then (kv.1, v) else kv) (q.map fun kv => if kv.1 = k then (kv.1, d) else kv)
  | _, _, .nil => .nil
  | _, _, .cons (k := k') g hs => by
    rw [List.map_cons, List.map_cons]
    by_cases e : k' = k
    · rw [if_pos e, if_pos e]; exact .cons h (dpKv_map k h hs)
    · rw [if_neg e, if_neg e]; exact .cons g (dpKv_map k h hs)
theorem dpKv_app : ∀ {r r2 : List (L2.Key × V)} {q q2 : List (L2.Key × PV)}, DpKv K F r q → DpKv K F r2 q2 → DpKv K F (r ++ r2) (q ++ q2)
  | _, _, _, _, .nil, h => h
  | _, _, _, _, .cons h hs, g => .cons h (dpKv_app hs g)
theorem dpKv_put (k : L2.Key) {v : V} {d : PV} (h : Dp K F v d) {r : List (L2.Key × V)} {q : List (L2.Key × PV)} (g : DpKv K F r q) : DpKv K F (putK r k v) (putP q k d) := by
  unfold putK putP
  rw [dpKv_any k g]
  split
  · exact dpKv_map k h g
  · exact dpKv_app g (.cons h .nil)
/-- what stands for what only one name has -/
def Shp (K : PySem.W.Frag) (F : Hp) : Oc → HO → Prop
  | .l ds, h => ∃ vs, h = .lst vs ∧ DpAll K F vs ds
  | .d kvs, h => ∃ r, h = .dK r ∧ DpKv K F r kvs
theorem Shp.mono (e : Same F F') : ∀ {o : Oc} {h : HO}, Shp K F o h → Shp K F' o h
  | .l _, _, ⟨vs, a, b⟩ => ⟨vs, a, dpAll_mono e b⟩
  | .d _, _, ⟨r, a, b⟩ => ⟨r, a, dpKv_mono e b⟩
/-- the names' slots: σ the model's, ρ the evaluator's; B: what stood when the def began -/
structure Rel (K : PySem.W.Frag) (F0 B : Hp) (ρ : En) (σ : L2.St) (F H : Hp) : Prop where
  le : Same F H
  len : ρ.length = σ.length
  val : ∀ (i : Nat) (v : PV), ρ[i]? = some (Sl.val v) → ∃ x, σ[i]? = some (some x) ∧ Dp K F x v
  own : ∀ (i : Nat) (o : Oc), ρ[i]? = some (Sl.obj o) → ∃ a h, σ[i]? = some (some (.ref a)) ∧ H a = some h ∧ F a = none ∧ B a = none ∧ Shp K F o h
  dj : ∀ (i j : Nat) (o p : Oc) (a : Addr), ρ[i]? = some (Sl.obj o) → ρ[j]? = some (Sl.obj p) → σ[i]? = some (some (.ref a)) → σ[j]? = some (some (.ref a)) → i = j
  go : Step F0 B F H
variable {F0 B : Hp} {ρ : En} {σ : L2.St}
theorem Rel.step (R : Rel K F0 B ρ σ F H) {F' H' : Hp} (s : Step F H F' H') : Rel K F0 B ρ σ F' H' where
  le := s.le
  len := R.len
  val := fun i v e => let ⟨x, h1, h2⟩ := R.val i v e; ⟨x, h1, dp_mono s.f h2⟩
  own := fun i ds e => let ⟨a, vs, h1, h2, h3, h4, h5⟩ := R.own i ds e; ⟨a, vs, h1, s.h _ _ h2, s.nw _ _ h2 h3, h4, h5.mono s.f⟩
  dj := R.dj
  go := R.go.trans s
theorem Rel.ownL (R : Rel K F0 B ρ σ F H) (i : Nat) (ds : List PV) (e : ρ[i]? = some (Sl.own ds)) : ∃ a vs, σ[i]? = some (some (.ref a)) ∧ H a = some (.lst vs) ∧ F a = none ∧ B a = none ∧ DpAll K F vs ds := by
  obtain ⟨a, h, h1, h2, h3, h4, vs, rfl, h5⟩ := R.own i _ e
  exact ⟨a, vs, h1, h2, h3, h4, h5⟩
theorem Rel.ownD (R : Rel K F0 B ρ σ F H) (i : Nat) (kvs : List (L2.Key × PV)) (e : ρ[i]? = some (Sl.dic kvs)) : ∃ a r, σ[i]? = some (some (.ref a)) ∧ H a = some (.dK r) ∧ F a = none ∧ B a = none ∧ DpKv K F r kvs := by
  obtain ⟨a, h, h1, h2, h3, h4, r, rfl, h5⟩ := R.own i _ e
  exact ⟨a, r, h1, h2, h3, h4, h5⟩
theorem Rel.slotR (R : Rel K F0 B ρ σ F H) {i : Nat} {d : PV} (e : slotR ρ i = some d) : ∃ x, σ[i]? = some (some x) ∧ Bor K F H x d := by
  unfold Pz.slotR at e
  split at e
  · rename_i ds h
    cases e
    obtain ⟨a, vs, h1, h2, h3, h4, h5⟩ := R.ownL i ds h
    exact ⟨.ref a, h1, .inr ⟨a, vs, ds, rfl, rfl, h2, h5⟩⟩
  · rename_i v h
    cases e
    obtain ⟨x, h1, h2⟩ := R.val i _ h
    exact ⟨x, h1, .inl h2⟩
  · cases e
theorem sl_get_set {ρ : En} {i j : Nat} {s : Sl} (h : i < ρ.length) : (ρ.set i s)[j]? = if j = i then some s else ρ[j]? := by
  by_cases e : j = i
  · subst e; rw [if_pos rfl, List.getElem?_set_self h]
  · rw [if_neg e, List.getElem?_set_ne (Ne.symm e)]
theorem st_get_set {σ : L2.St} {i j : Nat} {s : Option V} (h : i < σ.length) : (σ.set i s)[j]? = if j = i then some s else σ[j]? := by
  by_cases e : j = i
  · subst e; rw [if_pos rfl, List.getElem?_set_self h]
  · rw [if_neg e, List.getElem?_set_ne (Ne.symm e)]
theorem set_out {α : Type} {l : List α} {i : Nat} {x : α} (h : ¬ i < l.length) : l.set i x = l := List.set_eq_of_length_le (by omega)
/-- a value is stored -/
theorem Rel.setV (R : Rel K F0 B ρ σ F H) {i : Nat} {x : V} {d : PV} (h : Dp K F x d) : Rel K F0 B (ρ.set i (.val d)) (σ.set i (some x)) F H := by
  by_cases hi : i < ρ.length
  · have hj : i < σ.length := by rw [← R.len]; exact hi
    refine ⟨R.le, by simp [R.len], fun j v e => ?_, fun j ds e => ?_, fun j k ds es a e1 e2 e3 e4 => ?_, R.go⟩
    · rw [sl_get_set hi] at e
      rw [st_get_set hj]
      by_cases q : j = i
      · rw [if_pos q] at e ⊢; cases e; exact ⟨x, rfl, h⟩
      · rw [if_neg q] at e ⊢; exact R.val j v e
    · rw [sl_get_set hi] at e
      rw [st_get_set hj]
      by_cases q : j = i
      · rw [if_pos q] at e; cases e
      · rw [if_neg q] at e ⊢; exact R.own j ds e
    · rw [sl_get_set hi] at e1 e2
      rw [st_get_set hj] at e3 e4
      by_cases q : j = i
      · rw [if_pos q] at e1; cases e1
      · by_cases q2 : k = i
        · rw [if_pos q2] at e2; cases e2
        · rw [if_neg q] at e1 e3
          rw [if_neg q2] at e2 e4
          exact R.dj j k ds es a e1 e2 e3 e4
  · have hj : ¬ i < σ.length := by rw [← R.len]; exact hi
    rw [set_out hi, set_out hj]; exact R
/-- a list of one's own is stored -/
theorem Rel.setObj (R : Rel K F0 B ρ σ F H) {i : Nat} {a : Addr} {vs : HO} {ds : Oc} (h1 : H a = some vs) (h2 : F a = none) (h3 : B a = none) (h4 : Shp K F ds vs)
    (ap : ∀ (j : Nat) (es : Oc) (b : Addr), j ≠ i → ρ[j]? = some (Sl.obj es) → σ[j]? = some (some (.ref b)) → b ≠ a) : Rel K F0 B (ρ.set i (.obj ds)) (σ.set i (some (.ref a))) F H := by
  by_cases hi : i < ρ.length
  · have hj : i < σ.length := by rw [← R.len]; exact hi
    refine ⟨R.le, by simp [R.len], fun j v e => ?_, fun j ds e => ?_, fun j k ds es b e1 e2 e3 e4 => ?_, R.go⟩
    · rw [sl_get_set hi] at e
      rw [st_get_set hj]
      by_cases q : j = i
      · rw [if_pos q] at e; cases e
      · rw [if_neg q] at e ⊢; exact R.val j v e
    · rw [sl_get_set hi] at e
      rw [st_get_set hj]
      by_cases q : j = i
      · rw [if_pos q] at e ⊢; cases e; exact ⟨a, vs, rfl, h1, h2, h3, h4⟩
      · rw [if_neg q] at e ⊢; exact R.own j ds e
    · rw [sl_get_set hi] at e1 e2
      rw [st_get_set hj] at e3 e4
      by_cases q : j = i
      · by_cases q2 : k = i
        · omega
        · rw [if_pos q] at e3; cases e3
          rw [if_neg q2] at e2 e4
          exact absurd rfl (ap k es _ q2 e2 e4)
      · by_cases q2 : k = i
        · rw [if_pos q2] at e4; cases e4
          rw [if_neg q] at e1 e3
          exact absurd rfl (ap j ds _ q e1 e3)
        · rw [if_neg q] at e1 e3
          rw [if_neg q2] at e2 e4
          exact R.dj j k ds es b e1 e2 e3 e4
  · have hj : ¬ i < σ.length := by rw [← R.len]; exact hi
    rw [set_out hi, set_out hj]; exact R
theorem Rel.setO (R : Rel K F0 B ρ σ F H) {i : Nat} {a : Addr} {vs : List V} {ds : List PV} (h1 : H a = some (.lst vs)) (h2 : F a = none) (h3 : B a = none) (h4 : DpAll K F vs ds)
    (ap : ∀ (j : Nat) (es : Oc) (b : Addr), j ≠ i → ρ[j]? = some (Sl.obj es) → σ[j]? = some (some (.ref b)) → b ≠ a) : Rel K F0 B (ρ.set i (.own ds)) (σ.set i (some (.ref a))) F H :=
  R.setObj h1 h2 h3 ⟨vs, rfl, h4⟩ ap
/-- nothing is told of a name -/
theorem Rel.forget (R : Rel K F0 B ρ σ F H) (i : Nat) : Rel K F0 B (ρ.set i .no) σ F H := by
  by_cases hi : i < ρ.length
  · refine ⟨R.le, by simp [R.len], fun j v e => ?_, fun j ds e => ?_, fun j k ds es b e1 e2 e3 e4 => ?_, R.go⟩
    · rw [sl_get_set hi] at e
      by_cases q : j = i
      · rw [if_pos q] at e; cases e
      · rw [if_neg q] at e; exact R.val j v e
    · rw [sl_get_set hi] at e
      by_cases q : j = i
      · rw [if_pos q] at e; cases e
      · rw [if_neg q] at e; exact R.own j ds e
    · rw [sl_get_set hi] at e1 e2
      by_cases q : j = i
      · rw [if_pos q] at e1; cases e1
      · by_cases q2 : k = i
        · rw [if_pos q2] at e2; cases e2
        · rw [if_neg q] at e1
          rw [if_neg q2] at e2
          exact R.dj j k ds es b e1 e2 e3 e4
  · rw [set_out hi]; exact R
theorem Rel.wipe (R : Rel K F0 B ρ σ F H) : ∀ vs : List Nat, Rel K F0 B (wipeS ρ vs) (wipe σ vs) F H
  | [] => R
  | i :: r => by
    have R1 := (R.wipe r).forget i
    unfold wipeS L2.wipe
    generalize wipeS ρ r = ρ1 at R1 ⊢
    generalize L2.wipe σ r = σ1 at R1 ⊢
    by_cases hi : i < ρ1.length
    · have hj : i < σ1.length := by rw [← R1.len, List.length_set]; exact hi
      refine ⟨R1.le, by have := R1.len; simp only [List.length_set] at this ⊢; exact this, fun j v e => ?_, fun j ds e => ?_, fun j k ds es b e1 e2 e3 e4 => ?_, R1.go⟩
      · obtain ⟨x, h1, h2⟩ := R1.val j v e
        rw [sl_get_set hi] at e
        rw [st_get_set hj]
        by_cases q : j = i
        · rw [if_pos q] at e; cases e
        · rw [if_neg q]; exact ⟨x, h1, h2⟩
      · obtain ⟨a, vs, h1, h2⟩ := R1.own j ds e
        rw [sl_get_set hi] at e
        rw [st_get_set hj]
        by_cases q : j = i
        · rw [if_pos q] at e; cases e
        · rw [if_neg q]; exact ⟨a, vs, h1, h2⟩
      · rw [st_get_set hj] at e3 e4
        by_cases q : j = i
        · rw [if_pos q] at e3; cases e3
        · by_cases q2 : k = i
          · rw [if_pos q2] at e4; cases e4
          · rw [if_neg q] at e3; rw [if_neg q2] at e4
            exact R1.dj j k ds es b e1 e2 e3 e4
    · have hj : ¬ i < σ1.length := by rw [← R1.len, List.length_set]; exact hi
      rw [set_out hj]; exact R1
/-- a list of one's own becomes a value -/
theorem Rel.frz (R : Rel K F0 B ρ σ F H) {i : Nat} {ds : List PV} (e : ρ[i]? = some (Sl.own ds)) : ∃ F', Same F F' ∧ Rel K F0 B (ρ.set i (.val (.list ds))) σ F' H := by
  obtain ⟨a, vs, h1, h2, h3, h4, h5⟩ := R.ownL i ds e
  have sm : Same F (upd F a (.lst vs)) := same_new h3
  have hi : i < ρ.length := (List.getElem?_eq_some_iff.mp e).1
  have le' : Same (upd F a (.lst vs)) H := fun b x q => by
    by_cases hb : b = a
    · subst hb; rw [upd_same] at q; cases q; exact h2
    · rw [upd_ne hb] at q; exact R.le _ _ q
  have keep : ∀ (j : Nat) (es : Oc) (b : Addr) (ws : HO), j ≠ i → ρ[j]? = some (Sl.obj es) → σ[j]? = some (some (.ref b)) → H b = some ws → F b = none → upd F a (.lst vs) b = none := fun j es b ws hj q1 q2 q3 q4 => by
    have : b ≠ a := fun z => by subst z; exact hj (R.dj j i es _ b q1 e q2 h1)
    rw [upd_ne this]; exact q4
  refine ⟨upd F a (.lst vs), sm, le', by simp [R.len], fun j v q => ?_, fun j es q => ?_, fun j k es es' b e1 e2 e3 e4 => ?_, R.go.h, R.go.f.trans sm, le', fun b o q n => ?_⟩
  · rw [sl_get_set hi] at q
    by_cases hj : j = i
    · rw [if_pos hj] at q; cases q
      rw [hj]
      exact ⟨_, h1, .lst (SqL.of upd_same) (dpAll_mono sm h5)⟩
    · rw [if_neg hj] at q
      obtain ⟨x, q1, q2⟩ := R.val j v q
      exact ⟨x, q1, dp_mono sm q2⟩
  · rw [sl_get_set hi] at q
    by_cases hj : j = i
    · rw [if_pos hj] at q; cases q
    · rw [if_neg hj] at q
      obtain ⟨b, ws, q1, q2, q3, q4, q5⟩ := R.own j es q
      exact ⟨b, ws, q1, q2, keep j es b ws hj q q1 q2 q3, q4, q5.mono sm⟩
  · rw [sl_get_set hi] at e1 e2
    by_cases q : j = i
    · rw [if_pos q] at e1; cases e1
    · by_cases q2 : k = i
      · rw [if_pos q2] at e2; cases e2
      · rw [if_neg q] at e1
        rw [if_neg q2] at e2
        exact R.dj j k es es' b e1 e2 e3 e4
  · have : b ≠ a := fun z => by subst z; rw [q] at h4; cases h4
    rw [upd_ne this]; exact R.go.nw b o q n
end
end Pz
set_option Elab.async false
set_option linter.all false
set_option maxRecDepth 100000
set_option maxHeartbeats 1000000
namespace Pz
open PySem PySem.Spec PyProof.Rows L2
section
variable {prog : Program} {w : World} {A : Around} {E : Value → Shared → Prop} {s : Shared}
theorem list_add_any (l : Addr) (items : Array Value) (n : Nat) (b : Addr) (items2 : Array Value) (n2 : Nat) (sl sl2 : Array (Option Value)) (hc0 : items.size + items2.size ≤ sizeLine) :
    Meets (Builtin.«list.__add__» ⟨[.ref l, .ref b], []⟩) (fun _ R s => s.heap.get? l = some ⟨.type "list", none, .seq items n, sl⟩ ∧ s.heap.get? b = some ⟨.type "list", none, .seq items2 n2, sl2⟩ ∧
      R (.ok (.ret (Value.ref s.heap.objs.size))) { s with heap := s.heap.push { cls := Value.type "list", data := Data.seq (items ++ items2) }, toks := s.toks }) :=
  .of_wp fun prog w A R s h => by
    obtain ⟨hp, g, d, tk, os⟩ := s
    obtain ⟨hl, hb, h⟩ := h
    have g1 := AutoSeq1.sub_list_list
    wp_walk using AutoSeq1.wpAny_loadPart' hl, AutoSeq1.wpAny_loadPart' hb
    exact ⟨_, rfl, h⟩
theorem opcat {X : Cx} : OpR X (binaryOp .Add) (fun x y H Q => ∃ l b xs zs, x = .ref l ∧ y = .ref b ∧ SqL X.K H l xs ∧ SqL X.K H b zs ∧ xs.length + zs.length ≤ sizeLine ∧ ∀ p, H p = none → Q (.ref p) (upd H p (.lst (xs ++ zs)))) := by
  intro pins s σ H x y v u Q I rx ry h
  obtain ⟨l, b, xs, zs, rfl, rfl, hH, hB, hz, q⟩ := h
  cases rx
  cases ry
  obtain ⟨its, r, ⟨⟨c1, d1, t1, sl1⟩, n1, e1, k1, k2, k3⟩, _⟩ := I.list hH
  obtain ⟨its2, r2, ⟨⟨c2, d2, t2, sl2⟩, n2, e2, j1, j2, j3⟩, _⟩ := I.list hB
  simp only at k1 k2 k3 j1 j2 j3
  subst k1 k2 k3 j1 j2 j3
  have hsz : its.toArray.size + its2.toArray.size ≤ sizeLine := by
    rw [List.size_toArray, List.size_toArray, ← r.length, ← r2.length]; exact hz
  refine PySem.concat_meets ⟨_, e1, rfl⟩ ⟨_, e2, rfl⟩ noFill_list_add seq_list_add F.slot_list_add F.entry_list_add (F.args_list_add_2 _ _) (list_add_any l _ n1 b _ n2 sl1 sl2 hsz) ⟨e1, e2, ?_⟩
  have ea : its.toArray ++ its2.toArray = (its ++ its2).toArray := by simp
  rw [ea]
  exact ⟨.ref _, _, I.lnew (t' := s.toks) (r.append r2) (by rw [List.length_append]; exact hz), rfl, q _ I.fresh⟩
end
end Pz
set_option Elab.async false
set_option linter.all false
set_option maxRecDepth 100000
set_option maxHeartbeats 4000000
/-! Pz: a list or a tuple so many times. -/
namespace Pz
open PySem PySem.Spec PyProof.Rows L2
theorem int_rmul_any (a : Int) (t : Tok) (l : Addr) (items : Array Value) (n : Nat) (dd : Option Addr) (sl : Array (Option Value)) :
    Meets (Builtin.«int.__rmul__» ⟨[.int a t, .ref l], []⟩) (fun _ R s => s.heap.get? l = some { cls := .type "list", dict := dd, data := .seq items n, slots := sl } ∧ R (.ok (.ret Value.notImplemented)) s) :=
  .of_wp fun prog w A R s h => by obtain ⟨hp, g, d, tk, os⟩ := s; obtain ⟨hl, h⟩ := h; wp_walk using AutoSeq1.wpAny_loadPart' hl; exact ⟨_, rfl, h⟩
theorem list_mul_any (l : Addr) (items : Array Value) (n : Nat) (x : Int) (u : Tok) (dd : Option Addr) (sl : Array (Option Value)) (hc0 : ¬(!Builtin.List.listFitsIndex x) = true) (hc1 : ¬items.size * x.toNat > (2 ^ 63 - 1) / 8) (hc2 : ¬Builtin.List.listTooLong (items.size * x.toNat) = true) :
    Meets (Builtin.«list.__mul__» ⟨[.ref l, .int x u], []⟩) (fun _ R s => s.heap.get? l = some { cls := .type "list", dict := dd, data := .seq items n, slots := sl } ∧ R (.ok (.ret (Value.ref s.heap.objs.size))) { s with heap := s.heap.push { cls := Value.type "list", data := Data.seq (List.foldl (fun x1 x2 => x1 ++ x2) #[] (List.replicate (if items.isEmpty = true then 0 else x.toNat) items)) }, toks := s.toks }) :=
  .of_wp fun prog w A R s h => by
    obtain ⟨hp, g, d, tk, os⟩ := s; obtain ⟨hl, h⟩ := h
    have hsz := AutoListH.joined_fits hc2
    wp_walk using AutoSeq1.wpAny_loadPart' hl; refine wpAny_ite_false (decide_eq_false (Nat.not_lt.mpr hsz)) ?_; wp_walk; exact ⟨_, rfl, h⟩
theorem oprepL {X : Cx} : OpR X (binaryOp .Mult) (fun x y H Q => ∃ l k xs, x = .ref l ∧ y = .int k ∧ SqL X.K H l xs ∧ 0 ≤ k ∧ k ≤ 1000 ∧ xs.length ≤ 1000 ∧ ∀ p, H p = none → Q (.ref p) (upd H p (.lst (List.replicate k.toNat xs).flatten))) := by
  intro pins s σ H x y v u Q I rx ry h
  obtain ⟨l, k, xs, rfl, rfl, hH, h1, h2, hz0, q⟩ := h
  cases rx
  obtain ⟨t, rfl⟩ := ry
  obtain ⟨its, r, ⟨⟨c1, d1, t1, sl1⟩, n, e, k1, k2, k3⟩, _⟩ := I.list hH
  simp only at k1 k2 k3
  subst k1 k2 k3
  have hl := r.length
  have hz : xs.length * k.toNat ≤ sizeLine := by
    have a1 : xs.length * k.toNat ≤ 1000 * 1000 := Nat.mul_le_mul hz0 (by omega)
    rw [sizeLine_eq]; omega
  have hlen : its.toArray.size * k.toNat ≤ sizeLine := by rw [List.size_toArray, ← hl]; exact hz
  have hcap : ¬ its.toArray.size * k.toNat > (2 ^ 63 - 1) / 8 := by
    have : (sizeLine : Nat) ≤ (2 ^ 63 - 1) / 8 := by decide
    omega
  have hfit : ¬ (!Builtin.List.listFitsIndex k) = true := by
    rw [fitsIndex_both (by omega) (by omega)]
    exact Bool.false_ne_true
  have hlong : ¬ Builtin.List.listTooLong (its.toArray.size * k.toNat) = true := by
    rw [notLongL hlen]
    exact Bool.false_ne_true
  have hnew : List.foldl (fun x1 x2 => x1 ++ x2) #[] (List.replicate (if its.toArray.isEmpty = true then 0 else k.toNat) its.toArray) = (List.replicate k.toNat its).flatten.toArray := by
    have f0 : ∀ m : Nat, List.foldl (fun x1 x2 => x1 ++ x2) #[] (List.replicate m its.toArray) = (List.replicate m its).flatten.toArray := fun m => by
      have := foldl_rep its m []
      rw [List.nil_append] at this
      exact this
    rw [f0]
    cases its with
    | nil => simp
    | cons a r' => rw [if_neg (by simp)]
  refine wpAny_binaryOp_repeat_ref (T := "list") (U := "int") (by decide) ⟨_, e, rfl⟩ (fun s' => typeIs_int s' k t) noFill_list_mul F.fills_int_mul F.slot_int_rmul repeat_list F.slot_int_index.lookup
    (call_meets F.slot_int_rmul (typeIs_int s k t) F.entry_int_rmul (F.args_int_rmul_2 _ _) (int_rmul_any k t l its.toArray n _ sl1)
      ⟨e, rfl, ⟨_, e, rfl⟩, call_meets F.slot_list_mul ⟨_, e, rfl⟩ F.entry_list_mul (F.args_list_mul_2 _ _) (list_mul_any l its.toArray n k t _ sl1 hfit hcap hlong) ⟨e, ?_⟩⟩)
  rw [hnew]
  exact ⟨.ref _, _, I.lnew (t' := s.toks) (r.rep k.toNat) (by rw [PyProof.Rows.lm_len_rep_flat, Nat.mul_comm]; exact hz), rfl, q _ I.fresh⟩
theorem tuple_mul1 (l : Addr) (items : Array Value) (n : Nat) (dd : Option Addr) (sl : Array (Option Value)) (u : Tok) :
    Meets (Builtin.«tuple.__mul__» ⟨[.ref l, .int 1 u], []⟩) (fun _ R s => s.heap.get? l = some { cls := .type "tuple", dict := dd, data := .seq items n, slots := sl } ∧ R (.ok (.ret (Value.ref l))) s) :=
  .of_wp fun prog w A R s h => by
    obtain ⟨hp, g, d, tk, os⟩ := s
    obtain ⟨hl, h⟩ := h
    have f1 := AutoSeq1.idx_int
    have c1 : (items.isEmpty || (1 : Int) == 1) = true := by cases items.isEmpty <;> rfl
    wp_walk using wpAny_loadPart' hl
    exact ⟨_, rfl, h⟩
theorem op_repT1 {X : Cx} : OpR X (binaryOp .Mult) (fun x y H Q => ∃ l xs, x = .ref l ∧ y = .int 1 ∧ SqT X.K H l xs ∧ Q (.ref l) H) := by
  intro pins s σ H x y v u Q I rx ry h
  obtain ⟨l, xs, rfl, rfl, hT, q⟩ := h
  cases rx
  obtain ⟨t, rfl⟩ := ry
  obtain ⟨its, r, ⟨⟨cls, dd, data, sl⟩, ho, hc, n, hd⟩, hs⟩ := I.tuple hT
  simp only at hc hd
  subst hc hd
  refine wpAny_binaryOp_repeat_ref (T := "tuple") (U := "int") (by decide) ⟨_, ho, rfl⟩ (fun s' => typeIs_int s' 1 t) noFill_tuple_mul F.fills_int_mul F.slot_int_rmul repeat_tuple F.slot_int_index.lookup
    (call_meets F.slot_int_rmul (typeIs_int s 1 t) F.entry_int_rmul (F.args_int_rmul_2 _ _) (int_rmul_tuple 1 t l its.toArray n dd sl)
      ⟨ho, rfl, ⟨_, ho, rfl⟩, call_meets F.slot_tuple_mul ⟨_, ho, rfl⟩ F.entry_tuple_mul (F.args_tuple_mul_2 _ _) (tuple_mul1 l its.toArray n dd sl t) ⟨ho, ?_⟩⟩)
  exact ⟨.ref l, H, I, rfl, q⟩
end Pz
set_option Elab.async false
set_option linter.all false
set_option maxRecDepth 100000
set_option maxHeartbeats 1000000
/-! Pz: rules of operators and built-ins over data of any depth. -/
namespace Pz
open PySem PySem.Spec PyProof.Rows L2
open PySem.W (alike dataLt minD maxD dataLe)

theorem okD_plain {d : PV} (h : okD d = true) : d.plain = true := (Bool.and_eq_true_iff.mp h).1
theorem okD_depth {d : PV} (h : okD d = true) : d.depth ≤ 60 := of_decide_eq_true (Bool.and_eq_true_iff.mp h).2
theorem okL_plain {d : List PV} (h : okL d = true) : PyData.plainAll d = true := (Bool.and_eq_true_iff.mp h).1
theorem okL_depth {d : List PV} (h : okL d = true) : PyData.depthAll d ≤ 60 := of_decide_eq_true (Bool.and_eq_true_iff.mp h).2
theorem isNone_ne {d : PV} (h : isNone d = false) : d ≠ .none := by rintro rfl; cases h

section
variable {X : Cx}
def rData (f : PV → PV → Option Bool) (K : PySem.W.Frag) : R2 := fun x y H Q => ∃ d e k, Dp K H x d ∧ Dp K H y e ∧ f d e = some k ∧ Q (.bl k) H
theorem op_eqP (hu : X.A.units + 100 < cLine) : OpR X (compareOp .Eq) (rData peq X.K) := by
  intro pins s σ H x y v u Q I rx ry ⟨d, e, k, hd, he, hk, q⟩
  obtain ⟨as, r1⟩ := Dp.reads I d x v hd rx
  obtain ⟨bs, r2⟩ := Dp.reads I e y u he ry
  unfold peq at hk
  split at hk
  · rename_i h
    obtain ⟨h1, h2⟩ := Bool.and_eq_true_iff.mp h
    cases hk
    have := okD_depth h1
    have := okD_depth h2
    exact PySem.SeqAt.eq_plain r1 r2 (okD_plain h1) (okD_plain h2) (by omega) ⟨.bl _, H, I, rfl, q⟩
  · cases hk
theorem op_neP (hu : X.A.units + 100 < cLine) : OpR X (compareOp .NotEq) (rData (fun x y => (peq x y).map (!·)) X.K) := by
  intro pins s σ H x y v u Q I rx ry ⟨d, e, k, hd, he, hk, q⟩
  obtain ⟨as, r1⟩ := Dp.reads I d x v hd rx
  obtain ⟨bs, r2⟩ := Dp.reads I e y u he ry
  obtain ⟨c, hk', hc⟩ := Option.map_eq_some_iff.mp hk
  clear hk
  subst hc
  have hk := hk'
  unfold peq at hk
  split at hk
  · rename_i h
    obtain ⟨h1, h2⟩ := Bool.and_eq_true_iff.mp h
    cases hk
    have := okD_depth h1
    have := okD_depth h2
    exact PySem.SeqAt.ne_plain r1 r2 (okD_plain h1) (okD_plain h2) (by omega) ⟨.bl _, H, I, rfl, q⟩
  · cases hk
theorem plt_some {x y : PV} {k : Bool} (h : plt x y = some k) : okD x = true ∧ okD y = true ∧ alike x y = true ∧ x ≠ .none ∧ k = dataLt x y := by
  unfold plt at h
  split at h
  · rename_i q
    simp only [Bool.and_eq_true, Bool.not_eq_true'] at q
    cases h
    exact ⟨q.1.1.1, q.1.1.2, q.1.2, isNone_ne q.2, rfl⟩
  · cases h
theorem op_ltP (hu : X.A.units + 100 < cLine) : OpR X (compareOp .Lt) (rData (evCmp .lt) X.K) := by
  intro pins s σ H x y v u Q I rx ry ⟨d, e, k, hd, he, hk, q⟩
  unfold evCmp at hk
  dsimp only at hk
  split at hk
  · cases hk; cases hd; cases he
    exact op_lt pins s σ H _ _ v u Q I rx ry ⟨_, _, rfl, rfl, q⟩
  · obtain ⟨as, r1⟩ := Dp.reads I d x v hd rx
    obtain ⟨bs, r2⟩ := Dp.reads I e y u he ry
    obtain ⟨h1, h2, h3, h4, rfl⟩ := plt_some hk
    have := okD_depth h1
    have := okD_depth h2
    exact PySem.W.lt_data r1 r2 h3 h4 (by omega) ⟨.bl _, H, I, rfl, q⟩
theorem op_leP (hu : X.A.units + 100 < cLine) : OpR X (compareOp .LtE) (rData (evCmp .le) X.K) := by
  intro pins s σ H x y v u Q I rx ry ⟨d, e, k, hd, he, hk, q⟩
  unfold evCmp at hk
  dsimp only at hk
  split at hk
  · cases hk; cases hd; cases he
    exact op_le pins s σ H _ _ v u Q I rx ry ⟨_, _, rfl, rfl, q⟩
  · obtain ⟨as, r1⟩ := Dp.reads I d x v hd rx
    obtain ⟨bs, r2⟩ := Dp.reads I e y u he ry
    obtain ⟨c, hc, rfl⟩ := Option.map_eq_some_iff.mp hk
    obtain ⟨h1, h2, h3, h4, rfl⟩ := plt_some hc
    have h5 : alike d e = true := by rw [PySem.W.alike_comm]; exact h3
    have := okD_depth h1
    have := okD_depth h2
    exact PySem.W.le_data r1 r2 h5 (PySem.W.ne_none_both h3 h4) (by omega) ⟨.bl _, H, I, rfl, q⟩
theorem op_gtP (hu : X.A.units + 100 < cLine) : OpR X (compareOp .Gt) (rData (evCmp .gt) X.K) := by
  intro pins s σ H x y v u Q I rx ry ⟨d, e, k, hd, he, hk, q⟩
  unfold evCmp at hk
  dsimp only at hk
  split at hk
  · cases hk; cases hd; cases he
    exact op_gt pins s σ H _ _ v u Q I rx ry ⟨_, _, rfl, rfl, q⟩
  · obtain ⟨as, r1⟩ := Dp.reads I d x v hd rx
    obtain ⟨bs, r2⟩ := Dp.reads I e y u he ry
    obtain ⟨h1, h2, h3, h4, rfl⟩ := plt_some hk
    have h5 : alike d e = true := by rw [PySem.W.alike_comm]; exact h3
    have := okD_depth h1
    have := okD_depth h2
    exact PySem.W.gt_data r1 r2 h5 (PySem.W.ne_none_both h3 h4) (by omega) ⟨.bl _, H, I, rfl, q⟩
theorem op_geP (hu : X.A.units + 100 < cLine) : OpR X (compareOp .GtE) (rData (evCmp .ge) X.K) := by
  intro pins s σ H x y v u Q I rx ry ⟨d, e, k, hd, he, hk, q⟩
  unfold evCmp at hk
  dsimp only at hk
  split at hk
  · cases hk; cases hd; cases he
    exact op_ge pins s σ H _ _ v u Q I rx ry ⟨_, _, rfl, rfl, q⟩
  · obtain ⟨as, r1⟩ := Dp.reads I d x v hd rx
    obtain ⟨bs, r2⟩ := Dp.reads I e y u he ry
    obtain ⟨c, hc, rfl⟩ := Option.map_eq_some_iff.mp hk
    obtain ⟨h1, h2, h3, h4, rfl⟩ := plt_some hc
    have := okD_depth h1
    have := okD_depth h2
    exact PySem.W.ge_data r1 r2 h3 h4 (by omega) ⟨.bl _, H, I, rfl, q⟩
theorem op_inP (hu : X.A.units + 100 < cLine) : OpR X (compareOp .In) (rData pin X.K) := by
  intro pins s σ H x y v u Q I rx ry ⟨d, e, k, hd, he, hk, q⟩
  obtain ⟨as, r1⟩ := Dp.reads I d x v hd rx
  obtain ⟨bs, r2⟩ := Dp.reads I e y u he ry
  unfold pin at hk
  cases e with
  | list xs =>
    have hk : (if okD d && okL xs then some (xs.any fun z => PyData.eqv z d) else none) = some k := hk
    split at hk
    · rename_i h
      obtain ⟨h1, h2⟩ := Bool.and_eq_true_iff.mp h
      cases hk
      have := okD_depth h1
      exact PySem.SeqAt.in_list_data r2 r1 (okL_plain h2) (okD_plain h1) (by omega) ⟨.bl _, H, I, rfl, q⟩
    · cases hk
  | tuple xs =>
    have hk : (if okD d && okL xs then some (xs.any fun z => PyData.eqv z d) else none) = some k := hk
    split at hk
    · rename_i h
      obtain ⟨h1, h2⟩ := Bool.and_eq_true_iff.mp h
      cases hk
      have := okD_depth h1
      exact PySem.SeqAt.in_tuple_data r2 r1 (okL_plain h2) (okD_plain h1) (by omega) ⟨.bl _, H, I, rfl, q⟩
    · cases hk
  | none => cases hk
  | bool b => cases hk
  | int i => cases hk
  | str x => cases hk
  | dict kvs => cases hk
theorem op_ninP (hu : X.A.units + 100 < cLine) : OpR X (compareOp .NotIn) (rData (fun x y => (pin x y).map (!·)) X.K) := by
  intro pins s σ H x y v u Q I rx ry ⟨d, e, k, hd, he, hk, q⟩
  obtain ⟨as, r1⟩ := Dp.reads I d x v hd rx
  obtain ⟨bs, r2⟩ := Dp.reads I e y u he ry
  obtain ⟨c, hk', hc⟩ := Option.map_eq_some_iff.mp hk
  clear hk
  subst hc
  have hk := hk'
  unfold pin at hk
  cases e with
  | list xs =>
    have hk : (if okD d && okL xs then some (xs.any fun z => PyData.eqv z d) else none) = some c := hk
    split at hk
    · rename_i h
      obtain ⟨h1, h2⟩ := Bool.and_eq_true_iff.mp h
      cases hk
      have := okD_depth h1
      exact PySem.SeqAt.notIn_list_data r2 r1 (okL_plain h2) (okD_plain h1) (by omega) ⟨.bl _, H, I, rfl, q⟩
    · cases hk
  | tuple xs =>
    have hk : (if okD d && okL xs then some (xs.any fun z => PyData.eqv z d) else none) = some c := hk
    split at hk
    · rename_i h
      obtain ⟨h1, h2⟩ := Bool.and_eq_true_iff.mp h
      cases hk
      have := okD_depth h1
      exact PySem.SeqAt.notIn_tuple_data r2 r1 (okL_plain h2) (okD_plain h1) (by omega) ⟨.bl _, H, I, rfl, q⟩
    · cases hk
  | none => cases hk
  | bool b => cases hk
  | int i => cases hk
  | str x => cases hk
  | dict kvs => cases hk
/-- any comparison -/
theorem op_cmP (hu : X.A.units + 100 < cLine) (o : Cm) : OpR X (compareOp (cmOp o)) (rData (evCmp o) X.K) := by
  cases o with
  | eq => exact op_eqP hu
  | ne => exact op_neP hu
  | lt => exact op_ltP hu
  | le => exact op_leP hu
  | gt => exact op_gtP hu
  | ge => exact op_geP hu
  | isIn => exact op_inP hu
  | notIn => exact op_ninP hu

/-- the data of a list's items -/
theorem dp_readsAll {pins : List (Addr × Obj)} {σ : L2.St} {H : Hp} {s : Shared} (I : Inv X pins σ H s) {vs : List V} {ds : List PV} {us : List Value} (h : DpAll X.K H vs ds) (r : Vals vs us) : ∃ as, ReadsAll s.heap us ds as := Dp.readsAll I ds vs us h r

theorem alikeB_all {ds : List PV} (h : alikeB ds = true) : ∀ x ∈ ds, ∀ y ∈ ds, alike x y = true := fun x hx y hy => List.all_eq_true.mp (List.all_eq_true.mp h x hx) y hy
/-- min, max of a list: an item that reads as the least -/
theorem best_at {h : Heap} {us : List Value} {ds : List PV} {as : List Addr} (rs : ReadsAll h us ds as) (hp : PyData.plainAll ds = true) {i : Nat} {v : Value} {d : PV} {bs : List Addr} (e : us[i]? = some v) (r : Reads h v d bs) (hd : d.plain = true) : ds[i]? = some d := by
  obtain ⟨cs, r1, r2, r3, _⟩ := PySem.W.readsAll_at rs i v e
  have hx : (ds.getD i .none).plain = true := by
    have : ∀ {xs : List PV} (j : Nat), PyData.plainAll xs = true → j < xs.length → (xs.getD j .none).plain = true := by
      intro xs
      induction xs with
      | nil => intro j _ h; exact absurd h (Nat.not_lt_zero _)
      | cons x xs ih =>
        intro j h1 h2
        have h1 : (x.plain && PyData.plainAll xs) = true := h1
        obtain ⟨h3, h4⟩ := Bool.and_eq_true_iff.mp h1
        cases j with
        | zero => exact h3
        | succ j => exact ih j h4 (by simpa using h2)
    exact this i hp r2
  have := PySem.SeqAt.plain_unique _ _ _ _ _ hd r r1
  rw [this, List.getD_eq_getElem?_getD, List.getElem?_eq_getElem r2]
  rfl
theorem foldD_mem (f : PV → PV → Bool) (g : PV → PV → PV) (hg : ∀ a b, g a b = a ∨ g a b = b) : ∀ (xs : List PV) (x : PV), xs.foldl g x ∈ x :: xs
  | [], x => List.mem_cons_self
  | y :: r, x => by
    have := foldD_mem f g hg r (g x y)
    rw [List.foldl_cons]
    rcases List.mem_cons.mp this with e | e
    · rcases hg x y with q | q
      · rw [e, q]; exact List.mem_cons_self
      · rw [e, q]; exact List.mem_cons_of_mem _ List.mem_cons_self
    · exact List.mem_cons_of_mem _ (List.mem_cons_of_mem _ e)
theorem minD_mem (x : PV) (xs : List PV) : minD x xs ∈ x :: xs := foldD_mem (fun _ _ => true) _ (fun a b => by split <;> simp) xs x
theorem maxD_mem (x : PV) (xs : List PV) : maxD x xs ∈ x :: xs := foldD_mem (fun _ _ => true) _ (fun a b => by split <;> simp) xs x
theorem plain_mem {ds : List PV} (h : PyData.plainAll ds = true) : ∀ x ∈ ds, x.plain = true := by
  induction ds with
  | nil => intro x hx; cases hx
  | cons d r ih =>
    have h : (d.plain && PyData.plainAll r) = true := h
    obtain ⟨h3, h4⟩ := Bool.and_eq_true_iff.mp h
    intro x hx
    rcases List.mem_cons.mp hx with rfl | hx
    · exact h3
    · exact ih h4 x hx
theorem bestB_some {b : Bool} {ds : List PV} {d : PV} (h : bestB b ds = some d) : ∃ x r, ds = x :: r ∧ okL ds = true ∧ PySem.W.AlikeAll ds ∧ d = (if b then maxD x r else minD x r) := by
  unfold bestB at h
  split at h
  · cases h
  · split at h
    · rename_i x r q
      cases h
      simp only [Bool.and_eq_true] at q
      exact ⟨x, r, rfl, q.1.1, ⟨alikeB_all q.1.2, fun y hy => isNone_ne (by have := List.all_eq_true.mp q.2 y hy; simpa using this)⟩, rfl⟩
    · cases h
def rBest (K : PySem.W.Frag) (b : Bool) : List V → Hp → VK → Prop := fun xs H Q => ∃ (a : Addr) (vs : List V) (ds : List PV) (d : PV), xs = [.ref a] ∧ SqL K H a vs ∧ DpAll K H vs ds ∧ bestB b ds = some d ∧ ∀ (i : Nat) (v : V), vs[i]? = some v → ds[i]? = some d → Q v H
theorem vals_get {vs : List V} {us : List Value} (r : Vals vs us) {i : Nat} {u : Value} (e : us[i]? = some u) : ∃ v, vs[i]? = some v ∧ RelV v u := by
  cases q : vs[i]? with
  | none => rw [r.none_of q] at e; cases e
  | some v =>
    obtain ⟨u', e', rv⟩ := r.get q
    rw [e] at e'; cases e'
    exact ⟨v, rfl, rv⟩
theorem cr_min_d (hc : X.calm = true) (hu : X.A.units + 100 < cLine) : CallR X (.builtin "min") (rBest X.K false) := by
  intro pins s σ H xs us Q I r ⟨a, vs, ds, d, e, hl, hd, hb, q⟩
  subst e
  obtain ⟨u, rfl, ru⟩ := vals1 r
  cases (show u = Value.ref a from ru)
  obtain ⟨its, rv, p, hz⟩ := I.list hl
  obtain ⟨as, rs⟩ := dp_readsAll I hd rv
  obtain ⟨x, xr, rfl, h1, h2, rfl⟩ := bestB_some hb
  have hdep := okL_depth h1
  refine PySem.W.min_list_data (I.ok.hd hc) p.isList (by simpa using rs) h2 (by omega) fun i v h' tk bs hv rd kp => ?_
  have ei : (x :: xr)[i]? = some (minD x xr) := best_at (ReadsAll.keeps kp rs) (okL_plain h1) (by simpa using hv) rd (plain_mem (okL_plain h1) _ (minD_mem x xr))
  obtain ⟨w, ew, rw'⟩ := vals_get rv (i := i) (by simpa using hv)
  exact ⟨w, H, I.kept kp, rw', q i w ew ei⟩
theorem cr_max_d (hc : X.calm = true) (hu : X.A.units + 100 < cLine) : CallR X (.builtin "max") (rBest X.K true) := by
  intro pins s σ H xs us Q I r ⟨a, vs, ds, d, e, hl, hd, hb, q⟩
  subst e
  obtain ⟨u, rfl, ru⟩ := vals1 r
  cases (show u = Value.ref a from ru)
  obtain ⟨its, rv, p, hz⟩ := I.list hl
  obtain ⟨as, rs⟩ := dp_readsAll I hd rv
  obtain ⟨x, xr, rfl, h1, h2, rfl⟩ := bestB_some hb
  have hdep := okL_depth h1
  refine PySem.W.max_list_data (I.ok.hd hc) p.isList (by simpa using rs) h2 (by omega) fun i v h' tk bs hv rd kp => ?_
  have ei : (x :: xr)[i]? = some (maxD x xr) := best_at (ReadsAll.keeps kp rs) (okL_plain h1) (by simpa using hv) rd (plain_mem (okL_plain h1) _ (maxD_mem x xr))
  obtain ⟨w, ew, rw'⟩ := vals_get rv (i := i) (by simpa using hv)
  exact ⟨w, H, I.kept kp, rw', q i w ew ei⟩
/-- with default= -/
def rBestD (K : PySem.W.Frag) (b : Bool) : List V → List V → Hp → VK → Prop := fun xs zs H Q => ∃ (a : Addr) (vs : List V) (ds : List PV) (z : V), xs = [.ref a] ∧ zs = [z] ∧ SqL K H a vs ∧ DpAll K H vs ds ∧
  ((ds = [] ∧ Q z H) ∨ ∃ d, bestB b ds = some d ∧ ∀ (i : Nat) (v : V), vs[i]? = some v → ds[i]? = some d → Q v H)
theorem cr_minD (hc : X.calm = true) (hu : X.A.units + 100 < cLine) : CallRK X (.builtin "min") [Str.ofString "default"] (rBestD X.K false) := by
  intro pins s σ H xs zs us ws Q I r rz ⟨a, vs, ds, z, e, e2, hl, hd, hb⟩
  subst e e2
  obtain ⟨u, rfl, ru⟩ := vals1 r
  cases (show u = Value.ref a from ru)
  obtain ⟨w, rfl, rw1⟩ := vals1 rz
  obtain ⟨its, rv, p, hz⟩ := I.list hl
  obtain ⟨as, rs⟩ := dp_readsAll I hd rv
  rcases hb with ⟨rfl, q⟩ | ⟨d, hb, q⟩
  · exact PySem.W.min_list_default (xs := []) (I.ok.hd hc) p.isList (by simpa using rs) ⟨fun _ h => (by cases h), fun _ h => (by cases h)⟩ (by show X.A.units + 1 + 0 < cLine; omega) (fun _ h' tk kp => ⟨z, H, I.kept kp, rw1, q⟩) fun y ys i v h' tk bs e => (by cases e)
  · obtain ⟨x, xr, rfl, h1, h2, rfl⟩ := bestB_some hb
    have hdep := okL_depth h1
    refine PySem.W.min_list_default (I.ok.hd hc) p.isList (by simpa using rs) h2 (by omega) (fun e => (by cases e)) fun y ys i v h' tk bs e hv rd kp => ?_
    cases e
    have ei : (x :: xr)[i]? = some (minD x xr) := best_at (ReadsAll.keeps kp rs) (okL_plain h1) (by simpa using hv) rd (plain_mem (okL_plain h1) _ (minD_mem x xr))
    obtain ⟨w', ew, rw'⟩ := vals_get rv (i := i) (by simpa using hv)
    exact ⟨w', H, I.kept kp, rw', q i w' ew ei⟩
theorem cr_maxD (hc : X.calm = true) (hu : X.A.units + 100 < cLine) : CallRK X (.builtin "max") [Str.ofString "default"] (rBestD X.K true) := by
  intro pins s σ H xs zs us ws Q I r rz ⟨a, vs, ds, z, e, e2, hl, hd, hb⟩
  subst e e2
  obtain ⟨u, rfl, ru⟩ := vals1 r
  cases (show u = Value.ref a from ru)
  obtain ⟨w, rfl, rw1⟩ := vals1 rz
  obtain ⟨its, rv, p, hz⟩ := I.list hl
  obtain ⟨as, rs⟩ := dp_readsAll I hd rv
  rcases hb with ⟨rfl, q⟩ | ⟨d, hb, q⟩
  · exact PySem.W.max_list_default (xs := []) (I.ok.hd hc) p.isList (by simpa using rs) ⟨fun _ h => (by cases h), fun _ h => (by cases h)⟩ (by show X.A.units + 1 + 0 < cLine; omega) (fun _ h' tk kp => ⟨z, H, I.kept kp, rw1, q⟩) fun y ys i v h' tk bs e => (by cases e)
  · obtain ⟨x, xr, rfl, h1, h2, rfl⟩ := bestB_some hb
    have hdep := okL_depth h1
    refine PySem.W.max_list_default (I.ok.hd hc) p.isList (by simpa using rs) h2 (by omega) (fun e => (by cases e)) fun y ys i v h' tk bs e hv rd kp => ?_
    cases e
    have ei : (x :: xr)[i]? = some (maxD x xr) := best_at (ReadsAll.keeps kp rs) (okL_plain h1) (by simpa using hv) rd (plain_mem (okL_plain h1) _ (maxD_mem x xr))
    obtain ⟨w', ew, rw'⟩ := vals_get rv (i := i) (by simpa using hv)
    exact ⟨w', H, I.kept kp, rw', q i w' ew ei⟩
end
end Pz
set_option Elab.async false
set_option linter.all false
set_option maxRecDepth 100000
set_option maxHeartbeats 1000000
/-! Pz: sorted. -/
namespace Pz
open PySem PySem.Spec PyProof.Rows L2
open PySem.W (alike dataLt minD maxD dataLe EachIs TotalLe sameRank sort_unique AllAlike Sortable)

section
variable {α : Type} {le : α → α → Bool}
theorem insB_mem (x : α) : ∀ (l : List α) (y : α), y ∈ insB le x l ↔ y = x ∨ y ∈ l
  | [], y => by simp [insB]
  | z :: r, y => by
    unfold insB
    split
    · simp
    · rw [List.mem_cons, insB_mem x r y, List.mem_cons]
      constructor
      · rintro (h | h | h)
        · exact .inr (.inl h)
        · exact .inl h
        · exact .inr (.inr h)
      · rintro (h | h | h)
        · exact .inr (.inl h)
        · exact .inl h
        · exact .inr (.inr h)
theorem insB_perm (x : α) : ∀ (l : List α), (insB le x l).Perm (x :: l)
  | [] => .refl _
  | z :: r => by
    unfold insB
    split
    · exact .refl _
    · exact ((insB_perm x r).cons z).trans (List.Perm.swap x z r)
theorem sortB_perm : ∀ (l : List α), (sortB le l).Perm l
  | [] => .refl _
  | x :: r => (insB_perm x (sortB le r)).trans ((sortB_perm r).cons x)
theorem insB_sorted (h : TotalLe le) (x : α) : ∀ (l : List α), l.Pairwise (fun a b => le a b = true) → (insB le x l).Pairwise (fun a b => le a b = true)
  | [], _ => List.pairwise_singleton _ _
  | z :: r, p => by
    obtain ⟨p1, p2⟩ := List.pairwise_cons.mp p
    unfold insB
    split
    · rename_i q
      refine List.pairwise_cons.mpr ⟨fun b hb => ?_, p⟩
      rcases List.mem_cons.mp hb with e | hb
      · rw [e]; exact q
      · exact h.trans _ _ _ q (p1 b hb)
    · rename_i q
      refine List.pairwise_cons.mpr ⟨fun b hb => ?_, insB_sorted h x r p2⟩
      rcases (insB_mem x r b).mp hb with e | hb
      · rw [e]
        exact (h.total x z).elim (fun z => absurd z q) id
      · exact p1 b hb
theorem sortB_sorted (h : TotalLe le) : ∀ (l : List α), (sortB le l).Pairwise (fun a b => le a b = true)
  | [] => List.Pairwise.nil
  | x :: r => insB_sorted h x _ (sortB_sorted h r)
theorem insB_stable (h : TotalLe le) (c x : α) : ∀ (l : List α), (insB le x l).filter (sameRank le c) = (x :: l).filter (sameRank le c)
  | [] => rfl
  | z :: r => by
    unfold insB
    split
    · rfl
    · rename_i q
      have ih := insB_stable h c x r
      rw [List.filter_cons, ih, List.filter_cons, List.filter_cons, List.filter_cons]
      by_cases hx : sameRank le c x = true
      · by_cases hz : sameRank le c z = true
        · exfalso
          unfold sameRank at hx hz
          rw [Bool.and_eq_true] at hx hz
          exact q (h.trans _ _ _ hx.2 hz.1)
        · simp only [if_neg hz, if_pos hx]
      · simp only [if_neg hx]
theorem sortB_stable (h : TotalLe le) (c : α) : ∀ (l : List α), (sortB le l).filter (sameRank le c) = l.filter (sameRank le c)
  | [] => rfl
  | x :: r => by
    show (insB le x (sortB le r)).filter _ = _
    rw [insB_stable h c x, List.filter_cons, List.filter_cons, sortB_stable h c r]
theorem sortB_merge (h : TotalLe le) (l : List α) : sortB le l = l.mergeSort le := sort_unique h (sortB_sorted h l) fun c => sortB_stable h c l
end
theorem dataLe_total {β : Type} (k : β → PV) : TotalLe (dataLe false k) := PySem.W.sortLe_total (listOrd itemOrd) false fun b => PySem.W.keyToks (k b)
theorem canSort_of {ds : List PV} (h : canSort ds = true) : okL ds = true ∧ AllAlike ds ∧ Sortable ds := by
  unfold canSort at h
  simp only [Bool.and_eq_true, Bool.or_eq_true] at h
  obtain ⟨⟨h1, h2⟩, h3⟩ := h
  refine ⟨h1, fun d hd d' hd' => alikeB_all h2 d hd d' hd', ?_⟩
  rcases h3 with h3 | h3
  · refine .inl fun d hd => ?_
    have := List.all_eq_true.mp h3 d hd
    unfold isTup1 at this
    split at this
    · exact ⟨_, _, rfl⟩
    · cases this
  · refine .inr fun d hd => ?_
    have := List.all_eq_true.mp h3 d hd
    unfold noTup at this
    constructor
    · rintro rfl; cases this
    · rintro xs rfl; cases this
theorem zip_each {K : PySem.W.Frag} {F : Hp} : ∀ {vs : List V} {ds : List PV} {us : List Value}, DpAll K F vs ds → Vals vs us → EachIs (fun (u : Value) (b : V × PV) => RelV b.1 u) us (vs.zip ds)
  | _, _, _, .nil, .nil => .nil
  | _, _, _, .cons _ hs, .cons r rs => .cons r (zip_each hs rs)
theorem zip_reads {h : Heap} : ∀ {vs : List V} {ds : List PV} {us : List Value} {as : List Addr}, vs.length = ds.length → ReadsAll h us ds as → EachIs (fun (u : Value) (b : V × PV) => ∃ as, Reads h u b.2 as) us (vs.zip ds)
  | [], [], _, _, _, .nil => .nil
  | v :: vs, d :: ds, _, _, e, .cons r rs => .cons ⟨_, r⟩ (zip_reads (by simpa using e) rs)
theorem vals_each : ∀ {us : List Value} {bs : List (V × PV)}, EachIs (fun (u : Value) (b : V × PV) => RelV b.1 u) us bs → Vals (bs.map (·.1)) us
  | _, _, .nil => .nil
  | _, _, .cons r rs => .cons r (vals_each rs)
theorem zip_mem {K : PySem.W.Frag} {F : Hp} : ∀ {vs : List V} {ds : List PV}, DpAll K F vs ds → ∀ b ∈ vs.zip ds, Dp K F b.1 b.2
  | _, _, .nil, b, hb => by cases hb
  | _, _, .cons h hs, b, hb => by
    rw [List.zip_cons_cons] at hb
    rcases List.mem_cons.mp hb with e | hb
    · rw [e]; exact h
    · exact zip_mem hs b hb
theorem dpAll_of {K : PySem.W.Frag} {F : Hp} : ∀ {bs : List (V × PV)}, (∀ b ∈ bs, Dp K F b.1 b.2) → DpAll K F (bs.map (·.1)) (bs.map (·.2))
  | [], _ => .nil
  | b :: bs, h => .cons (h b List.mem_cons_self) (dpAll_of fun c hc => h c (List.mem_cons_of_mem _ hc))
section
variable {X : Cx}
def rSortD (K : PySem.W.Frag) : List V → Hp → VK → Prop := fun xs H Q => ∃ (a : Addr) (vs : List V) (ds : List PV), xs = [.ref a] ∧ SqL K H a vs ∧ DpAll K H vs ds ∧ canSort ds = true ∧
  ∀ p vs', H p = none → (∀ F, DpAll K F vs ds → DpAll K F vs' (sortB (dataLe false id) ds)) → Q (.ref p) (upd H p (.lst vs'))
theorem cr_sorted_d (hu : X.A.units + 100 < cLine) : CallR X (.builtin "sorted") (rSortD X.K) := by
  intro pins s σ H xs us Q I r ⟨a, vs, ds, e, hl, hd, hc, q⟩
  subst e
  obtain ⟨u, rfl, ru⟩ := vals1 r
  cases (show u = Value.ref a from ru)
  obtain ⟨its, rv, p, hz⟩ := I.list hl
  obtain ⟨as, rs⟩ := dp_readsAll I hd rv
  obtain ⟨h1, h2, h3⟩ := canSort_of hc
  have hlen := dpAll_len hd
  have es : (vs.zip ds).map (·.2) = ds := List.map_snd_zip (by omega)
  have hdep := okL_depth h1
  have dle : ∀ d ∈ ds, d.depth ≤ PyData.depthAll ds := by
    intro d
    clear hdep h1 h2 h3 hc hd rs es hlen q
    induction ds with
    | nil => intro h; cases h
    | cons x r ih =>
      intro h
      show d.depth ≤ max x.depth (PyData.depthAll r)
      rcases List.mem_cons.mp h with e | h
      · rw [e]; exact Nat.le_max_left _ _
      · exact Nat.le_trans (ih h) (Nat.le_max_right _ _)
  refine PySem.W.sorted_data (enc := fun b : V × PV => b.2) p.isList (zip_each hd rv) (zip_reads hlen rs) (by rw [es]; exact h2) (by rw [es]; exact h3) (by rw [List.length_zip]; omega)
    (fun b hb => by have := dle b.2 (by rw [← es]; exact List.mem_map_of_mem hb); omega) fun out hout eo => ?_
  have hlo : (out.toArray).size = vs.length := by rw [List.size_toArray, hout, List.length_zip]; omega
  have kp : ∀ b o, s.heap.get? b = some o → (sortedAll s.heap its out.toArray).get? b = some o := fun b o e => sortedAll_old e
  obtain ⟨n, hn⟩ := sortedAll_at s.heap its out.toArray
  have ro := vals_each eo
  have es2 : ((vs.zip ds).mergeSort (dataLe false fun b : V × PV => b.2)).map (·.2) = sortB (dataLe false id) ds := by
    have := PySem.W.sort_maps (r := dataLe false fun b : V × PV => b.2) (s := dataLe false id) (l := vs.zip ds) (fun b : V × PV => b.2) (fun a _ b _ => rfl)
    rw [sortB_merge (dataLe_total id), this, es]
  refine ⟨.ref (s.heap.objs.size + 1), upd H (s.heap.objs.size + 1) (.lst (((vs.zip ds).mergeSort (dataLe false fun b : V × PV => b.2)).map (·.1))), I.laid (t' := s.toks) kp (Nat.le_succ _) ⟨?_, out, n, ro, hn⟩, rfl, q _ _ (I.hok.fresh (Nat.le_succ _)) fun F hF => ?_⟩
  · rw [ro.length, ← List.size_toArray, hlo]; exact hz
  · rw [← es2]
    exact dpAll_of fun b hb => zip_mem hF b (List.mem_mergeSort.mp hb)

/-- isinstance -/
def tyS : Ty → String
  | .int => "int" | .bool => "bool" | .str => "str" | .tuple => "tuple" | .list => "list"
theorem cr_isi : CallR X (.builtin "isinstance") (fun xs H Q => ∃ v d t b, xs = [v, .ty (tyS t)] ∧ Dp X.K H v d ∧ isiB d t = some b ∧ Q (.bl b) H) := by
  intro pins s σ H xs us Q I r ⟨v, d, t, b, e, hd, hb, q⟩
  subst e
  obtain ⟨u, u2, rfl, r1, r2⟩ := vals2 r
  cases (show u2 = Value.type (tyS t) from r2)
  obtain ⟨as, rd⟩ := Dp.reads I d v u hd r1
  have fin : ∀ c : Bool, c = b → ∀ tk, s.toks ≤ tk → EP X pins σ Q (.bool c) { s with toks := tk } := fun c e tk _ => by
    subst e; exact ⟨.bl _, H, I.tok tk, rfl, q⟩
  cases t with
  | int => exact PySem.W.isinstance_int_data rd (fin _ (by cases d <;> first | (cases hb; rfl) | cases hb))
  | bool => exact PySem.W.isinstance_bool_data rd (fin _ (by cases d <;> first | (cases hb; rfl) | cases hb))
  | str => exact PySem.W.isinstance_str_data rd (fin _ (by cases d <;> first | (cases hb; rfl) | cases hb))
  | tuple => exact PySem.W.isinstance_tuple_data rd (fin _ (by cases d <;> first | (cases hb; rfl) | cases hb))
  | list => exact PySem.W.isinstance_list_data rd (fin _ (by cases d <;> first | (cases hb; rfl) | cases hb))
end
end Pz
set_option Elab.async false
set_option linter.all false
set_option maxRecDepth 100000
set_option maxHeartbeats 1000000
/-! Pz: the evaluator's expressions are the model's. -/
namespace Pz
open PySem PySem.Spec PyProof.Rows L2

def bltNames : List Str := ["len", "sum", "min", "max", "all", "any", "tuple", "list", "sorted", "int", "str", "abs", "bool", "reversed", "isinstance", "range", "enumerate", "zip"]

/-- the context suits the check and the evaluator -/
structure Ok (X : Cx) (ci : CI) (C : Str → List PV → Option RV) (G : Str → Option PV) : Prop where
  N : X.N = ci.N
  sc : X.env.scope = ci.sc
  fk : X.env.scope.kind = .function
  nd : X.N.Nodup
  calm : X.calm = true
  hd : X.A.handled = none
  hu : X.A.units + 100 < cLine
  st : ∀ x, ci.st x = true → X.fn x = true ∨ X.env.scope.names.lookup x = some .local
  glob : ∀ x v, G x = some v → ∃ u y, X.mg x = some u ∧ RelV y u ∧ ∀ F : Hp, Dp X.K F y v
  blt : ∀ x ∈ bltNames, X.mg x = none
  im : ∀ p ∈ ci.im, X.mg p.1 = some (.builtin p.2)
  call : ∀ f, (∃ vs r, C f vs = some r) → ∃ (k : Nat) (a : Addr) (fd : FuncData) (ps : List Str) (sp : Sp), FnOk X.prog X.w X.K X.mg X.base CX0 k a fd ps sp ∧ Room k X.A ∧ X.mg f = some (.ref a) ∧
    PySem.W.keepIn X.K (.ref a) = true ∧ Binds X.K fd ps [] ∧
    ∀ vs r ws F H Q, C f vs = some r → Same F H → DpAll X.K F ws vs → (∀ v F' H', Step F H F' H' → RepR X.K H F' H' r v → Q v H') → sp ws H Q E0

/-- what an expression does, of itself -/
def wE (X : Cx) (e : Expr) : TE := fun σ H Q => ∀ (pins : List (Addr × Obj)) (s : Shared), Inv X pins σ H s → wpAny (model X.prog X.w) X.A (eval e X.env) (EP X pins σ Q) X.xe s
theorem pe_w {X : Cx} {e : Expr} : PE X e (wE X e) := ⟨fun pins s σ H Q I h => h pins s I⟩
theorem wE_of {X : Cx} {e : Expr} {t : TE} {σ : L2.St} {H : Hp} {Q : VK} (h : PE X e t) (q : t σ H Q) : wE X e σ H Q := fun pins s I => h.run pins s σ H Q I q
theorem wE_mono {X : Cx} {e : Expr} {σ : L2.St} {H : Hp} {Q Q' : VK} (h : wE X e σ H Q) (m : ∀ v H', Q v H' → Q' v H') : wE X e σ H Q' :=
  fun pins s I => thn (h pins s I) fun u s' ⟨v, H', I', r, q⟩ => ⟨v, H', I', r, m _ _ q⟩
def wT (X : Cx) (e : Expr) : TT := fun σ H Q => ∀ (pins : List (Addr × Obj)) (s : Shared), Inv X pins σ H s → wpAny (model X.prog X.w) X.A (isTrue e X.env (eval e X.env)) (TP X pins σ Q) X.xe s
theorem pt_w {X : Cx} {e : Expr} : PT X e (wT X e) := ⟨fun pins s σ H Q I h => h pins s I⟩
theorem wT_of {X : Cx} {e : Expr} {t : TT} {σ : L2.St} {H : Hp} {Q : Bool → Hp → Prop} (h : PT X e t) (q : t σ H Q) : wT X e σ H Q := fun pins s I => h.run pins s σ H Q I q
def wA (X : Cx) (es : List Expr) : TA := fun σ H Q => ∀ (pos : Pos) (pins : List (Addr × Obj)) (s : Shared), Inv X pins σ H s → wpAny (model X.prog X.w) X.A (spliced (backTo pos (starEach es X.env))) (AP X pins σ Q) X.xe s
theorem pa_w {X : Cx} {es : List Expr} : PA X es (wA X es) := ⟨fun pos pins s σ H Q I h => h pos pins s I⟩
theorem wA_of {X : Cx} {es : List Expr} {t : TA} {σ : L2.St} {H : Hp} {Q : List V → Hp → Prop} (h : PA X es t) (q : t σ H Q) : wA X es σ H Q := fun pos pins s I => h.run pos pins s σ H Q I q

/-- e does what ev says -/
def Snd (X : Cx) (e : Expr) (ev : En → Option RV) : Prop := ∀ (F0 B : Hp) (ρ : En) (σ : L2.St) (F H : Hp) (r : RV) (Q : VK), Rel X.K F0 B ρ σ F H → ev ρ = some r →
  (∀ v F' H', Step F H F' H' → RepR X.K H F' H' r v → Q v H') → wE X e σ H Q
/-- .. where a list of one's own may be looked at -/
def SndB (X : Cx) (e : Expr) (ev : En → Option PV) : Prop := ∀ (F0 B : Hp) (ρ : En) (σ : L2.St) (F H : Hp) (d : PV) (Q : VK), Rel X.K F0 B ρ σ F H → ev ρ = some d →
  (∀ v F' H', Step F H F' H' → Bor X.K F' H' v d → Q v H') → wE X e σ H Q
/-- as a test -/
def SndT (X : Cx) (e : Expr) (ev : En → Option PV) : Prop := ∀ (F0 B : Hp) (ρ : En) (σ : L2.St) (F H : Hp) (d : PV) (b : Bool) (Q : Bool → Hp → Prop), Rel X.K F0 B ρ σ F H → ev ρ = some d → truth d = some b →
  (∀ F' H', Step F H F' H' → Q b H') → wT X e σ H Q
/-- arguments handed on; looked at -/
def SndA (X : Cx) (es : List Expr) (ev : En → Option (List PV)) : Prop := ∀ (F0 B : Hp) (ρ : En) (σ : L2.St) (F H : Hp) (ds : List PV) (Q : List V → Hp → Prop), Rel X.K F0 B ρ σ F H → ev ρ = some ds →
  (∀ vs F' H', Step F H F' H' → DpAll X.K F' vs ds → Q vs H') → wA X es σ H Q
inductive BorAll (K : PySem.W.Frag) (F H : Hp) : List V → List PV → Prop
  | nil : BorAll K F H [] []
  | cons {v : V} {vs : List V} {d : PV} {ds : List PV} : Bor K F H v d → BorAll K F H vs ds → BorAll K F H (v :: vs) (d :: ds)
theorem BorAll.step {K : PySem.W.Frag} {F H F' H' : Hp} (s : Step F H F' H') : ∀ {vs : List V} {ds : List PV}, BorAll K F H vs ds → BorAll K F' H' vs ds
  | _, _, .nil => .nil
  | _, _, .cons h hs => .cons (h.step s) (hs.step s)
def SndR (X : Cx) (es : List Expr) (ev : En → Option (List PV)) : Prop := ∀ (F0 B : Hp) (ρ : En) (σ : L2.St) (F H : Hp) (ds : List PV) (Q : List V → Hp → Prop), Rel X.K F0 B ρ σ F H → ev ρ = some ds →
  (∀ vs F' H', Step F H F' H' → BorAll X.K F' H' vs ds → Q vs H') → wA X es σ H Q

section
variable {X : Cx} {ci : CI} {C : Str → List PV → Option RV} {G : Str → Option PV} {F0 B : Hp} {ρ : En} {σ : L2.St} {F H : Hp}

/-- a result as a value -/
theorem Snd.va {e : Expr} {ev : En → Option RV} (h : Snd X e ev) {r : RV} {Q : VK} (R : Rel X.K F0 B ρ σ F H) (e1 : ev ρ = some r) (q : ∀ v F' H', Step F H F' H' → Dp X.K F' v r.v → Q v H') : wE X e σ H Q :=
  h F0 B ρ σ F H r Q R e1 fun v F' H' s rp => let ⟨F'', s', _, d⟩ := freeze s rp; q v F'' H' s' d
/-- the visible names -/
theorem vis_of (O : Ok X ci C G) {x : Str} (h : visB ci x = true) : Vis X.env.scope x := by
  unfold visB knd at h
  rw [← O.sc] at h
  unfold Vis
  split at h <;> simp_all
theorem loc_of (O : Ok X ci C G) {x : Str} (h : locB ci x = true) : L2.Loc X.env.scope x := by
  unfold locB knd at h
  rw [← O.sc] at h
  unfold L2.Loc
  split at h <;> simp_all
theorem gl_of (O : Ok X ci C G) {x : Str} (h : glB ci x = true) : Gl X x := by
  unfold glB knd at h
  rw [← O.sc] at h
  unfold Gl
  show X.env.scope.names.lookup x = _
  split at h <;> simp_all
theorem star_of {e : Expr} {es : List Expr} {env : Env} (h : noStar e = true) : starEach (e :: es) env = (false, eval e env) :: starEach es env := by
  cases e <;> first | rfl | cases h
theorem stars_of {env : Env} {pos : Pos} : ∀ {es : List Expr}, noStars es = true → (backTo pos (starEach es env)).any (·.1) = false
  | [], _ => rfl
  | e :: es, h => by
    unfold noStars at h
    rw [List.all_cons, Bool.and_eq_true] at h
    rw [star_of h.1]
    show (false || (backTo pos (starEach es env)).any (·.1)) = false
    rw [stars_of (es := es) h.2]; rfl
theorem nm_of (O : Ok X ci C G) {i : Nat} {x : Str} (h : ci.N[i]? = some x) : X.N[i]? = some x := by rw [O.N]; exact h

theorem snd_var_b (O : Ok X ci C G) {i : Nat} {x : Str} {pos : Pos} (h : isE ci (.var i) (.Name x pos) = true) : SndB X (.Name x pos) (fun ρ => slotR ρ i) := by
  intro F0 B ρ σ F H d Q R e q
  have h : (decide (ci.N[i]? = some x) && visB ci x && okName x) = true := h
  simp only [Bool.and_eq_true, decide_eq_true_eq] at h
  obtain ⟨⟨h1, h2⟩, h3⟩ := h
  unfold okName at h3
  simp only [Bool.and_eq_true, Bool.not_eq_true'] at h3
  obtain ⟨y, e1, b⟩ := R.slotR e
  exact wE_of (pe_var (nm_of O h1) (vis_of O h2) h3.1.1 h3.1.2) ⟨y, e1, q y F H (Step.rfl' R.le) b⟩
theorem snd_var (O : Ok X ci C G) {i : Nat} {x : Str} {pos : Pos} (h : isE ci (.var i) (.Name x pos) = true) : Snd X (.Name x pos) (evE C G (.var i)) := by
  intro F0 B ρ σ F H r Q R e q
  have h : (decide (ci.N[i]? = some x) && visB ci x && okName x) = true := h
  simp only [Bool.and_eq_true, decide_eq_true_eq] at h
  obtain ⟨⟨h1, h2⟩, h3⟩ := h
  unfold okName at h3
  simp only [Bool.and_eq_true, Bool.not_eq_true'] at h3
  have e : (match ρ[i]? with | some (.val v) => some (⟨v, false⟩ : RV) | _ => none) = some r := e
  split at e
  · rename_i v h
    cases e
    obtain ⟨y, e1, b⟩ := R.val i v h
    exact wE_of (pe_var (nm_of O h1) (vis_of O h2) h3.1.1 h3.1.2) ⟨y, e1, q y F H (Step.rfl' R.le) (.of b)⟩
  · cases e
theorem snd_glob (O : Ok X ci C G) {y x : Str} {pos : Pos} (h : isE ci (.glob y) (.Name x pos) = true) : Snd X (.Name x pos) (evE C G (.glob y)) := by
  intro F0 B ρ σ F H r Q R e q
  have h : (decide (x = y) && glB ci x && okName x) = true := h
  simp only [Bool.and_eq_true, decide_eq_true_eq] at h
  obtain ⟨⟨h1, h2⟩, h3⟩ := h
  subst h1
  unfold okName at h3
  simp only [Bool.and_eq_true, Bool.not_eq_true'] at h3
  have e : (G x).map (fun v => (⟨v, false⟩ : RV)) = some r := e
  obtain ⟨v, e1, e2⟩ := Option.map_eq_some_iff.mp e
  subst e2
  obtain ⟨u, y, m, rl, d⟩ := O.glob x v e1
  exact wE_of (pe_glob (gl_of O h2) m rl h3.1.1) (q y F H (Step.rfl' R.le) (.of (d F)))
/-- constants -/
theorem snd_c {e : Expr} {v : V} {d : PV} (p : PE X e (tC v)) (h : ∀ F : Hp, Dp X.K F v d) : Snd X e (fun _ => some ⟨d, false⟩) := by
  intro F0 B ρ σ F H r Q R e q
  cases e
  exact wE_of p (q v F H (Step.rfl' R.le) (.of (h F)))

/-- looking: from Snd, or a name -/
theorem snd_rd {p : Tx} {e : Expr} {ev : En → Option RV} (h : Snd X e ev) (hv : ∀ i, p = .var i → SndB X e (fun ρ => slotR ρ i)) : SndB X e (fun ρ => rd p (ev ρ) ρ) := by
  intro F0 B ρ σ F H d Q R e1 q
  unfold rd at e1
  split at e1
  · exact hv _ rfl F0 B ρ σ F H d Q R e1 q
  · obtain ⟨r, e2, e3⟩ := Option.map_eq_some_iff.mp e1
    subst e3
    exact h F0 B ρ σ F H r Q R e2 fun v F' H' s rp => q v F' H' s rp.bor

theorem bind_some {α β : Type} {o : Option α} {f : α → Option β} {r : β} (h : (o >>= f) = some r) : ∃ a, o = some a ∧ f a = some r := by
  cases o with
  | none => cases h
  | some a => exact ⟨a, rfl, h⟩

/-- two operands, looked at -/
theorem snd_two {a b : Expr} {ea eb : En → Option PV} (ha : SndB X a ea) (hb : SndB X b eb) {x y : PV} {k : V → V → Hp → Prop} (R : Rel X.K F0 B ρ σ F H) (e1 : ea ρ = some x) (e2 : eb ρ = some y)
    (q : ∀ v w F' H', Step F H F' H' → Bor X.K F' H' v x → Bor X.K F' H' w y → k v w H') : wE X a σ H fun v H1 => wE X b σ H1 fun w H2 => k v w H2 :=
  ha F0 B ρ σ F H x _ R e1 fun v F1 H1 s1 b1 => hb F0 B ρ σ F1 H1 y _ (R.step s1) e2 fun w F2 H2 s2 b2 => q v w F2 H2 (s1.trans s2) (b1.step s2) b2

theorem lim_line {n : Nat} (h : n ≤ LIM) : n ≤ sizeLine := by rw [sizeLine_eq]; unfold LIM at h; omega

theorem int64 {a : Int} (h : a.natAbs < 18446744073709551616) : -(2 ^ 64) < a ∧ a < 2 ^ 64 := by
  constructor <;> omega

theorem snd_bin {o : Op2} {a b : Expr} {ea eb : En → Option PV} {pos : Pos} (ha : SndB X a ea) (hb : SndB X b eb) : Snd X (.BinOp a (opOp o) b pos) (fun ρ => do let x ← ea ρ; let y ← eb ρ; evBin o x y) := by
  intro F0 B ρ σ F H r Q R e q
  obtain ⟨x, e1, e⟩ := bind_some e
  obtain ⟨y, e2, e⟩ := bind_some e
  have two := @snd_two X F0 B ρ σ F H a b ea eb ha hb x y
  unfold evBin at e
  split at e
  · -- ints, +
    cases e
    exact wE_of (pe_op op_add pe_w pe_w) (two R e1 e2 fun v w F' H' s b1 b2 => ⟨_, _, b1.int, b2.int, q _ F' H' s (.of (.int _))⟩)
  · -- texts
    split at e
    · cases e
      exact wE_of (pe_op op_add_str pe_w pe_w) (two R e1 e2 fun v w F' H' s b1 b2 => ⟨_, _, b1.str, b2.str, lim_line (by assumption), q _ F' H' s (.of (.str _))⟩)
    · cases e
  · -- tuples
    split at e
    · rename_i hz
      cases e
      refine wE_of (pe_op op_catA pe_w pe_w) (two R e1 e2 fun v w F' H' s b1 b2 => ?_)
      obtain ⟨l, vs, rfl, h1, d1⟩ := b1.tup s.le
      obtain ⟨m, ws, rfl, h2, d2⟩ := b2.tup s.le
      have z : vs.length + ws.length ≤ sizeLine := by rw [dpAll_len d1, dpAll_len d2]; exact lim_line hz
      refine ⟨l, m, vs, ws, rfl, rfl, h1, h2, z, fun e0 => ?_, fun _ e0 => ?_, fun _ _ p np => ?_⟩
      · subst e0
        cases d1
        rcases b2 with b2 | ⟨_, _, _, c, _⟩
        · exact q _ F' H' s (.of b2)
        · cases c
      · subst e0
        cases d2
        rcases b1 with b1 | ⟨_, _, _, c, _⟩
        · refine q _ F' H' s (.of ?_)
          rw [List.append_nil]; exact b1
        · cases c
      · have s2 := Step.new (o := .tup (vs ++ ws)) s.le np
        exact q _ _ _ (s.trans s2) (.of (.tup (SqT.of upd_same) (dpAll_mono s2.f (dpAll_app d1 d2))))
    · cases e
  · -- lists
    split at e
    · rename_i hz
      cases e
      refine wE_of (pe_op opcat pe_w pe_w) (two R e1 e2 fun v w F' H' s b1 b2 => ?_)
      obtain ⟨l, vs, rfl, h1, d1⟩ := b1.list s.le
      obtain ⟨m, ws, rfl, h2, d2⟩ := b2.list s.le
      have z : vs.length + ws.length ≤ sizeLine := by rw [dpAll_len d1, dpAll_len d2]; exact lim_line hz
      refine ⟨l, m, vs, ws, rfl, rfl, h1, h2, z, fun p np => ?_⟩
      exact q _ _ _ (s.trans (Step.lay s.le np)) (.new (s.h.free np) upd_same (s.le.free np) (dpAll_app d1 d2))
    · cases e
  · cases e
    exact wE_of (pe_op op_sub pe_w pe_w) (two R e1 e2 fun v w F' H' s b1 b2 => ⟨_, _, b1.int, b2.int, q _ F' H' s (.of (.int _))⟩)
  · split at e
    · rename_i hz
      cases e
      simp only [Bool.or_eq_true, decide_eq_true_eq] at hz
      exact wE_of (pe_op op_mul pe_w pe_w) (two R e1 e2 fun v w F' H' s b1 b2 => ⟨_, _, b1.int, b2.int, hz.elim (fun z => .inl (int64 z)) (fun z => .inr (int64 z)), q _ F' H' s (.of (.int _))⟩)
    · cases e
  · -- a list so many times
    split at e
    · rename_i hz
      cases e
      simp only [Bool.and_eq_true, decide_eq_true_eq] at hz
      refine wE_of (pe_op oprepL pe_w pe_w) (two R e1 e2 fun v w F' H' s b1 b2 => ?_)
      obtain ⟨l, vs, rfl, h1, d1⟩ := b1.list s.le
      have zl := dpAll_len d1
      refine ⟨l, _, vs, rfl, b2.int, h1, hz.1.1, hz.1.2, by omega, fun p np => ?_⟩
      exact q _ _ _ (s.trans (Step.lay s.le np)) (.new (s.h.free np) upd_same (s.le.free np) (dpAll_rep d1 _))
    · cases e
  · -- a tuple so many times
    split at e
    · rename_i hz
      cases e
      simp only [Bool.and_eq_true, decide_eq_true_eq, Bool.not_eq_true'] at hz
      obtain ⟨⟨⟨z1, z2⟩, z3⟩, z4⟩ := hz
      rename_i ds k _
      by_cases k1 : k = 1
      · subst k1
        refine wE_of (pe_op op_repT1 pe_w pe_w) (two R e1 e2 fun v w F' H' s b1 b2 => ?_)
        obtain ⟨l, vs, hv, h1, d1⟩ := b1.tup s.le
        refine ⟨l, vs, hv, b2.int, h1, ?_⟩
        subst hv
        rcases b1 with b1 | ⟨_, _, _, c, _⟩
        · refine q _ F' H' s (.of ?_)
          have : (List.replicate (1 : Int).toNat ds).flatten = ds := by simp
          rw [this]; exact b1
        · cases c
      · refine wE_of (pe_op op_repT pe_w pe_w) (two R e1 e2 fun v w F' H' s b1 b2 => ?_)
        obtain ⟨l, vs, rfl, h1, d1⟩ := b1.tup s.le
        have zl := dpAll_len d1
        refine ⟨l, _, vs, rfl, b2.int, h1, fun e0 => ?_, by omega, z2, by omega, fun p np => ?_⟩
        · subst e0
          cases d1
          cases z3
        · have s2 := Step.new (o := .tup (List.replicate k.toNat vs).flatten) s.le np
          exact q _ _ _ (s.trans s2) (.of (.tup (SqT.of upd_same) (dpAll_mono s2.f (dpAll_rep d1 _))))
    · cases e
  · split at e
    · rename_i hz
      cases e
      simp only [Bool.and_eq_true, decide_eq_true_eq] at hz
      exact wE_of (pe_op op_fdiv pe_w pe_w) (two R e1 e2 fun v w F' H' s b1 b2 => ⟨_, _, b1.int, b2.int, hz, q _ F' H' s (.of (.int _))⟩)
    · cases e
  · split at e
    · rename_i hz
      cases e
      exact wE_of (pe_op op_mod pe_w pe_w) (two R e1 e2 fun v w F' H' s b1 b2 => ⟨_, _, b1.int, b2.int, hz, q _ F' H' s (.of (.int _))⟩)
    · cases e
  · split at e
    · rename_i hz
      cases e
      simp only [Bool.and_eq_true, decide_eq_true_eq] at hz
      exact wE_of (pe_op op_pow pe_w pe_w) (two R e1 e2 fun v w F' H' s b1 b2 => ⟨_, _, b1.int, b2.int, ⟨hz.1.1, by omega, hz.2⟩, q _ F' H' s (.of (.int _))⟩)
    · cases e
  · split at e
    · rename_i hz
      cases e
      simp only [Bool.and_eq_true, decide_eq_true_eq] at hz
      exact wE_of (pe_op op_shl pe_w pe_w) (two R e1 e2 fun v w F' H' s b1 b2 => ⟨_, _, b1.int, b2.int, ⟨hz.1.1, by omega, hz.2⟩, q _ F' H' s (.of (.int _))⟩)
    · cases e
  · cases e

/-- one operand, looked at -/
theorem SndB.run {a : Expr} {ea : En → Option PV} (ha : SndB X a ea) {x : PV} {Q : VK} (R : Rel X.K F0 B ρ σ F H) (e1 : ea ρ = some x) (q : ∀ v F' H', Step F H F' H' → Bor X.K F' H' v x → Q v H') : wE X a σ H Q := ha F0 B ρ σ F H x Q R e1 q
/-- the result is a truth value -/
theorem boolQ {r : RV} {b : Bool} {Q : VK} (er : (⟨.bool b, false⟩ : RV) = r) (q : ∀ v F' H', Step F H F' H' → RepR X.K H F' H' r v → Q v H') {F' H' : Hp} (s : Step F H F' H') : Q (.bl b) H' := by
  subst er; exact q _ F' H' s (.of (.bl b))

theorem snd_neg {a : Expr} {ea : En → Option PV} {pos : Pos} (ha : SndB X a ea) : Snd X (.UnaryOp .USub a pos) (fun ρ => do match ← ea ρ with | .int i => some ⟨.int (-i), false⟩ | _ => none) := by
  intro F0 B ρ σ F H r Q R e q
  obtain ⟨x, e1, e⟩ := bind_some e
  split at e
  · cases e
    exact wE_of (pe_un un_neg pe_w) (ha.run R e1 fun v F' H' s b => ⟨_, b.int, q _ F' H' s (.of (.int _))⟩)
  · cases e
/-- truth, of anything looked at -/
theorem tru_of {d : PV} {b : Bool} {v : V} (t : truth d = some b) (le : Same F H) (h : Bor X.K F H v d) : TruV X.K v H b := by
  unfold truth at t
  split at t
  · cases t; rw [h.none]; rfl
  · cases t; rw [h.bool]; rfl
  · cases t; rw [h.int]; rfl
  · split at t
    · cases t; rw [h.str]; exact ⟨lim_line (by assumption), by rw [Bool.eq_iff_iff]; simp⟩
    · cases t
  · cases t
    rename_i xs
    obtain ⟨a, vs, rfl, h1, d1⟩ := h.list le
    refine .inl ⟨vs, h1, ?_⟩
    have := dpAll_len d1
    cases vs <;> cases xs <;> first | rfl | cases this
  · cases t
    rename_i xs
    obtain ⟨a, vs, rfl, h1, d1⟩ := h.tup le
    refine .inr (.inl ⟨vs, h1, ?_⟩)
    have := dpAll_len d1
    cases vs <;> cases xs <;> first | rfl | cases this
  · cases t
theorem snd_not {a : Expr} {ea : En → Option PV} {pos : Pos} (ha : SndB X a ea) : Snd X (.UnaryOp .Not a pos) (fun ρ => do let x ← ea ρ; (truth x).map fun b => ⟨.bool (!b), false⟩) := by
  intro F0 B ρ σ F H r Q R e q
  obtain ⟨x, e1, e⟩ := bind_some e
  obtain ⟨b, t, e⟩ := Option.map_eq_some_iff.mp e
  exact wE_of (pe_notT pe_w) (ha.run R e1 fun v F' H' s bo => ⟨b, tru_of t s.le bo, boolQ (X := X) e q s⟩)
theorem mark_of {b : Expr} {op : CmpOp} (h : noSet b = true) : behindInMarks op b = false := by
  cases b <;> first | rfl | cases h
theorem snd_cmp {o : Cm} {a b : Expr} {ea eb : En → Option PV} {pos : Pos} (hu : X.A.units + 100 < cLine) (hb2 : noSet b = true) (ha : SndB X a ea) (hb : SndB X b eb) :
    Snd X (.Compare a [cmOp o] [b] pos) (fun ρ => do let x ← ea ρ; let y ← eb ρ; (evCmp o x y).map fun c => ⟨.bool c, false⟩) := by
  intro F0 B ρ σ F H r Q R e q
  obtain ⟨x, e1, e⟩ := bind_some e
  obtain ⟨y, e2, e⟩ := bind_some e
  obtain ⟨c, hc, e⟩ := Option.map_eq_some_iff.mp e
  exact wE_of (pe_cmpR (op_cmP hu o) pe_w pe_w (mark_of hb2)) (snd_two ha hb R e1 e2 fun v w F' H' s b1 b2 => ⟨x, y, c, b1.dp s.le, b2.dp s.le, hc, boolQ (X := X) e q s⟩)
theorem snt_cmp {o : Cm} {a b : Expr} {ea eb : En → Option PV} {pos : Pos} (hu : X.A.units + 100 < cLine) (hb2 : noSet b = true) (ha : SndB X a ea) (hb : SndB X b eb) :
    SndT X (.Compare a [cmOp o] [b] pos) (fun ρ => do let x ← ea ρ; let y ← eb ρ; (evCmp o x y).map fun c => (.bool c : PV)) := by
  intro F0 B ρ σ F H d k Q R e t q
  obtain ⟨x, e1, e⟩ := bind_some e
  obtain ⟨y, e2, e⟩ := bind_some e
  obtain ⟨c, hc, e⟩ := Option.map_eq_some_iff.mp e
  subst e
  obtain rfl : c = k := Option.some.inj t
  exact wT_of (pt_cmpR (op_cmP hu o) pe_w pe_w (mark_of hb2)) (snd_two ha hb R e1 e2 fun v w F' H' s b1 b2 => ⟨x, y, c, b1.dp s.le, b2.dp s.le, hc, c, rfl, q F' H' s⟩)
theorem bor_none {v : V} {d : PV} (h : Bor X.K F H v d) : decide (v = .non) = isNone d := by
  rcases h with h | ⟨a, vs, ds, rfl, rfl, _⟩
  · cases h <;> rfl
  · rfl
theorem snd_isN {a : Expr} {ea : En → Option PV} {pos p2 : Pos} {j : Nat} (ha : SndB X a ea) : Snd X (.Compare a [.Is] [.Constant .none j p2] pos) (fun ρ => do let x ← ea ρ; some ⟨.bool (isNone x), false⟩) := by
  intro F0 B ρ σ F H r Q R e q
  obtain ⟨x, e1, e⟩ := bind_some e
  exact wE_of (pe_cmpR op_isN pe_w pe_non (nomark _)) (ha.run R e1 fun v F' H' s bo => ⟨rfl, by rw [bor_none bo]; exact boolQ (X := X) (Option.some.inj e) q s⟩)
theorem snd_notN {a : Expr} {ea : En → Option PV} {pos p2 : Pos} {j : Nat} (ha : SndB X a ea) : Snd X (.Compare a [.IsNot] [.Constant .none j p2] pos) (fun ρ => do let x ← ea ρ; some ⟨.bool (!isNone x), false⟩) := by
  intro F0 B ρ σ F H r Q R e q
  obtain ⟨x, e1, e⟩ := bind_some e
  exact wE_of (pe_cmpR op_notN pe_w pe_non (nomark _)) (ha.run R e1 fun v F' H' s bo => ⟨rfl, by rw [bor_none bo]; exact boolQ (X := X) (Option.some.inj e) q s⟩)
theorem snt_isN {a : Expr} {ea : En → Option PV} {pos p2 : Pos} {j : Nat} (ha : SndB X a ea) : SndT X (.Compare a [.Is] [.Constant .none j p2] pos) (fun ρ => do let x ← ea ρ; some (.bool (isNone x))) := by
  intro F0 B ρ σ F H d k Q R e t q
  obtain ⟨x, e1, e⟩ := bind_some e
  cases e
  cases t
  exact wT_of (pt_cmpR op_isN pe_w pe_non (nomark _)) (ha.run R e1 fun v F' H' s bo => ⟨rfl, _, rfl, by rw [bor_none bo]; exact q F' H' s⟩)
theorem snt_notN {a : Expr} {ea : En → Option PV} {pos p2 : Pos} {j : Nat} (ha : SndB X a ea) : SndT X (.Compare a [.IsNot] [.Constant .none j p2] pos) (fun ρ => do let x ← ea ρ; some (.bool (!isNone x))) := by
  intro F0 B ρ σ F H d k Q R e t q
  obtain ⟨x, e1, e⟩ := bind_some e
  cases e
  cases t
  exact wT_of (pt_cmpR op_notN pe_w pe_non (nomark _)) (ha.run R e1 fun v F' H' s bo => ⟨rfl, _, rfl, by rw [bor_none bo]; exact q F' H' s⟩)
theorem snd_isB {a : Expr} {ea : En → Option PV} {pos p2 : Pos} {j : Nat} {b : Bool} (ha : SndB X a ea) : Snd X (.Compare a [.Is] [.Constant (.bool b) j p2] pos) (fun ρ => do match ← ea ρ with | .bool c => some ⟨.bool (decide (c = b)), false⟩ | _ => none) := by
  intro F0 B ρ σ F H r Q R e q
  obtain ⟨x, e1, e⟩ := bind_some e
  split at e
  · exact wE_of (pe_cmpR op_is_bl pe_w pe_bl (nomark _)) (ha.run R e1 fun v F' H' s bo => ⟨_, _, bo.bool, rfl, boolQ (X := X) (Option.some.inj e) q s⟩)
  · cases e
theorem snt_isB {a : Expr} {ea : En → Option PV} {pos p2 : Pos} {j : Nat} {b : Bool} (ha : SndB X a ea) : SndT X (.Compare a [.Is] [.Constant (.bool b) j p2] pos) (fun ρ => do match ← ea ρ with | .bool c => some (.bool (decide (c = b))) | _ => none) := by
  intro F0 B ρ σ F H d k Q R e t q
  obtain ⟨x, e1, e⟩ := bind_some e
  split at e
  · cases e
    cases t
    exact wT_of (pt_cmpR op_is_bl pe_w pe_bl (nomark _)) (ha.run R e1 fun v F' H' s bo => ⟨_, _, bo.bool, rfl, _, rfl, q F' H' s⟩)
  · cases e

theorem snd_chain {o o' : Cm} {a b c : Expr} {ea eb ec : En → Option PV} {pos : Pos} (hu : X.A.units + 100 < cLine) (hb2 : noSet b = true) (hc2 : noSet c = true) (ha : SndB X a ea) (hb : SndB X b eb) (hc : SndB X c ec) :
    Snd X (.Compare a [cmOp o, cmOp o'] [b, c] pos) (fun ρ => do
      let x ← ea ρ
      let y ← eb ρ
      let k ← evCmp o x y
      if k then do
        let z ← ec ρ
        (evCmp o' y z).map fun c => ⟨.bool c, false⟩
      else some ⟨.bool false, false⟩) := by
  intro F0 B ρ σ F H r Q R e q
  obtain ⟨x, e1, e⟩ := bind_some e
  obtain ⟨y, e2, e⟩ := bind_some e
  obtain ⟨k, e3, e⟩ := bind_some e
  refine wE_of (pe_chain (op_cmP hu o) (op_cmP hu o') pe_w pe_w pe_w (show lastMarks _ _ = false from mark_of hc2)) (snd_two ha hb R e1 e2 fun v w F' H' s b1 b2 => ⟨x, y, k, b1.dp s.le, b2.dp s.le, e3, k, rfl, ?_⟩)
  cases k with
  | true =>
    rw [if_pos rfl] at e ⊢
    obtain ⟨z, e4, e⟩ := bind_some e
    obtain ⟨c', h', e⟩ := Option.map_eq_some_iff.mp e
    exact hc.run (R.step s) e4 fun u F2 H2 s2 b3 => ⟨y, z, c', (b2.step s2).dp s2.le, b3.dp s2.le, h', boolQ (X := X) e q (s.trans s2)⟩
  | false =>
    rw [if_neg Bool.false_ne_true] at e ⊢
    exact boolQ (X := X) (Option.some.inj e) q s
end
end Pz
set_option Elab.async false
set_option linter.all false
set_option maxRecDepth 100000
set_option maxHeartbeats 1000000
/-! Pz: and, or, displays, subscripts, calls. -/
namespace Pz
open PySem PySem.Spec PyProof.Rows L2

theorem RepR.weak {K : PySem.W.Frag} {H H1 F' H' : Hp} {r : RV} {v : V} (s : Same H H1) (h : RepR K H1 F' H' r v) : RepR K H F' H' r v := by
  obtain ⟨d, fr⟩ := r
  cases fr with
  | false => exact .of h.va
  | true =>
    obtain ⟨a, vs, ds, rfl, rfl, h0, h1, h2, h3⟩ := h.fr
    exact .new (s.free h0) h1 h2 h3
theorem rd_va {C : Str → List PV → Option RV} {G : Str → Option PV} {p : Tx} {ρ : En} {x : PV} {r : RV} (h1 : rd p (evE C G p ρ) ρ = some x) (h2 : evE C G p ρ = some r) : x = r.v := by
  unfold rd at h1
  split at h1
  · rename_i i
    have h2 : (match ρ[i]? with | some (.val v) => some (⟨v, false⟩ : RV) | _ => none) = some r := h2
    unfold slotR at h1
    split at h2
    · rename_i v hv
      rw [hv] at h1
      cases h1; cases h2; rfl
    · cases h2
  · rw [h2] at h1; exact (Option.some.inj h1).symm

section
variable {X : Cx} {ci : CI} {C : Str → List PV → Option RV} {G : Str → Option PV} {F0 B : Hp} {ρ : En} {σ : L2.St} {F H : Hp}

/-- a and b, as a value: a's own value where it is false -/
theorem snd_and {a : Tx} {ea : Expr} {ec : Expr} {es : List Expr} {pos : Pos} {eb : En → Option RV} (ha : SndB X ea (fun ρ => rd a (evE C G a ρ) ρ)) (ha2 : Snd X ea (evE C G a)) (hb : Snd X (.BoolOp .And (ec :: es) pos) eb) :
    Snd X (.BoolOp .And (ea :: ec :: es) pos) (fun ρ => do let x ← rd a (evE C G a ρ) ρ; let k ← truth x; if k then eb ρ else evE C G a ρ) := by
  intro F0 B ρ σ F H r Q R e q
  obtain ⟨x, e1, e⟩ := bind_some e
  obtain ⟨k, t, e⟩ := bind_some e
  cases k with
  | true =>
    rw [if_pos rfl] at e
    refine wE_of (pe_andT pe_w pe_w) (ha.run R e1 fun v F' H' s bo => ⟨true, tru_of t s.le bo, ?_⟩)
    rw [if_pos rfl]
    exact hb F0 B ρ σ F' H' r Q (R.step s) e fun w F2 H2 s2 rp => q w F2 H2 (s.trans s2) (rp.weak s.h)
  | false =>
    rw [if_neg Bool.false_ne_true] at e
    refine wE_of (pe_andT pe_w pe_w) (ha2 F0 B ρ σ F H r _ R e fun v F' H' s rp => ⟨false, ?_, ?_⟩)
    · obtain rfl := rd_va e1 e
      exact tru_of t s.le rp.bor
    · rw [if_neg Bool.false_ne_true]; exact q v F' H' s rp
theorem snd_or {a : Tx} {ea : Expr} {ec : Expr} {es : List Expr} {pos : Pos} {eb : En → Option RV} (ha : SndB X ea (fun ρ => rd a (evE C G a ρ) ρ)) (ha2 : Snd X ea (evE C G a)) (hb : Snd X (.BoolOp .Or (ec :: es) pos) eb) :
    Snd X (.BoolOp .Or (ea :: ec :: es) pos) (fun ρ => do let x ← rd a (evE C G a ρ) ρ; let k ← truth x; if k then evE C G a ρ else eb ρ) := by
  intro F0 B ρ σ F H r Q R e q
  obtain ⟨x, e1, e⟩ := bind_some e
  obtain ⟨k, t, e⟩ := bind_some e
  cases k with
  | false =>
    rw [if_neg Bool.false_ne_true] at e
    refine wE_of (pe_orT pe_w pe_w) (ha.run R e1 fun v F' H' s bo => ⟨false, tru_of t s.le bo, ?_⟩)
    rw [if_neg Bool.false_ne_true]
    exact hb F0 B ρ σ F' H' r Q (R.step s) e fun w F2 H2 s2 rp => q w F2 H2 (s.trans s2) (rp.weak s.h)
  | true =>
    rw [if_pos rfl] at e
    refine wE_of (pe_orT pe_w pe_w) (ha2 F0 B ρ σ F H r _ R e fun v F' H' s rp => ⟨true, ?_, ?_⟩)
    · obtain rfl := rd_va e1 e
      exact tru_of t s.le rp.bor
    · rw [if_pos rfl]; exact q v F' H' s rp
theorem snd_one {op : BoolOp} {a : Expr} {pos : Pos} {ev : En → Option RV} (h : Snd X a ev) : Snd X (.BoolOp op [a] pos) ev := by
  intro F0 B ρ σ F H r Q R e q
  exact wE_of (pe_one pe_w) (h F0 B ρ σ F H r Q R e q)
/-- a test whatever the whole is -/
def wW (X : Cx) (e : Expr) : TT := fun σ H Q => ∀ (whole : Sem Value) (pins : List (Addr × Obj)) (s : Shared), Inv X pins σ H s → wpAny (model X.prog X.w) X.A (isTrue e X.env whole) (TP X pins σ Q) X.xe s
theorem pw_w {e : Expr} : PW X e (wW X e) := ⟨fun whole pins s σ H Q I h => h whole pins s I⟩
theorem wW_of {e : Expr} {t : TT} {σ : L2.St} {H : Hp} {Q : Bool → Hp → Prop} (h : PW X e t) (q : t σ H Q) : wW X e σ H Q := fun whole pins s I => h.run whole pins s σ H Q I q
def SndW (X : Cx) (e : Expr) (ev : En → Option PV) : Prop := ∀ (F0 B : Hp) (ρ : En) (σ : L2.St) (F H : Hp) (d : PV) (b : Bool) (Q : Bool → Hp → Prop), Rel X.K F0 B ρ σ F H → ev ρ = some d → truth d = some b →
  (∀ F' H', Step F H F' H' → Q b H') → wW X e σ H Q
theorem SndW.t {e : Expr} {ev : En → Option PV} (h : SndW X e ev) : SndT X e ev := fun F0 B ρ σ F H d b Q R e1 t q => wT_of pw_w.pt (h F0 B ρ σ F H d b Q R e1 t q)
theorem sw_and {ea ec : Expr} {es : List Expr} {pos : Pos} {xa xb : En → Option PV} (ha : SndT X ea xa) (hb : SndW X (.BoolOp .And (ec :: es) pos) xb) :
    SndW X (.BoolOp .And (ea :: ec :: es) pos) (fun ρ => do let x ← xa ρ; let k ← truth x; if k then xb ρ else xa ρ) := by
  intro F0 B ρ σ F H d b Q R e t q
  obtain ⟨x, e1, e⟩ := bind_some e
  obtain ⟨k, tk, e⟩ := bind_some e
  refine wW_of (pw_and pt_w pw_w) (ha F0 B ρ σ F H x k _ R e1 tk fun F' H' s => ?_)
  cases k with
  | true =>
    rw [if_pos rfl] at e ⊢
    exact hb F0 B ρ σ F' H' d b Q (R.step s) e t fun F2 H2 s2 => q F2 H2 (s.trans s2)
  | false =>
    rw [if_neg Bool.false_ne_true] at e ⊢
    rw [e1] at e; cases e
    rw [tk] at t; cases t
    exact q F' H' s
theorem sw_or {ea ec : Expr} {es : List Expr} {pos : Pos} {xa xb : En → Option PV} (ha : SndT X ea xa) (hb : SndW X (.BoolOp .Or (ec :: es) pos) xb) :
    SndW X (.BoolOp .Or (ea :: ec :: es) pos) (fun ρ => do let x ← xa ρ; let k ← truth x; if k then xa ρ else xb ρ) := by
  intro F0 B ρ σ F H d b Q R e t q
  obtain ⟨x, e1, e⟩ := bind_some e
  obtain ⟨k, tk, e⟩ := bind_some e
  refine wW_of (pw_or pt_w pw_w) (ha F0 B ρ σ F H x k _ R e1 tk fun F' H' s => ?_)
  cases k with
  | false =>
    rw [if_neg Bool.false_ne_true] at e ⊢
    exact hb F0 B ρ σ F' H' d b Q (R.step s) e t fun F2 H2 s2 => q F2 H2 (s.trans s2)
  | true =>
    rw [if_pos rfl] at e ⊢
    rw [e1] at e; cases e
    rw [tk] at t; cases t
    exact q F' H' s
theorem sw_and1 {ea : Expr} {pos : Pos} {xa : En → Option PV} (ha : SndT X ea xa) : SndW X (.BoolOp .And [ea] pos) xa := fun F0 B ρ σ F H d b Q R e t q => wW_of (pw_and1 pt_w) (ha F0 B ρ σ F H d b Q R e t q)
theorem sw_or1 {ea : Expr} {pos : Pos} {xa : En → Option PV} (ha : SndT X ea xa) : SndW X (.BoolOp .Or [ea] pos) xa := fun F0 B ρ σ F H d b Q R e t q => wW_of (pw_or1 pt_w) (ha F0 B ρ σ F H d b Q R e t q)
theorem snt_not {a : Expr} {xa : En → Option PV} {pos : Pos} (ha : SndT X a xa) : SndT X (.UnaryOp .Not a pos) (fun ρ => do let x ← xa ρ; (truth x).map fun b => (.bool (!b) : PV)) := by
  intro F0 B ρ σ F H d b Q R e t q
  obtain ⟨x, e1, e⟩ := bind_some e
  obtain ⟨k, tk, e⟩ := Option.map_eq_some_iff.mp e
  subst e
  obtain rfl : (!k) = b := Option.some.inj t
  exact wT_of (pt_not pt_w) (ha F0 B ρ σ F H x k _ R e1 tk q)
theorem plainT_of {e : Expr} {env : Env} (h : plainT e = true) : ∀ whole, isTrue e env whole = (do let v ← whole; standAt e.pos; holding [v] (truthy v)) := by
  cases e <;> first | (intro _; rfl) | cases h
/-- a test by the truth of its value -/
theorem snt_plain {a : Expr} {xa : En → Option PV} (hp : plainT a = true) (ha : SndB X a xa) : SndT X a xa := by
  intro F0 B ρ σ F H d b Q R e t q
  exact wT_of (pt_truth pe_w (plainT_of hp)) (ha.run R e fun v F' H' s bo => ⟨b, tru_of t s.le bo, q F' H' s⟩)

theorem snd_ife {c a b : Expr} {xc : En → Option PV} {ea eb : En → Option RV} {pos : Pos} (hc : SndT X c xc) (ha : Snd X a ea) (hb : Snd X b eb) : Snd X (.IfExp c a b pos) (fun ρ => do let x ← xc ρ; let k ← truth x; if k then ea ρ else eb ρ) := by
  intro F0 B ρ σ F H r Q R e q
  obtain ⟨x, e1, e⟩ := bind_some e
  obtain ⟨k, t, e⟩ := bind_some e
  refine wE_of (pe_ifExp pt_w pe_w pe_w) (hc F0 B ρ σ F H x k _ R e1 t fun F' H' s => ?_)
  cases k with
  | true =>
    rw [if_pos rfl] at e ⊢
    exact ha F0 B ρ σ F' H' r Q (R.step s) e fun w F2 H2 s2 rp => q w F2 H2 (s.trans s2) (rp.weak s.h)
  | false =>
    rw [if_neg Bool.false_ne_true] at e ⊢
    exact hb F0 B ρ σ F' H' r Q (R.step s) e fun w F2 H2 s2 rp => q w F2 H2 (s.trans s2) (rp.weak s.h)

/-! ### arguments -/
theorem sa_nil : SndA X [] (fun _ => some []) := by
  intro F0 B ρ σ F H ds Q R e q
  cases e
  exact wA_of pa_nil (q [] F H (Step.rfl' R.le) .nil)
theorem sa_cons {e : Expr} {es : List Expr} {ev : En → Option RV} {evs : En → Option (List PV)} (hs : noStar e = true) (h : Snd X e ev) (hr : SndA X es evs) : SndA X (e :: es) (fun ρ => do let r ← ev ρ; let vs ← evs ρ; some (r.v :: vs)) := by
  intro F0 B ρ σ F H ds Q R e q
  obtain ⟨r, e1, e⟩ := bind_some e
  obtain ⟨vs, e2, e⟩ := bind_some e
  cases e
  exact wA_of (pa_cons pe_w pa_w (star_of hs)) (h.va R e1 fun v F' H' s d => hr F0 B ρ σ F' H' vs _ (R.step s) e2 fun ws F2 H2 s2 ds => q (v :: ws) F2 H2 (s.trans s2) (.cons (dp_mono s2.f d) ds))
theorem sr_nil : SndR X [] (fun _ => some []) := by
  intro F0 B ρ σ F H ds Q R e q
  cases e
  exact wA_of pa_nil (q [] F H (Step.rfl' R.le) .nil)
theorem sr_cons {e : Expr} {es : List Expr} {ev : En → Option PV} {evs : En → Option (List PV)} (hs : noStar e = true) (h : SndB X e ev) (hr : SndR X es evs) : SndR X (e :: es) (fun ρ => do let r ← ev ρ; let vs ← evs ρ; some (r :: vs)) := by
  intro F0 B ρ σ F H ds Q R e q
  obtain ⟨r, e1, e⟩ := bind_some e
  obtain ⟨vs, e2, e⟩ := bind_some e
  cases e
  exact wA_of (pa_cons pe_w pa_w (star_of hs)) (h.run R e1 fun v F' H' s d => hr F0 B ρ σ F' H' vs _ (R.step s) e2 fun ws F2 H2 s2 ds => q (v :: ws) F2 H2 (s.trans s2) (.cons (d.step s2) ds))

theorem snd_tup {es : List Expr} {evs : En → Option (List PV)} {j : Nat} {pos : Pos} (h : SndA X es evs) (hz : ∀ ρ ds, evs ρ = some ds → ds.length ≤ LIM) : Snd X (.Tuple es j pos) (fun ρ => (evs ρ).map fun vs => ⟨.tuple vs, false⟩) := by
  intro F0 B ρ σ F H r Q R e q
  obtain ⟨ds, e1, e⟩ := Option.map_eq_some_iff.mp e
  subst e
  refine wE_of (pe_tup pa_w) (h F0 B ρ σ F H ds _ R e1 fun vs F' H' s d => ⟨by rw [dpAll_len d]; exact lim_line (hz ρ ds e1), fun p np => ?_⟩)
  have s2 := Step.new (o := .tup vs) s.le np
  exact q _ _ _ (s.trans s2) (.of (.tup (SqT.of upd_same) (dpAll_mono s2.f d)))
theorem snd_lst {es : List Expr} {evs : En → Option (List PV)} {pos : Pos} (h : SndA X es evs) (hz : ∀ ρ ds, evs ρ = some ds → ds.length ≤ LIM) : Snd X (.List es pos) (fun ρ => (evs ρ).map fun vs => ⟨.list vs, true⟩) := by
  intro F0 B ρ σ F H r Q R e q
  obtain ⟨ds, e1, e⟩ := Option.map_eq_some_iff.mp e
  subst e
  refine wE_of (pe_lst pa_w) (h F0 B ρ σ F H ds _ R e1 fun vs F' H' s d => ⟨by rw [dpAll_len d]; exact lim_line (hz ρ ds e1), fun p np => ?_⟩)
  exact q _ _ _ (s.trans (Step.lay s.le np)) (.new (s.h.free np) upd_same (s.le.free np) d)

/-! ### subscripts -/
theorem plainIx_of {b : Expr} (h : plainIx b = true) : PlainIx b := by
  cases b <;> first | exact fun _ _ => rfl | cases h
theorem ix_same (n : Nat) (i : Int) : ixOf n i = ixN n i := rfl
theorem snd_idx {a b : Expr} {ea eb : En → Option PV} {pos : Pos} (hp : plainIx b = true) (ha : SndB X a ea) (hb : SndB X b eb) : Snd X (.Subscript a b pos) (fun ρ => do let x ← ea ρ; let y ← eb ρ; (evIdx x y).map (⟨·, false⟩)) := by
  intro F0 B ρ σ F H r Q R e q
  obtain ⟨x, e1, e⟩ := bind_some e
  obtain ⟨y, e2, e⟩ := bind_some e
  obtain ⟨d, e3, e⟩ := Option.map_eq_some_iff.mp e
  subst e
  unfold evIdx at e3
  split at e3
  · obtain ⟨j, e4, e5⟩ := Option.bind_eq_some_iff.mp e3
    refine wE_of (pe_ix ix_list pe_w pe_w (plainIx_of hp)) (snd_two ha hb R e1 e2 fun v w F' H' s b1 b2 => ?_)
    obtain ⟨a, vs, rfl, h1, d1⟩ := b1.list s.le
    obtain ⟨v, e6, d2⟩ := dpAll_get d1 e5
    refine ⟨a, vs, _, v, rfl, b2.int, h1, ?_, q v F' H' s (.of d2)⟩
    unfold atI
    rw [← ix_same, dpAll_len d1, e4]
    exact e6
  · obtain ⟨j, e4, e5⟩ := Option.bind_eq_some_iff.mp e3
    refine wE_of (pe_ix ix_tup pe_w pe_w (plainIx_of hp)) (snd_two ha hb R e1 e2 fun v w F' H' s b1 b2 => ?_)
    obtain ⟨a, vs, rfl, h1, d1⟩ := b1.tup s.le
    obtain ⟨v, e6, d2⟩ := dpAll_get d1 e5
    refine ⟨a, vs, _, v, rfl, b2.int, h1, ?_, q v F' H' s (.of d2)⟩
    unfold atI
    rw [← ix_same, dpAll_len d1, e4]
    exact e6
  · split at e3
    · rename_i hz
      obtain ⟨c, e4, e6⟩ := Option.map_eq_some_iff.mp e3
      subst e6
      refine wE_of (pe_ix ix_str pe_w pe_w (plainIx_of hp)) (snd_two ha hb R e1 e2 fun v w F' H' s b1 b2 => ?_)
      exact ⟨_, _, c, b1.str, b2.int, lim_line hz, by unfold atI; rw [Array.length_toList]; exact e4, q _ F' H' s (.of (.str _))⟩
    · cases e3
  · cases e3
def SndO (X : Cx) (e : Option Expr) (ev : En → Option (Option Int)) : Prop := ∃ t, PO X e t ∧ ∀ (F0 B : Hp) (ρ : En) (σ : L2.St) (F H : Hp) (o : Option Int) (Q : Option Int → Hp → Prop), Rel X.K F0 B ρ σ F H → ev ρ = some o → (∀ F' H', Step F H F' H' → Q o H') → t σ H Q
theorem so_no : SndO X none (fun _ => some none) := ⟨_, po_none, fun F0 B ρ σ F H o Q R e q => by cases e; exact q F H (Step.rfl' R.le)⟩
theorem so_so {e : Expr} {ev : En → Option PV} (h : SndB X e ev) : SndO X (some e) (fun ρ => do match ← ev ρ with | .int i => some (some i) | _ => none) := ⟨_, po_some pe_w, fun F0 B ρ σ F H o Q R e q => by
  obtain ⟨x, e1, e⟩ := bind_some e
  split at e
  · cases e
    exact h.run R e1 fun v F' H' s bo => ⟨_, bo.int, q F' H' s⟩
  · cases e⟩
theorem snd_cut {a : Expr} {lo hi : Option Expr} {ea : En → Option PV} {el eh : En → Option (Option Int)} {pos p2 : Pos} (ha : SndB X a ea) (hl : SndO X lo el) (hh : SndO X hi eh) :
    Snd X (.Subscript a (.Slice lo hi none p2) pos) (fun ρ => do let x ← ea ρ; let l ← el ρ; let h ← eh ρ; evCut x l h) := by
  intro F0 B ρ σ F H r Q R e q
  obtain ⟨tl, pl, hl⟩ := hl
  obtain ⟨th, ph, hh⟩ := hh
  obtain ⟨x, e1, e⟩ := bind_some e
  obtain ⟨l, e2, e⟩ := bind_some e
  obtain ⟨h, e3, e⟩ := bind_some e
  have go : ∀ {k : V → Hp → Prop}, (∀ v F' H', Step F H F' H' → Bor X.K F' H' v x → k v H') → wE X a σ H fun v H1 => tl σ H1 fun l' H2 => th σ H2 fun h' H3 => l' = l ∧ h' = h ∧ k v H3 := fun {k} kq =>
    ha.run R e1 fun v F1 H1 s1 b1 => hl F0 B ρ σ F1 H1 l _ (R.step s1) e2 fun F2 H2 s2 => hh F0 B ρ σ F2 H2 h _ (R.step (s1.trans s2)) e3 fun F3 H3 s3 =>
      ⟨rfl, rfl, kq v F3 H3 ((s1.trans s2).trans s3) (b1.step (s2.trans s3))⟩
  have go2 : ∀ {rr : V → Option Int → Option Int → Hp → VK → Prop}, (∀ v F' H', Step F H F' H' → Bor X.K F' H' v x → rr v l h H' Q) → wE X a σ H fun v H1 => tl σ H1 fun l' H2 => th σ H2 fun h' H3 => rr v l' h' H3 Q := fun {rr} kq =>
    ha.run R e1 fun v F1 H1 s1 b1 => hl F0 B ρ σ F1 H1 l _ (R.step s1) e2 fun F2 H2 s2 => hh F0 B ρ σ F2 H2 h _ (R.step (s1.trans s2)) e3 fun F3 H3 s3 =>
      kq v F3 H3 ((s1.trans s2).trans s3) (b1.step (s2.trans s3))
  cases x with
  | list xs =>
    have e : some (⟨.list (cutL xs l h), true⟩ : RV) = some r := e
    cases e
    refine wE_of (pe_slice sl_list pe_w pl ph) (go2 fun v F' H' s bo => ?_)
    obtain ⟨a, vs, rfl, h1, d1⟩ := bo.list s.le
    refine ⟨a, vs, rfl, h1, fun p np => q _ _ _ (s.trans (Step.lay s.le np)) (.new (s.h.free np) upd_same (s.le.free np) ?_)⟩
    unfold cutV cutL
    rw [dpAll_len d1]
    exact dpAll_take _ (dpAll_drop _ d1)
  | tuple xs =>
    have e : some (⟨.tuple (cutL xs l h), false⟩ : RV) = some r := e
    cases e
    refine wE_of (pe_slice sl_tupA pe_w pl ph) (go2 fun v F' H' s bo => ?_)
    obtain ⟨a, vs, rfl, h1, d1⟩ := bo.tup s.le
    have dc : DpAll X.K F' (cutV vs l h) (cutL xs l h) := by
      unfold cutV cutL
      rw [dpAll_len d1]
      exact dpAll_take _ (dpAll_drop _ d1)
    refine ⟨a, vs, rfl, h1, fun ⟨w1, w2⟩ => ?_, fun _ p np => ?_⟩
    · have : cutL xs l h = xs := by
        unfold cutL
        rw [← dpAll_len d1, w1, w2, List.drop_zero, Nat.sub_zero, dpAll_len d1, List.take_length]
      rw [this] at q
      rcases bo with bo | ⟨_, _, _, c, _⟩
      · exact q _ F' H' s (.of bo)
      · cases c
    · have s2 := Step.new (o := .tup (cutV vs l h)) s.le np
      exact q _ _ _ (s.trans s2) (.of (.tup (SqT.of upd_same) (dpAll_mono s2.f dc)))
  | str z =>
    have e : (if z.length ≤ LIM then some (⟨.str (cutS z l h), false⟩ : RV) else none) = some r := e
    split at e
    · rename_i hz
      cases e
      refine wE_of (pe_slice sl_str pe_w pl ph) (go2 fun v F' H' s bo => ⟨_, bo.str, lim_line hz, q _ F' H' s (.of (.str _))⟩)
    · cases e
  | none => cases e
  | bool b => cases e
  | int i => cases e
  | dict kvs => cases e

/-! ### calls -/
theorem snd_call (O : Ok X ci C G) {f : Str} {es : List Expr} {evs : En → Option (List PV)} {p pos : Pos} {e : Expr} (hg : Gl X f) (hn : (f == ("__debug__" : Str)) = false) (hs : noStar e = true) (hst : noStars es = true) (h : SndA X (e :: es) evs) :
    Snd X (.Call (.Name f p) (e :: es) [] pos) (fun ρ => do let vs ← evs ρ; C f vs) := by
  intro F0 B ρ σ F H r Q R er q
  obtain ⟨ds, e1, er⟩ := bind_some er
  obtain ⟨k, a, fd, ps, sp, Fn, hr, hm, hk, hb, hsp⟩ := O.call f ⟨ds, r, er⟩
  refine wE_of (pe_call Fn hr hg hm hk hb .nil pass0 pa_w hn (star_of hs) (stars_of hst)) (h F0 B ρ σ F H ds _ R e1 fun vs F' H' s d => ?_)
  rw [List.append_nil]
  exact hsp ds r vs F' H' Q er s.le d fun v F2 H2 s2 rp => q v F2 H2 (s.trans s2) (rp.weak s.h)
end
end Pz
set_option Elab.async false
set_option linter.all false
set_option maxRecDepth 100000
set_option maxHeartbeats 1000000
/-! Pz: built-ins. -/
namespace Pz
open PySem PySem.Spec PyProof.Rows L2

section
variable {X : Cx} {ci : CI} {C : Str → List PV → Option RV} {G : Str → Option PV} {F0 B : Hp} {ρ : En} {σ : L2.St} {F H : Hp}

theorem bor1 {K : PySem.W.Frag} {F H : Hp} {vs : List V} {d : PV} (h : BorAll K F H vs [d]) : ∃ v, vs = [v] ∧ Bor K F H v d := by
  cases h with
  | cons h t => cases t; exact ⟨_, rfl, h⟩
theorem bor2 {K : PySem.W.Frag} {F H : Hp} {vs : List V} {d e : PV} (h : BorAll K F H vs [d, e]) : ∃ v w, vs = [v, w] ∧ Bor K F H v d ∧ Bor K F H w e := by
  cases h with
  | cons h t =>
    cases t with
    | cons h2 t => cases t; exact ⟨_, _, rfl, h, h2⟩

/-- the rule that a built-in's call wants: from the values, what it gives -/
def BltR (X : Cx) (cv : Value) (ds : List PV) (r : RV) : Prop :=
  ∃ rr : List V → Hp → VK → Prop, CallR X cv rr ∧ ∀ (H0 F H : Hp) (vs : List V) (Q : VK), Same H0 H → Same F H → BorAll X.K F H vs ds → (∀ v F' H', Step F H F' H' → RepR X.K H0 F' H' r v → Q v H') → rr vs H Q

def blVal : Bl → Value
  | .len => .builtin "len" | .sum => .builtin "sum" | .min => .builtin "min" | .max => .builtin "max" | .all => .builtin "all" | .any => .builtin "any"
  | .tuple => .type "tuple" | .list => .type "list" | .sorted => .builtin "sorted" | .int => .type "int" | .str => .type "str" | .abs => .builtin "abs" | .bool => .type "bool" | .reversed => .type "reversed"

theorem blt_seqlen {cv : Value} {ds : List PV} {r : RV} (e : cv = .builtin "len") (d : PV) (xs : List PV) (hd : d = .list xs ∨ d = .tuple xs) (eds : ds = [d]) (er : r = ⟨.int xs.length, false⟩) : BltR X cv ds r := by
  subst e eds er
  refine ⟨_, call_len_seq, fun H0 F H vs Q sm le bb q => ?_⟩
  obtain ⟨v, rfl, b⟩ := bor1 bb
  rcases hd with rfl | rfl
  · obtain ⟨a, ws, rfl, h1, d1⟩ := b.list le
    exact ⟨a, ws, rfl, .inl h1, by rw [dpAll_len d1]; exact q _ F H (Step.rfl' le) (.of (.int _))⟩
  · obtain ⟨a, ws, rfl, h1, d1⟩ := b.tup le
    exact ⟨a, ws, rfl, .inr h1, by rw [dpAll_len d1]; exact q _ F H (Step.rfl' le) (.of (.int _))⟩

theorem sumT_raw {P : Program} {w : World} {A : Around} {E : Value → Shared → Prop} {s : Shared} {t : Addr} {its : List Value} {ns : List Int} {Q : Value → Shared → Prop} (hh : A.handled = none) (hl : s.heap.IsTuple t its.toArray) (hi : IntsAre its ns)
    (h : ∀ h' tk t', (∀ b o, s.heap.get? b = some o → h'.get? b = some o) → Q (.int ns.sum t') { s with heap := h', toks := tk }) : wpAny (model P w) A (call (.builtin "sum") [.ref t]) Q E s := by
  obtain ⟨xs, e⟩ := hi.allInts.items
  have hn : numsOf (intItems xs).toList = ns := by rw [← e]; exact hi.numsOf
  rw [nums_intItems] at hn
  rw [e] at hl
  refine PySem.W.ktm_sumG hh hl fun h' tk t' hk => ?_
  have := h h' tk t' hk
  rw [preSum_eq, List.take_of_length_le (by simp), hn]; exact this
def rSumT (K : PySem.W.Frag) : List V → Hp → VK → Prop := fun vs H Q => ∃ (a : Addr) (ns : List Int), vs = [V.ref a] ∧ SqT K H a (ns.map V.int) ∧ Q (.int ns.sum) H
theorem cr_sumT (hc : X.calm = true) : CallR X (.builtin "sum") (rSumT X.K) := by
  intro pins s σ H vs us Q I r h
  obtain ⟨a, ns, rfl, hs, q⟩ := h
  obtain ⟨its, rv, hl, _⟩ := I.tuple hs
  rw [Vals.ref1 r]
  exact sumT_raw (I.ok.hd hc) hl rv.ints fun h' tk t' hk => ⟨.int _, H, I.kept hk, ⟨_, rfl⟩, q⟩
theorem blt_all (hc : X.calm = true) (hu : X.A.units + 100 < cLine) {b : Bl} {ds : List PV} {r : RV} (e : evBlt b ds = some r) : BltR X (blVal b) ds r := by
  unfold evBlt at e
  split at e
  · cases e; exact blt_seqlen rfl _ _ (.inl rfl) rfl rfl
  · cases e; exact blt_seqlen rfl _ _ (.inr rfl) rfl rfl
  · split at e
    · rename_i hz
      cases e
      refine ⟨_, call_len_str, fun H0 F H vs Q sm le bb q => ?_⟩
      obtain ⟨v, rfl, b⟩ := bor1 bb
      exact ⟨_, by rw [b.str], lim_line hz, q _ F H (Step.rfl' le) (.of (.int _))⟩
    · cases e
  · obtain ⟨is, e1, e2⟩ := Option.map_eq_some_iff.mp e
    subst e2
    refine ⟨_, cr_sum hc, fun H0 F H vs Q sm le bb q => ?_⟩
    obtain ⟨v, rfl, b⟩ := bor1 bb
    obtain ⟨a, ws, rfl, h1, d1⟩ := b.list le
    exact ⟨a, is, rfl, by rw [← dpAll_int d1 e1]; exact h1, q _ F H (Step.rfl' le) (.of (.int _))⟩
  · obtain ⟨is, e1, e2⟩ := Option.map_eq_some_iff.mp e
    subst e2
    refine ⟨_, cr_sumT hc, fun H0 F H vs Q sm le bb q => ?_⟩
    obtain ⟨v, rfl, b⟩ := bor1 bb
    obtain ⟨a, ws, rfl, h1, d1⟩ := b.tup le
    exact ⟨a, is, rfl, by rw [← dpAll_int d1 e1]; exact h1, q _ F H (Step.rfl' le) (.of (.int _))⟩
  · obtain ⟨is, e1, e2⟩ := Option.map_eq_some_iff.mp e
    subst e2
    refine ⟨_, cr_all hc, fun H0 F H vs Q sm le bb q => ?_⟩
    obtain ⟨v, rfl, b⟩ := bor1 bb
    obtain ⟨a, ws, rfl, h1, d1⟩ := b.list le
    exact ⟨a, is, rfl, by rw [← dpAll_bool d1 e1]; exact h1, q _ F H (Step.rfl' le) (.of (.bl _))⟩
  · obtain ⟨is, e1, e2⟩ := Option.map_eq_some_iff.mp e
    subst e2
    refine ⟨_, cr_any hc, fun H0 F H vs Q sm le bb q => ?_⟩
    obtain ⟨v, rfl, b⟩ := bor1 bb
    obtain ⟨a, ws, rfl, h1, d1⟩ := b.list le
    exact ⟨a, is, rfl, by rw [← dpAll_bool d1 e1]; exact h1, q _ F H (Step.rfl' le) (.of (.bl _))⟩
  · cases e
    refine ⟨_, call_tuple_of, fun H0 F H vs Q sm le bb q => ?_⟩
    obtain ⟨v, rfl, b⟩ := bor1 bb
    obtain ⟨a, ws, rfl, h1, d1⟩ := b.list le
    refine ⟨a, ws, rfl, .inl ⟨h1, fun p np => ?_⟩⟩
    have s2 := Step.new (o := .tup ws) le np
    exact q _ _ _ s2 (.of (.tup (SqT.of upd_same) (dpAll_mono s2.f d1)))
  · cases e
    refine ⟨_, call_tuple_of, fun H0 F H vs Q sm le bb q => ?_⟩
    obtain ⟨v, rfl, b⟩ := bor1 bb
    have b0 := b
    obtain ⟨a, ws, rfl, h1, d1⟩ := b.tup le
    refine ⟨a, ws, rfl, .inr ⟨h1, ?_⟩⟩
    rcases b0 with b0 | ⟨_, _, _, c, _⟩
    · exact q _ F H (Step.rfl' le) (.of b0)
    · cases c
  · cases e
    refine ⟨_, call_list_of, fun H0 F H vs Q sm le bb q => ?_⟩
    obtain ⟨v, rfl, b⟩ := bor1 bb
    obtain ⟨a, ws, rfl, h1, d1⟩ := b.list le
    refine ⟨a, ws, rfl, .inl h1, fun p np => ?_⟩
    exact q _ _ _ (Step.lay le np) (.new (sm.free np) upd_same (le.free np) d1)
  · cases e
    refine ⟨_, call_list_of, fun H0 F H vs Q sm le bb q => ?_⟩
    obtain ⟨v, rfl, b⟩ := bor1 bb
    obtain ⟨a, ws, rfl, h1, d1⟩ := b.tup le
    refine ⟨a, ws, rfl, .inr h1, fun p np => ?_⟩
    exact q _ _ _ (Step.lay le np) (.new (sm.free np) upd_same (le.free np) d1)
  · cases e
    refine ⟨_, call_int1, fun H0 F H vs Q sm le bb q => ?_⟩
    obtain ⟨v, rfl, b⟩ := bor1 bb
    exact .inl ⟨_, by rw [b.int], q _ F H (Step.rfl' le) (.of (.int _))⟩
  · cases e
    refine ⟨_, call_int1, fun H0 F H vs Q sm le bb q => ?_⟩
    obtain ⟨v, rfl, b⟩ := bor1 bb
    exact .inr ⟨_, by rw [b.bool], q _ F H (Step.rfl' le) (.of (.int _))⟩
  · cases e
    refine ⟨_, call_abs, fun H0 F H vs Q sm le bb q => ?_⟩
    obtain ⟨v, rfl, b⟩ := bor1 bb
    exact ⟨_, by rw [b.int], q _ F H (Step.rfl' le) (.of (.int _))⟩
  · cases e
    refine ⟨_, call_min2 hc, fun H0 F H vs Q sm le bb q => ?_⟩
    obtain ⟨v, w, rfl, b1, b2⟩ := bor2 bb
    exact ⟨_, _, by rw [b1.int, b2.int], q _ F H (Step.rfl' le) (.of (.int _))⟩
  · cases e
    refine ⟨_, call_max2 hc, fun H0 F H vs Q sm le bb q => ?_⟩
    obtain ⟨v, w, rfl, b1, b2⟩ := bor2 bb
    exact ⟨_, _, by rw [b1.int, b2.int], q _ F H (Step.rfl' le) (.of (.int _))⟩
  · split at e
    · rename_i hz
      cases e
      refine ⟨_, cr_sorted_d hu, fun H0 F H vs Q sm le bb q => ?_⟩
      obtain ⟨v, rfl, b⟩ := bor1 bb
      obtain ⟨a, ws, rfl, h1, d1⟩ := b.list le
      exact ⟨a, ws, _, rfl, h1, dpAll_mono le d1, hz, fun p vs' np hF => q _ _ _ (Step.lay le np) (.new (sm.free np) upd_same (le.free np) (hF F d1))⟩
    · cases e
  · obtain ⟨d, e1, e2⟩ := Option.map_eq_some_iff.mp e
    subst e2
    refine ⟨_, cr_min_d hc hu, fun H0 F H vs Q sm le bb q => ?_⟩
    obtain ⟨v, rfl, b⟩ := bor1 bb
    obtain ⟨a, ws, rfl, h1, d1⟩ := b.list le
    refine ⟨a, ws, _, d, rfl, h1, dpAll_mono le d1, e1, fun i v hv hi => ?_⟩
    obtain ⟨w, h2, h3⟩ := dpAll_get d1 hi
    rw [hv] at h2; cases h2
    exact q _ F H (Step.rfl' le) (.of h3)
  · obtain ⟨d, e1, e2⟩ := Option.map_eq_some_iff.mp e
    subst e2
    refine ⟨_, cr_max_d hc hu, fun H0 F H vs Q sm le bb q => ?_⟩
    obtain ⟨v, rfl, b⟩ := bor1 bb
    obtain ⟨a, ws, rfl, h1, d1⟩ := b.list le
    refine ⟨a, ws, _, d, rfl, h1, dpAll_mono le d1, e1, fun i v hv hi => ?_⟩
    obtain ⟨w, h2, h3⟩ := dpAll_get d1 hi
    rw [hv] at h2; cases h2
    exact q _ F H (Step.rfl' le) (.of h3)
  · cases e
theorem bl_boot (b : Bl) : bootBuiltins (blName b) = some (blVal b) := by cases b <;> decide +kernel
theorem bl_name (b : Bl) : blName b ≠ "__name__" ∧ (blName b == ("__debug__" : Str)) = false ∧ blName b ∈ bltNames := by cases b <;> decide +kernel
theorem snd_blt (O : Ok X ci C G) {b : Bl} {es : List Expr} {evs : En → Option (List PV)} {p pos : Pos} {e : Expr} (hg : Gl X (blName b)) (hs : noStar e = true) (hst : noStars es = true) (h : SndR X (e :: es) evs) :
    Snd X (.Call (.Name (blName b) p) (e :: es) [] pos) (fun ρ => do let vs ← evs ρ; evBlt b vs) := by
  intro F0 B ρ σ F H r Q R er q
  obtain ⟨ds, e1, er⟩ := bind_some er
  obtain ⟨rr, hr, hk⟩ := blt_all O.calm O.hu er
  obtain ⟨n1, n2, n3⟩ := bl_name b
  have hv := bl_boot b
  have hm := O.blt _ n3
  have rest : ∀ {t : List V → Hp → VK → Prop}, t = rr → tCB t (wA X (e :: es)) σ H Q := fun {t} et => by
    subst et
    exact h F0 B ρ σ F H ds _ R e1 fun vs F' H' s bo => hk H F' H' vs Q s.h s.le bo fun v F2 H2 s2 rp => q v F2 H2 (s.trans s2) rp
  cases b <;> first
    | exact wE_of (pe_callB hr hg hm hv pa_w n1 n2 (star_of hs) (stars_of hst)) (rest rfl)
    | exact wE_of (pe_callTy hr hg hm hv pa_w n1 n2 (star_of hs) (stars_of hst)) (rest rfl)
/-- comb(a, b) -/
def rComb : List V → Hp → VK → Prop := fun vs H Q => ∃ i j : Int, vs = [.int i, .int j] ∧ 0 ≤ i ∧ 0 ≤ j ∧ i ≤ 18000 ∧ Q (.int (PySem.W.mcComb i j)) H
theorem cr_comb : CallR X (.builtin "math.comb") rComb := by
  intro pins s σ H vs us Q I r h
  obtain ⟨i, j, rfl, hi, hj, hz, q⟩ := h
  obtain ⟨u, v, rfl, ru, rv⟩ := Vals.two r
  obtain ⟨t, rfl⟩ := ru
  obtain ⟨t', rfl⟩ := rv
  exact PySem.W.mc_comb hi hj (by omega) (.inr hz) fun _ => ⟨.int _, H, I.tok _, ⟨_, rfl⟩, q⟩
theorem snd_comb (O : Ok X ci C G) {a b : Expr} {ea eb : En → Option PV} {p pos : Pos} (hg : Gl X ("comb" : Str)) (hm : X.mg ("comb" : Str) = some (.builtin "math.comb")) (hs : noStar a = true) (hs2 : noStar b = true) (ha : SndB X a ea) (hb : SndB X b eb) :
    Snd X (.Call (.Name "comb" p) [a, b] [] pos) (fun ρ => do let x ← ea ρ; let y ← eb ρ; evComb x y) := by
  intro F0 B ρ σ F H r Q R e q
  obtain ⟨x, e1, e⟩ := bind_some e
  obtain ⟨y, e2, e⟩ := bind_some e
  cases x with
  | int i =>
    cases y with
    | int j =>
      have e : (if 0 ≤ i && 0 ≤ j && decide (i ≤ 18000) then some (⟨.int (PySem.W.mcComb i j), false⟩ : RV) else none) = some r := e
      split at e
      · rename_i hz
        simp only [Bool.and_eq_true, decide_eq_true_eq] at hz
        cases e
        exact wE_of (pe_callBfun cr_comb hg hm (pa_cons pe_w (pa_cons pe_w pa_nil (star_of hs2)) (star_of hs)) (by decide) (star_of hs) (by rw [star_of hs2]; rfl))
          (snd_two ha hb R e1 e2 fun v w F' H' s b1 b2 => ⟨i, j, by rw [b1.int, b2.int], hz.1.1, hz.1.2, hz.2, q _ F' H' s (.of (.int _))⟩)
      · cases e
    | _ => cases e
  | _ => cases e
/-- isinstance -/
theorem ty_boot (t : Ty) : bootBuiltins (tyName t) = some (.type (tyS t)) := by cases t <;> decide +kernel
theorem ty_name (t : Ty) : tyName t ≠ "__name__" ∧ (tyName t == ("__debug__" : Str)) = false ∧ tyName t ∈ bltNames := by cases t <;> decide +kernel
theorem snd_isi (O : Ok X ci C G) {a : Expr} {t : Ty} {ea : En → Option PV} {p p2 pos : Pos} (hg : Gl X ("isinstance" : Str)) (hg2 : Gl X (tyName t)) (hs : noStar a = true) (ha : SndB X a ea) :
    Snd X (.Call (.Name "isinstance" p) [a, .Name (tyName t) p2] [] pos) (fun ρ => do let x ← ea ρ; (isiB x t).map fun c => ⟨.bool c, false⟩) := by
  intro F0 B ρ σ F H r Q R e q
  obtain ⟨x, e1, e⟩ := bind_some e
  obtain ⟨c, hc, e⟩ := Option.map_eq_some_iff.mp e
  obtain ⟨n1, n2, n3⟩ := ty_name t
  have hT : PE X (.Name (tyName t) p2) (tC (.ty (tyS t))) := pe_bltn hg2 (O.blt _ n3) (ty_boot t) rfl n1 n2
  have pa2 : PA X [.Name (tyName t) p2] (tCons (tC (.ty (tyS t))) tNil) := pa_cons hT pa_nil
  exact wE_of (pe_callB cr_isi hg (O.blt _ (by decide +kernel)) (by decide +kernel) (pa_cons pe_w pa2 (star_of hs)) (by decide +kernel) (by decide +kernel) (star_of hs) (by rfl))
    (ha.run R e1 fun v F' H' s bo => ⟨v, x, t, c, rfl, bo.dp s.le, hc, boolQ (X := X) e q s⟩)
/-- max(a, default=d), min(a, default=d) -/
theorem snd_best (O : Ok X ci C G) {b : Bool} {a d : Expr} {ea : En → Option PV} {ed : En → Option RV} {p pos kp : Pos} (hg : Gl X (if b then "max" else "min" : Str)) (hs : noStar a = true) (ha : SndB X a ea) (hd : Snd X d ed) :
    Snd X (.Call (.Name (if b then "max" else "min" : Str) p) [a] [⟨some ("default" : Str), d, kp⟩] pos) (fun ρ => do
      let x ← ea ρ
      let y ← ed ρ
      evBest b x y.v) := by
  intro F0 B ρ σ F H r Q R e q
  obtain ⟨x, e1, e⟩ := bind_some e
  obtain ⟨y, e2, e⟩ := bind_some e
  have rd : tCKw (rBestD X.K b) (tCons (wE X a) tNil) (tCons (wE X d) tNil) σ H Q := by
    refine ha.run R e1 fun v F1 H1 s1 bo => (hd.va (R.step s1) e2 fun w F2 H2 s2 dw => ?_)
    have s := s1.trans s2
    have bo := bo.step s2
    cases x with
    | list xs =>
      obtain ⟨a, ws, rfl, h1, d1⟩ := bo.list s.le
      refine ⟨a, ws, xs, w, rfl, rfl, h1, dpAll_mono s.le d1, ?_⟩
      cases xs with
      | nil =>
        have e : some (⟨y.v, false⟩ : RV) = some r := e
        cases e
        exact .inl ⟨rfl, q _ F2 H2 s (.of dw)⟩
      | cons z zs =>
        have e : (bestB b (z :: zs)).map (fun d => (⟨d, false⟩ : RV)) = some r := e
        obtain ⟨k, e3, e4⟩ := Option.map_eq_some_iff.mp e
        subst e4
        refine .inr ⟨k, e3, fun i v hv hi => ?_⟩
        obtain ⟨u, h2, h3⟩ := dpAll_get d1 hi
        rw [hv] at h2; cases h2
        exact q _ F2 H2 s (.of h3)
    | none => cases e
    | bool b => cases e
    | int i => cases e
    | str x => cases e
    | tuple xs => cases e
    | dict kvs => cases e
  cases b with
  | true => exact wE_of (pe_callBK (cr_maxD O.calm O.hu) hg (O.blt _ (by decide +kernel)) (by decide +kernel) (pa_cons pe_w pa_nil (star_of hs)) (pk_cons pe_w pk_nil) (by decide +kernel) (by decide +kernel) (by rw [star_of hs]; rfl) (by rw [star_of hs]; rfl)) rd
  | false => exact wE_of (pe_callBK (cr_minD O.calm O.hu) hg (O.blt _ (by decide +kernel)) (by decide +kernel) (pa_cons pe_w pa_nil (star_of hs)) (pk_cons pe_w pk_nil) (by decide +kernel) (by decide +kernel) (by rw [star_of hs]; rfl) (by rw [star_of hs]; rfl)) rd
end
end Pz
set_option Elab.async false
set_option linter.all false
set_option maxRecDepth 100000
set_option maxHeartbeats 1000000
/-! Pz: a name's own dict. -/
namespace Pz
open PySem PySem.Spec PyProof.Rows L2
section
variable {X : Cx} {ci : CI} {C : Str → List PV → Option RV} {G : Str → Option PV} {F0 B : Hp} {ρ : En} {σ : L2.St} {F H : Hp}
theorem dAt_of {i : Nat} {y : PV} {o : Option PV} (h : dAt ρ i y = some o) : ∃ kvs k, ρ[i]? = some (Sl.dic kvs) ∧ keyO y = some k ∧ o = lkp kvs k := by
  unfold dAt at h
  split at h
  · rename_i kvs k e1 e2
    cases h
    exact ⟨kvs, k, e1, e2, rfl⟩
  · cases h
theorem key_of {v : V} {y : PV} {k : L2.Key} (b : Bor X.K F H v y) (e : keyO y = some k) : v = kV k := by
  cases y with
  | int i => cases e; exact b.int
  | str x => cases e; exact b.str
  | _ => cases e
/-- the name of one's own dict, read -/
theorem dic_rd (O : Ok X ci C G) {i : Nat} {x : Str} {p : Pos} (h : rdB ci i x = true) (R : Rel X.K F0 B ρ σ F H) {kvs : List (L2.Key × PV)} (e : ρ[i]? = some (Sl.dic kvs)) {Q : VK} (q : ∀ a r, σ[i]? = some (some (V.ref a)) → H a = some (.dK r) → DpKv X.K F r kvs → Q (.ref a) H) : wE X (.Name x p) σ H Q := by
  have h : (decide (ci.N[i]? = some x) && visB ci x && okName x) = true := h
  simp only [Bool.and_eq_true, decide_eq_true_eq] at h
  obtain ⟨⟨h1, h2⟩, h3⟩ := h
  unfold okName at h3
  simp only [Bool.and_eq_true, Bool.not_eq_true'] at h3
  obtain ⟨a, r, e1, e2, _, _, d⟩ := R.ownD i kvs e
  exact wE_of (pe_var (nm_of O h1) (vis_of O h2) h3.1.1 h3.1.2) ⟨_, e1, q a r e1 e2 d⟩
theorem snd_dget (O : Ok X ci C G) {i : Nat} {x : Str} {p pos : Pos} {ek : Expr} {k : En → Option PV} (hp : plainIx ek = true) (hn : rdB ci i x = true) (hk : SndB X ek k) : Snd X (.Subscript (.Name x p) ek pos) (fun ρ => do let y ← k ρ; let o ← dAt ρ i y; o.map (⟨·, false⟩)) := by
  intro F0 B ρ σ F H r Q R e q
  obtain ⟨y, e1, e⟩ := bind_some e
  obtain ⟨o, e2, e⟩ := bind_some e
  obtain ⟨d, e3, e⟩ := Option.map_eq_some_iff.mp e
  subst e e3
  obtain ⟨kvs, kk, e4, e5, e6⟩ := dAt_of e2
  refine wE_of (pe_dget (by have := O.hu; omega) pe_w pe_w (by cases ek <;> first | exact fun _ _ => rfl | cases hp)) (dic_rd O hn R e4 fun a rr ea ha dd => hk F0 B ρ σ F H y _ R e1 fun w F' H' s b => ?_)
  have dd' := dpKv_mono s.f dd
  obtain ⟨v, g1, g2⟩ := (dpKv_lkp kk dd').1 d e6.symm
  refine ⟨a, v, rfl, ?_, q v F' H' s (.of g2)⟩
  rw [key_of b e5, ← g1]
  exact DGet.k (s.h _ _ ha)
theorem m2_of {o e f : Expr} {m : Str} {apos cpos : Pos} (hb : attributeBase o m X.env (eval o X.env) = eval o X.env) (h1 : noStar e = true) (h2 : noStar f = true) (hl : (apos.endLine == cpos.line) = true) : M2 X o m apos e f cpos where
  base := hb
  few := by rw [star_of h1, star_of h2]; rfl
  line := hl
  trees := by rw [star_of h1, star_of h2]; rfl
theorem m1_of {o e : Expr} {m : Str} {apos cpos : Pos} (hb : attributeBase o m X.env (eval o X.env) = eval o X.env) (h1 : noStar e = true) (hl : (apos.endLine == cpos.line) = true) : M1 X o m apos e cpos where
  base := hb
  few := by rw [star_of h1]; rfl
  line := hl
  trees := by rw [star_of h1]; rfl
theorem snd_dgetd (O : Ok X ci C G) {i : Nat} {x : Str} {p apos cpos : Pos} {ek ed : Expr} {k : En → Option PV} {d : En → Option RV} (h1 : noStar ek = true) (h2 : noStar ed = true) (hl : (apos.endLine == cpos.line) = true) (hn : rdB ci i x = true) (hk : SndB X ek k) (hd : Snd X ed d) :
    Snd X (.Call (.Attribute (.Name x p) "get" apos) [ek, ed] [] cpos) (fun ρ => do let y ← k ρ; let z ← d ρ; let o ← dAt ρ i y; some ⟨o.getD z.v, false⟩) := by
  intro F0 B ρ σ F H r Q R e q
  obtain ⟨y, e1, e⟩ := bind_some e
  obtain ⟨z, ez, e⟩ := bind_some e
  obtain ⟨o, e2, e⟩ := bind_some e
  cases e
  obtain ⟨kvs, kk, e4, e5, e6⟩ := dAt_of e2
  refine wE_of (pe_dget2 (by have := O.hu; omega) pe_w pe_w pe_w (m2_of rfl h1 h2 hl)) (dic_rd O hn R e4 fun a rr ea ha dd => ⟨a, rfl, .inl ⟨rr, .inl ha⟩, hk F0 B ρ σ F H y _ R e1 fun w F' H' s b => hd.va (R.step s) ez fun u F2 H2 s2 du => ?_⟩)
  have dd' := dpKv_mono (s.trans s2).f dd
  refine ⟨valV rr kk, ?_, ?_⟩
  · rw [key_of b e5]
    exact DGet.k ((s.trans s2).h _ _ ha)
  · have g := dpKv_lkp kk dd'
    subst e6
    cases hq : lkp kvs kk with
    | none =>
      rw [g.2 hq]
      exact q u F2 H2 (s.trans s2) (.of (by rw [hq]; exact du))
    | some v =>
      obtain ⟨v', g1, g2⟩ := g.1 v hq
      rw [g1]
      exact q v' F2 H2 (s.trans s2) (.of (by rw [hq]; exact g2))
theorem snd_dget1 (O : Ok X ci C G) {i : Nat} {x : Str} {p apos cpos : Pos} {ek : Expr} {k : En → Option PV} (h1 : noStar ek = true) (hl : (apos.endLine == cpos.line) = true) (hn : rdB ci i x = true) (hk : SndB X ek k) :
    Snd X (.Call (.Attribute (.Name x p) "get" apos) [ek] [] cpos) (fun ρ => do let y ← k ρ; let o ← dAt ρ i y; some ⟨o.getD .none, false⟩) := by
  intro F0 B ρ σ F H r Q R e q
  obtain ⟨y, e1, e⟩ := bind_some e
  obtain ⟨o, e2, e⟩ := bind_some e
  cases e
  obtain ⟨kvs, kk, e4, e5, e6⟩ := dAt_of e2
  refine wE_of (pe_dget1 (by have := O.hu; omega) pe_w pe_w (m1_of rfl h1 hl)) (dic_rd O hn R e4 fun a rr ea ha dd => ⟨a, rfl, .inl ⟨rr, .inl ha⟩, hk F0 B ρ σ F H y _ R e1 fun w F' H' s b => ?_⟩)
  have dd' := dpKv_mono s.f dd
  refine ⟨valV rr kk, ?_, ?_⟩
  · rw [key_of b e5]
    exact DGet.k (s.h _ _ ha)
  · have g := dpKv_lkp kk dd'
    subst e6
    cases hq : lkp kvs kk with
    | none =>
      rw [g.2 hq]
      exact q .non F' H' s (.of (by rw [hq]; exact .non))
    | some v =>
      obtain ⟨v', g1, g2⟩ := g.1 v hq
      rw [g1]
      exact q v' F' H' s (.of (by rw [hq]; exact g2))
theorem din_core (O : Ok X ci C G) {i : Nat} {x : Str} {p : Pos} {ek : Expr} {k : En → Option PV} (hn : rdB ci i x = true) (hk : SndB X ek k) {y : PV} {o : Option PV} (R : Rel X.K F0 B ρ σ F H) (e1 : k ρ = some y) (e2 : dAt ρ i y = some o) {Q : Bool → Hp → Prop} (q : ∀ F' H', Step F H F' H' → Q o.isSome H') :
    wE X ek σ H fun v H1 => wE X (.Name x p) σ H1 fun w H2 => ∃ (a : Addr) (ov : Option V), w = .ref a ∧ DGet H2 a v ov ∧ Q ov.isSome H2 := by
  obtain ⟨kvs, kk, e4, e5, e6⟩ := dAt_of e2
  refine hk F0 B ρ σ F H y _ R e1 fun w F' H' s b => dic_rd O hn (R.step s) e4 fun a rr ea ha dd => ⟨a, valV rr kk, rfl, ?_, ?_⟩
  · rw [key_of b e5]
    exact DGet.k ha
  · have g := dpKv_lkp kk dd
    subst e6
    have : (valV rr kk).isSome = (lkp kvs kk).isSome := by
      cases hq : lkp kvs kk with
      | none => rw [g.2 hq]; rfl
      | some v => obtain ⟨v', g1, g2⟩ := g.1 v hq; rw [g1]; rfl
    rw [this]
    exact q F' H' s
theorem snd_din (O : Ok X ci C G) {i : Nat} {x : Str} {p pos : Pos} {b : Bool} {ek : Expr} {k : En → Option PV} (hn : rdB ci i x = true) (hk : SndB X ek k) :
    Snd X (.Compare ek [if b then .NotIn else .In] [.Name x p] pos) (fun ρ => do let y ← k ρ; let o ← dAt ρ i y; some ⟨.bool (o.isSome != b), false⟩) := by
  intro F0 B ρ σ F H r Q R e q
  obtain ⟨y, e1, e⟩ := bind_some e
  obtain ⟨o, e2, e⟩ := bind_some e
  cases e
  have hu : X.A.units + 1 < cLine := by have := O.hu; omega
  cases b with
  | false => exact wE_of (pe_cmp (pc_din hu pe_w pe_w) rfl) (din_core O hn hk R e1 e2 (Q := fun c H' => Q (.bl c) H') fun F' H' s => q _ F' H' s (.of (by cases o <;> exact .bl _)))
  | true => exact wE_of (pe_cmp (pc_dnotin hu pe_w pe_w) rfl) (din_core O hn hk R e1 e2 (Q := fun c H' => Q (.bl (!c)) H') fun F' H' s => q _ F' H' s (.of (by cases o <;> exact .bl _)))
theorem snt_din (O : Ok X ci C G) {i : Nat} {x : Str} {p pos : Pos} {b : Bool} {ek : Expr} {k : En → Option PV} (hn : rdB ci i x = true) (hk : SndB X ek k) :
    SndT X (.Compare ek [if b then .NotIn else .In] [.Name x p] pos) (fun ρ => do let y ← k ρ; let o ← dAt ρ i y; some (.bool (o.isSome != b))) := by
  intro F0 B ρ σ F H d kk Q R e t q
  obtain ⟨y, e1, e⟩ := bind_some e
  obtain ⟨o, e2, e⟩ := bind_some e
  cases e
  cases t
  have hu : X.A.units + 1 < cLine := by have := O.hu; omega
  cases b with
  | false => exact wT_of (pt_cmp (pc_din hu pe_w pe_w) rfl) (din_core O hn hk R e1 e2 (Q := fun c H' => ∃ b, V.bl c = .bl b ∧ Q b H') fun F' H' s => ⟨_, rfl, by cases o <;> exact q F' H' s⟩)
  | true => exact wT_of (pt_cmp (pc_dnotin hu pe_w pe_w) rfl) (din_core O hn hk R e1 e2 (Q := fun c H' => ∃ b, V.bl (!c) = .bl b ∧ Q b H') fun F' H' s => ⟨_, rfl, by cases o <;> exact q F' H' s⟩)
end
end Pz
set_option Elab.async false
set_option linter.all false
set_option maxRecDepth 100000
set_option maxHeartbeats 1000000
/-! Pz: enumerate of a tuple. -/
namespace Pz
open PySem PySem.Spec PyProof.Rows L2

theorem enum_new1 {v : Value} {o : Obj} {Z : Heap → Prop} (B : Begins v o Z) :
    Meets (Builtin.«enumerate.__new__» ⟨[.type "enumerate", v], []⟩) (fun _ R s => Z s.heap ∧
      R (.ok (.ret (.ref (s.heap.push o).objs.size))) { s with heap := (s.heap.push o).push { cls := .type "enumerate", data := .fields #[.none, .bool false, .ref s.heap.objs.size, rawInt 0, .none, .none] } }) :=
  .of_wp fun prog w A R s h => by
    obtain ⟨hp, g, d, tk, os⟩ := s
    obtain ⟨h1, h⟩ := h
    have hsub := sub_enumerate
    have q1 : ∀ {A' : Around} {E : Value → Shared → Prop} {Q : Value → Shared → Prop}, Q (.ref hp.objs.size) ⟨hp.push o, g, d, tk, os⟩ → wpAny (model prog w) A' (pyIter v) Q E ⟨hp, g, d, tk, os⟩ :=
      fun q => B.iter prog w _ _ ⟨hp, g, d, tk, os⟩ _ h1 q
    wp_walk using q1
    refine wpAny_stack_any fun st => wpAny_pure ?_
    split
    · rename_i c _ _ _ _ _
      cases (c == Value.type "enumerate")
      · wp_walk using q1
        exact ⟨_, rfl, h⟩
      · wp_walk using q1
        exact ⟨_, rfl, h⟩
    · wp_walk using q1
      exact ⟨_, rfl, h⟩
section
variable {prog : Program} {w : World} {A : Around} {E : Value → Shared → Prop} {s : Shared}
theorem enum_call1 {v : Value} {o : Obj} {Z : Heap → Prop} {Q : Value → Shared → Prop} (B : Begins v o Z) (h1 : Z s.heap)
    (h : ∀ h', IsEnum h' (s.heap.objs.size + 1) s.heap.objs.size 0 .none → h'.get? s.heap.objs.size = some o → (∀ b o, s.heap.get? b = some o → h'.get? b = some o) → Q (.ref (s.heap.objs.size + 1)) { s with heap := h' }) :
    wpAny (model prog w) A (call (.type "enumerate") [v]) Q E s := by
  refine callType_new F.called_enumerate (by decide) (F.typeCall_enumerate_1 _) (F.newCall_enumerate_1 _) (fun obj => F.args_object_init_2 obj _) F.entry_enumerate_new (enum_new1 B) ⟨h1, ?_⟩
  have hz : (s.heap.push o).objs.size = s.heap.objs.size + 1 := Heap.size_push ..
  show _ ∧ _
  rw [hz]
  have he : IsEnum ((s.heap.push o).push { cls := .type "enumerate", data := .fields #[.none, .bool false, .ref s.heap.objs.size, rawInt 0, .none, .none] }) (s.heap.objs.size + 1) s.heap.objs.size 0 .none := by
    have := Heap.get?_push_size (s.heap.push o) (o := { cls := .type "enumerate", data := .fields #[.none, .bool false, .ref s.heap.objs.size, rawInt 0, .none, .none] }) rfl
    rw [hz] at this; exact this
  exact ⟨⟨_, he, rfl⟩, h _ he (Heap.get?_push_of_some _ (Heap.get?_push_size _ B.free)) fun b o x => Heap.get?_push_of_some _ (Heap.get?_push_of_some _ x)⟩
end
/-- the tuple at a, each item in a new pair -/
def IteT (K : PySem.W.Frag) (a : Addr) : It :=
  ⟨fun i H => ∃ (xs : List V) (x : V), SqT K H a xs ∧ xs[i]? = some x, fun i H v H' => ∃ T x, v = .ref T ∧ H T = none ∧ H' = upd H T (.tup [.int (i : Nat), x]) ∧ ∀ xs, SqT K H a xs → xs[i]? = some x, fun i H => ∃ xs : List V, SqT K H a xs ∧ xs.length ≤ i⟩
theorem turn_enumT {P : Program} {w : World} {K : PySem.W.Frag} {elts : List Expr} {kk : Nat} {tpos : Pos} (a e it : Addr) :
    Turn P w K (.Tuple elts kk tpos) (IteT K a) [e, it] e (fun i h => (∃ old, IsEnum h e it ((i : Nat) : Int) old) ∧ h.IsTupleIter it a i ∧ e ≠ it ∧ e ≠ a ∧ a ≠ it) where
  mem := by simp
  obj := fun i h st b hb => by
    obtain ⟨⟨old, he⟩, ⟨o, ho, hc, hd⟩, _⟩ := st
    have e' : b = e ∨ b = it := by simpa using hb
    rcases e' with z | z
    · rw [z]; exact ⟨_, he, fun v q => nomatch q⟩
    · rw [z]; exact ⟨o, ho, fun v q => by rw [hd] at q; cases q⟩
  keep := fun i h h' st k => let ⟨⟨old, he⟩, hi, hne⟩ := st; ⟨⟨old, k e (by simp) _ he⟩, hi.at fun o q => k it (by simp) o q, hne⟩
  item := by
    intro X hP hw hK hc i pins s σ H E I hf st hg
    subst hP hw hK
    obtain ⟨⟨old, he⟩, hit, hne, hea, hai⟩ := st
    obtain ⟨xs, x, hq, hx⟩ := hg
    obtain ⟨its, rv, p, hz⟩ := I.tuple hq
    obtain ⟨u, hu, ru⟩ := rv.get hx
    have hel : e < s.heap.objs.size := Heap.lt_size he
    have hil : it < s.heap.objs.size := by obtain ⟨_, q, _⟩ := hit; exact Heap.lt_size q
    have hlt : i < its.toArray.size := by
      have := (List.getElem?_eq_some_iff.mp hu).1
      simpa using this
    refine wpAny_pyNext_enum_itemC (i := i) (Draws.tuple (A := X.A.in1) (I.ok.hd hc) it a hai its.toArray) he ⟨hit, p⟩ hlt hne (by simp [hne, hea]) fun y h' tk hy ho st' hT hsz hk => ?_
    have ey : y = u := by
      have hy : its.toArray[i]? = some y := hy
      rw [List.getElem?_toArray, hu] at hy
      exact (Option.some.inj hy).symm
    subst ey
    obtain ⟨hit', _⟩ := st'
    refine ⟨_, rfl, wpAny_letOwnedTupleGo_enum (s := { s with heap := h', toks := tk + 1 }) ho fun h'' he' sb => ?_⟩
    have hT2 : h''.get? s.heap.objs.size = some { cls := .type "tuple", data := .seq #[.int i tk, y] } := (sb.2 _ (Nat.ne_of_gt hel)).trans hT
    have new : ObjOk X.prog X.w (upd H s.heap.objs.size (.tup [.int (i : Nat), x])) h'' s.heap.objs.size (.tup [.int (i : Nat), x]) :=
      ⟨by show 2 ≤ sizeLine; decide, [.int i tk, y], .cons ⟨_, rfl⟩ (.cons ru .nil), ⟨_, hT2, rfl, _, rfl⟩⟩
    have I1 : Inv X pins σ (upd H s.heap.objs.size (.tup [.int (i : Nat), x])) { s with heap := h'', toks := tk + 1 } :=
      I.turnedNew (ch := [e, it]) (fun b ob hb q => (sb.2 b (fun z => hb (by simp [z]))).trans (hk b ob (fun z => hb (by simp [z])) (fun z => hb (by simp [z])) q)) hf (Nat.le_refl _) new
    refine ⟨.ref s.heap.objs.size, _, I1, rfl, ⟨_, x, rfl, I.hok.fresh (Nat.le_refl _), rfl, fun ys hy => by rw [I.tuple_inj hy hq]; exact hx⟩, ⟨⟨y, ?_⟩, hit'.at fun o q => (sb.2 it (Ne.symm hne)).trans q, hne, hea, hai⟩, fun b hb => ?_⟩
    · have e1 : ((i + 1 : Nat) : Int) = (i : Int) + 1 := by omega
      rw [e1]; exact he'
    · have hb' : b < s.heap.objs.size := by
        have e' : b = e ∨ b = it := by simpa using hb
        rcases e' with z | z
        · rw [z]; exact hel
        · rw [z]; exact hil
      rw [upd_ne (Nat.ne_of_lt hb')]
      exact (hf b hb).1
  done := by
    intro X hP hw hK hc i pins s σ H E I hf st hg
    subst hP hw hK
    obtain ⟨⟨old, he⟩, hit, hne, hea, hai⟩ := st
    obtain ⟨xs, hq, hx⟩ := hg
    obtain ⟨its, rv, p, hz⟩ := I.tuple hq
    obtain ⟨f0, f1, f2, f3, f4, f5⟩ := hf it (by simp)
    have hl := rv.length
    have hend : its.toArray[i]? = none := by simp; omega
    have hT : s.TypeIs (.ref e) "enumerate" := ⟨_, he, rfl⟩
    unfold pyNext
    refine wpAny_bind (wpAny_attempt (wpAny_callSpecial?_slot (name := Str.ofString "__next__") hT F.slot_enumerate_next
      (wpAny_call_entry F.slot_enumerate_next hT F.entry_enumerate_next ?_ (F.args_enumerate_next_1 _))))
    show wpAny _ _ (field (.ref e) 2 >>= _) _ _ _
    refine wpAny_bind (wpAny_field he rfl (x := .ref it) rfl ?_)
    refine wpAny_bind (wpAny_nextOf_tuple_end (A := X.A.in1) (I.ok.hd hc) hit p hend fun h' x he' hx' => ?_)
    obtain ⟨o, ho, hcl⟩ := hx'
    refine wpAny_bind (wpAny_isInstance (T := "StopIteration") (b := true) ⟨o, ho, hcl⟩ isSubtype_stop ?_)
    exact wpAny_pure ⟨rfl, I.turned (t' := s.toks) (fun b o hb q => he' b o hb q) f0 f1 f3 f4 f5⟩
  self := fun A i s Q E st h => let ⟨⟨_, he⟩, _⟩ := st; wpAny_pyIter_enum he h
def iEnumA (K : PySem.W.Frag) (ta : TA) : TI := fun σ H R => ta σ H fun vs H1 => ∃ a xs, vs = [.ref a] ∧ ((SqL K H1 a xs ∧ R (Ite K a) H1) ∨ (SqT K H1 a xs ∧ R (IteT K a) H1))
theorem pi_enumA {X : Cx} {e : Expr} {ta : TA} {p pos tpos : Pos} {elts : List Expr} {kk : Nat} (hg : Gl X "enumerate") (hm : X.mg "enumerate" = none) (ha : PA X [e] ta) (hs : starEach [e] X.env = [(false, eval e X.env)]) :
    PI X (.Tuple elts kk tpos) (.Call (.Name "enumerate" p) [e] [] pos) (iEnumA X.K ta) := by
  refine ⟨fun pins s σ H R I h => ?_⟩
  refine Call_ (ld_blt I hg hm boot_enumerate (PyProof.Rows.callWith_type1 (thn (ha.run pos pins s σ H _ I h) fun us s1 ⟨vs, H1, I1, r1, q1⟩ => ?_) hs rfl))
  obtain ⟨a, xs, ex, q1⟩ := q1
  subst ex
  obtain ⟨u, rfl, ru⟩ := vals1 r1
  cases (show u = Value.ref a from ru)
  have free2 : ∀ b ∈ [s1.heap.objs.size + 1, s1.heap.objs.size], FpOk X pins H1 b := fun b hb => by
    have e' : b = s1.heap.objs.size + 1 ∨ b = s1.heap.objs.size := by simpa using hb
    have hle : s1.heap.objs.size ≤ b := by
      rcases e' with z | z
      · rw [z]; exact Nat.le_add_right _ _
      · rw [z]; exact Nat.le_refl _
    exact I1.fpOk hle (I1.hok.fresh hle)
  rcases q1 with ⟨hq, q⟩ | ⟨hq, q⟩
  · obtain ⟨its, rv, p', hz⟩ := I1.list hq
    refine call_enumerate_list p'.isList fun h' he hit hsz hk => wpAny_pyIter_enum he ?_
    have I2 : Inv X pins σ H1 { s1 with heap := h' } := I1.kept (t' := s1.toks) hk
    exact ⟨s1.heap.objs.size + 1, [s1.heap.objs.size + 1, s1.heap.objs.size], _, _, H1, rfl, I2, turn_enum a (s1.heap.objs.size + 1) s1.heap.objs.size, ⟨⟨.none, he⟩, hit, Nat.succ_ne_self _⟩, free2, q⟩
  · obtain ⟨its, rv, p', hz⟩ := I1.tuple hq
    have al : a < s1.heap.objs.size := p'.lt
    refine enum_call1 (begins_tuple a its.toArray) p' fun h' he ho hk => wpAny_pyIter_enum he ?_
    have I2 : Inv X pins σ H1 { s1 with heap := h' } := I1.kept (t' := s1.toks) hk
    exact ⟨s1.heap.objs.size + 1, [s1.heap.objs.size + 1, s1.heap.objs.size], _, _, H1, rfl, I2, turn_enumT a (s1.heap.objs.size + 1) s1.heap.objs.size, ⟨⟨.none, he⟩, ⟨_, ho, rfl, rfl⟩, Nat.succ_ne_self _, Nat.ne_of_gt (Nat.lt_succ_of_lt al), Nat.ne_of_lt al⟩, free2, q⟩
end Pz
set_option Elab.async false
set_option linter.all false
set_option maxRecDepth 100000
set_option maxHeartbeats 1000000
/-! Pz: what loops and comprehensions walk; targets. -/
namespace Pz
open PySem PySem.Spec PyProof.Rows L2

/-- the walk J gives xs, while F1 and B1 stand -/
def ItOk (K : PySem.W.Frag) (J : It) (xs : List PV) (F1 B1 : Hp) : Prop := ∀ (i : Nat) (F H : Hp), Same F1 F → Same B1 H → Same F H →
  (∀ d, xs[i]? = some d → J.go i H ∧ ∀ x H', J.yld i H x H' → ∃ F', Step F H F' H' ∧ Dp K F' x d) ∧ (xs.length ≤ i → J.stop i H)
section
variable {K : PySem.W.Frag} {F1 B1 : Hp}
theorem itok_list {a : Addr} {vs : List V} {xs : List PV} (h : SqL K B1 a vs) (d : DpAll K F1 vs xs) : ItOk K (Itl K a) xs F1 B1 := by
  intro i F H sf sb le
  have hq := sb.seq h
  refine ⟨fun e he => ?_, fun hi => ⟨vs, hq, by rw [dpAll_len d]; exact hi⟩⟩
  obtain ⟨v, hv, dv⟩ := dpAll_get d he
  refine ⟨⟨vs, v, hq, hv⟩, fun x H' ⟨e1, e2⟩ => ?_⟩
  subst e1
  have := e2 vs hq
  rw [hv] at this; cases this
  exact ⟨F, Step.rfl' le, dp_mono sf dv⟩
theorem itok_tup {a : Addr} {vs : List V} {xs : List PV} (h : SqT K B1 a vs) (d : DpAll K F1 vs xs) : ItOk K (Itt K a) xs F1 B1 := by
  intro i F H sf sb le
  have hq := sqT_same sb h
  refine ⟨fun e he => ?_, fun hi => ⟨vs, hq, by rw [dpAll_len d]; exact hi⟩⟩
  obtain ⟨v, hv, dv⟩ := dpAll_get d he
  refine ⟨⟨vs, v, hq, hv⟩, fun x H' ⟨e1, e2⟩ => ?_⟩
  subst e1
  have := e2 vs hq
  rw [hv] at this; cases this
  exact ⟨F, Step.rfl' le, dp_mono sf dv⟩
theorem itok_str {z : Str} : ItOk K (Its z) (z.cps.toList.map fun c => .str ⟨#[c]⟩) F1 B1 := by
  intro i F H sf sb le
  refine ⟨fun e he => ?_, fun hi => by show z.cps.size ≤ i; simpa using hi⟩
  rw [List.getElem?_map] at he
  obtain ⟨c, hc, e1⟩ := Option.map_eq_some_iff.mp he
  subst e1
  have hc' : z.cps[i]? = some c := by simpa using hc
  refine ⟨(Array.getElem?_eq_some_iff.mp hc').1, fun x H' ⟨e1, c', e2, e3⟩ => ?_⟩
  subst e1 e3
  rw [hc'] at e2; cases e2
  exact ⟨F, Step.rfl' le, .str _⟩
theorem rngL_get {lo : Int} {n i : Nat} {d : PV} (h : (rngL lo n)[i]? = some d) : i < n ∧ d = .int (lo + (i : Nat)) := by
  unfold rngL at h
  rw [List.getElem?_map] at h
  obtain ⟨c, hc, e1⟩ := Option.map_eq_some_iff.mp h
  obtain ⟨h1, h2⟩ := List.getElem?_eq_some_iff.mp hc
  rw [List.length_range] at h1
  rw [List.getElem_range] at h2
  subst h2
  exact ⟨h1, e1.symm⟩
theorem rngL_len {lo : Int} {n : Nat} : (rngL lo n).length = n := by unfold rngL; rw [List.length_map, List.length_range]
theorem itok_rng {lo : Int} {n : Nat} : ItOk K (Itr lo n) (rngL lo n) F1 B1 := by
  intro i F H sf sb le
  refine ⟨fun e he => ?_, fun hi => by rw [rngL_len] at hi; exact hi⟩
  obtain ⟨h1, rfl⟩ := rngL_get he
  refine ⟨h1, fun x H' ⟨e1, e2⟩ => ?_⟩
  subst e1 e2
  exact ⟨F, Step.rfl' le, .int _⟩
theorem enumL_get {xs : List PV} {i : Nat} {d : PV} (h : (enumL xs)[i]? = some d) : ∃ x, xs[i]? = some x ∧ d = .tuple [.int (i : Nat), x] := by
  unfold enumL at h
  rw [List.getElem?_map, List.getElem?_zipIdx] at h
  obtain ⟨c, hc, e1⟩ := Option.map_eq_some_iff.mp h
  obtain ⟨x, hx, e2⟩ := Option.map_eq_some_iff.mp hc
  subst e2
  refine ⟨x, hx, ?_⟩
  rw [← e1]; simp
theorem enumL_len {xs : List PV} : (enumL xs).length = xs.length := by unfold enumL; rw [List.length_map, List.length_zipIdx]
theorem itok_enumL {a : Addr} {vs : List V} {xs : List PV} (h : SqL K B1 a vs) (d : DpAll K F1 vs xs) : ItOk K (Ite K a) (enumL xs) F1 B1 := by
  intro i F H sf sb le
  have hq := sb.seq h
  refine ⟨fun e he => ?_, fun hi => ⟨vs, hq, by rw [enumL_len] at hi; rw [dpAll_len d]; exact hi⟩⟩
  obtain ⟨x, hx, rfl⟩ := enumL_get he
  obtain ⟨v, hv, dv⟩ := dpAll_get d hx
  refine ⟨⟨vs, v, hq, hv⟩, fun y H' ⟨T, u, e1, e2, e3, e4⟩ => ?_⟩
  subst e1 e3
  have := e4 vs hq
  rw [hv] at this; cases this
  have s := Step.new (o := .tup [.int (i : Nat), v]) le e2
  exact ⟨_, s, .tup (SqT.of upd_same) (.cons (.int _) (.cons (dp_mono s.f (dp_mono sf dv)) .nil))⟩
theorem itok_enumT {a : Addr} {vs : List V} {xs : List PV} (h : SqT K B1 a vs) (d : DpAll K F1 vs xs) : ItOk K (IteT K a) (enumL xs) F1 B1 := by
  intro i F H sf sb le
  have hq := sqT_same sb h
  refine ⟨fun e he => ?_, fun hi => ⟨vs, hq, by rw [enumL_len] at hi; rw [dpAll_len d]; exact hi⟩⟩
  obtain ⟨x, hx, rfl⟩ := enumL_get he
  obtain ⟨v, hv, dv⟩ := dpAll_get d hx
  refine ⟨⟨vs, v, hq, hv⟩, fun y H' ⟨T, u, e1, e2, e3, e4⟩ => ?_⟩
  subst e1 e3
  have := e4 vs hq
  rw [hv] at this; cases this
  have s := Step.new (o := .tup [.int (i : Nat), v]) le e2
  exact ⟨_, s, .tup (SqT.of upd_same) (.cons (.int _) (.cons (dp_mono s.f (dp_mono sf dv)) .nil))⟩
theorem zipL_get {xs ys : List PV} {i : Nat} {d : PV} (h : (zipL xs ys)[i]? = some d) : ∃ x y, xs[i]? = some x ∧ ys[i]? = some y ∧ d = .tuple [x, y] := by
  unfold zipL at h
  rw [List.getElem?_map] at h
  obtain ⟨⟨x, y⟩, hc, e1⟩ := Option.map_eq_some_iff.mp h
  obtain ⟨h1, h2⟩ := List.getElem?_zip_eq_some.mp hc
  exact ⟨x, y, h1, h2, e1.symm⟩
theorem zipL_len {xs ys : List PV} : (zipL xs ys).length = min xs.length ys.length := by unfold zipL; rw [List.length_map, List.length_zip]
theorem itok_zipL {a b : Addr} {vs ws : List V} {xs ys : List PV} (h : SqL K B1 a vs) (h2 : SqL K B1 b ws) (d : DpAll K F1 vs xs) (d2 : DpAll K F1 ws ys) : ItOk K (Itz K a b) (zipL xs ys) F1 B1 := by
  intro i F H sf sb le
  have hq := sb.seq h
  have hq2 := sb.seq h2
  refine ⟨fun e he => ?_, fun hi => ⟨vs, ws, hq, hq2, by rw [zipL_len] at hi; rw [dpAll_len d, dpAll_len d2]; omega⟩⟩
  obtain ⟨x, y, hx, hy, rfl⟩ := zipL_get he
  obtain ⟨v, hv, dv⟩ := dpAll_get d hx
  obtain ⟨w, hw, dw⟩ := dpAll_get d2 hy
  refine ⟨⟨vs, ws, v, w, hq, hq2, hv, hw⟩, fun z H' ⟨T, u, u2, e1, e2, e3, e4, e5⟩ => ?_⟩
  subst e1 e3
  have t1 := e4 vs hq
  have t2 := e5 ws hq2
  rw [hv] at t1; cases t1
  rw [hw] at t2; cases t2
  have s := Step.new (o := .tup [v, w]) le e2
  exact ⟨_, s, .tup (SqT.of upd_same) (.cons (dp_mono s.f (dp_mono sf dv)) (.cons (dp_mono s.f (dp_mono sf dw)) .nil))⟩
theorem itok_zipT {a b : Addr} {vs ws : List V} {xs ys : List PV} (h : SqT K B1 a vs) (h2 : SqT K B1 b ws) (d : DpAll K F1 vs xs) (d2 : DpAll K F1 ws ys) : ItOk K (RZ.ItzT K a b) (zipL xs ys) F1 B1 := by
  intro i F H sf sb le
  have hq := sqT_same sb h
  have hq2 := sqT_same sb h2
  refine ⟨fun e he => ?_, fun hi => ⟨vs, ws, hq, hq2, by rw [zipL_len] at hi; rw [dpAll_len d, dpAll_len d2]; omega⟩⟩
  obtain ⟨x, y, hx, hy, rfl⟩ := zipL_get he
  obtain ⟨v, hv, dv⟩ := dpAll_get d hx
  obtain ⟨w, hw, dw⟩ := dpAll_get d2 hy
  refine ⟨⟨vs, ws, v, w, hq, hq2, hv, hw⟩, fun z H' ⟨T, u, u2, e1, e2, e3, e4, e5⟩ => ?_⟩
  subst e1 e3
  have t1 := e4 vs hq
  have t2 := e5 ws hq2
  rw [hv] at t1; cases t1
  rw [hw] at t2; cases t2
  have s := Step.new (o := .tup [v, w]) le e2
  exact ⟨_, s, .tup (SqT.of upd_same) (.cons (dp_mono s.f (dp_mono sf dv)) (.cons (dp_mono s.f (dp_mono sf dw)) .nil))⟩
end

/-! ### the walk's source -/
def wI (X : Cx) (tg iter : Expr) : TI := fun σ H R => ∀ (pins : List (Addr × Obj)) (s : Shared), Inv X pins σ H s →
  wpAny (model X.prog X.w) X.A (eval iter X.env) (fun v s1 => wpAny (model X.prog X.w) X.A (pyIter v) (PIE X pins σ tg R) X.xe s1) X.xe s
theorem pi_w {X : Cx} {tg iter : Expr} : PI X tg iter (wI X tg iter) := ⟨fun pins s σ H R I h => h pins s I⟩
/-- R may use what the invariant tells of the heap -/
theorem wI_of {X : Cx} {tg iter : Expr} {t : TI} {σ : L2.St} {H : Hp} {R R' : It → Hp → Prop} (h : PI X tg iter t) (q : t σ H R')
    (m : ∀ J H', (∃ pins s, Inv X pins σ H' s) → R' J H' → R J H') : wI X tg iter σ H R := fun pins s I =>
  thn (h.run pins s σ H R' I q) fun v s1 h1 => thn h1 fun itv s2 ⟨it, fp, tn, J, H', e, I', T, st, f, r⟩ => ⟨it, fp, tn, J, H', e, I', T, st, f, m J H' ⟨pins, s2, I'⟩ r⟩
def SndI (b : Bool) (X : Cx) (tg iter : Expr) (ev : En → Option (List PV)) : Prop := ∀ (F0 B : Hp) (ρ : En) (σ : L2.St) (F H : Hp) (xs : List PV) (R : It → Hp → Prop), Rel X.K F0 B ρ σ F H → ev ρ = some xs →
  (∀ J F' H', Step F H F' H' → ItOk X.K J xs F' (if b then F' else H') → xs.length ≤ sizeLine → R J H') → wI X tg iter σ H R
section
variable {X : Cx} {ci : CI} {C : Str → List PV → Option RV} {G : Str → Option PV} {F0 B : Hp} {ρ : En} {σ : L2.St} {F H : Hp}
theorem sz_list {H' : Hp} {a : Addr} {vs : List V} (I : ∃ pins s, Inv X pins σ H' s) (h : SqL X.K H' a vs) : vs.length ≤ sizeLine := by
  obtain ⟨pins, s, I⟩ := I
  obtain ⟨_, _, _, z⟩ := I.list h
  exact z
theorem sz_tup {H' : Hp} {a : Addr} {vs : List V} (I : ∃ pins s, Inv X pins σ H' s) (h : SqT X.K H' a vs) : vs.length ≤ sizeLine := by
  obtain ⟨pins, s, I⟩ := I
  obtain ⟨_, _, _, z⟩ := I.tuple h
  exact z
/-- the value of a source: what of it is read where -/
def BorS (b : Bool) (K : PySem.W.Frag) (F H : Hp) (v : V) (d : PV) : Prop := if b then Dp K F v d else Bor K F H v d
theorem BorS.bor {b : Bool} {K : PySem.W.Frag} {v : V} {d : PV} (h : BorS b K F H v d) : Bor K F H v d := by
  cases b with
  | true => exact .inl (by simpa [BorS] using h)
  | false => simpa [BorS] using h
theorem BorS.list {b : Bool} {K : PySem.W.Frag} (le : Same F H) {v : V} {ds : List PV} (h : BorS b K F H v (.list ds)) : ∃ a vs, v = .ref a ∧ SqL K (if b then F else H) a vs ∧ SqL K H a vs ∧ DpAll K F vs ds := by
  cases b with
  | true =>
    have h : Dp K F v (.list ds) := by simpa [BorS] using h
    cases h with
    | lst h1 hs => exact ⟨_, _, rfl, h1, le.seq h1, hs⟩
  | false =>
    have h : Bor K F H v (.list ds) := by simpa [BorS] using h
    obtain ⟨a, vs, e, h1, h2⟩ := h.list le
    exact ⟨a, vs, e, h1, h1, h2⟩
theorem BorS.tup {b : Bool} {K : PySem.W.Frag} (le : Same F H) {v : V} {ds : List PV} (h : BorS b K F H v (.tuple ds)) : ∃ a vs, v = .ref a ∧ SqT K (if b then F else H) a vs ∧ SqT K H a vs ∧ DpAll K F vs ds := by
  cases b with
  | true =>
    have h : Dp K F v (.tuple ds) := by simpa [BorS] using h
    cases h with
    | tup h1 hs => exact ⟨_, _, rfl, h1, sqT_same le h1, hs⟩
  | false =>
    have h : Bor K F H v (.tuple ds) := by simpa [BorS] using h
    obtain ⟨a, vs, e, h1, h2⟩ := h.tup le
    exact ⟨a, vs, e, h1, h1, h2⟩
theorem BorS.step {b : Bool} {K : PySem.W.Frag} {F' H' : Hp} (s : Step F H F' H') {v : V} {d : PV} (h : BorS b K F H v d) : BorS b K F' H' v d := by
  cases b with
  | true =>
    have h : Dp K F v d := by simpa [BorS] using h
    simpa [BorS] using dp_mono s.f h
  | false =>
    have h : Bor K F H v d := by simpa [BorS] using h
    simpa [BorS] using h.step s
def SndS (b : Bool) (X : Cx) (e : Expr) (ev : En → Option PV) : Prop := ∀ (F0 B : Hp) (ρ : En) (σ : L2.St) (F H : Hp) (d : PV) (Q : VK), Rel X.K F0 B ρ σ F H → ev ρ = some d →
  (∀ v F' H', Step F H F' H' → BorS b X.K F' H' v d → Q v H') → wE X e σ H Q
theorem snds {b : Bool} {p : Tx} {e : Expr} {ev : En → Option RV} (h : Snd X e ev) (hb : SndB X e (fun ρ => rd p (ev ρ) ρ)) : SndS b X e (fun ρ => rdS b p (ev ρ) ρ) := by
  cases b with
  | true =>
    intro F0 B ρ σ F H d Q R e1 q
    have e1 : (ev ρ).map (·.v) = some d := e1
    obtain ⟨r, e2, e3⟩ := Option.map_eq_some_iff.mp e1
    subst e3
    exact h.va R e2 fun v F' H' s dp => q v F' H' s (by simpa [BorS] using dp)
  | false =>
    intro F0 B ρ σ F H d Q R e1 q
    exact hb F0 B ρ σ F H d Q R e1 fun v F' H' s dp => q v F' H' s (by simpa [BorS] using dp)
theorem si_seq {b : Bool} {tg e : Expr} {ev : En → Option PV} (h : SndS b X e ev) : SndI b X tg e (fun ρ => do
    match ← ev ρ with
    | .list xs => some xs
    | .tuple xs => some xs
    | .str s => if s.length ≤ LIM then some (s.cps.toList.map fun c => .str ⟨#[c]⟩) else none
    | _ => none) := by
  intro F0 B ρ σ F H xs R Rl er q
  obtain ⟨x, e1, er⟩ := bind_some er
  cases x with
  | list ys =>
    obtain rfl : ys = xs := Option.some.inj er
    refine wI_of (pi_list pe_w) (R' := fun J H' => ∃ a vs F', J = Itl X.K a ∧ SqL X.K (if b then F' else H') a vs ∧ SqL X.K H' a vs ∧ DpAll X.K F' vs ys ∧ Step F H F' H') (h F0 B ρ σ F H _ _ Rl e1 fun v F' H' s bo => ?_)
      fun J H' I ⟨a, vs, F', ej, h1, h2, d, s⟩ => ?_
    · obtain ⟨a, vs, rfl, h1, h2, d⟩ := bo.list s.le
      exact ⟨a, rfl, ⟨vs, h2⟩, a, vs, F', rfl, h1, h2, d, s⟩
    · subst ej
      exact q _ F' H' s (itok_list h1 d) (by rw [← dpAll_len d]; exact sz_list I h2)
  | tuple ys =>
    obtain rfl : ys = xs := Option.some.inj er
    refine wI_of (pi_tup pe_w) (R' := fun J H' => ∃ a vs F', J = Itt X.K a ∧ SqT X.K (if b then F' else H') a vs ∧ SqT X.K H' a vs ∧ DpAll X.K F' vs ys ∧ Step F H F' H') (h F0 B ρ σ F H _ _ Rl e1 fun v F' H' s bo => ?_)
      fun J H' I ⟨a, vs, F', ej, h1, h2, d, s⟩ => ?_
    · obtain ⟨a, vs, rfl, h1, h2, d⟩ := bo.tup s.le
      exact ⟨a, rfl, ⟨vs, h2⟩, a, vs, F', rfl, h1, h2, d, s⟩
    · subst ej
      exact q _ F' H' s (itok_tup h1 d) (by rw [← dpAll_len d]; exact sz_tup I h2)
  | str z =>
    have er : (if z.length ≤ LIM then some (z.cps.toList.map fun c => (.str ⟨#[c]⟩ : PV)) else none) = some xs := er
    split at er
    · rename_i hz
      cases er
      refine wI_of (pi_str pe_w) (R := R) (h F0 B ρ σ F H _ _ Rl e1 fun v F' H' s bo => ⟨z, bo.bor.str, q _ F' H' s itok_str ?_⟩) fun J H' _ r => r
      rw [List.length_map, Array.length_toList]
      exact lim_line hz
    · cases er
  | none => cases er
  | bool k => cases er
  | int i => cases er
  | dict kvs => cases er
theorem si_rng1 {b : Bool} (O : Ok X ci C G) {tg a : Expr} {p pos : Pos} {ev : En → Option PV} (hg : Gl X ("range" : Str)) (hs : noStar a = true) (h : SndB X a ev) : SndI b X tg (.Call (.Name "range" p) [a] [] pos) (fun ρ => do
    match ← ev ρ with
    | .int n => if n.natAbs ≤ LIM then some (rngL 0 n.toNat) else none
    | _ => none) := by
  intro F0 B ρ σ F H xs R Rl er q
  obtain ⟨x, e1, er⟩ := bind_some er
  split at er
  · split at er
    · rename_i n hz
      cases er
      refine wI_of (pi_range1 hg (O.blt _ (by decide +kernel)) (pa_cons pe_w pa_nil (star_of hs)) (by rw [star_of hs]; rfl)) (R := R) (h.run Rl e1 fun v F' H' s bo => ?_) fun J H' _ r => r
      exact ⟨n, by rw [bo.int], by unfold LIM at hz; omega, by unfold LIM at hz; omega, q _ F' H' s itok_rng (by rw [rngL_len]; exact lim_line (by omega))⟩
    · cases er
  · cases er
theorem si_rng2 {b : Bool} (O : Ok X ci C G) {tg a c : Expr} {p pos : Pos} {ea ec : En → Option PV} (hg : Gl X ("range" : Str)) (hs : noStar a = true) (hs2 : noStar c = true) (ha : SndB X a ea) (hc : SndB X c ec) :
    SndI b X tg (.Call (.Name "range" p) [a, c] [] pos) (fun ρ => do
    let x ← ea ρ
    let y ← ec ρ
    match x, y with
    | .int i, .int j => if i.natAbs ≤ LIM && j.natAbs ≤ LIM then some (rngL i (j - i).toNat) else none
    | _, _ => none) := by
  intro F0 B ρ σ F H xs R Rl er q
  obtain ⟨x, e1, er⟩ := bind_some er
  obtain ⟨y, e2, er⟩ := bind_some er
  split at er
  · rename_i i j _
    split at er
    · rename_i hz
      cases er
      rw [Bool.and_eq_true, decide_eq_true_eq, decide_eq_true_eq] at hz
      refine wI_of (pi_range2 hg (O.blt _ (by decide +kernel)) (pa_cons pe_w (pa_cons pe_w pa_nil (star_of hs2)) (star_of hs)) (by rw [star_of hs, star_of hs2]; rfl) (by rw [star_of hs2]; rfl)) (R := R) (snd_two ha hc Rl e1 e2 fun v w F' H' s b1 b2 => ?_) fun J H' _ r => r
      refine ⟨i, j, by rw [b1.int, b2.int], by unfold LIM at hz; omega, q _ F' H' s itok_rng ?_⟩
      rw [rngL_len, sizeLine_eq]
      unfold LIM at hz; omega
    · cases er
  · cases er
theorem si_enum {b : Bool} (O : Ok X ci C G) {a : Expr} {es : List Expr} {k : Nat} {tp p pos : Pos} {ev : En → Option PV} (hg : Gl X ("enumerate" : Str)) (hs : noStar a = true) (h : SndS b X a ev) :
    SndI b X (.Tuple es k tp) (.Call (.Name "enumerate" p) [a] [] pos) (fun ρ => do
    let x ← ev ρ
    (items x).map enumL) := by
  intro F0 B ρ σ F H xs R Rl er q
  obtain ⟨x, e1, er⟩ := bind_some er
  obtain ⟨ys, e2, er⟩ := Option.map_eq_some_iff.mp er
  subst er
  have mk : ∀ {t : TI}, PI X (.Tuple es k tp) (.Call (.Name "enumerate" p) [a] [] pos) t → t = iEnumA X.K (tCons (wE X a) tNil) → wI X (.Tuple es k tp) (.Call (.Name "enumerate" p) [a] [] pos) σ H R := fun {t} ht et => by
    subst et
    refine wI_of ht (R' := fun J H' => ∃ F', Step F H F' H' ∧ ItOk X.K J (enumL ys) F' (if b then F' else H') ∧ ∃ a vs, (SqL X.K H' a vs ∨ SqT X.K H' a vs) ∧ vs.length = ys.length) (h F0 B ρ σ F H _ _ Rl e1 fun v F' H' s bo => ?_)
      fun J H' I ⟨F', s, it, a, vs, hz, e⟩ => q J F' H' s it (by rw [enumL_len, ← e]; exact hz.elim (sz_list I) (sz_tup I))
    cases x with
    | list zs =>
      cases (show some zs = some ys from e2)
      obtain ⟨a, vs, rfl, h1, h2, d⟩ := bo.list s.le
      exact ⟨a, vs, rfl, .inl ⟨h2, F', s, itok_enumL h1 d, a, vs, .inl h2, dpAll_len d⟩⟩
    | tuple zs =>
      cases (show some zs = some ys from e2)
      obtain ⟨a, vs, rfl, h1, h2, d⟩ := bo.tup s.le
      exact ⟨a, vs, rfl, .inr ⟨h2, F', s, itok_enumT h1 d, a, vs, .inr h2, dpAll_len d⟩⟩
    | none => cases e2
    | bool b => cases e2
    | int i => cases e2
    | str z => cases e2
    | dict kvs => cases e2
  exact mk (pi_enumA hg (O.blt _ (by decide +kernel)) (pa_cons pe_w pa_nil (star_of hs)) (by rw [star_of hs]; rfl)) rfl
theorem si_zip {b : Bool} (O : Ok X ci C G) {a c : Expr} {es : List Expr} {k : Nat} {tp p pos : Pos} {ea ec : En → Option PV} (hg : Gl X ("zip" : Str)) (hs : noStar a = true) (hs2 : noStar c = true) (ha : SndS b X a ea) (hc : SndS b X c ec) :
    SndI b X (.Tuple es k tp) (.Call (.Name "zip" p) [a, c] [] pos) (fun ρ => do
    let x ← ea ρ
    let y ← ec ρ
    match x, y with
    | .list xs, .list ys => some (zipL xs ys)
    | .tuple xs, .tuple ys => some (zipL xs ys)
    | _, _ => none) := by
  intro F0 B ρ σ F H zs R Rl er q
  obtain ⟨x, e1, er⟩ := bind_some er
  obtain ⟨y, e2, er⟩ := bind_some er
  have two : ∀ {k : V → V → Hp → Prop}, (∀ v w F' H', Step F H F' H' → BorS b X.K F' H' v x → BorS b X.K F' H' w y → k v w H') → wE X a σ H fun v H1 => wE X c σ H1 fun w H2 => k v w H2 := fun {k} kq =>
    ha F0 B ρ σ F H x _ Rl e1 fun v F1 H1 s1 b1 => hc F0 B ρ σ F1 H1 y _ (Rl.step s1) e2 fun w F2 H2 s2 b2 => kq v w F2 H2 (s1.trans s2) (b1.step s2) b2
  have pi := RZ.pi_zipA (X := X) (elts := es) (kk := k) (tpos := tp) (p := p) (pos := pos) hg (O.blt _ (by decide +kernel)) (pa_cons (X := X) (e := a) pe_w (pa_cons (e := c) pe_w pa_nil (star_of hs2)) (star_of hs)) (star_of hs) (by rw [star_of hs2]; rfl)
  split at er
  · rename_i xs ys _
    cases er
    refine wI_of pi (R' := fun J H' => ∃ F', Step F H F' H' ∧ ItOk X.K J (zipL xs ys) F' (if b then F' else H') ∧ ∃ a vs, SqL X.K H' a vs ∧ vs.length = xs.length) (two fun v w F' H' s b1 b2 => ?_)
      fun J H' I ⟨F', s, it, a, vs, hz, e⟩ => q J F' H' s it (by rw [zipL_len, ← e]; exact Nat.le_trans (Nat.min_le_left _ _) (sz_list I hz))
    obtain ⟨a1, vs, rfl, h1, h2, d⟩ := b1.list s.le
    obtain ⟨a2, ws, rfl, h3, h4, d2⟩ := b2.list s.le
    exact ⟨a1, a2, vs, ws, rfl, .inl ⟨h2, h4, F', s, itok_zipL h1 h3 d d2, a1, vs, h2, dpAll_len d⟩⟩
  · rename_i xs ys _
    cases er
    refine wI_of pi (R' := fun J H' => ∃ F', Step F H F' H' ∧ ItOk X.K J (zipL xs ys) F' (if b then F' else H') ∧ ∃ a vs, SqT X.K H' a vs ∧ vs.length = xs.length) (two fun v w F' H' s b1 b2 => ?_)
      fun J H' I ⟨F', s, it, a, vs, hz, e⟩ => q J F' H' s it (by rw [zipL_len, ← e]; exact Nat.le_trans (Nat.min_le_left _ _) (sz_tup I hz))
    obtain ⟨a1, vs, rfl, h1, h2, d⟩ := b1.tup s.le
    obtain ⟨a2, ws, rfl, h3, h4, d2⟩ := b2.tup s.le
    exact ⟨a1, a2, vs, ws, rfl, .inr ⟨h2, h4, F', s, itok_zipT h1 h3 d d2, a1, vs, h2, dpAll_len d⟩⟩
  · cases er
end
end Pz
set_option Elab.async false
set_option linter.all false
set_option maxRecDepth 100000
set_option maxHeartbeats 1000000
/-! Pz: targets; comprehensions. -/
namespace Pz
open PySem PySem.Spec PyProof.Rows L2

/-! ### targets -/
def wG (X : Cx) (tg : Expr) : TG := fun v σ H Q => ∀ (pins : List (Addr × Obj)) (s : Shared) (u : Value), Inv X pins σ H s → RelV v u →
  wpAny (model X.prog X.w) X.A (assign tg X.env u) (fun _ s' => ∃ σ' H', Inv X pins σ' H' s' ∧ Q σ' H') X.xe s
theorem pg_w {X : Cx} {tg : Expr} : PG X tg (wG X tg) := ⟨fun pins s σ H v u Q I r h => h pins s u I r⟩
theorem wG_of {X : Cx} {tg : Expr} {t : TG} {v : V} {σ : L2.St} {H : Hp} {Q : L2.St → Hp → Prop} (h : PG X tg t) (q : t v σ H Q) : wG X tg v σ H Q := fun pins s u I r => h.run pins s σ H v u Q I r q
def wGs (X : Cx) (ts : List Expr) : TGs := fun vs σ H Q => ∀ (pins : List (Addr × Obj)) (s : Shared) (us : List Value), Inv X pins σ H s → Vals vs us →
  wpAny (model X.prog X.w) X.A (assignInOrder ((assignEach ts X.env).map (·.2)) us) (fun _ s' => ∃ σ' H', Inv X pins σ' H' s' ∧ Q σ' H') X.xe s
theorem pgs_w {X : Cx} {ts : List Expr} : PGs X ts (wGs X ts) := ⟨fun pins s σ H vs us Q I r h => h pins s us I r⟩
theorem wGs_of {X : Cx} {ts : List Expr} {t : TGs} {vs : List V} {σ : L2.St} {H : Hp} {Q : L2.St → Hp → Prop} (h : PGs X ts t) (q : t vs σ H Q) : wGs X ts vs σ H Q := fun pins s us I r => h.run pins s σ H vs us Q I r q

/-- outside these slots nothing changes -/
structure Keeps (sl : List Nat) (σ σ' : L2.St) : Prop where
  len : σ'.length = σ.length
  out : ∀ j, j ∉ sl → σ'[j]? = σ[j]?
theorem Keeps.wipe {sl vs : List Nat} {σ σ' : L2.St} (h : Keeps sl σ σ') (s : ∀ i ∈ sl, i ∈ vs) : L2.wipe σ' vs = L2.wipe σ vs := by
  apply List.ext_getElem?
  intro j
  by_cases hj : j ∈ vs
  · have z : ∀ {τ : L2.St}, (L2.wipe τ vs)[j]? = if j < τ.length then some none else none := fun {τ} => by
      clear h s
      induction vs with
      | nil => cases hj
      | cons v vs ih =>
        unfold L2.wipe
        by_cases e : v = j
        · subst e
          by_cases hl : v < τ.length
          · rw [if_pos hl, List.getElem?_set_self (by rw [wipe_length]; exact hl)]
          · rw [if_neg hl, List.getElem?_eq_none (by rw [List.length_set, wipe_length]; omega)]
        · rw [List.getElem?_set_ne e]
          exact ih ((List.mem_cons.mp hj).resolve_left fun q => e q.symm)
    rw [z, z, h.len]
  · rw [wipe_out hj, wipe_out hj]
    exact h.out j fun q => hj (s j q)
theorem Keeps.trans {a b : List Nat} {σ σ1 σ2 : L2.St} (h : Keeps a σ σ1) (h2 : Keeps b σ1 σ2) : Keeps (a ++ b) σ σ2 :=
  ⟨h2.len.trans h.len, fun j hj => (h2.out j fun q => hj (List.mem_append_right _ q)).trans (h.out j fun q => hj (List.mem_append_left _ q))⟩

def SndG (X : Cx) (tg : Expr) (t : Tg) : Prop := ∀ (F0 B : Hp) (ρ : En) (σ : L2.St) (F H : Hp) (v : V) (d : PV) (ρ' : En) (Q : L2.St → Hp → Prop), Rel X.K F0 B ρ σ F H → Dp X.K F v d → asg t d ρ = some ρ' →
  (∀ σ', Rel X.K F0 B ρ' σ' F H → Keeps t.slots σ σ' → Q σ' H) → wG X tg v σ H Q
def SndGs (X : Cx) (tgs : List Expr) (t : Tgs) : Prop := ∀ (F0 B : Hp) (ρ : En) (σ : L2.St) (F H : Hp) (vs : List V) (ds : List PV) (ρ' : En) (Q : L2.St → Hp → Prop), Rel X.K F0 B ρ σ F H → DpAll X.K F vs ds → asgs t ds ρ = some ρ' →
  (∀ σ', Rel X.K F0 B ρ' σ' F H → Keeps t.slots σ σ' → Q σ' H) → wGs X tgs vs σ H Q

section
variable {X : Cx} {ci : CI} {C : Str → List PV → Option RV} {G : Str → Option PV}
theorem isGs_stars {ci : CI} : ∀ {ts : Tgs} {es : List Expr} {env : Env}, isGs ci ts es = true → (assignEach es env).findIdx? (·.1) = none
  | .nil, [], _, _ => rfl
  | .nil, _ :: _, _, h => by cases h
  | .cons _ _, [], _, h => by cases h
  | .cons t ts, e :: es, env, h => by
    have h : (isG ci t e && noStar e && isGs ci ts es) = true := h
    rw [Bool.and_eq_true, Bool.and_eq_true] at h
    have z : assignEach (e :: es) env = (false, assign e env) :: assignEach es env := by
      obtain ⟨⟨_, h⟩, _⟩ := h
      cases e <;> first | rfl | cases h
    rw [z, List.findIdx?_cons, isGs_stars h.2]
    rfl
theorem assignEach_len : ∀ {es : List Expr} {env : Env}, (assignEach es env).length = es.length
  | [], _ => rfl
  | e :: es, env => by
    have := @assignEach_len es env
    cases e <;> (show _ + 1 = _ + 1; rw [this])
theorem asgs_len : ∀ {ts : Tgs} {es : List Expr} {ds : List PV} {ρ ρ' : En}, isGs ci ts es = true → asgs ts ds ρ = some ρ' → ds.length = es.length
  | .nil, [], [], _, _, _, _ => rfl
  | .nil, [], _ :: _, _, _, _, h => by cases h
  | .nil, _ :: _, _, _, _, h, _ => by cases h
  | .cons _ _, [], _, _, _, h, _ => by cases h
  | .cons _ _, _ :: _, [], _, _, _, h => by cases h
  | .cons t ts, e :: es, d :: ds, ρ, ρ', h, a => by
    have h : (isG ci t e && noStar e && isGs ci ts es) = true := h
    rw [Bool.and_eq_true] at h
    have a : (asg t d ρ).bind (asgs ts ds) = some ρ' := a
    obtain ⟨ρ1, _, a2⟩ := Option.bind_eq_some_iff.mp a
    rw [List.length_cons, List.length_cons, asgs_len h.2 a2]
mutual
theorem snd_g (O : Ok X ci C G) : ∀ {t : Tg} {e : Expr}, isG ci t e = true → SndG X e t
  | .nm i, e, h => by
    cases e with
    | Name x pos =>
      have h : (decide (ci.N[i]? = some x) && locB ci x && ci.st x) = true := h
      simp only [Bool.and_eq_true, decide_eq_true_eq] at h
      intro F0 B ρ σ F H v d ρ' Q R dv a q
      cases a
      refine wG_of (pg_name O.nd (nm_of O h.1.1) (loc_of O h.1.2) (O.st _ h.2)) (q _ (R.setV dv) ⟨by rw [List.length_set], fun j hj => ?_⟩)
      rw [List.getElem?_set_ne]
      intro e
      exact hj (by rw [e]; exact List.mem_singleton.mpr rfl)
    | _ => cases h
  | .tp ts, e, h => by
    cases e with
    | Tuple es k pos =>
      have h : isGs ci ts es = true := h
      intro F0 B ρ σ F H v d ρ' Q R dv a q
      cases dv with
      | tup hq hs =>
        rename_i a1 xs ds
        have a : asgs ts ds ρ = some ρ' := a
        refine wG_of (pg_tup (n := es.length) O.calm pgs_w assignEach_len (isGs_stars h)) ⟨a1, xs, rfl, sqT_same R.le hq, ?_, snd_gs O h F0 B ρ σ F H xs ds ρ' Q R hs a q⟩
        rw [dpAll_len hs]; exact asgs_len h a
      | non => cases a
      | bl b => cases a
      | int i => cases a
      | str x => cases a
      | lst _ _ => cases a
    | _ => cases h
theorem snd_gs (O : Ok X ci C G) : ∀ {t : Tgs} {e : List Expr}, isGs ci t e = true → SndGs X e t
  | .nil, [], h => by
    intro F0 B ρ σ F H vs ds ρ' Q R dv a q
    cases dv with
    | nil => cases a; exact wGs_of pgs_nil ⟨rfl, q σ R ⟨rfl, fun _ _ => rfl⟩⟩
    | cons _ _ => cases a
  | .nil, _ :: _, h => by cases h
  | .cons _ _, [], h => by cases h
  | .cons t ts, e :: es, h => by
    have h : (isG ci t e && noStar e && isGs ci ts es) = true := h
    rw [Bool.and_eq_true, Bool.and_eq_true] at h
    have z : (assignEach (e :: es) X.env).map (·.2) = assign e X.env :: (assignEach es X.env).map (·.2) := by
      obtain ⟨⟨_, h⟩, _⟩ := h
      cases e <;> first | rfl | cases h
    intro F0 B ρ σ F H vs ds ρ' Q R dv a q
    cases dv with
    | nil => cases a
    | cons d1 d2 =>
      rename_i v vs d ds
      have a : (asg t d ρ).bind (asgs ts ds) = some ρ' := a
      obtain ⟨ρ1, a1, a2⟩ := Option.bind_eq_some_iff.mp a
      refine wGs_of (pgs_cons pg_w pgs_w z) ⟨v, vs, rfl, snd_g O h.1.1 F0 B ρ σ F H v d ρ1 _ R d1 a1 fun σ1 R1 k1 => ?_⟩
      exact snd_gs O h.2 F0 B ρ1 σ1 F H vs ds ρ' Q R1 d2 a2 fun σ2 R2 k2 => q σ2 R2 (k1.trans k2)
end

/-! ### tests of a clause -/
def wTs (X : Cx) (ifs : List Expr) : TT := fun σ H Q => ∀ (pins : List (Addr × Obj)) (s : Shared), Inv X pins σ H s →
  wpAny (model X.prog X.w) X.A (forIn ifs true fun c r => if r = true then do let ok ← isTrue c X.env (eval c X.env); pure (ForInStep.yield ok) else pure (ForInStep.yield r)) (TP X pins σ Q) X.xe s
theorem pts_w {X : Cx} {ifs : List Expr} : PTs X ifs (wTs X ifs) := ⟨fun pins s σ H Q I h => h pins s I⟩
theorem wTs_of {X : Cx} {ifs : List Expr} {t : TT} {σ : L2.St} {H : Hp} {Q : Bool → Hp → Prop} (h : PTs X ifs t) (q : t σ H Q) : wTs X ifs σ H Q := fun pins s I => h.run pins s σ H Q I q
def SndF (X : Cx) (ifs : List Expr) (ev : En → Option Bool) : Prop := ∀ (F0 B : Hp) (ρ : En) (σ : L2.St) (F H : Hp) (b : Bool) (Q : Bool → Hp → Prop), Rel X.K F0 B ρ σ F H → ev ρ = some b →
  (∀ F' H', Step F H F' H' → Q b H') → wTs X ifs σ H Q

/-! ### the block -/
/-- for every context of the block -/
def AllB (X : Cx) (scope : Scope) (p : Cx → Prop) : Prop := ∀ (s : Shared) (H : Hp) (D : Addr) (cl : List (Str × Addr)) (fp : List Addr), p (X.blk s H scope (compEnvC scope cl D X.env) fp)
def bG (X : Cx) (scope : Scope) (tg : Expr) : TG := fun v σ H Q => AllB X scope fun Y => wG Y tg v σ H Q
def bT (X : Cx) (scope : Scope) (ifs : List Expr) : TT := fun σ H Q => AllB X scope fun Y => wTs Y ifs σ H Q
def bE (X : Cx) (scope : Scope) (e : Expr) : TE := fun σ H Q => AllB X scope fun Y => wE Y e σ H Q
def bI (X : Cx) (scope : Scope) (tg iter : Expr) : TI := fun σ H Q => AllB X scope fun Y => wI Y tg iter σ H Q
theorem ok_blk (O : Ok X ci C G) {scope : Scope} {own : List (Str × Nat)} (h : blkB ci scope own = true) : AllB X scope fun Y => Ok Y (blkCI ci scope) C G := by
  intro s H D cl fp
  have hb := blkOk_by h
  have e : relabel scope X.env = relS scope ci.sc := by rw [← O.sc]; rfl
  refine { N := O.N, sc := e, fk := hb.kind, nd := O.nd, calm := O.calm, hd := O.hd, hu := O.hu, st := fun x hx => ?_, glob := O.glob, blt := O.blt, call := O.call, im := O.im }
  have hx : (match scope.names.lookup x with | some .local => true | some .cell => true | _ => false) = true := hx
  split at hx
  · rename_i e1
    refine .inr ?_
    show (relabel scope X.env).names.lookup x = _
    rw [e]
    exact lookup_relS_keep (by decide) e1
  · rename_i e1
    refine .inl ?_
    show (scope.names.lookup x == some .cell) = true
    rw [e1]; rfl
  · cases hx

/-! ### one clause -/
theorem compL_len {f : PV → Option (List PV)} (h1 : ∀ x ys, f x = some ys → ys.length ≤ 1) : ∀ {xs ys : List PV}, compL f xs = some ys → ys.length ≤ xs.length
  | [], _, h => by cases h; exact Nat.le_refl _
  | x :: xs, zs, h => by
    obtain ⟨y, e1, h⟩ := bind_some h
    obtain ⟨ys, e2, h⟩ := bind_some h
    cases h
    have a := h1 _ _ e1
    have b := compL_len h1 e2
    rw [List.length_append, List.length_cons]; omega
theorem compL_step {f : PV → Option (List PV)} {xs ys : List PV} {i : Nat} (h : compL f (xs.drop i) = some ys) : (xs.length ≤ i ∧ ys = []) ∨ (∃ x y zs, xs[i]? = some x ∧ f x = some y ∧ compL f (xs.drop (i + 1)) = some zs ∧ ys = y ++ zs) := by
  by_cases hi : i < xs.length
  · rw [List.drop_eq_getElem_cons hi] at h
    obtain ⟨y, e1, h⟩ := bind_some h
    obtain ⟨zs, e2, h⟩ := bind_some h
    cases h
    exact .inr ⟨xs[i], y, zs, List.getElem?_eq_getElem hi, e1, e2, rfl⟩
  · rw [List.drop_eq_nil_of_le (by omega)] at h
    cases h
    exact .inl ⟨by omega, rfl⟩

/-- D, the list that is being made -/
structure Mk (K : PySem.W.Frag) (F1 H1 F H : Hp) (D : Addr) (ds : List PV) : Prop where
  s : Step F1 H1 F H
  n1 : H1 D = none
  nF : F D = none
  ex : ∃ vs, H D = some (.lst vs) ∧ DpAll K F vs ds
theorem Mk.init {K : PySem.W.Frag} {F1 H1 : Hp} {D : Addr} (le : Same F1 H1) (h : H1 D = none) : Mk K F1 H1 F1 (upd H1 D (.lst [])) D [] :=
  ⟨Step.lay le h, h, le.free h, [], upd_same, .nil⟩
theorem Mk.step {K : PySem.W.Frag} {F1 H1 F H F' H' : Hp} {D : Addr} {ds : List PV} (m : Mk K F1 H1 F H D ds) (s : Step F H F' H') : Mk K F1 H1 F' H' D ds := by
  obtain ⟨vs, e, d⟩ := m.ex
  exact ⟨m.s.trans s, m.n1, s.nw _ _ e m.nF, vs, s.h _ _ e, dpAll_mono s.f d⟩
theorem Mk.app {K : PySem.W.Frag} {F1 H1 F H : Hp} {D : Addr} {ds : List PV} {v : V} {d : PV} (m : Mk K F1 H1 F H D ds) (dv : Dp K F v d) : ∃ acc, H D = some (.lst acc) ∧ acc.length = ds.length ∧ Mk K F1 H1 F (upd H D (.lst (acc ++ [v]))) D (ds ++ [d]) := by
  obtain ⟨vs, e, dd⟩ := m.ex
  refine ⟨vs, e, dpAll_len dd, ⟨⟨fun b x q => ?_, m.s.f, fun b x q => ?_, m.s.nw⟩, m.n1, m.nF, vs ++ [v], upd_same, dpAll_app dd (.cons dv .nil)⟩⟩
  · rw [upd_ne (ne_of_none q m.n1)]; exact m.s.h _ _ q
  · rw [upd_ne (ne_of_none q m.nF)]; exact m.s.le _ _ q

/-- an expression's plan does what ev says -/
def SndQ (K : PySem.W.Frag) (t : TE) (ev : En → Option RV) : Prop := ∀ (F0 B : Hp) (ρ : En) (σ : L2.St) (F H : Hp) (r : RV) (Q : VK), Rel K F0 B ρ σ F H → ev ρ = some r →
  (∀ v F' H', Step F H F' H' → RepR K H F' H' r v → Q v H') → t σ H Q
theorem sq_lc {scope : Scope} {tg iter elt : Expr} {ifs : List Expr} {t : Tg} {sl : List Nat} {eI : En → Option (List PV)} {eF : En → Option Bool} {eE : En → Option RV}
    (hI : SndI false X tg iter eI) (hG : AllB X scope fun Y => SndG Y tg t) (hF : AllB X scope fun Y => SndF Y ifs eF) (hE : AllB X scope fun Y => Snd Y elt eE) (hsl : ∀ i ∈ t.slots, i ∈ sl) :
    SndQ X.K (tLc (wI X tg iter) (bG X scope tg) (bT X scope ifs) (bE X scope elt) sl) (fun ρ => do
      let xs ← eI ρ
      let ys ← compL (fun x => do
        let ρ1 ← asg t x (wipeS ρ sl)
        let k ← eF ρ1
        if k then (eE ρ1).map fun r => [r.v] else some []) xs
      some ⟨.list ys, true⟩) := by
  intro F0 B ρ σ F H r Q R e q
  obtain ⟨xs, e1, e⟩ := bind_some e
  obtain ⟨ys, e2, e⟩ := bind_some e
  cases e
  generalize hf : (fun x => do
        let ρ1 ← asg t x (wipeS ρ sl)
        let k ← eF ρ1
        if k then (eE ρ1).map fun r => [r.v] else some [] : PV → Option (List PV)) = f at e2
  have f1 : ∀ x ys, f x = some ys → ys.length ≤ 1 := fun x ys h => by
    rw [← hf] at h
    obtain ⟨ρ1, _, h⟩ := bind_some h
    obtain ⟨k, _, h⟩ := bind_some h
    split at h
    · obtain ⟨r, _, h⟩ := Option.map_eq_some_iff.mp h
      subst h; exact Nat.le_refl _
    · cases h; exact Nat.zero_le _
  refine hI F0 B ρ σ F H xs _ R e1 fun J F1 H1 s1 it hz D hD => ?_
  have it : ItOk X.K J xs F1 H1 := it
  refine ⟨fun i m H' => m = xs.length - i ∧ i ≤ xs.length ∧ ∃ F' ds es, Mk X.K F1 H1 F' H' D ds ∧ ds.length ≤ i ∧ compL f (xs.drop i) = some es ∧ ds ++ es = ys,
    ⟨_, rfl, Nat.zero_le _, F1, [], ys, Mk.init s1.le hD, Nat.le_refl _, e2, rfl⟩, fun i m H2 ⟨em, hi, F2, ds, es, mk, hl, ec, eo⟩ => ?_⟩
  obtain ⟨itg, its⟩ := it i F2 H2 mk.s.f mk.s.h mk.s.le
  rcases compL_step ec with ⟨hx, rfl⟩ | ⟨x, y, zs, hx, hy, hz2, rfl⟩
  · refine .inl ⟨its hx, q _ F2 H2 (s1.trans mk.s) ?_⟩
    obtain ⟨vs, h1, h2⟩ := mk.ex
    rw [List.append_nil] at eo; subst eo
    exact .new (s1.h.free hD) h1 mk.nF h2
  · obtain ⟨go, yl⟩ := itg x hx
    have hlt : i < xs.length := (List.getElem?_eq_some_iff.mp hx).1
    refine .inr ⟨go, fun H' => ∃ F' ds es, Mk X.K F1 H1 F' H' D ds ∧ ds.length ≤ i + 1 ∧ compL f (xs.drop (i + 1)) = some es ∧ ds ++ es = ys, fun H' h => ⟨xs.length - (i + 1), by omega, rfl, hlt, h⟩, fun u H3 hy3 => ?_⟩
    obtain ⟨F3, s3, du⟩ := yl u H3 hy3
    have mk3 := mk.step s3
    have R3 := ((R.step s1).step mk3.s).wipe sl
    rw [← hf] at hy
    obtain ⟨ρ1, a1, hy⟩ := bind_some hy
    obtain ⟨k, ek, hy⟩ := bind_some hy
    intro s0 H0 D0 cl fp
    refine hG s0 H0 D0 cl fp F0 B _ _ F3 H3 u x ρ1 _ R3 du a1 fun σ2 R4 k2 => ?_
    refine ⟨?_, ?_⟩
    · rw [k2.wipe hsl]
      exact Keeps.wipe (sl := sl) ⟨wipe_length _ _, fun j hj => wipe_out hj⟩ fun i h => h
    · intro s0 H0 D0 cl fp
      refine hF s0 H0 D0 cl fp F0 B ρ1 σ2 F3 H3 k _ R4 ek fun F5 H5 s5 => ?_
      have mk5 := mk3.step s5
      cases k with
      | false =>
        rw [if_neg Bool.false_ne_true] at hy ⊢
        cases hy
        exact ⟨F5, ds, zs, mk5, by omega, hz2, eo⟩
      | true =>
        rw [if_pos rfl] at hy ⊢
        obtain ⟨r, er, hy⟩ := Option.map_eq_some_iff.mp hy
        subst hy
        intro s0 H0 D0 cl fp
        refine (hE s0 H0 D0 cl fp).va (R4.step s5) er fun v F6 H6 s6 dv => ?_
        obtain ⟨acc, h1, h2, m6⟩ := (mk5.step s6).app dv
        refine ⟨acc, h1, by omega, F6, ds ++ [r.v], zs, m6, by rw [List.length_append]; simp; omega, hz2, ?_⟩
        rw [List.append_assoc]; exact eo
theorem snd_of_q {t : TE} {e : Expr} {ev : En → Option RV} (h : PE X e t) (q : SndQ X.K t ev) : Snd X e ev := fun F0 B ρ σ F H r Q R er k => wE_of h (q F0 B ρ σ F H r Q R er k)
end
end Pz
set_option Elab.async false
set_option linter.all false
set_option maxRecDepth 100000
set_option maxHeartbeats 1000000
/-! Pz: comprehensions of two clauses. -/
namespace Pz
open PySem PySem.Spec PyProof.Rows L2
section
variable {X : Cx} {ci : CI} {C : Str → List PV → Option RV} {G : Str → Option PV}
/-- but for D -/
def cutH (D : Addr) (H : Hp) : Hp := fun b => if b = D then none else H b
theorem cut_le {D : Addr} {H : Hp} : Same (cutH D H) H := fun b x e => by
  unfold cutH at e
  split at e
  · cases e
  · exact e
theorem cut_ne {D b : Addr} {H : Hp} (h : b ≠ D) : cutH D H b = H b := if_neg h
theorem le_cut {D : Addr} {F H : Hp} (le : Same F H) (h : F D = none) : Same F (cutH D H) := fun b x e => by
  rw [cut_ne (ne_of_none e h)]; exact le _ _ e
theorem cut_upd {D : Addr} {H : Hp} {o : HO} : cutH D (upd H D o) = cutH D H := by
  funext b
  by_cases h : b = D
  · unfold cutH; rw [if_pos h, if_pos h]
  · rw [cut_ne h, cut_ne h, upd_ne h]
theorem Mk.cut {K : PySem.W.Frag} {F1 H1 F H F' H' : Hp} {D : Addr} {ds : List PV} (m : Mk K F1 H1 F H D ds) (s : Step F H F' H') : Step F (cutH D H) F' (cutH D H') := by
  refine ⟨fun b x e => ?_, s.f, le_cut s.le (m.step s).nF, fun b x e n => s.nw b x (cut_le _ _ e) n⟩
  by_cases h : b = D
  · unfold cutH at e; rw [if_pos h] at e; cases e
  · rw [cut_ne h] at e ⊢; exact s.h _ _ e
theorem _root_.Pz.Rel.up {K : PySem.W.Frag} {F0 B F H H' : Hp} {ρ : En} {σ : L2.St} (R : Rel K F0 B ρ σ F H) (s : Same H H') (le : Same F H') : Rel K F0 B ρ σ F H' where
  le := le
  len := R.len
  val := R.val
  own := fun i ds e => let ⟨a, vs, h1, h2, h3, h4, h5⟩ := R.own i ds e; ⟨a, vs, h1, s _ _ h2, h3, h4, h5⟩
  dj := R.dj
  go := ⟨R.go.h.trans s, R.go.f, le, R.go.nw⟩
theorem _root_.Pz.Rel.cut {K : PySem.W.Frag} {F0 B F H : Hp} {ρ : En} {σ : L2.St} {D : Addr} (R : Rel K F0 B ρ σ F H) (hF : F D = none) (hB : B D = none) (h : ∀ (j : Nat) (ds : Oc) (b : Addr), ρ[j]? = some (Sl.obj ds) → σ[j]? = some (some (V.ref b)) → b ≠ D) : Rel K F0 B ρ σ F (cutH D H) where
  le := le_cut R.le hF
  len := R.len
  val := R.val
  own := fun i ds e => let ⟨a, vs, h1, h2, h3, h4, h5⟩ := R.own i ds e; ⟨a, vs, h1, (cut_ne (h i ds a e h1)).trans h2, h3, h4, h5⟩
  dj := R.dj
  go := ⟨le_cut R.go.h hB, R.go.f, le_cut R.le hF, R.go.nw⟩
mutual
theorem asg_own : ∀ {t : Tg} {v : PV} {ρ ρ' : En} {j : Nat} {ds : Oc}, asg t v ρ = some ρ' → ρ'[j]? = some (Sl.obj ds) → j ∉ t.slots ∧ ρ[j]? = some (Sl.obj ds)
  | .nm i, v, ρ, ρ', j, ds, a, e => by
    cases a
    by_cases hi : i < ρ.length
    · rw [sl_get_set hi] at e
      by_cases hj : j = i
      · rw [if_pos hj] at e; cases e
      · rw [if_neg hj] at e; exact ⟨fun h => hj (List.mem_singleton.mp h), e⟩
    · rw [set_out hi] at e
      refine ⟨fun h => ?_, e⟩
      have h := List.mem_singleton.mp h
      subst h
      exact hi (List.getElem?_eq_some_iff.mp e).1
  | .tp ts, v, ρ, ρ', j, ds, a, e => by
    cases v with
    | tuple vs => exact asgs_own (show asgs ts vs ρ = some ρ' from a) e
    | _ => cases a
theorem asgs_own : ∀ {t : Tgs} {v : List PV} {ρ ρ' : En} {j : Nat} {ds : Oc}, asgs t v ρ = some ρ' → ρ'[j]? = some (Sl.obj ds) → j ∉ t.slots ∧ ρ[j]? = some (Sl.obj ds)
  | .nil, [], ρ, ρ', j, ds, a, e => by cases a; exact ⟨List.not_mem_nil, e⟩
  | .nil, _ :: _, _, _, _, _, a, _ => by cases a
  | .cons _ _, [], _, _, _, _, a, _ => by cases a
  | .cons t ts, v :: vs, ρ, ρ', j, ds, a, e => by
    obtain ⟨ρ1, a1, a2⟩ := Option.bind_eq_some_iff.mp (show (asg t v ρ).bind (asgs ts vs) = some ρ' from a)
    obtain ⟨h1, e1⟩ := asgs_own a2 e
    obtain ⟨h2, e2⟩ := asg_own a1 e1
    exact ⟨fun h => (List.mem_append.mp h).elim h2 h1, e2⟩
end
theorem sq_lc2 {scope : Scope} {tg iter tg1 iter1 elt : Expr} {ifs ifs1 : List Expr} {t t1 : Tg} {sl sl1 : List Nat} {eI eI1 : En → Option (List PV)} {eF eF1 : En → Option Bool} {eE : En → Option RV}
    (hI : SndI false X tg iter eI) (hG : AllB X scope fun Y => SndG Y tg t) (hF : AllB X scope fun Y => SndF Y ifs eF)
    (hI1 : AllB X scope fun Y => SndI true Y tg1 iter1 eI1) (hG1 : AllB X scope fun Y => SndG Y tg1 t1) (hF1 : AllB X scope fun Y => SndF Y ifs1 eF1)
    (hE : AllB X scope fun Y => Snd Y elt eE) (hsl : ∀ i ∈ t.slots, i ∈ sl) (hsl1 : ∀ i ∈ t1.slots, i ∈ sl1) :
    SndQ X.K (tLc2 (wI X tg iter) (bG X scope tg) (bT X scope ifs) (bI X scope tg1 iter1) (bG X scope tg1) (bT X scope ifs1) (bE X scope elt) sl sl1) (fun ρ => do
      let xs ← eI ρ
      let ys ← compL (fun x => do
        let ρ1 ← asg t x (wipeS ρ sl)
        let k ← eF ρ1
        if k then do
          let xs1 ← eI1 ρ1
          compL (fun x1 => do
            let ρ2 ← asg t1 x1 (wipeS ρ1 sl1)
            let k1 ← eF1 ρ2
            if k1 then (eE ρ2).map fun r => [r.v] else some []) xs1
        else some []) xs
      if ys.length ≤ LIM then some ⟨.list ys, true⟩ else none) := by
  intro F0 B ρ σ F H r Q R e q
  obtain ⟨xs, e1, e⟩ := bind_some e
  obtain ⟨ys, e2, e⟩ := bind_some e
  split at e
  case isFalse => cases e
  rename_i hz
  cases e
  generalize hf : (fun x => do
        let ρ1 ← asg t x (wipeS ρ sl)
        let k ← eF ρ1
        if k then do
          let xs1 ← eI1 ρ1
          compL (fun x1 => do
            let ρ2 ← asg t1 x1 (wipeS ρ1 sl1)
            let k1 ← eF1 ρ2
            if k1 then (eE ρ2).map fun r => [r.v] else some []) xs1
        else some [] : PV → Option (List PV)) = f at e2
  refine hI F0 B ρ σ F H xs _ R e1 fun J F1 H1 s1 it hzl D hD => ?_
  have it : ItOk X.K J xs F1 H1 := it
  refine ⟨fun i m H' => m = xs.length - i ∧ i ≤ xs.length ∧ ∃ F' ds es, Mk X.K F1 H1 F' H' D ds ∧ compL f (xs.drop i) = some es ∧ ds ++ es = ys,
    ⟨_, rfl, Nat.zero_le _, F1, [], ys, Mk.init s1.le hD, e2, rfl⟩, fun i m H2 ⟨em, hi, F2, ds, es, mk, ec, eo⟩ => ?_⟩
  obtain ⟨itg, its⟩ := it i F2 H2 mk.s.f mk.s.h mk.s.le
  rcases compL_step ec with ⟨hx, rfl⟩ | ⟨x, y, zs, hx, hy, hz2, rfl⟩
  · refine .inl ⟨its hx, q _ F2 H2 (s1.trans mk.s) ?_⟩
    obtain ⟨vs, h1, h2⟩ := mk.ex
    rw [List.append_nil] at eo; subst eo
    exact .new (s1.h.free hD) h1 mk.nF h2
  · obtain ⟨go, yl⟩ := itg x hx
    have hlt : i < xs.length := (List.getElem?_eq_some_iff.mp hx).1
    refine .inr ⟨go, fun H' => ∃ F' ds es, Mk X.K F1 H1 F' H' D ds ∧ compL f (xs.drop (i + 1)) = some es ∧ ds ++ es = ys, fun H' h => ⟨xs.length - (i + 1), by omega, rfl, hlt, h⟩, fun u H3 hy3 => ?_⟩
    obtain ⟨F3, s3, du⟩ := yl u H3 hy3
    have mk3 := mk.step s3
    have R3 := ((R.step s1).step mk3.s).wipe sl
    rw [← hf] at hy
    obtain ⟨ρ1, a1, hy⟩ := bind_some hy
    obtain ⟨k, ek, hy⟩ := bind_some hy
    intro s0 H0 D0 cl fp
    refine hG s0 H0 D0 cl fp F0 B _ _ F3 H3 u x ρ1 _ R3 du a1 fun σ2 R4 k2 => ?_
    refine ⟨?_, ?_⟩
    · rw [k2.wipe hsl]
      exact Keeps.wipe (sl := sl) ⟨wipe_length _ _, fun j hj => wipe_out hj⟩ fun i h => h
    · intro s0 H0 D0 cl fp
      refine hF s0 H0 D0 cl fp F0 B ρ1 σ2 F3 H3 k _ R4 ek fun F5 H5 s5 => ?_
      have mk5 := mk3.step s5
      cases k with
      | false =>
        rw [if_neg Bool.false_ne_true] at hy ⊢
        cases hy
        exact ⟨F5, ds, zs, mk5, hz2, eo⟩
      | true =>
        rw [if_pos rfl] at hy ⊢
        obtain ⟨xs1, ex1, hy⟩ := bind_some hy
        intro s0 H0 D0 cl fp
        refine hI1 s0 H0 D0 cl fp F0 B ρ1 σ2 F5 H5 xs1 _ (R4.step s5) ex1 fun J1 F6 H6 s6 it1 hz1 => ?_
        have it1 : ItOk X.K J1 xs1 F6 F6 := it1
        have mk6 := mk5.step s6
        have R6 := ((R4.step s5).step s6).cut (D := D) mk6.nF (R.go.h.free (s1.h.free hD)) fun j ds b ej sj eb => by
          obtain ⟨oj, o2⟩ := asg_own a1 ej
          obtain ⟨a, vs, h1, h2, _⟩ := ((R.step s1).wipe sl).own j ds o2
          rw [k2.out j oj, h1] at sj
          cases sj
          subst eb
          rw [hD] at h2; cases h2
        generalize hf1 : (fun x1 => do
            let ρ2 ← asg t1 x1 (wipeS ρ1 sl1)
            let k1 ← eF1 ρ2
            if k1 then (eE ρ2).map fun r => [r.v] else some [] : PV → Option (List PV)) = f1 at hy
        refine ⟨fun j n H' => n = xs1.length - j ∧ j ≤ xs1.length ∧ ∃ F' ds' es', Step F6 (cutH D H6) F' (cutH D H') ∧ Mk X.K F1 H1 F' H' D ds' ∧ compL f1 (xs1.drop j) = some es' ∧ ds' ++ (es' ++ zs) = ys,
          ⟨_, rfl, Nat.zero_le _, F6, ds, y, Step.rfl' (le_cut s6.le mk6.nF), mk6, hy, eo⟩, fun j n H7 ⟨en, hj, F7, ds7, es7, s7, mk7, ec7, eo7⟩ => ?_⟩
        obtain ⟨itg1, its1⟩ := it1 j F7 H7 s7.f (s7.f.trans mk7.s.le) mk7.s.le
        rcases compL_step ec7 with ⟨hx1, rfl⟩ | ⟨x1, y1, zs1, hx1, hy1, hz21, rfl⟩
        · refine .inl ⟨its1 hx1, F7, ds7, zs, mk7, hz2, ?_⟩
          rw [List.nil_append] at eo7; exact eo7
        · obtain ⟨go1, yl1⟩ := itg1 x1 hx1
          have hlt1 : j < xs1.length := (List.getElem?_eq_some_iff.mp hx1).1
          refine .inr ⟨go1, fun H' => ∃ F' ds' es', Step F6 (cutH D H6) F' (cutH D H') ∧ Mk X.K F1 H1 F' H' D ds' ∧ compL f1 (xs1.drop (j + 1)) = some es' ∧ ds' ++ (es' ++ zs) = ys, fun H' h => ⟨xs1.length - (j + 1), by omega, rfl, hlt1, h⟩, fun u1 H8 hy8 => ?_⟩
          obtain ⟨F8, s8, du8⟩ := yl1 u1 H8 hy8
          have mk8 := mk7.step s8
          have s78 := s7.trans (mk7.cut s8)
          have R8 := ((R6.step s78).up (cut_le) mk8.s.le).wipe sl1
          rw [← hf1] at hy1
          obtain ⟨ρ2, a2, hy1⟩ := bind_some hy1
          obtain ⟨k1, ek1, hy1⟩ := bind_some hy1
          intro s0 H0 D0 cl fp
          refine hG1 s0 H0 D0 cl fp F0 B _ _ F8 H8 u1 x1 ρ2 _ R8 du8 a2 fun σ9 R9 k9 => ?_
          refine ⟨?_, ?_⟩
          · rw [k9.wipe hsl1]
            exact Keeps.wipe (sl := sl1) ⟨wipe_length _ _, fun j hj => wipe_out hj⟩ fun i h => h
          · intro s0 H0 D0 cl fp
            refine hF1 s0 H0 D0 cl fp F0 B ρ2 σ9 F8 H8 k1 _ R9 ek1 fun F9 H9 s9 => ?_
            have mk9 := mk8.step s9
            have s69 := s78.trans (mk8.cut s9)
            cases k1 with
            | false =>
              rw [if_neg Bool.false_ne_true] at hy1 ⊢
              cases hy1
              exact ⟨F9, ds7, zs1, s69, mk9, hz21, eo7⟩
            | true =>
              rw [if_pos rfl] at hy1 ⊢
              obtain ⟨r, er, hy1⟩ := Option.map_eq_some_iff.mp hy1
              subst hy1
              intro s0 H0 D0 cl fp
              refine (hE s0 H0 D0 cl fp).va (R9.step s9) er fun v F10 H10 s10 dv => ?_
              obtain ⟨acc, h1, h2, m10⟩ := (mk9.step s10).app dv
              have eo8 : (ds7 ++ [r.v]) ++ (zs1 ++ zs) = ys := by rw [← eo7]; simp
              refine ⟨acc, h1, ?_, F10, ds7 ++ [r.v], zs1, ?_, m10, hz21, eo8⟩
              · rw [sizeLine_eq]
                rw [← eo8] at hz
                simp only [List.length_append, List.length_cons, List.length_nil] at hz
                unfold LIM at hz; omega
              · rw [cut_upd]; exact s69.trans (mk9.cut s10)
end
end Pz
set_option Elab.async false
set_option linter.all false
set_option maxRecDepth 100000
set_option maxHeartbeats 2000000
/-! Pz: every expression that passes the check does what the evaluator says. -/
namespace Pz
open PySem PySem.Spec PyProof.Rows L2
section
variable {X : Cx} {ci : CI} {C : Str → List PV → Option RV} {G : Str → Option PV}
theorem SndT.weak {e : Expr} {f g : En → Option PV} (h : SndT X e g) (w : ∀ ρ d, f ρ = some d → g ρ = some d) : SndT X e f := fun F0 B ρ σ F H d b Q R e1 t q => h F0 B ρ σ F H d b Q R (w ρ d e1) t q
theorem SndW.weak {e : Expr} {f g : En → Option PV} (h : SndW X e g) (w : ∀ ρ d, f ρ = some d → g ρ = some d) : SndW X e f := fun F0 B ρ σ F H d b Q R e1 t q => h F0 B ρ σ F H d b Q R (w ρ d e1) t q
theorem SndB.weak {e : Expr} {f g : En → Option PV} (h : SndB X e g) (w : ∀ ρ d, f ρ = some d → g ρ = some d) : SndB X e f := fun F0 B ρ σ F H d Q R e1 q => h F0 B ρ σ F H d Q R (w ρ d e1) q
theorem rd_of {p : Tx} {ρ : En} {r : RV} (h : evE C G p ρ = some r) : rd p (evE C G p ρ) ρ = some r.v := by
  unfold rd
  split
  · rename_i i
    have h : (match ρ[i]? with | some (.val v) => some (⟨v, false⟩ : RV) | _ => none) = some r := h
    unfold slotR
    split at h
    · rename_i v hv
      cases h
      rw [hv]
    · cases h
  · rw [h]; rfl
/-- a test that is the truth of a bool -/
theorem snt_of_q {e : Expr} {t : TE} {ev : En → Option RV} (h : PT X e (tTest t)) (q : SndQ X.K t ev) (hb : ∀ ρ r, ev ρ = some r → ∃ b, r = ⟨.bool b, false⟩) : SndT X e (fun ρ => (ev ρ).map (·.v)) := by
  intro F0 B ρ σ F H d b Q R e1 t k
  obtain ⟨r, e2, e3⟩ := Option.map_eq_some_iff.mp e1
  obtain ⟨c, rfl⟩ := hb ρ r e2
  subst e3
  obtain rfl : c = b := Option.some.inj t
  refine wT_of h (q F0 B ρ σ F H _ _ R e2 fun v F' H' s rp => ⟨c, ?_, k F' H' s⟩)
  have dp := rp.va
  cases dp
  rfl
theorem sq_chain {o o' : Cm} {a b c : Expr} {ea eb ec : En → Option PV} (hu : X.A.units + 100 < cLine) (ha : SndB X a ea) (hb : SndB X b eb) (hc : SndB X c ec) :
    SndQ X.K (tChain (rData (evCmp o) X.K) (rData (evCmp o') X.K) (wE X a) (wE X b) (wE X c)) (fun ρ => do
      let x ← ea ρ
      let y ← eb ρ
      let k ← evCmp o x y
      if k then do
        let z ← ec ρ
        (evCmp o' y z).map fun c => ⟨.bool c, false⟩
      else some ⟨.bool false, false⟩) := by
  intro F0 B ρ σ F H r Q R e q
  obtain ⟨x, e1, e⟩ := bind_some e
  obtain ⟨y, e2, e⟩ := bind_some e
  obtain ⟨k, e3, e⟩ := bind_some e
  refine (snd_two ha hb R e1 e2 fun v w F' H' s b1 b2 => ⟨x, y, k, b1.dp s.le, b2.dp s.le, e3, k, rfl, ?_⟩)
  cases k with
  | true =>
    rw [if_pos rfl] at e ⊢
    obtain ⟨z, e4, e⟩ := bind_some e
    obtain ⟨c', h', e⟩ := Option.map_eq_some_iff.mp e
    exact hc.run (R.step s) e4 fun u F2 H2 s2 b3 => ⟨y, z, c', (b2.step s2).dp s2.le, b3.dp s2.le, h', boolQ (X := X) e q (s.trans s2)⟩
  | false =>
    rw [if_neg Bool.false_ne_true] at e ⊢
    exact boolQ (X := X) (Option.some.inj e) q s
end

structure GoodE (C : Str → List PV → Option RV) (G : Str → Option PV) (X : Cx) (p : Tx) (e : Expr) : Prop where
  ev : Snd X e (evE C G p)
  b : SndB X e (fun ρ => rd p (evE C G p ρ) ρ)
  t : tst p = true → SndT X e (fun ρ => rd p (evE C G p ρ) ρ)
  w : tst p = true → (∃ op es pos, e = .BoolOp op es pos) → SndW X e (fun ρ => rd p (evE C G p ρ) ρ)
structure GoodA (C : Str → List PV → Option RV) (G : Str → Option PV) (X : Cx) (t : Txs) (es : List Expr) : Prop where
  a : noStars es = true → SndA X es (evA C G t)
  r : noStars es = true → SndR X es (evR C G t)
  f : tsts t = true → SndF X es (evF C G t)
section
variable {X : Cx} {ci : CI} {C : Str → List PV → Option RV} {G : Str → Option PV}
theorem nobo {e : Expr} (h : ∀ op es pos, e ≠ .BoolOp op es pos) {p : Prop} : (∃ op es pos, e = .BoolOp op es pos) → p := fun ⟨op, es, pos, q⟩ => absurd q (h op es pos)
/-- where the test is the value's truth -/
theorem good_plain {t : Tx} {e : Expr} (hv : ∀ i, t ≠ .var i) (h : Snd X e (evE C G t)) (hp : plainT e = true) : GoodE C G X t e where
  ev := h
  b := snd_rd h fun i hi => absurd hi (hv i)
  t := fun _ => snt_plain hp (snd_rd h fun i hi => absurd hi (hv i))
  w := fun _ => nobo fun op es pos q => by subst q; cases hp
/-- .. where there is no test -/
theorem good_no {t : Tx} {e : Expr} (hv : ∀ i, t ≠ .var i) (h : Snd X e (evE C G t)) (hp : tst t = false) : GoodE C G X t e where
  ev := h
  b := snd_rd h fun i hi => absurd hi (hv i)
  t := fun q => Bool.noConfusion (hp.symm.trans q)
  w := fun q => Bool.noConfusion (hp.symm.trans q)
/-- .. with a test of its own -/
theorem good_t {t : Tx} {e : Expr} {f : En → Option PV} (hv : ∀ i, t ≠ .var i) (h : Snd X e (evE C G t)) (ht : SndT X e f) (hf : ∀ ρ r, evE C G t ρ = some r → f ρ = some r.v) (hb : ∀ op es pos, e ≠ .BoolOp op es pos) : GoodE C G X t e where
  ev := h
  b := snd_rd h fun i hi => absurd hi (hv i)
  t := fun _ => ht.weak fun ρ d e => by
    unfold rd at e
    split at e
    · exact absurd rfl (hv _)
    · obtain ⟨r, e1, e2⟩ := Option.map_eq_some_iff.mp e
      subst e2; exact hf ρ r e1
  w := fun _ => nobo hb
theorem rd_eq {t : Tx} {ρ : En} {d : PV} (hv : ∀ i, t ≠ .var i) (h : rd t (evE C G t ρ) ρ = some d) : ∃ r, evE C G t ρ = some r ∧ r.v = d := by
  unfold rd at h
  split at h
  · exact absurd rfl (hv _)
  · exact Option.map_eq_some_iff.mp h
theorem map_bool {f : Bool → PV} {o : Option Bool} {r : RV} (h : (o.map fun c => (⟨f c, false⟩ : RV)) = some r) : (o.map fun c => f c) = some r.v := by
  cases o with
  | none => cases h
  | some c => cases h; rfl

theorem evA_len {ci : CI} : ∀ {t : Txs} {es : List Expr} {ρ : En} {ds : List PV}, isA ci t es = true → evA C G t ρ = some ds → ds.length = es.length
  | .nil, [], _, _, _, e => by cases e; rfl
  | .nil, _ :: _, _, _, h, _ => by cases h
  | .cons _ _, [], _, _, h, _ => by cases h
  | .cons e r, x :: xs, ρ, ds, h, ev => by
    have h : (isE ci e x && isA ci r xs) = true := h
    rw [Bool.and_eq_true] at h
    obtain ⟨a, _, ev⟩ := bind_some ev
    obtain ⟨vs, e2, ev⟩ := bind_some ev
    cases ev
    rw [List.length_cons, List.length_cons, evA_len h.2 e2]
theorem stars_hd {e : Expr} {es : List Expr} (h : noStars (e :: es) = true) : noStar e = true := by
  unfold noStars at h; rw [List.all_cons, Bool.and_eq_true] at h; exact h.1
theorem stars_tl {e : Expr} {es : List Expr} (h : noStars (e :: es) = true) : noStars es = true := by
  unfold noStars at h; rw [List.all_cons, Bool.and_eq_true] at h; exact h.2
theorem set_of {e : Expr} {env : Env} {x : Value} (h : noSet e = true) : foldedSetIterable e env x = pure x := by
  cases e <;> first | rfl | cases h
theorem blk_ok (O : Ok X ci C G) {scope : Scope} {own : List (Str × Nat)} (h : blkB ci scope own = true) : BlkOk X.N X.env.scope scope own := by
  rw [O.N, O.sc]; exact blkOk_by h
theorem pg_b {scope : Scope} {tg : Expr} : AllB X scope fun Y => PG Y tg (bG X scope tg) := fun s H D cl fp => ⟨fun pins s' σ H' v u Q I r h => h s H D cl fp pins s' u I r⟩
theorem pts_b {scope : Scope} {ifs : List Expr} : AllB X scope fun Y => PTs Y ifs (bT X scope ifs) := fun s H D cl fp => ⟨fun pins s' σ H' Q I h => h s H D cl fp pins s' I⟩
theorem pe_b {scope : Scope} {e : Expr} : AllB X scope fun Y => PE Y e (bE X scope e) := fun s H D cl fp => ⟨fun pins s' σ H' Q I h => h s H D cl fp pins s' I⟩
theorem pi_b {scope : Scope} {tg iter : Expr} : AllB X scope fun Y => PI Y tg iter (bI X scope tg iter) := fun s H D cl fp => ⟨fun pins s' σ H' R I h => h s H D cl fp pins s' I⟩
mutual
theorem gE : ∀ (t : Tx) {X : Cx} {ci : CI} {e : Expr}, Ok X ci C G → isE ci t e = true → GoodE C G X t e
  | .var i, X, ci, e, O, h => by
    cases e with
    | Name x pos => exact ⟨snd_var O h, snd_rd (snd_var O h) fun j hj => by cases hj; exact snd_var_b O h, fun _ => snt_plain rfl (snd_rd (snd_var O h) fun j hj => by cases hj; exact snd_var_b O h), fun _ => nobo (by intros; exact Expr.noConfusion)⟩
    | _ => cases h
  | .glob y, X, ci, e, O, h => by
    cases e with
    | Name x pos => exact good_plain (by intros; exact Tx.noConfusion) (snd_glob O h) rfl
    | _ => cases h
  | .non, X, ci, e, O, h => by
    have h : (match (generalizing := false) e with | .Constant .none _ _ => true | _ => false) = true := h
    split at h
    · exact good_no (by intros; exact Tx.noConfusion) (snd_c pe_non fun F => .non) rfl
    · cases h
  | .bl b, X, ci, e, O, h => by
    have h : (match (generalizing := false) e with | .Constant (.bool c) _ _ => b == c | _ => false) = true := h
    split at h
    · obtain rfl := eq_of_beq h
      exact good_no (by intros; exact Tx.noConfusion) (snd_c pe_bl fun F => .bl _) rfl
    · cases h
  | .int i, X, ci, e, O, h => by
    have h : (match (generalizing := false) e with | .Constant (.int j) _ _ => decide (i = j) | _ => false) = true := h
    split at h
    · obtain rfl := of_decide_eq_true h
      exact good_no (by intros; exact Tx.noConfusion) (snd_c pe_int fun F => .int _) rfl
    · cases h
  | .str x, X, ci, e, O, h => by
    have h : (match (generalizing := false) e with | .Constant (.str y) _ _ => decide (x = y) | _ => false) = true := h
    split at h
    · obtain rfl := of_decide_eq_true h
      exact good_no (by intros; exact Tx.noConfusion) (snd_c pe_str fun F => .str _) rfl
    · cases h
  | .bin o a b, X, ci, e, O, h => by
    have h : (match (generalizing := false) e with | .BinOp ea op eb _ => decide (op = opOp o) && isE ci a ea && isE ci b eb | _ => false) = true := h
    split at h
    · simp only [Bool.and_eq_true, decide_eq_true_eq] at h
      obtain ⟨⟨rfl, h1⟩, h2⟩ := h
      exact good_plain (by intros; exact Tx.noConfusion) (snd_bin (gE a O h1).b (gE b O h2).b) rfl
    · cases h
  | .neg a, X, ci, e, O, h => by
    have h : (match (generalizing := false) e with | .UnaryOp .USub ea _ => isE ci a ea | _ => false) = true := h
    split at h
    · exact good_no (by intros; exact Tx.noConfusion) (snd_neg (gE a O h).b) rfl
    · cases h
  | .not a, X, ci, e, O, h => by
    have h : (match (generalizing := false) e with | .UnaryOp .Not ea _ => isE ci a ea | _ => false) = true := h
    split at h
    · refine ⟨snd_not (gE a O h).b, snd_rd (snd_not (gE a O h).b) fun i hi => (by cases hi), fun ht => (snt_not ((gE a O h).t ht)).weak fun ρ d e => ?_, fun _ => nobo (by intros; exact Expr.noConfusion)⟩
      obtain ⟨r, e1, e2⟩ := rd_eq (by intros; exact Tx.noConfusion) e
      obtain ⟨x, ex, e1⟩ := bind_some e1
      rw [ex, ← e2]
      exact map_bool e1
    · cases h
  | .cmp o a b, X, ci, e, O, h => by
    have h : (match (generalizing := false) e with | .Compare ea [op] [eb] _ => decide (op = cmOp o) && noSet eb && isE ci a ea && isE ci b eb | _ => false) = true := h
    split at h
    · simp only [Bool.and_eq_true, decide_eq_true_eq] at h
      obtain ⟨⟨⟨rfl, hs⟩, h1⟩, h2⟩ := h
      refine good_t (by intros; exact Tx.noConfusion) (snd_cmp O.hu hs (gE a O h1).b (gE b O h2).b) (snt_cmp O.hu hs (gE a O h1).b (gE b O h2).b) (fun ρ r e => ?_) (by intros; exact Expr.noConfusion)
      obtain ⟨x, ex, e⟩ := bind_some e
      obtain ⟨y, ey, e⟩ := bind_some e
      rw [ex, ey]
      exact map_bool e
    · cases h
  | .isN a, X, ci, e, O, h => by
    have h : (match (generalizing := false) e with | .Compare ea [.Is] [.Constant .none _ _] _ => isE ci a ea | _ => false) = true := h
    split at h
    · refine good_t (by intros; exact Tx.noConfusion) (snd_isN (gE a O h).b) (snt_isN (gE a O h).b) (fun ρ r e => ?_) (by intros; exact Expr.noConfusion)
      obtain ⟨x, ex, e⟩ := bind_some e
      rw [ex]; cases e; rfl
    · cases h
  | .notN a, X, ci, e, O, h => by
    have h : (match (generalizing := false) e with | .Compare ea [.IsNot] [.Constant .none _ _] _ => isE ci a ea | _ => false) = true := h
    split at h
    · refine good_t (by intros; exact Tx.noConfusion) (snd_notN (gE a O h).b) (snt_notN (gE a O h).b) (fun ρ r e => ?_) (by intros; exact Expr.noConfusion)
      obtain ⟨x, ex, e⟩ := bind_some e
      rw [ex]; cases e; rfl
    · cases h
  | .isB a b, X, ci, e, O, h => by
    have h : (match (generalizing := false) e with | .Compare ea [.Is] [.Constant (.bool c) _ _] _ => decide (b = c) && isE ci a ea | _ => false) = true := h
    split at h
    · simp only [Bool.and_eq_true, decide_eq_true_eq] at h
      obtain ⟨rfl, hh⟩ := h
      refine good_t (by intros; exact Tx.noConfusion) (snd_isB (gE a O hh).b) (snt_isB (gE a O hh).b) (fun ρ r e => ?_) (by intros; exact Expr.noConfusion)
      obtain ⟨x, ex, e⟩ := bind_some e
      rw [ex]
      cases x with
      | bool c => cases e; rfl
      | _ => cases e
    · cases h
  | .chain o o' a b c, X, ci, e, O, h => by
    have h : (match (generalizing := false) e with | .Compare ea [op, op'] [eb, ec] _ => decide (op = cmOp o) && decide (op' = cmOp o') && noSet eb && noSet ec && isE ci a ea && isE ci b eb && isE ci c ec | _ => false) = true := h
    split at h
    · simp only [Bool.and_eq_true, decide_eq_true_eq] at h
      obtain ⟨⟨⟨⟨⟨⟨rfl, rfl⟩, hs⟩, hs2⟩, h1⟩, h2⟩, h3⟩ := h
      refine good_t (by intros; exact Tx.noConfusion) (snd_chain O.hu hs hs2 (gE a O h1).b (gE b O h2).b (gE c O h3).b)
        (snt_of_q (pt_chain (op_cmP O.hu o) (op_cmP O.hu o') pe_w pe_w pe_w (show lastMarks _ _ = false from mark_of hs2)) (sq_chain O.hu (gE a O h1).b (gE b O h2).b (gE c O h3).b) fun ρ r e => ?_) (fun ρ r e => ?_) (by intros; exact Expr.noConfusion)
      · obtain ⟨x, ex, e⟩ := bind_some e
        obtain ⟨y, ey, e⟩ := bind_some e
        obtain ⟨k, ek, e⟩ := bind_some e
        split at e
        · obtain ⟨z, ez, e⟩ := bind_some e
          obtain ⟨c, _, e⟩ := Option.map_eq_some_iff.mp e
          exact ⟨c, e.symm⟩
        · exact ⟨_, (Option.some.inj e).symm⟩
      · exact Option.map_eq_some_iff.mpr ⟨r, e, rfl⟩
    · cases h
  | .and a b, X, ci, e, O, h => by
    have h : (match (generalizing := false) e with | .BoolOp .And (ea :: eb :: es) pos => isE ci a ea && (match es with | [] => isE ci b eb | _ => isE ci b (.BoolOp .And (eb :: es) pos)) | _ => false) = true := h
    split at h
    · rename_i ea eb es pos _
      rw [Bool.and_eq_true] at h
      obtain ⟨h1, h2⟩ := h
      have A := gE a O h1
      have hw : ∀ (f : En → Option PV), (∀ ρ d, rd (.and a b) (evE C G (.and a b) ρ) ρ = some d → f ρ = some d) → True := fun _ _ => trivial
      have key : Snd X (.BoolOp .And (eb :: es) pos) (evE C G b) ∧ (tst b = true → SndW X (.BoolOp .And (eb :: es) pos) (fun ρ => rd b (evE C G b ρ) ρ)) := by
        cases es with
        | nil => exact ⟨snd_one (gE b O h2).ev, fun hb => sw_and1 ((gE b O h2).t hb)⟩
        | cons e3 es => exact ⟨(gE b O h2).ev, fun hb => (gE b O h2).w hb ⟨_, _, _, rfl⟩⟩
      have E := snd_and A.b A.ev key.1
      have W : tst (.and a b) = true → SndW X (.BoolOp .And (ea :: eb :: es) pos) (fun ρ => rd (.and a b) (evE C G (.and a b) ρ) ρ) := fun ht => by
        have ht : (tst a && tst b) = true := ht
        rw [Bool.and_eq_true] at ht
        refine (sw_and (A.t ht.1) (key.2 ht.2)).weak fun ρ d e => ?_
        obtain ⟨r, e1, e2⟩ := rd_eq (by intros; exact Tx.noConfusion) e
        obtain ⟨x, ex, e1⟩ := bind_some e1
        obtain ⟨k, ek, e1⟩ := bind_some e1
        subst e2
        cases k with
        | true =>
          rw [if_pos rfl] at e1
          rw [ex]
          show ((truth x) >>= fun k => if k = true then rd b (evE C G b ρ) ρ else some x) = _
          rw [ek]
          exact rd_of e1
        | false =>
          rw [if_neg Bool.false_ne_true] at e1
          rw [ex]
          show ((truth x) >>= fun k => if k = true then rd b (evE C G b ρ) ρ else some x) = _
          rw [ek]
          exact (rd_va ex e1).symm ▸ rfl
      exact ⟨E, snd_rd E fun i hi => (by cases hi), fun ht => (W ht).t, fun ht _ => W ht⟩
    · cases h
  | .or a b, X, ci, e, O, h => by
    have h : (match (generalizing := false) e with | .BoolOp .Or (ea :: eb :: es) pos => isE ci a ea && (match es with | [] => isE ci b eb | _ => isE ci b (.BoolOp .Or (eb :: es) pos)) | _ => false) = true := h
    split at h
    · rename_i ea eb es pos _
      rw [Bool.and_eq_true] at h
      obtain ⟨h1, h2⟩ := h
      have A := gE a O h1
      have key : Snd X (.BoolOp .Or (eb :: es) pos) (evE C G b) ∧ (tst b = true → SndW X (.BoolOp .Or (eb :: es) pos) (fun ρ => rd b (evE C G b ρ) ρ)) := by
        cases es with
        | nil => exact ⟨snd_one (gE b O h2).ev, fun hb => sw_or1 ((gE b O h2).t hb)⟩
        | cons e3 es => exact ⟨(gE b O h2).ev, fun hb => (gE b O h2).w hb ⟨_, _, _, rfl⟩⟩
      have E := snd_or A.b A.ev key.1
      have W : tst (.or a b) = true → SndW X (.BoolOp .Or (ea :: eb :: es) pos) (fun ρ => rd (.or a b) (evE C G (.or a b) ρ) ρ) := fun ht => by
        have ht : (tst a && tst b) = true := ht
        rw [Bool.and_eq_true] at ht
        refine (sw_or (A.t ht.1) (key.2 ht.2)).weak fun ρ d e => ?_
        obtain ⟨r, e1, e2⟩ := rd_eq (by intros; exact Tx.noConfusion) e
        obtain ⟨x, ex, e1⟩ := bind_some e1
        obtain ⟨k, ek, e1⟩ := bind_some e1
        subst e2
        cases k with
        | false =>
          rw [if_neg Bool.false_ne_true] at e1
          rw [ex]
          show ((truth x) >>= fun k => if k = true then some x else rd b (evE C G b ρ) ρ) = _
          rw [ek]
          exact rd_of e1
        | true =>
          rw [if_pos rfl] at e1
          rw [ex]
          show ((truth x) >>= fun k => if k = true then some x else rd b (evE C G b ρ) ρ) = _
          rw [ek]
          exact (rd_va ex e1).symm ▸ rfl
      exact ⟨E, snd_rd E fun i hi => (by cases hi), fun ht => (W ht).t, fun ht _ => W ht⟩
    · cases h
  | .ife c a b, X, ci, e, O, h => by
    have h : (match (generalizing := false) e with | .IfExp ec ea eb _ => tst c && isE ci c ec && isE ci a ea && isE ci b eb | _ => false) = true := h
    split at h
    · simp only [Bool.and_eq_true] at h
      obtain ⟨⟨⟨ht, h1⟩, h2⟩, h3⟩ := h
      exact good_no (by intros; exact Tx.noConfusion) (snd_ife ((gE c O h1).t ht) (gE a O h2).ev (gE b O h3).ev) rfl
    · cases h
  | .tup es, X, ci, e, O, h => by
    have h : (match (generalizing := false) e with | .Tuple xs _ _ => noStars xs && decide (xs.length ≤ 1000) && isA ci es xs | _ => false) = true := h
    split at h
    · simp only [Bool.and_eq_true, decide_eq_true_eq] at h
      obtain ⟨⟨h1, hz⟩, h2⟩ := h
      exact good_plain (by intros; exact Tx.noConfusion) (snd_tup ((gA es O h2).a h1) fun ρ ds e => by rw [evA_len h2 e]; unfold LIM; omega) rfl
    · cases h
  | .lst es, X, ci, e, O, h => by
    have h : (match (generalizing := false) e with | .List xs _ => noStars xs && decide (xs.length ≤ 1000) && isA ci es xs | _ => false) = true := h
    split at h
    · simp only [Bool.and_eq_true, decide_eq_true_eq] at h
      obtain ⟨⟨h1, hz⟩, h2⟩ := h
      exact good_plain (by intros; exact Tx.noConfusion) (snd_lst ((gA es O h2).a h1) fun ρ ds e => by rw [evA_len h2 e]; unfold LIM; omega) rfl
    · cases h
  | .idx a b, X, ci, e, O, h => by
    have h : (match (generalizing := false) e with | .Subscript ea eb _ => plainIx eb && isE ci a ea && isE ci b eb | _ => false) = true := h
    split at h
    · simp only [Bool.and_eq_true] at h
      obtain ⟨⟨h1, h2⟩, h3⟩ := h
      exact good_plain (by intros; exact Tx.noConfusion) (snd_idx h1 (gE a O h2).b (gE b O h3).b) rfl
    · cases h
  | .cut a lo hi, X, ci, e, O, h => by
    have h : (match (generalizing := false) e with | .Subscript ea (.Slice el eh none _) _ => isE ci a ea && isO ci lo el && isO ci hi eh | _ => false) = true := h
    split at h
    · simp only [Bool.and_eq_true] at h
      obtain ⟨⟨h1, h2⟩, h3⟩ := h
      exact good_plain (by intros; exact Tx.noConfusion) (snd_cut (gE a O h1).b (gO lo O h2) (gO hi O h3)) rfl
    · cases h
  | .call f es, X, ci, e, O, h => by
    have h : (match (generalizing := false) e with | .Call (.Name x _) xs [] _ => decide (x = f) && glB ci x && okName x && noStars xs && (match xs with | [] => false | _ => true) && isA ci es xs | _ => false) = true := h
    split at h
    · rename_i x p xs pos _
      simp only [Bool.and_eq_true, decide_eq_true_eq] at h
      obtain ⟨⟨⟨⟨⟨rfl, h1⟩, h2⟩, h3⟩, h4⟩, h5⟩ := h
      cases xs with
      | nil => cases h4
      | cons z zs =>
        have hd : (x == ("__debug__" : Str)) = false := by
          unfold okName at h2
          simp only [Bool.and_eq_true, Bool.not_eq_true'] at h2
          exact h2.1.1
        exact good_plain (by intros; exact Tx.noConfusion) (snd_call O (gl_of O h1) hd (stars_hd h3) (stars_tl h3) ((gA es O h5).a h3)) rfl
    · cases h
  | .blt b es, X, ci, e, O, h => by
    have h : (match (generalizing := false) e with | .Call (.Name x _) xs [] _ => decide (x = blName b) && glB ci x && noStars xs && (match xs with | [] => false | _ => true) && isA ci es xs | _ => false) = true := h
    split at h
    · rename_i x p xs pos _
      simp only [Bool.and_eq_true, decide_eq_true_eq] at h
      obtain ⟨⟨⟨⟨rfl, h1⟩, h3⟩, h4⟩, h5⟩ := h
      cases xs with
      | nil => cases h4
      | cons z zs => exact good_plain (by intros; exact Tx.noConfusion) (snd_blt O (gl_of O h1) (stars_hd h3) (stars_tl h3) ((gA es O h5).r h3)) rfl
    · cases h
  | .isi a t, X, ci, e, O, h => by
    have h : (match (generalizing := false) e with | .Call (.Name x _) [ea, .Name y _] [] _ => decide (x = ("isinstance" : Str)) && glB ci x && decide (y = tyName t) && glB ci y && noStar ea && isE ci a ea | _ => false) = true := h
    split at h
    · simp only [Bool.and_eq_true, decide_eq_true_eq] at h
      obtain ⟨⟨⟨⟨⟨rfl, h1⟩, rfl⟩, h2⟩, h3⟩, h4⟩ := h
      exact good_plain (by intros; exact Tx.noConfusion) (snd_isi O (gl_of O h1) (gl_of O h2) h3 (gE a O h4).b) rfl
    · cases h
  | .best b a d, X, ci, e, O, h => by
    have h : (match (generalizing := false) e with | .Call (.Name x _) [ea] [⟨some y, ed, _⟩] _ => decide (x = (if b then "max" else "min" : Str)) && glB ci x && decide (y = ("default" : Str)) && noStar ea && isE ci a ea && isE ci d ed | _ => false) = true := h
    split at h
    · simp only [Bool.and_eq_true, decide_eq_true_eq] at h
      obtain ⟨⟨⟨⟨⟨rfl, h1⟩, rfl⟩, h3⟩, h4⟩, h5⟩ := h
      exact good_plain (by intros; exact Tx.noConfusion) (snd_best O (gl_of O h1) h3 (gE a O h4).b (gE d O h5).ev) rfl
    · cases h
  | .comb a b, X, ci, e, O, h => by
    have h : (match (generalizing := false) e with | .Call (.Name x _) [ea, eb] [] _ => decide (x = ("comb" : Str)) && glB ci x && ci.im.contains (("comb" : Str), "math.comb") && noStar ea && noStar eb && isE ci a ea && isE ci b eb | _ => false) = true := h
    split at h
    · simp only [Bool.and_eq_true, decide_eq_true_eq] at h
      obtain ⟨⟨⟨⟨⟨⟨rfl, h1⟩, h2⟩, h3⟩, h4⟩, h5⟩, h6⟩ := h
      exact good_plain (by intros; exact Tx.noConfusion) (snd_comb O (gl_of O h1) (O.im _ (List.contains_iff_mem.mp h2)) h3 h4 (gE a O h5).b (gE b O h6).b) rfl
    · cases h
  | .dget i k, X, ci, e, O, h => by
    have h : (match (generalizing := false) e with | .Subscript (.Name x p) ek _ => plainIx ek && rdB ci i x && isE ci k ek | _ => false) = true := h
    split at h
    · simp only [Bool.and_eq_true] at h
      obtain ⟨⟨h1, h2⟩, h3⟩ := h
      exact good_plain (by intros; exact Tx.noConfusion) (snd_dget O h1 h2 (gE k O h3).b) rfl
    · cases h
  | .dgetd i k d, X, ci, e, O, h => by
    have h : (match (generalizing := false) e with | .Call (.Attribute (.Name x p) m apos) [ek, ed] [] cpos => decide (m = ("get" : Str)) && (apos.endLine == cpos.line) && noStar ek && noStar ed && rdB ci i x && isE ci k ek && isE ci d ed | _ => false) = true := h
    split at h
    · simp only [Bool.and_eq_true, decide_eq_true_eq] at h
      obtain ⟨⟨⟨⟨⟨⟨rfl, h1⟩, h2⟩, h3⟩, h4⟩, h5⟩, h6⟩ := h
      exact good_plain (by intros; exact Tx.noConfusion) (snd_dgetd O h2 h3 h1 h4 (gE k O h5).b (gE d O h6).ev) rfl
    · cases h
  | .dget1 i k, X, ci, e, O, h => by
    have h : (match (generalizing := false) e with | .Call (.Attribute (.Name x p) m apos) [ek] [] cpos => decide (m = ("get" : Str)) && (apos.endLine == cpos.line) && noStar ek && rdB ci i x && isE ci k ek | _ => false) = true := h
    split at h
    · simp only [Bool.and_eq_true, decide_eq_true_eq] at h
      obtain ⟨⟨⟨⟨rfl, h1⟩, h2⟩, h4⟩, h5⟩ := h
      exact good_plain (by intros; exact Tx.noConfusion) (snd_dget1 O h2 h1 h4 (gE k O h5).b) rfl
    · cases h
  | .din b i k, X, ci, e, O, h => by
    have h : (match (generalizing := false) e with | .Compare ek [op] [.Name x p] _ => decide (op = if b then .NotIn else .In) && rdB ci i x && isE ci k ek | _ => false) = true := h
    split at h
    · simp only [Bool.and_eq_true, decide_eq_true_eq] at h
      obtain ⟨⟨rfl, h1⟩, h2⟩ := h
      refine good_t (by intros; exact Tx.noConfusion) (snd_din (b := b) O h1 (gE k O h2).b) (snt_din (b := b) O h1 (gE k O h2).b) (fun ρ r e => ?_) (by intros; exact Expr.noConfusion)
      obtain ⟨y, ey, e⟩ := bind_some e
      obtain ⟨o, eo, e⟩ := bind_some e
      cases e
      rw [ey]
      show (do let o ← dAt ρ i y; some (PyData.bool (o.isSome != b))) = _
      rw [eo]; rfl
    · cases h
  | .comp elt tg it ifs own, X, ci, e, O, h => by
    have h : (match (generalizing := false) e with | .ListComp ee [⟨et, ei, efs, 0⟩] scope _ => blkB ci scope own && tg.slots.all (fun i => (own.map (·.2)).contains i) && noSet ei && isI ci it ei (isTup et) && isG (blkCI ci scope) tg et && tsts ifs && isA (blkCI ci scope) ifs efs && isE (blkCI ci scope) elt ee | _ => false) = true := h
    split at h
    · simp only [Bool.and_eq_true] at h
      obtain ⟨⟨⟨⟨⟨⟨⟨h1, h2⟩, h3⟩, h4⟩, h5⟩, h6⟩, h7⟩, h8⟩ := h
      have OB := ok_blk O h1
      refine good_plain (by intros; exact Tx.noConfusion) (snd_of_q (pe_lc O.calm O.nd pi_w (blk_ok O h1) (fun s H D cl fp => pg_b s H D cl fp) (fun s H D cl fp => pts_b s H D cl fp) (fun s H D cl fp => pe_b s H D cl fp) (fun x => set_of h3))
        (sq_lc (gI it O h4) (fun s H D cl fp => snd_g (OB s H D cl fp) h5) (fun s H D cl fp => (gA ifs (OB s H D cl fp) h7).f h6) (fun s H D cl fp => (gE elt (OB s H D cl fp) h8).ev) fun i hi => ?_)) rfl
      rw [List.all_eq_true] at h2
      simpa using h2 i hi
    · cases h
  | .comp2 elt tg it ifs tg1 it1 ifs1 own own1, X, ci, e, O, h => by
    have h : (match (generalizing := false) e with | .ListComp ee [⟨et, ei, efs, 0⟩, ⟨et1, ei1, efs1, 0⟩] scope _ => blkB ci scope own && noSet ei && noSet ei1 && own1.all (fun i => (own.map (·.2)).contains i) && tg.slots.all (fun i => (own.map (·.2)).contains i) && tg1.slots.all own1.contains && isI ci it ei (isTup et) && isG (blkCI ci scope) tg et && tsts ifs && isA (blkCI ci scope) ifs efs && isI (blkCI ci scope) it1 ei1 (isTup et1) && isG (blkCI ci scope) tg1 et1 && tsts ifs1 && isA (blkCI ci scope) ifs1 efs1 && isE (blkCI ci scope) elt ee | _ => false) = true := h
    split at h
    · simp only [Bool.and_eq_true] at h
      obtain ⟨⟨⟨⟨⟨⟨⟨⟨⟨⟨⟨⟨⟨⟨h1, h2⟩, h3⟩, h4⟩, h5⟩, h6⟩, h7⟩, h8⟩, h9⟩, h10⟩, h11⟩, h12⟩, h13⟩, h14⟩, h15⟩ := h
      have OB := ok_blk O h1
      rw [List.all_eq_true] at h4 h5 h6
      refine good_plain (by intros; exact Tx.noConfusion) (snd_of_q (pe_lc2 O.calm O.nd pi_w (blk_ok O h1) (fun i hi => by simpa using h4 i hi) (fun s H D cl fp => pg_b s H D cl fp) (fun s H D cl fp => pts_b s H D cl fp) (fun s H D cl fp => pi_b s H D cl fp) (fun s H D cl fp => pg_b s H D cl fp) (fun s H D cl fp => pts_b s H D cl fp) (fun s H D cl fp => pe_b s H D cl fp) (fun x => set_of h2) (fun env x => set_of h3))
        (sq_lc2 (gI it O h7) (fun s H D cl fp => snd_g (OB s H D cl fp) h8) (fun s H D cl fp => (gA ifs (OB s H D cl fp) h10).f h9) (fun s H D cl fp => gI it1 (OB s H D cl fp) h11) (fun s H D cl fp => snd_g (OB s H D cl fp) h12) (fun s H D cl fp => (gA ifs1 (OB s H D cl fp) h14).f h13) (fun s H D cl fp => (gE elt (OB s H D cl fp) h15).ev)
          (fun i hi => by simpa using h5 i hi) fun i hi => by simpa using h6 i hi)) rfl
    · cases h
theorem gA : ∀ (t : Txs) {X : Cx} {ci : CI} {es : List Expr}, Ok X ci C G → isA ci t es = true → GoodA C G X t es
  | .nil, X, ci, [], O, h => ⟨fun _ => sa_nil, fun _ => sr_nil, fun _ => by
    intro F0 B ρ σ F H b Q R e q
    cases e
    exact wTs_of pts_nil (q F H (Step.rfl' R.le))⟩
  | .nil, X, ci, _ :: _, O, h => by cases h
  | .cons e r, X, ci, [], O, h => by cases h
  | .cons e r, X, ci, x :: xs, O, h => by
    have h : (isE ci e x && isA ci r xs) = true := h
    rw [Bool.and_eq_true] at h
    have g := gE e O h.1
    refine ⟨fun hs => sa_cons (stars_hd hs) g.ev ((gA r O h.2).a (stars_tl hs)), fun hs => sr_cons (stars_hd hs) g.b ((gA r O h.2).r (stars_tl hs)), fun ht => ?_⟩
    cases r with
    | cons _ _ => cases ht
    | nil =>
      cases xs with
      | cons _ _ => cases h.2
      | nil =>
        intro F0 B ρ σ F H b Q R e1 q
        obtain ⟨d, ed, e2⟩ := bind_some e1
        obtain ⟨k, ek, e3⟩ := bind_some e2
        have hk : k = b := by
          cases k with
          | true => exact Option.some.inj e3
          | false => exact Option.some.inj e3
        subst hk
        exact wTs_of (pts_one pt_w) (g.t ht F0 B ρ σ F H d k Q R ed ek q)
theorem gO : ∀ (t : To) {X : Cx} {ci : CI} {e : Option Expr}, Ok X ci C G → isO ci t e = true → SndO X e (evO C G t)
  | .no, X, ci, none, O, h => so_no
  | .no, X, ci, some _, O, h => by cases h
  | .so a, X, ci, none, O, h => by cases h
  | .so a, X, ci, some e, O, h => so_so (gE a O h).b
theorem gI : ∀ (t : Ti) {X : Cx} {ci : CI} {e tg : Expr} {b : Bool}, Ok X ci C G → isI ci t e (isTup tg) = true → SndI b X tg e (evI C G b t)
  | .seq a, X, ci, e, tg, b, O, h => by
    have h : (isE ci a e && noSet e) = true := h
    rw [Bool.and_eq_true] at h
    have g := gE a O h.1
    exact si_seq (snds g.ev g.b)
  | .rng1 a, X, ci, e, tg, b, O, h => by
    have h : (match (generalizing := false) e with | .Call (.Name x _) [ea] [] _ => decide (x = ("range" : Str)) && glB ci x && noStar ea && isE ci a ea | _ => false) = true := h
    split at h
    · simp only [Bool.and_eq_true, decide_eq_true_eq] at h
      obtain ⟨⟨⟨rfl, h1⟩, h2⟩, h3⟩ := h
      exact si_rng1 O (gl_of O h1) h2 (gE a O h3).b
    · cases h
  | .rng2 a c, X, ci, e, tg, b, O, h => by
    have h : (match (generalizing := false) e with | .Call (.Name x _) [ea, eb] [] _ => decide (x = ("range" : Str)) && glB ci x && noStar ea && noStar eb && isE ci a ea && isE ci c eb | _ => false) = true := h
    split at h
    · simp only [Bool.and_eq_true, decide_eq_true_eq] at h
      obtain ⟨⟨⟨⟨⟨rfl, h1⟩, h2⟩, h3⟩, h4⟩, h5⟩ := h
      exact si_rng2 O (gl_of O h1) h2 h3 (gE a O h4).b (gE c O h5).b
    · cases h
  | .enum a, X, ci, e, tg, b, O, h => by
    have h : (match (generalizing := false) e with | .Call (.Name x _) [ea] [] _ => isTup tg && decide (x = ("enumerate" : Str)) && glB ci x && noStar ea && isE ci a ea | _ => false) = true := h
    split at h
    · simp only [Bool.and_eq_true, decide_eq_true_eq] at h
      obtain ⟨⟨⟨⟨ht, rfl⟩, h1⟩, h2⟩, h3⟩ := h
      cases tg with
      | Tuple es k tp =>
        have g := gE a O h3
        exact si_enum O (gl_of O h1) h2 (snds g.ev g.b)
      | _ => cases ht
    · cases h
  | .zip a c, X, ci, e, tg, b, O, h => by
    have h : (match (generalizing := false) e with | .Call (.Name x _) [ea, eb] [] _ => isTup tg && decide (x = ("zip" : Str)) && glB ci x && noStar ea && noStar eb && isE ci a ea && isE ci c eb | _ => false) = true := h
    split at h
    · simp only [Bool.and_eq_true, decide_eq_true_eq] at h
      obtain ⟨⟨⟨⟨⟨⟨ht, rfl⟩, h1⟩, h2⟩, h3⟩, h4⟩, h5⟩ := h
      cases tg with
      | Tuple es k tp =>
        have g := gE a O h4
        have g2 := gE c O h5
        exact si_zip O (gl_of O h1) h2 h3 (snds g.ev g.b) (snds g2.ev g2.b)
      | _ => cases ht
    · cases h
end
end
end Pz
set_option Elab.async false
set_option linter.all false
set_option maxRecDepth 100000
set_option maxHeartbeats 1000000
/-! Pz: statements: syntax, evaluator, check. -/
namespace Pz
open PySem PySem.Spec PyProof.Rows L2

mutual
inductive Ts where
  /-- name = e (ow: a list of its own) -/
  | set (i : Nat) (ow : Bool) (e : Tx)
  | asg (tg : Tg) (e : Tx)
  | par (i j : Nat) (o1 o2 : Bool) (a b : Tx)
  | par3 (i j l : Nat) (o1 o2 o3 : Bool) (a b c : Tx)
  | setix (i : Nat) (ix e : Tx)
  | aug (i : Nat) (sub : Bool) (e : Tx)
  | augIx (i : Nat) (ix : Tx) (sub : Bool) (e : Tx)
  | app (i : Nat) (e : Tx) | ext (i : Nat) (e : Tx)
  | expr (e : Tx) | ret (e : Tx) | retO (i : Nat) | retN
  | ife (c : Tx) (a b : Tb)
  | for_ (tg : Tg) (it : Ti) (body : Tb)
  | while_ (n : Nat) (c : Tx) (body : Tb)
  | brk | cont | pass
  /-- name = {}; name[k] = e: a dict of its own; raise: never reached -/
  | dnew (i : Nat) | dset (i : Nat) (k e : Tx) | rse
inductive Tb where
  | nil
  | cons (s : Ts) (r : Tb)
  /-- a list of one's own becomes a value; a name is forgotten -/
  | frz (i : Nat) (r : Tb)
  | fgt (i : Nat) (r : Tb)
end

inductive Out where
  | nx (ρ : En) | bk (ρ : En) | ct (ρ : En) | rt (r : RV)

/-- what is stored for a result -/
def slOf (ow : Bool) (r : RV) : Option Sl := if ow then (if r.fr then match r.v with | .list ds => some (.own ds) | _ => none else none) else some (.val r.v)
def loopF (body : En → Option Out) (tg : Tg) : List PV → En → Option Out
  | [], ρ => some (.nx ρ)
  | x :: r, ρ => do
    let ρ1 ← asg tg x ρ
    match ← body ρ1 with
    | .nx ρ2 => loopF body tg r ρ2
    | .ct ρ2 => loopF body tg r ρ2
    | .bk ρ2 => some (.nx ρ2)
    | .rt v => some (.rt v)
def loopW (c : En → Option Bool) (body : En → Option Out) : Nat → En → Option Out
  | 0, _ => none
  | n + 1, ρ => do
    let k ← c ρ
    if k then
      match ← body ρ with
      | .nx ρ2 => loopW c body n ρ2
      | .ct ρ2 => loopW c body n ρ2
      | .bk ρ2 => some (.nx ρ2)
      | .rt v => some (.rt v)
    else some (.nx ρ)
def frzE (ρ : En) (i : Nat) : En := match ρ[i]? with
  | some (.obj (.l ds)) => ρ.set i (.val (.list ds))
  | _ => ρ
section
variable (C : Str → List PV → Option RV) (G : Str → Option PV)
def evT (c : Tx) (ρ : En) : Option Bool := do
  let x ← rd c (evE C G c ρ) ρ
  truth x
mutual
def evS : Ts → En → Option Out
  | .set i ow e, ρ => do
    let r ← evE C G e ρ
    let s ← slOf ow r
    some (.nx (ρ.set i s))
  | .asg tg e, ρ => do
    let r ← evE C G e ρ
    let ρ' ← asg tg r.v ρ
    some (.nx ρ')
  | .par i j o1 o2 a b, ρ => do
    let r1 ← evE C G a ρ
    let r2 ← evE C G b ρ
    let s1 ← slOf o1 r1
    let s2 ← slOf o2 r2
    some (.nx ((ρ.set i s1).set j s2))
  | .par3 i j l o1 o2 o3 a b c, ρ => do
    let r1 ← evE C G a ρ
    let r2 ← evE C G b ρ
    let r3 ← evE C G c ρ
    let s1 ← slOf o1 r1
    let s2 ← slOf o2 r2
    let s3 ← slOf o3 r3
    some (.nx (((ρ.set i s1).set j s2).set l s3))
  | .setix i ix e, ρ => do
    let r ← evE C G e ρ
    let k ← rd ix (evE C G ix ρ) ρ
    match ρ[i]?, k with
    | some (.obj (.l ds)), .int k => (ixOf ds.length k).map fun j => .nx (ρ.set i (.own (ds.set j r.v)))
    | _, _ => none
  | .aug i sub e, ρ => do
    let y ← rd e (evE C G e ρ) ρ
    match ρ[i]?, y with
    | some (.val (.int a)), .int b => some (.nx (ρ.set i (.val (.int (if sub then a - b else a + b)))))
    | _, _ => none
  | .augIx i ix sub e, ρ => do
    let k ← rd ix (evE C G ix ρ) ρ
    let y ← rd e (evE C G e ρ) ρ
    match ρ[i]?, k, y with
    | some (.obj (.l ds)), .int k, .int b => (ixOf ds.length k).bind fun j => match ds[j]? with
      | some (.int a) => some (.nx (ρ.set i (.own (ds.set j (.int (if sub then a - b else a + b))))))
      | _ => none
    | _, _, _ => none
  | .app i e, ρ => do
    let r ← evE C G e ρ
    match ρ[i]? with
    | some (.obj (.l ds)) => if ds.length < LIM then some (.nx (ρ.set i (.own (ds ++ [r.v])))) else none
    | _ => none
  | .ext i e, ρ => do
    let r ← evE C G e ρ
    match ρ[i]?, r with
    | some (.obj (.l ds)), ⟨.list es, true⟩ => if ds.length + es.length ≤ LIM then some (.nx (ρ.set i (.own (ds ++ es)))) else none
    | _, _ => none
  | .expr e, ρ => do
    let _ ← evE C G e ρ
    some (.nx ρ)
  | .ret e, ρ => (evE C G e ρ).map .rt
  | .retO i, ρ => match ρ[i]? with
    | some (.obj (.l ds)) => some (.rt ⟨.list ds, true⟩)
    | _ => none
  | .retN, _ => some (.rt ⟨.none, false⟩)
  | .ife c a b, ρ => do
    let k ← evT C G c ρ
    if k then evB a ρ else evB b ρ
  | .for_ tg it body, ρ => do
    let xs ← evI C G true it ρ
    loopF (evB body) tg xs ρ
  | .while_ n c body, ρ => loopW (evT C G c) (evB body) n ρ
  | .brk, ρ => some (.bk ρ)
  | .cont, ρ => some (.ct ρ)
  | .pass, ρ => some (.nx ρ)
  | .dnew i, ρ => some (.nx (ρ.set i (.dic [])))
  | .dset i k e, ρ => do
    let r ← evE C G e ρ
    let y ← rd k (evE C G k ρ) ρ
    match ρ[i]?, keyO y with
    | some (.obj (.d kvs)), some q => if kvs.length < LIM then some (.nx (ρ.set i (.dic (putP kvs q r.v)))) else none
    | _, _ => none
  | .rse, _ => none
def evB : Tb → En → Option Out
  | .nil, ρ => some (.nx ρ)
  | .cons s r, ρ => do
    match ← evS s ρ with
    | .nx ρ' => evB r ρ'
    | o => some o
  | .frz i r, ρ => evB r (frzE ρ i)
  | .fgt i r, ρ => evB r (ρ.set i .no)
end
end

/-- a name that may be stored by slot -/
def nmB (ci : CI) (i : Nat) (x : Str) : Bool := decide (ci.N[i]? = some x) && locB ci x && ci.st x
def lclB (ci : CI) (i : Nat) (x : Str) : Bool := decide (ci.N[i]? = some x) && decide (ci.sc.names.lookup x = some .local)
def celB (ci : CI) (x : Str) : Bool := decide (ci.sc.names.lookup x = some .cell)
def noComp : Expr → Bool
  | .ListComp .. => false
  | .SetComp .. => false
  | .DictComp .. => false
  | _ => true
/-- [..] stored into a local on one line -/
def swpC (ci : CI) (x : Str) (py : Pos) : Expr → Bool
  | .ListComp _ _ scope pos => decide (ci.sc.names.lookup x = some .local) && (py.line == pos.line) && !(scope.names.any fun (n, k) => n == x && (k == .local || k == .cell))
  | _ => false
/-- the value is no display, or all of it is folded -/
def noPar (e : Expr) : Bool := match e with
  | .Tuple vs _ _ => vs.all (foldedForSure 8)
  | _ => true
def parB (ts vs : List Expr) : Bool := !(vs.all (foldedForSure 8)) && !(vs.all (constantsAlone 8)) &&
  (ts.all fun t => t.pos.line == (ts.head?.map (·.pos.line)).getD 0)
def tgNo : Expr → Bool
  | .Tuple .. => true
  | _ => false
mutual
def isS (ci : CI) (t : Ts) (st : Stmt) : Bool := match t with
  | .set i ow e => match st with
    | .Assign [.Name x py] ee _ => nmB ci i x && isE ci e ee && (noComp ee || celB ci x || swpC ci x py ee)
    | _ => false
  | .asg tg e => match st with
    | .Assign [et] ee _ => tgNo et && isG ci tg et && noStar et && isE ci e ee && noComp ee && noPar ee
    | _ => false
  | .par i j o1 o2 a b => match st with
    | .Assign [.Tuple [.Name x px, .Name y py] kt pt] (.Tuple [ea, eb] k2 pt2) _ => noStar ea && noStar eb && ((lclB ci i x && lclB ci j y && !(i == j) && parB [.Name x px, .Name y py] [ea, eb]) || (nmB ci i x && nmB ci j y && (celB ci x || celB ci y))) && isE ci a ea && isE ci b eb
    | _ => false
  | .par3 i j l o1 o2 o3 a b c => match st with
    | .Assign [.Tuple [.Name x px, .Name y py, .Name z pz] kt pt] (.Tuple [ea, eb, ec] k2 pt2) _ => noStar ea && noStar eb && noStar ec && ((lclB ci i x && lclB ci j y && lclB ci l z && !(i == j) && !(i == l) && !(j == l) && parB [.Name x px, .Name y py, .Name z pz] [ea, eb, ec]) || (nmB ci i x && nmB ci j y && nmB ci l z && (celB ci x || celB ci y || celB ci z))) && isE ci a ea && isE ci b eb && isE ci c ec
    | _ => false
  | .setix i ix e => match st with
    | .Assign [.Subscript (.Name x p) eix _] ee _ => isE ci (.var i) (.Name x p) && plainIx eix && isE ci ix eix && isE ci e ee && noComp ee && noPar ee
    | _ => false
  | .aug i sub e => match st with
    | .AugAssign (.Name x _) op ee _ => nmB ci i x && decide (op = if sub then .Sub else .Add) && isE ci e ee
    | _ => false
  | .augIx i ix sub e => match st with
    | .AugAssign (.Subscript (.Name x p) eix _) op ee _ => isE ci (.var i) (.Name x p) && plainIx eix && isE ci ix eix && decide (op = if sub then .Sub else .Add) && isE ci e ee
    | _ => false
  | .app i e => match st with
    | .Expr (.Call (.Attribute (.Name x p) m apos) [ee] [] cpos) _ => isE ci (.var i) (.Name x p) && decide (m = ("append" : Str)) && (apos.endLine == cpos.line) && noStar ee && isE ci e ee
    | _ => false
  | .ext i e => match st with
    | .Expr (.Call (.Attribute (.Name x p) m apos) [ee] [] cpos) _ => isE ci (.var i) (.Name x p) && decide (m = ("extend" : Str)) && (apos.endLine == cpos.line) && noStar ee && isE ci e ee
    | _ => false
  | .expr e => match st with
    | .Expr ee _ => noComp ee && isE ci e ee
    | _ => false
  | .ret e => match st with
    | .Return (some ee) _ => isE ci e ee
    | _ => false
  | .retO i => match st with
    | .Return (some (.Name x p)) _ => isE ci (.var i) (.Name x p)
    | _ => false
  | .retN => match st with
    | .Return none _ => true
    | _ => false
  | .ife c a b => match st with
    | .If ec sa sb _ => tst c && isE ci c ec && isBk ci a sa && isBk ci b sb
    | _ => false
  | .for_ tg it body => match st with
    | .For et ei sb [] _ => isI ci it ei (isTup et) && noSet ei && isG ci tg et && isBk ci body sb
    | _ => false
  | .while_ n c body => match st with
    | .While ec sb [] _ => tst c && isE ci c ec && isBk ci body sb
    | _ => false
  | .brk => match st with
    | .Break _ => true
    | _ => false
  | .cont => match st with
    | .Continue _ => true
    | _ => false
  | .pass => match st with
    | .Pass _ => true
    | _ => false
  | .dnew i => match st with
    | .Assign [.Name x py] (.Dict [] [] _) _ => nmB ci i x
    | _ => false
  | .dset i k e => match st with
    | .Assign [.Subscript (.Name x p) ek _] ee _ => rdB ci i x && isE ci k ek && isE ci e ee && noComp ee
    | _ => false
  | .rse => match st with
    | .Raise .. => true
    | _ => false
def isBk (ci : CI) (t : Tb) (l : List Stmt) : Bool := match t with
  | .nil => match l with
    | [] => true
    | _ => false
  | .cons s r => match l with
    | st :: sts => isS ci s st && isBk ci r sts
    | _ => false
  | .frz _ r => isBk ci r l
  | .fgt _ r => isBk ci r l
end
end Pz
set_option Elab.async false
set_option linter.all false
set_option maxRecDepth 100000
set_option maxHeartbeats 2000000
/-! Pz: every statement that passes the check does what the evaluator says. -/
namespace Pz
open PySem PySem.Spec PyProof.Rows L2

def wS (X : Cx) (st : Stmt) : TS := fun D σ H => ∀ (pins : List (Addr × Obj)) (s : Shared), Inv X pins σ H s → wpAny (model X.prog X.w) X.A (exec st X.env) (SP X pins D) X.xe s
theorem ps_w {X : Cx} {st : Stmt} : PS X st (wS X st) := ⟨fun pins s σ H D I h => h pins s I⟩
theorem wS_of {X : Cx} {st : Stmt} {t : TS} {D : Ends} {σ : L2.St} {H : Hp} (h : PS X st t) (q : t D σ H) : wS X st D σ H := fun pins s I => h.run pins s σ H D I q
def wSs (X : Cx) (sts : List Stmt) : TS := fun D σ H => ∀ (pins : List (Addr × Obj)) (s : Shared), Inv X pins σ H s → wpAny (model X.prog X.w) X.A (execs sts X.env) (SP X pins D) X.xe s
theorem pss_w {X : Cx} {sts : List Stmt} : PSs X sts (wSs X sts) := ⟨fun pins s σ H D I h => h pins s I⟩
theorem wSs_of {X : Cx} {sts : List Stmt} {t : TS} {D : Ends} {σ : L2.St} {H : Hp} (h : PSs X sts t) (q : t D σ H) : wSs X sts D σ H := fun pins s I => h.run pins s σ H D I q

/-- what is to follow -/
def KO (K : PySem.W.Frag) (D : Ends) (F0 B F : Hp) : Out → Prop
  | .nx ρ => ∀ σ' F' H', Rel K F0 B ρ σ' F' H' → Same F F' → D.nx σ' H'
  | .bk ρ => ∀ σ' F' H', Rel K F0 B ρ σ' F' H' → Same F F' → D.bk σ' H'
  | .ct ρ => ∀ σ' F' H', Rel K F0 B ρ σ' F' H' → Same F F' → D.ct σ' H'
  | .rt r => ∀ v F' H', Step F0 B F' H' → RepR K B F' H' r v → D.rt v H'
theorem KO.up {K : PySem.W.Frag} {D : Ends} {F0 B F F1 : Hp} (s : Same F F1) : ∀ {o : Out}, KO K D F0 B F o → KO K D F0 B F1 o
  | .nx _, h => fun σ' F' H' R q => h σ' F' H' R (s.trans q)
  | .bk _, h => fun σ' F' H' R q => h σ' F' H' R (s.trans q)
  | .ct _, h => fun σ' F' H' R q => h σ' F' H' R (s.trans q)
  | .rt _, h => h
def SndS1 (X : Cx) (st : Stmt) (ev : En → Option Out) : Prop := ∀ (F0 B : Hp) (ρ : En) (σ : L2.St) (F H : Hp) (o : Out) (D : Ends), Rel X.K F0 B ρ σ F H → ev ρ = some o → KO X.K D F0 B F o → wS X st D σ H
def SndSs (X : Cx) (sts : List Stmt) (ev : En → Option Out) : Prop := ∀ (F0 B : Hp) (ρ : En) (σ : L2.St) (F H : Hp) (o : Out) (D : Ends), Rel X.K F0 B ρ σ F H → ev ρ = some o → KO X.K D F0 B F o → wSs X sts D σ H

section
variable {X : Cx} {ci : CI} {C : Str → List PV → Option RV} {G : Str → Option PV} {F0 B F H : Hp} {ρ : En} {σ : L2.St}

/-- lists of one's own were there at H0 -/
def Was (H0 : Hp) (ρ : En) (σ : L2.St) : Prop := ∀ (j : Nat) (ds : Oc) (b : Addr), ρ[j]? = some (Sl.obj ds) → σ[j]? = some (some (V.ref b)) → H0 b ≠ none
theorem Rel.was (R : Rel X.K F0 B ρ σ F H) : Was H ρ σ := fun j ds b e1 e2 => by
  obtain ⟨a, vs, h1, h2, _⟩ := R.own j ds e1
  rw [h1] at e2; cases e2
  rw [h2]; exact fun h => by cases h
theorem Was.up {H0 H1 : Hp} (s : Same H0 H1) (w : Was H0 ρ σ) : Was H1 ρ σ := fun j ds b e1 e2 h => by
  have := w j ds b e1 e2
  cases e : H0 b with
  | none => exact this e
  | some o => rw [s b o e] at h; cases h
theorem Rel.addF (R : Rel X.K F0 B ρ σ F H) {a : Addr} {vs : List V} (h1 : H a = some (.lst vs)) (h2 : F a = none) (h3 : B a = none) (ap : ∀ (j : Nat) (ds : Oc) (b : Addr), ρ[j]? = some (Sl.obj ds) → σ[j]? = some (some (V.ref b)) → b ≠ a) :
    Rel X.K F0 B ρ σ (upd F a (.lst vs)) H := by
  have sm : Same F (upd F a (.lst vs)) := same_new h2
  have le' : Same (upd F a (.lst vs)) H := fun b x q => by
    by_cases hb : b = a
    · subst hb; rw [upd_same] at q; cases q; exact h1
    · rw [upd_ne hb] at q; exact R.le _ _ q
  refine ⟨le', R.len, fun j v q => ?_, fun j es q => ?_, R.dj, R.go.h, R.go.f.trans sm, le', fun b o q n => ?_⟩
  · obtain ⟨x, q1, q2⟩ := R.val j v q
    exact ⟨x, q1, dp_mono sm q2⟩
  · obtain ⟨b, ws, q1, q2, q3, q4, q5⟩ := R.own j es q
    exact ⟨b, ws, q1, q2, by rw [upd_ne (ap j es b q q1)]; exact q3, q4, q5.mono sm⟩
  · rw [upd_ne (ne_of_none q h3)]; exact R.go.nw b o q n
/-- a result is stored -/
theorem Rel.put (R : Rel X.K F0 B ρ σ F H) {H0 : Hp} {r : RV} {v : V} {ow : Bool} {s : Sl} {i : Nat} (sB : Same B H0) (w : Was H0 ρ σ) (h : RepR X.K H0 F H r v) (e : slOf ow r = some s) :
    ∃ F', Same F F' ∧ (F' = F ∨ ∃ a, v = .ref a ∧ r.fr = true ∧ ∀ b, b ≠ a → F' b = F b) ∧ Rel X.K F0 B (ρ.set i s) (σ.set i (some v)) F' H := by
  obtain ⟨d, fr⟩ := r
  cases fr with
  | false =>
    cases ow with
    | false =>
      have e : some (Sl.val d) = some s := e
      cases e
      exact ⟨F, Same.refl _, .inl rfl, R.setV h.va⟩
    | true => cases e
  | true =>
    obtain ⟨a, vs, ds, rfl, rfl, h0, h1, h2, h3⟩ := h.fr
    have ap : ∀ (j : Nat) (ds : Oc) (b : Addr), ρ[j]? = some (Sl.obj ds) → σ[j]? = some (some (V.ref b)) → b ≠ a := fun j ds b e1 e2 e3 => by
      subst e3; exact w j ds b e1 e2 h0
    cases ow with
    | false =>
      have e : some (Sl.val (.list ds)) = some s := e
      cases e
      have sm : Same F (upd F a (.lst vs)) := same_new h2
      exact ⟨_, sm, .inr ⟨a, rfl, rfl, fun b hb => upd_ne hb⟩, (R.addF h1 h2 (sB.free h0) ap).setV (.lst (SqL.of upd_same) (dpAll_mono sm h3))⟩
    | true =>
      have e : some (Sl.own ds) = some s := e
      cases e
      exact ⟨F, Same.refl _, .inl rfl, R.setO h1 h2 (sB.free h0) h3 fun j es b _ e1 e2 => ap j es b e1 e2⟩
theorem Was.put {H0 H1 F1 : Hp} {r : RV} {v : V} {ow : Bool} {s : Sl} {i : Nat} (w : Was H1 ρ σ) (hl : ρ.length = σ.length) (h : RepR X.K H0 F1 H1 r v) (e : slOf ow r = some s) : Was H1 (ρ.set i s) (σ.set i (some v)) := by
  intro j ds b e1 e2
  by_cases hi : i < ρ.length
  · rw [sl_get_set hi] at e1
    rw [st_get_set (by rw [← hl]; exact hi)] at e2
    by_cases hj : j = i
    · rw [if_pos hj] at e1 e2
      cases e1; cases e2
      obtain ⟨d, fr⟩ := r
      cases ow with
      | false => cases e
      | true =>
        cases fr with
        | false => cases e
        | true =>
          obtain ⟨a, vs, ds', rfl, ea, h0, h1, h2, h3⟩ := h.fr
          cases ea
          rw [h1]; exact fun h => by cases h
    · rw [if_neg hj] at e1 e2
      exact w j ds b e1 e2
  · rw [set_out hi] at e1
    rw [set_out (by rw [← hl]; exact hi)] at e2
    exact w j ds b e1 e2
/-- later, the result is what it was -/
theorem RepR.step {K : PySem.W.Frag} {H0 F H F' H' : Hp} {r : RV} {v : V} (s : Step F H F' H') (h : RepR K H0 F H r v) : RepR K H0 F' H' r v := by
  obtain ⟨d, fr⟩ := r
  cases fr with
  | false => exact .of (dp_mono s.f h.va)
  | true =>
    obtain ⟨a, vs, ds, rfl, rfl, h0, h1, h2, h3⟩ := h.fr
    exact .new h0 (s.h _ _ h1) (s.nw _ _ h1 h2) (dpAll_mono s.f h3)
/-- .. though F grows by another list -/
theorem RepR.keep {K : PySem.W.Frag} {H1 F F' H : Hp} {r : RV} {v : V} (h : RepR K H1 F H r v) (sm : Same F F') (g : F' = F ∨ ∃ a, H1 a ≠ none ∧ ∀ b, b ≠ a → F' b = F b) : RepR K H1 F' H r v := by
  rcases g with rfl | ⟨a, ha, g⟩
  · exact h
  · obtain ⟨d, fr⟩ := r
    cases fr with
    | false => exact .of (dp_mono sm h.va)
    | true =>
      obtain ⟨c, vs, ds, rfl, rfl, h0, h1, h2, h3⟩ := h.fr
      refine .new h0 h1 ?_ (dpAll_mono sm h3)
      rw [g c fun e => ha (by rw [← e]; exact h0)]
      exact h2
theorem RepR.had {K : PySem.W.Frag} {H0 F H : Hp} {r : RV} {v : V} {a : Addr} (h : RepR K H0 F H r v) (e : v = .ref a) (f : r.fr = true) : H a ≠ none := by
  obtain ⟨d, fr⟩ := r
  obtain rfl : fr = true := f
  obtain ⟨c, vs, ds, rfl, ec, h0, h1, h2, h3⟩ := h.fr
  rw [e] at ec; cases ec
  rw [h1]; exact fun h => by cases h
/-- name = e -/
theorem ss_set (O : Ok X ci C G) {i : Nat} {ow : Bool} {ev : En → Option RV} {t : TE} {st : Stmt} (hp : PS X st (tAsg t (gName i))) (h : SndQ X.K t ev) :
    SndS1 X st (fun ρ => do let r ← ev ρ; let s ← slOf ow r; some (.nx (ρ.set i s))) := by
  intro F0 B ρ σ F H o D R e k
  obtain ⟨r, e1, e⟩ := bind_some e
  obtain ⟨s, e2, e⟩ := bind_some e
  cases e
  refine wS_of hp (h F0 B ρ σ F H r _ R e1 fun v F' H' st rp => ?_)
  obtain ⟨F2, sm, _, R2⟩ := (R.step st).put (i := i) R.go.h R.was rp e2
  exact k _ F2 H' R2 (st.f.trans sm)
/-- a, b = e1, e2 -/
theorem ss_par (O : Ok X ci C G) {i j : Nat} {o1 o2 : Bool} {a b : Expr} {ea eb : En → Option RV} {st : Stmt} {ta : TA} (hp : PS X st (tPar i j ta)) (ht : ta = tCons (wE X a) (tCons (wE X b) tNil)) (ha : Snd X a ea) (hb : Snd X b eb) :
    SndS1 X st (fun ρ => do
      let r1 ← ea ρ
      let r2 ← eb ρ
      let s1 ← slOf o1 r1
      let s2 ← slOf o2 r2
      some (.nx ((ρ.set i s1).set j s2))) := by
  subst ht
  intro F0 B ρ σ F H o D R e k
  obtain ⟨r1, e1, e⟩ := bind_some e
  obtain ⟨r2, e2, e⟩ := bind_some e
  obtain ⟨s1, e3, e⟩ := bind_some e
  obtain ⟨s2, e4, e⟩ := bind_some e
  cases e
  refine wS_of hp (ha F0 B ρ σ F H r1 _ R e1 fun v F1 H1 st1 rp1 => hb F0 B ρ σ F1 H1 r2 _ (R.step st1) e2 fun w F2 H2 st2 rp2 => ⟨v, w, rfl, ?_⟩)
  have R2 := (R.step st1).step st2
  obtain ⟨F3, sm3, g3, R3⟩ := R2.put (i := i) R.go.h R.was (rp1.step st2) e3
  have g3' : F3 = F2 ∨ ∃ a, H1 a ≠ none ∧ ∀ b, b ≠ a → F3 b = F2 b := g3.elim .inl fun ⟨a, ea, fa, g⟩ => .inr ⟨a, rp1.had ea fa, g⟩
  have w1 : Was H1 (ρ.set i s1) (σ.set i (some v)) := (R.was.up st1.h).put R.len rp1 e3
  obtain ⟨F4, sm4, _, R4⟩ := R3.put (i := j) (R.go.h.trans st1.h) w1 (rp2.keep sm3 g3') e4
  exact k _ F4 H2 R4 (((st1.f.trans st2.f).trans sm3).trans sm4)
theorem ss_par3 (O : Ok X ci C G) {i j l : Nat} {o1 o2 o3 : Bool} {a b c : Expr} {ea eb ec : En → Option RV} {st : Stmt} {ta : TA} (hp : PS X st (tPar3 i j l ta)) (ht : ta = tCons (wE X a) (tCons (wE X b) (tCons (wE X c) tNil)))
    (ha : Snd X a ea) (hb : Snd X b eb) (hc : Snd X c ec) :
    SndS1 X st (fun ρ => do
      let r1 ← ea ρ
      let r2 ← eb ρ
      let r3 ← ec ρ
      let s1 ← slOf o1 r1
      let s2 ← slOf o2 r2
      let s3 ← slOf o3 r3
      some (.nx (((ρ.set i s1).set j s2).set l s3))) := by
  subst ht
  intro F0 B ρ σ F H o D R e k
  obtain ⟨r1, e1, e⟩ := bind_some e
  obtain ⟨r2, e2, e⟩ := bind_some e
  obtain ⟨r3, e5, e⟩ := bind_some e
  obtain ⟨s1, e3, e⟩ := bind_some e
  obtain ⟨s2, e4, e⟩ := bind_some e
  obtain ⟨s3, e6, e⟩ := bind_some e
  cases e
  refine wS_of hp (ha F0 B ρ σ F H r1 _ R e1 fun v F1 H1 st1 rp1 => hb F0 B ρ σ F1 H1 r2 _ (R.step st1) e2 fun w F2 H2 st2 rp2 => hc F0 B ρ σ F2 H2 r3 _ ((R.step st1).step st2) e5 fun u F5 H5 st5 rp5 => ⟨v, w, u, rfl, ?_⟩)
  have R2 := ((R.step st1).step st2).step st5
  obtain ⟨F3, sm3, g3, R3⟩ := R2.put (i := i) R.go.h R.was ((rp1.step st2).step st5) e3
  have g3' : F3 = F5 ∨ ∃ a, H1 a ≠ none ∧ ∀ b, b ≠ a → F3 b = F5 b := g3.elim .inl fun ⟨a, ea, fa, g⟩ => .inr ⟨a, rp1.had ea fa, g⟩
  have g3'' : F3 = F5 ∨ ∃ a, H2 a ≠ none ∧ ∀ b, b ≠ a → F3 b = F5 b := g3.elim .inl fun ⟨a, ea, fa, g⟩ => .inr ⟨a, (rp1.step st2).had ea fa, g⟩
  have w1 : Was H1 (ρ.set i s1) (σ.set i (some v)) := (R.was.up st1.h).put R.len rp1 e3
  have rp2' : RepR X.K H1 F3 H5 r2 w := (rp2.step st5).keep sm3 g3'
  obtain ⟨F4, sm4, g4, R4⟩ := R3.put (i := j) (R.go.h.trans st1.h) w1 rp2' e4
  have g4' : F4 = F3 ∨ ∃ a, H2 a ≠ none ∧ ∀ b, b ≠ a → F4 b = F3 b := g4.elim .inl fun ⟨a, ea, fa, g⟩ => .inr ⟨a, rp2.had ea fa, g⟩
  have w2 : Was H2 ((ρ.set i s1).set j s2) ((σ.set i (some v)).set j (some w)) := (w1.up st2.h).put (by rw [List.length_set, List.length_set]; exact R.len) rp2 e4
  obtain ⟨F6, sm6, _, R6⟩ := R4.put (i := l) ((R.go.h.trans st1.h).trans st2.h) w2 ((rp5.keep sm3 g3'').keep sm4 g4') e6
  exact k _ F6 H5 R6 (((((st1.f.trans st2.f).trans st5.f).trans sm3).trans sm4).trans sm6)
/-- a, b = e1, e2 by a tuple -/
theorem ss_parT (O : Ok X ci C G) {i j : Nat} {o1 o2 : Bool} {a b : Expr} {ea eb : En → Option RV} {st : Stmt} (hp : PS X st (tAsg (tTup (tCons (wE X a) (tCons (wE X b) tNil))) (gTup X.K 2 (gCons (gName i) (gCons (gName j) gNil))))) (ha : Snd X a ea) (hb : Snd X b eb) :
    SndS1 X st (fun ρ => do
      let r1 ← ea ρ
      let r2 ← eb ρ
      let s1 ← slOf o1 r1
      let s2 ← slOf o2 r2
      some (.nx ((ρ.set i s1).set j s2))) := by
  intro F0 B ρ σ F H o D R e k
  obtain ⟨r1, e1, e⟩ := bind_some e
  obtain ⟨r2, e2, e⟩ := bind_some e
  obtain ⟨s1, e3, e⟩ := bind_some e
  obtain ⟨s2, e4, e⟩ := bind_some e
  cases e
  refine wS_of hp (ha F0 B ρ σ F H r1 _ R e1 fun v F1 H1 st1 rp1 => hb F0 B ρ σ F1 H1 r2 _ (R.step st1) e2 fun w F2 H2 st2 rp2 => ⟨by rw [sizeLine_eq]; simp, fun p np => ⟨p, [v, w], rfl, SqT.of upd_same, rfl, v, [w], rfl, w, [], rfl, rfl, ?_⟩⟩)
  have st3 : Step F2 H2 F2 (L2.upd H2 p (.tup [v, w])) := Step.lay st2.le np
  have R2 := ((R.step st1).step st2).step st3
  obtain ⟨F3, sm3, g3, R3⟩ := R2.put (i := i) R.go.h R.was ((rp1.step st2).step st3) e3
  have g3' : F3 = F2 ∨ ∃ a, H1 a ≠ none ∧ ∀ b, b ≠ a → F3 b = F2 b := g3.elim .inl fun ⟨a, ea, fa, g⟩ => .inr ⟨a, rp1.had ea fa, g⟩
  have w1 : Was H1 (ρ.set i s1) (σ.set i (some v)) := (R.was.up st1.h).put R.len rp1 e3
  obtain ⟨F4, sm4, _, R4⟩ := R3.put (i := j) (R.go.h.trans st1.h) w1 ((rp2.step st3).keep sm3 g3') e4
  exact k _ F4 _ R4 (((st1.f.trans st2.f).trans sm3).trans sm4)
theorem ss_par3T (O : Ok X ci C G) {i j l : Nat} {o1 o2 o3 : Bool} {a b c : Expr} {ea eb ec : En → Option RV} {st : Stmt} (hp : PS X st (tAsg (tTup (tCons (wE X a) (tCons (wE X b) (tCons (wE X c) tNil)))) (gTup X.K 3 (gCons (gName i) (gCons (gName j) (gCons (gName l) gNil))))))
    (ha : Snd X a ea) (hb : Snd X b eb) (hc : Snd X c ec) :
    SndS1 X st (fun ρ => do
      let r1 ← ea ρ
      let r2 ← eb ρ
      let r3 ← ec ρ
      let s1 ← slOf o1 r1
      let s2 ← slOf o2 r2
      let s3 ← slOf o3 r3
      some (.nx (((ρ.set i s1).set j s2).set l s3))) := by
  intro F0 B ρ σ F H o D R e k
  obtain ⟨r1, e1, e⟩ := bind_some e
  obtain ⟨r2, e2, e⟩ := bind_some e
  obtain ⟨r3, e5, e⟩ := bind_some e
  obtain ⟨s1, e3, e⟩ := bind_some e
  obtain ⟨s2, e4, e⟩ := bind_some e
  obtain ⟨s3, e6, e⟩ := bind_some e
  cases e
  refine wS_of hp (ha F0 B ρ σ F H r1 _ R e1 fun v F1 H1 st1 rp1 => hb F0 B ρ σ F1 H1 r2 _ (R.step st1) e2 fun w F2 H2 st2 rp2 => hc F0 B ρ σ F2 H2 r3 _ ((R.step st1).step st2) e5 fun u F5 H5 st5 rp5 =>
    ⟨by rw [sizeLine_eq]; simp, fun p np => ⟨p, [v, w, u], rfl, SqT.of upd_same, rfl, v, [w, u], rfl, w, [u], rfl, u, [], rfl, rfl, ?_⟩⟩)
  have st6 : Step F5 H5 F5 (L2.upd H5 p (.tup [v, w, u])) := Step.lay st5.le np
  have R2 := (((R.step st1).step st2).step st5).step st6
  obtain ⟨F3, sm3, g3, R3⟩ := R2.put (i := i) R.go.h R.was (((rp1.step st2).step st5).step st6) e3
  have g3' : F3 = F5 ∨ ∃ a, H1 a ≠ none ∧ ∀ b, b ≠ a → F3 b = F5 b := g3.elim .inl fun ⟨a, ea, fa, g⟩ => .inr ⟨a, rp1.had ea fa, g⟩
  have g3'' : F3 = F5 ∨ ∃ a, H2 a ≠ none ∧ ∀ b, b ≠ a → F3 b = F5 b := g3.elim .inl fun ⟨a, ea, fa, g⟩ => .inr ⟨a, (rp1.step st2).had ea fa, g⟩
  have w1 : Was H1 (ρ.set i s1) (σ.set i (some v)) := (R.was.up st1.h).put R.len rp1 e3
  have rp2' : RepR X.K H1 F3 _ r2 w := ((rp2.step st5).step st6).keep sm3 g3'
  obtain ⟨F4, sm4, g4, R4⟩ := R3.put (i := j) (R.go.h.trans st1.h) w1 rp2' e4
  have g4' : F4 = F3 ∨ ∃ a, H2 a ≠ none ∧ ∀ b, b ≠ a → F4 b = F3 b := g4.elim .inl fun ⟨a, ea, fa, g⟩ => .inr ⟨a, rp2.had ea fa, g⟩
  have w2 : Was H2 ((ρ.set i s1).set j s2) ((σ.set i (some v)).set j (some w)) := (w1.up st2.h).put (by rw [List.length_set, List.length_set]; exact R.len) rp2 e4
  obtain ⟨F6, sm6, _, R6⟩ := R4.put (i := l) ((R.go.h.trans st1.h).trans st2.h) w2 (((rp5.step st6).keep sm3 g3'').keep sm4 g4') e6
  exact k _ F6 _ R6 (((((st1.f.trans st2.f).trans st5.f).trans sm3).trans sm4).trans sm6)
/-- (a, b, ..) = e -/
theorem ss_asg (O : Ok X ci C G) {tg : Tg} {t e : Expr} {ev : En → Option RV} {st : Stmt} (hp : PS X st (tAsg (wE X e) (wG X t))) (h : Snd X e ev) (hg : SndG X t tg) :
    SndS1 X st (fun ρ => do let r ← ev ρ; let ρ' ← asg tg r.v ρ; some (.nx ρ')) := by
  intro F0 B ρ σ F H o D R e k
  obtain ⟨r, e1, e⟩ := bind_some e
  obtain ⟨ρ', e2, e⟩ := bind_some e
  cases e
  refine wS_of hp (h.va R e1 fun v F' H' st dv => ?_)
  exact hg F0 B ρ σ F' H' v r.v ρ' _ (R.step st) dv e2 fun σ' R' _ => k σ' F' H' R' st.f
/-- a list of one's own is written -/
theorem Rel.updO (R : Rel X.K F0 B ρ σ F H) {i : Nat} {ds es : Oc} {a : Addr} {ws : HO} (e : ρ[i]? = some (Sl.obj ds)) (ea : σ[i]? = some (some (V.ref a))) (d : Shp X.K F es ws) :
    Rel X.K F0 B (ρ.set i (.obj es)) σ F (upd H a ws) := by
  obtain ⟨a', vs, h1, h2, h3, h4, h5⟩ := R.own i _ e
  rw [h1] at ea; cases ea
  have hi : i < ρ.length := (List.getElem?_eq_some_iff.mp e).1
  have le' : Same F (L2.upd H a ws) := fun b x q => by rw [upd_ne (ne_of_none q h3)]; exact R.le _ _ q
  refine ⟨le', by simp [R.len], fun j v q => ?_, fun j qs q => ?_, fun j k ps qs b e1 e2 e3 e4 => ?_, fun b x q => ?_, R.go.f, le', R.go.nw⟩
  · rw [sl_get_set hi] at q
    by_cases hj : j = i
    · rw [if_pos hj] at q; cases q
    · rw [if_neg hj] at q; exact R.val j v q
  · rw [sl_get_set hi] at q
    by_cases hj : j = i
    · rw [if_pos hj] at q; cases q
      rw [hj]
      exact ⟨a, ws, h1, upd_same, h3, h4, d⟩
    · rw [if_neg hj] at q
      obtain ⟨b, us, q1, q2, q3, q4, q5⟩ := R.own j qs q
      refine ⟨b, us, q1, ?_, q3, q4, q5⟩
      rw [upd_ne]; exact q2
      intro z; subst z
      exact hj (R.dj j i qs ds b q e q1 h1)
  · have back : ∀ {m : Nat} {us : Oc}, (ρ.set i (.obj es))[m]? = some (Sl.obj us) → ∃ us', ρ[m]? = some (Sl.obj us') := fun {m us} q => by
      rw [sl_get_set hi] at q
      by_cases hj : m = i
      · exact ⟨ds, by rw [hj]; exact e⟩
      · rw [if_neg hj] at q; exact ⟨us, q⟩
    obtain ⟨p1, q1⟩ := back e1
    obtain ⟨p2, q2⟩ := back e2
    exact R.dj j k p1 p2 b q1 q2 e3 e4
  · rw [upd_ne (ne_of_none q h4)]; exact R.go.h _ _ q
theorem Rel.upd (R : Rel X.K F0 B ρ σ F H) {i : Nat} {ds es : List PV} {a : Addr} {ws : List V} (e : ρ[i]? = some (Sl.own ds)) (ea : σ[i]? = some (some (V.ref a))) (d : DpAll X.K F ws es) :
    Rel X.K F0 B (ρ.set i (.own es)) σ F (L2.upd H a (.lst ws)) := R.updO e ea ⟨ws, rfl, d⟩
/-- the name of one's own list, read -/
theorem own_rd (O : Ok X ci C G) {i : Nat} {x : Str} {p : Pos} (h : isE ci (.var i) (.Name x p) = true) (R : Rel X.K F0 B ρ σ F H) {ds : List PV} (e : ρ[i]? = some (Sl.own ds)) {Q : VK} (q : ∀ a vs, σ[i]? = some (some (V.ref a)) → H a = some (.lst vs) → DpAll X.K F vs ds → Q (.ref a) H) : wE X (.Name x p) σ H Q := by
  have h : (decide (ci.N[i]? = some x) && visB ci x && okName x) = true := h
  simp only [Bool.and_eq_true, decide_eq_true_eq] at h
  obtain ⟨⟨h1, h2⟩, h3⟩ := h
  unfold okName at h3
  simp only [Bool.and_eq_true, Bool.not_eq_true'] at h3
  obtain ⟨a, vs, e1, e2, _, _, d⟩ := R.ownL i ds e
  exact wE_of (pe_var (nm_of O h1) (vis_of O h2) h3.1.1 h3.1.2) ⟨_, e1, q a vs e1 e2 d⟩
end
end Pz
set_option Elab.async false
set_option linter.all false
set_option maxRecDepth 100000
set_option maxHeartbeats 2000000
/-! Pz: every statement that passes the check does what the evaluator says, second half. -/
namespace Pz
open PySem PySem.Spec PyProof.Rows L2
section
variable {X : Cx} {ci : CI} {C : Str → List PV → Option RV} {G : Str → Option PV} {F0 B F H : Hp} {ρ : En} {σ : L2.St}
theorem ixN_of {n : Nat} {i : Int} : ixN n i = ixOf n i := rfl
/-- own[ix] = e -/
theorem ss_setix (O : Ok X ci C G) {i : Nat} {x : Str} {p : Pos} {ix e : Expr} {eix : En → Option PV} {ee : En → Option RV} {st : Stmt} (hn : isE ci (.var i) (.Name x p) = true) (hp : PS X st (tAsg (wE X e) (gSub (wE X (.Name x p)) (wE X ix) rSetL))) (he : Snd X e ee) (hi : SndB X ix eix) :
    SndS1 X st (fun ρ => do
      let r ← ee ρ
      let k ← eix ρ
      match ρ[i]?, k with
      | some (.obj (.l ds)), .int k => (ixOf ds.length k).map fun j => .nx (ρ.set i (.own (ds.set j r.v)))
      | _, _ => none) := by
  intro F0 B ρ σ F H o D R e k
  obtain ⟨r, e1, e⟩ := bind_some e
  obtain ⟨kk, e2, e⟩ := bind_some e
  split at e
  · rename_i ds z eo
    obtain ⟨j, ej, e⟩ := Option.map_eq_some_iff.mp e
    subst e
    refine wS_of hp (he.va R e1 fun v F1 H1 s1 dv => own_rd O hn (R.step s1) eo fun a vs ea ha dd => ?_)
    refine hi F0 B ρ σ F1 H1 _ _ (R.step s1) e2 fun w F2 H2 s2 b2 => ?_
    have R2 := (R.step s1).step s2
    have d2 := dpAll_mono s2.f dd
    refine ⟨a, vs, z, j, rfl, b2.int, s2.h _ _ ha, by rw [ixN_of, dpAll_len d2]; exact ej, ?_⟩
    exact k σ F2 _ (R2.upd eo ea (dpAll_set (dp_mono s2.f dv) j d2)) (s1.f.trans s2.f)
  · cases e
/-- name += e, name -= e: ints -/
theorem ss_aug (O : Ok X ci C G) {i : Nat} {sub : Bool} {e : Expr} {ee : En → Option PV} {st : Stmt} (hp : PS X st (tAug i (wE X e) (ipI fun a b => if sub then a - b else a + b))) (he : SndB X e ee) :
    SndS1 X st (fun ρ => do
      let y ← ee ρ
      match ρ[i]?, y with
      | some (.val (.int a)), .int b => some (.nx (ρ.set i (.val (.int (if sub then a - b else a + b)))))
      | _, _ => none) := by
  intro F0 B ρ σ F H o D R e k
  obtain ⟨y, e1, e⟩ := bind_some e
  split at e
  · rename_i a b eo
    cases e
    obtain ⟨x, ex, dx⟩ := R.val i _ eo
    cases dx
    exact wS_of hp ⟨_, ex, he F0 B ρ σ F H _ _ R e1 fun v F1 H1 s1 bo => ⟨a, b, rfl, bo.int, k _ F1 H1 ((R.step s1).setV (.int _)) s1.f⟩⟩
  · cases e
theorem get_list : PGet X (rIxL X.K) := by
  intro pins s σ H x y v u Q I rx ry h
  obtain ⟨p, xs, i, z, rfl, rfl, hq, he, q⟩ := h
  cases rx
  obtain ⟨t, rfl⟩ := ry
  obtain ⟨its, r, pl, hz⟩ := I.list hq
  obtain ⟨j, h1, h2, h3, h4, h5⟩ := atI_get he
  obtain ⟨w, ew, rw'⟩ := r.get h2
  have hl := r.length
  have hn := line63
  have fin : EP X pins σ Q w s := ⟨z, H, I, rw', q⟩
  by_cases h0 : 0 ≤ i
  · have hj : i.toNat = j := by
      rw [seqIndex_of h0 h5] at h1
      exact Option.some.inj h1
    exact getItem_listL pl.isList h0 (by omega) (by rw [hj]; simpa using ew) fin
  · have hj : (i + (its.toArray.size : Int)).toNat = j := by
      rw [seqIndex_neg (by omega) h4] at h1
      rw [List.size_toArray, ← hl]
      exact Option.some.inj h1
    exact wpAny_getItem_list_neg pl.isList (by omega) (by rw [List.size_toArray] <;> omega) (by omega) (by rw [hj]; simpa using ew) fin
/-- own[ix] += e, -= e: ints -/
theorem ss_augIx (O : Ok X ci C G) {i : Nat} {sub : Bool} {x : Str} {p : Pos} {ix e : Expr} {eix ee : En → Option PV} {st : Stmt} (hn : isE ci (.var i) (.Name x p) = true)
    (hp : PS X st (tAugS (wE X (.Name x p)) (wE X ix) (wE X e) (rIxL X.K) (ipI fun a b => if sub then a - b else a + b) rSetL)) (hi : SndB X ix eix) (he : SndB X e ee) :
    SndS1 X st (fun ρ => do
      let k ← eix ρ
      let y ← ee ρ
      match ρ[i]?, k, y with
      | some (.obj (.l ds)), .int k, .int b => (ixOf ds.length k).bind fun j => match ds[j]? with
        | some (.int a) => some (.nx (ρ.set i (.own (ds.set j (.int (if sub then a - b else a + b))))))
        | _ => none
      | _, _, _ => none) := by
  intro F0 B ρ σ F H o D R e0 k
  obtain ⟨kk, e1, e0⟩ := bind_some e0
  obtain ⟨y, e2, e0⟩ := bind_some e0
  split at e0
  · rename_i ds z b eo _
    obtain ⟨j, ej, e0⟩ := Option.bind_eq_some_iff.mp e0
    split at e0
    · rename_i a ea
      cases e0
      refine wS_of hp (own_rd O hn R eo fun l vs el hl dd => ?_)
      refine hi F0 B ρ σ F H _ _ R e1 fun w F1 H1 s1 b1 => ?_
      have d1 := dpAll_mono s1.f dd
      obtain ⟨v, hv, dv⟩ := dpAll_get d1 ea
      cases dv
      have at1 : atI vs z = some (.int a) := by
        unfold atI
        rw [ixN_of, dpAll_len d1, ej]; exact hv
      refine ⟨l, vs, z, _, rfl, b1.int, SqL.of (s1.h _ _ hl), at1, ?_⟩
      refine he F0 B ρ σ F1 H1 _ _ (R.step s1) e2 fun u F2 H2 s2 b2 => ?_
      have R2 := (R.step s1).step s2
      have d2 := dpAll_mono s2.f d1
      refine ⟨a, b, rfl, b2.int, l, vs, z, j, rfl, b1.int, s2.h _ _ (s1.h _ _ hl), by rw [ixN_of, dpAll_len d2]; exact ej, ?_⟩
      exact k σ F2 _ (R2.upd eo el (dpAll_set (.int _) j d2)) (s1.f.trans s2.f)
    · cases e0
  · cases e0
/-- own.append(e) -/
theorem ss_app (O : Ok X ci C G) {i : Nat} {x : Str} {p : Pos} {e : Expr} {ee : En → Option RV} {st : Stmt} (hn : isE ci (.var i) (.Name x p) = true) (hp : PS X st (tDrop (tBM X.K "list" rAppend (wE X (.Name x p)) (tCons (wE X e) tNil)))) (he : Snd X e ee) :
    SndS1 X st (fun ρ => do
      let r ← ee ρ
      match ρ[i]? with
      | some (.obj (.l ds)) => if ds.length < LIM then some (.nx (ρ.set i (.own (ds ++ [r.v])))) else none
      | _ => none) := by
  intro F0 B ρ σ F H o D R e k
  obtain ⟨r, e1, e⟩ := bind_some e
  split at e
  · rename_i ds eo
    split at e
    · rename_i hz
      cases e
      refine wS_of hp (own_rd O hn R eo fun a vs ea ha dd => ⟨.inl ⟨rfl, _, SqL.of ha⟩, he.va R e1 fun v F1 H1 s1 dv => ?_⟩)
      have d2 := dpAll_mono s1.f dd
      refine ⟨a, vs, v, rfl, rfl, s1.h _ _ ha, ?_, k σ F1 _ ((R.step s1).upd eo ea (dpAll_app d2 (.cons dv .nil))) s1.f⟩
      rw [dpAll_len d2, sizeLine_eq]
      unfold LIM at hz; omega
    · cases e
  · cases e
/-- own.extend(a list just made) -/
theorem ss_ext (O : Ok X ci C G) {i : Nat} {x : Str} {p : Pos} {e : Expr} {ee : En → Option RV} {st : Stmt} (hn : isE ci (.var i) (.Name x p) = true) (hp : PS X st (tDrop (tBM X.K "list" rExtend (wE X (.Name x p)) (tCons (wE X e) tNil)))) (he : Snd X e ee) :
    SndS1 X st (fun ρ => do
      let r ← ee ρ
      match ρ[i]?, r with
      | some (.obj (.l ds)), ⟨.list es, true⟩ => if ds.length + es.length ≤ LIM then some (.nx (ρ.set i (.own (ds ++ es)))) else none
      | _, _ => none) := by
  intro F0 B ρ σ F H o D R e k
  obtain ⟨r, e1, e⟩ := bind_some e
  split at e
  · rename_i ds es eo
    split at e
    · rename_i hz
      cases e
      refine wS_of hp (own_rd O hn R eo fun a vs ea ha dd => ⟨.inl ⟨rfl, _, SqL.of ha⟩, he F0 B ρ σ F H _ _ R e1 fun v F1 H1 s1 rp => ?_⟩)
      have d2 := dpAll_mono s1.f dd
      obtain ⟨b, ws, qs, eq, rfl, h0, h1, h2, h3⟩ := rp.fr
      cases eq
      refine ⟨a, b, vs, ws, rfl, rfl, s1.h _ _ ha, h1, ?_, k σ F1 _ ((R.step s1).upd eo ea (dpAll_app d2 h3)) s1.f⟩
      rw [dpAll_len d2, dpAll_len h3]
      exact lim_line hz
    · cases e
  · cases e
/-- name = {} -/
theorem ss_dnew (O : Ok X ci C G) {i : Nat} {st : Stmt} (hp : PS X st (tAsg tDNewK (gName i))) : SndS1 X st (fun ρ => some (.nx (ρ.set i (.dic [])))) := by
  intro F0 B ρ σ F H o D R e k
  cases e
  refine wS_of hp fun p np => ?_
  have s := Step.lay (o := .dK []) R.le np
  refine k _ F _ ((R.step s).setObj (i := i) (a := p) upd_same (R.le.free np) (R.go.h.free np) ⟨[], rfl, .nil⟩ fun j es b hj e1 e2 e3 => ?_) s.f
  subst e3
  obtain ⟨a, h, h1, h2, _⟩ := R.own j es e1
  rw [h1] at e2
  cases e2
  rw [np] at h2; cases h2
/-- name[k] = e -/
theorem ss_dset (O : Ok X ci C G) {i : Nat} {x : Str} {p : Pos} {ek e : Expr} {kk : En → Option PV} {ee : En → Option RV} {st : Stmt} (hn : rdB ci i x = true) (hp : PS X st (sDPut (wE X (.Name x p)) (wE X ek) (wE X e))) (he : Snd X e ee) (hk : SndB X ek kk) :
    SndS1 X st (fun ρ => do
      let r ← ee ρ
      let y ← kk ρ
      match ρ[i]?, keyO y with
      | some (.obj (.d kvs)), some q => if kvs.length < LIM then some (.nx (ρ.set i (.dic (putP kvs q r.v)))) else none
      | _, _ => none) := by
  intro F0 B ρ σ F H o D R e k
  obtain ⟨r, e1, e⟩ := bind_some e
  obtain ⟨y, e2, e⟩ := bind_some e
  split at e
  · rename_i kvs q eo ek
    split at e
    · rename_i hz
      cases e
      refine wS_of hp (he.va R e1 fun v F1 H1 s1 dv => dic_rd O hn (R.step s1) eo fun a rr ea ha dd => ?_)
      refine hk F0 B ρ σ F1 H1 _ _ (R.step s1) e2 fun w F2 H2 s2 b2 => ?_
      have R2 := (R.step s1).step s2
      have d2 := dpKv_mono s2.f dd
      refine ⟨a, _, rfl, ?_, k σ F2 _ (R2.updO eo ea ⟨_, rfl, dpKv_put q (dp_mono s2.f dv) d2⟩) (s1.f.trans s2.f)⟩
      rw [key_of b2 ek]
      exact DPut.k (s2.h _ _ ha) (by rw [dpKv_len d2, sizeLine_eq]; unfold LIM at hz; omega)
    · cases e
  · cases e
/-- raise: never reached -/
theorem ss_rse {st : Stmt} : SndS1 X st (fun _ => none) := by
  intro F0 B ρ σ F H o D R e k
  cases e
theorem ss_expr (O : Ok X ci C G) {e : Expr} {ee : En → Option RV} {st : Stmt} (hp : PS X st (tDrop (wE X e))) (he : Snd X e ee) : SndS1 X st (fun ρ => do let _ ← ee ρ; some (.nx ρ)) := by
  intro F0 B ρ σ F H o D R e k
  obtain ⟨r, e1, e⟩ := bind_some e
  cases e
  exact wS_of hp (he.va R e1 fun v F1 H1 s1 dv => k σ F1 H1 (R.step s1) s1.f)
theorem ss_ret (O : Ok X ci C G) {e : Expr} {ee : En → Option RV} {st : Stmt} (hp : PS X st (tRet (wE X e))) (he : Snd X e ee) : SndS1 X st (fun ρ => (ee ρ).map .rt) := by
  intro F0 B ρ σ F H o D R e k
  obtain ⟨r, e1, e⟩ := Option.map_eq_some_iff.mp e
  subst e
  exact wS_of hp (he F0 B ρ σ F H r _ R e1 fun v F1 H1 s1 rp => k v F1 H1 (R.go.trans s1) (rp.weak R.go.h))
theorem ss_retO (O : Ok X ci C G) {i : Nat} {x : Str} {p : Pos} {st : Stmt} (hn : isE ci (.var i) (.Name x p) = true) (hp : PS X st (tRet (wE X (.Name x p)))) : SndS1 X st (fun ρ => match ρ[i]? with
    | some (.obj (.l ds)) => some (.rt ⟨.list ds, true⟩)
    | _ => none) := by
  intro F0 B ρ σ F H o D R e k
  have e : (match ρ[i]? with | some (.obj (.l ds)) => some (.rt ⟨.list ds, true⟩) | _ => none : Option Out) = some o := e
  split at e
  · rename_i ds eo
    cases e
    refine wS_of hp (own_rd O hn R eo fun a vs ea ha dd => ?_)
    obtain ⟨a', vs', h1, h2, h3, h4, h5⟩ := R.ownL i ds eo
    rw [h1] at ea; cases ea
    exact k _ F H R.go (.new h4 h2 h3 h5)
  · cases e
theorem ss_retN {st : Stmt} (hp : PS X st tRetN) : SndS1 X st (fun _ => some (.rt ⟨.none, false⟩)) := by
  intro F0 B ρ σ F H o D R e k
  cases e
  exact wS_of hp (k _ F H R.go (.of .non))
theorem ss_ife {c : Expr} {a b : List Stmt} {xc : En → Option PV} {ea eb : En → Option Out} {pos : Pos} (hc : SndT X c xc) (ha : SndSs X a ea) (hb : SndSs X b eb) : SndS1 X (.If c a b pos) (fun ρ => do
      let k ← (do let x ← xc ρ; truth x : Option Bool)
      if k then ea ρ else eb ρ) := by
  intro F0 B ρ σ F H o D R e k
  obtain ⟨kk, e1, e⟩ := bind_some e
  obtain ⟨x, e1, t⟩ := bind_some e1
  refine wS_of (ps_if pt_w pss_w pss_w) (hc F0 B ρ σ F H x kk _ R e1 t fun F' H' s => ?_)
  cases kk with
  | true => rw [if_pos rfl] at e ⊢; exact ha F0 B ρ σ F' H' o D (R.step s) e (k.up s.f)
  | false => rw [if_neg Bool.false_ne_true] at e ⊢; exact hb F0 B ρ σ F' H' o D (R.step s) e (k.up s.f)
theorem loop_step {body : En → Option Out} {tg : Tg} {xs : List PV} {i : Nat} {ρ : En} {o : Out} (h : loopF body tg (xs.drop i) ρ = some o) : (xs.length ≤ i ∧ o = .nx ρ) ∨ (∃ x ρ1 o1, xs[i]? = some x ∧ asg tg x ρ = some ρ1 ∧ body ρ1 = some o1 ∧
    ((∃ ρ2, (o1 = .nx ρ2 ∨ o1 = .ct ρ2) ∧ loopF body tg (xs.drop (i + 1)) ρ2 = some o) ∨ (∃ ρ2, o1 = .bk ρ2 ∧ o = .nx ρ2) ∨ (∃ v, o1 = .rt v ∧ o = .rt v))) := by
  by_cases hi : i < xs.length
  · rw [List.drop_eq_getElem_cons hi] at h
    obtain ⟨ρ1, e1, h⟩ := bind_some h
    obtain ⟨o1, e2, h⟩ := bind_some h
    refine .inr ⟨xs[i], ρ1, o1, List.getElem?_eq_getElem hi, e1, e2, ?_⟩
    cases o1 with
    | nx ρ2 => exact .inl ⟨ρ2, .inl rfl, h⟩
    | ct ρ2 => exact .inl ⟨ρ2, .inr rfl, h⟩
    | bk ρ2 => exact .inr (.inl ⟨ρ2, rfl, (Option.some.inj h).symm⟩)
    | rt v => exact .inr (.inr ⟨v, rfl, (Option.some.inj h).symm⟩)
  · rw [List.drop_eq_nil_of_le (by omega)] at h
    cases h
    exact .inl ⟨by omega, rfl⟩
theorem ss_for {tg iter : Expr} {t : Tg} {sb : List Stmt} {eI : En → Option (List PV)} {body : En → Option Out} {st : Stmt} (hp : PS X st (tFor (wI X tg iter) (wG X tg) (wSs X sb))) (hI : SndI true X tg iter eI) (hG : SndG X tg t) (hb : SndSs X sb body) :
    SndS1 X st (fun ρ => do let xs ← eI ρ; loopF body t xs ρ) := by
  intro F0 B ρ σ F H o D R e k
  obtain ⟨xs, e1, e⟩ := bind_some e
  refine wS_of hp (hI F0 B ρ σ F H xs _ R e1 fun J F1 H1 s1 it hz => ?_)
  have it : ItOk X.K J xs F1 F1 := it
  refine ⟨fun i m σ' H' => m = xs.length - i ∧ i ≤ xs.length ∧ ∃ ρ' F', Rel X.K F0 B ρ' σ' F' H' ∧ Same F1 F' ∧ loopF body t (xs.drop i) ρ' = some o,
    ⟨_, rfl, Nat.zero_le _, ρ, F1, R.step s1, Same.refl _, e⟩, fun i m σ2 H2 ⟨em, hi, ρ2, F2, R2, sf, el⟩ => ?_⟩
  obtain ⟨itg, its⟩ := it i F2 H2 sf (sf.trans R2.le) R2.le
  rcases loop_step el with ⟨hx, rfl⟩ | ⟨x, ρ3, o3, hx, ha, hbd, rest⟩
  · exact .inl ⟨its hx, k σ2 F2 H2 R2 (s1.f.trans sf)⟩
  · obtain ⟨go, yl⟩ := itg x hx
    have hlt : i < xs.length := (List.getElem?_eq_some_iff.mp hx).1
    refine .inr ⟨go, fun σ' H' => ∃ ρ' F', Rel X.K F0 B ρ' σ' F' H' ∧ Same F1 F' ∧ loopF body t (xs.drop (i + 1)) ρ' = some o, fun σ' H' h => ⟨xs.length - (i + 1), by omega, rfl, hlt, h⟩, fun u H3 hy3 => ?_⟩
    obtain ⟨F3, s3, du⟩ := yl u H3 hy3
    refine hG F0 B ρ2 σ2 F3 H3 u x ρ3 _ (R2.step s3) du ha fun σ4 R4 _ => ?_
    have sf3 := sf.trans s3.f
    refine hb F0 B ρ3 σ4 F3 H3 o3 _ R4 hbd ?_
    rcases rest with ⟨ρ5, he, hl⟩ | ⟨ρ5, rfl, rfl⟩ | ⟨v, rfl, rfl⟩
    · rcases he with rfl | rfl
      · exact fun σ' F' H' R' q => ⟨ρ5, F', R', sf3.trans q, hl⟩
      · exact fun σ' F' H' R' q => ⟨ρ5, F', R', sf3.trans q, hl⟩
    · exact fun σ' F' H' R' q => k σ' F' H' R' ((s1.f.trans sf3).trans q)
    · exact k
theorem ss_while {c : Expr} {sb : List Stmt} {n : Nat} {xc : En → Option PV} {body : En → Option Out} {st : Stmt} (hp : PS X st (tWhile (wT X c) (wSs X sb))) (hc : SndT X c xc) (hb : SndSs X sb body) :
    SndS1 X st (fun ρ => loopW (fun ρ => do let x ← xc ρ; truth x) body n ρ) := by
  intro F0 B ρ σ F H o D R e k
  refine wS_of hp ⟨fun m σ' H' => ∃ ρ' F', Rel X.K F0 B ρ' σ' F' H' ∧ Same F F' ∧ loopW (fun ρ => do let x ← xc ρ; truth x) body m ρ' = some o, ⟨n, ρ, F, R, Same.refl _, e⟩, fun m σ2 H2 ⟨ρ2, F2, R2, sf, el⟩ => ?_⟩
  cases m with
  | zero => cases el
  | succ m =>
    obtain ⟨kk, e1, el⟩ := bind_some el
    obtain ⟨x, e1, t⟩ := bind_some e1
    refine hc F0 B ρ2 σ2 F2 H2 x kk _ R2 e1 t fun F3 H3 s3 => ?_
    cases kk with
    | false =>
      rw [if_neg Bool.false_ne_true] at el ⊢
      cases el
      exact k σ2 F3 H3 (R2.step s3) (sf.trans s3.f)
    | true =>
      rw [if_pos rfl] at el ⊢
      obtain ⟨o3, e3, el⟩ := bind_some el
      refine ⟨fun σ' H' => ∃ ρ' F', Rel X.K F0 B ρ' σ' F' H' ∧ Same F F' ∧ loopW (fun ρ => do let x ← xc ρ; truth x) body m ρ' = some o, fun σ' H' h => ⟨m, Nat.lt_succ_self _, h⟩, ?_⟩
      have sf3 := sf.trans s3.f
      refine hb F0 B ρ2 σ2 F3 H3 o3 _ (R2.step s3) e3 ?_
      cases o3 with
      | nx ρ5 => exact fun σ' F' H' R' q => ⟨ρ5, F', R', sf3.trans q, el⟩
      | ct ρ5 => exact fun σ' F' H' R' q => ⟨ρ5, F', R', sf3.trans q, el⟩
      | bk ρ5 => cases el; exact fun σ' F' H' R' q => k σ' F' H' R' (sf3.trans q)
      | rt v => cases el; exact k
end
end Pz
set_option Elab.async false
set_option linter.all false
set_option maxRecDepth 100000
set_option maxHeartbeats 2000000
/-! Pz: the whole of a def's statements. -/
namespace Pz
open PySem PySem.Spec PyProof.Rows L2
section
variable {X : Cx} {ci : CI} {C : Str → List PV → Option RV} {G : Str → Option PV}
theorem swaps_false {e : Expr} {t : Option Expr} {l : Nat} {env : Env} (h : noComp e = true) : swapsWith e t l env = pure false := by
  cases e <;> first | rfl | cases h
theorem swaps_sole {e t : Expr} {l : Nat} {env : Env} (h : noComp e = true) : swapsWithSole [t] e l env = pure false := swaps_false h
theorem block_fn (O : Ok X ci C G) : X.env.blockKind = .function := by
  unfold Env.blockKind
  rw [O.fk]; rfl
theorem swaps_true (O : Ok X ci C G) {x : Str} {py pos : Pos} {elt : Expr} {gs : List Comprehension} {scope : Scope} {l : Nat} (h : swpC ci x py (.ListComp elt gs scope pos) = true) :
    swapsWith (.ListComp elt gs scope pos) (some (.Name x py)) l X.env = pure true ∧ X.env.scope.names.lookup x = some .local := by
  have h : (decide (ci.sc.names.lookup x = some .local) && (py.line == pos.line) && !(scope.names.any fun (n, k) => n == x && (k == .local || k == .cell))) = true := h
  rw [Bool.and_eq_true, Bool.and_eq_true, decide_eq_true_eq] at h
  obtain ⟨⟨h1, h2⟩, h3⟩ := h
  have h1 : X.env.scope.names.lookup x = some .local := by rw [O.sc]; exact h1
  refine ⟨?_, h1⟩
  show (pure (X.env.blockKind == .function && X.env.kindOf x == some .local && py.line == pos.line && !(scope.names.any fun (n, k) => n == x && (k == .local || k == .cell))) : Sem Bool) = pure true
  have e1 : (X.env.blockKind == .function) = true := by rw [block_fn O]; rfl
  have e2 : (X.env.kindOf x == some .local) = true := by unfold Env.kindOf; rw [h1]; rfl
  rw [e1, e2, h2, h3]; rfl
theorem swapped_none {t e : Expr} (h : noPar e = true) (env : Env) : swappedStores [t] e env = pure none := by
  unfold swappedStores
  split
  · rename_i ts vs hm
    have hv : vs.all (foldedForSure 8) = true := by
      split at hm
      · cases hm; exact h
      · cases hm; exact h
      · cases hm
    split
    · rfl
    · split
      · rfl
      · dsimp only
        split
        · rfl
        · rfl
  · rfl
theorem star_no {a : Expr} (h : noStar a = true) : (match (generalizing := false) a with | .Starred .. => true | _ => false) = false := by
  cases a <;> first | rfl | cases h
theorem swapped_two (O : Ok X ci C G) {x y : Str} {px py pt pt2 : Pos} {k k2} {a b : Expr} (hx : X.env.scope.names.lookup x = some .local) (hy : X.env.scope.names.lookup y = some .local) (hne : x ≠ y) (ha : noStar a = true) (hb : noStar b = true) (h : parB [.Name x px, .Name y py] [a, b] = true) :
    swappedStores [.Tuple [.Name x px, .Name y py] k pt] (.Tuple [a, b] k2 pt2) X.env = pure (some [x, y]) := by
  unfold parB at h
  simp only [Bool.and_eq_true, Bool.not_eq_true'] at h
  obtain ⟨⟨h2, h3⟩, h4⟩ := h
  simp only [List.all_cons, List.all_nil, Bool.and_true, Bool.and_eq_true] at h4
  have l2 : (py.line == px.line) = true := h4.2
  have bk := block_fn O
  have e1 : (X.env.blockKind != .function) = false := by rw [bk]; rfl
  have kx : X.env.kindOf x = some .local := hx
  have ky : X.env.kindOf y = some .local := hy
  have l1 : (px.line == px.line) = true := by simp
  have b1 : (X.env.kindOf x == some .local && px.line == px.line) = true := by rw [kx, l1]; rfl
  have b2 : (X.env.kindOf y == some .local && py.line == px.line) = true := by rw [ky, l2]; rfl
  unfold swappedStores
  dsimp only [Expr.pos, List.head?, Option.map, Option.getD]
  rw [e1, h2, h3]
  refine (if_neg (by simp)).trans ?_
  refine (if_neg ?_).trans ?_
  · show ¬ ((match (generalizing := false) a with | .Starred .. => true | _ => false) || ((match (generalizing := false) b with | .Starred .. => true | _ => false) || false)) = true
    rw [star_no ha, star_no hb]; decide
  simp only [List.filterMap, b1, b2, if_true]
  simp [List.eraseDups_cons, hne, Ne.symm hne]
theorem swapped_three (O : Ok X ci C G) {x y z : Str} {px py pz pt pt2 : Pos} {k k2} {a b c : Expr} (hx : X.env.scope.names.lookup x = some .local) (hy : X.env.scope.names.lookup y = some .local) (hz : X.env.scope.names.lookup z = some .local) (hne : x ≠ y) (hne2 : x ≠ z) (hne3 : y ≠ z)
    (ha : noStar a = true) (hb : noStar b = true) (hc : noStar c = true) (h : parB [.Name x px, .Name y py, .Name z pz] [a, b, c] = true) :
    swappedStores [.Tuple [.Name x px, .Name y py, .Name z pz] k pt] (.Tuple [a, b, c] k2 pt2) X.env = pure (some [x, y, z]) := by
  unfold parB at h
  simp only [Bool.and_eq_true, Bool.not_eq_true'] at h
  obtain ⟨⟨h2, h3⟩, h4⟩ := h
  simp only [List.all_cons, List.all_nil, Bool.and_true, Bool.and_eq_true] at h4
  have l2 : (py.line == px.line) = true := h4.2.1
  have l3 : (pz.line == px.line) = true := h4.2.2
  have bk := block_fn O
  have e1 : (X.env.blockKind != .function) = false := by rw [bk]; rfl
  have kx : X.env.kindOf x = some .local := hx
  have ky : X.env.kindOf y = some .local := hy
  have kz : X.env.kindOf z = some .local := hz
  have l1 : (px.line == px.line) = true := by simp
  have b1 : (X.env.kindOf x == some .local && px.line == px.line) = true := by rw [kx, l1]; rfl
  have b2 : (X.env.kindOf y == some .local && py.line == px.line) = true := by rw [ky, l2]; rfl
  have b3 : (X.env.kindOf z == some .local && pz.line == px.line) = true := by rw [kz, l3]; rfl
  unfold swappedStores
  dsimp only [Expr.pos, List.head?, Option.map, Option.getD]
  rw [e1, h2, h3]
  refine (if_neg (by simp)).trans ?_
  refine (if_neg ?_).trans ?_
  · show ¬ ((match (generalizing := false) a with | .Starred .. => true | _ => false) || ((match (generalizing := false) b with | .Starred .. => true | _ => false) || ((match (generalizing := false) c with | .Starred .. => true | _ => false) || false))) = true
    rw [star_no ha, star_no hb, star_no hc]; decide
  simp only [List.filterMap, b1, b2, b3, if_true]
  simp [List.eraseDups_cons, hne, Ne.symm hne, hne2, Ne.symm hne2, hne3, Ne.symm hne3]
theorem swaps_cell (O : Ok X ci C G) {x : Str} {py : Pos} {e : Expr} {l : Nat} (h : X.env.scope.names.lookup x = some .cell) : swapsWith e (some (.Name x py)) l X.env = pure false := by
  have e2 : (X.env.kindOf x == some .local) = false := by unfold Env.kindOf; rw [h]; rfl
  unfold swapsWith
  split
  · show (pure _ : Sem Bool) = pure false
    rw [e2, Bool.and_false, Bool.false_and, Bool.false_and]
  · rfl
theorem swapped_cell2 (O : Ok X ci C G) {x y : Str} {px py pt pt2 : Pos} {k k2} {a b : Expr} (h : X.env.scope.names.lookup x = some .cell ∨ X.env.scope.names.lookup y = some .cell) :
    swappedStores [.Tuple [.Name x px, .Name y py] k pt] (.Tuple [a, b] k2 pt2) X.env = pure none := by
  unfold swappedStores
  dsimp only [Expr.pos, List.head?, Option.map, Option.getD]
  split
  · rfl
  · split
    · rfl
    · refine (if_pos ?_).trans rfl
      rcases h with h | h
      · have e2 : (X.env.kindOf x == some .local) = false := by unfold Env.kindOf; rw [h]; rfl
        simp only [List.filterMap, e2, Bool.false_and]
        generalize (X.env.kindOf y == some NameKind.local && py.line == px.line) = c1
        cases c1 <;> simp
      · have e2 : (X.env.kindOf y == some .local) = false := by unfold Env.kindOf; rw [h]; rfl
        simp only [List.filterMap, e2, Bool.false_and]
        generalize (X.env.kindOf x == some NameKind.local && px.line == px.line) = c1
        cases c1 <;> simp
theorem swapped_cell3 (O : Ok X ci C G) {x y z : Str} {px py pz pt pt2 : Pos} {k k2} {a b c : Expr} (h : X.env.scope.names.lookup x = some .cell ∨ X.env.scope.names.lookup y = some .cell ∨ X.env.scope.names.lookup z = some .cell) :
    swappedStores [.Tuple [.Name x px, .Name y py, .Name z pz] k pt] (.Tuple [a, b, c] k2 pt2) X.env = pure none := by
  unfold swappedStores
  dsimp only [Expr.pos, List.head?, Option.map, Option.getD]
  split
  · rfl
  · split
    · rfl
    · refine (if_pos ?_).trans rfl
      rcases h with h | h | h
      · have e2 : (X.env.kindOf x == some .local) = false := by unfold Env.kindOf; rw [h]; rfl
        simp only [List.filterMap, e2, Bool.false_and]
        generalize (X.env.kindOf y == some NameKind.local && py.line == px.line) = c1
        generalize (X.env.kindOf z == some NameKind.local && pz.line == px.line) = c2
        cases c1 <;> cases c2 <;> simp
      · have e2 : (X.env.kindOf y == some .local) = false := by unfold Env.kindOf; rw [h]; rfl
        simp only [List.filterMap, e2, Bool.false_and]
        generalize (X.env.kindOf x == some NameKind.local && px.line == px.line) = c1
        generalize (X.env.kindOf z == some NameKind.local && pz.line == px.line) = c2
        cases c1 <;> cases c2 <;> simp
      · have e2 : (X.env.kindOf z == some .local) = false := by unfold Env.kindOf; rw [h]; rfl
        simp only [List.filterMap, e2, Bool.false_and]
        generalize (X.env.kindOf y == some NameKind.local && py.line == px.line) = c1
        generalize (X.env.kindOf x == some NameKind.local && px.line == px.line) = c2
        cases c1 <;> cases c2 <;> simp
end
end Pz
set_option Elab.async false
set_option linter.all false
set_option maxRecDepth 100000
set_option maxHeartbeats 4000000
/-! Pz: the whole of a def's statements. -/
namespace Pz
open PySem PySem.Spec PyProof.Rows L2
section
variable {X : Cx} {ci : CI} {C : Str → List PV → Option RV} {G : Str → Option PV}
theorem nm_b (O : Ok X ci C G) {i : Nat} {x : Str} (h : nmB ci i x = true) : X.N[i]? = some x ∧ L2.Loc X.env.scope x ∧ (X.fn x = true ∨ X.env.scope.names.lookup x = some .local) := by
  unfold nmB at h
  rw [Bool.and_eq_true, Bool.and_eq_true, decide_eq_true_eq] at h
  exact ⟨nm_of O h.1.1, loc_of O h.1.2, O.st _ h.2⟩
theorem lcl_b (O : Ok X ci C G) {i : Nat} {x : Str} (h : lclB ci i x = true) : X.N[i]? = some x ∧ X.env.scope.names.lookup x = some .local := by
  unfold lclB at h
  rw [Bool.and_eq_true, decide_eq_true_eq, decide_eq_true_eq] at h
  exact ⟨nm_of O h.1, by rw [O.sc]; exact h.2⟩
theorem nm_ne {N : List Str} {i j : Nat} {x y : Str} (nd : N.Nodup) (h1 : N[i]? = some x) (h2 : N[j]? = some y) (h : (i == j) = false) : x ≠ y := by
  intro e
  subst e
  obtain ⟨a, b⟩ := List.getElem?_eq_some_iff.mp h1
  obtain ⟨c, d⟩ := List.getElem?_eq_some_iff.mp h2
  have e : i = j := (List.getElem?_inj a nd).mp (h1.trans h2.symm)
  simp [e] at h
theorem stores_no {e : Expr} {env : Env} (h : noStar e = true) : (assignEach [e] env).map (·.2) = [assign e env] := by
  cases e <;> first | rfl | cases h
theorem sub_as {o i : Expr} {pos : Pos} {env : Env} (h : plainIx i = true) : ∀ v, assign (.Subscript o i pos) env v = (do
      let ov ← holding [v] (eval o env)
      let iv ← holding [v, ov] (eval i env)
      standAt pos
      holding [v, ov, iv] (setItem ov iv v)
      release [v, ov, iv] []) := by
  intro v
  cases i <;> first | rfl | cases h
theorem aug_st {i : Expr} (h : plainIx i = true) : ∀ ov iv new, augStore i ov iv new = (do holding [new, ov, iv] (setItem ov iv new); release [new, ov, iv] []; pure .next) := by
  intro ov iv new
  cases i <;> first | rfl | cases h
mutual
theorem gS (hp : PassesOwn (model X.prog X.w) X.A X.env X.xe) (O : Ok X ci C G) : ∀ (t : Ts) {st : Stmt}, isS ci t st = true → SndS1 X st (evS C G t)
  | .set i ow e, st, h => by
    have h : (match (generalizing := false) st with | .Assign [.Name x py] ee _ => nmB ci i x && isE ci e ee && (noComp ee || celB ci x || swpC ci x py ee) | _ => false) = true := h
    split at h
    · rename_i x py ee pos _
      rw [Bool.and_eq_true, Bool.and_eq_true] at h
      obtain ⟨⟨h1, h2⟩, h3⟩ := h
      obtain ⟨n1, n2, n3⟩ := nm_b O h1
      cases hc : noComp ee with
      | true => exact ss_set O (ps_set O.nd n1 n2 pe_w (swaps_false hc) n3) (gE e O h2).ev
      | false =>
        rw [hc, Bool.false_or, Bool.or_eq_true] at h3
        rcases h3 with h3 | h3
        · exact ss_set O (ps_set O.nd n1 n2 pe_w (swaps_cell O (by rw [O.sc]; exact of_decide_eq_true h3)) n3) (gE e O h2).ev
        have h2' := h2
        cases e with
        | comp elt tg it ifs own =>
          have h : (match (generalizing := false) ee with | .ListComp ee [⟨et, ei, efs, 0⟩] scope _ => blkB ci scope own && tg.slots.all (fun i => (own.map (·.2)).contains i) && noSet ei && isI ci it ei (isTup et) && isG (blkCI ci scope) tg et && tsts ifs && isA (blkCI ci scope) ifs efs && isE (blkCI ci scope) elt ee | _ => false) = true := h2
          split at h
          · obtain ⟨sw, lx⟩ := swaps_true O (l := pos.line) h3
            simp only [Bool.and_eq_true] at h
            obtain ⟨⟨⟨⟨⟨⟨⟨h1, h2⟩, h3⟩, h4⟩, h5⟩, h6⟩, h7⟩, h8⟩ := h
            have OB := ok_blk O h1
            refine ss_set O (ps_setLc O.calm O.nd n1 lx sw pi_w (blk_ok O h1) (fun s H D cl fp => pg_b s H D cl fp) (fun s H D cl fp => pts_b s H D cl fp) (fun s H D cl fp => pe_b s H D cl fp) (fun x => set_of h3))
              (sq_lc (gI it O h4) (fun s H D cl fp => snd_g (OB s H D cl fp) h5) (fun s H D cl fp => (gA ifs (OB s H D cl fp) h7).f h6) (fun s H D cl fp => (gE elt (OB s H D cl fp) h8).ev) fun i hi => ?_)
            rw [List.all_eq_true] at h2
            simpa using h2 i hi
          · cases h
        | comp2 elt tg it ifs tg1 it1 ifs1 own own1 =>
          have h : (match (generalizing := false) ee with | .ListComp ee [⟨et, ei, efs, 0⟩, ⟨et1, ei1, efs1, 0⟩] scope _ => blkB ci scope own && noSet ei && noSet ei1 && own1.all (fun i => (own.map (·.2)).contains i) && tg.slots.all (fun i => (own.map (·.2)).contains i) && tg1.slots.all own1.contains && isI ci it ei (isTup et) && isG (blkCI ci scope) tg et && tsts ifs && isA (blkCI ci scope) ifs efs && isI (blkCI ci scope) it1 ei1 (isTup et1) && isG (blkCI ci scope) tg1 et1 && tsts ifs1 && isA (blkCI ci scope) ifs1 efs1 && isE (blkCI ci scope) elt ee | _ => false) = true := h2
          split at h
          · obtain ⟨sw, lx⟩ := swaps_true O (l := pos.line) h3
            simp only [Bool.and_eq_true] at h
            obtain ⟨⟨⟨⟨⟨⟨⟨⟨⟨⟨⟨⟨⟨⟨h1, h2⟩, h3⟩, h4⟩, h5⟩, h6⟩, h7⟩, h8⟩, h9⟩, h10⟩, h11⟩, h12⟩, h13⟩, h14⟩, h15⟩ := h
            have OB := ok_blk O h1
            rw [List.all_eq_true] at h4 h5 h6
            exact ss_set O (ps_setLc2 O.calm O.nd n1 lx sw pi_w (blk_ok O h1) (fun i hi => by simpa using h4 i hi) (fun s H D cl fp => pg_b s H D cl fp) (fun s H D cl fp => pts_b s H D cl fp) (fun s H D cl fp => pi_b s H D cl fp) (fun s H D cl fp => pg_b s H D cl fp) (fun s H D cl fp => pts_b s H D cl fp) (fun s H D cl fp => pe_b s H D cl fp) (fun x => set_of h2) (fun env x => set_of h3))
              (sq_lc2 (gI it O h7) (fun s H D cl fp => snd_g (OB s H D cl fp) h8) (fun s H D cl fp => (gA ifs (OB s H D cl fp) h10).f h9) (fun s H D cl fp => gI it1 (OB s H D cl fp) h11) (fun s H D cl fp => snd_g (OB s H D cl fp) h12) (fun s H D cl fp => (gA ifs1 (OB s H D cl fp) h14).f h13) (fun s H D cl fp => (gE elt (OB s H D cl fp) h15).ev)
                (fun i hi => by simpa using h5 i hi) fun i hi => by simpa using h6 i hi)
          · cases h
        | _ =>
          exfalso
          cases ee with
          | ListComp _ _ _ _ => cases h2'
          | _ => cases h3
    · cases h
  | .asg tg e, st, h => by
    have h : (match (generalizing := false) st with | .Assign [et] ee _ => tgNo et && isG ci tg et && noStar et && isE ci e ee && noComp ee && noPar ee | _ => false) = true := h
    split at h
    · simp only [Bool.and_eq_true] at h
      obtain ⟨⟨⟨⟨⟨h1, h2⟩, h3⟩, h4⟩, h5⟩, h6⟩ := h
      exact ss_asg O (ps_asg pe_w pg_w (swaps_sole h5) (swapped_none h6 _) (stores_no h3)) (gE e O h4).ev (snd_g O h2)
    · cases h
  | .par i j o1 o2 a b, st, h => by
    have h : (match (generalizing := false) st with | .Assign [.Tuple [.Name x px, .Name y py] kt pt] (.Tuple [ea, eb] k2 pt2) _ => noStar ea && noStar eb && ((lclB ci i x && lclB ci j y && !(i == j) && parB [.Name x px, .Name y py] [ea, eb]) || (nmB ci i x && nmB ci j y && (celB ci x || celB ci y))) && isE ci a ea && isE ci b eb | _ => false) = true := h
    split at h
    · obtain ⟨h, h8⟩ := Bool.and_eq_true_iff.mp h
      obtain ⟨h, h7⟩ := Bool.and_eq_true_iff.mp h
      obtain ⟨h, hh⟩ := Bool.and_eq_true_iff.mp h
      obtain ⟨h4, h5⟩ := Bool.and_eq_true_iff.mp h
      have hh := Bool.or_eq_true_iff.mp hh
      rcases hh with hh | hh
      rotate_left
      · simp only [Bool.and_eq_true, Bool.or_eq_true] at hh
        obtain ⟨⟨h1, h2⟩, h3⟩ := hh
        obtain ⟨n1, l1, f1⟩ := nm_b O h1
        obtain ⟨n2, l2, f2⟩ := nm_b O h2
        exact ss_parT O (ps_asg (pe_tup (pa_cons pe_w (pa_cons pe_w pa_nil (star_of h5)) (star_of h4))) (pg_tup O.calm (pgs_cons (pg_name O.nd n1 l1 f1) (pgs_cons (pg_name O.nd n2 l2 f2) pgs_nil))) rfl
          (swapped_cell2 O (h3.imp (fun q => by rw [O.sc]; exact of_decide_eq_true q) fun q => by rw [O.sc]; exact of_decide_eq_true q)) rfl) (gE a O h7).ev (gE b O h8).ev
      simp only [Bool.and_eq_true, Bool.not_eq_true'] at hh
      obtain ⟨⟨⟨h1, h2⟩, h3⟩, h6⟩ := hh
      obtain ⟨n1, l1⟩ := lcl_b O h1
      obtain ⟨n2, l2⟩ := lcl_b O h2
      exact ss_par O (ps_par O.calm O.nd n1 n2 (by simpa using h3) l1 l2 (pa_cons pe_w (pa_cons pe_w pa_nil (star_of h5)) (star_of h4)) (swapped_two O l1 l2 (nm_ne O.nd n1 n2 h3) h4 h5 h6)) rfl (gE a O h7).ev (gE b O h8).ev
    · cases h
  | .par3 i j l o1 o2 o3 a b c, st, h => by
    have h : (match (generalizing := false) st with | .Assign [.Tuple [.Name x px, .Name y py, .Name z pz] kt pt] (.Tuple [ea, eb, ec] k2 pt2) _ => noStar ea && noStar eb && noStar ec && ((lclB ci i x && lclB ci j y && lclB ci l z && !(i == j) && !(i == l) && !(j == l) && parB [.Name x px, .Name y py, .Name z pz] [ea, eb, ec]) || (nmB ci i x && nmB ci j y && nmB ci l z && (celB ci x || celB ci y || celB ci z))) && isE ci a ea && isE ci b eb && isE ci c ec | _ => false) = true := h
    split at h
    · obtain ⟨h, h13⟩ := Bool.and_eq_true_iff.mp h
      obtain ⟨h, h12⟩ := Bool.and_eq_true_iff.mp h
      obtain ⟨h, h11⟩ := Bool.and_eq_true_iff.mp h
      obtain ⟨h, hh⟩ := Bool.and_eq_true_iff.mp h
      obtain ⟨h, h9⟩ := Bool.and_eq_true_iff.mp h
      obtain ⟨h7, h8⟩ := Bool.and_eq_true_iff.mp h
      have hh := Bool.or_eq_true_iff.mp hh
      rcases hh with hh | hh
      rotate_left
      · simp only [Bool.and_eq_true, Bool.or_eq_true] at hh
        obtain ⟨⟨⟨h1, h2⟩, h3⟩, h4⟩ := hh
        obtain ⟨n1, l1, f1⟩ := nm_b O h1
        obtain ⟨n2, l2, f2⟩ := nm_b O h2
        obtain ⟨n3, l3, f3⟩ := nm_b O h3
        have hc : ∀ {x : Str}, celB ci x = true → X.env.scope.names.lookup x = some .cell := fun q => by rw [O.sc]; exact of_decide_eq_true q
        exact ss_par3T O (ps_asg (pe_tup (pa_cons pe_w (pa_cons pe_w (pa_cons pe_w pa_nil (star_of h9)) (star_of h8)) (star_of h7))) (pg_tup O.calm (pgs_cons (pg_name O.nd n1 l1 f1) (pgs_cons (pg_name O.nd n2 l2 f2) (pgs_cons (pg_name O.nd n3 l3 f3) pgs_nil)))) rfl
          (swapped_cell3 O (h4.elim (fun q => q.elim (fun q => .inl (hc q)) fun q => .inr (.inl (hc q))) fun q => .inr (.inr (hc q)))) rfl) (gE a O h11).ev (gE b O h12).ev (gE c O h13).ev
      simp only [Bool.and_eq_true, Bool.not_eq_true'] at hh
      obtain ⟨⟨⟨⟨⟨⟨h1, h2⟩, h3⟩, h4⟩, h5⟩, h6⟩, h10⟩ := hh
      obtain ⟨n1, l1⟩ := lcl_b O h1
      obtain ⟨n2, l2⟩ := lcl_b O h2
      obtain ⟨n3, l3⟩ := lcl_b O h3
      exact ss_par3 O (ps_par3 O.calm O.nd n1 n2 n3 (by simpa using h4) (by simpa using h5) (by simpa using h6) l1 l2 l3 (pa_cons pe_w (pa_cons pe_w (pa_cons pe_w pa_nil (star_of h9)) (star_of h8)) (star_of h7))
        (swapped_three O l1 l2 l3 (nm_ne O.nd n1 n2 h4) (nm_ne O.nd n1 n3 h5) (nm_ne O.nd n2 n3 h6) h7 h8 h9 h10)) rfl (gE a O h11).ev (gE b O h12).ev (gE c O h13).ev
    · cases h
  | .setix i ix e, st, h => by
    have h : (match (generalizing := false) st with | .Assign [.Subscript (.Name x p) eix _] ee _ => isE ci (.var i) (.Name x p) && plainIx eix && isE ci ix eix && isE ci e ee && noComp ee && noPar ee | _ => false) = true := h
    split at h
    · simp only [Bool.and_eq_true] at h
      obtain ⟨⟨⟨⟨⟨h1, h2⟩, h3⟩, h4⟩, h5⟩, h6⟩ := h
      refine ss_setix O h1 (ps_asg pe_w (pg_sub pe_w pe_w set_list ?_) (swaps_sole h5) (swapped_none h6 _) rfl) (gE e O h4).ev (gE ix O h3).b
      exact sub_as h2
    · cases h
  | .aug i sub e, st, h => by
    have h : (match (generalizing := false) st with | .AugAssign (.Name x _) op ee _ => nmB ci i x && decide (op = if sub then .Sub else .Add) && isE ci e ee | _ => false) = true := h
    split at h
    · simp only [Bool.and_eq_true, decide_eq_true_eq] at h
      obtain ⟨⟨h1, rfl⟩, h3⟩ := h
      obtain ⟨n1, n2, n3⟩ := nm_b O h1
      cases sub with
      | true => exact ss_aug O (ps_aug O.nd n1 n2 pe_w ip_sub n3) (gE e O h3).b
      | false => exact ss_aug O (ps_aug O.nd n1 n2 pe_w ip_add n3) (gE e O h3).b
    · cases h
  | .augIx i ix sub e, st, h => by
    have h : (match (generalizing := false) st with | .AugAssign (.Subscript (.Name x p) eix _) op ee _ => isE ci (.var i) (.Name x p) && plainIx eix && isE ci ix eix && decide (op = if sub then .Sub else .Add) && isE ci e ee | _ => false) = true := h
    split at h
    · simp only [Bool.and_eq_true, decide_eq_true_eq] at h
      obtain ⟨⟨⟨⟨h1, h2⟩, h3⟩, rfl⟩, h4⟩ := h
      cases sub with
      | true => exact ss_augIx O h1 (ps_augS pe_w pe_w get_list pe_w ip_sub set_list (aug_st h2)) (gE ix O h3).b (gE e O h4).b
      | false => exact ss_augIx O h1 (ps_augS pe_w pe_w get_list pe_w ip_add set_list (aug_st h2)) (gE ix O h3).b (gE e O h4).b
    · cases h
  | .app i e, st, h => by
    have h : (match (generalizing := false) st with | .Expr (.Call (.Attribute (.Name x p) m apos) [ee] [] cpos) _ => isE ci (.var i) (.Name x p) && decide (m = ("append" : Str)) && (apos.endLine == cpos.line) && noStar ee && isE ci e ee | _ => false) = true := h
    split at h
    · simp only [Bool.and_eq_true, decide_eq_true_eq] at h
      obtain ⟨⟨⟨⟨h1, rfl⟩, h2⟩, h3⟩, h4⟩ := h
      refine ss_app O h1 (ps_expr (pe_bm PySem.F.plainAttrs_list PySem.F.slot_list_append PySem.F.type_list_append mt_append pe_w (pa_cons pe_w pa_nil (star_of h3)) rfl (by rw [star_of h3]; rfl) h2 (star_of h3) rfl)) (gE e O h4).ev
    · cases h
  | .ext i e, st, h => by
    have h : (match (generalizing := false) st with | .Expr (.Call (.Attribute (.Name x p) m apos) [ee] [] cpos) _ => isE ci (.var i) (.Name x p) && decide (m = ("extend" : Str)) && (apos.endLine == cpos.line) && noStar ee && isE ci e ee | _ => false) = true := h
    split at h
    · simp only [Bool.and_eq_true, decide_eq_true_eq] at h
      obtain ⟨⟨⟨⟨h1, rfl⟩, h2⟩, h3⟩, h4⟩ := h
      refine ss_ext O h1 (ps_expr (pe_bm PySem.F.plainAttrs_list PySem.F.slot_list_extend PySem.F.type_list_extend mt_extend pe_w (pa_cons pe_w pa_nil (star_of h3)) rfl (by rw [star_of h3]; rfl) h2 (star_of h3) rfl)) (gE e O h4).ev
    · cases h
  | .expr e, st, h => by
    have h : (match (generalizing := false) st with | .Expr ee _ => noComp ee && isE ci e ee | _ => false) = true := h
    split at h
    · rw [Bool.and_eq_true] at h
      exact ss_expr O (ps_expr pe_w (swaps_false h.1)) (gE e O h.2).ev
    · cases h
  | .ret e, st, h => by
    have h : (match (generalizing := false) st with | .Return (some ee) _ => isE ci e ee | _ => false) = true := h
    split at h
    · exact ss_ret O (ps_ret pe_w) (gE e O h).ev
    · cases h
  | .retO i, st, h => by
    have h : (match (generalizing := false) st with | .Return (some (.Name x p)) _ => isE ci (.var i) (.Name x p) | _ => false) = true := h
    split at h
    · exact ss_retO O h (ps_ret pe_w)
    · cases h
  | .retN, st, h => by
    have h : (match (generalizing := false) st with | .Return none _ => true | _ => false) = true := h
    split at h
    · exact ss_retN ps_retN
    · cases h
  | .ife c a b, st, h => by
    have h : (match (generalizing := false) st with | .If ec sa sb _ => tst c && isE ci c ec && isBk ci a sa && isBk ci b sb | _ => false) = true := h
    split at h
    · simp only [Bool.and_eq_true] at h
      obtain ⟨⟨⟨ht, h1⟩, h2⟩, h3⟩ := h
      exact ss_ife ((gE c O h1).t ht) (gB hp O a h2) (gB hp O b h3)
    · cases h
  | .for_ tg it body, st, h => by
    have h : (match (generalizing := false) st with | .For et ei sb [] _ => isI ci it ei (isTup et) && noSet ei && isG ci tg et && isBk ci body sb | _ => false) = true := h
    split at h
    · simp only [Bool.and_eq_true] at h
      obtain ⟨⟨⟨h1, h2⟩, h3⟩, h4⟩ := h
      exact ss_for (ps_for hp O.calm pi_w pg_w pss_w fun x => set_of h2) (gI it O h1) (snd_g O h3) (gB hp O body h4)
    · cases h
  | .while_ n c body, st, h => by
    have h : (match (generalizing := false) st with | .While ec sb [] _ => tst c && isE ci c ec && isBk ci body sb | _ => false) = true := h
    split at h
    · simp only [Bool.and_eq_true] at h
      obtain ⟨⟨ht, h1⟩, h2⟩ := h
      exact ss_while (ps_while hp pt_w pss_w) ((gE c O h1).t ht) (gB hp O body h2)
    · cases h
  | .brk, st, h => by
    have h : (match (generalizing := false) st with | .Break _ => true | _ => false) = true := h
    split at h
    · intro F0 B ρ σ F H o D R e k
      cases e
      exact wS_of ps_break (k σ F H R (Same.refl _))
    · cases h
  | .cont, st, h => by
    have h : (match (generalizing := false) st with | .Continue _ => true | _ => false) = true := h
    split at h
    · intro F0 B ρ σ F H o D R e k
      cases e
      exact wS_of ps_continue (k σ F H R (Same.refl _))
    · cases h
  | .dnew i, st, h => by
    have h : (match (generalizing := false) st with | .Assign [.Name x py] (.Dict [] [] _) _ => nmB ci i x | _ => false) = true := h
    split at h
    · obtain ⟨n1, n2, n3⟩ := nm_b O h
      exact ss_dnew O (ps_asg pe_dnewK (pg_name O.nd n1 n2 n3) (swaps_sole rfl) (swapped_none rfl _) rfl)
    · cases h
  | .dset i k e, st, h => by
    have h : (match (generalizing := false) st with | .Assign [.Subscript (.Name x p) ek _] ee _ => rdB ci i x && isE ci k ek && isE ci e ee && noComp ee | _ => false) = true := h
    split at h
    · simp only [Bool.and_eq_true] at h
      obtain ⟨⟨⟨h1, h2⟩, h3⟩, h4⟩ := h
      exact ss_dset O h1 (ps_dput (by have := O.hu; omega) pe_w pe_w pe_w (swaps_false h4)) (gE e O h3).ev (gE k O h2).b
    · cases h
  | .rse, st, h => ss_rse
  | .pass, st, h => by
    have h : (match (generalizing := false) st with | .Pass _ => true | _ => false) = true := h
    split at h
    · intro F0 B ρ σ F H o D R e k
      cases e
      exact wS_of ps_pass (k σ F H R (Same.refl _))
    · cases h
theorem gB (hp : PassesOwn (model X.prog X.w) X.A X.env X.xe) (O : Ok X ci C G) : ∀ (t : Tb) {sts : List Stmt}, isBk ci t sts = true → SndSs X sts (evB C G t)
  | .nil, [], h => by
    intro F0 B ρ σ F H o D R e k
    cases e
    exact wSs_of pss_nil (k σ F H R (Same.refl _))
  | .nil, _ :: _, h => by cases h
  | .cons s r, [], h => by cases h
  | .cons s r, st :: sts, h => by
    have h : (isS ci s st && isBk ci r sts) = true := h
    rw [Bool.and_eq_true] at h
    intro F0 B ρ σ F H o D R e k
    obtain ⟨o1, e1, e⟩ := bind_some e
    refine wSs_of (pss_cons ps_w pss_w) (gS hp O s h.1 F0 B ρ σ F H o1 _ R e1 ?_)
    cases o1 with
    | nx ρ1 => exact fun σ' F' H' R' q => gB hp O r h.2 F0 B ρ1 σ' F' H' o D R' e (k.up q)
    | bk ρ1 => cases e; exact k
    | ct ρ1 => cases e; exact k
    | rt v => cases e; exact k
  | .frz i r, sts, h => by
    intro F0 B ρ σ F H o D R e k
    have e : evB C G r (frzE ρ i) = some o := e
    have h : isBk ci r sts = true := h
    unfold frzE at e
    split at e
    · rename_i ds eo
      obtain ⟨F', sm, R'⟩ := R.frz eo
      exact gB hp O r h F0 B _ σ F' H o D R' e (k.up sm)
    · exact gB hp O r h F0 B ρ σ F H o D R e k
  | .fgt i r, sts, h => by
    intro F0 B ρ σ F H o D R e k
    exact gB hp O r h F0 B _ σ F H o D (R.forget i) e k
end
end
end Pz
set_option Elab.async false
set_option linter.all false
set_option maxRecDepth 100000
set_option maxHeartbeats 2000000
/-! Pz: defs, calls, the law. -/
namespace Pz
open PySem PySem.Spec PyProof.Rows L2

/-- a def of the text: its name, its parameters, its names, its body in the own syntax, its text -/
structure DefR where
  name : Str
  ps : List Str
  N : List Str
  body : Tb
  st : Stmt
  /-- names that an import binds to a built-in -/
  im : List (Str × String)
def DefR.ci (d : DefR) : CI := ⟨d.N, defScope d.st, fun _ => true, d.im⟩
def DefR.chk (d : DefR) : Bool :=
  decide ((defScope d.st).kind = .function) && !(defScope d.st).isCoroutine && !(defScope d.st).isGenerator && decide d.N.Nodup && decide (d.N.take d.ps.length = d.ps) &&
  (d.ps.all fun x => locB d.ci x) && ((defScope d.st).names.all fun y => decide (y.2 ≠ .free)) && isBk d.ci d.body (defBody d.st)
theorem DefR.scope {d : DefR} (h : d.chk = true) : FnScope d.N d.ps (defScope d.st) ∧ isBk d.ci d.body (defBody d.st) = true := by
  unfold DefR.chk at h
  simp only [Bool.and_eq_true, decide_eq_true_eq, Bool.not_eq_true', List.all_eq_true] at h
  obtain ⟨⟨⟨⟨⟨⟨⟨h1, h2⟩, h3⟩, h4⟩, h5⟩, h6⟩, h7⟩, h8⟩ := h
  refine ⟨⟨h1, h2, h3, h4, h5, fun x hx => ?_, h7⟩, h8⟩
  have := h6 x hx
  unfold locB knd at this
  have e : (DefR.ci d).sc = defScope d.st := rfl
  rw [e] at this
  split at this <;> simp_all
def init (N : List Str) (vs : List PV) : En := vs.map .val ++ List.replicate (N.length - vs.length) .no
def outR : Option Out → Option RV
  | some (.rt r) => some r
  | some (.nx _) => some ⟨.none, false⟩
  | _ => none
section
variable (G : Str → Option PV) (tbl : List DefR)
/-- what a call gives, k calls deep -/
def callF : Nat → Str → List PV → Option RV
  | 0, _, _ => none
  | k + 1, f, vs => match tbl.find? (fun d => d.name == f) with
    | some d => if vs.length = d.ps.length then outR (evB (callF k) G d.body (init d.N vs)) else none
    | none => none
end
/-- a def's promise -/
def spF (K : PySem.W.Frag) (C : Str → List PV → Option RV) (f : Str) : Sp := fun ws H Q _ => ∃ (F : Hp) (vs : List PV) (r : RV), Same F H ∧ DpAll K F ws vs ∧ C f vs = some r ∧ ∀ v F' H', Step F H F' H' → RepR K H F' H' r v → Q v H'
structure DefIn (K : PySem.W.Frag) (mg : Str → Option Value) (d : DefR) (a : Addr) (fd : FuncData) : Prop where
  fn : Fun K d.name d.name d.st a fd
  mg : mg d.name = some (.ref a)
  bd : Binds K fd d.ps []
theorem find_name {tbl : List DefR} {f : Str} {d : DefR} (h : tbl.find? (fun d => d.name == f) = some d) : d ∈ tbl ∧ d.name = f :=
  ⟨List.mem_of_find?_eq_some h, by have := List.find?_some h; exact beq_iff_eq.mp this⟩
theorem dpAll_val {K : PySem.W.Frag} {F : Hp} : ∀ {ws : List V} {vs : List PV} {i : Nat} {v : PV} {r : List Sl} {r2 : List (Option V)}, DpAll K F ws vs → (∀ j : Nat, r[j]? = some (Sl.val v) → False) → (vs.map Sl.val ++ r)[i]? = some (.val v) → ∃ x, (ws.map some ++ r2)[i]? = some (some x) ∧ Dp K F x v
  | _, _, i, v, r, r2, .nil, h, e => (h i (by simpa using e)).elim
  | _, _, 0, v, r, r2, .cons d _, h, e => by cases e; exact ⟨_, rfl, d⟩
  | _, _, i + 1, v, r, r2, .cons _ ds, h, e => dpAll_val (i := i) ds h (by simpa using e)
theorem rel_init {K : PySem.W.Frag} {F H : Hp} {N : List Str} {ws : List V} {vs : List PV} (le : Same F H) (d : DpAll K F ws vs) : Rel K F H (init N vs) (L2.start N ws) F H := by
  refine ⟨le, ?_, fun i v e => ?_, fun i ds e => ?_, fun i j ds es a e => ?_, Step.rfl' le⟩
  · unfold init L2.start
    rw [List.length_append, List.length_append, List.length_map, List.length_map, List.length_replicate, List.length_replicate, dpAll_len d]
  · exact dpAll_val d (fun j h => by
      obtain ⟨h1, h2⟩ := List.getElem?_eq_some_iff.mp h
      rw [List.getElem_replicate] at h2; cases h2) e
  all_goals
    exfalso
    unfold init at e
    by_cases hi : i < (vs.map Sl.val).length
    · rw [List.getElem?_append_left hi, List.getElem?_map] at e
      obtain ⟨_, _, e⟩ := Option.map_eq_some_iff.mp e
      cases e
    · rw [List.getElem?_append_right (by omega)] at e
      obtain ⟨h1, h2⟩ := List.getElem?_eq_some_iff.mp e
      rw [List.getElem_replicate] at h2; cases h2
section
variable {P : Program} {w : World} {K : PySem.W.Frag} {mg : Str → Option Value} {base : Heap} {G : Str → Option PV} {tbl : List DefR}
theorem fn_all (hG : ∀ x v, G x = some v → ∃ u y, mg x = some u ∧ RelV y u ∧ ∀ F : Hp, Dp K F y v) (hB : ∀ x ∈ bltNames, mg x = none) (hD : ∀ d ∈ tbl, d.chk = true ∧ ∃ a fd, DefIn K mg d a fd) (hI : ∀ d ∈ tbl, ∀ p ∈ d.im, mg p.1 = some (.builtin p.2)) :
    ∀ (k : Nat) (f : Str) (d : DefR), tbl.find? (fun d => d.name == f) = some d → ∀ a fd, DefIn K mg d a fd → FnOk P w K mg base CX0 k a fd d.ps (spF K (callF G tbl k) f)
  | 0, f, d, hf, a, fd, I => ⟨fun vs H Q E ⟨_, _, _, _, _, e, _⟩ => (by cases e), fun A outer s H args us vs Q E _ _ _ _ ⟨_, _, _, _, _, e, _⟩ => (by cases e)⟩
  | k + 1, f, d, hf, a, fd, I => by
    obtain ⟨hm, hn⟩ := find_name hf
    obtain ⟨hc, _⟩ := hD d hm
    obtain ⟨hs, hb⟩ := DefR.scope hc
    have call : ∀ {vs : List PV} {r : RV}, callF G tbl (k + 1) f vs = some r → vs.length = d.ps.length ∧ outR (evB (callF G tbl k) G d.body (init d.N vs)) = some r := fun {vs r} e => by
      have e : (match tbl.find? (fun d => d.name == f) with
        | some d => if vs.length = d.ps.length then outR (evB (callF G tbl k) G d.body (init d.N vs)) else none
        | none => none) = some r := e
      rw [hf] at e
      have e : (if vs.length = d.ps.length then outR (evB (callF G tbl k) G d.body (init d.N vs)) else none) = some r := e
      split at e
      · exact ⟨by assumption, e⟩
      · cases e
    refine I.fn.ok hs (fun ws H Q E ⟨F, vs, r, le, dd, e, q⟩ => ?_) (fun cdv A outer s H ws Q E hr ⟨F, vs, r, le, dd, e, q⟩ => ?_)
    · rw [dpAll_len dd]; exact (call e).1
    · have O : Ok (cxOf CX0 P w K mg base d.N d.name (defScope d.st) a cdv A outer s H E).nox d.ci (callF G tbl k) G :=
        { N := rfl, sc := rfl, fk := hs.kind, nd := hs.nd, calm := rfl, hd := hr.hd, hu := by have := hr.un; show (A.deeper _).units + 100 < cLine; omega, st := fun _ _ => .inl rfl, glob := hG, blt := hB, im := hI d hm,
          call := fun g ⟨us, r', eg⟩ => by
            cases k with
            | zero => cases eg
            | succ k =>
              cases eg' : tbl.find? (fun d => d.name == g) with
              | none =>
                have e : (match tbl.find? (fun d => d.name == g) with
                  | some d => if us.length = d.ps.length then outR (evB (callF G tbl k) G d.body (init d.N us)) else none
                  | none => none) = some r' := eg
                rw [eg'] at e; cases e
              | some d2 =>
                obtain ⟨hm2, hn2⟩ := find_name eg'
                obtain ⟨hc2, a2, fd2, I2⟩ := hD d2 hm2
                refine ⟨k + 1, a2, fd2, d2.ps, _, fn_all hG hB hD hI (k + 1) g d2 eg' a2 fd2 I2, hr, by rw [← hn2]; exact I2.mg, I2.fn.kp, I2.bd, fun vs r ws F H Q e le dd q => ⟨F, vs, r, le, dd, e, q⟩⟩ }
      refine ⟨_, pss_w, ?_⟩
      have R := rel_init (N := d.N) le dd
      have eo := (call e).2
      cases eb : evB (callF G tbl k) G d.body (init d.N vs) with
      | none => rw [eb] at eo; cases eo
      | some o =>
        rw [eb] at eo
        refine gB PassesOwn.never O d.body hb F H _ _ F H o _ R eb ?_
        cases o with
        | rt r1 => cases eo; exact q
        | nx ρ => cases eo; exact fun σ' F' H' R' _ => q .non F' H' R'.go (.of .non)
        | bk ρ => cases eo
        | ct ρ => cases eo
end
theorem dp_ints {K : PySem.W.Frag} {F : Hp} : ∀ ns : List Int, DpAll K F (ns.map V.int) (ns.map .int)
  | [] => .nil
  | n :: r => .cons (.int n) (dp_ints r)
/-- the law's own call -/
theorem law_sp {G : Str → Option PV} {tbl : List DefR} {k n : Nat} (h : ∀ ns : List Int, ns.length ≤ n → callF G tbl k "law" [.list (ns.map .int)] = some ⟨.bool true, false⟩)
    (K : PySem.W.Frag) (H : Hp) (a : Addr) (ns : List Int) (hl : ns.length ≤ n) (hS : SqL K H a (ns.map V.int)) : spF K (callF G tbl k) "law" [.ref a] H (fun v _ => v = .bl true) fun _ _ _ => False :=
  ⟨H, [.list (ns.map .int)], ⟨.bool true, false⟩, Same.refl _, .cons (.lst hS (dp_ints ns)) .nil, h ns hl, fun v F' H' _ rp => by have d := rp.va; cases d; rfl⟩
end Pz
namespace Pz
open PySem PySem.Spec PyProof.Rows L2
/-- what the head tells of a def -/
theorem defIn_mk {K : PySem.W.Frag} {h : Heap} {mg : Str → Option Value} (X : K.In h) (G : h.Ns mainGlobals mg) {d : DefR} {f : Addr} {oc : Value} {od an : Option Addr} {sl : Array (Option Value)} {kV dc pm cd ct : Value}
    (a1 : PySem.W.nsIn K mainGlobals d.name = some (some (.ref f))) (l1 : K.lookup f = some ⟨oc, od, .func (PySem.W.fnOf d.name d.name (defArgs d.st) (defBody d.st) (defScope d.st) .none kV dc pm an cd ct), sl⟩) (c1 : PySem.W.codeIn K cd d.name = true) (k1 : PySem.W.keepIn K (.ref f) = true)
    (hb : ∀ (kV doc pm : Value) (an : Option Addr) (cdv ct : Value) (us : List Value), us.length = d.ps.length → bindArgs (PySem.W.fnOf d.name d.name (defArgs d.st) (defBody d.st) (defScope d.st) .none kV doc pm an cdv ct) ⟨us, []⟩ = pure (d.ps.zip us)) :
    ∃ a fd, DefIn K mg d a fd := ⟨_, _, fun_mk l1 c1 k1, PySem.W.mg_of X G a1, (fun_mk l1 c1 k1).binds hb⟩
end Pz
set_option Elab.async false
set_option linter.all false
set_option maxRecDepth 100000
/-! Pz: words for plain laws. -/
namespace Pz
open PySem
section
variable {G : Str → Option PV} {tbl : List DefR}
theorem call_eq {k : Nat} {f : Str} {vs : List PV} {d : DefR} (h : tbl.find? (fun d => d.name == f) = some d) (hl : vs.length = d.ps.length) : callF G tbl (k + 1) f vs = outR (evB (callF G tbl k) G d.body (init d.N vs)) := by
  show (match tbl.find? (fun d => d.name == f) with
    | some d => if vs.length = d.ps.length then outR (evB (callF G tbl k) G d.body (init d.N vs)) else none
    | none => none) = _
  rw [h]; exact if_pos hl
end
theorem compL_flat {α : Type} {f : PV → Option (List PV)} {e : α → PV} {g : α → List PV} : ∀ {xs : List α}, (∀ x ∈ xs, f (e x) = some (g x)) → compL f (xs.map e) = some (xs.flatMap g)
  | [], _ => rfl
  | x :: r, h => by
    show (do let y ← f (e x); let ys ← compL f (r.map e); some (y ++ ys)) = _
    rw [h x List.mem_cons_self, compL_flat (xs := r) fun y hy => h y (List.mem_cons_of_mem _ hy)]
    rfl
theorem compL_map {α : Type} {f : PV → Option (List PV)} {e g : α → PV} {xs : List α} (h : ∀ x ∈ xs, f (e x) = some [g x]) : compL f (xs.map e) = some (xs.map g) := by
  rw [compL_flat (g := fun x => [g x]) h]
  congr 1
  induction xs with
  | nil => rfl
  | cons x r ih => rw [List.flatMap_cons, ih fun y hy => h y (List.mem_cons_of_mem _ hy)]; rfl
theorem compL_filter {α : Type} {f : PV → Option (List PV)} {e g : α → PV} {p : α → Bool} {xs : List α} (h : ∀ x ∈ xs, f (e x) = some (if p x then [g x] else [])) : compL f (xs.map e) = some ((xs.filter p).map g) := by
  rw [compL_flat (g := fun x => if p x then [g x] else []) h]
  congr 1
  induction xs with
  | nil => rfl
  | cons x r ih =>
    rw [List.flatMap_cons, ih fun y hy => h y (List.mem_cons_of_mem _ hy), List.filter_cons]
    cases p x <;> rfl
/-- one pass of a loop's body: the next state, or the result -/
def turnsR {α β : Type} (step : β → α → β ⊕ RV) : List α → β → β ⊕ RV
  | [], b => .inl b
  | x :: r, b => match step b x with
    | .inl b' => turnsR step r b'
    | .inr v => .inr v
def outOf {β : Type} (st : β → En) : β ⊕ RV → Out
  | .inl b => .nx (st b)
  | .inr v => .rt v
/-- a for loop by its turns: st writes the state, I holds ahead of turn i -/
theorem loopF_turns {α β : Type} {body : En → Option Out} {tg : Tg} {e : α → PV} {st : β → En} {step : β → α → β ⊕ RV} {I : Nat → β → Prop} : ∀ {xs : List α} {i : Nat} {b : β}, I i b →
    (∀ (j : Nat) (x : α) (b : β), xs[j]? = some x → I (i + j) b → (∃ ρ1, asg tg (e x) (st b) = some ρ1 ∧ (body ρ1 = some (outOf st (step b x)) ∨ ∃ b', step b x = .inl b' ∧ body ρ1 = some (.ct (st b')))) ∧ ∀ b', step b x = .inl b' → I (i + j + 1) b') →
    loopF body tg (xs.map e) (st b) = some (outOf st (turnsR step xs b)) ∧ ∀ b', turnsR step xs b = .inl b' → I (i + xs.length) b'
  | [], i, b, hI, _ => ⟨rfl, fun b' h => by cases h; exact hI⟩
  | x :: r, i, b, hI, h => by
    obtain ⟨⟨ρ1, e1, e2⟩, h2⟩ := h 0 x b rfl hI
    have rest : ∀ b', step b x = .inl b' → loopF body tg (r.map e) (st b') = some (outOf st (turnsR step r b')) ∧ ∀ b'', turnsR step r b' = .inl b'' → I (i + (x :: r).length) b'' := fun b' hb => by
      have := loopF_turns (xs := r) (i := i + 1) (b := b') (I := I) (h2 b' hb) fun j y c hy hc => by
        have := h (j + 1) y c (by simpa using hy) (by rw [← Nat.add_assoc, Nat.add_right_comm]; exact hc)
        rw [show i + (j + 1) + 1 = i + 1 + j + 1 by omega] at this
        exact this
      rw [List.length_cons, show i + (r.length + 1) = i + 1 + r.length by omega]
      exact this
    have u1 : loopF body tg ((x :: r).map e) (st b) = (do match ← body ρ1 with | .nx ρ2 => loopF body tg (r.map e) ρ2 | .ct ρ2 => loopF body tg (r.map e) ρ2 | .bk ρ2 => some (.nx ρ2) | .rt v => some (.rt v)) := by
      show (do let ρ1 ← asg tg (e x) (st b); match ← body ρ1 with | .nx ρ2 => loopF body tg (r.map e) ρ2 | .ct ρ2 => loopF body tg (r.map e) ρ2 | .bk ρ2 => some (.nx ρ2) | .rt v => some (.rt v)) = _
      rw [e1]; rfl
    rw [u1]
    cases hs : step b x with
    | inl b' =>
      obtain ⟨r1, r2⟩ := rest b' hs
      have u2 : turnsR step (x :: r) b = turnsR step r b' := by
        show (match step b x with | .inl b' => turnsR step r b' | .inr v => .inr v) = _
        rw [hs]
      rw [u2]
      refine ⟨?_, r2⟩
      rcases e2 with e2 | ⟨b2, e3, e2⟩
      · rw [e2, hs]; exact r1
      · rw [hs] at e3; cases e3
        rw [e2]; exact r1
    | inr v =>
      have u2 : turnsR step (x :: r) b = .inr v := by
        show (match step b x with | .inl b' => turnsR step r b' | .inr v => .inr v) = _
        rw [hs]
      rw [u2]
      refine ⟨?_, fun b' h => by cases h⟩
      rcases e2 with e2 | ⟨b2, e3, e2⟩
      · rw [e2, hs]; rfl
      · rw [hs] at e3; cases e3
theorem ixOf_nat {n i : Nat} (h : i < n) : ixOf n (i : Int) = some i := by
  unfold ixOf
  rw [if_pos (by omega), if_pos (by omega)]; rfl
theorem ixOf_int {n : Nat} {i : Int} (h0 : 0 ≤ i) (h : i < n) : ixOf n i = some i.toNat := by
  unfold ixOf
  rw [if_pos h0, if_pos h]
/-! ### operators, by shapes -/
section
variable {a b : Int} {x y : List PV}
@[simp] theorem bin_add : evBin .add (.int a) (.int b) = some ⟨.int (a + b), false⟩ := rfl
@[simp] theorem bin_sub : evBin .sub (.int a) (.int b) = some ⟨.int (a - b), false⟩ := rfl
@[simp] theorem bin_cat (h : x.length + y.length ≤ LIM) : evBin .add (.tuple x) (.tuple y) = some ⟨.tuple (x ++ y), false⟩ := if_pos h
@[simp] theorem bin_catL (h : x.length + y.length ≤ LIM) : evBin .add (.list x) (.list y) = some ⟨.list (x ++ y), true⟩ := if_pos h
theorem bin_mul (h : a.natAbs < 18446744073709551616 ∨ b.natAbs < 18446744073709551616) : evBin .mul (.int a) (.int b) = some ⟨.int (a * b), false⟩ := by
  show (if a.natAbs < 18446744073709551616 || b.natAbs < 18446744073709551616 then some (⟨.int (a * b), false⟩ : RV) else none) = _
  rw [if_pos (by simpa using h)]
@[simp] theorem bin_mulR (h : b.natAbs < 18446744073709551616) : evBin .mul (.int a) (.int b) = some ⟨.int (a * b), false⟩ := bin_mul (.inr h)
theorem bin_mulL (h : a.natAbs < 18446744073709551616) : evBin .mul (.int a) (.int b) = some ⟨.int (a * b), false⟩ := bin_mul (.inl h)
@[simp] theorem bin_repL (h : 0 ≤ b) (h1 : b ≤ 1000) (h2 : x.length ≤ 1000) : evBin .mul (.list x) (.int b) = some ⟨.list (List.replicate b.toNat x).flatten, true⟩ := by
  unfold evBin
  simp [h, h1, h2]
@[simp] theorem bin_repT (h : 1 ≤ b) (h1 : b ≤ 1000) (h2 : x.length ≤ 1000) (h3 : x ≠ []) : evBin .mul (.tuple x) (.int b) = some ⟨.tuple (List.replicate b.toNat x).flatten, false⟩ := by
  unfold evBin
  simp [h, h1, h2, h3]
@[simp] theorem bin_fdiv (h : 0 < b) (h2 : b < 1073741824) : evBin .fdiv (.int a) (.int b) = some ⟨.int (a / b), false⟩ := by
  show (if 0 < b && decide (b < 1073741824) then some (⟨.int (a / b), false⟩ : RV) else none) = _
  rw [if_pos (by simp [h, h2])]
@[simp] theorem bin_mod (h : 0 < b) : evBin .mod (.int a) (.int b) = some ⟨.int (a % b), false⟩ := if_pos h
@[simp] theorem bin_pow (h : 0 ≤ b) (h2 : b ≤ 100000) (h3 : a.natAbs < 18446744073709551616) : evBin .pow (.int a) (.int b) = some ⟨.int (a ^ b.toNat), false⟩ := by
  show (if 0 ≤ b && b ≤ 100000 && a.natAbs < 18446744073709551616 then some (⟨.int (a ^ b.toNat), false⟩ : RV) else none) = _
  rw [if_pos (by simp [h, h2, h3])]
@[simp] theorem cmp_lt : evCmp .lt (.int a) (.int b) = some (decide (a < b)) := rfl
@[simp] theorem cmp_le : evCmp .le (.int a) (.int b) = some (decide (a ≤ b)) := rfl
@[simp] theorem cmp_gt : evCmp .gt (.int a) (.int b) = some (decide (b < a)) := rfl
@[simp] theorem cmp_ge : evCmp .ge (.int a) (.int b) = some (decide (b ≤ a)) := rfl
@[simp] theorem blt_lenL : evBlt .len [.list x] = some ⟨.int x.length, false⟩ := rfl
@[simp] theorem blt_lenT : evBlt .len [.tuple x] = some ⟨.int x.length, false⟩ := rfl
@[simp] theorem blt_int : evBlt .int [.int a] = some ⟨.int a, false⟩ := rfl
@[simp] theorem blt_intB {c : Bool} : evBlt .int [.bool c] = some ⟨.int (if c then 1 else 0), false⟩ := rfl
@[simp] theorem blt_tupL : evBlt .tuple [.list x] = some ⟨.tuple x, false⟩ := rfl
@[simp] theorem blt_tupT : evBlt .tuple [.tuple x] = some ⟨.tuple x, false⟩ := rfl
@[simp] theorem blt_lstL : evBlt .list [.list x] = some ⟨.list x, true⟩ := rfl
@[simp] theorem blt_lstT : evBlt .list [.tuple x] = some ⟨.list x, true⟩ := rfl
@[simp] theorem ix_list : evIdx (.list x) (.int a) = (ixOf x.length a).bind (x[·]?) := rfl
@[simp] theorem ix_tup : evIdx (.tuple x) (.int a) = (ixOf x.length a).bind (x[·]?) := rfl
@[simp] theorem ixOf_zero {n : Nat} : ixOf (n + 1) 0 = some 0 := ixOf_nat (i := 0) (by omega)
@[simp] theorem ixOf_one {n : Nat} : ixOf (n + 1 + 1) 1 = some 1 := ixOf_nat (i := 1) (by omega)
@[simp] theorem ixOf_two {n : Nat} : ixOf (n + 1 + 1 + 1) 2 = some 2 := ixOf_nat (i := 2) (by omega)
theorem intsO_map : ∀ ns : List Int, intsO (ns.map .int) = some ns
  | [] => rfl
  | n :: r => by show (intsO (r.map .int)).map (n :: ·) = _; rw [intsO_map r]; rfl
theorem boolsO_map : ∀ ns : List Bool, boolsO (ns.map .bool) = some ns
  | [] => rfl
  | n :: r => by show (boolsO (r.map .bool)).map (n :: ·) = _; rw [boolsO_map r]; rfl
@[simp] theorem blt_sum {ns : List Int} : evBlt .sum [.list (ns.map .int)] = some ⟨.int ns.sum, false⟩ := by
  show (intsO (ns.map .int)).map _ = _
  rw [intsO_map]; rfl
@[simp] theorem blt_sumTup {ns : List Int} : evBlt .sum [.tuple (ns.map .int)] = some ⟨.int ns.sum, false⟩ := by
  show (intsO (ns.map .int)).map _ = _
  rw [intsO_map]; rfl
@[simp] theorem blt_allB {ns : List Bool} : evBlt .all [.list (ns.map .bool)] = some ⟨.bool (ns.all id), false⟩ := by
  show (boolsO (ns.map .bool)).map _ = _
  rw [boolsO_map]; rfl
@[simp] theorem blt_anyB {ns : List Bool} : evBlt .any [.list (ns.map .bool)] = some ⟨.bool (ns.any id), false⟩ := by
  show (boolsO (ns.map .bool)).map _ = _
  rw [boolsO_map]; rfl
@[simp] theorem tr_int : truth (.int a) = some (a != 0) := rfl
@[simp] theorem tr_bool {c : Bool} : truth (.bool c) = some c := rfl
@[simp] theorem tr_list : truth (.list x) = some (!x.isEmpty) := rfl
@[simp] theorem tr_tup : truth (.tuple x) = some (!x.isEmpty) := rfl
@[simp] theorem tr_none : truth .none = some false := rfl
end
/-! ### data that Lean types tell -/
open PySem.W (Datum DatumOrd Tup)
section
variable {α : Type} [DecidableEq α] [Datum α]
theorem okD_toD (x : α) (h : Datum.depth α ≤ 60) : okD (Datum.toD x) = true := by
  unfold okD
  rw [Datum.plain, Bool.true_and, decide_eq_true_eq]
  exact Nat.le_trans (Datum.depth_le x) h
theorem peq_toD (x y : α) (h : Datum.depth α ≤ 60 := by decide) : peq (Datum.toD x) (Datum.toD y) = some (decide (x = y)) := by
  unfold peq
  rw [okD_toD x h, okD_toD y h]
  show some _ = _
  rw [Datum.eqv]
end
@[simp] theorem cmp_eqI {a b : Int} : evCmp .eq (.int a) (.int b) = some (decide (a = b)) := peq_toD a b
@[simp] theorem cmp_eqB {a b : Bool} : evCmp .eq (.bool a) (.bool b) = some (decide (a = b)) := peq_toD a b
@[simp] theorem cmp_eqS {a b : Str} : evCmp .eq (.str a) (.str b) = some (decide (a = b)) := peq_toD a b
@[simp] theorem cmp_neI {a b : Int} : evCmp .ne (.int a) (.int b) = some (!decide (a = b)) := by
  show (peq (.int a) (.int b)).map _ = _
  rw [show peq (.int a) (.int b) = some (decide (a = b)) from peq_toD a b]; rfl
@[simp] theorem cmp_neB {a b : Bool} : evCmp .ne (.bool a) (.bool b) = some (!decide (a = b)) := by
  show (peq (.bool a) (.bool b)).map _ = _
  rw [show peq (.bool a) (.bool b) = some (decide (a = b)) from peq_toD a b]; rfl
@[simp] theorem cmp_neS {a b : Str} : evCmp .ne (.str a) (.str b) = some (!decide (a = b)) := by
  show (peq (.str a) (.str b)).map _ = _
  rw [show peq (.str a) (.str b) = some (decide (a = b)) from peq_toD a b]; rfl
theorem rngL_zero (n : Nat) : rngL 0 n = (List.range n).map fun i => .int (i : Nat) := by
  unfold rngL
  congr 1
  funext i
  rw [Int.zero_add]
theorem all_true : ∀ {α : Type} (xs : List α), (xs.map fun _ => true).all id = true
  | _, [] => rfl
  | _, _ :: r => by rw [List.map_cons, List.all_cons, all_true r]; rfl
@[simp] theorem blt_allM {α : Type} {xs : List α} {p : α → Bool} : evBlt .all [.list (xs.map fun x => .bool (p x))] = some ⟨.bool (xs.all p), false⟩ := by
  have := blt_allB (ns := xs.map p)
  rw [List.map_map, List.all_map] at this
  exact this
@[simp] theorem blt_anyM {α : Type} {xs : List α} {p : α → Bool} : evBlt .any [.list (xs.map fun x => .bool (p x))] = some ⟨.bool (xs.any p), false⟩ := by
  have := blt_anyB (ns := xs.map p)
  rw [List.map_map, List.any_map] at this
  exact this
@[simp] theorem blt_sumM {α : Type} {xs : List α} {p : α → Int} : evBlt .sum [.list (xs.map fun x => .int (p x))] = some ⟨.int (xs.map p).sum, false⟩ := by
  have := blt_sum (ns := xs.map p)
  rw [List.map_map] at this
  exact this
@[simp] theorem asg_nm {i : Nat} {v : PV} {ρ : En} : asg (.nm i) v ρ = some (ρ.set i (.val v)) := rfl
@[simp] theorem asg_tp {ts : Tgs} {vs : List PV} {ρ : En} : asg (.tp ts) (.tuple vs) ρ = asgs ts vs ρ := rfl
@[simp] theorem asgs_nil {ρ : En} : asgs .nil [] ρ = some ρ := rfl
@[simp] theorem asgs_cons {t : Tg} {ts : Tgs} {v : PV} {vs : List PV} {ρ : En} : asgs (.cons t ts) (v :: vs) ρ = (asg t v ρ).bind (asgs ts vs) := rfl
/-- a for loop that never returns: the state behind i turns -/
theorem loopF_st {α : Type} {body : En → Option Out} {tg : Tg} {e : α → PV} : ∀ {xs : List α} (st : Nat → En),
    (∀ (i : Nat) (x : α), xs[i]? = some x → ∃ ρ1, asg tg (e x) (st i) = some ρ1 ∧ (body ρ1 = some (.nx (st (i + 1))) ∨ body ρ1 = some (.ct (st (i + 1))))) → loopF body tg (xs.map e) (st 0) = some (.nx (st xs.length))
  | [], _, _ => rfl
  | x :: r, st, h => by
    obtain ⟨ρ1, e1, e2⟩ := h 0 x rfl
    have ih := loopF_st (xs := r) (body := body) (tg := tg) (e := e) (fun i => st (i + 1)) fun i y hy => h (i + 1) y (by simpa using hy)
    show (do let ρ1 ← asg tg (e x) (st 0); match ← body ρ1 with | .nx ρ2 => loopF body tg (r.map e) ρ2 | .ct ρ2 => loopF body tg (r.map e) ρ2 | .bk ρ2 => some (.nx ρ2) | .rt v => some (.rt v)) = _
    rw [e1]
    rcases e2 with e2 | e2
    · show (body ρ1 >>= _) = _
      rw [e2]; exact ih
    · show (body ρ1 >>= _) = _
      rw [e2]; exact ih
/-- .. that returns at the first x with p -/
theorem loopF_find {α : Type} {body : En → Option Out} {tg : Tg} {e : α → PV} {p : α → Bool} {f : α → RV} {ρ : En} : ∀ {xs : List α},
    (∀ x ∈ xs, ∃ ρ1, asg tg (e x) ρ = some ρ1 ∧ body ρ1 = some (if p x then .rt (f x) else .nx ρ)) → loopF body tg (xs.map e) ρ = some (match xs.find? p with | some x => .rt (f x) | none => .nx ρ)
  | [], _ => rfl
  | x :: r, h => by
    obtain ⟨ρ1, e1, e2⟩ := h x List.mem_cons_self
    have ih := loopF_find (xs := r) (body := body) (tg := tg) (e := e) (p := p) (f := f) (ρ := ρ) fun y hy => h y (List.mem_cons_of_mem _ hy)
    show (do let ρ1 ← asg tg (e x) ρ; match ← body ρ1 with | .nx ρ2 => loopF body tg (r.map e) ρ2 | .ct ρ2 => loopF body tg (r.map e) ρ2 | .bk ρ2 => some (.nx ρ2) | .rt v => some (.rt v)) = _
    rw [e1, List.find?_cons]
    show (body ρ1 >>= _) = _
    rw [e2]
    cases hp : p x with
    | true => rfl
    | false => exact ih
theorem enumL_map {α : Type} (e : α → PV) (xs : List α) : enumL (xs.map e) = xs.zipIdx.map fun p => .tuple [.int (p.2 : Nat), e p.1] := by
  unfold enumL
  rw [List.zipIdx_map, List.map_map]
  rfl
theorem zipL_map {α β : Type} (e : α → PV) (g : β → PV) (xs : List α) (ys : List β) : zipL (xs.map e) (ys.map g) = (xs.zip ys).map fun p => .tuple [e p.1, g p.2] := by
  unfold zipL
  rw [List.zip_map, List.map_map]
  rfl
/-- an embedding of a Lean type into the data: equal data are of equal things -/
structure Emb {α : Type} [DecidableEq α] (e : α → PV) (d : Nat) : Prop where
  plain : ∀ x, (e x).plain = true
  deep : ∀ x, (e x).depth ≤ d
  eqv : ∀ x y, PyData.eqv (e x) (e y) = decide (x = y)
section
variable {α β : Type} [DecidableEq α] [DecidableEq β] {e : α → PV} {d : Nat}
theorem Emb.of [Datum β] (f : α → β) (inj : ∀ x y, f x = f y → x = y) : Emb (fun x => Datum.toD (f x)) (Datum.depth β) where
  plain := fun x => Datum.plain _
  deep := fun x => Datum.depth_le _
  eqv := fun x y => by
    rw [Datum.eqv, Bool.eq_iff_iff, decide_eq_true_eq, decide_eq_true_eq]
    exact ⟨inj x y, fun h => by rw [h]⟩
theorem Emb.ok (h : Emb e d) (hd : d ≤ 59) (x : α) : okD (e x) = true := by
  unfold okD
  rw [h.plain, Bool.true_and, decide_eq_true_eq]
  exact Nat.le_trans (h.deep x) (by omega)
theorem Emb.okL (h : Emb e d) (hd : d ≤ 59) : ∀ xs : List α, Pz.okL (xs.map e) = true := by
  intro xs
  unfold Pz.okL
  rw [Bool.and_eq_true, decide_eq_true_eq]
  induction xs with
  | nil => exact ⟨rfl, by show 0 ≤ 60; omega⟩
  | cons x r ih =>
    obtain ⟨a, b⟩ := ih
    refine ⟨?_, ?_⟩
    · show ((e x).plain && PyData.plainAll (r.map e)) = true
      rw [h.plain, a]; rfl
    · show max (e x).depth (PyData.depthAll (r.map e)) ≤ 60
      have := h.deep x
      omega
theorem Emb.peq (h : Emb e d) (hd : d ≤ 59) (x y : α) : Pz.peq (e x) (e y) = some (decide (x = y)) := by
  unfold Pz.peq
  rw [h.ok hd, h.ok hd]
  show some _ = _
  rw [h.eqv]
theorem Emb.any (h : Emb e d) (x : α) : ∀ (xs : List α) [Decidable (x ∈ xs)], ((xs.map e).any fun z => PyData.eqv z (e x)) = decide (x ∈ xs)
  | [], _ => by simp
  | y :: r, _ => by
    haveI : Decidable (x ∈ r) := Classical.propDecidable _
    rw [List.map_cons, List.any_cons, h.any x r, h.eqv, Bool.eq_iff_iff, Bool.or_eq_true, decide_eq_true_eq, decide_eq_true_eq, decide_eq_true_eq, List.mem_cons]
    exact ⟨fun q => q.imp Eq.symm id, fun q => q.imp Eq.symm id⟩
theorem Emb.pinL (h : Emb e d) (hd : d ≤ 59) (x : α) (xs : List α) [Decidable (x ∈ xs)] : pin (e x) (.list (xs.map e)) = some (decide (x ∈ xs)) := by
  show (if okD (e x) && Pz.okL (xs.map e) then some ((xs.map e).any fun z => PyData.eqv z (e x)) else none) = _
  rw [h.ok hd, h.okL hd, h.any]; rfl
theorem Emb.pinT (h : Emb e d) (hd : d ≤ 59) (x : α) (xs : List α) [Decidable (x ∈ xs)] : pin (e x) (.tuple (xs.map e)) = some (decide (x ∈ xs)) := by
  show (if okD (e x) && Pz.okL (xs.map e) then some ((xs.map e).any fun z => PyData.eqv z (e x)) else none) = _
  rw [h.ok hd, h.okL hd, h.any]; rfl
theorem Emb.eq (h : Emb e d) (hd : d ≤ 59) (x y : α) : evCmp .eq (e x) (e y) = some (decide (x = y)) := h.peq hd x y
theorem Emb.ne (h : Emb e d) (hd : d ≤ 59) (x y : α) : evCmp .ne (e x) (e y) = some (!decide (x = y)) := by
  show (Pz.peq (e x) (e y)).map _ = _
  rw [h.peq hd]; rfl
theorem Emb.inL (h : Emb e d) (hd : d ≤ 59) (x : α) (xs : List α) [Decidable (x ∈ xs)] : evCmp .isIn (e x) (.list (xs.map e)) = some (decide (x ∈ xs)) := h.pinL hd x xs
theorem Emb.inT (h : Emb e d) (hd : d ≤ 59) (x : α) (xs : List α) [Decidable (x ∈ xs)] : evCmp .isIn (e x) (.tuple (xs.map e)) = some (decide (x ∈ xs)) := h.pinT hd x xs
theorem Emb.notInL (h : Emb e d) (hd : d ≤ 59) (x : α) (xs : List α) [Decidable (x ∈ xs)] : evCmp .notIn (e x) (.list (xs.map e)) = some (!decide (x ∈ xs)) := by
  show (pin (e x) (.list (xs.map e))).map _ = _
  rw [h.pinL hd]; rfl
theorem Emb.notInT (h : Emb e d) (hd : d ≤ 59) (x : α) (xs : List α) [Decidable (x ∈ xs)] : evCmp .notIn (e x) (.tuple (xs.map e)) = some (!decide (x ∈ xs)) := by
  show (pin (e x) (.tuple (xs.map e))).map _ = _
  rw [h.pinT hd]; rfl
end
theorem emb_nat : Emb (fun n : Nat => PyData.int (n : Nat)) 0 := Emb.of (β := Int) (fun n : Nat => (n : Int)) fun x y h => by omega
theorem emb_int : Emb PyData.int 0 := Emb.of (β := Int) id fun x y h => h
theorem emb_bool : Emb PyData.bool 0 := Emb.of (β := Bool) id fun x y h => h
theorem map_inj {α β : Type} {f : α → β} (inj : ∀ x y, f x = f y → x = y) : ∀ xs ys : List α, xs.map f = ys.map f → xs = ys
  | [], [], _ => rfl
  | [], _ :: _, h => by cases h
  | _ :: _, [], h => by cases h
  | x :: xs, y :: ys, h => by
    rw [List.map_cons, List.map_cons, List.cons.injEq] at h
    rw [inj x y h.1, map_inj inj xs ys h.2]
theorem emb_nats : Emb (fun r : List Nat => PyData.tuple (r.map fun n => .int (n : Nat))) (Datum.depth (Tup Int)) := by
  have := Emb.of (β := Tup Int) (fun r : List Nat => Tup.mk (r.map fun n : Nat => (n : Int))) fun x y h => map_inj (fun a b h => by omega) x y (Tup.mk.inj h)
  have e : (fun r : List Nat => Datum.toD (Tup.mk (r.map fun n : Nat => (n : Int)))) = fun r : List Nat => PyData.tuple (r.map fun n => .int (n : Nat)) := by
    funext r
    show PyData.tuple ((r.map fun n : Nat => (n : Int)).map Datum.toD) = _
    rw [List.map_map]; rfl
  rw [e] at this
  exact this
@[simp] theorem cut_to {α : Type} (xs : List α) (k : Nat) : cutL xs none (some (k : Int)) = xs.take k := by
  unfold cutL
  rw [show HT.sIx xs.length xs.length (some (k : Int)) = min k xs.length from HT.sIx_nat _ _ k, HT.sIx_none, List.drop_zero, Nat.sub_zero]
  by_cases h : k ≤ xs.length
  · rw [Nat.min_eq_left h]
  · rw [Nat.min_eq_right (by omega), List.take_of_length_le (by omega), List.take_of_length_le (by omega)]
@[simp] theorem cut_from {α : Type} (xs : List α) (k : Nat) : cutL xs (some (k : Int)) none = xs.drop k := by
  unfold cutL
  rw [show HT.sIx xs.length 0 (some (k : Int)) = min k xs.length from HT.sIx_nat _ _ k, HT.sIx_none]
  by_cases h : k ≤ xs.length
  · rw [Nat.min_eq_left h, List.take_of_length_le (by rw [List.length_drop]; omega)]
  · rw [Nat.min_eq_right (by omega), List.drop_of_length_le (by omega), List.drop_of_length_le (by omega), List.take_nil]
@[simp] theorem cut_to1 {α : Type} (xs : List α) : cutL xs none (some 1) = xs.take 1 := cut_to xs 1
@[simp] theorem cut_from1 {α : Type} (xs : List α) : cutL xs (some 1) none = xs.drop 1 := cut_from xs 1
@[simp] theorem evCut_L {x : List PV} {lo hi : Option Int} : evCut (.list x) lo hi = some ⟨.list (cutL x lo hi), true⟩ := rfl
@[simp] theorem evCut_T {x : List PV} {lo hi : Option Int} : evCut (.tuple x) lo hi = some ⟨.tuple (cutL x lo hi), false⟩ := rfl
theorem dec_nat {a b : Nat} : decide ((a : Int) = (b : Int)) = (a == b) := by
  rw [Bool.eq_iff_iff, decide_eq_true_eq, beq_iff_eq]; omega
/-! ### order -/
open PySem.W (minOf maxOf minD maxD alike dataLt)
section
variable {α : Type} [DecidableEq α] [DatumOrd α]
theorem emb_ord : Emb (Datum.toD : α → PV) (Datum.depth α) := Emb.of (β := α) id fun x y h => h
theorem alikeB_toD (xs : List α) : alikeB (xs.map Datum.toD) = true := by
  unfold alikeB
  rw [List.all_eq_true]
  intro x hx
  rw [List.all_eq_true]
  intro y hy
  obtain ⟨a, _, rfl⟩ := List.mem_map.mp hx
  obtain ⟨b, _, rfl⟩ := List.mem_map.mp hy
  exact DatumOrd.alike a b
theorem notNone_toD (x : α) : isNone (Datum.toD x) = false := by
  have := DatumOrd.notNone x
  cases h : (Datum.toD x : PyData) <;> first | rfl | exact absurd h this
theorem bestB_toD (b : Bool) (x : α) (xs : List α) (h : Datum.depth α ≤ 59) : bestB b ((x :: xs).map Datum.toD) = some (Datum.toD (if b then maxOf x xs else minOf x xs)) := by
  have h1 := (emb_ord (α := α)).okL h (x :: xs)
  have h2 := alikeB_toD (x :: xs)
  have h3 : ((x :: xs).map Datum.toD).all (fun y : PV => !isNone y) = true := by
    rw [List.all_eq_true]
    intro y hy
    obtain ⟨a, _, rfl⟩ := List.mem_map.mp hy
    rw [notNone_toD]; rfl
  rw [List.map_cons] at h1 h2 h3 ⊢
  show (if okL _ && alikeB _ && _ then some _ else none) = _
  rw [h1, h2, h3]
  cases b with
  | true => exact congrArg some (PySem.W.maxD_map x xs)
  | false => exact congrArg some (PySem.W.minD_map x xs)
theorem plt_toD (x y : α) (h : Datum.depth α ≤ 59) : plt (Datum.toD x) (Datum.toD y) = some (DatumOrd.lt x y) := by
  unfold plt
  rw [(emb_ord (α := α)).ok h, (emb_ord (α := α)).ok h, DatumOrd.alike, notNone_toD]
  exact congrArg some (DatumOrd.lt_eq x y)
end
theorem maxOf_le : ∀ (xs : List Int) (x : Int), x ≤ maxOf x xs ∧ (∀ y ∈ xs, y ≤ maxOf x xs) ∧ (maxOf x xs = x ∨ maxOf x xs ∈ xs)
  | [], x => ⟨Int.le_refl _, fun y h => (by cases h), .inl rfl⟩
  | z :: r, x => by
    have e : maxOf x (z :: r) = maxOf (if x < z then z else x) r := by
      show (r.foldl _ (if DatumOrd.lt x z = true then z else x)) = _
      have : (DatumOrd.lt x z = true) = (x < z) := by
        show (decide (x < z) = true) = _
        rw [decide_eq_true_eq]
      simp only [this]; rfl
    rw [e]
    obtain ⟨a, b, c⟩ := maxOf_le r (if x < z then z else x)
    by_cases h : x < z
    · rw [if_pos h] at a b c ⊢
      refine ⟨by omega, fun y hy => ?_, ?_⟩
      · rcases List.mem_cons.mp hy with rfl | hy
        · exact a
        · exact b y hy
      · rcases c with c | c
        · exact .inr (by rw [c]; exact List.mem_cons_self)
        · exact .inr (List.mem_cons_of_mem _ c)
    · rw [if_neg h] at a b c ⊢
      refine ⟨a, fun y hy => ?_, ?_⟩
      · rcases List.mem_cons.mp hy with rfl | hy
        · omega
        · exact b y hy
      · rcases c with c | c
        · exact .inl c
        · exact .inr (List.mem_cons_of_mem _ c)
end Pz
set_option Elab.async false
set_option linter.all false
set_option maxRecDepth 100000
/-! Pz: more words for plain laws: loops as folds, greatest common divisors. -/
namespace Pz
open PySem
/-- a for loop that never returns, as a fold; I holds all the way -/
theorem loopF_fold {α β : Type} {body : En → Option Out} {tg : Tg} {e : α → PV} (st : β → En) (f : β → α → β) (I : β → Prop) : ∀ {xs : List α} {b : β}, I b →
    (∀ (x : α) (b : β), x ∈ xs → I b → I (f b x) ∧ ∃ ρ1, asg tg (e x) (st b) = some ρ1 ∧ (body ρ1 = some (.nx (st (f b x))) ∨ body ρ1 = some (.ct (st (f b x))))) → loopF body tg (xs.map e) (st b) = some (.nx (st (xs.foldl f b)))
  | [], _, _, _ => rfl
  | x :: r, b, hI, h => by
    obtain ⟨i2, ρ1, e1, e2⟩ := h x b List.mem_cons_self hI
    have ih := loopF_fold st f I (xs := r) (body := body) (tg := tg) (e := e) i2 fun y c hy hc => h y c (List.mem_cons_of_mem _ hy) hc
    show (do let ρ1 ← asg tg (e x) (st b); match ← body ρ1 with | .nx ρ2 => loopF body tg (r.map e) ρ2 | .ct ρ2 => loopF body tg (r.map e) ρ2 | .bk ρ2 => some (.nx ρ2) | .rt v => some (.rt v)) = _
    rw [e1]
    rcases e2 with e2 | e2
    · show (body ρ1 >>= _) = _
      rw [e2]; exact ih
    · show (body ρ1 >>= _) = _
      rw [e2]; exact ih
theorem loopW_step {c : En → Option Bool} {body : En → Option Out} {n : Nat} {ρ ρ2 : En} (h1 : c ρ = some true) (h2 : body ρ = some (.nx ρ2)) : loopW c body (n + 1) ρ = loopW c body n ρ2 := by
  show (do let k ← c ρ; if k then match ← body ρ with | .nx ρ2 => loopW c body n ρ2 | .ct ρ2 => loopW c body n ρ2 | .bk ρ2 => some (.nx ρ2) | .rt v => some (.rt v) else some (.nx ρ)) = _
  rw [h1]
  show (body ρ >>= _) = _
  rw [h2]; rfl
theorem loopW_end {c : En → Option Bool} {body : En → Option Out} {n : Nat} {ρ : En} (h1 : c ρ = some false) : loopW c body (n + 1) ρ = some (.nx ρ) := by
  show (do let k ← c ρ; if k then match ← body ρ with | .nx ρ2 => loopW c body n ρ2 | .ct ρ2 => loopW c body n ρ2 | .bk ρ2 => some (.nx ρ2) | .rt v => some (.rt v) else some (.nx ρ)) = _
  rw [h1]; rfl
theorem loopF_cons {body : En → Option Out} {tg : Tg} {x : PV} {r : List PV} {ρ ρ1 ρ2 : En} (h1 : asg tg x ρ = some ρ1) (h2 : body ρ1 = some (.nx ρ2)) : loopF body tg (x :: r) ρ = loopF body tg r ρ2 := by
  show (do let ρ1 ← asg tg x ρ; match ← body ρ1 with | .nx ρ2 => loopF body tg r ρ2 | .ct ρ2 => loopF body tg r ρ2 | .bk ρ2 => some (.nx ρ2) | .rt v => some (.rt v)) = _
  rw [h1]
  show (body ρ1 >>= _) = _
  rw [h2]; rfl
theorem loopF_brk {body : En → Option Out} {tg : Tg} {x : PV} {r : List PV} {ρ ρ1 ρ2 : En} (h1 : asg tg x ρ = some ρ1) (h2 : body ρ1 = some (.bk ρ2)) : loopF body tg (x :: r) ρ = some (.nx ρ2) := by
  show (do let ρ1 ← asg tg x ρ; match ← body ρ1 with | .nx ρ2 => loopF body tg r ρ2 | .ct ρ2 => loopF body tg r ρ2 | .bk ρ2 => some (.nx ρ2) | .rt v => some (.rt v)) = _
  rw [h1]
  show (body ρ1 >>= _) = _
  rw [h2]; rfl
theorem gcd_half {n a b : Nat} (hb : 0 < b) (hr : 0 < a % b) (h : b < 2 ^ (n + 1)) : b % (a % b) < 2 ^ n := by
  have h1 := Nat.mod_lt a hb
  have h2 := Nat.mod_lt b hr
  have h3 : b % (a % b) + a % b ≤ b := by
    have := Nat.div_add_mod b (a % b)
    have : 1 ≤ b / (a % b) := Nat.div_pos (by omega) hr
    have : a % b * 1 ≤ a % b * (b / (a % b)) := Nat.mul_le_mul_left _ this
    omega
  rw [Nat.pow_succ] at h
  omega
theorem gcd_step (a b : Nat) : Nat.gcd b (a % b) = Nat.gcd a b := by
  rw [Nat.gcd_comm b, Nat.gcd_comm a, ← Nat.gcd_rec]
end Pz
set_option Elab.async false
set_option linter.all false
set_option maxRecDepth 100000
/-! Pz: the helpers that every law has. -/
namespace Pz
open PySem
def h_mixed : Tb :=
  (.cons (.set 2 false (.int 0))
  (.cons (.ife (.cmp .gt (.blt .len (.cons (.var 0) .nil)) (.int 0)) (.cons (.set 2 false (.idx (.var 0) (.bin .mod (.var 1) (.blt .len (.cons (.var 0) .nil)))))
  .nil) .nil)
  (.cons (.set 3 false (.bin .mod (.blt .int (.cons (.bin .add (.bin .add (.bin .mul (.var 2) (.int 48271)) (.bin .mul (.var 1) (.int 69621))) (.int 8191)) .nil)) (.int 2147483647)))
  (.fgt 2 (.cons (.set 4 false (.bin .mod (.blt .int (.cons (.bin .add (.bin .add (.bin .mul (.var 3) (.var 3)) (.bin .fdiv (.var 3) (.int 7))) (.bin .mul (.var 1) (.int 16807))) .nil)) (.int 2147483629)))
  (.fgt 3 (.cons (.set 5 false (.bin .mod (.blt .int (.cons (.bin .add (.bin .add (.bin .mul (.var 4) (.var 4)) (.bin .fdiv (.var 4) (.int 11))) (.int 40692)) .nil)) (.int 2147483563)))
  (.fgt 4 (.cons (.ret (.bin .mod (.bin .fdiv (.var 5) (.int 5)) (.int 1000003)))
  .nil)))))))))
def h_row_1 : Tb :=
  (.cons (.ife (.cmp .gt (.var 2) (.int 0)) (.cons (.app 3 (.bin .mod (.blt .int (.cons (.var 2) .nil)) (.int 1000)))
  (.fgt 4 (.cons (.set 2 false (.bin .fdiv (.var 2) (.int 1000)))
  .nil))) (.cons (.app 3 (.call "_law_mixed" (.cons (.var 0) (.cons (.var 4) .nil))))
  (.fgt 4 .nil)))
  (.fgt 4 .nil))
def h_row : Tb :=
  (.cons (.set 2 false (.int 0))
  (.cons (.ife (.and (.cmp .gt (.blt .len (.cons (.var 0) .nil)) (.int 0)) (.cmp .ge (.idx (.var 0) (.int 0)) (.bin .pow (.int 10) (.int 18)))) (.cons (.set 2 false (.idx (.var 0) (.int 0)))
  .nil) .nil)
  (.cons (.set 3 true (.lst .nil))
  (.cons (.for_ (.nm 4) (.rng1 (.var 1)) h_row_1)
  (.fgt 2 (.fgt 4 (.cons (.retO 3)
  .nil)))))))
def h_is_int : Tb :=
  (.cons (.ret (.and (.isi (.var 0) .int) (.not (.isi (.var 0) .bool))))
  .nil)
def h_like : Tb :=
  (.cons (.ife (.isN (.var 1)) (.cons (.ret (.isN (.var 0)))
  .nil) .nil)
  (.cons (.ife (.isi (.var 1) .bool) (.cons (.ret (.and (.isi (.var 0) .bool) (.cmp .eq (.var 0) (.var 1))))
  .nil) .nil)
  (.cons (.ife (.isi (.var 1) .tuple) (.cons (.ife (.or (.not (.isi (.var 0) .tuple)) (.cmp .ne (.blt .len (.cons (.var 0) .nil)) (.blt .len (.cons (.var 1) .nil)))) (.cons (.ret (.bl false))
  .nil) .nil)
  (.cons (.ret (.blt .all (.cons (.comp (.call "_law_like" (.cons (.idx (.var 0) (.var 2)) (.cons (.idx (.var 1) (.var 2)) .nil))) (.nm 2) (.rng1 (.blt .len (.cons (.var 1) .nil))) .nil [("k", 2)]) .nil)))
  .nil)) .nil)
  (.cons (.ife (.isi (.var 1) .str) (.cons (.ret (.and (.isi (.var 0) .str) (.cmp .eq (.var 0) (.var 1))))
  .nil) .nil)
  (.cons (.ret (.and (.call "_law_is_int" (.cons (.var 0) .nil)) (.cmp .eq (.var 0) (.var 1))))
  .nil)))))
structure Helps (tbl : List DefR) : Prop where
  mixed : ∃ st, tbl.find? (fun d => d.name == ("_law_mixed" : Str)) = some ⟨"_law_mixed", ["script", "k"], ["script", "k", "cell", "first", "second", "third"], h_mixed, st, []⟩
  row : ∃ st, tbl.find? (fun d => d.name == ("_law_row" : Str)) = some ⟨"_law_row", ["script", "many"], ["script", "many", "big", "row", "k"], h_row, st, []⟩
  isInt : ∃ st, tbl.find? (fun d => d.name == ("_law_is_int" : Str)) = some ⟨"_law_is_int", ["value"], ["value"], h_is_int, st, []⟩
  like : ∃ st, tbl.find? (fun d => d.name == ("_law_like" : Str)) = some ⟨"_law_like", ["value", "due"], ["value", "due", "k"], h_like, st, []⟩
variable {G : Str → Option PV} {tbl : List DefR}
theorem mod_nat {a b : Int} (h : 0 < b) (h2 : b < 18446744073709551616) : (a % b).natAbs < 18446744073709551616 := by
  have := Int.emod_nonneg a (show b ≠ 0 by omega)
  have := Int.emod_lt_of_pos a h
  omega
def mixF (cell k : Int) : Int :=
  let first := (cell * 48271 + k * 69621 + 8191) % 2147483647
  let second := (first * first + first / 7 + k * 16807) % 2147483629
  let third := (second * second + second / 11 + 40692) % 2147483563
  third / 5 % 1000003
theorem mixed_ok (T : Helps tbl) (j : Nat) (ns : List Int) (k : Int) : ∃ v : Int, callF G tbl (j + 1) "_law_mixed" [.list (ns.map .int), .int k] = some ⟨.int v, false⟩ ∧ 0 ≤ v ∧ v < 1000003 := by
  obtain ⟨st, h⟩ := T.mixed
  rw [call_eq h rfl]
  have fin : ∀ c : Int, 0 ≤ mixF c k ∧ mixF c k < 1000003 := fun x => ⟨Int.emod_nonneg _ (by decide), Int.emod_lt_of_pos _ (by decide)⟩
  cases ns with
  | nil =>
    refine ⟨_, ?_, fin 0⟩
    simp [h_mixed, evB, evS, evT, evE, evA, evR, evF, evI, evO, rd, rdS, slotR, init, slOf, outR, frzE, wipeS, bin_mulL, mod_nat, mixF]
  | cons c r =>
    have hm : 0 ≤ k % ((r.length : Int) + 1) ∧ k % ((r.length : Int) + 1) < (r.length : Int) + 1 := ⟨Int.emod_nonneg _ (by omega), Int.emod_lt_of_pos _ (by omega)⟩
    obtain ⟨v, hv⟩ : ∃ v, (c :: r)[(k % ((r.length : Int) + 1)).toNat]? = some v := ⟨_, List.getElem?_eq_getElem (by rw [List.length_cons]; omega)⟩
    have hx : ixOf (r.length + 1) (k % ((r.length : Int) + 1)) = some (k % ((r.length : Int) + 1)).toNat := ixOf_int hm.1 (by omega)
    have hv2 : (PyData.int c :: r.map PyData.int)[(k % ((r.length : Int) + 1)).toNat]? = some (.int v) := by
      have : ((c :: r).map PyData.int)[(k % ((r.length : Int) + 1)).toNat]? = some (.int v) := by rw [List.getElem?_map, hv]; rfl
      exact this
    have hp : (0 : Int) < (r.length : Int) + 1 := by omega
    refine ⟨_, ?_, fin v⟩
    simp [h_mixed, evB, evS, evT, evE, evA, evR, evF, evI, evO, rd, rdS, slotR, init, slOf, outR, frzE, wipeS, bin_mulL, mod_nat, hx, hv2, hp, mixF]
/-- the loop of a row -/
theorem row_loop (T : Helps tbl) (j : Nat) (ns : List Int) (m : Nat) (hm : m ≤ 1000) (big : Int) : ∃ (row : List Int) (b2 : Int), loopF (evB (callF G tbl (j + 1)) G h_row_1)
    (.nm 4) ((List.range m).map fun i => .int (i : Nat)) [.val (.list (ns.map .int)), .val (.int m), .val (.int big), .own [], .no] = some (.nx [.val (.list (ns.map .int)), .val (.int m), .val (.int b2), .own (row.map .int), .no]) ∧ row.length = m ∧ ∀ x ∈ row, 0 ≤ x ∧ x < 1000003 := by
  have H := fun k : Int => mixed_ok (G := G) T j ns k
  let mv := fun k : Int => Classical.choose (H k)
  have hv : ∀ k, callF G tbl (j + 1) "_law_mixed" [.list (ns.map .int), .int k] = some ⟨.int (mv k), false⟩ ∧ 0 ≤ mv k ∧ mv k < 1000003 := fun k => Classical.choose_spec (H k)
  generalize mv = mw at hv
  let st : Int × List Int → En := fun b => [.val (.list (ns.map .int)), .val (.int m), .val (.int b.1), .own (b.2.map .int), .no]
  let step : Int × List Int → Nat → (Int × List Int) ⊕ RV := fun b i => .inl (if 0 < b.1 then (b.1 / 1000, b.2 ++ [b.1 % 1000]) else (b.1, b.2 ++ [mw i]))
  let I : Nat → Int × List Int → Prop := fun i b => b.2.length = i ∧ ∀ x ∈ b.2, 0 ≤ x ∧ x < 1000003
  obtain ⟨l1, l2⟩ := loopF_turns (e := fun i : Nat => PyData.int (i : Nat)) (st := st) (step := step) (I := I) (tg := .nm 4) (xs := List.range m) (i := 0) (b := (big, []))
    (body := evB (callF G tbl (j + 1)) G h_row_1)
    ⟨rfl, fun x h => by cases h⟩ (fun i x b hx ⟨hl, hb⟩ => by
      obtain ⟨hi, ex⟩ := List.getElem?_eq_some_iff.mp hx
      rw [List.length_range] at hi
      rw [List.getElem_range] at ex
      subst ex
      obtain ⟨bg, row⟩ := b
      have hz : row.length < LIM := by
        have : row.length = 0 + i := hl
        unfold LIM; omega
      by_cases hp : 0 < bg
      · refine ⟨⟨_, rfl, .inl ?_⟩, fun b' e => ?_⟩
        · simp [h_row_1, evB, evS, evT, evE, evA, evR, evF, evI, evO, rd, rdS, slotR, init, slOf, outR, frzE, wipeS, st, step, outOf, hp, hz]
        · simp only [step, hp, if_true] at e
          cases e
          refine ⟨by simp; simpa using hl, fun x hx => ?_⟩
          rcases List.mem_append.mp hx with hx | hx
          · exact hb x hx
          · rw [List.mem_singleton] at hx; subst hx
            have := Int.emod_nonneg bg (show (1000 : Int) ≠ 0 by decide)
            have := Int.emod_lt_of_pos bg (show (0 : Int) < 1000 by decide)
            omega
      · refine ⟨⟨_, rfl, .inl ?_⟩, fun b' e => ?_⟩
        · simp [h_row_1, evB, evS, evT, evE, evA, evR, evF, evI, evO, rd, rdS, slotR, init, slOf, outR, frzE, wipeS, st, step, outOf, hp, hz, (hv _).1]
        · simp only [step, hp, if_false] at e
          cases e
          refine ⟨by simp; simpa using hl, fun x hx => ?_⟩
          rcases List.mem_append.mp hx with hx | hx
          · exact hb x hx
          · rw [List.mem_singleton] at hx; subst hx
            exact (hv _).2)
  cases ht : turnsR step (List.range m) (big, []) with
  | inr v =>
    exfalso
    have : ∀ (xs : List Nat) b, turnsR step xs b ≠ .inr v := fun xs => by
      induction xs with
      | nil => intro b h; cases h
      | cons x r ih => intro b h; exact ih _ h
    exact this _ _ ht
  | inl b =>
    obtain ⟨i1, i2⟩ := l2 b ht
    refine ⟨b.2, b.1, ?_, by rw [i1]; simp, i2⟩
    rw [ht] at l1
    exact l1
theorem row_ok (T : Helps tbl) (j : Nat) (ns : List Int) (m : Nat) (hm : m ≤ 1000) : ∃ row : List Int, callF G tbl (j + 2) "_law_row" [.list (ns.map .int), .int m] = some ⟨.list (row.map .int), true⟩ ∧ row.length = m ∧ ∀ x ∈ row, 0 ≤ x ∧ x < 1000003 := by
  obtain ⟨st, h⟩ := T.row
  rw [call_eq h rfl]
  have ml : (m : Int).natAbs ≤ LIM := by unfold LIM; omega
  have ml : m ≤ LIM := by unfold LIM; omega
  cases ns with
  | nil =>
    obtain ⟨row, b, e, r⟩ := row_loop (G := G) T j [] m hm 0
    rw [List.map_nil] at e
    refine ⟨row, ?_, r⟩
    simp [h_row, evB, evS, evT, evE, evA, evR, evF, evI, evO, rd, rdS, slotR, init, slOf, outR, frzE, wipeS, ml, rngL_zero, e]
  | cons c r =>
    by_cases hc : (10 : Int) ^ 18 ≤ c
    · obtain ⟨row, b, e, q⟩ := row_loop (G := G) T j (c :: r) m hm c
      rw [List.map_cons] at e
      refine ⟨row, ?_, q⟩
      have hc2 : (1000000000000000000 : Int) ≤ c := by simpa using hc
      simp [h_row, evB, evS, evT, evE, evA, evR, evF, evI, evO, rd, rdS, slotR, init, slOf, outR, frzE, wipeS, ml, rngL_zero, hc2, e]
    · obtain ⟨row, b, e, q⟩ := row_loop (G := G) T j (c :: r) m hm 0
      rw [List.map_cons] at e
      refine ⟨row, ?_, q⟩
      have hc2 : ¬ (1000000000000000000 : Int) ≤ c := by simpa using hc
      simp [h_row, evB, evS, evT, evE, evA, evR, evF, evI, evO, rd, rdS, slotR, init, slOf, outR, frzE, wipeS, ml, rngL_zero, hc2, e]
/-! ### _law_like of a value and itself -/
mutual
/-- what _law_like speaks of -/
def lk : PV → Bool
  | .none => true
  | .bool _ => true
  | .int _ => true
  | .str _ => true
  | .tuple xs => decide (xs.length ≤ LIM) && lks xs
  | _ => false
def lks : List PV → Bool
  | [] => true
  | x :: r => lk x && lks r
end
mutual
def ldp : PV → Nat
  | .tuple xs => ldps xs + 1
  | _ => 0
def ldps : List PV → Nat
  | [] => 0
  | x :: r => max (ldp x) (ldps r)
end
theorem lks_get : ∀ {xs : List PV} {i : Nat} {x : PV}, lks xs = true → xs[i]? = some x → lk x = true ∧ ldp x ≤ ldps xs
  | [], _, _, _, e => by simp at e
  | y :: r, 0, x, h, e => by
    cases e
    have h : (lk y && lks r) = true := h
    rw [Bool.and_eq_true] at h
    exact ⟨h.1, Nat.le_max_left _ _⟩
  | y :: r, i + 1, x, h, e => by
    have h : (lk y && lks r) = true := h
    rw [Bool.and_eq_true] at h
    obtain ⟨a, b⟩ := lks_get (i := i) h.2 (by simpa using e)
    exact ⟨a, Nat.le_trans b (Nat.le_max_right _ _)⟩
theorem is_int_ok (T : Helps tbl) (j : Nat) (i : Int) : callF G tbl (j + 1) "_law_is_int" [.int i] = some ⟨.bool true, false⟩ := by
  obtain ⟨st, h⟩ := T.isInt
  rw [call_eq h rfl]
  simp [h_is_int, evB, evS, evT, evE, evA, evR, evF, evI, evO, rd, rdS, slotR, init, slOf, outR, frzE, wipeS, isiB]
theorem like_ok (T : Helps tbl) : ∀ (n j : Nat) (x : PV), lk x = true → ldp x ≤ n → callF G tbl (n + j + 2) "_law_like" [x, x] = some ⟨.bool true, false⟩ := by
  intro n
  obtain ⟨st, h⟩ := T.like
  induction n with
  | zero =>
    intro j x hx hd
    rw [call_eq h rfl]
    have hi := fun i => is_int_ok (G := G) T j i
    cases x with
    | none => simp [h_like, evB, evS, evT, evE, evA, evR, evF, evI, evO, rd, rdS, slotR, init, slOf, outR, frzE, wipeS, isiB, isNone]
    | bool b => simp [h_like, evB, evS, evT, evE, evA, evR, evF, evI, evO, rd, rdS, slotR, init, slOf, outR, frzE, wipeS, isiB, isNone]
    | int i => simp [h_like, evB, evS, evT, evE, evA, evR, evF, evI, evO, rd, rdS, slotR, init, slOf, outR, frzE, wipeS, isiB, isNone, hi]
    | str s => simp [h_like, evB, evS, evT, evE, evA, evR, evF, evI, evO, rd, rdS, slotR, init, slOf, outR, frzE, wipeS, isiB, isNone]
    | list xs => cases hx
    | tuple xs =>
      have hd : ldps xs + 1 ≤ 0 := hd
      omega
    | dict kvs => cases hx
  | succ n ih =>
    intro j x hx hd
    rw [call_eq h rfl]
    have hi := fun i => is_int_ok (G := G) T (n + 1 + j) i
    cases x with
    | none => simp [h_like, evB, evS, evT, evE, evA, evR, evF, evI, evO, rd, rdS, slotR, init, slOf, outR, frzE, wipeS, isiB, isNone]
    | bool b => simp [h_like, evB, evS, evT, evE, evA, evR, evF, evI, evO, rd, rdS, slotR, init, slOf, outR, frzE, wipeS, isiB, isNone]
    | int i => simp [h_like, evB, evS, evT, evE, evA, evR, evF, evI, evO, rd, rdS, slotR, init, slOf, outR, frzE, wipeS, isiB, isNone, hi]
    | str s => simp [h_like, evB, evS, evT, evE, evA, evR, evF, evI, evO, rd, rdS, slotR, init, slOf, outR, frzE, wipeS, isiB, isNone]
    | list xs => cases hx
    | tuple xs =>
      have hd : ldps xs + 1 ≤ n + 1 := hd
      have hx : (decide (xs.length ≤ LIM) && lks xs) = true := hx
      rw [Bool.and_eq_true, decide_eq_true_eq] at hx
      have key : ∀ i ∈ List.range xs.length, (do
          let vs ← (ixOf xs.length (i : Int)).bind (xs[·]?)
          callF G tbl (n + 1 + j + 1) "_law_like" [vs, vs]) = some ⟨.bool true, false⟩ := fun i hi => by
        rw [List.mem_range] at hi
        rw [ixOf_nat hi]
        show (xs[i]? >>= _) = _
        rw [List.getElem?_eq_getElem hi]
        obtain ⟨a, b⟩ := lks_get hx.2 (List.getElem?_eq_getElem hi)
        have := ih j xs[i] a (by omega)
        rw [show n + j + 2 = n + 1 + j + 1 by omega] at this
        exact this
      simp [h_like, evB, evS, evT, evE, evA, evR, evF, evI, evO, rd, rdS, slotR, init, slOf, outR, frzE, wipeS, isiB, isNone, hx.1, rngL_zero]
      rw [compL_map (e := fun i : Nat => PyData.int i) (g := fun _ => .bool true) fun i hi => ?_]
      · simp [evB, evS, evT, evE, evA, evR, evF, evI, evO, rd, rdS, slotR, init, slOf, outR, frzE, wipeS]
      · have k2 := key i hi
        rw [List.mem_range] at hi
        simp [ixOf_nat hi, hi] at k2 ⊢
        exact ⟨_, k2, rfl⟩
    | dict kvs => cases hx
end Pz
set_option Elab.async false
set_option linter.all false
set_option maxRecDepth 100000
/-! Pz: more words for plain laws. -/
namespace Pz
open PySem
theorem loopF_ret {body : En → Option Out} {tg : Tg} {x : PV} {r : List PV} {ρ ρ1 : En} {v : RV} (h1 : asg tg x ρ = some ρ1) (h2 : body ρ1 = some (.rt v)) : loopF body tg (x :: r) ρ = some (.rt v) := by
  show (do let ρ1 ← asg tg x ρ; match ← body ρ1 with | .nx ρ2 => loopF body tg r ρ2 | .ct ρ2 => loopF body tg r ρ2 | .bk ρ2 => some (.nx ρ2) | .rt v => some (.rt v)) = _
  rw [h1]
  show (body ρ1 >>= _) = _
  rw [h2]; rfl
theorem bmul {a b : Nat} (h : a < 18446744073709551616) : evBin .mul (.int (a : Nat)) (.int (b : Nat)) = some ⟨.int (a * b : Nat), false⟩ := by
  rw [bin_mulL (by simpa using h), Int.natCast_mul]
theorem nsub {a b : Nat} (h : b ≤ a) : (a : Int) - (b : Int) = ((a - b : Nat) : Int) := by omega
theorem nonneg (a : Nat) : ¬ ((a : Int) < 0) := by omega
theorem rep_flat {α : Type} (x : α) : ∀ n : Nat, (List.replicate n [x]).flatten = List.replicate n x
  | 0 => rfl
  | n + 1 => by rw [List.replicate_succ, List.flatten_cons, rep_flat x n]; rfl
theorem row_ix {row : List Int} {i : Nat} (h : i < row.length) : evIdx (.list (row.map .int)) (.int (i : Nat)) = some (.int row[i]) := by
  simp [ixOf_nat h, h]
/-- a row of numbers -/
def pn (r : List Nat) : PV := .tuple (r.map fun n => .int (n : Nat))
theorem lk_pn (r : List Nat) (h : r.length ≤ 1000000) : lk (pn r) = true ∧ ldp (pn r) ≤ 1 := by
  have a : ∀ r : List Nat, lks (r.map fun n => .int (n : Nat)) = true := fun r => by
    induction r with
    | nil => rfl
    | cons x r ih => exact ih
  have b : ∀ r : List Nat, ldps (r.map fun n => .int (n : Nat)) = 0 := fun r => by
    induction r with
    | nil => rfl
    | cons x r ih => show max 0 (ldps (r.map fun n => .int (n : Nat))) = 0; rw [ih]; rfl
  refine ⟨?_, ?_⟩
  · show (decide (_ ≤ LIM) && lks _) = true
    rw [a]; simp [LIM]; omega
  · show ldps _ + 1 ≤ 1
    rw [b]; omega
theorem lk_tup (xs : List PV) (n : Nat) (hl : xs.length ≤ 1000000) (h : ∀ x ∈ xs, lk x = true ∧ ldp x ≤ n) : lk (.tuple xs) = true ∧ ldp (.tuple xs) ≤ n + 1 := by
  have a : ∀ xs : List PV, (∀ x ∈ xs, lk x = true ∧ ldp x ≤ n) → lks xs = true ∧ ldps xs ≤ n := fun xs => by
    induction xs with
    | nil => exact fun _ => ⟨rfl, by show 0 ≤ n; omega⟩
    | cons x r ih =>
      intro h
      obtain ⟨a, b⟩ := ih fun y hy => h y (List.mem_cons_of_mem _ hy)
      obtain ⟨c, d⟩ := h x List.mem_cons_self
      refine ⟨?_, ?_⟩
      · show (lk x && lks r) = true
        rw [c, a]; rfl
      · show max (ldp x) (ldps r) ≤ n
        omega
  obtain ⟨b, c⟩ := a xs h
  refine ⟨?_, ?_⟩
  · show (decide (_ ≤ LIM) && lks _) = true
    rw [b, decide_eq_true (by unfold LIM; omega)]; rfl
  · show ldps _ + 1 ≤ n + 1
    omega
theorem sum_nat : ∀ r : List Nat, (r.map fun n : Nat => (n : Int)).sum = ((r.sum : Nat) : Int)
  | [] => rfl
  | x :: r => by rw [List.map_cons, List.sum_cons, List.sum_cons, sum_nat r, Int.natCast_add]
theorem sum_natM {α : Type} (f : α → Nat) : ∀ r : List α, (r.map fun x => ((f x : Nat) : Int)).sum = (((r.map f).sum : Nat) : Int)
  | [] => rfl
  | x :: r => by rw [List.map_cons, List.map_cons, List.sum_cons, List.sum_cons, sum_natM f r, Int.natCast_add]
theorem minOf_le : ∀ (xs : List Int) (x : Int), PySem.W.minOf x xs ≤ x ∧ (∀ y ∈ xs, PySem.W.minOf x xs ≤ y) ∧ (PySem.W.minOf x xs = x ∨ PySem.W.minOf x xs ∈ xs)
  | [], x => ⟨Int.le_refl _, fun y h => (by cases h), .inl rfl⟩
  | z :: r, x => by
    have e : PySem.W.minOf x (z :: r) = PySem.W.minOf (if z < x then z else x) r := by
      show (r.foldl _ (if PySem.W.DatumOrd.lt z x = true then z else x)) = _
      have : (PySem.W.DatumOrd.lt z x = true) = (z < x) := by
        show (decide (z < x) = true) = _
        rw [decide_eq_true_eq]
      simp only [this]; rfl
    rw [e]
    obtain ⟨a, b, c⟩ := minOf_le r (if z < x then z else x)
    by_cases h : z < x
    · rw [if_pos h] at a b c ⊢
      refine ⟨by omega, fun y hy => ?_, ?_⟩
      · rcases List.mem_cons.mp hy with rfl | hy
        · exact a
        · exact b y hy
      · rcases c with c | c
        · exact .inr (by rw [c]; exact List.mem_cons_self)
        · exact .inr (List.mem_cons_of_mem _ c)
    · rw [if_neg h] at a b c ⊢
      refine ⟨a, fun y hy => ?_, ?_⟩
      · rcases List.mem_cons.mp hy with rfl | hy
        · omega
        · exact b y hy
      · rcases c with c | c
        · exact .inl c
        · exact .inr (List.mem_cons_of_mem _ c)
/-- the least of whole numbers -/
theorem blt_minL {xs : List Int} {m : Int} (h : m ∈ xs) (h2 : ∀ y ∈ xs, m ≤ y) : evBlt .min [.list (xs.map .int)] = some ⟨.int m, false⟩ := by
  cases xs with
  | nil => cases h
  | cons x r =>
    show (bestB false ((x :: r).map .int)).map _ = _
    rw [show bestB false ((x :: r).map PyData.int) = _ from bestB_toD (α := Int) false x r (by decide)]
    obtain ⟨a, b, c⟩ := minOf_le r x
    have e : PySem.W.minOf x r = m := by
      have h3 : m ≤ PySem.W.minOf x r := by
        rcases c with c | c
        · rw [c]; exact h2 x List.mem_cons_self
        · exact h2 _ (List.mem_cons_of_mem _ c)
      have h4 : PySem.W.minOf x r ≤ m := by
        rcases List.mem_cons.mp h with rfl | h
        · exact a
        · exact b m h
      omega
    show some (⟨.int (PySem.W.minOf x r), false⟩ : RV) = _
    rw [e]
theorem blt_maxL {xs : List Int} {m : Int} (h : m ∈ xs) (h2 : ∀ y ∈ xs, y ≤ m) : evBlt .max [.list (xs.map .int)] = some ⟨.int m, false⟩ := by
  cases xs with
  | nil => cases h
  | cons x r =>
    show (bestB true ((x :: r).map .int)).map _ = _
    rw [show bestB true ((x :: r).map PyData.int) = _ from bestB_toD (α := Int) true x r (by decide)]
    obtain ⟨a, b, c⟩ := maxOf_le r x
    have e : PySem.W.maxOf x r = m := by
      have h3 : PySem.W.maxOf x r ≤ m := by
        rcases c with c | c
        · rw [c]; exact h2 x List.mem_cons_self
        · exact h2 _ (List.mem_cons_of_mem _ c)
      have h4 : m ≤ PySem.W.maxOf x r := by
        rcases List.mem_cons.mp h with rfl | h
        · exact a
        · exact b m h
      omega
    show some (⟨.int (PySem.W.maxOf x r), false⟩ : RV) = _
    rw [e]
theorem lkp_put (kvs : List (L2.Key × PV)) (k k' : L2.Key) (v : PV) : lkp (putP kvs k v) k' = if k' = k then some v else lkp kvs k' := by
  have hm : ∀ kvs : List (L2.Key × PV), lkp (kvs.map fun kv => if kv.1 = k then (kv.1, v) else kv) k' = if k' = k then (if (kvs.any fun kv => decide (kv.1 = k)) = true then some v else none) else lkp kvs k' := fun kvs => by
    induction kvs with
    | nil => unfold lkp; simp
    | cons q r ih =>
      rw [List.map_cons]
      by_cases h : q.1 = k
      · rw [if_pos h]
        by_cases h2 : k' = k
        · rw [if_pos h2]
          unfold lkp
          rw [List.find?_cons]
          simp [h, h2]
        · rw [if_neg h2] at ih ⊢
          have : ¬ q.1 = k' := fun e => h2 (e.symm.trans h)
          unfold lkp at ih ⊢
          rw [List.find?_cons, List.find?_cons]
          simp only [this, decide_false]
          exact ih
      · rw [if_neg h]
        by_cases h2 : k' = k
        · rw [if_pos h2] at ih ⊢
          have : ¬ q.1 = k' := fun e => h (e.trans h2)
          unfold lkp at ih ⊢
          rw [List.find?_cons]
          simp only [this, decide_false, List.any_cons, h, Bool.false_or]
          exact ih
        · rw [if_neg h2] at ih ⊢
          unfold lkp at ih ⊢
          rw [List.find?_cons, List.find?_cons]
          split
          · rfl
          · exact ih
  unfold putP
  by_cases ha : (kvs.any fun kv => decide (kv.1 = k)) = true
  · rw [if_pos ha, hm]
    simp only [ha, if_true]
  · rw [if_neg ha]
    have nf : ∀ kvs : List (L2.Key × PV), ¬ (kvs.any fun kv => decide (kv.1 = k)) = true → lkp (kvs ++ [(k, v)]) k' = if k' = k then some v else lkp kvs k' := fun kvs => by
      induction kvs with
      | nil =>
        intro _
        unfold lkp
        by_cases h2 : k' = k
        · subst h2; simp
        · have : ¬ k = k' := fun e => h2 e.symm
          simp [h2, this]
      | cons q r ih =>
        intro hn
        rw [List.any_cons, Bool.or_eq_true, not_or] at hn
        have hq : ¬ q.1 = k := by simpa using hn.1
        have ih := ih hn.2
        rw [List.cons_append]
        unfold lkp at ih ⊢
        rw [List.find?_cons, List.find?_cons]
        by_cases h3 : q.1 = k'
        · have : ¬ k' = k := fun e => hq (h3.trans e)
          simp [h3, this]
        · simp only [h3, decide_false]
          exact ih
    exact nf kvs ha
theorem putP_len (kvs : List (L2.Key × PV)) (k : L2.Key) (v : PV) : (putP kvs k v).length ≤ kvs.length + 1 := by
  unfold putP
  split
  · rw [List.length_map]; omega
  · rw [List.length_append]; simp
end Pz
set_option Elab.async false
set_option linter.all false
set_option maxRecDepth 100000
/-! the defs of the text, in the own syntax (printed by gen.py) -/
namespace K55
open PySem Pz L2
def topS (i : Nat) : Stmt := PySem.Challenge.pw_lentkept_k55_whole_torn_held_and_mended.main.body.getD i (.Pass ⟨0, 0, 0, 0⟩)
def l_gaps_of_1 : Tb :=
  (.cons (.ife (.cmp .eq (.var 5) (.var 1)) (.cons (.ife (.cmp .ne (.var 6) (.var 2)) (.cons (.app 3 (.var 4))
  (.fgt 4 (.fgt 5 (.fgt 6 (.fgt 8 .nil))))) .nil)
  (.fgt 4 (.fgt 5 (.fgt 6 (.fgt 8 (.cons (.set 2 false (.var 7))
  (.fgt 7 .nil))))))) .nil)
  (.fgt 4 (.fgt 5 (.fgt 6 (.fgt 7 (.fgt 8 .nil))))))
def b_gaps_of : Tb :=
  (.cons (.par 2 3 false true (.int 0) (.lst .nil))
  (.cons (.for_ (.tp (.cons (.nm 4) (.cons (.tp (.cons (.nm 5) (.cons (.nm 6) (.cons (.nm 7) (.cons (.nm 8) .nil))))) .nil))) (.enum (.var 0)) l_gaps_of_1)
  (.fgt 2 (.fgt 4 (.fgt 5 (.fgt 6 (.fgt 7 (.fgt 8 (.cons (.ret (.blt .tuple (.cons (.var 3) .nil)))
  .nil)))))))))
def d_gaps_of : DefR := ⟨"gaps_of", ["torn", "thing"], ["torn", "thing", "place", "found", "index", "other", "begin", "end", "_"], b_gaps_of, topS 2, []⟩
def b_least_lost : Tb :=
  (.cons (.ret (.blt .sum (.cons (.comp (.blt .len (.cons (.call "gaps_of" (.cons (.var 0) (.cons (.var 1) .nil))) .nil)) (.nm 1) (.rng1 (.glob "THINGS")) .nil [("thing", 1)]) .nil)))
  .nil)
def d_least_lost : DefR := ⟨"least_lost", ["torn"], ["torn", "thing"], b_least_lost, topS 3, []⟩
def b_within : Tb :=
  (.cons (.ret (.blt .all (.cons (.comp (.cmp .le (.blt .max (.cons (.idx (.var 2) (.int 1)) (.cons (.idx (.var 2) (.int 2)) .nil))) (.var 1)) (.nm 2) (.seq (.var 0)) .nil [("slip", 2)]) .nil)))
  .nil)
def d_within : DefR := ⟨"_within", ["slips", "h"], ["slips", "h", "slip"], b_within, topS 4, []⟩
def l_around_1 : Tb :=
  (.cons (.ife (.cmp .eq (.var 4) (.var 1)) (.cons (.ife (.cmp .gt (.var 7) (.var 2)) (.cons (.ret (.tup (.cons (.var 3) (.cons (.lst (.cons (.var 5) .nil)) .nil))))
  .nil) .nil)
  (.fgt 4 (.fgt 5 (.fgt 7 (.cons (.set 3 false (.lst (.cons (.var 6) .nil)))
  (.fgt 6 .nil)))))) .nil)
  (.fgt 4 (.fgt 5 (.fgt 6 (.fgt 7 .nil)))))
def b_around : Tb :=
  (.cons (.set 3 false (.lst (.cons (.int 0) .nil)))
  (.cons (.for_ (.tp (.cons (.nm 4) (.cons (.nm 5) (.cons (.nm 6) (.cons (.nm 7) .nil))))) (.seq (.var 0)) l_around_1)
  (.fgt 4 (.fgt 5 (.fgt 6 (.fgt 7 (.cons (.ret (.tup (.cons (.var 3) (.cons (.lst .nil) .nil))))
  .nil)))))))
def d_around : DefR := ⟨"_around", ["torn", "thing", "day"], ["torn", "thing", "day", "left", "other", "begin", "end", "when"], b_around, topS 5, []⟩
def b_changes : Tb :=
  (.cons (.ret (.blt .len (.cons (.comp (.int 1) (.tp (.cons (.nm 1) (.cons (.nm 2) .nil))) (.zip (.var 0) (.cut (.var 0) (.so (.int 1)) .no)) (.cons (.cmp .ne (.var 1) (.var 2)) .nil) [("one", 1), ("other", 2)]) .nil)))
  .nil)
def d_changes : DefR := ⟨"_changes", ["row"], ["row", "one", "other"], b_changes, topS 6, []⟩
def b_could_hold : Tb :=
  (.cons (.ife (.not (.call "_within" (.cons (.var 0) (.cons (.var 3) .nil)))) (.cons (.ret (.tup .nil))
  .nil) .nil)
  (.cons (.asg (.tp (.cons (.nm 5) (.cons (.nm 6) .nil))) (.call "_around" (.cons (.var 0) (.cons (.var 1) (.cons (.var 2) .nil)))))
  (.cons (.set 7 false (.bin .sub (.call "least_lost" (.cons (.var 0) .nil)) (.call "_changes" (.cons (.bin .add (.var 5) (.var 6)) .nil))))
  (.cons (.ret (.blt .tuple (.cons (.comp (.var 8) (.nm 8) (.rng1 (.bin .add (.var 3) (.int 1))) (.cons (.cmp .le (.bin .add (.var 7) (.call "_changes" (.cons (.bin .add (.bin .add (.var 5) (.lst (.cons (.var 8) .nil))) (.var 6)) .nil))) (.var 4)) .nil) [("holder", 8)]) .nil)))
  .nil))))
def d_could_hold : DefR := ⟨"could_hold", ["torn", "thing", "day", "h", "k"], ["torn", "thing", "day", "h", "k", "left", "taken", "others", "holder"], b_could_hold, topS 7, []⟩
def b_surely_held : Tb :=
  (.cons (.set 5 false (.call "could_hold" (.cons (.var 0) (.cons (.var 1) (.cons (.var 2) (.cons (.var 3) (.cons (.var 4) .nil)))))))
  (.cons (.ret (.ife (.cmp .eq (.blt .len (.cons (.var 5) .nil)) (.int 1)) (.idx (.var 5) (.int 0)) .non))
  .nil))
def d_surely_held : DefR := ⟨"surely_held", ["torn", "thing", "day", "h", "k"], ["torn", "thing", "day", "h", "k", "holders"], b_surely_held, topS 8, []⟩
def l_least_mend_1 : Tb :=
  (.cons (.ife (.cmp .ne (.idx (.var 1) (.var 3)) (.var 4)) (.cons (.app 2 (.tup (.cons (.var 3) (.cons (.idx (.var 1) (.var 3)) (.cons (.var 4) (.cons (.var 6) .nil))))))
  .nil) .nil)
  (.cons (.app 2 (.tup (.cons (.var 3) (.cons (.var 4) (.cons (.var 5) (.cons (.var 6) .nil))))))
  (.fgt 4 (.fgt 6 (.cons (.setix 1 (.var 3) (.var 5))
  (.fgt 3 (.fgt 5 .nil)))))))
def b_least_mend : Tb :=
  (.cons (.par 1 2 true true (.bin .mul (.lst (.cons (.int 0) .nil)) (.glob "THINGS")) (.lst .nil))
  (.cons (.for_ (.tp (.cons (.nm 3) (.cons (.nm 4) (.cons (.nm 5) (.cons (.nm 6) .nil))))) (.seq (.var 0)) l_least_mend_1)
  (.fgt 1 (.fgt 3 (.fgt 4 (.fgt 5 (.fgt 6 (.cons (.ret (.blt .tuple (.cons (.var 2) .nil)))
  .nil))))))))
def d_least_mend : DefR := ⟨"least_mend", ["torn"], ["torn", "places", "found", "thing", "begin", "end", "day"], b_least_mend, topS 9, []⟩
def b_is_whole : Tb :=
  (.cons (.ret (.and (.isi (.var 0) .int) (.and (.not (.isi (.var 0) .bool)) (.chain .le .le (.int 0) (.var 0) (.var 1)))))
  .nil)
def d_is_whole : DefR := ⟨"is_whole", ["value", "most"], ["value", "most"], b_is_whole, topS 16, []⟩
def b_is_slip : Tb :=
  (.cons (.ife (.or (.not (.isi (.var 0) .tuple)) (.cmp .ne (.blt .len (.cons (.var 0) .nil)) (.int 4))) (.cons (.ret (.bl false))
  .nil) .nil)
  (.cons (.asg (.tp (.cons (.nm 1) (.cons (.nm 2) (.cons (.nm 3) (.cons (.nm 4) .nil))))) (.var 0))
  (.cons (.ret (.and (.call "is_whole" (.cons (.var 1) (.cons (.int 9) .nil))) (.and (.call "is_whole" (.cons (.var 2) (.cons (.int 9) .nil))) (.and (.call "is_whole" (.cons (.var 3) (.cons (.int 9) .nil))) (.and (.call "is_whole" (.cons (.var 4) (.cons (.int 99) .nil))) (.cmp .ne (.var 2) (.var 3)))))))
  .nil)))
def d_is_slip : DefR := ⟨"is_slip", ["value"], ["value", "thing", "giver", "taker", "day"], b_is_slip, topS 17, []⟩
def l_check_history_1 : Tb :=
  (.cons (.ife (.cmp .ne (.dgetd 1 (.var 2) (.glob "HOUSE")) (.var 3)) (.cons .rse
  .nil) .nil)
  (.fgt 3 (.fgt 5 (.cons (.dset 1 (.var 2) (.var 4))
  (.fgt 2 (.fgt 4 .nil))))))
def b_check_history : Tb :=
  (.cons (.ife (.or (.not (.isi (.var 0) .tuple)) (.or (.cmp .gt (.blt .len (.cons (.var 0) .nil)) (.glob "MOST_SLIPS")) (.not (.blt .all (.cons (.comp (.call "is_slip" (.cons (.var 7) .nil)) (.nm 7) (.seq (.var 0)) .nil [("slip", 7)]) .nil))))) (.cons .rse
  .nil) .nil)
  (.cons (.ife (.blt .any (.cons (.comp (.cmp .gt (.idx (.idx (.var 0) (.var 6)) (.int 3)) (.idx (.idx (.var 0) (.bin .add (.var 6) (.int 1))) (.int 3))) (.nm 6) (.rng1 (.bin .sub (.blt .len (.cons (.var 0) .nil)) (.int 1))) .nil [("place", 6)]) .nil)) (.cons .rse
  .nil) .nil)
  (.cons (.dnew 1)
  (.cons (.for_ (.tp (.cons (.nm 2) (.cons (.nm 3) (.cons (.nm 4) (.cons (.nm 5) .nil))))) (.seq (.var 0)) l_check_history_1)
  (.fgt 1 (.fgt 2 (.fgt 3 (.fgt 4 (.fgt 5 .nil)))))))))
def d_check_history : DefR := ⟨"check_history", ["value"], ["value", "where", "thing", "giver", "taker", "day", "place", "slip"], b_check_history, topS 18, []⟩
def b_law_mixed : Tb :=
  (.cons (.set 2 false (.int 0))
  (.cons (.ife (.cmp .gt (.blt .len (.cons (.var 0) .nil)) (.int 0)) (.cons (.set 2 false (.idx (.var 0) (.bin .mod (.var 1) (.blt .len (.cons (.var 0) .nil)))))
  .nil) .nil)
  (.cons (.set 3 false (.bin .mod (.blt .int (.cons (.bin .add (.bin .add (.bin .mul (.var 2) (.int 48271)) (.bin .mul (.var 1) (.int 69621))) (.int 8191)) .nil)) (.int 2147483647)))
  (.fgt 2 (.cons (.set 4 false (.bin .mod (.blt .int (.cons (.bin .add (.bin .add (.bin .mul (.var 3) (.var 3)) (.bin .fdiv (.var 3) (.int 7))) (.bin .mul (.var 1) (.int 16807))) .nil)) (.int 2147483629)))
  (.fgt 3 (.cons (.set 5 false (.bin .mod (.blt .int (.cons (.bin .add (.bin .add (.bin .mul (.var 4) (.var 4)) (.bin .fdiv (.var 4) (.int 11))) (.int 40692)) .nil)) (.int 2147483563)))
  (.fgt 4 (.cons (.ret (.bin .mod (.bin .fdiv (.var 5) (.int 5)) (.int 1000003)))
  .nil)))))))))
def d_law_mixed : DefR := ⟨"_law_mixed", ["script", "k"], ["script", "k", "cell", "first", "second", "third"], b_law_mixed, topS 20, []⟩
def l_law_row_1 : Tb :=
  (.cons (.ife (.cmp .gt (.var 2) (.int 0)) (.cons (.app 3 (.bin .mod (.blt .int (.cons (.var 2) .nil)) (.int 1000)))
  (.fgt 4 (.cons (.set 2 false (.bin .fdiv (.var 2) (.int 1000)))
  .nil))) (.cons (.app 3 (.call "_law_mixed" (.cons (.var 0) (.cons (.var 4) .nil))))
  (.fgt 4 .nil)))
  (.fgt 4 .nil))
def b_law_row : Tb :=
  (.cons (.set 2 false (.int 0))
  (.cons (.ife (.and (.cmp .gt (.blt .len (.cons (.var 0) .nil)) (.int 0)) (.cmp .ge (.idx (.var 0) (.int 0)) (.bin .pow (.int 10) (.int 18)))) (.cons (.set 2 false (.idx (.var 0) (.int 0)))
  .nil) .nil)
  (.cons (.set 3 true (.lst .nil))
  (.cons (.for_ (.nm 4) (.rng1 (.var 1)) l_law_row_1)
  (.fgt 2 (.fgt 4 (.cons (.retO 3)
  .nil)))))))
def d_law_row : DefR := ⟨"_law_row", ["script", "many"], ["script", "many", "big", "row", "k"], b_law_row, topS 21, []⟩
def b_law_is_int : Tb :=
  (.cons (.ret (.and (.isi (.var 0) .int) (.not (.isi (.var 0) .bool))))
  .nil)
def d_law_is_int : DefR := ⟨"_law_is_int", ["value"], ["value"], b_law_is_int, topS 22, []⟩
def b_law_like : Tb :=
  (.cons (.ife (.isN (.var 1)) (.cons (.ret (.isN (.var 0)))
  .nil) .nil)
  (.cons (.ife (.isi (.var 1) .bool) (.cons (.ret (.and (.isi (.var 0) .bool) (.cmp .eq (.var 0) (.var 1))))
  .nil) .nil)
  (.cons (.ife (.isi (.var 1) .tuple) (.cons (.ife (.or (.not (.isi (.var 0) .tuple)) (.cmp .ne (.blt .len (.cons (.var 0) .nil)) (.blt .len (.cons (.var 1) .nil)))) (.cons (.ret (.bl false))
  .nil) .nil)
  (.cons (.ret (.blt .all (.cons (.comp (.call "_law_like" (.cons (.idx (.var 0) (.var 2)) (.cons (.idx (.var 1) (.var 2)) .nil))) (.nm 2) (.rng1 (.blt .len (.cons (.var 1) .nil))) .nil [("k", 2)]) .nil)))
  .nil)) .nil)
  (.cons (.ife (.isi (.var 1) .str) (.cons (.ret (.and (.isi (.var 0) .str) (.cmp .eq (.var 0) (.var 1))))
  .nil) .nil)
  (.cons (.ret (.and (.call "_law_is_int" (.cons (.var 0) .nil)) (.cmp .eq (.var 0) (.var 1))))
  .nil)))))
def d_law_like : DefR := ⟨"_law_like", ["value", "due"], ["value", "due", "k"], b_law_like, topS 23, []⟩
def l_law_torn_1 : Tb :=
  (.cons (.set 8 false (.bin .add (.var 1) (.bin .mod (.blt .int (.cons (.idx (.var 0) (.bin .add (.int 5) (.var 7))) .nil)) (.int 3))))
  (.cons (.set 9 false (.bin .mod (.bin .fdiv (.blt .int (.cons (.idx (.var 0) (.bin .add (.int 5) (.var 7))) .nil)) (.int 3)) (.bin .add (.var 2) (.int 1))))
  (.cons (.ife (.cmp .gt (.bin .mod (.blt .int (.cons (.idx (.var 0) (.bin .add (.int 15) (.var 7))) .nil)) (.int 3)) (.int 0)) (.cons (.set 9 false (.idx (.var 4) (.var 8)))
  .nil) .nil)
  (.cons (.set 10 false (.bin .mod (.blt .int (.cons (.bin .add (.bin .add (.var 9) (.int 1)) (.bin .mod (.bin .fdiv (.blt .int (.cons (.idx (.var 0) (.bin .add (.int 15) (.var 7))) .nil)) (.int 3)) (.var 2))) .nil)) (.bin .add (.var 2) (.int 1))))
  (.cons (.set 5 false (.bin .add (.var 5) (.bin .mod (.blt .int (.cons (.idx (.var 0) (.bin .add (.int 25) (.var 7))) .nil)) (.idx (.tup (.cons (.int 3) (.cons (.int 10) .nil))) (.blt .int (.cons (.cmp .eq (.bin .mod (.blt .int (.cons (.idx (.var 0) (.int 35)) .nil)) (.int 3)) (.int 0)) .nil))))))
  (.fgt 7 (.cons (.app 6 (.tup (.cons (.var 8) (.cons (.var 9) (.cons (.var 10) (.cons (.var 5) .nil))))))
  (.fgt 9 (.cons (.setix 4 (.var 8) (.var 10))
  (.fgt 8 (.fgt 10 .nil)))))))))))
def b_law_torn : Tb :=
  (.cons (.par3 1 2 3 false false false (.bin .mod (.blt .int (.cons (.idx (.var 0) (.int 0)) .nil)) (.int 8)) (.idx (.tup (.cons (.int 3) (.cons (.int 9) .nil))) (.blt .int (.cons (.cmp .eq (.bin .mod (.blt .int (.cons (.idx (.var 0) (.int 1)) .nil)) (.int 4)) (.int 0)) .nil))) (.bin .mod (.blt .int (.cons (.idx (.var 0) (.int 2)) .nil)) (.int 7)))
  (.cons (.ife (.cmp .eq (.bin .mod (.blt .int (.cons (.idx (.var 0) (.int 3)) .nil)) (.int 6)) (.int 0)) (.cons (.set 3 false (.int 10))
  .nil) .nil)
  (.cons (.par3 4 5 6 true false true (.bin .mul (.lst (.cons (.int 0) .nil)) (.int 10)) (.bin .mod (.blt .int (.cons (.idx (.var 0) (.int 4)) .nil)) (.int 10)) (.lst .nil))
  (.cons (.for_ (.nm 7) (.rng1 (.var 3)) l_law_torn_1)
  (.fgt 1 (.fgt 2 (.fgt 3 (.fgt 4 (.fgt 5 (.fgt 7 (.fgt 8 (.fgt 9 (.fgt 10 (.cons (.ret (.blt .tuple (.cons (.var 6) .nil)))
  .nil))))))))))))))
def d_law_torn : DefR := ⟨"_law_torn", ["row"], ["row", "base", "top", "many", "where", "day", "found", "k", "thing", "giver", "taker"], b_law_torn, topS 24, []⟩
def b_law_spread : Tb :=
  (.cons (.set 1 false (.bin .add (.blt .min (.cons (.var 0) .nil)) (.int 1)))
  (.cons (.ret (.comp (.blt .min (.cons (.var 2) (.cons (.var 1) .nil))) (.nm 2) (.seq (.var 0)) .nil [("cost", 2)]))
  .nil))
def d_law_spread : DefR := ⟨"_law_spread", ["costs"], ["costs", "least", "cost"], b_law_spread, topS 25, []⟩
def b_law_only : Tb :=
  (.cons (.set 2 true (.bin .mul (.lst (.cons (.int 99) .nil)) (.blt .len (.cons (.var 0) .nil))))
  (.cons (.setix 2 (.var 1) (.idx (.var 0) (.var 1)))
  (.cons (.retO 2)
  .nil)))
def d_law_only : DefR := ⟨"_law_only", ["costs", "holder"], ["costs", "holder", "found"], b_law_only, topS 26, []⟩
def l_law_fewest_1 : Tb :=
  (.cons (.ife (.cmp .eq (.var 7) (.var 1)) (.cons (.ife (.and (.cmp .gt (.var 10) (.var 3)) (.not (.var 6))) (.frz 5 (.cons (.par 5 6 true false (.call "_law_only" (.cons (.call "_law_spread" (.cons (.var 5) .nil)) (.cons (.var 4) .nil))) (.bl true))
  (.fgt 7 (.fgt 10 .nil)))) .nil)
  (.fgt 7 (.fgt 10 (.frz 5 (.cons (.set 11 false (.idx (.call "_law_spread" (.cons (.var 5) .nil)) (.var 8)))
  (.fgt 5 (.fgt 8 (.cons (.set 5 true (.bin .mul (.lst (.cons (.int 99) .nil)) (.bin .add (.var 2) (.int 1))))
  (.cons (.setix 5 (.var 9) (.var 11))
  (.fgt 9 (.fgt 11 .nil))))))))))) .nil)
  (.fgt 7 (.fgt 8 (.fgt 9 (.fgt 10 (.fgt 11 .nil))))))
def b_law_fewest : Tb :=
  (.cons (.par 5 6 true false (.bin .add (.lst (.cons (.int 0) .nil)) (.bin .mul (.lst (.cons (.int 99) .nil)) (.var 2))) (.cmp .lt (.var 4) (.int 0)))
  (.cons (.for_ (.tp (.cons (.nm 7) (.cons (.nm 8) (.cons (.nm 9) (.cons (.nm 10) .nil))))) (.seq (.var 0)) l_law_fewest_1)
  (.fgt 7 (.fgt 8 (.fgt 9 (.fgt 10 (.fgt 11 (.cons (.ife (.not (.var 6)) (.frz 5 (.cons (.set 5 true (.call "_law_only" (.cons (.call "_law_spread" (.cons (.var 5) .nil)) (.cons (.var 4) .nil))))
  (.fgt 6 .nil))) .nil)
  (.fgt 6 (.cons (.ret (.blt .min (.cons (.var 5) .nil)))
  .nil))))))))))
def d_law_fewest : DefR := ⟨"_law_fewest", ["torn", "thing", "h", "day", "holder"], ["torn", "thing", "h", "day", "holder", "costs", "asked", "own", "giver", "taker", "when", "least"], b_law_fewest, topS 27, []⟩
def l_law_held_right_1 : Tb :=
  (.cons (.par 8 9 false false (.blt .tuple (.cons (.comp (.var 10) (.nm 10) (.rng1 (.bin .add (.var 3) (.int 1))) (.cons (.cmp .le (.idx (.var 6) (.var 10)) (.var 7)) .nil) [("holder", 10)]) .nil)) .non)
  (.cons (.ife (.cmp .eq (.blt .len (.cons (.var 8) .nil)) (.int 1)) (.cons (.set 9 false (.idx (.var 8) (.int 0)))
  .nil) .nil)
  (.cons (.ife (.not (.call "_law_like" (.cons (.call "could_hold" (.cons (.var 0) (.cons (.var 1) (.cons (.var 2) (.cons (.var 3) (.cons (.var 7) .nil)))))) (.cons (.var 8) .nil)))) (.cons (.ret (.bl false))
  .nil) .nil)
  (.fgt 8 (.cons (.ife (.not (.call "_law_like" (.cons (.call "surely_held" (.cons (.var 0) (.cons (.var 1) (.cons (.var 2) (.cons (.var 3) (.cons (.var 7) .nil)))))) (.cons (.var 9) .nil)))) (.cons (.ret (.bl false))
  .nil) .nil)
  (.fgt 7 (.fgt 9 .nil)))))))
def b_law_held_right : Tb :=
  (.cons (.set 4 false (.blt .sum (.cons (.comp (.call "_law_fewest" (.cons (.var 0) (.cons (.var 11) (.cons (.var 3) (.cons (.var 2) (.cons (.neg (.int 1)) .nil)))))) (.nm 11) (.rng1 (.int 10)) .nil [("one", 11)]) .nil)))
  (.cons (.set 5 false (.bin .sub (.var 4) (.call "_law_fewest" (.cons (.var 0) (.cons (.var 1) (.cons (.var 3) (.cons (.var 2) (.cons (.neg (.int 1)) .nil))))))))
  (.cons (.set 6 false (.comp (.bin .add (.var 5) (.call "_law_fewest" (.cons (.var 0) (.cons (.var 1) (.cons (.var 3) (.cons (.var 2) (.cons (.var 10) .nil))))))) (.nm 10) (.rng1 (.bin .add (.var 3) (.int 1))) .nil [("holder", 10)]))
  (.fgt 5 (.cons (.ife (.not (.call "_law_like" (.cons (.call "least_lost" (.cons (.var 0) .nil)) (.cons (.var 4) .nil)))) (.cons (.ret (.bl false))
  .nil) .nil)
  (.cons (.for_ (.nm 7) (.rng1 (.bin .add (.var 4) (.int 3))) l_law_held_right_1)
  (.fgt 4 (.fgt 6 (.fgt 7 (.fgt 8 (.fgt 9 (.cons (.ret (.bl true))
  .nil))))))))))))
def d_law_held_right : DefR := ⟨"_law_held_right", ["torn", "thing", "day", "h"], ["torn", "thing", "day", "h", "lost", "others", "needed", "more", "due", "sure", "holder", "one"], b_law_held_right, topS 28, []⟩
def l_law_mended_right_1 : Tb :=
  (.cons (.ife (.cmp .ne (.idx (.var 1) (.var 3)) (.var 4)) (.cons (.app 2 (.tup (.cons (.var 3) (.cons (.idx (.var 1) (.var 3)) (.cons (.var 4) (.cons (.var 6) .nil))))))
  .nil) .nil)
  (.cons (.app 2 (.tup (.cons (.var 3) (.cons (.var 4) (.cons (.var 5) (.cons (.var 6) .nil))))))
  (.fgt 4 (.fgt 6 (.cons (.setix 1 (.var 3) (.var 5))
  (.fgt 3 (.fgt 5 .nil)))))))
def l_law_mended_right_2 : Tb :=
  (.cons (.ife (.cmp .eq (.idx (.idx (.var 0) (.var 10)) (.int 0)) (.var 3)) (.cons (.ife (.cmp .ne (.idx (.idx (.var 0) (.var 10)) (.int 1)) (.var 8)) (.cons (.app 9 (.var 10))
  .nil) .nil)
  (.cons (.set 8 false (.idx (.idx (.var 0) (.var 10)) (.int 2)))
  (.fgt 10 .nil))) .nil)
  (.fgt 10 .nil))
def l_law_mended_right_3 : Tb :=
  (.cons (.par 8 9 false true (.int 0) (.lst .nil))
  (.cons (.for_ (.nm 10) (.rng1 (.blt .len (.cons (.var 0) .nil))) l_law_mended_right_2)
  (.fgt 8 (.fgt 10 (.cons (.ife (.not (.call "_law_like" (.cons (.call "gaps_of" (.cons (.var 0) (.cons (.var 3) .nil))) (.cons (.blt .tuple (.cons (.var 9) .nil)) .nil)))) (.cons (.ret (.bl false))
  .nil) .nil)
  (.fgt 3 (.fgt 9 .nil)))))))
def b_law_mended_right : Tb :=
  (.cons (.par 1 2 true true (.bin .mul (.lst (.cons (.int 0) .nil)) (.int 10)) (.lst .nil))
  (.cons (.for_ (.tp (.cons (.nm 3) (.cons (.nm 4) (.cons (.nm 5) (.cons (.nm 6) .nil))))) (.seq (.var 0)) l_law_mended_right_1)
  (.fgt 1 (.fgt 3 (.fgt 4 (.fgt 5 (.fgt 6 (.cons (.ife (.not (.call "_law_like" (.cons (.call "least_lost" (.cons (.var 0) .nil)) (.cons (.bin .sub (.blt .len (.cons (.var 2) .nil)) (.blt .len (.cons (.var 0) .nil))) .nil)))) (.cons (.ret (.bl false))
  .nil) .nil)
  (.cons (.for_ (.nm 3) (.rng1 (.int 10)) l_law_mended_right_3)
  (.fgt 3 (.fgt 8 (.fgt 9 (.fgt 10 (.cons (.set 7 false (.call "least_mend" (.cons (.var 0) .nil)))
  (.cons (.ret (.and (.call "_law_like" (.cons (.var 7) (.cons (.blt .tuple (.cons (.var 2) .nil)) .nil))) (.isN (.call "check_history" (.cons (.var 7) .nil)))))
  .nil)))))))))))))))
def d_law_mended_right : DefR := ⟨"_law_mended_right", ["torn"], ["torn", "where", "due", "thing", "giver", "taker", "day", "mend", "last", "gaps", "k"], b_law_mended_right, topS 29, []⟩
def l_law_1 : Tb :=
  (.cons (.ife (.not (.call "_law_held_right" (.cons (.var 9) (.cons (.var 3) (.cons (.bin .sub (.var 5) (.int 1)) (.cons (.var 10) .nil)))))) (.cons (.ret (.bl false))
  .nil) .nil)
  (.fgt 9 (.fgt 10 .nil)))
def b_law : Tb :=
  (.cons (.set 1 false (.call "_law_row" (.cons (.var 0) (.cons (.int 44) .nil))))
  (.cons (.set 2 false (.call "_law_torn" (.cons (.var 1) .nil)))
  (.cons (.par 3 4 false false (.bin .add (.int 3) (.bin .mod (.blt .int (.cons (.idx (.var 1) (.int 38)) .nil)) (.int 7))) (.bin .mod (.bin .fdiv (.blt .int (.cons (.idx (.var 1) (.int 38)) .nil)) (.int 7)) (.int 3)))
  (.cons (.par 5 6 false false (.bin .add (.int 1) (.bin .mod (.blt .int (.cons (.idx (.var 1) (.int 39)) .nil)) (.int 90))) (.bin .add (.int 1) (.bin .mod (.blt .int (.cons (.idx (.var 1) (.int 40)) .nil)) (.int 2))))
  (.cons (.ife (.not (.call "_law_like" (.cons (.call "least_lost" (.cons (.tup (.cons (.tup (.cons (.var 3) (.cons (.int 1) (.cons (.int 2) (.cons (.var 5) .nil))))) .nil)) .nil)) (.cons (.int 1) .nil)))) (.cons (.ret (.bl false))
  .nil) .nil)
  (.cons (.par 7 8 false false (.tup (.cons (.tup (.cons (.var 3) (.cons (.int 0) (.cons (.var 6) (.cons (.var 5) .nil))))) .nil)) (.tup (.cons (.tup (.cons (.var 3) (.cons (.var 6) (.cons (.int 0) (.cons (.var 5) .nil))))) .nil)))
  (.cons (.for_ (.tp (.cons (.nm 9) (.cons (.nm 10) .nil))) (.seq (.tup (.cons (.tup (.cons (.tup .nil) (.cons (.var 6) .nil))) (.cons (.tup (.cons (.tup .nil) (.cons (.int 5) .nil))) (.cons (.tup (.cons (.var 7) (.cons (.bin .add (.int 2) (.var 6)) .nil))) (.cons (.tup (.cons (.var 8) (.cons (.int 4) .nil))) .nil)))))) l_law_1)
  (.fgt 7 (.fgt 8 (.fgt 9 (.fgt 10 (.cons (.set 11 false (.tup (.cons (.tup (.cons (.var 4) (.cons (.int 0) (.cons (.int 1) (.cons (.var 5) .nil))))) (.cons (.tup (.cons (.var 3) (.cons (.var 6) (.cons (.bin .add (.var 6) (.int 1)) (.cons (.bin .add (.var 5) (.int 5)) .nil))))) .nil))))
  (.fgt 3 (.fgt 4 (.fgt 5 (.fgt 6 (.cons (.ife (.or (.not (.call "_law_mended_right" (.cons (.var 11) .nil))) (.not (.call "_law_mended_right" (.cons (.var 2) .nil)))) (.cons (.ret (.bl false))
  .nil) .nil)
  (.fgt 11 (.cons (.set 12 false (.blt .max (.cons (.bin .add (.lst (.cons (.int 1) .nil)) (.comp (.blt .max (.cons (.idx (.var 16) (.int 1)) (.cons (.idx (.var 16) (.int 2)) .nil))) (.nm 16) (.seq (.var 2)) .nil [("slip", 16)])) .nil)))
  (.cons (.par3 13 14 15 false false false (.bin .add (.var 12) (.bin .mod (.blt .int (.cons (.idx (.var 1) (.int 36)) .nil)) (.bin .sub (.int 10) (.var 12)))) (.bin .mod (.blt .int (.cons (.idx (.var 1) (.int 37)) .nil)) (.int 10)) (.lst (.cons (.bin .mod (.blt .int (.cons (.idx (.var 1) (.int 41)) .nil)) (.int 100)) (.cons (.bin .mod (.blt .int (.cons (.idx (.var 1) (.int 43)) .nil)) (.int 30)) .nil))))
  (.fgt 12 (.cons (.ife (.and (.cmp .gt (.blt .len (.cons (.var 2) .nil)) (.int 0)) (.cmp .gt (.bin .mod (.blt .int (.cons (.idx (.var 1) (.int 42)) .nil)) (.int 4)) (.int 0))) (.cons (.set 16 false (.idx (.var 2) (.bin .mod (.bin .fdiv (.blt .int (.cons (.idx (.var 1) (.int 42)) .nil)) (.int 4)) (.blt .len (.cons (.var 2) .nil)))))
  (.fgt 1 (.fgt 14 (.fgt 15 (.cons (.par 14 15 false false (.idx (.var 16) (.int 0)) (.lst (.cons (.blt .max (.cons (.int 0) (.cons (.bin .sub (.idx (.var 16) (.int 3)) (.int 1)) .nil))) (.cons (.idx (.var 16) (.int 3)) .nil))))
  (.fgt 16 .nil)))))) .nil)
  (.fgt 1 (.fgt 16 (.cons (.ret (.blt .all (.cons (.comp (.call "_law_held_right" (.cons (.var 2) (.cons (.var 14) (.cons (.var 17) (.cons (.var 13) .nil))))) (.nm 17) (.seq (.var 15)) .nil [("when", 17)]) .nil)))
  .nil)))))))))))))))))))))))))
def d_law : DefR := ⟨"law", ["script"], ["script", "row", "torn", "one", "other", "day", "to", "lone", "back", "some", "greatest", "pair", "named", "h", "thing", "days", "slip", "when"], b_law, topS 30, []⟩
def glob : Str → Option PV := fun x => if x = ("THINGS" : Str) then some (.int 10) else if x = ("MOST_SLIPS" : Str) then some (.int 30) else if x = ("HOUSE" : Str) then some (.int 0) else none
def tbl : List DefR := [d_gaps_of, d_least_lost, d_within, d_around, d_changes, d_could_hold, d_surely_held, d_least_mend, d_is_whole, d_is_slip, d_check_history, d_law_mixed, d_law_row, d_law_is_int, d_law_like, d_law_torn, d_law_spread, d_law_only, d_law_fewest, d_law_held_right, d_law_mended_right, d_law]
theorem chk_gaps_of : d_gaps_of.chk = true := by decide +kernel
theorem chk_least_lost : d_least_lost.chk = true := by decide +kernel
theorem chk_within : d_within.chk = true := by decide +kernel
theorem chk_around : d_around.chk = true := by decide +kernel
theorem chk_changes : d_changes.chk = true := by decide +kernel
theorem chk_could_hold : d_could_hold.chk = true := by decide +kernel
theorem chk_surely_held : d_surely_held.chk = true := by decide +kernel
theorem chk_least_mend : d_least_mend.chk = true := by decide +kernel
theorem chk_is_whole : d_is_whole.chk = true := by decide +kernel
theorem chk_is_slip : d_is_slip.chk = true := by decide +kernel
theorem chk_check_history : d_check_history.chk = true := by decide +kernel
theorem chk_law_mixed : d_law_mixed.chk = true := by decide +kernel
theorem chk_law_row : d_law_row.chk = true := by decide +kernel
theorem chk_law_is_int : d_law_is_int.chk = true := by decide +kernel
theorem chk_law_like : d_law_like.chk = true := by decide +kernel
theorem chk_law_torn : d_law_torn.chk = true := by decide +kernel
theorem chk_law_spread : d_law_spread.chk = true := by decide +kernel
theorem chk_law_only : d_law_only.chk = true := by decide +kernel
theorem chk_law_fewest : d_law_fewest.chk = true := by decide +kernel
theorem chk_law_held_right : d_law_held_right.chk = true := by decide +kernel
theorem chk_law_mended_right : d_law_mended_right.chk = true := by decide +kernel
theorem chk_law : d_law.chk = true := by decide +kernel
end K55
set_option Elab.async false
set_option linter.all false
set_option maxRecDepth 100000
set_option maxHeartbeats 1000000
/-! k55: what the program's defs give. -/
namespace K55
open PySem Pz
theorem helps : Helps tbl := ⟨⟨_, rfl⟩, ⟨_, rfl⟩, ⟨_, rfl⟩, ⟨_, rfl⟩⟩
abbrev CF := callF glob tbl
structure Slip where
  t : Nat
  g : Nat
  k : Nat
  d : Nat
  deriving DecidableEq
def ps (s : Slip) : PV := .tuple [.int (s.t : Nat), .int (s.g : Nat), .int (s.k : Nat), .int (s.d : Nat)]
def pt (ts : List Slip) : PV := .tuple (ts.map ps)
def bn (b : Prop) [Decidable b] : Nat := if b then 1 else 0
/-! ### gaps -/
def gStep (x : Nat) (p : Nat × List Nat) (s : Slip × Nat) : Nat × List Nat := if s.1.t = x then (s.1.k, if s.1.g = p.1 then p.2 else p.2 ++ [s.2]) else p
def gapsF (ts : List Slip) (x : Nat) : List Nat := (ts.zipIdx.foldl (gStep x) (0, [])).2
def gapsN (x : Nat) : Nat → List Slip → Nat
  | _, [] => 0
  | l, s :: r => if s.t = x then bn (s.g ≠ l) + gapsN x s.k r else gapsN x l r
theorem gaps_len (x : Nat) : ∀ (ts : List Slip) (i l : Nat) (f : List Nat), ((ts.zipIdx i).foldl (gStep x) (l, f)).2.length = f.length + gapsN x l ts
  | [], i, l, f => by simp [gapsN]
  | s :: r, i, l, f => by
    rw [List.zipIdx_cons, List.foldl_cons]
    by_cases h : s.t = x
    · by_cases h2 : s.g = l
      · have : gStep x (l, f) (s, i) = (s.k, f) := by simp [gStep, h, h2]
        rw [this, gaps_len x r]; simp [gapsN, h, h2, bn]
      · have : gStep x (l, f) (s, i) = (s.k, f ++ [i]) := by simp [gStep, h, h2]
        rw [this, gaps_len x r]; simp [gapsN, h, h2, bn]; omega
    · have : gStep x (l, f) (s, i) = (l, f) := by simp [gStep, h]
      rw [this, gaps_len x r]; simp [gapsN, h]
theorem gaps_le (x : Nat) (ts : List Slip) : (gapsF ts x).length = gapsN x 0 ts := by
  have := gaps_len x ts 0 0 []
  unfold gapsF
  rw [this]; simp
theorem gapsN_le (x : Nat) : ∀ (l : Nat) (ts : List Slip), gapsN x l ts ≤ ts.length
  | _, [] => Nat.le_refl 0
  | l, s :: r => by
    have a := gapsN_le x s.k r
    have b := gapsN_le x l r
    have c : bn (s.g ≠ l) ≤ 1 := by unfold bn; split <;> omega
    rw [gapsN, List.length_cons]
    split <;> omega
theorem take_zip {α : Type} : ∀ (n i : Nat) (xs : List α), (xs.zipIdx i).take n = (xs.take n).zipIdx i
  | 0, _, xs => by simp
  | n + 1, _, [] => by simp
  | n + 1, i, x :: xs => by rw [List.zipIdx_cons, List.take_succ_cons, List.take_succ_cons, List.zipIdx_cons, take_zip n (i + 1) xs]
theorem foldG_le (x : Nat) : ∀ (ts : List Slip) (i l : Nat) (f : List Nat), ((ts.zipIdx i).foldl (gStep x) (l, f)).2.length ≤ f.length + ts.length := fun ts i l f => by
  rw [gaps_len]; have := gapsN_le x l ts; omega
theorem gaps_of_ok (k : Nat) (ts : List Slip) (x : Nat) (hl : ts.length ≤ 1000) : CF (k + 1) "gaps_of" [pt ts, .int x] = some ⟨pn (gapsF ts x), false⟩ := by
  rw [CF, call_eq (d := d_gaps_of) rfl rfl]
  have loop := loopF_st (body := evB (callF glob tbl k) glob l_gaps_of_1) (tg := .tp (.cons (.nm 4) (.cons (.tp (.cons (.nm 5) (.cons (.nm 6) (.cons (.nm 7) (.cons (.nm 8) .nil))))) .nil))) (e := fun p : Slip × Nat => .tuple [.int (p.2 : Nat), ps p.1]) (xs := ts.zipIdx)
    (fun i => [.val (pt ts), .val (.int x), .val (.int ((((ts.zipIdx).take i).foldl (gStep x) (0, [])).1 : Nat)), .own ((((ts.zipIdx).take i).foldl (gStep x) (0, [])).2.map fun n => .int (n : Nat)), .no, .no, .no, .no, .no]) fun i p hx => ⟨_, rfl, .inl ?_⟩
  · rw [List.take_length] at loop
    have it : items (pt ts) = some (ts.map ps) := rfl
    have e0 : ((((ts.zipIdx).take 0).foldl (gStep x) (0, [])).1 : Nat) = 0 := rfl
    have e1 : ((((ts.zipIdx).take 0).foldl (gStep x) (0, [])).2) = [] := rfl
    rw [e0, e1] at loop
    simp [d_gaps_of, b_gaps_of, evB, evS, evT, evE, evA, evR, evF, evI, evO, rd, rdS, slotR, init, slOf, outR, frzE, wipeS, it, enumL_map] at loop ⊢
    rw [loop]
    rfl
  · obtain ⟨hi, ex⟩ := List.getElem?_eq_some_iff.mp hx
    rw [List.length_zipIdx] at hi
    have tk : (ts.zipIdx).take (i + 1) = (ts.zipIdx).take i ++ [p] := by rw [List.take_add_one, hx]; rfl
    rw [tk, List.foldl_append, List.foldl_cons, List.foldl_nil]
    have bound : (((ts.zipIdx).take i).foldl (gStep x) (0, [])).2.length < LIM := by
      have e : (ts.zipIdx).take i = (ts.take i).zipIdx := take_zip i 0 ts
      rw [e]
      have := foldG_le x (ts.take i) 0 0 []
      simp at this
      unfold LIM; omega
    generalize ((ts.zipIdx).take i).foldl (gStep x) (0, []) = q at bound ⊢
    obtain ⟨l, f⟩ := q
    simp only at bound ⊢
    by_cases h : p.1.t = x
    · by_cases h2 : p.1.g = l
      · simp [l_gaps_of_1, evB, evS, evT, evE, evA, evR, evF, evI, evO, rd, rdS, slotR, init, slOf, outR, frzE, wipeS, ps, gStep, h, h2]
      · have h3 : ¬ ((p.1.g : Int) = l) := by omega
        simp [l_gaps_of_1, evB, evS, evT, evE, evA, evR, evF, evI, evO, rd, rdS, slotR, init, slOf, outR, frzE, wipeS, ps, gStep, h, h2, h3, bound]
    · have h3 : ¬ ((p.1.t : Int) = x) := by omega
      simp [l_gaps_of_1, evB, evS, evT, evE, evA, evR, evF, evI, evO, rd, rdS, slotR, init, slOf, outR, frzE, wipeS, ps, gStep, h, h3]
def lostF (ts : List Slip) : Nat := ((List.range 10).map fun x => gapsN x 0 ts).sum
theorem least_lost_ok (k : Nat) (ts : List Slip) (hl : ts.length ≤ 1000) : CF (k + 2) "least_lost" [pt ts] = some ⟨.int (lostF ts : Nat), false⟩ := by
  rw [CF, call_eq (d := d_least_lost) rfl rfl]
  have g := fun x => gaps_of_ok k ts x hl
  have gl : glob "THINGS" = some (.int 10) := rfl
  have ten : (10 : Int).toNat = 10 := rfl
  have c : 10 ≤ LIM := by decide
  simp only [CF] at g
  simp [d_least_lost, b_least_lost, evB, evS, evT, evE, evA, evR, evF, evI, evO, rd, rdS, slotR, init, slOf, outR, frzE, wipeS, gl, ten, c, rngL_zero]
  rw [compL_map (e := fun i : Nat => PyData.int (i : Nat)) (g := fun x => .int ((gapsN x 0 ts : Nat) : Int)) fun x hx => ?_]
  · simp [sum_natM, lostF]
  · have l : ∀ r, evBlt .len [pn r] = some ⟨.int (r.length : Nat), false⟩ := fun r => by rw [pn, blt_lenT, List.length_map]
    simp [g, l, gaps_le]
/-! ### around a day -/
def Within (h : Nat) (ts : List Slip) : Prop := ∀ s ∈ ts, s.g ≤ h ∧ s.k ≤ h
theorem within_ok (k : Nat) (ts : List Slip) (h : Nat) (w : Within h ts) : CF (k + 1) "_within" [pt ts, .int h] = some ⟨.bool true, false⟩ := by
  rw [CF, call_eq (d := d_within) rfl rfl]
  simp [d_within, b_within, evB, evS, evT, evE, evA, evR, evF, evI, evO, rd, rdS, slotR, init, slOf, outR, frzE, wipeS, pt]
  rw [compL_map (e := ps) (g := fun _ => .bool true) fun s hs => ?_]
  · simp
  · obtain ⟨a, b⟩ := w s hs
    simp [ps, evBlt]
    split <;> omega
def arF (x day : Nat) : Nat → List Slip → Nat × Option Nat
  | l, [] => (l, none)
  | l, s :: r => if s.t = x then (if day < s.d then (l, some s.g) else arF x day s.k r) else arF x day l r
def tak : Option Nat → List PV
  | none => []
  | some g => [.int (g : Nat)]
theorem around_loop (k x day : Nat) (T : PV) : ∀ (ts : List Slip) (l : Nat),
    loopF (evB (CF k) glob l_around_1) (.tp (.cons (.nm 4) (.cons (.nm 5) (.cons (.nm 6) (.cons (.nm 7) .nil))))) (ts.map ps) [.val T, .val (.int x), .val (.int day), .val (.list [.int (l : Nat)]), .no, .no, .no, .no] =
    some (match arF x day l ts with
      | (l2, some g) => .rt ⟨.tuple [.list [.int (l2 : Nat)], .list [.int (g : Nat)]], false⟩
      | (l2, none) => .nx [.val T, .val (.int x), .val (.int day), .val (.list [.int (l2 : Nat)]), .no, .no, .no, .no])
  | [], l => rfl
  | s :: r, l => by
    rw [List.map_cons]
    by_cases h : s.t = x
    · by_cases h2 : day < s.d
      · have : arF x day l (s :: r) = (l, some s.g) := by simp [arF, h, h2]
        rw [this]
        refine loopF_ret rfl ?_
        simp [l_around_1, evB, evS, evT, evE, evA, evR, evF, evI, evO, rd, rdS, slotR, init, slOf, outR, frzE, wipeS, ps, h, h2]
      · have : arF x day l (s :: r) = arF x day s.k r := by simp [arF, h, h2]
        rw [this, ← around_loop k x day T r s.k]
        refine loopF_cons rfl ?_
        simp [l_around_1, evB, evS, evT, evE, evA, evR, evF, evI, evO, rd, rdS, slotR, init, slOf, outR, frzE, wipeS, ps, h, h2]
    · have h3 : ¬ ((s.t : Int) = x) := by omega
      have : arF x day l (s :: r) = arF x day l r := by simp [arF, h]
      rw [this, ← around_loop k x day T r l]
      refine loopF_cons rfl ?_
      simp [l_around_1, evB, evS, evT, evE, evA, evR, evF, evI, evO, rd, rdS, slotR, init, slOf, outR, frzE, wipeS, ps, h, h3]
theorem around_ok (k : Nat) (ts : List Slip) (x day : Nat) : CF (k + 1) "_around" [pt ts, .int x, .int day] = some ⟨.tuple [.list [.int ((arF x day 0 ts).1 : Nat)], .list (tak (arF x day 0 ts).2)], false⟩ := by
  rw [CF, call_eq (d := d_around) rfl rfl]
  have lp := around_loop k x day (pt ts) ts 0
  rw [show pt ts = .tuple (ts.map ps) from rfl] at lp ⊢
  have e0 : ((0 : Nat) : Int) = 0 := rfl
  simp only [CF, e0] at lp
  cases h : arF x day 0 ts with
  | mk l o =>
    rw [h] at lp
    cases o with
    | none =>
      simp only at lp
      simp [d_around, b_around, evB, evS, evT, evE, evA, evR, evF, evI, evO, rd, rdS, slotR, init, slOf, outR, frzE, wipeS, lp, tak]
    | some g =>
      simp only at lp
      simp [d_around, b_around, evB, evS, evT, evE, evA, evR, evF, evI, evO, rd, rdS, slotR, init, slOf, outR, frzE, wipeS, lp, tak]
def chF (r : List Nat) : Nat := ((r.zip (r.drop 1)).filter fun p => p.1 != p.2).length
theorem changes_ok (k : Nat) (r : List Nat) : CF (k + 1) "_changes" [.list (r.map fun n => .int (n : Nat))] = some ⟨.int (chF r : Nat), false⟩ := by
  rw [CF, call_eq (d := d_changes) rfl rfl]
  have dz : zipL (r.map fun n : Nat => PyData.int (n : Nat)) (List.drop 1 (r.map fun n : Nat => PyData.int (n : Nat))) = (r.zip (r.drop 1)).map fun p => .tuple [.int (p.1 : Nat), .int (p.2 : Nat)] := by
    rw [← List.map_drop, zipL_map]
  simp [d_changes, b_changes, evB, evS, evT, evE, evA, evR, evF, evI, evO, rd, rdS, slotR, init, slOf, outR, frzE, wipeS, -List.drop_one, -List.map_drop]
  rw [dz, compL_filter (p := fun p : Nat × Nat => p.1 != p.2) (g := fun _ => .int 1) fun p hp => ?_]
  · simp [chF]
  · by_cases h : p.1 = p.2
    · simp [h]
    · have h2 : ¬ ((p.1 : Int) = p.2) := by omega
      simp [h, h2]
end K55
set_option Elab.async false
set_option linter.all false
set_option maxRecDepth 100000
set_option maxHeartbeats 1000000
/-! k55: who could hold; the fewest slips more. -/
namespace K55
open PySem Pz
def ch2 (l : Nat) (o : Option Nat) : Nat := chF (l :: o.toList)
def ch3 (l x : Nat) (o : Option Nat) : Nat := chF (l :: x :: o.toList)
def couldF (ts : List Slip) (x day h : Nat) (k : Int) : List Nat :=
  (List.range (h + 1)).filter fun y => decide ((lostF ts : Int) - (ch2 (arF x day 0 ts).1 (arF x day 0 ts).2 : Nat) + (ch3 (arF x day 0 ts).1 y (arF x day 0 ts).2 : Nat) ≤ k)
theorem could_ok (j : Nat) (ts : List Slip) (x day h : Nat) (k : Int) (w : Within h ts) (hl : ts.length ≤ 1000) (hh : h ≤ 1000) : CF (j + 3) "could_hold" [pt ts, .int x, .int day, .int h, .int k] = some ⟨pn (couldF ts x day h k), false⟩ := by
  rw [CF, call_eq (d := d_could_hold) rfl rfl]
  have wi := within_ok (j + 1) ts h w
  have ar := around_ok (j + 1) ts x day
  have lo := least_lost_ok j ts hl
  have c1 : ((h : Int) + 1).natAbs ≤ LIM := by unfold LIM; omega
  have c2 : ((h : Int) + 1).toNat = h + 1 := by omega
  unfold couldF
  generalize lostF ts = L at *
  generalize arF x day 0 ts = q at *
  obtain ⟨l, o⟩ := q
  simp only at ar ⊢
  generalize hA : (h : Int) + 1 = A at *
  have cat : ∀ xs ys : List PV, xs.length + ys.length ≤ 10 → evBin .add (.list xs) (.list ys) = some ⟨.list (xs ++ ys), true⟩ := fun xs ys hz => bin_catL (by unfold LIM; omega)
  cases o with
  | none =>
    have h2 := changes_ok (j + 1) [l]
    have h3 := fun y => changes_ok (j + 1) [l, y]
    simp only [CF, List.map_cons, List.map_nil, tak] at *
    have k1 := cat [.int (l : Nat)] [] (by simp)
    have k2 := fun y : Nat => cat [.int (l : Nat)] [.int (y : Nat)] (by simp)
    have k3 := fun y : Nat => cat [.int (l : Nat), .int (y : Nat)] [] (by simp)
    simp at k1 k2 k3
    simp [d_could_hold, b_could_hold, evB, evS, evT, evE, evA, evR, evF, evI, evO, rd, rdS, slotR, init, slOf, outR, frzE, wipeS, wi, ar, lo, k1, h2, hA, c1, c2, rngL_zero]
    rw [compL_filter (p := fun y : Nat => decide ((L : Int) - (ch2 l none : Nat) + (ch3 l y none : Nat) ≤ k)) (g := fun y => .int (y : Nat)) fun y hy => ?_]
    · simp [pn]
    · simp [k2, k3, h3]
      by_cases q : (L : Int) - (ch2 l none : Nat) + (ch3 l y none : Nat) ≤ k
      · have q2 : (L : Int) - (chF [l] : Nat) + (chF [l, y] : Nat) ≤ k := q
        simp [q, q2]
      · have q2 : ¬ (L : Int) - (chF [l] : Nat) + (chF [l, y] : Nat) ≤ k := q
        simp [q, q2]
  | some g =>
    have h2 := changes_ok (j + 1) [l, g]
    have h3 := fun y => changes_ok (j + 1) [l, y, g]
    simp only [CF, List.map_cons, List.map_nil, tak] at *
    have k1 := cat [.int (l : Nat)] [.int (g : Nat)] (by simp)
    have k2 := fun y : Nat => cat [.int (l : Nat)] [.int (y : Nat)] (by simp)
    have k3 := fun y : Nat => cat [.int (l : Nat), .int (y : Nat)] [.int (g : Nat)] (by simp)
    simp at k1 k2 k3
    simp [d_could_hold, b_could_hold, evB, evS, evT, evE, evA, evR, evF, evI, evO, rd, rdS, slotR, init, slOf, outR, frzE, wipeS, wi, ar, lo, k1, h2, hA, c1, c2, rngL_zero]
    rw [compL_filter (p := fun y : Nat => decide ((L : Int) - (ch2 l (some g) : Nat) + (ch3 l y (some g) : Nat) ≤ k)) (g := fun y => .int (y : Nat)) fun y hy => ?_]
    · simp [pn]
    · simp [k2, k3, h3]
      by_cases q : (L : Int) - (ch2 l (some g) : Nat) + (ch3 l y (some g) : Nat) ≤ k
      · have q2 : (L : Int) - (chF [l, g] : Nat) + (chF [l, y, g] : Nat) ≤ k := q
        simp [q, q2]
      · have q2 : ¬ (L : Int) - (chF [l, g] : Nat) + (chF [l, y, g] : Nat) ≤ k := q
        simp [q, q2]
def sureP : List Nat → PV
  | [x] => .int (x : Nat)
  | _ => .none
theorem pn_len (r : List Nat) : evBlt .len [pn r] = some ⟨.int (r.length : Nat), false⟩ := by rw [pn, blt_lenT, List.length_map]
theorem sure_ok (j : Nat) (ts : List Slip) (x day h : Nat) (k : Int) (w : Within h ts) (hl : ts.length ≤ 1000) (hh : h ≤ 1000) : CF (j + 4) "surely_held" [pt ts, .int x, .int day, .int h, .int k] = some ⟨sureP (couldF ts x day h k), false⟩ := by
  rw [CF, call_eq (d := d_surely_held) rfl rfl]
  have c := could_ok j ts x day h k w hl hh
  have pl := pn_len (couldF ts x day h k)
  generalize couldF ts x day h k = r at *
  simp only [CF] at c
  cases r with
  | nil => simp [d_surely_held, b_surely_held, evB, evS, evT, evE, evA, evR, evF, evI, evO, rd, rdS, slotR, init, slOf, outR, frzE, wipeS, c, pl, sureP]
  | cons a r =>
    cases r with
    | nil => simp [d_surely_held, b_surely_held, evB, evS, evT, evE, evA, evR, evF, evI, evO, rd, rdS, slotR, init, slOf, outR, frzE, wipeS, c, pl, sureP, pn]
    | cons b r =>
      have q : ¬ ((r.length : Int) + 1 + 1 = 1) := by omega
      simp [d_surely_held, b_surely_held, evB, evS, evT, evE, evA, evR, evF, evI, evO, rd, rdS, slotR, init, slOf, outR, frzE, wipeS, c, pl, sureP, q]
/-! ### costs -/
def onlyN (n c i : Nat) : List Nat := (List.range n).map fun j => if j = i then c else 99
def sprN (n c i : Nat) : List Nat := (onlyN n c i).map fun x => min x (c + 1)
theorem onlyN_len (n c i : Nat) : (onlyN n c i).length = n := by unfold onlyN; simp
theorem sprN_len (n c i : Nat) : (sprN n c i).length = n := by unfold sprN; simp [onlyN_len]
theorem sprN_get {n c i g : Nat} (hg : g < n) (hc : c ≤ 97) : (sprN n c i)[g]? = some (c + bn (g ≠ i)) := by
  unfold sprN onlyN
  rw [List.getElem?_map, List.getElem?_map, List.getElem?_range hg]
  simp only [Option.map_some, bn]
  by_cases h : g = i
  · simp [h]
  · simp [h]; omega
theorem only_set (n v x : Nat) (hx : x < n) : (List.replicate n 99).set x v = onlyN n v x := by
  apply List.ext_getElem?
  intro i
  unfold onlyN
  by_cases hi : i < n
  · rw [List.getElem?_map, List.getElem?_range hi]
    by_cases h : i = x
    · subst h; rw [List.getElem?_set_self (by simpa using hi)]; simp
    · rw [List.getElem?_set_ne (Ne.symm h), List.getElem?_replicate]; simp [hi, h]
  · rw [List.getElem?_eq_none (by simp; omega), List.getElem?_eq_none (by simp; omega)]
theorem blt_minN {xs : List Nat} {m : Nat} (h : m ∈ xs) (h2 : ∀ y ∈ xs, m ≤ y) : evBlt .min [.list (xs.map fun n => .int (n : Nat))] = some ⟨.int (m : Nat), false⟩ := by
  have := blt_minL (xs := xs.map fun n : Nat => (n : Int)) (m := m) (List.mem_map.mpr ⟨m, h, rfl⟩) fun y hy => by
    obtain ⟨z, hz, rfl⟩ := List.mem_map.mp hy
    have := h2 z hz
    omega
  rw [List.map_map] at this
  exact this
theorem only_min {n c i : Nat} (hi : i < n) (hc : c ≤ 97) : evBlt .min [.list ((onlyN n c i).map fun n => .int (n : Nat))] = some ⟨.int (c : Nat), false⟩ := by
  refine blt_minN ?_ ?_
  · unfold onlyN; rw [List.mem_map]; exact ⟨i, List.mem_range.mpr hi, if_pos rfl⟩
  · intro y hy
    unfold onlyN at hy
    obtain ⟨j, _, rfl⟩ := List.mem_map.mp hy
    split <;> omega
abbrev il (r : List Nat) : List PV := r.map fun n => .int (n : Nat)
theorem spread_ok (j n c i : Nat) (hi : i < n) (hc : c ≤ 97) : CF (j + 1) "_law_spread" [.list (il (onlyN n c i))] = some ⟨.list (il (sprN n c i)), true⟩ := by
  rw [CF, call_eq (d := d_law_spread) rfl rfl]
  have m := only_min hi hc
  simp only [il] at m ⊢
  unfold sprN
  generalize onlyN n c i = r at *
  simp [d_law_spread, b_law_spread, evB, evS, evT, evE, evA, evR, evF, evI, evO, rd, rdS, slotR, init, slOf, outR, frzE, wipeS, m]
  rw [compL_map (e := fun n : Nat => PyData.int (n : Nat)) (g := fun x => .int ((min x (c + 1) : Nat) : Int)) fun x hx => ?_]
  · simp
  · simp [evBlt]
    split <;> omega
theorem only_ok (j : Nat) (r : List Nat) (x v : Nat) (hr : r.length ≤ 1000) (hx : r[x]? = some v) : CF (j + 1) "_law_only" [.list (il r), .int x] = some ⟨.list (il (onlyN r.length v x)), true⟩ := by
  rw [CF, call_eq (d := d_law_only) rfl rfl]
  obtain ⟨hl, ex⟩ := List.getElem?_eq_some_iff.mp hx
  have rp := bin_repL (x := [PyData.int 99]) (b := (r.length : Int)) (by omega) (by omega) (by simp)
  rw [Int.toNat_natCast, rep_flat] at rp
  have st : (List.replicate r.length (PyData.int 99)).set x (.int (v : Nat)) = il (onlyN r.length v x) := by
    rw [← only_set _ _ _ hl]
    simp only [il, List.map_set, List.map_replicate]; rfl
  have ix1 : ixOf r.length (x : Int) = some x := ixOf_nat hl
  have g1 : (il r)[x]? = some (.int (v : Nat)) := by simp only [il]; rw [List.getElem?_map, hx]; rfl
  have ll : (il r).length = r.length := by simp [il]
  generalize il r = R at *
  simp [d_law_only, b_law_only, evB, evS, evT, evE, evA, evR, evF, evI, evO, rd, rdS, slotR, init, slOf, outR, frzE, wipeS, rp, ll, ix1, g1, st]
end K55
set_option Elab.async false
set_option linter.all false
set_option maxRecDepth 100000
set_option maxHeartbeats 1000000
/-! k55: the fewest slips more, by the law's table. -/
namespace K55
open PySem Pz
def fewN (x day y : Nat) : Bool → Nat → List Slip → Nat
  | a, l, [] => if a then 0 else bn (y ≠ l)
  | a, l, s :: r => if s.t = x then (if day < s.d ∧ a = false then bn (y ≠ l) + bn (s.g ≠ y) + fewN x day y true s.k r else bn (s.g ≠ l) + fewN x day y a s.k r) else fewN x day y a l r
def finF (x day y : Nat) : Bool → Nat → Nat → List Slip → Nat × Nat × Bool
  | a, c, i, [] => (c, i, a)
  | a, c, i, s :: r => if s.t = x then (if day < s.d ∧ a = false then finF x day y true (c + bn (y ≠ i) + bn (s.g ≠ y)) s.k r else finF x day y a (c + bn (s.g ≠ i)) s.k r) else finF x day y a c i r
theorem fin_few (x day y : Nat) : ∀ (ts : List Slip) (a : Bool) (c i : Nat), (finF x day y a c i ts).1 + (if (finF x day y a c i ts).2.2 then 0 else bn (y ≠ (finF x day y a c i ts).2.1)) = c + fewN x day y a i ts
  | [], a, c, i => rfl
  | s :: r, a, c, i => by
    unfold finF fewN
    by_cases h : s.t = x
    · rw [if_pos h, if_pos h]
      by_cases h2 : day < s.d ∧ a = false
      · rw [if_pos h2, if_pos h2, fin_few x day y r]; omega
      · rw [if_neg h2, if_neg h2, fin_few x day y r]; omega
    · rw [if_neg h, if_neg h, fin_few x day y r]
theorem few_true (x day y : Nat) : ∀ (ts : List Slip) (l : Nat), fewN x day y true l ts = gapsN x l ts
  | [], l => rfl
  | s :: r, l => by
    unfold fewN gapsN
    by_cases h : s.t = x
    · rw [if_pos h, if_pos h, if_neg (by simp), few_true x day y r]
    · rw [if_neg h, if_neg h, few_true x day y r]
theorem few_false (x day y : Nat) : ∀ (ts : List Slip) (l : Nat), fewN x day y false l ts + ch2 (arF x day l ts).1 (arF x day l ts).2 = gapsN x l ts + ch3 (arF x day l ts).1 y (arF x day l ts).2
  | [], l => by
    unfold fewN gapsN arF ch2 ch3 chF bn
    by_cases h : y = l
    · subst h; simp
    · have : ¬ l = y := fun q => h q.symm
      simp [h, this]
  | s :: r, l => by
    unfold fewN gapsN arF
    by_cases h : s.t = x
    · rw [if_pos h, if_pos h, if_pos h]
      by_cases h2 : day < s.d
      · rw [if_pos ⟨h2, rfl⟩, if_pos h2, few_true]
        unfold ch2 ch3 chF bn
        simp only [Option.toList_some]
        by_cases q1 : y = l
        · subst q1
          by_cases q2 : s.g = y
          · simp [q2]
          · have : ¬ y = s.g := fun q => q2 q.symm
            simp [q2, this] <;> omega
        · have q1' : ¬ l = y := fun q => q1 q.symm
          by_cases q2 : s.g = y
          · have q3 : ¬ s.g = l := fun q => q1 (q2.symm.trans q)
            have q3' : ¬ l = s.g := fun q => q3 q.symm
            simp [q1, q1', q2] <;> omega
          · have q2' : ¬ y = s.g := fun q => q2 q.symm
            by_cases q3 : s.g = l
            · simp [q1, q1', q2, q2', q3] <;> omega
            · have q3' : ¬ l = s.g := fun q => q3 q.symm
              simp [q1, q1', q2, q2', q3, q3'] <;> omega
      · rw [if_neg (fun q => h2 q.1), if_neg h2]
        have := few_false x day y r s.k
        omega
    · rw [if_neg h, if_neg h, if_neg h]
      exact few_false x day y r l
/-- the costs of the fewest -/
theorem spr_only (j n c i y : Nat) (hn : n ≤ 1000) (hi : i < n) (hy : y < n) (hc : c ≤ 97) : CF (j + 1) "_law_spread" [.list (il (onlyN n c i))] = some ⟨.list (il (sprN n c i)), true⟩ ∧ CF (j + 1) "_law_only" [.list (il (sprN n c i)), .int y] = some ⟨.list (il (onlyN n (c + bn (y ≠ i)) y)), true⟩ := by
  refine ⟨spread_ok j n c i hi hc, ?_⟩
  have := only_ok j (sprN n c i) y (c + bn (y ≠ i)) (by rw [sprN_len]; exact hn) (sprN_get hy hc)
  rw [sprN_len] at this
  exact this
theorem bn_le (p : Prop) [Decidable p] : bn p ≤ 1 := by unfold bn; split <;> omega
theorem few_loop (j x day h y : Nat) (hv : Int) (T : PV) (hh : h ≤ 900) : ∀ (ts : List Slip) (a : Bool) (c i : Nat), Within h ts → i ≤ h → c + 2 * ts.length ≤ 90 → (a = false → hv = (y : Nat) ∧ y ≤ h) →
    loopF (evB (CF (j + 1)) glob l_law_fewest_1) (.tp (.cons (.nm 7) (.cons (.nm 8) (.cons (.nm 9) (.cons (.nm 10) .nil))))) (ts.map ps) [.val T, .val (.int x), .val (.int h), .val (.int day), .val (.int hv), .own (il (onlyN (h + 1) c i)), .val (.bool a), .no, .no, .no, .no, .no] =
    some (.nx [.val T, .val (.int x), .val (.int h), .val (.int day), .val (.int hv), .own (il (onlyN (h + 1) (finF x day y a c i ts).1 (finF x day y a c i ts).2.1)), .val (.bool (finF x day y a c i ts).2.2), .no, .no, .no, .no, .no])
  | [], a, c, i, w, hi, hc, ha => rfl
  | s :: r, a, c, i, w, hi, hc, ha => by
    rw [List.map_cons]
    rw [List.length_cons] at hc
    obtain ⟨w1, w2⟩ := w s List.mem_cons_self
    have wr : Within h r := fun q hq => w q (List.mem_cons_of_mem _ hq)
    have rp := bin_repL (x := [PyData.int 99]) (b := ((h + 1 : Nat) : Int)) (by omega) (by omega) (by simp)
    rw [Int.toNat_natCast, rep_flat] at rp
    have st : ∀ v k : Nat, k < h + 1 → (List.replicate (h + 1) (PyData.int 99)).set k (.int (v : Nat)) = il (onlyN (h + 1) v k) := fun v k hk => by
      rw [← only_set _ _ _ hk]
      simp only [il, List.map_set, List.map_replicate]; rfl
    have hA : (h : Int) + 1 = ((h + 1 : Nat) : Int) := by omega
    have ixk : ixOf (h + 1) (s.k : Int) = some s.k := ixOf_nat (by omega)
    have lrep : (List.replicate (h + 1) (PyData.int 99)).length = h + 1 := by simp
    by_cases e : s.t = x
    · by_cases e2 : day < s.d ∧ a = false
      · obtain ⟨e3, e4⟩ := e2
        obtain ⟨e5, e6⟩ := ha e4
        have b1 := bn_le (y ≠ i)
        have b2 := bn_le (s.g ≠ y)
        have f : finF x day y a c i (s :: r) = finF x day y true (c + bn (y ≠ i) + bn (s.g ≠ y)) s.k r := by rw [finF, if_pos e, if_pos ⟨e3, e4⟩]
        rw [f, ← few_loop j x day h y hv T hh r true (c + bn (y ≠ i) + bn (s.g ≠ y)) s.k wr w2 (by omega) (fun q => by cases q)]
        obtain ⟨p1, p2⟩ := spr_only j (h + 1) c i y (by omega) (by omega) (by omega) (by omega)
        have p3 := spread_ok j (h + 1) (c + bn (y ≠ i)) y (by omega) (by omega)
        have g3 := sprN_get (n := h + 1) (c := c + bn (y ≠ i)) (i := y) (g := s.g) (by omega) (by omega)
        have ixg : evIdx (.list (il (sprN (h + 1) (c + bn (y ≠ i)) y))) (.int (s.g : Nat)) = some (.int ((c + bn (y ≠ i) + bn (s.g ≠ y) : Nat) : Int)) := by
          rw [ix_list]
          simp only [il, List.length_map, sprN_len]
          rw [ixOf_nat (by omega)]
          show (List.map _ _)[s.g]? = _
          rw [List.getElem?_map, g3]; rfl
        have st2 := st (c + bn (y ≠ i) + bn (s.g ≠ y)) s.k (by omega)
        refine loopF_cons rfl ?_
        subst e4
        subst e5
        generalize c + bn (y ≠ i) + bn (s.g ≠ y) = v at *
        generalize c + bn (y ≠ i) = v1 at *
        generalize il (onlyN (h + 1) c i) = R0 at *
        generalize il (sprN (h + 1) c i) = R1 at *
        generalize il (onlyN (h + 1) v1 y) = R2 at *
        generalize il (sprN (h + 1) v1 y) = R3 at *
        generalize il (onlyN (h + 1) v s.k) = R4 at *
        generalize List.replicate (h + 1) (PyData.int 99) = R5 at *
        generalize hN : ((h + 1 : Nat) : Int) = N at *
        simp only [CF] at p1 p2 p3
        simp [l_law_fewest_1, evB, evS, evT, evE, evA, evR, evF, evI, evO, rd, rdS, slotR, init, slOf, outR, frzE, wipeS, ps, e, e3, p1, p2, p3, ixg, hA, rp, lrep, ixk, st2]
      · have b2 := bn_le (s.g ≠ i)
        have f : finF x day y a c i (s :: r) = finF x day y a (c + bn (s.g ≠ i)) s.k r := by rw [finF, if_pos e, if_neg e2]
        rw [f, ← few_loop j x day h y hv T hh r a (c + bn (s.g ≠ i)) s.k wr w2 (by omega) ha]
        have p3 := spread_ok j (h + 1) c i (by omega) (by omega)
        have g3 := sprN_get (n := h + 1) (c := c) (i := i) (g := s.g) (by omega) (by omega)
        have ixg : evIdx (.list (il (sprN (h + 1) c i))) (.int (s.g : Nat)) = some (.int ((c + bn (s.g ≠ i) : Nat) : Int)) := by
          rw [ix_list]
          simp only [il, List.length_map, sprN_len]
          rw [ixOf_nat (by omega)]
          show (List.map _ _)[s.g]? = _
          rw [List.getElem?_map, g3]; rfl
        have st2 := st (c + bn (s.g ≠ i)) s.k (by omega)
        refine loopF_cons rfl ?_
        generalize c + bn (s.g ≠ i) = v at *
        generalize il (onlyN (h + 1) c i) = R0 at *
        generalize il (sprN (h + 1) c i) = R1 at *
        generalize il (onlyN (h + 1) v s.k) = R4 at *
        generalize List.replicate (h + 1) (PyData.int 99) = R5 at *
        generalize hN : ((h + 1 : Nat) : Int) = N at *
        simp only [CF] at p3
        cases a with
        | true => 
          by_cases e3 : day < s.d
          · simp [l_law_fewest_1, evB, evS, evT, evE, evA, evR, evF, evI, evO, rd, rdS, slotR, init, slOf, outR, frzE, wipeS, ps, e, e3, p3, ixg, hA, rp, lrep, ixk, st2]
          · simp [l_law_fewest_1, evB, evS, evT, evE, evA, evR, evF, evI, evO, rd, rdS, slotR, init, slOf, outR, frzE, wipeS, ps, e, e3, p3, ixg, hA, rp, lrep, ixk, st2]
        | false =>
          have e3 : ¬ day < s.d := fun q => e2 ⟨q, rfl⟩
          simp [l_law_fewest_1, evB, evS, evT, evE, evA, evR, evF, evI, evO, rd, rdS, slotR, init, slOf, outR, frzE, wipeS, ps, e, e3, p3, ixg, hA, rp, lrep, ixk, st2]
    · have h3 : ¬ ((s.t : Int) = x) := by omega
      have f : finF x day y a c i (s :: r) = finF x day y a c i r := by rw [finF, if_neg e]
      rw [f, ← few_loop j x day h y hv T hh r a c i wr hi (by omega) ha]
      refine loopF_cons rfl ?_
      simp [l_law_fewest_1, evB, evS, evT, evE, evA, evR, evF, evI, evO, rd, rdS, slotR, init, slOf, outR, frzE, wipeS, ps, e, h3]
end K55
set_option Elab.async false
set_option linter.all false
set_option maxRecDepth 100000
set_option maxHeartbeats 1000000
/-! k55: who could hold, by the law's table. -/
namespace K55
open PySem Pz
theorem fin_le (x day y h : Nat) : ∀ (ts : List Slip) (a : Bool) (c i : Nat), Within h ts → i ≤ h → (finF x day y a c i ts).1 ≤ c + 2 * ts.length ∧ (finF x day y a c i ts).2.1 ≤ h
  | [], a, c, i, w, hi => ⟨Nat.le_refl _, hi⟩
  | s :: r, a, c, i, w, hi => by
    obtain ⟨w1, w2⟩ := w s List.mem_cons_self
    have wr : Within h r := fun q hq => w q (List.mem_cons_of_mem _ hq)
    rw [List.length_cons]
    have b1 := bn_le (y ≠ i)
    have b2 := bn_le (s.g ≠ y)
    have b3 := bn_le (s.g ≠ i)
    unfold finF
    by_cases e : s.t = x
    · rw [if_pos e]
      by_cases e2 : day < s.d ∧ a = false
      · rw [if_pos e2]
        obtain ⟨p, q⟩ := fin_le x day y h r true (c + bn (y ≠ i) + bn (s.g ≠ y)) s.k wr w2
        exact ⟨by omega, q⟩
      · rw [if_neg e2]
        obtain ⟨p, q⟩ := fin_le x day y h r a (c + bn (s.g ≠ i)) s.k wr w2
        exact ⟨by omega, q⟩
    · rw [if_neg e]
      obtain ⟨p, q⟩ := fin_le x day y h r a c i wr hi
      exact ⟨by omega, q⟩
theorem fin_true (x day y : Nat) : ∀ (ts : List Slip) (c i : Nat), (finF x day y true c i ts).2.2 = true
  | [], c, i => rfl
  | s :: r, c, i => by
    unfold finF
    split
    · rw [if_neg (by simp)]; exact fin_true x day y r _ _
    · exact fin_true x day y r _ _
theorem only_first (h : Nat) : il (onlyN (h + 1) 0 0) = PyData.int 0 :: List.replicate h (PyData.int 99) := by
  have : onlyN (h + 1) 0 0 = 0 :: List.replicate h 99 := by
    apply List.ext_getElem?
    intro i
    unfold onlyN
    cases i with
    | zero => simp
    | succ i =>
      rw [List.getElem?_cons_succ]
      by_cases hi : i < h
      · rw [List.getElem?_map, List.getElem?_range (by omega), List.getElem?_replicate]; simp [hi]
      · rw [List.getElem?_eq_none (by simp; omega), List.getElem?_eq_none (by simp; omega)]
  rw [this]
  simp [il, List.map_replicate]
theorem fewest_ok (j : Nat) (ts : List Slip) (x h day y : Nat) (hv : Int) (a : Bool) (hh : h ≤ 900) (w : Within h ts) (hl : ts.length ≤ 10) (e : a = decide (hv < 0)) (ha : a = false → hv = (y : Nat) ∧ y ≤ h) :
    CF (j + 2) "_law_fewest" [pt ts, .int x, .int h, .int day, .int hv] = some ⟨.int (fewN x day y a 0 ts : Nat), false⟩ := by
  rw [CF, call_eq (d := d_law_fewest) rfl rfl]
  have lp := few_loop j x day h y hv (pt ts) hh ts a 0 0 w (by omega) (by omega) ha
  obtain ⟨b1, b2⟩ := fin_le x day y h ts a 0 0 w (by omega)
  have ff := fin_few x day y ts a 0 0
  have rp := bin_repL (x := [PyData.int 99]) (b := (h : Int)) (by omega) (by omega) (by simp)
  rw [Int.toNat_natCast, rep_flat] at rp
  have cat : evBin .add (.list [.int 0]) (.list (List.replicate h (.int 99))) = some ⟨.list (il (onlyN (h + 1) 0 0)), true⟩ := by
    rw [bin_catL (by simp; unfold LIM; omega), only_first]; rfl
  have seq : pt ts = .tuple (ts.map ps) := rfl
  have ht : a = true → (finF x day y a 0 0 ts).2.2 = true := fun q => by subst q; exact fin_true x day y ts 0 0
  generalize finF x day y a 0 0 ts = F at *
  obtain ⟨c, i, a'⟩ := F
  simp only at lp b1 b2 ff
  rw [Nat.zero_add] at ff
  have mn := only_min (n := h + 1) (c := c) (i := i) (by omega) (by omega)
  cases a' with
  | true =>
    have fe : c = fewN x day y a 0 ts := by simpa using ff
    rw [← fe]
    rw [seq] at lp ⊢
    simp only [CF] at lp
    generalize il (onlyN (h + 1) 0 0) = R0 at *
    have mn : evBlt .min [.list (il (onlyN (h + 1) c i))] = some ⟨.int (c : Nat), false⟩ := mn
    generalize il (onlyN (h + 1) c i) = R1 at *
    simp [d_law_fewest, b_law_fewest, evB, evS, evT, evE, evA, evR, evF, evI, evO, rd, rdS, slotR, init, slOf, outR, frzE, wipeS, rp, cat, ← e, lp, mn]
  | false =>
    have fa : a = false := by
      cases a with
      | false => rfl
      | true => exact absurd (ht rfl) (by simp)
    obtain ⟨e1, e2⟩ := ha fa
    have fe : c + bn (y ≠ i) = fewN x day y a 0 ts := by simpa using ff
    obtain ⟨p1, p2⟩ := spr_only j (h + 1) c i y (by omega) (by omega) (by omega) (by omega)
    have b := bn_le (y ≠ i)
    have mn2 := only_min (n := h + 1) (c := c + bn (y ≠ i)) (i := y) (by omega) (by omega)
    rw [← fe]
    rw [seq] at lp ⊢
    simp only [CF] at lp p1 p2
    have mn2 : evBlt .min [.list (il (onlyN (h + 1) (c + bn (y ≠ i)) y))] = some ⟨.int ((c + bn (y ≠ i) : Nat) : Int), false⟩ := mn2
    generalize c + bn (y ≠ i) = v at *
    generalize il (onlyN (h + 1) 0 0) = R0 at *
    generalize il (onlyN (h + 1) c i) = R1 at *
    generalize il (sprN (h + 1) c i) = R2 at *
    generalize il (onlyN (h + 1) v y) = R3 at *
    subst e1
    simp [d_law_fewest, b_law_fewest, evB, evS, evT, evE, evA, evR, evF, evI, evO, rd, rdS, slotR, init, slOf, outR, frzE, wipeS, rp, cat, ← e, lp, p1, p2, mn2]
/-- with no holder asked -/
theorem fewest_no (j : Nat) (ts : List Slip) (x h day : Nat) (hh : h ≤ 900) (w : Within h ts) (hl : ts.length ≤ 10) : CF (j + 2) "_law_fewest" [pt ts, .int x, .int h, .int day, .int (-1)] = some ⟨.int (gapsN x 0 ts : Nat), false⟩ := by
  have := fewest_ok j ts x h day 0 (-1) true hh w hl (by decide) (fun q => by cases q)
  rw [few_true] at this
  exact this
theorem fewest_y (j : Nat) (ts : List Slip) (x h day y : Nat) (hh : h ≤ 900) (w : Within h ts) (hl : ts.length ≤ 10) (hy : y ≤ h) : CF (j + 2) "_law_fewest" [pt ts, .int x, .int h, .int day, .int y] = some ⟨.int (fewN x day y false 0 ts : Nat), false⟩ :=
  fewest_ok j ts x h day y y false hh w hl (by rw [eq_comm, decide_eq_false_iff_not]; omega) (fun _ => ⟨rfl, hy⟩)
theorem lost_le (ts : List Slip) : lostF ts ≤ 10 * ts.length := by
  unfold lostF
  have : ∀ l : List Nat, (l.map fun x => gapsN x 0 ts).sum ≤ l.length * ts.length := fun l => by
    induction l with
    | nil => simp
    | cons x r ih =>
      rw [List.map_cons, List.sum_cons, List.length_cons, Nat.add_mul]
      have := gapsN_le x 0 ts
      omega
  have := this (List.range 10)
  simpa using this
def need (ts : List Slip) (x day y : Nat) : Int := (lostF ts : Int) - (gapsN x 0 ts : Nat) + (fewN x day y false 0 ts : Nat)
theorem could_need (ts : List Slip) (x day h : Nat) (k : Int) : couldF ts x day h k = (List.range (h + 1)).filter fun y => decide (need ts x day y ≤ k) := by
  unfold couldF
  congr 1
  funext y
  have := few_false x day y ts 0
  unfold need
  rw [Bool.eq_iff_iff, decide_eq_true_eq, decide_eq_true_eq]
  omega
theorem like1 (k : Nat) (x : PV) (h : lk x = true ∧ ldp x ≤ 1) : CF (k + 3) "_law_like" [x, x] = some ⟨.bool true, false⟩ := by
  have := like_ok (G := glob) helps 1 k x h.1 h.2
  rw [show 1 + k + 2 = k + 3 by omega] at this
  exact this
theorem like2 (k : Nat) (x : PV) (h : lk x = true ∧ ldp x ≤ 2) : CF (k + 4) "_law_like" [x, x] = some ⟨.bool true, false⟩ := by
  have := like_ok (G := glob) helps 2 k x h.1 h.2
  rw [show 2 + k + 2 = k + 4 by omega] at this
  exact this
theorem held_ok (j : Nat) (ts : List Slip) (x day h : Nat) (hh : h ≤ 900) (w : Within h ts) (hl : ts.length ≤ 10) : CF (j + 5) "_law_held_right" [pt ts, .int x, .int day, .int h] = some ⟨.bool true, false⟩ := by
  rw [CF, call_eq (d := d_law_held_right) rfl rfl]
  have f1 := fun x => fewest_no (j + 2) ts x h day hh w hl
  have f2 := fun y hy => fewest_y (j + 2) ts x h day y hh w hl hy
  have ll := least_lost_ok (j + 2) ts (by omega)
  have lk0 := like1 (j + 1) (.int (lostF ts : Nat)) ⟨rfl, by show 0 ≤ 1; omega⟩
  have lle := lost_le ts
  have ch := fun k => could_ok (j + 1) ts x day h k w (by omega) (by omega)
  have su := fun k => sure_ok j ts x day h k w (by omega) (by omega)
  have cl : ∀ k, (couldF ts x day h k).length ≤ 1000 := fun k => by
    unfold couldF
    exact Nat.le_trans (List.length_filter_le _ _) (by rw [List.length_range]; omega)
  have lk1 := fun k => like1 (j + 1) (pn (couldF ts x day h k)) (lk_pn _ (by have := cl k; omega))
  have lk2 := fun k => like1 (j + 1) (sureP (couldF ts x day h k)) (by
    generalize couldF ts x day h k = r
    unfold sureP
    split <;> exact ⟨rfl, by show 0 ≤ 1; omega⟩)
  have nd : ∀ y, need ts x day y = (lostF ts : Int) - (gapsN x 0 ts : Nat) + (fewN x day y false 0 ts : Nat) := fun _ => rfl
  have c1 : ((h : Int) + 1).natAbs ≤ LIM := by unfold LIM; omega
  have c2 : ((h : Int) + 1).toNat = h + 1 := by omega
  have c3 : ((lostF ts : Int) + 3).natAbs ≤ LIM := by unfold LIM; omega
  have c4 : ((lostF ts : Int) + 3).toNat = lostF ts + 3 := by omega
  have c5 : (10 : Int).toNat = 10 := rfl
  have c6 : 10 ≤ LIM := by decide
  have loop : loopF (evB (CF (j + 4)) glob l_law_held_right_1) (.nm 7) ((List.range (lostF ts + 3)).map fun i => .int (i : Nat)) [.val (pt ts), .val (.int x), .val (.int day), .val (.int h), .val (.int (lostF ts : Nat)), .no, .val (.list ((List.range (h + 1)).map fun y => .int (need ts x day y))), .no, .no, .no, .no, .no] =
      some (.nx [.val (pt ts), .val (.int x), .val (.int day), .val (.int h), .val (.int (lostF ts : Nat)), .no, .val (.list ((List.range (h + 1)).map fun y => .int (need ts x day y))), .no, .no, .no, .no, .no]) := by
    refine loopF_fold (e := fun i : Nat => PyData.int (i : Nat)) (fun _ : Unit => _) (fun _ _ => ()) (fun _ => True) (b := ()) trivial fun k _ hk _ => ⟨trivial, _, rfl, .inl ?_⟩
    have ch := ch k
    have su := su k
    have lk1 := lk1 k
    have lk2 := lk2 k
    have cn := could_need ts x day h k
    have pl := pn_len (couldF ts x day h k)
    generalize hN : need ts x day = nn at *
    generalize couldF ts x day h k = r at *
    simp only [CF] at ch su lk1 lk2
    simp [l_law_held_right_1, evB, evS, evT, evE, evA, evR, evF, evI, evO, rd, rdS, slotR, init, slOf, outR, frzE, wipeS, c1, c2, rngL_zero]
    rw [compL_filter (p := fun y : Nat => decide (nn y ≤ k)) (g := fun y => .int (y : Nat)) fun y hy => ?_]
    · rw [← cn]
      have er : ∀ (q : List Nat), PyData.tuple (q.map fun y => .int (y : Nat)) = pn q := fun _ => rfl
      simp only [Option.bind_some, blt_tupL, er]
      cases r with
      | nil =>
        have su : callF glob tbl (j + 4) "surely_held" [pt ts, .int x, .int day, .int h, .int (k : Nat)] = some ⟨.none, false⟩ := su
        have lk2 : callF glob tbl (j + 4) "_law_like" [.none, .none] = some ⟨.bool true, false⟩ := lk2
        simp only [pn, List.map_nil] at pl ch lk1
        simp [pl, ch, lk1, su, lk2]
      | cons a r =>
        cases r with
        | nil =>
          have pi : evIdx (pn [a]) (.int 0) = some (.int (a : Nat)) := rfl
          have su : callF glob tbl (j + 4) "surely_held" [pt ts, .int x, .int day, .int h, .int (k : Nat)] = some ⟨.int (a : Nat), false⟩ := su
          have lk2 : callF glob tbl (j + 4) "_law_like" [.int (a : Nat), .int (a : Nat)] = some ⟨.bool true, false⟩ := lk2
          simp only [pn, List.map_cons, List.map_nil] at pl pi ch lk1
          simp [pl, pi, ch, lk1, su, lk2]
        | cons b r =>
          have q : ¬ ((r.length : Int) + 1 + 1 = 1) := by omega
          have su : callF glob tbl (j + 4) "surely_held" [pt ts, .int x, .int day, .int h, .int (k : Nat)] = some ⟨.none, false⟩ := su
          have lk2 : callF glob tbl (j + 4) "_law_like" [.none, .none] = some ⟨.bool true, false⟩ := lk2
          simp only [pn, List.map_cons] at pl ch lk1
          simp [pl, q, ch, lk1, su, lk2]
    · rw [List.mem_range] at hy
      have ix : evIdx (.list ((List.range (h + 1)).map fun y => .int (nn y))) (.int (y : Nat)) = some (.int (nn y)) := by
        rw [ix_list, List.length_map, List.length_range, ixOf_nat hy]
        show (List.map _ _)[y]? = _
        rw [List.getElem?_map, List.getElem?_range hy]; rfl
      simp [ix]
      by_cases q : nn y ≤ k <;> simp [q]
  simp only [CF] at f1 f2 ll lk0 loop
  simp [d_law_held_right, b_law_held_right, evB, evS, evT, evE, evA, evR, evF, evI, evO, rd, rdS, slotR, init, slOf, outR, frzE, wipeS, c5, c6, rngL_zero]
  rw [compL_map (e := fun i : Nat => PyData.int (i : Nat)) (g := fun x => .int ((gapsN x 0 ts : Nat) : Int)) fun x hx => ?_]
  · have sm : evBlt .sum [.list ((List.range 10).map fun x => .int ((gapsN x 0 ts : Nat) : Int))] = some ⟨.int (lostF ts : Nat), false⟩ := by
      rw [blt_sumM, sum_natM]; rfl
    simp [sm, f1, c1, c2, rngL_zero]
    rw [compL_map (e := fun i : Nat => PyData.int (i : Nat)) (g := fun y => .int (need ts x day y)) fun y hy => ?_]
    · generalize (List.range (h + 1)).map (fun y => PyData.int (need ts x day y)) = R at *
      simp [ll, lk0, c3, c4, rngL_zero, loop]
    · rw [List.mem_range] at hy
      simp [f2 y (by omega), nd]
  · simp [f1]
end K55
set_option Elab.async false
set_option linter.all false
set_option maxRecDepth 100000
set_option maxHeartbeats 1000000
/-! k55: the least mend, a history. -/
namespace K55
open PySem Pz
/-! ### a history is let pass -/
structure OkS (s : Slip) : Prop where
  t : s.t ≤ 9
  g : s.g ≤ 9
  k : s.k ≤ 9
  d : s.d ≤ 99
  ne : s.g ≠ s.k
theorem whole_ok (j : Nat) (x m : Nat) (h : x ≤ m) : CF (j + 1) "is_whole" [.int x, .int m] = some ⟨.bool true, false⟩ := by
  rw [CF, call_eq (d := d_is_whole) rfl rfl]
  simp [d_is_whole, b_is_whole, evB, evS, evT, evE, evA, evR, evF, evI, evO, rd, rdS, slotR, init, slOf, outR, frzE, wipeS, isiB, h]
theorem slip_ok (j : Nat) (s : Slip) (h : OkS s) : CF (j + 2) "is_slip" [ps s] = some ⟨.bool true, false⟩ := by
  rw [CF, call_eq (d := d_is_slip) rfl rfl]
  have w1 := whole_ok j s.t 9 h.t
  have w2 := whole_ok j s.g 9 h.g
  have w3 := whole_ok j s.k 9 h.k
  have w4 := whole_ok j s.d 99 h.d
  have ne := h.ne
  have n9 : ((9 : Nat) : Int) = 9 := rfl
  have n99 : ((99 : Nat) : Int) = 99 := rfl
  have ne' : ¬ ((s.g : Int) = s.k) := by omega
  simp only [CF, n9, n99] at w1 w2 w3 w4
  simp [d_is_slip, b_is_slip, evB, evS, evT, evE, evA, evR, evF, evI, evO, rd, rdS, slotR, init, slOf, outR, frzE, wipeS, ps, isiB, w1, w2, w3, w4, ne, ne']
def upW (w : Nat → Nat) (t k : Nat) : Nat → Nat := fun x => if x = t then k else w x
def Fol : (Nat → Nat) → List Slip → Prop
  | _, [] => True
  | w, s :: r => w s.t = s.g ∧ Fol (upW w s.t s.k) r
def aft : (Nat → Nat) → List Slip → (Nat → Nat)
  | w, [] => w
  | w, s :: r => aft (upW w s.t s.k) r
theorem fol_app : ∀ (f g : List Slip) (w : Nat → Nat), Fol w f → Fol (aft w f) g → Fol w (f ++ g)
  | [], g, w, _, h => h
  | s :: r, g, w, ⟨a, b⟩, h => ⟨a, fol_app r g _ b h⟩
theorem aft_app : ∀ (f g : List Slip) (w : Nat → Nat), aft w (f ++ g) = aft (aft w f) g
  | [], g, w => rfl
  | s :: r, g, w => aft_app r g _
theorem hist_loop (j : Nat) (T : PV) : ∀ (ts : List Slip) (w : Nat → Nat) (kvs : List (L2.Key × PV)), Fol w ts → (∀ x : Nat, (lkp kvs (.inl (x : Int))).getD (.int 0) = .int ((w x : Nat) : Int)) → kvs.length + ts.length ≤ 1000 →
    ∃ kvs', loopF (evB (CF j) glob l_check_history_1) (.tp (.cons (.nm 2) (.cons (.nm 3) (.cons (.nm 4) (.cons (.nm 5) .nil))))) (ts.map ps) [.val T, .dic kvs, .no, .no, .no, .no, .no, .no] = some (.nx [.val T, .dic kvs', .no, .no, .no, .no, .no, .no])
  | [], w, kvs, _, _, _ => ⟨kvs, rfl⟩
  | s :: r, w, kvs, hf, hk, hl => by
    rw [List.length_cons] at hl
    obtain ⟨f1, f2⟩ := hf
    have pl := putP_len kvs (.inl (s.t : Int)) (.int (s.k : Nat))
    obtain ⟨kvs', ih⟩ := hist_loop j T r (upW w s.t s.k) (putP kvs (.inl (s.t : Int)) (.int (s.k : Nat))) f2 (fun x => by
      rw [lkp_put]
      unfold upW
      by_cases e : x = s.t
      · subst e; rw [if_pos rfl, if_pos rfl]; rfl
      · rw [if_neg (fun q => e (by injection q; omega)), if_neg e]; exact hk x) (by omega)
    refine ⟨kvs', ?_⟩
    rw [List.map_cons, ← ih]
    refine loopF_cons rfl ?_
    have g0 := hk s.t
    rw [f1] at g0
    have zl : kvs.length < LIM := by unfold LIM; omega
    have gh : glob "HOUSE" = some (.int 0) := rfl
    simp [l_check_history_1, evB, evS, evT, evE, evA, evR, evF, evI, evO, rd, rdS, slotR, init, slOf, outR, frzE, wipeS, ps, dAt, keyO, gh, g0, zl]
theorem history_ok (j : Nat) (ts : List Slip) (hl : ts.length ≤ 30) (ho : ∀ s ∈ ts, OkS s) (hd : ts.Pairwise fun a b => a.d ≤ b.d) (hf : Fol (fun _ => 0) ts) : CF (j + 3) "check_history" [pt ts] = some ⟨.none, false⟩ := by
  rw [CF, call_eq (d := d_check_history) rfl rfl]
  obtain ⟨kvs', lp⟩ := hist_loop (j + 2) (pt ts) ts (fun _ => 0) [] hf (fun x => rfl) (by simp; omega)
  have sl := fun s hs => slip_ok j s (ho s hs)
  have gm : glob "MOST_SLIPS" = some (.int 30) := rfl
  have len : evBlt .len [pt ts] = some ⟨.int (ts.length : Nat), false⟩ := by rw [pt, blt_lenT, List.length_map]
  have it : isiB (pt ts) .tuple = some true := rfl
  have ht : ¬ ((30 : Int) < ts.length) := by omega
  have ht2 : ¬ (30 < ts.length) := by omega
  have c1 : ((ts.length : Int) - 1).natAbs ≤ LIM := by unfold LIM; omega
  have c2 : ((ts.length : Int) - 1).toNat = ts.length - 1 := by omega
  simp only [CF] at lp sl
  generalize hA : (ts.length : Int) - 1 = A at c1 c2
  have seq : pt ts = .tuple (ts.map ps) := rfl
  simp [d_check_history, b_check_history, evB, evS, evT, evE, evA, evR, evF, evI, evO, rd, rdS, slotR, init, slOf, outR, frzE, wipeS, it, len, gm, ht, ht2]
  rw [seq]
  simp
  rw [compL_map (e := ps) (g := fun _ => .bool true) fun s hs => ?_]
  · rw [← seq]
    simp [hA, c1, c2, rngL_zero, len]
    rw [compL_map (e := fun i : Nat => PyData.int (i : Nat)) (g := fun _ => .bool false) fun i hi => ?_]
    · have an : evBlt .any [.list ((List.range (ts.length - 1)).map fun _ => .bool false)] = some ⟨.bool false, false⟩ := by
        rw [blt_anyM]
        have : (List.range (ts.length - 1)).any (fun _ => false) = false := by simp
        rw [this]
      rw [seq] at lp ⊢
      simp [an, lp]
    · rw [List.mem_range] at hi
      have gt : ∀ i (h : i < ts.length), evIdx (pt ts) (.int (i : Nat)) = some (ps ts[i]) := fun i h => by
        rw [pt, ix_tup, List.length_map, ixOf_nat h]
        show (ts.map ps)[i]? = _
        rw [List.getElem?_map, List.getElem?_eq_getElem h]; rfl
      have g1 := gt i (by omega)
      have g2 := gt (i + 1) (by omega)
      rw [Int.natCast_add] at g2
      have p3 : ∀ s, evIdx (ps s) (.int 3) = some (.int (s.d : Nat)) := fun s => rfl
      have le : ts[i].d ≤ ts[i + 1].d := List.pairwise_iff_getElem.mp hd i (i + 1) (by omega) (by omega) (by omega)
      have le' : ¬ ((ts[i + 1].d : Int) < ts[i].d) := by omega
      simp at g2
      simp [g1, g2, p3, le]
  · simp [sl s hs]
end K55
set_option Elab.async false
set_option linter.all false
set_option maxRecDepth 100000
set_option maxHeartbeats 1000000
/-! k55: the least mend, by own following. -/
namespace K55
open PySem Pz
def insF (pl : List Nat) (s : Slip) : List Slip := if pl.getD s.t 0 = s.g then [] else [⟨s.t, pl.getD s.t 0, s.g, s.d⟩]
def mStep (q : List Nat × List Slip) (s : Slip) : List Nat × List Slip := (q.1.set s.t s.k, q.2 ++ (insF q.1 s ++ [s]))
def mendF (ts : List Slip) : List Slip := (ts.foldl mStep (List.replicate 10 0, [])).2
structure Torn (ts : List Slip) : Prop where
  len : ts.length ≤ 10
  ok : ∀ s ∈ ts, OkS s
  days : ts.Pairwise fun a b => a.d ≤ b.d
structure Mn (n : Nat) (pl : List Nat) (f : List Slip) : Prop where
  len : pl.length = 10
  le : ∀ x < 10, pl.getD x 0 ≤ 9
  fl : f.length ≤ 2 * n
  ok : ∀ s ∈ f, OkS s
  days : f.Pairwise fun a b => a.d ≤ b.d
  fol : Fol (fun _ => 0) f
  at_ : ∀ x < 10, aft (fun _ => 0) f x = pl.getD x 0
theorem getD_set (pl : List Nat) (t k x : Nat) (ht : t < pl.length) : (pl.set t k).getD x 0 = if x = t then k else pl.getD x 0 := by
  rw [List.getD_eq_getElem?_getD, List.getD_eq_getElem?_getD]
  by_cases h : x = t
  · subst h; rw [List.getElem?_set_self ht]; simp
  · rw [List.getElem?_set_ne (Ne.symm h), if_neg h]
theorem mn_step {n : Nat} {pl : List Nat} {f : List Slip} (M : Mn n pl f) {s : Slip} (hs : OkS s) (hd : ∀ e ∈ f, e.d ≤ s.d) : Mn (n + 1) (pl.set s.t s.k) (f ++ (insF pl s ++ [s])) ∧ ∀ e ∈ f ++ (insF pl s ++ [s]), e.d ≤ s.d := by
  have ht := hs.t
  have hl := M.len
  have hin : ∀ e ∈ insF pl s, e.d = s.d ∧ OkS e := fun e he => by
    unfold insF at he
    split at he
    · cases he
    · rename_i hne
      rw [List.mem_singleton] at he
      subst he
      exact ⟨rfl, hs.t, M.le s.t (by omega), hs.g, hs.d, hne⟩
  have il : (insF pl s).length ≤ 1 := by unfold insF; split <;> simp
  have days : ∀ e ∈ f ++ (insF pl s ++ [s]), e.d ≤ s.d := fun e he => by
    rcases List.mem_append.mp he with he | he
    · exact hd e he
    · rcases List.mem_append.mp he with he | he
      · rw [(hin e he).1]; exact Nat.le_refl _
      · rw [List.mem_singleton] at he; subst he; exact Nat.le_refl _
  have fol : Fol (aft (fun _ => 0) f) (insF pl s ++ [s]) ∧ ∀ x < 10, aft (aft (fun _ => 0) f) (insF pl s ++ [s]) x = (pl.set s.t s.k).getD x 0 := by
    have a0 := M.at_ s.t (by omega)
    unfold insF
    by_cases h : pl.getD s.t 0 = s.g
    · rw [if_pos h]
      refine ⟨⟨a0.trans h, trivial⟩, fun x hx => ?_⟩
      rw [getD_set _ _ _ _ (by omega)]
      show upW (aft (fun _ => 0) f) s.t s.k x = _
      unfold upW
      split
      · rfl
      · exact M.at_ x hx
    · rw [if_neg h]
      refine ⟨⟨a0, ?_, trivial⟩, fun x hx => ?_⟩
      · show upW _ s.t s.g s.t = s.g
        unfold upW; rw [if_pos rfl]
      · rw [getD_set _ _ _ _ (by omega)]
        show upW (upW (aft (fun _ => 0) f) s.t s.g) s.t s.k x = _
        unfold upW
        split
        · rfl
        · exact M.at_ x hx
  refine ⟨⟨by rw [List.length_set, hl], fun x hx => ?_, ?_, fun e he => ?_, ?_, fol_app _ _ _ M.fol fol.1, fun x hx => ?_⟩, days⟩
  · rw [getD_set _ _ _ _ (by omega)]
    split
    · exact hs.k
    · exact M.le x hx
  · have := M.fl
    rw [List.length_append, List.length_append, List.length_singleton]; omega
  · rcases List.mem_append.mp he with he | he
    · exact M.ok e he
    · rcases List.mem_append.mp he with he | he
      · exact (hin e he).2
      · rw [List.mem_singleton] at he; subst he; exact hs
  · rw [List.pairwise_append]
    refine ⟨M.days, ?_, fun a ha b hb => ?_⟩
    · unfold insF
      split
      · simp
      · simp
    · have : b.d = s.d := by
        rcases List.mem_append.mp hb with hb | hb
        · exact (hin b hb).1
        · rw [List.mem_singleton] at hb; subst hb; rfl
      rw [this]; exact hd a ha
  · rw [aft_app]; exact fol.2 x hx
theorem mn_fold : ∀ (ts : List Slip) (n : Nat) (pl : List Nat) (f : List Slip), Mn n pl f → (∀ s ∈ ts, OkS s) → ts.Pairwise (fun a b => a.d ≤ b.d) → (∀ e ∈ f, ∀ s ∈ ts, e.d ≤ s.d) → Mn (n + ts.length) (ts.foldl mStep (pl, f)).1 (ts.foldl mStep (pl, f)).2
  | [], n, pl, f, M, _, _, _ => M
  | s :: r, n, pl, f, M, ho, hd, hf => by
    rw [List.foldl_cons, List.length_cons]
    obtain ⟨d1, d2⟩ := List.pairwise_cons.mp hd
    obtain ⟨M2, hm⟩ := mn_step M (ho s List.mem_cons_self) fun e he => hf e he s List.mem_cons_self
    have := mn_fold r (n + 1) _ _ M2 (fun q hq => ho q (List.mem_cons_of_mem _ hq)) d2 fun e he q hq => Nat.le_trans (hm e he) (d1 q hq)
    rw [show n + (r.length + 1) = n + 1 + r.length by omega]
    exact this
theorem mn_first : Mn 0 (List.replicate 10 0) [] where
  len := rfl
  le := fun x hx => by
    have : ∀ x < 10, (List.replicate 10 0).getD x 0 ≤ 9 := by decide
    exact this x hx
  fl := by simp
  ok := fun s h => by cases h
  days := .nil
  fol := trivial
  at_ := fun x hx => by
    have : ∀ x < 10, 0 = (List.replicate 10 0).getD x 0 := by decide
    exact this x hx
theorem mn_mend {ts : List Slip} (T : Torn ts) : Mn ts.length (ts.foldl mStep (List.replicate 10 0, [])).1 (mendF ts) := by
  have := mn_fold ts 0 _ _ mn_first T.ok T.days (fun e he => by cases he)
  rw [Nat.zero_add] at this
  exact this
/-! as many as are lost -/
theorem sum_add {α : Type} (f g : α → Nat) : ∀ l : List α, (l.map fun x => f x + g x).sum = (l.map f).sum + (l.map g).sum
  | [] => rfl
  | x :: r => by rw [List.map_cons, List.map_cons, List.map_cons, List.sum_cons, List.sum_cons, List.sum_cons, sum_add f g r]; omega
theorem sum_one (t c : Nat) : ∀ n, ((List.range n).map fun x => if t = x then c else 0).sum = if t < n then c else 0
  | 0 => by simp
  | n + 1 => by
    rw [List.range_succ, List.map_append, List.sum_append, sum_one t c n, List.map_singleton, List.sum_singleton]
    by_cases h : t < n
    · have q : t < n + 1 := by omega
      have q2 : ¬ t = n := by omega
      rw [if_pos h, if_pos q, if_neg q2]; omega
    · rw [if_neg h]
      by_cases h2 : t = n
      · subst h2
        have q : t < t + 1 := by omega
        rw [if_pos rfl, if_pos q]; omega
      · have q : ¬ t < n + 1 := by omega
        rw [if_neg h2, if_neg q]
theorem mend_len : ∀ (ts : List Slip) (pl : List Nat) (f : List Slip), pl.length = 10 → (∀ s ∈ ts, s.t ≤ 9) → (ts.foldl mStep (pl, f)).2.length = f.length + ts.length + ((List.range 10).map fun x => gapsN x (pl.getD x 0) ts).sum
  | [], pl, f, hl, ht => by
    have : ((List.range 10).map fun x => gapsN x (pl.getD x 0) []).sum = 0 := by
      have e : ((List.range 10).map fun x => gapsN x (pl.getD x 0) []) = List.replicate 10 0 := rfl
      rw [e]; rfl
    rw [this]; simp
  | s :: r, pl, f, hl, ht => by
    have h9 := ht s List.mem_cons_self
    rw [List.foldl_cons]
    show (List.foldl mStep (pl.set s.t s.k, f ++ (insF pl s ++ [s])) r).2.length = _
    rw [mend_len r (pl.set s.t s.k) _ (by rw [List.length_set, hl]) fun q hq => ht q (List.mem_cons_of_mem _ hq)]
    have e : ∀ x, gapsN x (pl.getD x 0) (s :: r) = (if s.t = x then (insF pl s).length else 0) + gapsN x ((pl.set s.t s.k).getD x 0) r := fun x => by
      rw [gapsN, getD_set _ _ _ _ (by omega)]
      by_cases h : s.t = x
      · rw [if_pos h, if_pos h, if_pos h.symm]
        subst h
        unfold insF bn
        by_cases h2 : pl.getD s.t 0 = s.g
        · have : ¬ s.g ≠ pl.getD s.t 0 := fun q => q h2.symm
          rw [if_pos h2, if_neg this]; rfl
        · have : ¬ s.g = pl.getD s.t 0 := fun q => h2 q.symm
          rw [if_neg h2, if_pos this]; rfl
      · rw [if_neg h, if_neg h, if_neg (fun q => h q.symm), Nat.zero_add]
    have e2 : ((List.range 10).map fun x => gapsN x (pl.getD x 0) (s :: r)) = (List.range 10).map fun x => (if s.t = x then (insF pl s).length else 0) + gapsN x ((pl.set s.t s.k).getD x 0) r := List.map_congr_left fun x _ => e x
    rw [e2, sum_add, sum_one, if_pos (by omega)]
    rw [List.length_append, List.length_append, List.length_singleton, List.length_cons]
    omega
theorem mend_lost {ts : List Slip} (T : Torn ts) : (mendF ts).length = ts.length + lostF ts := by
  have := mend_len ts (List.replicate 10 0) [] rfl fun s hs => (T.ok s hs).t
  unfold mendF
  rw [this]
  have e : ((List.range 10).map fun x => gapsN x ((List.replicate 10 0).getD x 0) ts) = (List.range 10).map fun x => gapsN x 0 ts := by
    apply List.map_congr_left
    intro x hx
    rw [List.mem_range] at hx
    have : ∀ x < 10, (List.replicate 10 0).getD x 0 = 0 := by decide
    rw [this x hx]
  rw [e]
  unfold lostF
  simp
end K55
set_option Elab.async false
set_option linter.all false
set_option maxRecDepth 100000
set_option maxHeartbeats 1000000
/-! k55: the least mend: the defs. -/
namespace K55
open PySem Pz
theorem il_ix {pl : List Nat} {t : Nat} (h : t < pl.length) : evIdx (.list (il pl)) (.int (t : Nat)) = some (.int (pl.getD t 0 : Nat)) := by
  rw [ix_list]
  simp only [il, List.length_map]
  rw [ixOf_nat h]
  show (List.map _ _)[t]? = _
  rw [List.getElem?_map, List.getD_eq_getElem?_getD, List.getElem?_eq_getElem h]; rfl
theorem mend_loop (j : Nat) (T : PV) (tl : List Sl) : ∀ (ts : List Slip) (pl : List Nat) (f : List Slip), pl.length = 10 → f.length + 2 * ts.length ≤ 1000 → (∀ s ∈ ts, s.t ≤ 9) →
    loopF (evB (CF j) glob l_least_mend_1) (.tp (.cons (.nm 3) (.cons (.nm 4) (.cons (.nm 5) (.cons (.nm 6) .nil))))) (ts.map ps) (.val T :: .own (il pl) :: .own (f.map ps) :: .no :: .no :: .no :: .no :: tl) =
    some (.nx (.val T :: .own (il (ts.foldl mStep (pl, f)).1) :: .own ((ts.foldl mStep (pl, f)).2.map ps) :: .no :: .no :: .no :: .no :: tl))
  | [], pl, f, _, _, _ => rfl
  | s :: r, pl, f, hp, hf, ht => by
    rw [List.length_cons] at hf
    have h9 := ht s List.mem_cons_self
    rw [List.map_cons, List.foldl_cons]
    have il1 : (insF pl s).length ≤ 1 := by unfold insF; split <;> simp
    show _ = some (Out.nx (.val T :: .own (il (r.foldl mStep (pl.set s.t s.k, f ++ (insF pl s ++ [s]))).1) :: .own ((r.foldl mStep (pl.set s.t s.k, f ++ (insF pl s ++ [s]))).2.map ps) :: .no :: .no :: .no :: .no :: tl))
    rw [← mend_loop j T tl r (pl.set s.t s.k) (f ++ (insF pl s ++ [s])) (by rw [List.length_set, hp]) (by rw [List.length_append, List.length_append, List.length_singleton]; omega) fun q hq => ht q (List.mem_cons_of_mem _ hq)]
    refine loopF_cons rfl ?_
    have ix := il_ix (pl := pl) (t := s.t) (by omega)
    have ixo : ixOf (il pl).length (s.t : Int) = some s.t := ixOf_nat (by simp [il]; omega)
    have st : (il pl).set s.t (.int (s.k : Nat)) = il (pl.set s.t s.k) := by simp [il, List.map_set]
    have z1 : f.length < LIM := by unfold LIM; omega
    have z2 : f.length + 1 < LIM := by unfold LIM; omega
    generalize il (pl.set s.t s.k) = R2 at *
    generalize il pl = R1 at *
    unfold insF
    generalize pl.getD s.t 0 = v at *
    by_cases h : v = s.g
    · simp [l_least_mend_1, evB, evS, evT, evE, evA, evR, evF, evI, evO, rd, rdS, slotR, init, slOf, outR, frzE, wipeS, ps, ix, h, z1, ixo, st]
    · have h' : ¬ ((v : Int) = s.g) := by omega
      simp [l_least_mend_1, evB, evS, evT, evE, evA, evR, evF, evI, evO, rd, rdS, slotR, init, slOf, outR, frzE, wipeS, ps, ix, h, h', z1, z2, ixo, st]
theorem rep10 : evBin .mul (.list [.int 0]) (.int 10) = some ⟨.list (il (List.replicate 10 0)), true⟩ := by
  rw [bin_repL (by omega) (by omega) (by simp)]; rfl
theorem least_mend_ok (j : Nat) (ts : List Slip) (T : Torn ts) : CF (j + 1) "least_mend" [pt ts] = some ⟨pt (mendF ts), false⟩ := by
  rw [CF, call_eq (d := d_least_mend) rfl rfl]
  have lp := mend_loop j (pt ts) [] ts (List.replicate 10 0) [] rfl (by simp; have := T.len; omega) fun s hs => (T.ok s hs).t
  have gl : glob "THINGS" = some (.int 10) := rfl
  have seq : pt ts = .tuple (ts.map ps) := rfl
  have e : (ts.foldl mStep (List.replicate 10 0, [])).2 = mendF ts := rfl
  rw [e, seq] at lp
  have rp := rep10
  generalize il (ts.foldl mStep (List.replicate 10 0, [])).1 = R at lp
  generalize il (List.replicate 10 0) = R0 at *
  rw [seq]
  simp only [CF] at lp
  simp at lp
  simp [d_least_mend, b_least_mend, evB, evS, evT, evE, evA, evR, evF, evI, evO, rd, rdS, slotR, init, slOf, outR, frzE, wipeS, gl, rp, lp]
  rfl
theorem pt_len (ts : List Slip) : evBlt .len [pt ts] = some ⟨.int ts.length, false⟩ := by rw [pt, blt_lenT, List.length_map]
theorem pt_ix {ts : List Slip} {i : Nat} (h : i < ts.length) : evIdx (pt ts) (.int (i : Nat)) = some (ps ts[i]) := by
  rw [pt, ix_tup, List.length_map, ixOf_nat h]
  show (ts.map ps)[i]? = _
  rw [List.getElem?_map, List.getElem?_eq_getElem h]; rfl
theorem gaps_loop (j : Nat) (ts : List Slip) (x : Nat) (hl : ts.length ≤ 1000) (a b : Sl) : 
    loopF (evB (CF j) glob l_law_mended_right_2) (.nm 10) ((List.range ts.length).map fun i => .int (i : Nat)) [.val (pt ts), .no, a, .val (.int x), .no, .no, .no, b, .val (.int 0), .own [], .no] =
    some (.nx [.val (pt ts), .no, a, .val (.int x), .no, .no, .no, b, .val (.int ((ts.zipIdx.foldl (gStep x) (0, [])).1 : Nat)), .own (il (gapsF ts x)), .no]) := by
  have loop := loopF_st (body := evB (CF j) glob l_law_mended_right_2) (tg := .nm 10) (e := fun i : Nat => PyData.int (i : Nat)) (xs := List.range ts.length)
    (fun i => [.val (pt ts), .no, a, .val (.int x), .no, .no, .no, b, .val (.int ((((ts.zipIdx).take i).foldl (gStep x) (0, [])).1 : Nat)), .own (il (((ts.zipIdx).take i).foldl (gStep x) (0, [])).2), .no]) fun i y hx => ⟨_, rfl, .inl ?_⟩
  · have tl : (ts.zipIdx).take ts.length = ts.zipIdx := List.take_of_length_le (by simp)
    rw [List.length_range, tl] at loop
    exact loop
  · obtain ⟨hi, ex⟩ := List.getElem?_eq_some_iff.mp hx
    rw [List.length_range] at hi
    rw [List.getElem_range] at ex
    subst ex
    have tk : (ts.zipIdx).take (i + 1) = (ts.zipIdx).take i ++ [(ts[i], i)] := by
      rw [List.take_add_one, List.getElem?_zipIdx, List.getElem?_eq_getElem hi]; simp
    rw [tk, List.foldl_append, List.foldl_cons, List.foldl_nil]
    have bound : (((ts.zipIdx).take i).foldl (gStep x) (0, [])).2.length < LIM := by
      rw [take_zip]
      have := foldG_le x (ts.take i) 0 0 []
      simp at this
      unfold LIM; omega
    generalize ((ts.zipIdx).take i).foldl (gStep x) (0, []) = q at bound ⊢
    obtain ⟨l, f⟩ := q
    simp only at bound ⊢
    have gi := pt_ix hi
    generalize ts[i] = s at *
    have p0 : evIdx (ps s) (.int 0) = some (.int (s.t : Nat)) := rfl
    have p1 : evIdx (ps s) (.int 1) = some (.int (s.g : Nat)) := rfl
    have p2 : evIdx (ps s) (.int 2) = some (.int (s.k : Nat)) := rfl
    have ll : (il f).length < LIM := by simpa [il] using bound
    have ia : il (f ++ [i]) = il f ++ [.int (i : Nat)] := by simp [il]
    by_cases h : s.t = x
    · by_cases h2 : s.g = l
      · simp [l_law_mended_right_2, evB, evS, evT, evE, evA, evR, evF, evI, evO, rd, rdS, slotR, init, slOf, outR, frzE, wipeS, gi, p0, p1, p2, gStep, h, h2]
      · have h3 : ¬ ((s.g : Int) = l) := by omega
        simp [l_law_mended_right_2, evB, evS, evT, evE, evA, evR, evF, evI, evO, rd, rdS, slotR, init, slOf, outR, frzE, wipeS, gi, p0, p1, p2, gStep, h, h2, h3, ll, ia, -List.length_map]
    · have h3 : ¬ ((s.t : Int) = x) := by omega
      simp [l_law_mended_right_2, evB, evS, evT, evE, evA, evR, evF, evI, evO, rd, rdS, slotR, init, slOf, outR, frzE, wipeS, gi, p0, p1, p2, gStep, h, h3]
theorem gapsF_le (ts : List Slip) (x : Nat) : (gapsF ts x).length ≤ ts.length := by
  rw [gaps_le]; exact gapsN_le x 0 ts
theorem lk_pt (ts : List Slip) (h : ts.length ≤ 1000) : lk (pt ts) = true ∧ ldp (pt ts) ≤ 2 :=
  lk_tup _ 1 (by simp; omega) fun x hx => by
    obtain ⟨s, _, rfl⟩ := List.mem_map.mp hx
    exact ⟨rfl, Nat.le_refl 1⟩
theorem mended_ok (j : Nat) (ts : List Slip) (T : Torn ts) : CF (j + 5) "_law_mended_right" [pt ts] = some ⟨.bool true, false⟩ := by
  rw [CF, call_eq (d := d_law_mended_right) rfl rfl]
  have tl := T.len
  have same : l_law_mended_right_1 = l_least_mend_1 := rfl
  have lp := mend_loop (j + 4) (pt ts) [.no, .no, .no, .no] ts (List.replicate 10 0) [] rfl (by simp; omega) fun s hs => (T.ok s hs).t
  rw [← same] at lp
  have e : (ts.foldl mStep (List.replicate 10 0, [])).2 = mendF ts := rfl
  rw [e] at lp
  have M := mn_mend T
  have ml := mend_lost T
  have ll := least_lost_ok (j + 2) ts (by omega)
  have lk0 := like1 (j + 1) (.int (lostF ts : Nat)) ⟨rfl, by show 0 ≤ 1; omega⟩
  have lm := least_mend_ok (j + 3) ts T
  have fl := M.fl
  have hi := history_ok (j + 1) (mendF ts) (by omega) M.ok M.days M.fol
  have lkm := like2 j (pt (mendF ts)) (lk_pt _ (by omega))
  have sub : ((mendF ts).length : Int) - (ts.length : Int) = (lostF ts : Nat) := by omega
  have rp := rep10
  have pl := pt_len ts
  have c5 : (10 : Int).toNat = 10 := rfl
  have c6 : 10 ≤ LIM := by decide
  have seq : pt ts = .tuple (ts.map ps) := rfl
  have tup : PyData.tuple ((mendF ts).map ps) = pt (mendF ts) := rfl
  have loop : loopF (evB (CF (j + 4)) glob l_law_mended_right_3) (.nm 3) ((List.range 10).map fun i => .int (i : Nat)) [.val (pt ts), .no, .own ((mendF ts).map ps), .no, .no, .no, .no, .no, .no, .no, .no] = some (.nx [.val (pt ts), .no, .own ((mendF ts).map ps), .no, .no, .no, .no, .no, .no, .no, .no]) := by
    refine loopF_fold (e := fun i : Nat => PyData.int (i : Nat)) (fun _ : Unit => _) (fun _ _ => ()) (fun _ => True) (b := ()) trivial fun x _ hx _ => ⟨trivial, _, rfl, .inl ?_⟩
    have gl := gaps_loop (j + 4) ts x (by omega) (.own ((mendF ts).map ps)) .no
    have go := gaps_of_ok (j + 3) ts x (by omega)
    have gk := like1 (j + 1) (pn (gapsF ts x)) (lk_pn _ (by have := gapsF_le ts x; omega))
    have gt : PyData.tuple (il (gapsF ts x)) = pn (gapsF ts x) := rfl
    have c1 : ts.length ≤ LIM := by unfold LIM; omega
    generalize (mendF ts).map ps = M1 at *
    simp only [CF] at gl go gk
    rw [← gt] at go gk
    generalize il (gapsF ts x) = R at *
    simp [l_law_mended_right_3, evB, evS, evT, evE, evA, evR, evF, evI, evO, rd, rdS, slotR, init, slOf, outR, frzE, wipeS, pl, c1, rngL_zero, gl, go, gk]
  simp only [CF] at lp ll lk0 lm hi lkm loop
  have le : evBlt .len [.list ((mendF ts).map ps)] = some ⟨.int (mendF ts).length, false⟩ := by rw [blt_lenL, List.length_map]
  rw [← tup] at lm hi lkm
  have n1 : isNone .none = true := rfl
  generalize il (ts.foldl mStep (List.replicate 10 0, [])).1 = R at lp
  generalize (mendF ts).map ps = M1 at *
  generalize il (List.replicate 10 0) = R0 at *
  generalize (mendF ts).length = mlen at *
  rw [show List.map ps [] = [] from rfl] at lp
  rw [seq] at ll lm loop lp pl ⊢
  simp [d_law_mended_right, b_law_mended_right, evB, evS, evT, evE, evA, evR, evF, evI, evO, rd, rdS, slotR, init, slOf, outR, frzE, wipeS, rp, lp, pl, le, sub, ll, lk0, c5, c6, rngL_zero, loop, lm, hi, lkm, n1]
end K55
set_option Elab.async false
set_option linter.all false
set_option maxRecDepth 100000
set_option maxHeartbeats 1000000
/-! k55: the drawn history. -/
namespace K55
open PySem Pz
abbrev TS := List Nat × Nat × List Slip
def tStep (R : Nat → Nat) (base top m3 : Nat) (q : TS) (k : Nat) : TS :=
  let t := base + R (5 + k) % 3
  let g := if 0 < R (15 + k) % 3 then q.1.getD t 0 else R (5 + k) / 3 % (top + 1)
  let tk := (g + 1 + R (15 + k) / 3 % top) % (top + 1)
  let d := q.2.1 + R (25 + k) % m3
  (q.1.set t tk, d, q.2.2 ++ [⟨t, g, tk, d⟩])
def tSt (R : Nat → Nat) (base top m3 d0 : Nat) : Nat → TS
  | 0 => (List.replicate 10 0, d0, [])
  | k + 1 => tStep R base top m3 (tSt R base top m3 d0 k) k
structure TI (k : Nat) (q : TS) : Prop where
  len : q.1.length = 10
  le : ∀ x < 10, q.1.getD x 0 ≤ 9
  fl : q.2.2.length = k
  d : q.2.1 ≤ 9 + 9 * k
  ok : ∀ s ∈ q.2.2, OkS s
  days : q.2.2.Pairwise fun a b => a.d ≤ b.d
  dl : ∀ s ∈ q.2.2, s.d ≤ q.2.1
theorem tI (R : Nat → Nat) (base top m3 d0 : Nat) (hb : base ≤ 7) (ht : 1 ≤ top) (ht9 : top ≤ 9) (hm : m3 ≤ 10) (hm0 : 0 < m3) (hd : d0 ≤ 9) (top_w : ∀ k, k ≤ 10 → ∀ x < 10, (tSt R base top m3 d0 k).1.getD x 0 ≤ top) : ∀ k, k ≤ 10 → TI k (tSt R base top m3 d0 k)
  | 0, _ => ⟨rfl, fun x hx => by
      have : ∀ x < 10, (List.replicate 10 0).getD x 0 ≤ 9 := by decide
      exact this x hx, rfl, hd, fun s h => (by cases h), .nil, fun s h => (by cases h)⟩
  | k + 1, hk => by
    have I := tI R base top m3 d0 hb ht ht9 hm hm0 hd top_w k (by omega)
    have tw := top_w k (by omega)
    have tw1 := top_w (k + 1) hk
    rw [show tSt R base top m3 d0 (k + 1) = tStep R base top m3 (tSt R base top m3 d0 k) k from rfl] at tw1 ⊢
    generalize tSt R base top m3 d0 k = q at I tw tw1 ⊢
    obtain ⟨w, d, f⟩ := q
    obtain ⟨i1, i2, i3, i4, i5, i6, i7⟩ := I
    simp only at i1 i2 i3 i4 i5 i6 i7 tw
    have t9 : base + R (5 + k) % 3 ≤ 9 := by omega
    have g9 : (if 0 < R (15 + k) % 3 then w.getD (base + R (5 + k) % 3) 0 else R (5 + k) / 3 % (top + 1)) ≤ top := by
      split
      · exact tw _ (by omega)
      · have := Nat.mod_lt (R (5 + k) / 3) (show 0 < top + 1 by omega)
        omega
    have dm : R (25 + k) % m3 ≤ 9 := by have := Nat.mod_lt (R (25 + k)) hm0; omega
    unfold tStep at tw1 ⊢
    simp only at tw1 ⊢
    generalize (if 0 < R (15 + k) % 3 then w.getD (base + R (5 + k) % 3) 0 else R (5 + k) / 3 % (top + 1)) = g at g9 tw1 ⊢
    generalize base + R (5 + k) % 3 = t at t9 tw1 ⊢
    have u1 := Nat.mod_lt (R (15 + k) / 3) (show 0 < top by omega)
    generalize R (15 + k) / 3 % top = u at u1 tw1 ⊢
    have k1 := Nat.mod_lt (g + 1 + u) (show 0 < top + 1 by omega)
    have ne : g ≠ (g + 1 + u) % (top + 1) := by
      intro h
      by_cases q : g + 1 + u < top + 1
      · rw [Nat.mod_eq_of_lt q] at h; omega
      · rw [Nat.mod_eq_sub_mod (by omega), Nat.mod_eq_of_lt (by omega)] at h; omega
    generalize (g + 1 + u) % (top + 1) = tk at k1 ne tw1 ⊢
    generalize R (25 + k) % m3 = dd at dm ⊢
    refine ⟨by rw [List.length_set, i1], fun x hx => ?_, by rw [List.length_append, i3]; rfl, by show d + dd ≤ 9 + 9 * (k + 1); omega, fun s hs => ?_, ?_, fun s hs => ?_⟩
    · rw [getD_set _ _ _ _ (by omega)]
      split
      · omega
      · exact i2 x hx
    · rcases List.mem_append.mp hs with hs | hs
      · exact i5 s hs
      · rw [List.mem_singleton] at hs; subst hs
        exact ⟨t9, by show g ≤ 9; omega, by show tk ≤ 9; omega, by show d + dd ≤ 99; omega, ne⟩
    · rw [List.pairwise_append]
      refine ⟨i6, by simp, fun a ha b hb => ?_⟩
      rw [List.mem_singleton] at hb; subst hb
      have := i7 a ha
      show a.d ≤ d + dd
      omega
    · rcases List.mem_append.mp hs with hs | hs
      · have := i7 s hs; show s.d ≤ d + dd; omega
      · rw [List.mem_singleton] at hs; subst hs; exact Nat.le_refl _
theorem topW (R : Nat → Nat) (base top m3 d0 : Nat) (hb : base ≤ 7) (ht : 1 ≤ top) : ∀ k, (tSt R base top m3 d0 k).1.length = 10 ∧ ∀ x < 10, (tSt R base top m3 d0 k).1.getD x 0 ≤ top
  | 0 => ⟨rfl, fun x hx => by
      have : ∀ x < 10, (List.replicate 10 0).getD x 0 = 0 := by decide
      show (List.replicate 10 0).getD x 0 ≤ top
      rw [this x hx]; omega⟩
  | k + 1 => by
    obtain ⟨a, b⟩ := topW R base top m3 d0 hb ht k
    show (tStep R base top m3 (tSt R base top m3 d0 k) k).1.length = 10 ∧ _
    unfold tStep
    refine ⟨by simp only; rw [List.length_set, a], fun x hx => ?_⟩
    show (tStep R base top m3 (tSt R base top m3 d0 k) k).1.getD x 0 ≤ top
    unfold tStep
    simp only
    rw [getD_set _ _ _ _ (by omega)]
    split
    · have := fun z => Nat.mod_lt z (show 0 < top + 1 by omega)
      exact Nat.le_of_lt_succ (this _)
    · exact b x hx
theorem torn_ok (j : Nat) (row : List Int) (hl : row.length = 44) (hv : ∀ x ∈ row, 0 ≤ x ∧ x < 1000003) : ∃ ts, Torn ts ∧ CF (j + 1) "_law_torn" [.list (row.map .int)] = some ⟨pt ts, false⟩ := by
  rw [CF, call_eq (d := d_law_torn) rfl rfl]
  obtain ⟨R, hR⟩ : ∃ R : Nat → Nat, ∀ i (h : i < row.length), row[i] = (R i : Int) := ⟨fun i => (row[i]?.getD 0).toNat, fun i h => by
    have := hv row[i] (List.getElem_mem h)
    show row[i] = (((row[i]?.getD 0).toNat : Nat) : Int)
    rw [List.getElem?_eq_getElem h, Option.getD_some]; omega⟩
  have ix : ∀ i (h : i < 44), evIdx (.list (row.map .int)) (.int (i : Nat)) = some (.int (R i : Nat)) := fun i h => by
    rw [row_ix (by omega), hR i (by omega)]
  generalize PyData.list (row.map .int) = RW at ix ⊢
  obtain ⟨base, hbase, eb⟩ : ∃ base : Nat, base ≤ 7 ∧ ((R 0 : Nat) : Int) % 8 = base := ⟨R 0 % 8, by omega, by omega⟩
  obtain ⟨top, jt, ht1, ht9, et, et2⟩ : ∃ top jt : Nat, 1 ≤ top ∧ top ≤ 9 ∧ ixOf 2 (if ((R 1 : Nat) : Int) % 4 = 0 then 1 else 0) = some jt ∧ ([.int 3, .int 9] : List PV)[jt]? = some (.int (top : Nat)) := by
    by_cases q : ((R 1 : Nat) : Int) % 4 = 0
    · exact ⟨9, 1, by omega, by omega, by simp [q], rfl⟩
    · exact ⟨3, 0, by omega, by omega, by simp [q], rfl⟩
  obtain ⟨m3, jm, hm0, hm, em, em2⟩ : ∃ m3 jm : Nat, 0 < m3 ∧ m3 ≤ 10 ∧ ixOf 2 (if ((R 35 : Nat) : Int) % 3 = 0 then 1 else 0) = some jm ∧ ([.int 3, .int 10] : List PV)[jm]? = some (.int (m3 : Nat)) := by
    by_cases q : ((R 35 : Nat) : Int) % 3 = 0
    · exact ⟨10, 1, by omega, by omega, by simp [q], rfl⟩
    · exact ⟨3, 0, by omega, by omega, by simp [q], rfl⟩
  obtain ⟨d0, hd0, ed⟩ : ∃ d0 : Nat, d0 ≤ 9 ∧ ((R 4 : Nat) : Int) % 10 = d0 := ⟨R 4 % 10, by omega, by omega⟩
  have TIk := tI R base top m3 d0 hbase ht1 ht9 hm hm0 hd0 fun k _ => (topW R base top m3 d0 hbase ht1 k).2
  have loop : ∀ many : Nat, many ≤ 10 → loopF (evB (CF j) glob l_law_torn_1) (.nm 7) ((List.range many).map fun i => .int (i : Nat)) [.val RW, .val (.int base), .val (.int top), .val (.int many), .own (il (List.replicate 10 0)), .val (.int d0), .own [], .no, .no, .no, .no] =
      some (.nx [.val RW, .val (.int base), .val (.int top), .val (.int many), .own (il (tSt R base top m3 d0 many).1), .val (.int ((tSt R base top m3 d0 many).2.1 : Nat)), .own ((tSt R base top m3 d0 many).2.2.map ps), .no, .no, .no, .no]) := fun many hmany => by
    have loop := loopF_st (body := evB (CF j) glob l_law_torn_1) (tg := .nm 7) (e := fun i : Nat => PyData.int (i : Nat)) (xs := List.range many)
      (fun i => [.val RW, .val (.int base), .val (.int top), .val (.int many), .own (il (tSt R base top m3 d0 i).1), .val (.int ((tSt R base top m3 d0 i).2.1 : Nat)), .own ((tSt R base top m3 d0 i).2.2.map ps), .no, .no, .no, .no]) fun i y hx => ⟨_, rfl, .inl ?_⟩
    · rw [List.length_range] at loop
      exact loop
    · obtain ⟨hi, ex⟩ := List.getElem?_eq_some_iff.mp hx
      rw [List.length_range] at hi
      rw [List.getElem_range] at ex
      subst ex
      have I := TIk i (by omega)
      rw [show tSt R base top m3 d0 (i + 1) = tStep R base top m3 (tSt R base top m3 d0 i) i from rfl]
      generalize tSt R base top m3 d0 i = q at I ⊢
      obtain ⟨w, d, f⟩ := q
      have i1 := I.len
      have i3 := I.fl
      simp only at i1 i3
      have x5 : evIdx RW (.int (5 + (i : Nat))) = some (.int (R (5 + i) : Nat)) := by
        have := ix (5 + i) (by omega)
        rw [Int.natCast_add] at this; exact this
      have x15 : evIdx RW (.int (15 + (i : Nat))) = some (.int (R (15 + i) : Nat)) := by
        have := ix (15 + i) (by omega)
        rw [Int.natCast_add] at this; exact this
      have x25 : evIdx RW (.int (25 + (i : Nat))) = some (.int (R (25 + i) : Nat)) := by
        have := ix (25 + i) (by omega)
        rw [Int.natCast_add] at this; exact this
      have x35 : evIdx RW (.int 35) = some (.int (R 35 : Nat)) := ix 35 (by omega)
      unfold tStep
      simp only
      obtain ⟨t, ht, t9, et1⟩ : ∃ t : Nat, base + R (5 + i) % 3 = t ∧ t ≤ 9 ∧ (base : Int) + ((R (5 + i) : Nat) : Int) % 3 = t := ⟨_, rfl, by omega, by omega⟩
      obtain ⟨g0, hg0, eg0⟩ : ∃ g0 : Nat, R (5 + i) / 3 % (top + 1) = g0 ∧ ((R (5 + i) : Nat) : Int) / 3 % ((top : Int) + 1) = g0 := ⟨_, rfl, by
        rw [Int.natCast_emod, Int.natCast_ediv, Int.natCast_add]; rfl⟩
      obtain ⟨u, hu, eu⟩ : ∃ u : Nat, R (15 + i) / 3 % top = u ∧ ((R (15 + i) : Nat) : Int) / 3 % (top : Int) = u := ⟨_, rfl, by
        rw [Int.natCast_emod, Int.natCast_ediv]; rfl⟩
      obtain ⟨dd, hdd, edd⟩ : ∃ dd : Nat, R (25 + i) % m3 = dd ∧ ((R (25 + i) : Nat) : Int) % (m3 : Int) = dd := ⟨_, rfl, by
        rw [Int.natCast_emod]⟩
      rw [ht, hg0, hu, hdd]
      have p1 : (0 : Int) < (top : Int) + 1 := by omega
      have p2 : (0 : Int) < (top : Int) := by omega
      have p3 : (0 : Int) < (m3 : Int) := by omega
      have wi := il_ix (pl := w) (t := t) (by omega)
      have ixo : ixOf (il w).length (t : Int) = some t := ixOf_nat (by simp [il]; omega)
      have zf : f.length < LIM := by unfold LIM; omega
      have stw : ∀ v : Nat, (il w).set t (.int (v : Nat)) = il (w.set t v) := fun v => by simp [il, List.map_set]
      have fin : ∀ g : Nat, ∃ tk : Nat, (g + 1 + u) % (top + 1) = tk ∧ ((g : Int) + 1 + (u : Int)) % ((top : Int) + 1) = tk := fun g => ⟨_, rfl, by
        rw [Int.natCast_emod, Int.natCast_add, Int.natCast_add, Int.natCast_add]; rfl⟩
      by_cases q : 0 < R (15 + i) % 3
      · have q' : (0 : Int) < ((R (15 + i) : Nat) : Int) % 3 := by omega
        rw [if_pos q]
        generalize w.getD t 0 = g at wi ⊢
        obtain ⟨tk, htk, etk⟩ := fin g
        rw [htk]
        have stw := stw tk
        generalize il (w.set t tk) = R2 at *
        generalize il w = R1 at *
        simp [l_law_torn_1, evB, evS, evT, evE, evA, evR, evF, evI, evO, rd, rdS, slotR, init, slOf, outR, frzE, wipeS, x5, x15, x25, x35, et1, bin_mod p1, bin_mod p2, bin_mod p3, eg0, q', wi, eu, etk, em, em2, edd, zf, ixo, stw, ps]
      · have q' : ¬ (0 : Int) < ((R (15 + i) : Nat) : Int) % 3 := by omega
        rw [if_neg q]
        obtain ⟨tk, htk, etk⟩ := fin g0
        rw [htk]
        have stw := stw tk
        generalize il (w.set t tk) = R2 at *
        generalize il w = R1 at *
        simp [l_law_torn_1, evB, evS, evT, evE, evA, evR, evF, evI, evO, rd, rdS, slotR, init, slOf, outR, frzE, wipeS, x5, x15, x25, x35, et1, bin_mod p1, bin_mod p2, bin_mod p3, eg0, q', wi, eu, etk, em, em2, edd, zf, ixo, stw, ps]
  have x0 : evIdx RW (.int 0) = some (.int (R 0 : Nat)) := ix 0 (by omega)
  have x1 : evIdx RW (.int 1) = some (.int (R 1 : Nat)) := ix 1 (by omega)
  have x2 : evIdx RW (.int 2) = some (.int (R 2 : Nat)) := ix 2 (by omega)
  have x3 : evIdx RW (.int 3) = some (.int (R 3 : Nat)) := ix 3 (by omega)
  have x4 : evIdx RW (.int 4) = some (.int (R 4 : Nat)) := ix 4 (by omega)
  have rp := rep10
  by_cases q : ((R 3 : Nat) : Int) % 6 = 0
  · have lp := loop 10 (by omega)
    refine ⟨(tSt R base top m3 d0 10).2.2, ?_, ?_⟩
    · have I := TIk 10 (by omega)
      exact ⟨by rw [I.fl]; omega, I.ok, I.days⟩
    · have c5 : (10 : Int).toNat = 10 := rfl
      have c6 : 10 ≤ LIM := by decide
      have e10 : ((10 : Nat) : Int) = 10 := rfl
      rw [e10] at lp
      generalize tSt R base top m3 d0 10 = Q at *
      generalize il (List.replicate 10 0) = R0 at *
      generalize il Q.1 = R1 at *
      simp only [CF] at lp
      simp [d_law_torn, b_law_torn, evB, evS, evT, evE, evA, evR, evF, evI, evO, rd, rdS, slotR, init, slOf, outR, frzE, wipeS, x0, x1, x2, x3, x4, eb, et, et2, q, rp, ed, c5, c6, rngL_zero, lp]
      rfl
  · obtain ⟨many, hm7, emn⟩ : ∃ many : Nat, many ≤ 6 ∧ ((R 2 : Nat) : Int) % 7 = many := ⟨R 2 % 7, by omega, by omega⟩
    have lp := loop many (by omega)
    refine ⟨(tSt R base top m3 d0 many).2.2, ?_, ?_⟩
    · have I := TIk many (by omega)
      exact ⟨by rw [I.fl]; omega, I.ok, I.days⟩
    · have c6 : many ≤ LIM := by unfold LIM; omega
      generalize tSt R base top m3 d0 many = Q at *
      generalize il (List.replicate 10 0) = R0 at *
      generalize il Q.1 = R1 at *
      simp only [CF] at lp
      simp [d_law_torn, b_law_torn, evB, evS, evT, evE, evA, evR, evF, evI, evO, rd, rdS, slotR, init, slOf, outR, frzE, wipeS, x0, x1, x2, x3, x4, eb, et, et2, q, rp, ed, emn, c6, rngL_zero, lp]
      rfl
end K55
set_option Elab.async false
set_option linter.all false
set_option maxRecDepth 100000
set_option maxHeartbeats 2000000
/-! k55: the law. -/
namespace K55
open PySem Pz
theorem lev {J K : Nat} (e : J = K) {f : Str} {vs : List PV} {r : RV} (h : callF glob tbl J f vs = some r) : callF glob tbl K f vs = some r := by rw [← e]; exact h
theorem row44 (ns : List Int) : ∃ row : List Int, callF glob tbl 11 "_law_row" [.list (ns.map .int), .int 44] = some ⟨.list (row.map .int), true⟩ ∧ row.length = 44 ∧ ∀ x ∈ row, 0 ≤ x ∧ x < 1000003 := by
  have h : ∀ (m : Nat) (M : Int), M = m → m ≤ 1000 → ∃ row : List Int, callF glob tbl (9 + 2) "_law_row" [.list (ns.map .int), .int M] = some ⟨.list (row.map .int), true⟩ ∧ row.length = m ∧ ∀ x ∈ row, 0 ≤ x ∧ x < 1000003 := fun m M e hm => by
    subst e; exact row_ok (G := glob) helps 9 ns m hm
  obtain ⟨row, a, b⟩ := h 44 44 rfl (by omega)
  exact ⟨row, lev rfl a, b⟩
theorem lost_one (s : Slip) (ht : s.t ≤ 9) (hg : s.g ≠ 0) : lostF [s] = 1 := by
  unfold lostF
  have e : ((List.range 10).map fun x => gapsN x 0 [s]) = (List.range 10).map fun x => if s.t = x then 1 else 0 := by
    apply List.map_congr_left
    intro x _
    unfold gapsN
    unfold gapsN
    by_cases h : s.t = x
    · rw [if_pos h, if_pos h]; unfold bn; rw [if_pos hg]
    · rw [if_neg h, if_neg h]
  rw [e, sum_one, if_pos (by omega)]
theorem heldL {ts : List Slip} {x day h : Nat} (hh : h ≤ 900) (w : Within h ts) (hl : ts.length ≤ 10) : callF glob tbl 11 "_law_held_right" [pt ts, .int x, .int day, .int h] = some ⟨.bool true, false⟩ := lev rfl (held_ok 6 ts x day h hh w hl)
def e2 (q : List Slip × Nat) : PV := .tuple [pt q.1, .int (q.2 : Nat)]
theorem named_ok (ts : List Slip) (ho : ∀ s ∈ ts, OkS s) : ∃ nm : Nat, evBlt .max [.list (.int 1 :: ts.map fun s => .int ((max s.g s.k : Nat) : Int))] = some ⟨.int (nm : Nat), false⟩ ∧ 1 ≤ nm ∧ nm ≤ 9 ∧ Within nm ts := by
  obtain ⟨a, b, c⟩ := maxOf_le (ts.map fun s => ((max s.g s.k : Nat) : Int)) 1
  have e : evBlt .max [.list ((1 :: ts.map fun s => ((max s.g s.k : Nat) : Int)).map .int)] = some ⟨.int (PySem.W.maxOf 1 (ts.map fun s => ((max s.g s.k : Nat) : Int))), false⟩ := by
    show (bestB true ((1 :: ts.map fun s => ((max s.g s.k : Nat) : Int)).map .int)).map _ = _
    rw [show bestB true ((1 :: ts.map fun s => ((max s.g s.k : Nat) : Int)).map PyData.int) = _ from bestB_toD (α := Int) true 1 _ (by decide)]
    rfl
  rw [List.map_cons, List.map_map] at e
  generalize PySem.W.maxOf 1 (ts.map fun s => ((max s.g s.k : Nat) : Int)) = m at *
  have le9 : m ≤ 9 := by
    rcases c with c | c
    · omega
    · obtain ⟨s, hs, q⟩ := List.mem_map.mp c
      have h1 := (ho s hs).g
      have h2 := (ho s hs).k
      omega
  refine ⟨m.toNat, ?_, by omega, by omega, fun s hs => ?_⟩
  · rw [show ((m.toNat : Nat) : Int) = m by omega]
    exact e
  · have := b _ (List.mem_map.mpr ⟨s, hs, rfl⟩)
    omega
theorem law_true (ns : List Int) (h : ns.length ≤ 63) : callF glob tbl 12 "law" [.list (ns.map .int)] = some ⟨.bool true, false⟩ := by
  rw [call_eq (d := d_law) rfl rfl]
  obtain ⟨row, er, hl, hv⟩ := row44 ns
  obtain ⟨ts, T, et⟩ := torn_ok 10 row hl hv
  have et := lev (K := 11) rfl et
  have tl := T.len
  obtain ⟨R, hR⟩ : ∃ R : Nat → Nat, ∀ i (h : i < row.length), row[i] = (R i : Int) := ⟨fun i => (row[i]?.getD 0).toNat, fun i h => by
    have := hv row[i] (List.getElem_mem h)
    show row[i] = (((row[i]?.getD 0).toNat : Nat) : Int)
    rw [List.getElem?_eq_getElem h, Option.getD_some]; omega⟩
  have ix : ∀ i (h : i < 44), evIdx (.list (row.map .int)) (.int (i : Nat)) = some (.int (R i : Nat)) := fun i h => by
    rw [row_ix (by omega), hR i (by omega)]
  generalize PyData.list (row.map .int) = RW at ix er et
  have i36 : evIdx RW (.int 36) = some (.int (R 36 : Nat)) := ix 36 (by omega)
  have i37 : evIdx RW (.int 37) = some (.int (R 37 : Nat)) := ix 37 (by omega)
  have i38 : evIdx RW (.int 38) = some (.int (R 38 : Nat)) := ix 38 (by omega)
  have i39 : evIdx RW (.int 39) = some (.int (R 39 : Nat)) := ix 39 (by omega)
  have i40 : evIdx RW (.int 40) = some (.int (R 40 : Nat)) := ix 40 (by omega)
  have i41 : evIdx RW (.int 41) = some (.int (R 41 : Nat)) := ix 41 (by omega)
  have i42 : evIdx RW (.int 42) = some (.int (R 42 : Nat)) := ix 42 (by omega)
  have i43 : evIdx RW (.int 43) = some (.int (R 43 : Nat)) := ix 43 (by omega)
  obtain ⟨one, e1, o3, o9⟩ : ∃ n : Nat, (3 : Int) + (R 38 : Nat) % 7 = n ∧ 3 ≤ n ∧ n ≤ 9 := ⟨3 + R 38 % 7, by omega, by omega, by omega⟩
  obtain ⟨oth, e3, h2⟩ : ∃ n : Nat, ((R 38 : Nat) : Int) / 7 % 3 = n ∧ n ≤ 2 := ⟨R 38 / 7 % 3, by omega, by omega⟩
  obtain ⟨day, e4, d1, d90⟩ : ∃ n : Nat, (1 : Int) + (R 39 : Nat) % 90 = ((n + 1 : Nat) : Int) ∧ 0 ≤ n ∧ n ≤ 89 := ⟨R 39 % 90, by omega, by omega, by omega⟩
  obtain ⟨to, e5, t1, t2⟩ : ∃ n : Nat, (1 : Int) + (R 40 : Nat) % 2 = n ∧ 1 ≤ n ∧ n ≤ 2 := ⟨1 + R 40 % 2, by omega, by omega, by omega⟩
  have ls := least_lost_ok 9 [⟨one, 1, 2, day + 1⟩] (by simp)
  rw [lost_one _ (by simpa using o9) (by simp)] at ls
  have ls : callF glob tbl 11 "least_lost" [.tuple [.tuple [.int (one : Nat), .int 1, .int 2, .int ((day + 1 : Nat) : Int)]]] = some ⟨.int 1, false⟩ := lev rfl ls
  have lk1 : callF glob tbl 11 "_law_like" [.int 1, .int 1] = some ⟨.bool true, false⟩ := lev rfl (like1 8 (.int 1) ⟨rfl, by decide⟩)
  have pairT : Torn [⟨oth, 0, 1, day + 1⟩, ⟨one, to, to + 1, day + 1 + 5⟩] := by
    refine ⟨by simp, fun s hs => ?_, ?_⟩
    · simp only [List.mem_cons, List.not_mem_nil, or_false] at hs
      rcases hs with rfl | rfl
      · exact ⟨by show oth ≤ 9; omega, by show 0 ≤ 9; omega, by show 1 ≤ 9; omega, by show day + 1 ≤ 99; omega, by show 0 ≠ 1; omega⟩
      · exact ⟨by show one ≤ 9; omega, by show to ≤ 9; omega, by show to + 1 ≤ 9; omega, by show day + 1 + 5 ≤ 99; omega, by show to ≠ to + 1; omega⟩
    · simp
  have m1 := mended_ok 6 _ pairT
  have m2 := lev (K := 11) rfl (mended_ok 6 ts T)
  have m1 : callF glob tbl 11 "_law_mended_right" [.tuple [.tuple [.int (oth : Nat), .int 0, .int 1, .int ((day + 1 : Nat) : Int)], .tuple [.int (one : Nat), .int (to : Nat), .int ((to + 1 : Nat) : Int), .int ((day + 1 + 5 : Nat) : Int)]]] = some ⟨.bool true, false⟩ := lev rfl m1
  have a1 : (to : Int) + 1 = ((to + 1 : Nat) : Int) := by omega
  have a2 : ((day + 1 : Nat) : Int) + 5 = ((day + 1 + 5 : Nat) : Int) := by omega
  have a3 : (2 : Int) + (to : Nat) = ((2 + to : Nat) : Int) := by omega
  have a4 : ((day + 1 : Nat) : Int) - 1 = (day : Nat) := by omega
  have loop : ∀ X : List Sl, loopF (evB (callF glob tbl 11) glob l_law_1) (.tp (.cons (.nm 9) (.cons (.nm 10) .nil))) ([([], to), ([], 5), ([⟨one, 0, to, day + 1⟩], 2 + to), ([⟨one, to, 0, day + 1⟩], 4)].map e2)
      (.val (.list (ns.map .int)) :: .val RW :: .val (pt ts) :: .val (.int one) :: .val (.int oth) :: .val (.int ((day + 1 : Nat) : Int)) :: .val (.int to) :: .val (.tuple [ps ⟨one, 0, to, day + 1⟩]) :: .val (.tuple [ps ⟨one, to, 0, day + 1⟩]) :: .no :: .no :: X) =
      some (.nx (.val (.list (ns.map .int)) :: .val RW :: .val (pt ts) :: .val (.int one) :: .val (.int oth) :: .val (.int ((day + 1 : Nat) : Int)) :: .val (.int to) :: .val (.tuple [ps ⟨one, 0, to, day + 1⟩]) :: .val (.tuple [ps ⟨one, to, 0, day + 1⟩]) :: .no :: .no :: X)) := fun X => by
    refine loopF_fold (e := e2) (fun _ : Unit => _) (fun _ _ => ()) (fun _ => True) (b := ()) trivial fun q _ hq _ => ⟨trivial, _, rfl, .inl ?_⟩
    have hw : q.2 ≤ 900 ∧ Within q.2 q.1 ∧ q.1.length ≤ 10 := by
      simp only [List.mem_cons, List.not_mem_nil, or_false] at hq
      rcases hq with rfl | rfl | rfl | rfl
      · exact ⟨by show to ≤ 900; omega, fun s hs => (by cases hs), by simp⟩
      · exact ⟨by show 5 ≤ 900; omega, fun s hs => (by cases hs), by simp⟩
      · exact ⟨by show 2 + to ≤ 900; omega, fun s hs => by rw [List.mem_singleton] at hs; subst hs; exact ⟨by show 0 ≤ 2 + to; omega, by show to ≤ 2 + to; omega⟩, by simp⟩
      · exact ⟨by show 4 ≤ 900; omega, fun s hs => by rw [List.mem_singleton] at hs; subst hs; exact ⟨by show to ≤ 4; omega, by show 0 ≤ 4; omega⟩, by simp⟩
    have hh := heldL (x := one) (day := day) hw.1 hw.2.1 hw.2.2
    simp [l_law_1, evB, evS, evT, evE, evA, evR, evF, evI, evO, rd, rdS, slotR, init, slOf, outR, frzE, wipeS, a4, hh, -Int.natCast_add]
  have loop := loop [.no, .no, .no, .no, .no, .no, .no]
  have loop : loopF (evB (callF glob tbl 11) glob l_law_1) (.tp (.cons (.nm 9) (.cons (.nm 10) .nil))) [.tuple [.tuple [], .int (to : Nat)], .tuple [.tuple [], .int 5], .tuple [.tuple [.tuple [.int (one : Nat), .int 0, .int (to : Nat), .int ((day + 1 : Nat) : Int)]], .int ((2 + to : Nat) : Int)], .tuple [.tuple [.tuple [.int (one : Nat), .int (to : Nat), .int 0, .int ((day + 1 : Nat) : Int)]], .int 4]]
      [.val (.list (ns.map .int)), .val RW, .val (pt ts), .val (.int one), .val (.int oth), .val (.int ((day + 1 : Nat) : Int)), .val (.int to), .val (.tuple [.tuple [.int (one : Nat), .int 0, .int (to : Nat), .int ((day + 1 : Nat) : Int)]]), .val (.tuple [.tuple [.int (one : Nat), .int (to : Nat), .int 0, .int ((day + 1 : Nat) : Int)]]), .no, .no, .no, .no, .no, .no, .no, .no, .no] = some (.nx [.val (.list (ns.map .int)), .val RW, .val (pt ts), .val (.int one), .val (.int oth), .val (.int ((day + 1 : Nat) : Int)), .val (.int to), .val (.tuple [.tuple [.int (one : Nat), .int 0, .int (to : Nat), .int ((day + 1 : Nat) : Int)]]), .val (.tuple [.tuple [.int (one : Nat), .int (to : Nat), .int 0, .int ((day + 1 : Nat) : Int)]]), .no, .no, .no, .no, .no, .no, .no, .no, .no]) := loop
  obtain ⟨nm, en, n1, n9, nw⟩ := named_ok ts T.ok
  obtain ⟨hh, eh, hh9, hw⟩ : ∃ hh : Nat, (nm : Int) + (R 36 : Nat) % (10 - (nm : Int)) = hh ∧ hh ≤ 900 ∧ Within hh ts := by
    have b1 := Int.emod_nonneg (R 36 : Int) (show (10 - (nm : Int)) ≠ 0 by omega)
    have b2 := Int.emod_lt_of_pos (R 36 : Int) (show (0 : Int) < 10 - (nm : Int) by omega)
    refine ⟨((nm : Int) + (R 36 : Nat) % (10 - (nm : Int))).toNat, by omega, by omega, fun s hs => ?_⟩
    have := nw s hs
    omega
  have p10 : (0 : Int) < 10 - (nm : Int) := by omega
  have hd := fun x day => heldL (x := x) (day := day) hh9 hw tl
  obtain ⟨th, e6⟩ : ∃ n : Nat, ((R 37 : Nat) : Int) % 10 = n := ⟨R 37 % 10, by omega⟩
  obtain ⟨da, e7⟩ : ∃ n : Nat, ((R 41 : Nat) : Int) % 100 = n := ⟨R 41 % 100, by omega⟩
  obtain ⟨db, e8⟩ : ∃ n : Nat, ((R 43 : Nat) : Int) % 30 = n := ⟨R 43 % 30, by omega⟩
  have two : ∀ (f : PV → Option (List PV)) (a b : Nat) , f (.int (a : Nat)) = some [.bool true] → f (.int (b : Nat)) = some [.bool true] → compL f [.int (a : Nat), .int (b : Nat)] = some [.bool true, .bool true] := fun f a b f1 f2 => by simp [compL, f1, f2]
  have al : evBlt .all [.list [.bool true, .bool true]] = some ⟨.bool true, false⟩ := rfl
  have pl := pt_len ts
  have mxc : ∀ f : PV → Option (List PV), (∀ s ∈ ts, f (ps s) = some [.int ((max s.g s.k : Nat) : Int)]) → compL f (ts.map ps) = some (ts.map fun s => .int ((max s.g s.k : Nat) : Int)) := fun f hf => compL_map hf
  have seq : pt ts = .tuple (ts.map ps) := rfl
  have cat : evBin .add (.list [.int 1]) (.list (ts.map fun s => .int ((max s.g s.k : Nat) : Int))) = some ⟨.list (.int 1 :: ts.map fun s => .int ((max s.g s.k : Nat) : Int)), true⟩ := by
    rw [bin_catL (by simp; unfold LIM; omega)]; rfl
  have mxd : ∀ d : Nat, evBlt .max [.int 0, .int ((d : Int) - 1)] = some ⟨.int ((d - 1 : Nat) : Int), false⟩ := fun d => by
    show some (⟨.int (if (d : Int) - 1 > 0 then (d : Int) - 1 else 0), false⟩ : RV) = _
    congr 2; congr 1
    by_cases q : (d : Int) - 1 > 0
    · rw [if_pos q]; omega
    · rw [if_neg q]; omega
  have hix : ∀ (hz : 0 < ts.length), ∃ s : Slip, evIdx (.tuple (ts.map ps)) (.int (((R 42 : Nat) : Int) / 4 % (ts.length : Int))) = some (ps s) := fun hz => by
    have b1 := Int.emod_nonneg (((R 42 : Nat) : Int) / 4) (show (ts.length : Int) ≠ 0 by omega)
    have b2 := Int.emod_lt_of_pos (((R 42 : Nat) : Int) / 4) (show (0 : Int) < ts.length by omega)
    obtain ⟨n, en⟩ : ∃ n : Nat, ((R 42 : Nat) : Int) / 4 % (ts.length : Int) = n := ⟨(((R 42 : Nat) : Int) / 4 % (ts.length : Int)).toNat, by omega⟩
    have hn : n < ts.length := by omega
    refine ⟨ts[n], ?_⟩
    rw [en]
    exact pt_ix hn
  generalize hD : ((day + 1 : Nat) : Int) = D at *
  generalize hD5 : ((day + 1 + 5 : Nat) : Int) = D5 at *
  generalize hT1 : ((to + 1 : Nat) : Int) = T1 at *
  generalize hG2 : ((2 + to : Nat) : Int) = G2 at *
  simp [d_law, b_law, evB, evS, evT, evE, evA, evR, evF, evI, evO, rd, rdS, slotR, init, slOf, outR, frzE, wipeS, er, et, i38, e1, e3, i39, e4, i40, e5, ls, lk1, a1, a2, a3, loop, m1, m2]
  simp only [seq] at hd pl ⊢
  simp
  rw [mxc _ fun s hs => ?_]
  · generalize PyData.tuple (List.map ps ts) = PT at *
    simp [cat, en, i36, bin_mod p10, eh, i37, e6, i41, e7, i43, e8, pl, i42]
    by_cases q : 0 < ts.length ∧ (0 : Int) < ((R 42 : Nat) : Int) % 4
    · obtain ⟨q1, q2⟩ := q
      have q1' : (0 : Int) < (ts.length : Int) := by omega
      obtain ⟨s, es⟩ := hix q1
      have p0 : evIdx (ps s) (.int 0) = some (.int (s.t : Nat)) := rfl
      have p3 : evIdx (ps s) (.int 3) = some (.int (s.d : Nat)) := rfl
      have h1 := hd s.t (s.d - 1)
      have h2 := hd s.t s.d
      have mx := mxd s.d
      generalize hdm : ((s.d - 1 : Nat) : Int) = dm at *
      simp [q1, q2, pl, i42, bin_mod q1', es, p0, p3, mx, compL, h1, h2, al]
    · rw [Classical.not_and_iff_not_or_not] at q
      have h1 := hd th da
      have h2 := hd th db
      rcases q with q | q
      · have q' : ts.length = 0 := by omega
        simp [q', pl, compL, h1, h2, al]
      · by_cases q0 : 0 < ts.length
        · simp [q0, pl, i42, q, compL, h1, h2, al]
        · have q' : ts.length = 0 := by omega
          simp [q', pl, compL, h1, h2, al]
  · have p1 : evIdx (ps s) (.int 1) = some (.int (s.g : Nat)) := rfl
    have p2 : evIdx (ps s) (.int 2) = some (.int (s.k : Nat)) := rfl
    simp [p1, p2, evBlt]
    split <;> omega
end K55
set_option Elab.async false
set_option linter.all false
set_option maxRecDepth 100000
namespace K55
open PySem PySem.Spec PyProof.Rows Pz L2
theorem bd_gaps_of (kV doc pm : Value) (an : Option Addr) (cdv ct : Value) (us : List Value) (hl : us.length = d_gaps_of.ps.length) : bindArgs (PySem.W.fnOf d_gaps_of.name d_gaps_of.name (defArgs d_gaps_of.st) (defBody d_gaps_of.st) (defScope d_gaps_of.st) .none kV doc pm an cdv ct) ⟨us, []⟩ = pure (d_gaps_of.ps.zip us) := match us, hl with | [_, _], _ => rfl
theorem bd_least_lost (kV doc pm : Value) (an : Option Addr) (cdv ct : Value) (us : List Value) (hl : us.length = d_least_lost.ps.length) : bindArgs (PySem.W.fnOf d_least_lost.name d_least_lost.name (defArgs d_least_lost.st) (defBody d_least_lost.st) (defScope d_least_lost.st) .none kV doc pm an cdv ct) ⟨us, []⟩ = pure (d_least_lost.ps.zip us) := match us, hl with | [_], _ => rfl
theorem bd_within (kV doc pm : Value) (an : Option Addr) (cdv ct : Value) (us : List Value) (hl : us.length = d_within.ps.length) : bindArgs (PySem.W.fnOf d_within.name d_within.name (defArgs d_within.st) (defBody d_within.st) (defScope d_within.st) .none kV doc pm an cdv ct) ⟨us, []⟩ = pure (d_within.ps.zip us) := match us, hl with | [_, _], _ => rfl
theorem bd_around (kV doc pm : Value) (an : Option Addr) (cdv ct : Value) (us : List Value) (hl : us.length = d_around.ps.length) : bindArgs (PySem.W.fnOf d_around.name d_around.name (defArgs d_around.st) (defBody d_around.st) (defScope d_around.st) .none kV doc pm an cdv ct) ⟨us, []⟩ = pure (d_around.ps.zip us) := match us, hl with | [_, _, _], _ => rfl
theorem bd_changes (kV doc pm : Value) (an : Option Addr) (cdv ct : Value) (us : List Value) (hl : us.length = d_changes.ps.length) : bindArgs (PySem.W.fnOf d_changes.name d_changes.name (defArgs d_changes.st) (defBody d_changes.st) (defScope d_changes.st) .none kV doc pm an cdv ct) ⟨us, []⟩ = pure (d_changes.ps.zip us) := match us, hl with | [_], _ => rfl
theorem bd_could_hold (kV doc pm : Value) (an : Option Addr) (cdv ct : Value) (us : List Value) (hl : us.length = d_could_hold.ps.length) : bindArgs (PySem.W.fnOf d_could_hold.name d_could_hold.name (defArgs d_could_hold.st) (defBody d_could_hold.st) (defScope d_could_hold.st) .none kV doc pm an cdv ct) ⟨us, []⟩ = pure (d_could_hold.ps.zip us) := match us, hl with | [_, _, _, _, _], _ => rfl
theorem bd_surely_held (kV doc pm : Value) (an : Option Addr) (cdv ct : Value) (us : List Value) (hl : us.length = d_surely_held.ps.length) : bindArgs (PySem.W.fnOf d_surely_held.name d_surely_held.name (defArgs d_surely_held.st) (defBody d_surely_held.st) (defScope d_surely_held.st) .none kV doc pm an cdv ct) ⟨us, []⟩ = pure (d_surely_held.ps.zip us) := match us, hl with | [_, _, _, _, _], _ => rfl
theorem bd_least_mend (kV doc pm : Value) (an : Option Addr) (cdv ct : Value) (us : List Value) (hl : us.length = d_least_mend.ps.length) : bindArgs (PySem.W.fnOf d_least_mend.name d_least_mend.name (defArgs d_least_mend.st) (defBody d_least_mend.st) (defScope d_least_mend.st) .none kV doc pm an cdv ct) ⟨us, []⟩ = pure (d_least_mend.ps.zip us) := match us, hl with | [_], _ => rfl
theorem bd_is_whole (kV doc pm : Value) (an : Option Addr) (cdv ct : Value) (us : List Value) (hl : us.length = d_is_whole.ps.length) : bindArgs (PySem.W.fnOf d_is_whole.name d_is_whole.name (defArgs d_is_whole.st) (defBody d_is_whole.st) (defScope d_is_whole.st) .none kV doc pm an cdv ct) ⟨us, []⟩ = pure (d_is_whole.ps.zip us) := match us, hl with | [_, _], _ => rfl
theorem bd_is_slip (kV doc pm : Value) (an : Option Addr) (cdv ct : Value) (us : List Value) (hl : us.length = d_is_slip.ps.length) : bindArgs (PySem.W.fnOf d_is_slip.name d_is_slip.name (defArgs d_is_slip.st) (defBody d_is_slip.st) (defScope d_is_slip.st) .none kV doc pm an cdv ct) ⟨us, []⟩ = pure (d_is_slip.ps.zip us) := match us, hl with | [_], _ => rfl
theorem bd_check_history (kV doc pm : Value) (an : Option Addr) (cdv ct : Value) (us : List Value) (hl : us.length = d_check_history.ps.length) : bindArgs (PySem.W.fnOf d_check_history.name d_check_history.name (defArgs d_check_history.st) (defBody d_check_history.st) (defScope d_check_history.st) .none kV doc pm an cdv ct) ⟨us, []⟩ = pure (d_check_history.ps.zip us) := match us, hl with | [_], _ => rfl
theorem bd_law_mixed (kV doc pm : Value) (an : Option Addr) (cdv ct : Value) (us : List Value) (hl : us.length = d_law_mixed.ps.length) : bindArgs (PySem.W.fnOf d_law_mixed.name d_law_mixed.name (defArgs d_law_mixed.st) (defBody d_law_mixed.st) (defScope d_law_mixed.st) .none kV doc pm an cdv ct) ⟨us, []⟩ = pure (d_law_mixed.ps.zip us) := match us, hl with | [_, _], _ => rfl
theorem bd_law_row (kV doc pm : Value) (an : Option Addr) (cdv ct : Value) (us : List Value) (hl : us.length = d_law_row.ps.length) : bindArgs (PySem.W.fnOf d_law_row.name d_law_row.name (defArgs d_law_row.st) (defBody d_law_row.st) (defScope d_law_row.st) .none kV doc pm an cdv ct) ⟨us, []⟩ = pure (d_law_row.ps.zip us) := match us, hl with | [_, _], _ => rfl
theorem bd_law_is_int (kV doc pm : Value) (an : Option Addr) (cdv ct : Value) (us : List Value) (hl : us.length = d_law_is_int.ps.length) : bindArgs (PySem.W.fnOf d_law_is_int.name d_law_is_int.name (defArgs d_law_is_int.st) (defBody d_law_is_int.st) (defScope d_law_is_int.st) .none kV doc pm an cdv ct) ⟨us, []⟩ = pure (d_law_is_int.ps.zip us) := match us, hl with | [_], _ => rfl
theorem bd_law_like (kV doc pm : Value) (an : Option Addr) (cdv ct : Value) (us : List Value) (hl : us.length = d_law_like.ps.length) : bindArgs (PySem.W.fnOf d_law_like.name d_law_like.name (defArgs d_law_like.st) (defBody d_law_like.st) (defScope d_law_like.st) .none kV doc pm an cdv ct) ⟨us, []⟩ = pure (d_law_like.ps.zip us) := match us, hl with | [_, _], _ => rfl
theorem bd_law_torn (kV doc pm : Value) (an : Option Addr) (cdv ct : Value) (us : List Value) (hl : us.length = d_law_torn.ps.length) : bindArgs (PySem.W.fnOf d_law_torn.name d_law_torn.name (defArgs d_law_torn.st) (defBody d_law_torn.st) (defScope d_law_torn.st) .none kV doc pm an cdv ct) ⟨us, []⟩ = pure (d_law_torn.ps.zip us) := match us, hl with | [_], _ => rfl
theorem bd_law_spread (kV doc pm : Value) (an : Option Addr) (cdv ct : Value) (us : List Value) (hl : us.length = d_law_spread.ps.length) : bindArgs (PySem.W.fnOf d_law_spread.name d_law_spread.name (defArgs d_law_spread.st) (defBody d_law_spread.st) (defScope d_law_spread.st) .none kV doc pm an cdv ct) ⟨us, []⟩ = pure (d_law_spread.ps.zip us) := match us, hl with | [_], _ => rfl
theorem bd_law_only (kV doc pm : Value) (an : Option Addr) (cdv ct : Value) (us : List Value) (hl : us.length = d_law_only.ps.length) : bindArgs (PySem.W.fnOf d_law_only.name d_law_only.name (defArgs d_law_only.st) (defBody d_law_only.st) (defScope d_law_only.st) .none kV doc pm an cdv ct) ⟨us, []⟩ = pure (d_law_only.ps.zip us) := match us, hl with | [_, _], _ => rfl
theorem bd_law_fewest (kV doc pm : Value) (an : Option Addr) (cdv ct : Value) (us : List Value) (hl : us.length = d_law_fewest.ps.length) : bindArgs (PySem.W.fnOf d_law_fewest.name d_law_fewest.name (defArgs d_law_fewest.st) (defBody d_law_fewest.st) (defScope d_law_fewest.st) .none kV doc pm an cdv ct) ⟨us, []⟩ = pure (d_law_fewest.ps.zip us) := match us, hl with | [_, _, _, _, _], _ => rfl
theorem bd_law_held_right (kV doc pm : Value) (an : Option Addr) (cdv ct : Value) (us : List Value) (hl : us.length = d_law_held_right.ps.length) : bindArgs (PySem.W.fnOf d_law_held_right.name d_law_held_right.name (defArgs d_law_held_right.st) (defBody d_law_held_right.st) (defScope d_law_held_right.st) .none kV doc pm an cdv ct) ⟨us, []⟩ = pure (d_law_held_right.ps.zip us) := match us, hl with | [_, _, _, _], _ => rfl
theorem bd_law_mended_right (kV doc pm : Value) (an : Option Addr) (cdv ct : Value) (us : List Value) (hl : us.length = d_law_mended_right.ps.length) : bindArgs (PySem.W.fnOf d_law_mended_right.name d_law_mended_right.name (defArgs d_law_mended_right.st) (defBody d_law_mended_right.st) (defScope d_law_mended_right.st) .none kV doc pm an cdv ct) ⟨us, []⟩ = pure (d_law_mended_right.ps.zip us) := match us, hl with | [_], _ => rfl
theorem bd_law (kV doc pm : Value) (an : Option Addr) (cdv ct : Value) (us : List Value) (hl : us.length = d_law.ps.length) : bindArgs (PySem.W.fnOf d_law.name d_law.name (defArgs d_law.st) (defBody d_law.st) (defScope d_law.st) .none kV doc pm an cdv ct) ⟨us, []⟩ = pure (d_law.ps.zip us) := match us, hl with | [_], _ => rfl
theorem bltn_mk {mg : Str → Option Value} (z0 : mg "len" = none) (z1 : mg "sum" = none) (z2 : mg "min" = none) (z3 : mg "max" = none) (z4 : mg "all" = none) (z5 : mg "any" = none) (z6 : mg "tuple" = none) (z7 : mg "list" = none) (z8 : mg "sorted" = none) (z9 : mg "int" = none) (z10 : mg "str" = none) (z11 : mg "abs" = none) (z12 : mg "bool" = none) (z13 : mg "reversed" = none) (z14 : mg "isinstance" = none) (z15 : mg "range" = none) (z16 : mg "enumerate" = none) (z17 : mg "zip" = none) : ∀ x ∈ bltNames, mg x = none := by
  intro x hx
  simp only [bltNames, List.mem_cons, List.not_mem_nil, or_false] at hx
  rcases hx with rfl | rfl | rfl | rfl | rfl | rfl | rfl | rfl | rfl | rfl | rfl | rfl | rfl | rfl | rfl | rfl | rfl | rfl
  all_goals assumption
theorem glob_ok {K : PySem.W.Frag} {h : Heap} {mg : Str → Option Value} (X : K.In h) (G : h.Ns mainGlobals mg)
    {gt0 : Tok} (kg0 : PySem.W.nsIn K mainGlobals "THINGS" = some (some (.int 10 gt0)))
    {gt1 : Tok} (kg1 : PySem.W.nsIn K mainGlobals "MOST_SLIPS" = some (some (.int 30 gt1)))
    {gt2 : Tok} (kg2 : PySem.W.nsIn K mainGlobals "HOUSE" = some (some (.int 0 gt2)))
    : ∀ x v, glob x = some v → ∃ u y, mg x = some u ∧ RelV y u ∧ ∀ F : Hp, Dp K F y v := by
  intro x v e
  unfold glob at e
  split at e
  · rename_i hx
    subst hx
    cases e
    exact ⟨_, .int (10), PySem.W.mg_of X G kg0, ⟨_, rfl⟩, fun F => .int _⟩
  split at e
  · rename_i hx
    subst hx
    cases e
    exact ⟨_, .int (30), PySem.W.mg_of X G kg1, ⟨_, rfl⟩, fun F => .int _⟩
  split at e
  · rename_i hx
    subst hx
    cases e
    exact ⟨_, .int (0), PySem.W.mg_of X G kg2, ⟨_, rfl⟩, fun F => .int _⟩
  cases e
theorem all_mk {P : Program} {w : World} {K : PySem.W.Frag} {h : Heap} {mg : Str → Option Value} {fa : Addr} (X : K.In h) (G : h.Ns mainGlobals mg) (hfa : mg "law" = some (.ref fa))
    {f0 : Addr} {oc0 : Value} {od0 an0 : Option Addr} {sl0 : Array (Option Value)} {kV0 dc0 pm0 cd0 ct0 : Value} (a0 : PySem.W.nsIn K mainGlobals "gaps_of" = some (some (.ref f0))) (l0 : K.lookup f0 = some ⟨oc0, od0, .func (PySem.W.fnOf "gaps_of" "gaps_of" (defArgs d_gaps_of.st) (defBody d_gaps_of.st) (defScope d_gaps_of.st) .none kV0 dc0 pm0 an0 cd0 ct0), sl0⟩) (c0 : PySem.W.codeIn K cd0 "gaps_of" = true) (k0 : PySem.W.keepIn K (.ref f0) = true)
    {f1 : Addr} {oc1 : Value} {od1 an1 : Option Addr} {sl1 : Array (Option Value)} {kV1 dc1 pm1 cd1 ct1 : Value} (a1 : PySem.W.nsIn K mainGlobals "least_lost" = some (some (.ref f1))) (l1 : K.lookup f1 = some ⟨oc1, od1, .func (PySem.W.fnOf "least_lost" "least_lost" (defArgs d_least_lost.st) (defBody d_least_lost.st) (defScope d_least_lost.st) .none kV1 dc1 pm1 an1 cd1 ct1), sl1⟩) (c1 : PySem.W.codeIn K cd1 "least_lost" = true) (k1 : PySem.W.keepIn K (.ref f1) = true)
    {f2 : Addr} {oc2 : Value} {od2 an2 : Option Addr} {sl2 : Array (Option Value)} {kV2 dc2 pm2 cd2 ct2 : Value} (a2 : PySem.W.nsIn K mainGlobals "_within" = some (some (.ref f2))) (l2 : K.lookup f2 = some ⟨oc2, od2, .func (PySem.W.fnOf "_within" "_within" (defArgs d_within.st) (defBody d_within.st) (defScope d_within.st) .none kV2 dc2 pm2 an2 cd2 ct2), sl2⟩) (c2 : PySem.W.codeIn K cd2 "_within" = true) (k2 : PySem.W.keepIn K (.ref f2) = true)
    {f3 : Addr} {oc3 : Value} {od3 an3 : Option Addr} {sl3 : Array (Option Value)} {kV3 dc3 pm3 cd3 ct3 : Value} (a3 : PySem.W.nsIn K mainGlobals "_around" = some (some (.ref f3))) (l3 : K.lookup f3 = some ⟨oc3, od3, .func (PySem.W.fnOf "_around" "_around" (defArgs d_around.st) (defBody d_around.st) (defScope d_around.st) .none kV3 dc3 pm3 an3 cd3 ct3), sl3⟩) (c3 : PySem.W.codeIn K cd3 "_around" = true) (k3 : PySem.W.keepIn K (.ref f3) = true)
    {f4 : Addr} {oc4 : Value} {od4 an4 : Option Addr} {sl4 : Array (Option Value)} {kV4 dc4 pm4 cd4 ct4 : Value} (a4 : PySem.W.nsIn K mainGlobals "_changes" = some (some (.ref f4))) (l4 : K.lookup f4 = some ⟨oc4, od4, .func (PySem.W.fnOf "_changes" "_changes" (defArgs d_changes.st) (defBody d_changes.st) (defScope d_changes.st) .none kV4 dc4 pm4 an4 cd4 ct4), sl4⟩) (c4 : PySem.W.codeIn K cd4 "_changes" = true) (k4 : PySem.W.keepIn K (.ref f4) = true)
    {f5 : Addr} {oc5 : Value} {od5 an5 : Option Addr} {sl5 : Array (Option Value)} {kV5 dc5 pm5 cd5 ct5 : Value} (a5 : PySem.W.nsIn K mainGlobals "could_hold" = some (some (.ref f5))) (l5 : K.lookup f5 = some ⟨oc5, od5, .func (PySem.W.fnOf "could_hold" "could_hold" (defArgs d_could_hold.st) (defBody d_could_hold.st) (defScope d_could_hold.st) .none kV5 dc5 pm5 an5 cd5 ct5), sl5⟩) (c5 : PySem.W.codeIn K cd5 "could_hold" = true) (k5 : PySem.W.keepIn K (.ref f5) = true)
    {f6 : Addr} {oc6 : Value} {od6 an6 : Option Addr} {sl6 : Array (Option Value)} {kV6 dc6 pm6 cd6 ct6 : Value} (a6 : PySem.W.nsIn K mainGlobals "surely_held" = some (some (.ref f6))) (l6 : K.lookup f6 = some ⟨oc6, od6, .func (PySem.W.fnOf "surely_held" "surely_held" (defArgs d_surely_held.st) (defBody d_surely_held.st) (defScope d_surely_held.st) .none kV6 dc6 pm6 an6 cd6 ct6), sl6⟩) (c6 : PySem.W.codeIn K cd6 "surely_held" = true) (k6 : PySem.W.keepIn K (.ref f6) = true)
    {f7 : Addr} {oc7 : Value} {od7 an7 : Option Addr} {sl7 : Array (Option Value)} {kV7 dc7 pm7 cd7 ct7 : Value} (a7 : PySem.W.nsIn K mainGlobals "least_mend" = some (some (.ref f7))) (l7 : K.lookup f7 = some ⟨oc7, od7, .func (PySem.W.fnOf "least_mend" "least_mend" (defArgs d_least_mend.st) (defBody d_least_mend.st) (defScope d_least_mend.st) .none kV7 dc7 pm7 an7 cd7 ct7), sl7⟩) (c7 : PySem.W.codeIn K cd7 "least_mend" = true) (k7 : PySem.W.keepIn K (.ref f7) = true)
    {f8 : Addr} {oc8 : Value} {od8 an8 : Option Addr} {sl8 : Array (Option Value)} {kV8 dc8 pm8 cd8 ct8 : Value} (a8 : PySem.W.nsIn K mainGlobals "is_whole" = some (some (.ref f8))) (l8 : K.lookup f8 = some ⟨oc8, od8, .func (PySem.W.fnOf "is_whole" "is_whole" (defArgs d_is_whole.st) (defBody d_is_whole.st) (defScope d_is_whole.st) .none kV8 dc8 pm8 an8 cd8 ct8), sl8⟩) (c8 : PySem.W.codeIn K cd8 "is_whole" = true) (k8 : PySem.W.keepIn K (.ref f8) = true)
    {f9 : Addr} {oc9 : Value} {od9 an9 : Option Addr} {sl9 : Array (Option Value)} {kV9 dc9 pm9 cd9 ct9 : Value} (a9 : PySem.W.nsIn K mainGlobals "is_slip" = some (some (.ref f9))) (l9 : K.lookup f9 = some ⟨oc9, od9, .func (PySem.W.fnOf "is_slip" "is_slip" (defArgs d_is_slip.st) (defBody d_is_slip.st) (defScope d_is_slip.st) .none kV9 dc9 pm9 an9 cd9 ct9), sl9⟩) (c9 : PySem.W.codeIn K cd9 "is_slip" = true) (k9 : PySem.W.keepIn K (.ref f9) = true)
    {f10 : Addr} {oc10 : Value} {od10 an10 : Option Addr} {sl10 : Array (Option Value)} {kV10 dc10 pm10 cd10 ct10 : Value} (a10 : PySem.W.nsIn K mainGlobals "check_history" = some (some (.ref f10))) (l10 : K.lookup f10 = some ⟨oc10, od10, .func (PySem.W.fnOf "check_history" "check_history" (defArgs d_check_history.st) (defBody d_check_history.st) (defScope d_check_history.st) .none kV10 dc10 pm10 an10 cd10 ct10), sl10⟩) (c10 : PySem.W.codeIn K cd10 "check_history" = true) (k10 : PySem.W.keepIn K (.ref f10) = true)
    {f11 : Addr} {oc11 : Value} {od11 an11 : Option Addr} {sl11 : Array (Option Value)} {kV11 dc11 pm11 cd11 ct11 : Value} (a11 : PySem.W.nsIn K mainGlobals "_law_mixed" = some (some (.ref f11))) (l11 : K.lookup f11 = some ⟨oc11, od11, .func (PySem.W.fnOf "_law_mixed" "_law_mixed" (defArgs d_law_mixed.st) (defBody d_law_mixed.st) (defScope d_law_mixed.st) .none kV11 dc11 pm11 an11 cd11 ct11), sl11⟩) (c11 : PySem.W.codeIn K cd11 "_law_mixed" = true) (k11 : PySem.W.keepIn K (.ref f11) = true)
    {f12 : Addr} {oc12 : Value} {od12 an12 : Option Addr} {sl12 : Array (Option Value)} {kV12 dc12 pm12 cd12 ct12 : Value} (a12 : PySem.W.nsIn K mainGlobals "_law_row" = some (some (.ref f12))) (l12 : K.lookup f12 = some ⟨oc12, od12, .func (PySem.W.fnOf "_law_row" "_law_row" (defArgs d_law_row.st) (defBody d_law_row.st) (defScope d_law_row.st) .none kV12 dc12 pm12 an12 cd12 ct12), sl12⟩) (c12 : PySem.W.codeIn K cd12 "_law_row" = true) (k12 : PySem.W.keepIn K (.ref f12) = true)
    {f13 : Addr} {oc13 : Value} {od13 an13 : Option Addr} {sl13 : Array (Option Value)} {kV13 dc13 pm13 cd13 ct13 : Value} (a13 : PySem.W.nsIn K mainGlobals "_law_is_int" = some (some (.ref f13))) (l13 : K.lookup f13 = some ⟨oc13, od13, .func (PySem.W.fnOf "_law_is_int" "_law_is_int" (defArgs d_law_is_int.st) (defBody d_law_is_int.st) (defScope d_law_is_int.st) .none kV13 dc13 pm13 an13 cd13 ct13), sl13⟩) (c13 : PySem.W.codeIn K cd13 "_law_is_int" = true) (k13 : PySem.W.keepIn K (.ref f13) = true)
    {f14 : Addr} {oc14 : Value} {od14 an14 : Option Addr} {sl14 : Array (Option Value)} {kV14 dc14 pm14 cd14 ct14 : Value} (a14 : PySem.W.nsIn K mainGlobals "_law_like" = some (some (.ref f14))) (l14 : K.lookup f14 = some ⟨oc14, od14, .func (PySem.W.fnOf "_law_like" "_law_like" (defArgs d_law_like.st) (defBody d_law_like.st) (defScope d_law_like.st) .none kV14 dc14 pm14 an14 cd14 ct14), sl14⟩) (c14 : PySem.W.codeIn K cd14 "_law_like" = true) (k14 : PySem.W.keepIn K (.ref f14) = true)
    {f15 : Addr} {oc15 : Value} {od15 an15 : Option Addr} {sl15 : Array (Option Value)} {kV15 dc15 pm15 cd15 ct15 : Value} (a15 : PySem.W.nsIn K mainGlobals "_law_torn" = some (some (.ref f15))) (l15 : K.lookup f15 = some ⟨oc15, od15, .func (PySem.W.fnOf "_law_torn" "_law_torn" (defArgs d_law_torn.st) (defBody d_law_torn.st) (defScope d_law_torn.st) .none kV15 dc15 pm15 an15 cd15 ct15), sl15⟩) (c15 : PySem.W.codeIn K cd15 "_law_torn" = true) (k15 : PySem.W.keepIn K (.ref f15) = true)
    {f16 : Addr} {oc16 : Value} {od16 an16 : Option Addr} {sl16 : Array (Option Value)} {kV16 dc16 pm16 cd16 ct16 : Value} (a16 : PySem.W.nsIn K mainGlobals "_law_spread" = some (some (.ref f16))) (l16 : K.lookup f16 = some ⟨oc16, od16, .func (PySem.W.fnOf "_law_spread" "_law_spread" (defArgs d_law_spread.st) (defBody d_law_spread.st) (defScope d_law_spread.st) .none kV16 dc16 pm16 an16 cd16 ct16), sl16⟩) (c16 : PySem.W.codeIn K cd16 "_law_spread" = true) (k16 : PySem.W.keepIn K (.ref f16) = true)
    {f17 : Addr} {oc17 : Value} {od17 an17 : Option Addr} {sl17 : Array (Option Value)} {kV17 dc17 pm17 cd17 ct17 : Value} (a17 : PySem.W.nsIn K mainGlobals "_law_only" = some (some (.ref f17))) (l17 : K.lookup f17 = some ⟨oc17, od17, .func (PySem.W.fnOf "_law_only" "_law_only" (defArgs d_law_only.st) (defBody d_law_only.st) (defScope d_law_only.st) .none kV17 dc17 pm17 an17 cd17 ct17), sl17⟩) (c17 : PySem.W.codeIn K cd17 "_law_only" = true) (k17 : PySem.W.keepIn K (.ref f17) = true)
    {f18 : Addr} {oc18 : Value} {od18 an18 : Option Addr} {sl18 : Array (Option Value)} {kV18 dc18 pm18 cd18 ct18 : Value} (a18 : PySem.W.nsIn K mainGlobals "_law_fewest" = some (some (.ref f18))) (l18 : K.lookup f18 = some ⟨oc18, od18, .func (PySem.W.fnOf "_law_fewest" "_law_fewest" (defArgs d_law_fewest.st) (defBody d_law_fewest.st) (defScope d_law_fewest.st) .none kV18 dc18 pm18 an18 cd18 ct18), sl18⟩) (c18 : PySem.W.codeIn K cd18 "_law_fewest" = true) (k18 : PySem.W.keepIn K (.ref f18) = true)
    {f19 : Addr} {oc19 : Value} {od19 an19 : Option Addr} {sl19 : Array (Option Value)} {kV19 dc19 pm19 cd19 ct19 : Value} (a19 : PySem.W.nsIn K mainGlobals "_law_held_right" = some (some (.ref f19))) (l19 : K.lookup f19 = some ⟨oc19, od19, .func (PySem.W.fnOf "_law_held_right" "_law_held_right" (defArgs d_law_held_right.st) (defBody d_law_held_right.st) (defScope d_law_held_right.st) .none kV19 dc19 pm19 an19 cd19 ct19), sl19⟩) (c19 : PySem.W.codeIn K cd19 "_law_held_right" = true) (k19 : PySem.W.keepIn K (.ref f19) = true)
    {f20 : Addr} {oc20 : Value} {od20 an20 : Option Addr} {sl20 : Array (Option Value)} {kV20 dc20 pm20 cd20 ct20 : Value} (a20 : PySem.W.nsIn K mainGlobals "_law_mended_right" = some (some (.ref f20))) (l20 : K.lookup f20 = some ⟨oc20, od20, .func (PySem.W.fnOf "_law_mended_right" "_law_mended_right" (defArgs d_law_mended_right.st) (defBody d_law_mended_right.st) (defScope d_law_mended_right.st) .none kV20 dc20 pm20 an20 cd20 ct20), sl20⟩) (c20 : PySem.W.codeIn K cd20 "_law_mended_right" = true) (k20 : PySem.W.keepIn K (.ref f20) = true)
    {f21 : Addr} {oc21 : Value} {od21 an21 : Option Addr} {sl21 : Array (Option Value)} {kV21 dc21 pm21 cd21 ct21 : Value} (a21 : PySem.W.nsIn K mainGlobals "law" = some (some (.ref f21))) (l21 : K.lookup f21 = some ⟨oc21, od21, .func (PySem.W.fnOf "law" "law" (defArgs d_law.st) (defBody d_law.st) (defScope d_law.st) .none kV21 dc21 pm21 an21 cd21 ct21), sl21⟩) (c21 : PySem.W.codeIn K cd21 "law" = true) (k21 : PySem.W.keepIn K (.ref f21) = true)
    (z0 : PySem.W.nsIn K mainGlobals "len" = some none)
    (z1 : PySem.W.nsIn K mainGlobals "sum" = some none)
    (z2 : PySem.W.nsIn K mainGlobals "min" = some none)
    (z3 : PySem.W.nsIn K mainGlobals "max" = some none)
    (z4 : PySem.W.nsIn K mainGlobals "all" = some none)
    (z5 : PySem.W.nsIn K mainGlobals "any" = some none)
    (z6 : PySem.W.nsIn K mainGlobals "tuple" = some none)
    (z7 : PySem.W.nsIn K mainGlobals "list" = some none)
    (z8 : PySem.W.nsIn K mainGlobals "sorted" = some none)
    (z9 : PySem.W.nsIn K mainGlobals "int" = some none)
    (z10 : PySem.W.nsIn K mainGlobals "str" = some none)
    (z11 : PySem.W.nsIn K mainGlobals "abs" = some none)
    (z12 : PySem.W.nsIn K mainGlobals "bool" = some none)
    (z13 : PySem.W.nsIn K mainGlobals "reversed" = some none)
    (z14 : PySem.W.nsIn K mainGlobals "isinstance" = some none)
    (z15 : PySem.W.nsIn K mainGlobals "range" = some none)
    (z16 : PySem.W.nsIn K mainGlobals "enumerate" = some none)
    (z17 : PySem.W.nsIn K mainGlobals "zip" = some none)
    {gt0 : Tok} (kg0 : PySem.W.nsIn K mainGlobals "THINGS" = some (some (.int 10 gt0)))
    {gt1 : Tok} (kg1 : PySem.W.nsIn K mainGlobals "MOST_SLIPS" = some (some (.int 30 gt1)))
    {gt2 : Tok} (kg2 : PySem.W.nsIn K mainGlobals "HOUSE" = some (some (.int 0 gt2))) :
    ∃ fd : FuncData, (∀ (s : Shared) (v : Value), BindsTo s fd ⟨[v], []⟩ [("script", v)]) ∧ ∀ base : Heap, K.In base → base.Ns mainGlobals mg → FnOk P w K mg base CX0 12 fa fd ["script"] (spF K (callF glob tbl 12) "law") := by
  have e := hfa.symm.trans (PySem.W.mg_of X G a21)
  cases e
  have i0 : DefIn K mg d_gaps_of f0 _ := ⟨fun_mk (st := d_gaps_of.st) l0 c0 k0, PySem.W.mg_of X G a0, (fun_mk (st := d_gaps_of.st) l0 c0 k0).binds bd_gaps_of⟩
  have i1 : DefIn K mg d_least_lost f1 _ := ⟨fun_mk (st := d_least_lost.st) l1 c1 k1, PySem.W.mg_of X G a1, (fun_mk (st := d_least_lost.st) l1 c1 k1).binds bd_least_lost⟩
  have i2 : DefIn K mg d_within f2 _ := ⟨fun_mk (st := d_within.st) l2 c2 k2, PySem.W.mg_of X G a2, (fun_mk (st := d_within.st) l2 c2 k2).binds bd_within⟩
  have i3 : DefIn K mg d_around f3 _ := ⟨fun_mk (st := d_around.st) l3 c3 k3, PySem.W.mg_of X G a3, (fun_mk (st := d_around.st) l3 c3 k3).binds bd_around⟩
  have i4 : DefIn K mg d_changes f4 _ := ⟨fun_mk (st := d_changes.st) l4 c4 k4, PySem.W.mg_of X G a4, (fun_mk (st := d_changes.st) l4 c4 k4).binds bd_changes⟩
  have i5 : DefIn K mg d_could_hold f5 _ := ⟨fun_mk (st := d_could_hold.st) l5 c5 k5, PySem.W.mg_of X G a5, (fun_mk (st := d_could_hold.st) l5 c5 k5).binds bd_could_hold⟩
  have i6 : DefIn K mg d_surely_held f6 _ := ⟨fun_mk (st := d_surely_held.st) l6 c6 k6, PySem.W.mg_of X G a6, (fun_mk (st := d_surely_held.st) l6 c6 k6).binds bd_surely_held⟩
  have i7 : DefIn K mg d_least_mend f7 _ := ⟨fun_mk (st := d_least_mend.st) l7 c7 k7, PySem.W.mg_of X G a7, (fun_mk (st := d_least_mend.st) l7 c7 k7).binds bd_least_mend⟩
  have i8 : DefIn K mg d_is_whole f8 _ := ⟨fun_mk (st := d_is_whole.st) l8 c8 k8, PySem.W.mg_of X G a8, (fun_mk (st := d_is_whole.st) l8 c8 k8).binds bd_is_whole⟩
  have i9 : DefIn K mg d_is_slip f9 _ := ⟨fun_mk (st := d_is_slip.st) l9 c9 k9, PySem.W.mg_of X G a9, (fun_mk (st := d_is_slip.st) l9 c9 k9).binds bd_is_slip⟩
  have i10 : DefIn K mg d_check_history f10 _ := ⟨fun_mk (st := d_check_history.st) l10 c10 k10, PySem.W.mg_of X G a10, (fun_mk (st := d_check_history.st) l10 c10 k10).binds bd_check_history⟩
  have i11 : DefIn K mg d_law_mixed f11 _ := ⟨fun_mk (st := d_law_mixed.st) l11 c11 k11, PySem.W.mg_of X G a11, (fun_mk (st := d_law_mixed.st) l11 c11 k11).binds bd_law_mixed⟩
  have i12 : DefIn K mg d_law_row f12 _ := ⟨fun_mk (st := d_law_row.st) l12 c12 k12, PySem.W.mg_of X G a12, (fun_mk (st := d_law_row.st) l12 c12 k12).binds bd_law_row⟩
  have i13 : DefIn K mg d_law_is_int f13 _ := ⟨fun_mk (st := d_law_is_int.st) l13 c13 k13, PySem.W.mg_of X G a13, (fun_mk (st := d_law_is_int.st) l13 c13 k13).binds bd_law_is_int⟩
  have i14 : DefIn K mg d_law_like f14 _ := ⟨fun_mk (st := d_law_like.st) l14 c14 k14, PySem.W.mg_of X G a14, (fun_mk (st := d_law_like.st) l14 c14 k14).binds bd_law_like⟩
  have i15 : DefIn K mg d_law_torn f15 _ := ⟨fun_mk (st := d_law_torn.st) l15 c15 k15, PySem.W.mg_of X G a15, (fun_mk (st := d_law_torn.st) l15 c15 k15).binds bd_law_torn⟩
  have i16 : DefIn K mg d_law_spread f16 _ := ⟨fun_mk (st := d_law_spread.st) l16 c16 k16, PySem.W.mg_of X G a16, (fun_mk (st := d_law_spread.st) l16 c16 k16).binds bd_law_spread⟩
  have i17 : DefIn K mg d_law_only f17 _ := ⟨fun_mk (st := d_law_only.st) l17 c17 k17, PySem.W.mg_of X G a17, (fun_mk (st := d_law_only.st) l17 c17 k17).binds bd_law_only⟩
  have i18 : DefIn K mg d_law_fewest f18 _ := ⟨fun_mk (st := d_law_fewest.st) l18 c18 k18, PySem.W.mg_of X G a18, (fun_mk (st := d_law_fewest.st) l18 c18 k18).binds bd_law_fewest⟩
  have i19 : DefIn K mg d_law_held_right f19 _ := ⟨fun_mk (st := d_law_held_right.st) l19 c19 k19, PySem.W.mg_of X G a19, (fun_mk (st := d_law_held_right.st) l19 c19 k19).binds bd_law_held_right⟩
  have i20 : DefIn K mg d_law_mended_right f20 _ := ⟨fun_mk (st := d_law_mended_right.st) l20 c20 k20, PySem.W.mg_of X G a20, (fun_mk (st := d_law_mended_right.st) l20 c20 k20).binds bd_law_mended_right⟩
  have i21 : DefIn K mg d_law fa _ := ⟨fun_mk (st := d_law.st) l21 c21 k21, PySem.W.mg_of X G a21, (fun_mk (st := d_law.st) l21 c21 k21).binds bd_law⟩
  have hD : ∀ d ∈ tbl, d.chk = true ∧ ∃ a fd, DefIn K mg d a fd := by
    intro d hd
    simp only [tbl, List.mem_cons, List.not_mem_nil, or_false] at hd
    rcases hd with rfl | rfl | rfl | rfl | rfl | rfl | rfl | rfl | rfl | rfl | rfl | rfl | rfl | rfl | rfl | rfl | rfl | rfl | rfl | rfl | rfl | rfl
    · exact ⟨chk_gaps_of, _, _, i0⟩
    · exact ⟨chk_least_lost, _, _, i1⟩
    · exact ⟨chk_within, _, _, i2⟩
    · exact ⟨chk_around, _, _, i3⟩
    · exact ⟨chk_changes, _, _, i4⟩
    · exact ⟨chk_could_hold, _, _, i5⟩
    · exact ⟨chk_surely_held, _, _, i6⟩
    · exact ⟨chk_least_mend, _, _, i7⟩
    · exact ⟨chk_is_whole, _, _, i8⟩
    · exact ⟨chk_is_slip, _, _, i9⟩
    · exact ⟨chk_check_history, _, _, i10⟩
    · exact ⟨chk_law_mixed, _, _, i11⟩
    · exact ⟨chk_law_row, _, _, i12⟩
    · exact ⟨chk_law_is_int, _, _, i13⟩
    · exact ⟨chk_law_like, _, _, i14⟩
    · exact ⟨chk_law_torn, _, _, i15⟩
    · exact ⟨chk_law_spread, _, _, i16⟩
    · exact ⟨chk_law_only, _, _, i17⟩
    · exact ⟨chk_law_fewest, _, _, i18⟩
    · exact ⟨chk_law_held_right, _, _, i19⟩
    · exact ⟨chk_law_mended_right, _, _, i20⟩
    · exact ⟨chk_law, _, _, i21⟩
  have hI : ∀ d ∈ tbl, ∀ p ∈ d.im, mg p.1 = some (.builtin p.2) := by
    intro d hd p hp
    simp only [tbl, List.mem_cons, List.not_mem_nil, or_false] at hd
    rcases hd with rfl | rfl | rfl | rfl | rfl | rfl | rfl | rfl | rfl | rfl | rfl | rfl | rfl | rfl | rfl | rfl | rfl | rfl | rfl | rfl | rfl | rfl
    · cases hp
    · cases hp
    · cases hp
    · cases hp
    · cases hp
    · cases hp
    · cases hp
    · cases hp
    · cases hp
    · cases hp
    · cases hp
    · cases hp
    · cases hp
    · cases hp
    · cases hp
    · cases hp
    · cases hp
    · cases hp
    · cases hp
    · cases hp
    · cases hp
    · cases hp
  refine ⟨_, fun s v => .of_eq (bd_law _ _ _ _ _ _ [v] rfl), fun base _ _ => fn_all (d := d_law) (G := glob) (glob_ok X G kg0 kg1 kg2) (bltn_mk (PySem.W.mg_none_of X G z0) (PySem.W.mg_none_of X G z1) (PySem.W.mg_none_of X G z2) (PySem.W.mg_none_of X G z3) (PySem.W.mg_none_of X G z4) (PySem.W.mg_none_of X G z5) (PySem.W.mg_none_of X G z6) (PySem.W.mg_none_of X G z7) (PySem.W.mg_none_of X G z8) (PySem.W.mg_none_of X G z9) (PySem.W.mg_none_of X G z10) (PySem.W.mg_none_of X G z11) (PySem.W.mg_none_of X G z12) (PySem.W.mg_none_of X G z13) (PySem.W.mg_none_of X G z14) (PySem.W.mg_none_of X G z15) (PySem.W.mg_none_of X G z16) (PySem.W.mg_none_of X G z17)) hD hI 12 "law" rfl _ _ i21⟩
end K55
open PySem PySem.W PyProof.Rows
set_option maxHeartbeats 0 in
theorem PySem.Challenge.cw_lentkept_k55_whole_torn_held_and_mended_holds : PySem.Challenge.rw_lentkept_k55_whole_torn_held_and_mended.Holds := by
  w_on; o_law; k_head; (case hw => w_witness2)
  k_fill
  refine L2.walk_ofK (l := PySem.Challenge.rw_lentkept_k55_whole_torn_held_and_mended) (n := 63) (k := 12) (x := "script") (CX := L2.CX0) (sp := fun K => Pz.spF K (Pz.callF K55.glob K55.tbl 12) "law") rfl (by decide) rfl ⟨rfl, by decide, by decide⟩ (fun w h Y => PySem.W.kIn_of Y) ?F (fun K H a ns hl _ hS => Pz.law_sp K55.law_true K H a ns hl hS) (fun _ _ _ _ h => h)
  case F =>
    intro w mg fa h KX G hmg
    refine' K55.all_mk KX G hmg ?a0 ?l0 ?c0 ?k0 ?a1 ?l1 ?c1 ?k1 ?a2 ?l2 ?c2 ?k2 ?a3 ?l3 ?c3 ?k3 ?a4 ?l4 ?c4 ?k4 ?a5 ?l5 ?c5 ?k5 ?a6 ?l6 ?c6 ?k6 ?a7 ?l7 ?c7 ?k7 ?a8 ?l8 ?c8 ?k8 ?a9 ?l9 ?c9 ?k9 ?a10 ?l10 ?c10 ?k10 ?a11 ?l11 ?c11 ?k11 ?a12 ?l12 ?c12 ?k12 ?a13 ?l13 ?c13 ?k13 ?a14 ?l14 ?c14 ?k14 ?a15 ?l15 ?c15 ?k15 ?a16 ?l16 ?c16 ?k16 ?a17 ?l17 ?c17 ?k17 ?a18 ?l18 ?c18 ?k18 ?a19 ?l19 ?c19 ?k19 ?a20 ?l20 ?c20 ?k20 ?a21 ?l21 ?c21 ?k21 ?z0 ?z1 ?z2 ?z3 ?z4 ?z5 ?z6 ?z7 ?z8 ?z9 ?z10 ?z11 ?z12 ?z13 ?z14 ?z15 ?z16 ?z17 ?kg0 ?kg1 ?kg2
    (case a0 => k_is)
    (case l0 => k_is)
    (case c0 => k_is)
    (case k0 => k_is)
    (case a1 => k_is)
    (case l1 => k_is)
    (case c1 => k_is)
    (case k1 => k_is)
    (case a2 => k_is)
    (case l2 => k_is)
    (case c2 => k_is)
    (case k2 => k_is)
    (case a3 => k_is)
    (case l3 => k_is)
    (case c3 => k_is)
    (case k3 => k_is)
    (case a4 => k_is)
    (case l4 => k_is)
    (case c4 => k_is)
    (case k4 => k_is)
    (case a5 => k_is)
    (case l5 => k_is)
    (case c5 => k_is)
    (case k5 => k_is)
    (case a6 => k_is)
    (case l6 => k_is)
    (case c6 => k_is)
    (case k6 => k_is)
    (case a7 => k_is)
    (case l7 => k_is)
    (case c7 => k_is)
    (case k7 => k_is)
    (case a8 => k_is)
    (case l8 => k_is)
    (case c8 => k_is)
    (case k8 => k_is)
    (case a9 => k_is)
    (case l9 => k_is)
    (case c9 => k_is)
    (case k9 => k_is)
    (case a10 => k_is)
    (case l10 => k_is)
    (case c10 => k_is)
    (case k10 => k_is)
    (case a11 => k_is)
    (case l11 => k_is)
    (case c11 => k_is)
    (case k11 => k_is)
    (case a12 => k_is)
    (case l12 => k_is)
    (case c12 => k_is)
    (case k12 => k_is)
    (case a13 => k_is)
    (case l13 => k_is)
    (case c13 => k_is)
    (case k13 => k_is)
    (case a14 => k_is)
    (case l14 => k_is)
    (case c14 => k_is)
    (case k14 => k_is)
    (case a15 => k_is)
    (case l15 => k_is)
    (case c15 => k_is)
    (case k15 => k_is)
    (case a16 => k_is)
    (case l16 => k_is)
    (case c16 => k_is)
    (case k16 => k_is)
    (case a17 => k_is)
    (case l17 => k_is)
    (case c17 => k_is)
    (case k17 => k_is)
    (case a18 => k_is)
    (case l18 => k_is)
    (case c18 => k_is)
    (case k18 => k_is)
    (case a19 => k_is)
    (case l19 => k_is)
    (case c19 => k_is)
    (case k19 => k_is)
    (case a20 => k_is)
    (case l20 => k_is)
    (case c20 => k_is)
    (case k20 => k_is)
    (case a21 => k_is)
    (case l21 => k_is)
    (case c21 => k_is)
    (case k21 => k_is)
    (case z0 => k_is)
    (case z1 => k_is)
    (case z2 => k_is)
    (case z3 => k_is)
    (case z4 => k_is)
    (case z5 => k_is)
    (case z6 => k_is)
    (case z7 => k_is)
    (case z8 => k_is)
    (case z9 => k_is)
    (case z10 => k_is)
    (case z11 => k_is)
    (case z12 => k_is)
    (case z13 => k_is)
    (case z14 => k_is)
    (case z15 => k_is)
    (case z16 => k_is)
    (case z17 => k_is)
    (case kg0 => k_is)
    (case kg1 => k_is)
    (case kg2 => k_is)
