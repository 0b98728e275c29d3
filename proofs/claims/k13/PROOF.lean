import PyProof.Rows.All
import Wide.All
import OpenK.AllK
import Wide.FinOn
import HandS.ForMost
import KE.SortData
import KE.LtData
import KE.DataMinMax
import KE.KDictKeyed
import KE.KeyNested
import HandS.TupMul
import HandS.TupAny
import HandS.TupLe
import HandS.IsInst
import HandS.Deep
import HandS.Zip
import HandS.Walk
import HandS.Text
import HandS.Strs
import PyProof.P3In
import PyProof.Rows.SumAny
import PyProof.WalksMore
import HandS.DictComp
import KE.GoesEnum
import HandS.Iter
import KE.GoesMore
import PyProof.DictMoreH
import HandS.More
import HandS.TupSets
import HandS.Style
import HandS.Words
import HandS.Ends
import HandS.Defaults
import HandS.Head0
import HandS.Head1
import HandS.Head2
import HandS.HeadEnd
import HandS.HeadHook1
import HandS.HeadHook2
import PySem.Challenge.RW_breedworks_k13_beginnings_told_from_what
set_option Elab.async false
set_option linter.all false
set_option maxRecDepth 1000000
set_option maxHeartbeats 0
set_option autoImplicit false
/-! Bw, part A: a small language of own: expressions, statements, and what they compute over data (no program of the kit's form in sight). -/
namespace Bw
open PySem

abbrev D := PyData
/-- what a slot holds: data that nothing changes any more; a list of its own; a list of own lists; a dict of its own (nest: keys are tuples; else texts) -/
inductive SV where
  | dat (d : D) | own (ds : List D) | mat (dss : List (List D)) | dct (nest : Bool) (kvs : List (D × D))
abbrev Env := List (Option SV)

inductive Lit where
  | int (n : Int) | str (x : Str) | bl (b : Bool) | non
def Lit.d : Lit → D
  | .int n => .int n | .str x => .str x | .bl b => .bool b | .non => .none
inductive Un where
  | neg | not | isNon | notNon | notTrue | notFalse | len | sum | max | min | all | any | sorted | tuple | list | int | bool | ssort
  deriving DecidableEq
inductive Bin where
  | add | sub | mul | mod | fdiv | pow | shl | eq | ne | lt | le | gt | ge | mem | nmem | max2 | min2 | idx | index
  deriving DecidableEq
inductive Ty where
  | int | bool | str | tuple | list
  deriving DecidableEq
inductive Tg where
  | n (i : Nat) | t (is : List Nat)

mutual
inductive E where
  | nm (i : Nat) | pk (i : Nat) | cst (l : Lit)
  | un (f : Un) (a : E) | bin (f : Bin) (a b : E) | chain (f g : Bin) (a b c : E)
  | and (es : Es) | or (es : Es) | ife (c a b : E)
  | tup (es : Es) | lst (es : Es) | slc (a : E) (lo hi : Oe)
  | isi (a : E) (tys : List Ty) | call (f : Nat) (es : Es)
  | lc (own : List Nat) (tg : Tg) (it : I) (cond : Oe) (elt : E)
  | lc2 (own own1 : List Nat) (tg : Tg) (it : I) (cond : Oe) (tg1 : Tg) (it1 : I) (cond1 : Oe) (elt : E)
  | dget (i : Nat) (k : E) | dgetd (i : Nat) (k d : E) | din (neg : Bool) (k : E) (i : Nat) | dsorted (i : Nat)
  | midx (i : Nat) (a b : E)
inductive Es where
  | nil | cons (e : E) (es : Es)
inductive Oe where
  | no | yes (e : E)
inductive I where
  | ex (e : E) | chars (e : E) | rng (a : E) | rng2 (a b : E) | zip (a b : E) | enum (a : E) | keys (i : Nat)
end

/-! ### what is done with data -/
def seqOf : D → Option (List D)
  | .list xs => some xs | .tuple xs => some xs | _ => none
def toInts : List D → Option (List Int)
  | [] => some []
  | .int i :: r => (toInts r).map (i :: ·)
  | _ => none
def toBools : List D → Option (List Bool)
  | [] => some []
  | .bool i :: r => (toBools r).map (i :: ·)
  | _ => none
def alikeL (ds : List D) : Bool := ds.all fun d => ds.all fun e => W.alike d e
def isTupC : D → Bool | .tuple (_ :: _) => true | _ => false
def isTupN : D → Bool | .tuple _ => true | .none => true | _ => false
def sortable (ds : List D) : Bool := ds.all isTupC || ds.all fun d => !isTupN d
def sortD (ds : List D) : List D := ds.mergeSort (W.dataLe false id)
def shp (d : D) : Bool := SeqAt.shaped d
/-- the script: a list of whole numbers that is looked at by its places alone -/
def scrD (ns : List Int) : D := .dict (ns.map fun n => (.int n, .none))
def mulOk (i j : Int) : Bool := decide (i.natAbs < 2 ^ 64) || decide (j.natAbs < 2 ^ 64)
def isNone : D → Bool | .none => true | _ => false
/-- all can be compared with one another -/
def comparable (ds : List D) : Bool := alikeL ds && (ds.all fun d => !isNone d) && shp (.list ds)
/-- lists within the machine's line -/
def fits {α : Type} (xs : List α) : Bool := decide (xs.length ≤ sizeLine)
def indexD (d : D) : List D → Option Nat
  | [] => none
  | x :: r => if PyData.eqv x d then some 0 else (indexD d r).map (· + 1)
def cut {α : Type} (xs : List α) (lo hi : Option Int) : List α := (xs.drop (HT.sIx xs.length 0 lo)).take (HT.sIx xs.length xs.length hi - HT.sIx xs.length 0 lo)

/-- pairs of whole numbers from 0 to 63 -/
def pairsD : List D → Option (List (Int × Int))
  | [] => some []
  | .tuple [.int x, .int y] :: r => if 0 ≤ x ∧ x < 64 ∧ 0 ≤ y ∧ y < 64 then (pairsD r).map ((x, y) :: ·) else none
  | _ => none
/-- each once, rising -/
def sortP (ps : List (Int × Int)) : List (Int × Int) := ((List.range 4096).map fun c => (((c / 64 : Nat) : Int), ((c % 64 : Nat) : Int))).filter fun p => ps.contains p
def unF : Un → D → Option D
  | .neg, .int i => some (.int (-i))
  | .not, .bool b => some (.bool (!b))
  | .isNon, .none => some (.bool true)
  | .isNon, _ => some (.bool false)
  | .notNon, .none => some (.bool false)
  | .notNon, _ => some (.bool true)
  | .notTrue, .bool b => some (.bool (!b))
  | .notFalse, .bool b => some (.bool b)
  | .len, .list xs => some (.int xs.length)
  | .len, .tuple xs => some (.int xs.length)
  | .len, .dict xs => some (.int xs.length)
  | .len, .str x => if x.length ≤ sizeLine then some (.int x.length) else none
  | .sum, .list xs => (toInts xs).map fun ns => .int ns.sum
  | .sum, .tuple xs => (toInts xs).map fun ns => .int ns.sum
  | .max, .list (x :: xs) => if comparable (x :: xs) then some (W.maxD x xs) else none
  | .max, .tuple (x :: xs) => if comparable (x :: xs) then some (W.maxD x xs) else none
  | .min, .list (x :: xs) => if comparable (x :: xs) then some (W.minD x xs) else none
  | .min, .tuple (x :: xs) => if comparable (x :: xs) then some (W.minD x xs) else none
  | .all, .list xs => (toBools xs).map fun bs => .bool (bs.all id)
  | .any, .list xs => (toBools xs).map fun bs => .bool (bs.any id)
  | .sorted, .list xs => if alikeL xs && sortable xs && shp (.list xs) then some (.list (sortD xs)) else none
  | .tuple, .list xs => some (.tuple xs)
  | .tuple, .tuple xs => some (.tuple xs)
  | .list, .list xs => some (.list xs)
  | .list, .tuple xs => some (.list xs)
  | .int, .int i => some (.int i)
  | .int, .bool b => some (.int (if b then 1 else 0))
  | .bool, .int i => some (.bool (i != 0))
  | .bool, .bool b => some (.bool b)
  | .ssort, .list xs => (pairsD xs).bind fun ps => if ps.length < 64 then some (.list ((sortP ps).map fun p => .tuple [.int p.1, .int p.2])) else none
  | _, _ => none

def memD (x : D) (y : D) : Option Bool :=
  match y with
  | .list ds => if shp x && shp (.list ds) then some (ds.any fun z => PyData.eqv z x) else none
  | .tuple ds => if shp x && shp (.tuple ds) then some (ds.any fun z => PyData.eqv z x) else none
  | .str z => match x with
    | .str s => match s.cps.toList with
      | [c] => some (decide (c ∈ z.cps.toList))
      | _ => none
    | _ => none
  | _ => none

def binF : Bin → D → D → Option D
  | .add, .int i, .int j => some (.int (i + j))
  | .add, .str x, .str y => if x.length + y.length ≤ sizeLine then some (.str (x ++ y)) else none
  | .add, .list xs, .list ys => if fits (xs ++ ys) then some (.list (xs ++ ys)) else none
  | .add, .tuple xs, .tuple ys => if fits (xs ++ ys) then some (.tuple (xs ++ ys)) else none
  | .sub, .int i, .int j => some (.int (i - j))
  | .mul, .int i, .int j => if mulOk i j then some (.int (i * j)) else none
  | .mul, .list xs, .int k => if -(2 ^ 63) ≤ k ∧ k < 2 ^ 63 ∧ xs.length * k.toNat ≤ sizeLine then some (.list (List.replicate k.toNat xs).flatten) else none
  | .mul, .tuple xs, .int k => if 1 ≤ k ∧ k ≤ 1000 ∧ 0 < xs.length ∧ xs.length ≤ 1000 then some (.tuple (List.replicate k.toNat xs).flatten) else none
  | .mod, .int i, .int j => if 0 < j then some (.int (i % j)) else none
  | .fdiv, .int i, .int j => if 0 < j ∧ j < 1073741824 then some (.int (i / j)) else none
  | .pow, .int i, .int j => if 0 ≤ j ∧ j ≤ 1000000 ∧ i.natAbs < 2 ^ 64 then some (.int (i ^ j.toNat)) else none
  | .shl, .int i, .int j => if 0 ≤ j ∧ j ≤ 1000000 ∧ i.natAbs < 2 ^ 64 then some (.int (i * 2 ^ j.toNat)) else none
  | .eq, x, y => if shp x && shp y then some (.bool (PyData.eqv x y)) else none
  | .ne, x, y => if shp x && shp y then some (.bool (!PyData.eqv x y)) else none
  | .lt, .int i, .int j => some (.bool (decide (i < j)))
  | .lt, .str x, .str y => some (.bool (decide (x.cps.toList < y.cps.toList)))
  | .lt, .tuple xs, .tuple ys => if W.alike (.tuple xs) (.tuple ys) && shp (.tuple xs) && shp (.tuple ys) then some (.bool (W.dataLt (.tuple xs) (.tuple ys))) else none
  | .le, .int i, .int j => some (.bool (decide (i ≤ j)))
  | .gt, .int i, .int j => some (.bool (decide (j < i)))
  | .gt, .str x, .str y => some (.bool (decide (y.cps.toList < x.cps.toList)))
  | .ge, .int i, .int j => some (.bool (decide (j ≤ i)))
  | .mem, x, y => (memD x y).map .bool
  | .nmem, x, y => (memD x y).map fun b => .bool (!b)
  | .max2, .int i, .int j => some (.int (if j > i then j else i))
  | .min2, .int i, .int j => some (.int (if j < i then j else i))
  | .idx, .list xs, .int i => L2.atI xs i
  | .idx, .tuple xs, .int i => L2.atI xs i
  | .idx, .dict xs, .int i => (L2.atI xs i).map (·.1)
  | .index, .list xs, d => if shp d && shp (.list xs) then (indexD d xs).map fun (n : Nat) => (.int (n : Int) : D) else none
  | .index, .tuple xs, d => if shp d && shp (.tuple xs) then (indexD d xs).map fun (n : Nat) => (.int (n : Int) : D) else none
  | _, _, _ => none

/-- x op= y: whole numbers alone -/
def augF : Bin → D → D → Option D
  | .add, .int i, .int j => some (.int (i + j))
  | .sub, .int i, .int j => some (.int (i - j))
  | _, _, _ => none
def slcF (d : D) (lo hi : Option Int) : Option D :=
  match d with
  | .list xs => some (.list (cut xs lo hi))
  | .tuple xs => some (.tuple (cut xs lo hi))
  | _ => none
def tyIs : D → Ty → Bool
  | .int _, .int => true
  | .bool _, .int => true
  | .bool _, .bool => true
  | .str _, .str => true
  | .tuple _, .tuple => true
  | .list _, .list => true
  | _, _ => false

def isiF (d : D) (tys : List Ty) : Option D := match d with
  | .dict _ => none
  | d => some (.bool (tys.any (tyIs d)))

/-! ### slots, targets, turns -/
def rdD (ρ : Env) (i : Nat) : Option D := match ρ[i]? with | some (some (.dat d)) => some d | _ => none
def rdO (ρ : Env) (i : Nat) : Option (List D) := match ρ[i]? with | some (some (.own ds)) => some ds | _ => none
def rdM (ρ : Env) (i : Nat) : Option (List (List D)) := match ρ[i]? with | some (some (.mat ds)) => some ds | _ => none
def rdK (ρ : Env) (i : Nat) : Option (Bool × List (D × D)) := match ρ[i]? with | some (some (.dct n ds)) => some (n, ds) | _ => none
def setAll : List Nat → List D → Env → Option Env
  | [], [], ρ => some ρ
  | i :: is, d :: ds, ρ => setAll is ds (ρ.set i (some (.dat d)))
  | _, _, _ => none
def bindT : Tg → D → Env → Option Env
  | .n i, d, ρ => some (ρ.set i (some (.dat d)))
  | .t is, .tuple ds, ρ => setAll is ds ρ
  | .t _, _, _ => none
def wipeE (ρ : Env) : List Nat → Env
  | [] => ρ
  | v :: vs => (wipeE ρ vs).set v none
/-- the turns of a comprehension: none stops, some none leaves out -/
def lcF (f : D → Option (Option D)) : List D → Option (List D)
  | [] => some []
  | d :: ds => (f d).bind fun r => (lcF f ds).map fun rs => match r with | some x => x :: rs | none => rs
/-- of two clauses -/
def lcF2 (f : D → Option (List D)) : List D → Option (List D)
  | [] => some []
  | d :: ds => (f d).bind fun r => (lcF2 f ds).map fun rs => r ++ rs
def rngL (lo hi : Int) : Option (List D) :=
  if -(2 ^ 62) ≤ lo ∧ lo < 2 ^ 62 ∧ -(2 ^ 62) ≤ hi ∧ hi < 2 ^ 62 ∧ (hi - lo).toNat ≤ sizeLine then some ((List.range (hi - lo).toNat).map fun k => .int (lo + (k : Nat))) else none
def zipD : D → D → Option (List D × List D)
  | .list xs, .list ys => some (xs, ys)
  | .tuple xs, .tuple ys => some (xs, ys)
  | .list xs, .tuple ys => some (xs, ys)
  | .tuple xs, .list ys => some (xs, ys)
  | _, _ => none
def listOf : D → Option (List D)
  | .list xs => some xs
  | _ => none
def zipL : List D → List D → List D
  | x :: xs, y :: ys => .tuple [x, y] :: zipL xs ys
  | _, _ => []
def enumL : Nat → List D → List D
  | _, [] => []
  | k, x :: xs => .tuple [.int (k : Nat), x] :: enumL (k + 1) xs
def charsL : D → Option (List D)
  | .str x => if x.cps.size ≤ sizeLine then some (x.cps.toList.map fun c => .str ⟨#[c]⟩) else none
  | _ => none

/-! ### dicts of one's own -/
mutual
def keyOk : D → Bool
  | .int _ => true
  | .str _ => true
  | .tuple xs => keyOkAll xs
  | _ => false
def keyOkAll : List D → Bool
  | [] => true
  | x :: xs => keyOk x && keyOkAll xs
end
def keyFit (nest : Bool) (k : D) : Bool := match nest, k with
  | true, .tuple xs => keyOkAll xs && decide ((PyData.tuple xs).depth ≤ 8)
  | false, .str _ => true
  | _, _ => false
def dLook (kvs : List (D × D)) (k : D) : Option D := match kvs with
  | [] => none
  | (a, v) :: r => if PyData.eqv a k then some v else dLook r k
def dPut (kvs : List (D × D)) (k v : D) : List (D × D) := match kvs with
  | [] => [(k, v)]
  | (a, w) :: r => if PyData.eqv a k then (a, v) :: r else (a, w) :: dPut r k v
def dDrop (kvs : List (D × D)) (k : D) : List (D × D) := match kvs with
  | [] => []
  | (a, w) :: r => if PyData.eqv a k then r else (a, w) :: dDrop r k

/-- what a call hands back: data, or an object of the caller's own -/
inductive RV where
  | dat (d : D) | own (ds : List D) | dct (nest : Bool) (kvs : List (D × D))
def RV.toD : RV → Option D
  | .dat d => some d | .own ds => some (.list ds) | .dct _ _ => none

/-! ### expressions -/
section
variable (cf : Nat → List D → Option RV)
mutual
/-- b: whether a list of one's own may be looked at here (as an operand) -/
def evE : E → Bool → Env → Option D
  | .nm i, _, ρ => rdD ρ i
  | .pk i, b, ρ => if b then (rdO ρ i).map .list else none
  | .cst l, _, _ => some l.d
  | .un f a, _, ρ => (evE a true ρ).bind fun x => unF f x
  | .bin f a c, _, ρ => (evE a true ρ).bind fun x => (evE c true ρ).bind fun y => binF f x y
  | .chain f g a b c, _, ρ => (evE a true ρ).bind fun x => (evE b true ρ).bind fun y => (binF f x y).bind fun r =>
      match r with
      | .bool true => (evE c true ρ).bind fun z => binF g y z
      | .bool false => some (.bool false)
      | _ => none
  | .and es, _, ρ => evAnd es ρ
  | .or es, _, ρ => evOr es ρ
  | .ife c a b, _, ρ => (evE c false ρ).bind fun r => match r with
      | .bool true => evE a false ρ
      | .bool false => evE b false ρ
      | _ => none
  | .tup es, _, ρ => (evEs es ρ).bind fun ds => if fits ds then some (.tuple ds) else none
  | .lst es, _, ρ => (evEs es ρ).bind fun ds => if fits ds then some (.list ds) else none
  | .slc a lo hi, _, ρ => (evE a true ρ).bind fun x => (evPart lo ρ).bind fun l => (evPart hi ρ).bind fun h => slcF x l h
  | .isi a tys, _, ρ => (evE a true ρ).bind fun x => isiF x tys
  | .call f es, _, ρ => (evEs es ρ).bind fun ds => (cf f ds).bind RV.toD
  | .lc own tg it cond elt, _, ρ => (evI it true ρ).bind fun ds => (lcF (fun d => (bindT tg d (wipeE ρ own)).bind fun ρ' => (evCond cond ρ').bind fun c =>
      if c then (evE elt false ρ').map some else some none) ds).map .list
  | .lc2 own own1 tg it cond tg1 it1 cond1 elt, _, ρ => (evI it true ρ).bind fun ds => (lcF2 (fun d => (bindT tg d (wipeE ρ own)).bind fun ρ' => (evCond cond ρ').bind fun c =>
      if c then (evI it1 false ρ').bind fun es => lcF (fun e => (bindT tg1 e (wipeE ρ' own1)).bind fun ρ2 => (evCond cond1 ρ2).bind fun c1 =>
        if c1 then (evE elt false ρ2).map some else some none) es else some []) ds).bind fun rs => if fits rs then some (.list rs) else none
  | .dget i k, _, ρ => (evE k false ρ).bind fun x => (rdK ρ i).bind fun d => if keyFit d.1 x then dLook d.2 x else none
  | .dgetd i k e, _, ρ => (evE k false ρ).bind fun x => (evE e false ρ).bind fun y => (rdK ρ i).bind fun d => if keyFit d.1 x then some ((dLook d.2 x).getD y) else none
  | .din neg k i, _, ρ => (evE k false ρ).bind fun x => (rdK ρ i).bind fun d => if keyFit d.1 x then some (.bool (if neg then !(dLook d.2 x).isSome else (dLook d.2 x).isSome)) else none
  | .dsorted i, _, ρ => (rdK ρ i).bind fun d => unF .sorted (.list (d.2.map (·.1)))
  | .midx i a b, _, ρ => (evE a false ρ).bind fun x => (evE b false ρ).bind fun y => (rdM ρ i).bind fun m => match x, y with
      | .int p, .int q => (L2.atI m p).bind fun r => L2.atI r q
      | _, _ => none
def evEs : Es → Env → Option (List D)
  | .nil, _ => some []
  | .cons e es, ρ => (evE e false ρ).bind fun d => (evEs es ρ).map fun ds => d :: ds
def evAnd : Es → Env → Option D
  | .nil, _ => none
  | .cons e .nil, ρ => (evE e false ρ).bind fun d => match d with | .bool b => some (.bool b) | _ => none
  | .cons e (.cons e2 es), ρ => (evE e false ρ).bind fun d => match d with
      | .bool true => evAnd (.cons e2 es) ρ
      | .bool false => some (.bool false)
      | _ => none
def evOr : Es → Env → Option D
  | .nil, _ => none
  | .cons e .nil, ρ => (evE e false ρ).bind fun d => match d with | .bool b => some (.bool b) | _ => none
  | .cons e (.cons e2 es), ρ => (evE e false ρ).bind fun d => match d with
      | .bool true => some (.bool true)
      | .bool false => evOr (.cons e2 es) ρ
      | _ => none
def evPart : Oe → Env → Option (Option Int)
  | .no, _ => some none
  | .yes e, ρ => (evE e false ρ).bind fun d => match d with | .int i => some (some i) | _ => none
def evCond : Oe → Env → Option Bool
  | .no, _ => some true
  | .yes e, ρ => (evE e false ρ).bind fun d => match d with | .bool b => some b | _ => none
/-- b: whether a list of one's own may be walked -/
def evI : I → Bool → Env → Option (List D)
  | .ex e, b, ρ => (evE e b ρ).bind seqOf
  | .chars e, _, ρ => (evE e false ρ).bind charsL
  | .rng a, _, ρ => (evE a false ρ).bind fun x => match x with | .int n => rngL 0 n | _ => none
  | .rng2 a b, _, ρ => (evE a false ρ).bind fun x => (evE b false ρ).bind fun y => match x, y with | .int n, .int m => rngL n m | _, _ => none
  | .zip a c, b, ρ => (evE a b ρ).bind fun x => (evE c b ρ).bind fun y => (zipD x y).map fun p => zipL p.1 p.2
  | .enum a, b, ρ => (evE a b ρ).bind fun x => (seqOf x).map (enumL 0)
  | .keys i, b, ρ => if b then (rdK ρ i).bind fun d => if d.1 then some (d.2.map (·.1)) else none else none
end
end

/-! ### statements -/
inductive Rh where
  | d (e : E) | o (e : E) | m (e : E) | dnew (nest : Bool) | ow (f : Nat) (es : Es)
  | dc (nest : Bool) (own : List Nat) (tg : Tg) (it : I) (cond : Oe) (k v : E)
inductive Rhs where
  | nil | cons (i : Nat) (r : Rh) (rs : Rhs)
mutual
inductive S where
  | asg (i : Nat) (r : Rh) | par (rs : Rhs) | unp (is : List Nat) (e : E)
  | aug (i : Nat) (f : Bin) (e : E)
  | setO (i : Nat) (k v : E) | augO (i : Nat) (f : Bin) (k v : E)
  | setM (i : Nat) (a b v : E) | augM (i : Nat) (f : Bin) (a b v : E)
  | setD (i : Nat) (k v : E) | augD (i : Nat) (f : Bin) (k v : E) | popD (i : Nat) (k : E)
  | app (i : Nat) (e : E) | popL (j i : Nat)
  | ifs (c : E) (a b : Ss) | fr (tg : Tg) (it : I) (body : Ss) | whl (c : E) (body : Ss)
  | ret (e : E) | retO (i : Nat) | frz (i : Nat)
inductive Ss where
  | nil | cons (s : S) (ss : Ss)
end
inductive Out where
  | nx (ρ : Env) | rt (r : RV) (ρ : Env)

def forF (f : D → Env → Option Out) : List D → Env → Option Out
  | [], ρ => some (.nx ρ)
  | d :: ds, ρ => (f d ρ).bind fun o => match o with
    | .nx ρ' => forF f ds ρ'
    | .rt r ρ' => some (.rt r ρ')
def whlF (c : Env → Option D) (f : Env → Option Out) : Nat → Env → Option Out
  | 0, _ => none
  | n + 1, ρ => (c ρ).bind fun d => match d with
    | .bool false => some (.nx ρ)
    | .bool true => (f ρ).bind fun o => match o with
      | .nx ρ' => whlF c f n ρ'
      | .rt r ρ' => some (.rt r ρ')
    | _ => none
def lists : List D → Option (List (List D))
  | [] => some []
  | .list xs :: r => (lists r).map (xs :: ·)
  | _ => none
/-- the turns of a dict comprehension -/
def dcF (nest : Bool) (f : D → Option (Option (D × D))) : List D → List (D × D) → Option (List (D × D))
  | [], acc => some acc
  | d :: ds, acc => (f d).bind fun r => match r with
    | none => dcF nest f ds acc
    | some (k, v) => if keyFit nest k && decide (acc.length < sizeLine) then dcF nest f ds (dPut acc k v) else none

section
variable (cf : Nat → List D → Option RV) (N : Nat)
def evR : Rh → Env → Option SV
  | .d e, ρ => (evE cf e false ρ).map .dat
  | .o e, ρ => (evE cf e false ρ).bind fun d => match d with | .list ds => some (.own ds) | _ => none
  | .m e, ρ => (evE cf e false ρ).bind fun d => match d with | .list ds => (lists ds).map .mat | _ => none
  | .dnew nest, _ => some (.dct nest [])
  | .ow f es, ρ => (evEs cf es ρ).bind fun ds => (cf f ds).bind fun r => match r with | .own xs => some (.own xs) | .dct n kvs => some (.dct n kvs) | .dat _ => none
  | .dc nest own tg it cond k v, ρ => (evI cf it true ρ).bind fun ds => (dcF nest (fun d => (bindT tg d (wipeE ρ own)).bind fun ρ' => (evCond cf cond ρ').bind fun c =>
      if c then (evE cf k false ρ').bind fun x => (evE cf v false ρ').map fun y => some (x, y) else some none) ds []).map (.dct nest)
def evRs : Rhs → Env → Option (List (Nat × SV))
  | .nil, _ => some []
  | .cons i r rs, ρ => (evR cf r ρ).bind fun x => (evRs rs ρ).map fun xs => (i, x) :: xs
def putAll : List (Nat × SV) → Env → Env
  | [], ρ => ρ
  | (i, x) :: r, ρ => putAll r (ρ.set i (some x))
mutual
def evS : S → Env → Option Out
  | .asg i r, ρ => (evR cf r ρ).map fun x => .nx (ρ.set i (some x))
  | .par rs, ρ => (evRs cf rs ρ).map fun xs => .nx (putAll xs ρ)
  | .unp is e, ρ => (evE cf e false ρ).bind fun d => match d with | .tuple ds => (setAll is ds ρ).map .nx | _ => none
  | .aug i f e, ρ => (rdD ρ i).bind fun x => (evE cf e false ρ).bind fun y => (augF f x y).map fun z => .nx (ρ.set i (some (.dat z)))
  | .setO i k v, ρ => (evE cf v false ρ).bind fun y => (evE cf k false ρ).bind fun x => (rdO ρ i).bind fun ds => match x with
      | .int p => (L2.ixN ds.length p).map fun j => .nx (ρ.set i (some (.own (ds.set j y))))
      | _ => none
  | .augO i f k v, ρ => (evE cf k false ρ).bind fun x => (rdO ρ i).bind fun ds => match x with
      | .int p => (L2.ixN ds.length p).bind fun j => (ds[j]?).bind fun z => (evE cf v false ρ).bind fun y => (augF f z y).map fun u => .nx (ρ.set i (some (.own (ds.set j u))))
      | _ => none
  | .setM i a b v, ρ => (evE cf v false ρ).bind fun y => (evE cf a false ρ).bind fun p => (evE cf b false ρ).bind fun q => (rdM ρ i).bind fun m => match p, q with
      | .int p, .int q => (L2.ixN m.length p).bind fun j => (m[j]?).bind fun r => (L2.ixN r.length q).map fun l => .nx (ρ.set i (some (.mat (m.set j (r.set l y)))))
      | _, _ => none
  | .augM i f a b v, ρ => (evE cf a false ρ).bind fun p => (evE cf b false ρ).bind fun q => (rdM ρ i).bind fun m => match p, q with
      | .int p, .int q => (L2.ixN m.length p).bind fun j => (m[j]?).bind fun r => (L2.ixN r.length q).bind fun l => (r[l]?).bind fun z => (evE cf v false ρ).bind fun y =>
          (augF f z y).map fun u => .nx (ρ.set i (some (.mat (m.set j (r.set l u)))))
      | _, _ => none
  | .setD i k v, ρ => (evE cf v false ρ).bind fun y => (evE cf k false ρ).bind fun x => (rdK ρ i).bind fun d =>
      if keyFit d.1 x && decide (d.2.length < sizeLine) then some (.nx (ρ.set i (some (.dct d.1 (dPut d.2 x y))))) else none
  | .augD i f k v, ρ => (evE cf k false ρ).bind fun x => (rdK ρ i).bind fun d => (if keyFit d.1 x && decide (d.2.length < sizeLine) then dLook d.2 x else none).bind fun z => (evE cf v false ρ).bind fun y =>
      (augF f z y).map fun u => .nx (ρ.set i (some (.dct d.1 (dPut d.2 x u))))
  | .popD i k, ρ => (evE cf k false ρ).bind fun x => (rdK ρ i).bind fun d => (if keyFit d.1 x && decide (d.2.length < sizeLine) then dLook d.2 x else none).map fun _ => .nx (ρ.set i (some (.dct d.1 (dDrop d.2 x))))
  | .app i e, ρ => (evE cf e false ρ).bind fun y => (rdO ρ i).bind fun ds => if ds.length < sizeLine then some (.nx (ρ.set i (some (.own (ds ++ [y]))))) else none
  | .popL j i, ρ => (rdO ρ i).bind fun ds => (ds[ds.length - 1]?).map fun y => .nx ((ρ.set i (some (.own ds.dropLast))).set j (some (.dat y)))
  | .ifs c a b, ρ => (evE cf c false ρ).bind fun d => match d with
      | .bool true => evSs a ρ
      | .bool false => evSs b ρ
      | _ => none
  | .fr tg it body, ρ => (evI cf it false ρ).bind fun ds => forF (fun d ρ => (bindT tg d ρ).bind fun ρ' => evSs body ρ') ds ρ
  | .whl c body, ρ => whlF (fun ρ => evE cf c false ρ) (fun ρ => evSs body ρ) N ρ
  | .ret e, ρ => (evE cf e false ρ).map fun d => .rt (.dat d) ρ
  | .retO i, ρ => match ρ[i]? with
      | some (some (.own ds)) => some (.rt (.own ds) ρ)
      | some (some (.dct n kvs)) => some (.rt (.dct n kvs) ρ)
      | _ => none
  | .frz i, ρ => match ρ[i]? with
      | some (some (.own ds)) => some (.nx (ρ.set i (some (.dat (.list ds)))))
      | some (some (.mat dss)) => some (.nx (ρ.set i (some (.dat (.list (dss.map .list))))))
      | _ => none
def evSs : Ss → Env → Option Out
  | .nil, ρ => some (.nx ρ)
  | .cons s ss, ρ => (evS s ρ).bind fun o => match o with
    | .nx ρ' => evSs ss ρ'
    | .rt r ρ' => some (.rt r ρ')
end
end

/-- a def: how many parameters, how many slots, its body; nat: what it gives, where its walk is done by hand -/
structure FD where
  np : Nat
  ns : Nat
  body : Ss
  nat : Option (List D → Option RV)
def startE (fd : FD) (ds : List D) : Env := ds.map (fun d => some (.dat d)) ++ List.replicate (fd.ns - ds.length) none
section
variable (tab : Nat → Option FD) (N : Nat)
def callF : Nat → Nat → List D → Option RV
  | 0, _, _ => none
  | k + 1, f, ds => (tab f).bind fun fd => if ds.length = fd.np then (match fd.nat with
    | some g => g ds
    | none => (evSs (callF k) N fd.body (startE fd ds)).map fun o => match o with
      | .rt r _ => r
      | .nx _ => .dat .none) else none
end
end Bw

/-! Bw, part B: what a heap must hold for data, for slots. -/
namespace Bw
open PySem PySem.Spec PyProof.Rows L2

/-- a list that nothing changes: locked, or of the written part -/
def Scr (K : W.Frag) (H : Hp) (a : Addr) (xs : List V) : Prop := (∃ o, H a = some (.frz o (.lst xs))) ∨
  ∃ (o : Obj) (its : Array Value) (n : Nat), K.lookup a = some o ∧ o.cls = .type "list" ∧ o.dict = none ∧ o.data = .seq its n ∧ its.size ≤ sizeLine ∧ Vals xs its.toList
theorem Scr.sq {K : W.Frag} {H : Hp} {a : Addr} {xs : List V} (h : Scr K H a xs) : SqL K H a xs := h.elim (fun h => .inl (.inr h)) .inr
def SL (H : Hp) (P : Addr → Prop) (a : Addr) (xs : List V) : Prop := xs.length ≤ sizeLine ∧ Rd H a (.lst xs) ∧ P a
/-- a tuple: its object is known, and has no dict -/
def ST (H : Hp) (a : Addr) (xs : List V) : Prop := xs.length ≤ sizeLine ∧ ∃ o : Obj, H a = some (.frz o (.tup xs)) ∧ o.dict = none
theorem ST.sq {K : W.Frag} {H : Hp} {a : Addr} {xs : List V} (h : ST H a xs) : SqT K H a xs := h.2.elim fun o z => .inl (.inr ⟨o, z.1⟩)
theorem SL.sq {K : W.Frag} {H : Hp} {P : Addr → Prop} {a : Addr} {xs : List V} (h : SL H P a xs) : SqL K H a xs := .inl h.2.1
mutual
inductive Da (K : W.Frag) (H : Hp) (P : Addr → Prop) : V → D → Prop
  | non : Da K H P .non .none
  | bl (b : Bool) : Da K H P (.bl b) (.bool b)
  | int (i : Int) : Da K H P (.int i) (.int i)
  | str (x : Str) : Da K H P (.str x) (.str x)
  | scr {a : Addr} {ns : List Int} : Scr K H a (ns.map V.int) → Da K H P (.ref a) (scrD ns)
  | lst {a : Addr} {xs : List V} {ds : List D} : SL H P a xs → DaL K H P xs ds → Da K H P (.ref a) (.list ds)
  | tup {a : Addr} {xs : List V} {ds : List D} : ST H a xs → DaL K H P xs ds → Da K H P (.ref a) (.tuple ds)
inductive DaL (K : W.Frag) (H : Hp) (P : Addr → Prop) : List V → List D → Prop
  | nil : DaL K H P [] []
  | cons {v : V} {vs : List V} {d : D} {ds : List D} : Da K H P v d → DaL K H P vs ds → DaL K H P (v :: vs) (d :: ds)
end
/-- what P allows stays, and so does what is locked -/
structure Keeps (P : Addr → Prop) (H H' : Hp) : Prop where
  at_ : ∀ b o, P b → H b = some o → H' b = some o
  frz : ∀ b o u, H b = some (.frz o u) → H' b = some (.frz o u)
theorem Keeps.refl {P : Addr → Prop} {H : Hp} : Keeps P H H := ⟨fun _ _ _ h => h, fun _ _ _ h => h⟩
theorem Keeps.trans {P : Addr → Prop} {H H1 H2 : Hp} (a : Keeps P H H1) (b : Keeps P H1 H2) : Keeps P H H2 := ⟨fun c o p h => b.at_ c o p (a.at_ c o p h), fun c o u h => b.frz c o u (a.frz c o u h)⟩
theorem Keeps.of_same {P : Addr → Prop} {H H' : Hp} (s : Same H H') : Keeps P H H' := ⟨fun b o _ h => s b o h, fun b o u h => s _ _ h⟩
section
variable {K : W.Frag} {H H' : Hp} {P P' : Addr → Prop}
theorem SL.mono {a : Addr} {xs : List V} (k : Keeps P H H') (p : ∀ b o, P b → H b = some o → P' b) (h : SL H P a xs) : SL H' P' a xs := by
  obtain ⟨h1, r | ⟨o, r⟩, pa⟩ := h
  · exact ⟨h1, .inl (k.at_ _ _ pa r), p _ _ pa r⟩
  · exact ⟨h1, .inr ⟨o, k.at_ _ _ pa r⟩, p _ _ pa r⟩
theorem Scr.mono {a : Addr} {xs : List V} (k : Keeps P H H') (h : Scr K H a xs) : Scr K H' a xs := h.elim (fun ⟨o, r⟩ => .inl ⟨o, k.frz _ _ _ r⟩) .inr
theorem ST.mono {a : Addr} {xs : List V} (k : Keeps P H H') (h : ST H a xs) : ST H' a xs := ⟨h.1, h.2.elim fun o z => ⟨o, k.frz _ _ _ z.1, z.2⟩⟩
mutual
theorem Da.mono (k : Keeps P H H') (p : ∀ b o, P b → H b = some o → P' b) : ∀ (d : D) (v : V), Da K H P v d → Da K H' P' v d
  | .none, _, h => by cases h; exact .non
  | .bool b, _, h => by cases h; exact .bl b
  | .int i, _, h => by cases h; exact .int i
  | .str x, _, h => by cases h; exact .str x
  | .list ds, _, h => by
    cases h with
    | lst h1 h2 => exact .lst (h1.mono k p) (DaL.mono k p ds _ h2)
  | .tuple ds, _, h => by
    cases h with
    | tup h1 h2 => exact .tup (h1.mono k) (DaL.mono k p ds _ h2)
  | .dict _, _, h => by
    cases h with
    | scr h1 => exact .scr (h1.mono k)
theorem DaL.mono (k : Keeps P H H') (p : ∀ b o, P b → H b = some o → P' b) : ∀ (ds : List D) (vs : List V), DaL K H P vs ds → DaL K H' P' vs ds
  | [], _, h => by cases h; exact .nil
  | d :: ds, _, h => by
    cases h with
    | cons h1 h2 => exact .cons (Da.mono k p d _ h1) (DaL.mono k p ds _ h2)
end
theorem Da.keep {d : D} {v : V} (h : Da K H P v d) (k : Keeps P H H') : Da K H' P v d := Da.mono k (fun _ _ p _ => p) d v h
theorem DaL.keep {ds : List D} {vs : List V} (h : DaL K H P vs ds) (k : Keeps P H H') : DaL K H' P vs ds := DaL.mono k (fun _ _ p _ => p) ds vs h
theorem Da.same {d : D} {v : V} (h : Da K H P v d) (s : Same H H') : Da K H' P v d := h.keep (.of_same s)
theorem DaL.same {ds : List D} {vs : List V} (h : DaL K H P vs ds) (s : Same H H') : DaL K H' P vs ds := h.keep (.of_same s)
theorem Da.weak {d : D} {v : V} (h : Da K H P v d) (p : ∀ b o, P b → H b = some o → P' b) : Da K H P' v d := Da.mono .refl p d v h
theorem DaL.weak {ds : List D} {vs : List V} (h : DaL K H P vs ds) (p : ∀ b o, P b → H b = some o → P' b) : DaL K H P' vs ds := DaL.mono .refl p ds vs h
mutual
theorem Da.dp : ∀ (d : D) (v : V), d.canLay0 = true → Da K H P v d → Dp K H v d
  | .none, _, _, h => by cases h; exact .non
  | .bool b, _, _, h => by cases h; exact .bl b
  | .int i, _, _, h => by cases h; exact .int i
  | .str x, _, _, h => by cases h; exact .str x
  | .list ds, _, l, h => by
    cases h with
    | lst h1 h2 => exact .lst h1.sq (DaL.dp ds _ l h2)
  | .tuple ds, _, l, h => by
    cases h with
    | tup h1 h2 => exact .tup h1.sq (DaL.dp ds _ l h2)
  | .dict _, _, l, _ => by simp [PyData.canLay0] at l
theorem DaL.dp : ∀ (ds : List D) (vs : List V), PyData.canLayAll0 ds = true → DaL K H P vs ds → DpAll K H vs ds
  | [], _, _, h => by cases h; exact .nil
  | d :: ds, _, l, h => by
    cases h with
    | cons h1 h2 =>
      simp only [PyData.canLayAll0, Bool.and_eq_true] at l
      exact .cons (Da.dp d _ l.1 h1) (DaL.dp ds _ l.2 h2)
end
theorem DaL.length : ∀ {vs : List V} {ds : List D}, DaL K H P vs ds → vs.length = ds.length
  | _, _, .nil => rfl
  | _, _, .cons _ t => by rw [List.length_cons, List.length_cons, DaL.length t]
theorem DaL.get : ∀ {vs : List V} {ds : List D} {i : Nat} {d : D}, DaL K H P vs ds → ds[i]? = some d → ∃ v, vs[i]? = some v ∧ Da K H P v d
  | _, _, _, _, .nil, e => by simp at e
  | _, _, 0, _, .cons r _, e => by simp at e; subst e; exact ⟨_, rfl, r⟩
  | _, _, i + 1, _, .cons _ t, e => by
    obtain ⟨v, h1, h2⟩ := DaL.get (i := i) t (by simpa using e)
    exact ⟨v, by simpa using h1, h2⟩
theorem DaL.get' : ∀ {vs : List V} {ds : List D} {i : Nat} {v : V}, DaL K H P vs ds → vs[i]? = some v → ∃ d, ds[i]? = some d ∧ Da K H P v d
  | _, _, _, _, .nil, e => by simp at e
  | _, _, 0, _, .cons r _, e => by simp at e; subst e; exact ⟨_, rfl, r⟩
  | _, _, i + 1, _, .cons _ t, e => by
    obtain ⟨v, h1, h2⟩ := DaL.get' (i := i) t (by simpa using e)
    exact ⟨v, by simpa using h1, h2⟩
theorem DaL.append : ∀ {vs ws : List V} {ds es : List D}, DaL K H P vs ds → DaL K H P ws es → DaL K H P (vs ++ ws) (ds ++ es)
  | _, _, _, _, .nil, s => s
  | _, _, _, _, .cons r t, s => .cons r (DaL.append t s)
theorem DaL.set : ∀ {vs : List V} {ds : List D} {v : V} {d : D} (i : Nat), DaL K H P vs ds → Da K H P v d → DaL K H P (vs.set i v) (ds.set i d)
  | _, _, _, _, _, .nil, _ => .nil
  | _, _, _, _, 0, .cons _ t, h => .cons h t
  | _, _, _, _, i + 1, .cons r t, h => .cons r (DaL.set i t h)
theorem DaL.take : ∀ {vs : List V} {ds : List D} (n : Nat), DaL K H P vs ds → DaL K H P (vs.take n) (ds.take n)
  | _, _, 0, _ => .nil
  | _, _, _ + 1, .nil => .nil
  | _, _, n + 1, .cons r t => .cons r (DaL.take n t)
theorem DaL.drop : ∀ {vs : List V} {ds : List D} (n : Nat), DaL K H P vs ds → DaL K H P (vs.drop n) (ds.drop n)
  | _, _, 0, h => h
  | _, _, _ + 1, .nil => .nil
  | _, _, n + 1, .cons _ t => DaL.drop n t
theorem DaL.one {v : V} {d : D} (h : Da K H P v d) : DaL K H P [v] [d] := .cons h .nil
theorem DaL.dropLast {vs : List V} {ds : List D} (h : DaL K H P vs ds) : DaL K H P vs.dropLast ds.dropLast := by
  rw [List.dropLast_eq_take, List.dropLast_eq_take, h.length]
  exact h.take _
theorem DaL.rep {vs : List V} {ds : List D} (h : DaL K H P vs ds) : ∀ k : Nat, DaL K H P (List.replicate k vs).flatten (List.replicate k ds).flatten
  | 0 => .nil
  | k + 1 => by
    rw [List.replicate_succ, List.replicate_succ, List.flatten_cons, List.flatten_cons]
    exact h.append (DaL.rep h k)
theorem cut_cutV (xs : List V) (lo hi : Option Int) : cutV xs lo hi = cut xs lo hi := rfl
theorem DaL.cut {vs : List V} {ds : List D} (h : DaL K H P vs ds) (lo hi : Option Int) : DaL K H P (cut vs lo hi) (cut ds lo hi) := by
  unfold Bw.cut
  rw [h.length]
  exact (h.drop _).take _
theorem cut_len {α : Type} (xs : List α) (lo hi : Option Int) : (cut xs lo hi).length ≤ xs.length := by
  unfold cut
  rw [List.length_take, List.length_drop]
  omega
/-- ints, truths -/
theorem DaL.toInts : ∀ {ds : List D} {vs : List V} {ns : List Int}, DaL K H P vs ds → toInts ds = some ns → vs = ns.map V.int
  | [], _, _, h, e => by cases h; cases e; rfl
  | d :: ds, _, ns, h, e => by
    cases h with
    | cons h1 h2 =>
      cases d with
      | int i =>
        cases h1
        simp only [Bw.toInts, Option.map_eq_some_iff] at e
        obtain ⟨r, e1, rfl⟩ := e
        rw [DaL.toInts h2 e1]
        rfl
      | _ => simp [Bw.toInts] at e
theorem DaL.toBools : ∀ {ds : List D} {vs : List V} {ns : List Bool}, DaL K H P vs ds → toBools ds = some ns → vs = ns.map V.bl
  | [], _, _, h, e => by cases h; cases e; rfl
  | d :: ds, _, ns, h, e => by
    cases h with
    | cons h1 h2 =>
      cases d with
      | bool i =>
        cases h1
        simp only [Bw.toBools, Option.map_eq_some_iff] at e
        obtain ⟨r, e1, rfl⟩ := e
        rw [DaL.toBools h2 e1]
        rfl
      | _ => simp [Bw.toBools] at e
end

/-- an operand: data, or a list of one's own whose items are data -/
def DaO (K : W.Frag) (H : Hp) (P : Addr → Prop) (v : V) (d : D) : Prop := Da K H P v d ∨ ∃ a vs ds, v = .ref a ∧ d = .list ds ∧ H a = some (.lst vs) ∧ vs.length ≤ sizeLine ∧ DaL K H P vs ds
section
variable {K : W.Frag} {H H' : Hp} {P P' : Addr → Prop} {v : V} {d : D}
theorem DaO.of (h : Da K H P v d) : DaO K H P v d := .inl h
theorem DaO.same (h : DaO K H P v d) (s : Same H H') : DaO K H' P v d := by
  rcases h with h | ⟨a, vs, ds, h1, h2, h3, h4, h5⟩
  · exact .inl (h.same s)
  · exact .inr ⟨a, vs, ds, h1, h2, s _ _ h3, h4, h5.same s⟩
theorem DaO.dp (l : d.canLay0 = true) (h : DaO K H P v d) : Dp K H v d := by
  rcases h with h | ⟨a, vs, ds, rfl, rfl, h3, h4, h5⟩
  · exact Da.dp _ _ l h
  · exact .lst (.inl (.inl h3)) (DaL.dp _ _ l h5)
theorem DaO.list {ds : List D} (h : DaO K H P v (.list ds)) : ∃ a vs, v = .ref a ∧ Rd H a (.lst vs) ∧ vs.length ≤ sizeLine ∧ DaL K H P vs ds := by
  rcases h with h | ⟨a, vs, ds', rfl, e, h3, h4, h5⟩
  · cases h with
    | lst h1 h2 => exact ⟨_, _, rfl, h1.2.1, h1.1, h2⟩
  · cases e
    exact ⟨a, vs, rfl, .inl h3, h4, h5⟩
theorem DaO.tuple {ds : List D} (h : DaO K H P v (.tuple ds)) : ∃ a vs, v = .ref a ∧ ST H a vs ∧ vs.length ≤ sizeLine ∧ DaL K H P vs ds := by
  rcases h with h | ⟨a, vs, ds', rfl, e, h3, h4, h5⟩
  · cases h with
    | tup h1 h2 => exact ⟨_, _, rfl, h1, h1.1, h2⟩
  · cases e
theorem DaO.scr {kvs : List (D × D)} (h : DaO K H P v (.dict kvs)) : ∃ (a : Addr) (ns : List Int), v = .ref a ∧ kvs = ns.map (fun n => (.int n, .none)) ∧ Scr K H a (ns.map V.int) := by
  rcases h with h | ⟨a, vs, ds', rfl, e, h3, h4, h5⟩
  · cases h with
    | scr h1 => exact ⟨_, _, rfl, rfl, h1⟩
  · cases e
theorem DaO.int {i : Int} (h : DaO K H P v (.int i)) : v = .int i := by
  rcases h with h | ⟨a, vs, ds', rfl, e, h3, h4, h5⟩
  · cases h; rfl
  · cases e
theorem DaO.bl {i : Bool} (h : DaO K H P v (.bool i)) : v = .bl i := by
  rcases h with h | ⟨a, vs, ds', rfl, e, h3, h4, h5⟩
  · cases h; rfl
  · cases e
theorem DaO.str {i : Str} (h : DaO K H P v (.str i)) : v = .str i := by
  rcases h with h | ⟨a, vs, ds', rfl, e, h3, h4, h5⟩
  · cases h; rfl
  · cases e
theorem DaO.non (h : DaO K H P v .none) : v = .non := by
  rcases h with h | ⟨a, vs, ds', rfl, e, h3, h4, h5⟩
  · cases h; rfl
  · cases e
end

/-! ### dicts whose keys are tuples -/
mutual
def keyN : D → NestedKey
  | .int i => .num i
  | .str x => .text x
  | .tuple xs => .tup (keyNs xs)
  | _ => .none
def keyNs : List D → List NestedKey
  | [] => []
  | x :: xs => keyN x :: keyNs xs
end
abbrev NEnt := NestedKey × Addr × Value
/-- the dict's own object is o, its entries xs -/
def RawN (prog : Program) (w : World) (a : Addr) (o : Obj) (xs : List NEnt) : Heap → Prop := fun h =>
  (a == sysModules) = false ∧ h.get? a = some o ∧ o.ExactDict ∧ ∃ es ep, o.data = .dict es ep ∧ es.toList = xs.map (entryOfKey (nestedKind prog w))
def EntN (K : W.Frag) (H : Hp) (P : Addr → Prop) (kv : D × D) (x : NEnt) : Prop :=
  keyFit true kv.1 = true ∧ keyN kv.1 = x.1 ∧ Da K H P (.ref x.2.1) kv.1 ∧ ∃ v, RelV v x.2.2 ∧ Da K H P v kv.2
def EntS (K : W.Frag) (H : Hp) (P : Addr → Prop) (kv : D × D) (x : Key × V) : Prop :=
  ∃ s, kv.1 = .str s ∧ x.1 = Sum.inr s ∧ Da K H P x.2 kv.2
/-- the dict at a -/
def DctAt (prog : Program) (w : World) (K : W.Frag) (H : Hp) (P : Addr → Prop) (a : Addr) (nest : Bool) (kvs : List (D × D)) : Prop :=
  match nest with
  | true => ∃ (o : Obj) (xs : List NEnt), H a = some (.ext (RawN prog w a o xs)) ∧ xs.length ≤ sizeLine ∧ (xs.map (·.1)).Nodup ∧ Paired (EntN K H P) kvs xs
  | false => ∃ xs : List (Key × V), H a = some (.dK xs) ∧ (xs.map (·.1)).Nodup ∧ Paired (EntS K H P) kvs xs

theorem paired_mono {α β : Type} {F G : α → β → Prop} (f : ∀ a b, F a b → G a b) : ∀ {l₁ : List α} {l₂ : List β}, Paired F l₁ l₂ → Paired G l₁ l₂
  | _, _, .nil => .nil
  | _, _, .cons r t => .cons (f _ _ r) (paired_mono f t)
section
variable {prog : Program} {w : World} {K : W.Frag} {H H' : Hp} {P P' : Addr → Prop}
theorem EntN.mono {kv : D × D} {x : NEnt} (k : Keeps P H H') (p : ∀ b o, P b → H b = some o → P' b) (h : EntN K H P kv x) : EntN K H' P' kv x := by
  obtain ⟨h1, h2, h3, v, h4, h5⟩ := h
  exact ⟨h1, h2, Da.mono k p _ _ h3, v, h4, Da.mono k p _ _ h5⟩
theorem EntS.mono {kv : D × D} {x : Key × V} (k : Keeps P H H') (p : ∀ b o, P b → H b = some o → P' b) (h : EntS K H P kv x) : EntS K H' P' kv x := by
  obtain ⟨s, h1, h2, h3⟩ := h
  exact ⟨s, h1, h2, Da.mono k p _ _ h3⟩
theorem DctAt.mono {a : Addr} {nest : Bool} {kvs : List (D × D)} (k : Keeps P H H') (p : ∀ b o, P b → H b = some o → P' b) (ha : ∀ o, H a = some o → H' a = some o)
    (h : DctAt prog w K H P a nest kvs) : DctAt prog w K H' P' a nest kvs := by
  cases nest with
  | true =>
    obtain ⟨o, xs, h1, h2, h3, h4⟩ := h
    exact ⟨o, xs, ha _ h1, h2, h3, paired_mono (fun _ _ z => z.mono k p) h4⟩
  | false =>
    obtain ⟨xs, h1, h3, h4⟩ := h
    exact ⟨xs, ha _ h1, h3, paired_mono (fun _ _ z => z.mono k p) h4⟩
end

/-! ### slots -/
/-- allowed for data: P, and not one's own -/
abbrev PF (P : Addr → Prop) (F : List Addr) : Addr → Prop := fun b => P b ∧ b ∉ F
def MatRow (K : W.Frag) (H : Hp) (P : Addr → Prop) (F : List Addr) (b : Addr) (ds : List D) : Prop :=
  b ∈ F ∧ P b ∧ ∃ vs, H b = some (.lst vs) ∧ vs.length ≤ sizeLine ∧ DaL K H (PF P F) vs ds
def RepS (prog : Program) (w : World) (K : W.Frag) (P : Addr → Prop) (F : List Addr) (H : Hp) (v : V) (s : SV) : Prop :=
  match s with
  | .dat d => Da K H (PF P F) v d
  | .own ds => ∃ a vs, v = .ref a ∧ a ∈ F ∧ P a ∧ H a = some (.lst vs) ∧ vs.length ≤ sizeLine ∧ DaL K H (PF P F) vs ds
  | .mat dss => ∃ a as, v = .ref a ∧ a ∈ F ∧ P a ∧ H a = some (.lst (as.map V.ref)) ∧ as.length ≤ sizeLine ∧ as.Nodup ∧ a ∉ as ∧ Paired (MatRow K H P F) as dss
  | .dct nest kvs => ∃ a, v = .ref a ∧ a ∈ F ∧ DctAt prog w K H (PF P F) a nest kvs
/-- the addresses that are a slot's own -/
def Fp (H : Hp) (v : V) (s : SV) (b : Addr) : Prop :=
  match s with
  | .dat _ => False
  | .own _ => v = .ref b
  | .mat _ => v = .ref b ∨ ∃ a vs, v = .ref a ∧ H a = some (.lst vs) ∧ V.ref b ∈ vs
  | .dct _ _ => v = .ref b
/-- what may stand at an address of one's own -/
def isMut : HO → Bool
  | .lst _ => true | .dK _ => true | .ext _ => true | _ => false
structure R (prog : Program) (w : World) (K : W.Frag) (P : Addr → Prop) (F : List Addr) (ρ : Env) (σ : L2.St) (H : Hp) : Prop where
  len : σ.length = ρ.length
  trk : ∀ b ∈ F, ∃ o, H b = some o ∧ isMut o = true
  fresh : ∀ b, H b = none → P b
  rep : ∀ (i : Nat) (s : SV), ρ[i]? = some (some s) → ∃ v, σ[i]? = some (some v) ∧ RepS prog w K P F H v s
  sep : ∀ (i j : Nat) (s t : SV) (v u : V) (b : Addr), i ≠ j → ρ[i]? = some (some s) → ρ[j]? = some (some t) → σ[i]? = some (some v) → σ[j]? = some (some u) → Fp H v s b → ¬ Fp H u t b

/-- what a statement may do: all that is not one's own stays, nothing vanishes -/
structure Step (F : List Addr) (H H' : Hp) : Prop where
  keep : ∀ b o, H b = some o → b ∉ F → H' b = some o
  grow : ∀ b, H' b = none → H b = none
theorem Step.refl {F : List Addr} {H : Hp} : Step F H H := ⟨fun _ _ h _ => h, fun _ h => h⟩
theorem Step.of_same {F : List Addr} {H H' : Hp} (s : Same H H') : Step F H H' := ⟨fun b o h _ => s b o h, fun b h => s.free h⟩
theorem Step.trans {F F1 : List Addr} {H H1 H2 : Hp} (a : Step F H H1) (hF : ∀ b ∈ F1, b ∈ F ∨ H b = none) (b : Step F1 H1 H2) : Step F H H2 :=
  ⟨fun c o h n => b.keep c o (a.keep c o h n) fun z => (hF c z).elim n fun q => (by rw [h] at q; cases q), fun c h => a.grow c (b.grow c h)⟩
theorem Step.same_trans {F : List Addr} {H H1 H2 : Hp} (a : Same H H1) (b : Step F H1 H2) : Step F H H2 := ⟨fun c o h n => b.keep c o (a c o h) n, fun c h => a.free (b.grow c h)⟩
theorem Step.weak {F F' : List Addr} {H H' : Hp} (a : Step F H H') (h : ∀ b ∈ F, b ∈ F' ∨ H b = none) : Step F' H H' :=
  ⟨fun c o e n => a.keep c o e fun z => (h c z).elim n fun q => (by rw [e] at q; cases q), a.grow⟩
section
variable {prog : Program} {w : World} {K : W.Frag} {P : Addr → Prop} {F : List Addr} {ρ : Env} {σ : L2.St} {H H' : Hp}
theorem RepS.same {v : V} {s : SV} (k : Same H H') (h : RepS prog w K P F H v s) : RepS prog w K P F H' v s := by
  cases s with
  | dat d => exact Da.same h k
  | own ds =>
    obtain ⟨a, vs, h1, h2, h3, h4, h5, h6⟩ := h
    exact ⟨a, vs, h1, h2, h3, k _ _ h4, h5, h6.same k⟩
  | mat dss =>
    obtain ⟨a, as, h1, h2, h3, h4, h5, h6, h7, h8⟩ := h
    refine ⟨a, as, h1, h2, h3, k _ _ h4, h5, h6, h7, paired_mono (fun b ds z => ?_) h8⟩
    obtain ⟨z1, z2, vs, z3, z4, z5⟩ := z
    exact ⟨z1, z2, vs, k _ _ z3, z4, z5.same k⟩
  | dct nest kvs =>
    obtain ⟨a, h1, h2, h3⟩ := h
    exact ⟨a, h1, h2, h3.mono (.of_same k) (fun _ _ z _ => z) fun o e => k _ _ e⟩
theorem Fp.same {v : V} {s : SV} {b : Addr} (r : RepS prog w K P F H v s) (k : Same H H') (h : Fp H' v s b) : Fp H v s b := by
  cases s with
  | dat d => exact h
  | own ds => exact h
  | mat dss =>
    rcases h with h | ⟨a, vs, h1, h2, h3⟩
    · exact .inl h
    · obtain ⟨a', as, r1, r2, r3, r4, r5⟩ := r
      rw [r1] at h1
      cases h1
      rw [k _ _ r4] at h2
      cases h2
      exact .inr ⟨_, _, r1, r4, h3⟩
  | dct nest kvs => exact h
/-- nothing tracked changed -/
theorem R.same (r : R prog w K P F ρ σ H) (k : Same H H') : R prog w K P F ρ σ H' := by
  refine ⟨r.len, fun b hb => ?_, fun b hb => r.fresh b (k.free hb), fun i s e => ?_, fun i j s t v u b ne e1 e2 e3 e4 f g => ?_⟩
  · obtain ⟨o, h1, h2⟩ := r.trk b hb
    exact ⟨o, k _ _ h1, h2⟩
  · obtain ⟨v, h1, h2⟩ := r.rep i s e
    exact ⟨v, h1, h2.same k⟩
  · obtain ⟨v', h1, h2⟩ := r.rep i s e1
    rw [e3] at h1
    cases h1
    obtain ⟨u', h3, h4⟩ := r.rep j t e2
    rw [e4] at h3
    cases h3
    exact r.sep i j s t v u b ne e1 e2 e3 e4 (Fp.same h2 k f) (Fp.same h4 k g)
theorem R.dat (r : R prog w K P F ρ σ H) {i : Nat} {d : D} (h : rdD ρ i = some d) : ∃ v, σ[i]? = some (some v) ∧ Da K H (PF P F) v d := by
  unfold rdD at h
  split at h
  · rename_i d' e
    cases h
    exact r.rep i _ e
  · cases h
theorem R.own (r : R prog w K P F ρ σ H) {i : Nat} {ds : List D} (h : rdO ρ i = some ds) : ∃ a vs, σ[i]? = some (some (.ref a)) ∧ a ∈ F ∧ P a ∧ H a = some (.lst vs) ∧ vs.length ≤ sizeLine ∧ DaL K H (PF P F) vs ds := by
  unfold rdO at h
  split at h
  · rename_i d' e
    cases h
    obtain ⟨v, h1, a, vs, rfl, h2⟩ := r.rep i _ e
    exact ⟨a, vs, h1, h2⟩
  · cases h
theorem R.dct (r : R prog w K P F ρ σ H) {i : Nat} {d : Bool × List (D × D)} (h : rdK ρ i = some d) : ∃ a, σ[i]? = some (some (.ref a)) ∧ a ∈ F ∧ DctAt prog w K H (PF P F) a d.1 d.2 := by
  unfold rdK at h
  split at h
  · rename_i n kvs e
    cases h
    obtain ⟨v, h1, a, rfl, h2, h3⟩ := r.rep i _ e
    exact ⟨a, h1, h2, h3⟩
  · cases h
theorem R.mat (r : R prog w K P F ρ σ H) {i : Nat} {dss : List (List D)} (h : rdM ρ i = some dss) :
    ∃ a as, σ[i]? = some (some (.ref a)) ∧ a ∈ F ∧ P a ∧ H a = some (.lst (as.map V.ref)) ∧ as.length ≤ sizeLine ∧ as.Nodup ∧ a ∉ as ∧ Paired (MatRow K H P F) as dss := by
  unfold rdM at h
  split at h
  · rename_i d' e
    cases h
    obtain ⟨v, h1, a, vs, rfl, h2⟩ := r.rep i _ e
    exact ⟨a, vs, h1, h2⟩
  · cases h
/-- a tuple, a locked thing is not one's own -/
theorem R.notF (r : R prog w K P F ρ σ H) {b : Addr} {o : HO} (h : H b = some o) (m : isMut o = false) : b ∉ F := fun z => by
  obtain ⟨o', h1, h2⟩ := r.trk b z
  rw [h] at h1
  cases h1
  rw [m] at h2
  cases h2
theorem R.keeps (r : R prog w K P F ρ σ H) (s : Step F H H') : Keeps (PF P F) H H' :=
  ⟨fun b o p h => s.keep b o h p.2, fun b o u h => s.keep _ _ h (r.notF h rfl)⟩
end
theorem same_upd {H : Hp} {p : Addr} {o : HO} (h : H p = none) : Same H (upd H p o) := fun b x e => by
  rw [upd_ne (ne_of_none e h)]
  exact e
theorem Da.new_tup {K : W.Frag} {H : Hp} {P : Addr → Prop} {p : Addr} {o : Obj} {vs : List V} {ds : List D} (h : H p = none) (ho : o.dict = none) (r : DaL K H P vs ds) (hl : vs.length ≤ sizeLine) :
    Da K (upd H p (.frz o (.tup vs))) P (.ref p) (.tuple ds) := .tup ⟨hl, o, upd_same, ho⟩ (r.same (same_upd h))
/-- a new list -/
structure Fresh (K : W.Frag) (H H' : Hp) (P : Addr → Prop) (v : V) (d : D) : Prop where
  ex : ∃ p vs ds, v = .ref p ∧ d = .list ds ∧ H p = none ∧ H' p = some (.lst vs) ∧ vs.length ≤ sizeLine ∧ DaL K H' (fun b => P b ∧ b ≠ p) vs ds
theorem DaL.avoid {K : W.Frag} {H : Hp} {P : Addr → Prop} {p : Addr} {vs : List V} {ds : List D} (h : DaL K H P vs ds) (hp : H p = none) : DaL K H (fun b => P b ∧ b ≠ p) vs ds :=
  h.weak fun b o pb e => ⟨pb, ne_of_none e hp⟩
theorem Fresh.new {K : W.Frag} {H0 H : Hp} {P : Addr → Prop} {p : Addr} {vs : List V} {ds : List D} (s : Same H0 H) (h : H p = none) (r : DaL K H P vs ds) (hl : vs.length ≤ sizeLine) : Fresh K H0 (upd H p (.lst vs)) P (.ref p) (.list ds) :=
  ⟨p, vs, ds, rfl, rfl, s.free h, upd_same, hl, (r.avoid h).same (same_upd h)⟩
theorem Fresh.da {K : W.Frag} {H H' : Hp} {P : Addr → Prop} {v : V} {d : D} (f : Fresh K H H' P v d) (hp : ∀ b, H b = none → P b) : Da K H' P v d := by
  obtain ⟨p, vs, ds, rfl, rfl, h1, h2, h3, h4⟩ := f.ex
  exact   .lst ⟨h3, .inl h2, hp p h1⟩ (h4.weak fun b o q _ => q.1)
end Bw

/-! Bw, part C: the operators and the calls of built-in functions over data. -/
namespace Bw
open PySem PySem.Spec PyProof.Rows L2

/-- one argument: what is asked of it, what comes -/
def rUn (K : W.Frag) (f : Un) : V → Hp → VK → Prop := fun v H Q => ∃ P d r, (∀ b, H b = none → P b) ∧ DaO K H P v d ∧ unF f d = some r ∧
  ∀ u H', Same H H' → Da K H' P u r → ((f = .list ∨ f = .sorted) → Fresh K H H' P u r) → Q u H'
def rUn1 (K : W.Frag) (f : Un) : List V → Hp → VK → Prop := fun xs H Q => ∃ v, xs = [v] ∧ rUn K f v H Q
def rBin (K : W.Frag) (f : Bin) : R2 := fun x y H Q => ∃ P a b r, (∀ b, H b = none → P b) ∧ DaO K H P x a ∧ DaO K H P y b ∧ binF f a b = some r ∧
  ∀ u H', Same H H' → Da K H' P u r → (∀ ds, r = .list ds → f = .add ∨ f = .mul → Fresh K H H' P u r) → Q u H'
theorem Rd.sq {K : W.Frag} {H : Hp} {a : Addr} {xs : List V} (h : Rd H a (.lst xs)) : SqL K H a xs := .inl h
theorem no_un {f : Un} {A : Prop} (h1 : f ≠ .list) (h2 : f ≠ .sorted) : (f = .list ∨ f = .sorted) → A := fun z => (z.elim h1 h2).elim
section
variable {X : Cx}
theorem cu_len : CallR X (.builtin "len") (rUn1 X.K .len) := by
  intro pins s σ H xs us Q I r h
  obtain ⟨v, rfl, P, d, y, hp, da, e, q⟩ := h
  cases d with
  | list ds =>
    obtain ⟨a, vs, rfl, h1, h2, h3⟩ := da.list
    cases e
    refine call_len_seq pins s σ H _ us Q I r ⟨a, vs, rfl, .inl (Rd.sq h1), ?_⟩
    rw [h3.length]
    exact q _ _ (Same.refl _) (.int _) (no_un (by decide) (by decide))
  | tuple ds =>
    obtain ⟨a, vs, rfl, h1, h2, h3⟩ := da.tuple
    cases e
    refine call_len_seq pins s σ H _ us Q I r ⟨a, vs, rfl, .inr h1.sq, ?_⟩
    rw [h3.length]
    exact q _ _ (Same.refl _) (.int _) (no_un (by decide) (by decide))
  | dict kvs =>
    obtain ⟨a, ns, rfl, rfl, h1⟩ := da.scr
    cases e
    refine call_len_seq pins s σ H _ us Q I r ⟨a, _, rfl, .inl h1.sq, ?_⟩
    have := q (.int (ns.map fun n => ((PyData.int n, PyData.none) : D × D)).length) H (Same.refl _) (.int _) (no_un (by decide) (by decide))
    rw [List.length_map] at this ⊢
    exact this
  | str x =>
    cases da.str
    simp only [unF] at e
    split at e
    · rename_i hl
      cases e
      exact call_len_str pins s σ H _ us Q I r ⟨x, rfl, hl, q _ _ (Same.refl _) (.int _) (no_un (by decide) (by decide))⟩
    · cases e
  | _ => simp [unF] at e
theorem sum_tup {prog : Program} {w : World} {A : Around} {E : Value → Shared → Prop} {s : Shared} {l : Addr} {its : List Value} {ns : List Int} {Q : Value → Shared → Prop} (hh : A.handled = none) (hl : s.heap.IsTuple l its.toArray) (hi : IntsAre its ns)
    (h : ∀ h' tk t', (∀ b o, s.heap.get? b = some o → h'.get? b = some o) → Q (.int ns.sum t') { s with heap := h', toks := tk }) : wpAny (model prog w) A (call (.builtin "sum") [.ref l]) Q E s := by
  obtain ⟨xs, e⟩ := hi.allInts.items
  have hn : numsOf (intItems xs).toList = ns := by rw [← e]; exact hi.numsOf
  rw [nums_intItems] at hn
  rw [e] at hl
  have hlt : l < s.heap.objs.size := by obtain ⟨_, e, _⟩ := hl; exact Heap.lt_size e
  refine PySem.call_sum_walkG (wpAny_pyIter_tuple hl ?_)
  refine ⟨_, _, _, _, _, _, numAt xs, rfl, Walks.tuple (A := A.in1) hh _ l (Nat.ne_of_lt hlt) (intItems xs), ⟨⟨_, Heap.get?_push_size _ rfl, rfl, rfl⟩, hl.push _⟩, (fun b hb => ?_), (fun _ _ => intItems_at), fun h' tk t' hk => ?_⟩
  · show b < (s.heap.push _).objs.size
    rw [Heap.size_push]
    rcases List.mem_cons.mp hb with rfl | hb
    · exact Nat.lt_succ_self _
    · rcases List.mem_cons.mp hb with rfl | hb
      · exact Nat.lt_succ_of_lt hlt
      · cases hb
  · have := h h' tk t' fun b o eb => hk b o (fun hb => absurd (Heap.lt_size eb) ((List.mem_singleton.mp hb) ▸ Nat.lt_irrefl _)) (Heap.get?_push_of_some _ eb)
    rw [← hn] at this
    have e3 : (intItems xs).size = xs.size := by simp [intItems]
    rw [e3, preSum_eq, List.take_of_length_le (by simp)]
    exact this
theorem cu_sum (hc : X.calm = true) : CallR X (.builtin "sum") (rUn1 X.K .sum) := by
  intro pins s σ H xs us Q I r h
  obtain ⟨v, rfl, P, d, y, hp, da, e, q⟩ := h
  cases d with
  | list ds =>
    obtain ⟨a, vs, rfl, h1, h2, h3⟩ := da.list
    simp only [unF, Option.map_eq_some_iff] at e
    obtain ⟨ns, e1, rfl⟩ := e
    cases h3.toInts e1
    exact cr_sum hc pins s σ H _ us Q I r ⟨a, ns, rfl, Rd.sq h1, q _ _ (Same.refl _) (.int _) (no_un (by decide) (by decide))⟩
  | tuple ds =>
    obtain ⟨a, vs, rfl, h1, h2, h3⟩ := da.tuple
    simp only [unF, Option.map_eq_some_iff] at e
    obtain ⟨ns, e1, rfl⟩ := e
    cases h3.toInts e1
    obtain ⟨its, rv, hl, _⟩ := I.tuple (h1.sq (K := X.K))
    rw [Vals.ref1 r]
    exact sum_tup (I.ok.hd hc) hl rv.ints fun h' tk t' hk => ⟨.int _, H, I.kept hk, ⟨_, rfl⟩, q _ _ (Same.refl _) (.int _) (no_un (by decide) (by decide))⟩
  | _ => simp [unF] at e
theorem cu_all (hc : X.calm = true) : CallR X (.builtin "all") (rUn1 X.K .all) := by
  intro pins s σ H xs us Q I r h
  obtain ⟨v, rfl, P, d, y, hp, da, e, q⟩ := h
  cases d with
  | list ds =>
    obtain ⟨a, vs, rfl, h1, h2, h3⟩ := da.list
    simp only [unF, Option.map_eq_some_iff] at e
    obtain ⟨ns, e1, rfl⟩ := e
    cases h3.toBools e1
    exact cr_all hc pins s σ H _ us Q I r ⟨a, ns, rfl, Rd.sq h1, q _ _ (Same.refl _) (.bl _) (no_un (by decide) (by decide))⟩
  | _ => simp [unF] at e
theorem cu_any (hc : X.calm = true) : CallR X (.builtin "any") (rUn1 X.K .any) := by
  intro pins s σ H xs us Q I r h
  obtain ⟨v, rfl, P, d, y, hp, da, e, q⟩ := h
  cases d with
  | list ds =>
    obtain ⟨a, vs, rfl, h1, h2, h3⟩ := da.list
    simp only [unF, Option.map_eq_some_iff] at e
    obtain ⟨ns, e1, rfl⟩ := e
    cases h3.toBools e1
    exact cr_any hc pins s σ H _ us Q I r ⟨a, ns, rfl, Rd.sq h1, q _ _ (Same.refl _) (.bl _) (no_un (by decide) (by decide))⟩
  | _ => simp [unF] at e
/-- a new tuple, its object told -/
theorem Inv.tnew {pins : List (Addr × Obj)} {s : Shared} {σ : L2.St} {H : Hp} {its : List Value} {ys : List V} {t' : Nat} (I : Inv X pins σ H s) (hv : Vals ys its) (hz : ys.length ≤ sizeLine) :
    Inv X pins σ (upd H s.heap.objs.size (.frz { cls := .type "tuple", data := .seq its.toArray } (.tup ys))) { s with heap := s.heap.push { cls := .type "tuple", data := .seq its.toArray }, toks := t' } :=
  I.laid (fun _ _ q => Heap.get?_push_of_some _ q) (Nat.le_refl _) ⟨Heap.get?_push_size _ rfl, hz, its, hv, IsTup.new _ _⟩
theorem call_tupleF : CallR X (.type "tuple") (fun xs H Q => ∃ p ys, xs = [.ref p] ∧ SqL X.K H p ys ∧ ∀ l o, H l = none → o.dict = none → Q (.ref l) (upd H l (.frz o (.tup ys)))) := by
  intro pins s σ H xs us Q I r h
  obtain ⟨p, ys, rfl, hq, q⟩ := h
  obtain ⟨u, rfl, rx⟩ := vals1 r
  cases rx
  obtain ⟨its, r', pl, hz⟩ := I.list hq
  have hlen := r'.length
  refine call_tuple_list pl.isList (fun h' kp => ?_) (by simp only [List.size_toArray] <;> omega)
  have I1 : Inv X pins σ H { s with heap := h' } := I.kept (t' := s.toks) kp
  exact ⟨.ref h'.objs.size, _, Inv.tnew I1 (t' := s.toks) r' hz, rfl, q _ _ (I1.hok.fresh (Nat.le_refl _)) rfl⟩
theorem cu_tuple : CallR X (.type "tuple") (rUn1 X.K .tuple) := by
  intro pins s σ H xs us Q I r h
  obtain ⟨v, rfl, P, d, y, hp, da, e, q⟩ := h
  cases d with
  | list ds =>
    obtain ⟨a, vs, rfl, h1, h2, h3⟩ := da.list
    cases e
    exact call_tupleF pins s σ H _ us Q I r ⟨a, vs, rfl, Rd.sq h1, fun p o np ho => q _ _ (same_upd np) (Da.new_tup np ho h3 h2) (no_un (by decide) (by decide))⟩
  | tuple ds =>
    obtain ⟨a, vs, rfl, h1, h2, h3⟩ := da.tuple
    cases e
    exact call_tuple_of pins s σ H _ us Q I r ⟨a, vs, rfl, .inr ⟨h1.sq, q _ _ (Same.refl _) (.tup h1 h3) (no_un (by decide) (by decide))⟩⟩
  | _ => simp [unF] at e
theorem cu_list : CallR X (.type "list") (rUn1 X.K .list) := by
  intro pins s σ H xs us Q I r h
  obtain ⟨v, rfl, P, d, y, hp, da, e, q⟩ := h
  have fin : ∀ {ds vs p}, H p = none → DaL X.K H P vs ds → vs.length ≤ sizeLine → y = .list ds → Q (.ref p) (upd H p (.lst vs)) := fun {ds vs p} np h3 h2 ey => by
    have f : Fresh X.K H (upd H p (.lst vs)) P (.ref p) (.list ds) := Fresh.new (Same.refl _) np h3 h2
    subst ey
    exact q _ _ (same_upd np) (f.da hp) fun _ => f
  cases d with
  | list ds =>
    obtain ⟨a, vs, rfl, h1, h2, h3⟩ := da.list
    cases e
    exact call_list_of pins s σ H _ us Q I r ⟨a, vs, rfl, .inl (Rd.sq h1), fun p np => fin np h3 h2 rfl⟩
  | tuple ds =>
    obtain ⟨a, vs, rfl, h1, h2, h3⟩ := da.tuple
    cases e
    exact call_list_of pins s σ H _ us Q I r ⟨a, vs, rfl, .inr h1.sq, fun p np => fin np h3 h2 rfl⟩
  | _ => simp [unF] at e
theorem cu_int : CallR X (.type "int") (rUn1 X.K .int) := by
  intro pins s σ H xs us Q I r h
  obtain ⟨v, rfl, P, d, y, hp, da, e, q⟩ := h
  cases d with
  | int i =>
    cases da.int
    cases e
    exact call_int1 pins s σ H _ us Q I r (.inl ⟨_, rfl, q _ _ (Same.refl _) (.int _) (no_un (by decide) (by decide))⟩)
  | bool b =>
    cases da.bl
    cases e
    exact call_int1 pins s σ H _ us Q I r (.inr ⟨_, rfl, q _ _ (Same.refl _) (by cases b <;> exact .int _) (no_un (by decide) (by decide))⟩)
  | _ => simp [unF] at e
theorem cu_bool : CallR X (.type "bool") (rUn1 X.K .bool) := by
  intro pins s σ H xs us Q I r h
  obtain ⟨v, rfl, P, d, y, hp, da, e, q⟩ := h
  cases d with
  | int i =>
    cases da.int
    cases e
    exact call_bool1 pins s σ H _ us Q I r (.inl ⟨_, rfl, q _ _ (Same.refl _) (.bl _) (no_un (by decide) (by decide))⟩)
  | bool b =>
    cases da.bl
    cases e
    exact call_bool1 pins s σ H _ us Q I r (.inr ⟨_, rfl, q _ _ (Same.refl _) (.bl _) (no_un (by decide) (by decide))⟩)
  | _ => simp [unF] at e

/-! ### data of one kind -/
theorem alikeL_all {ds : List D} (h : alikeL ds = true) : ∀ x ∈ ds, ∀ y ∈ ds, W.alike x y = true := fun x hx y hy => by
  unfold alikeL at h
  exact List.all_eq_true.mp (List.all_eq_true.mp h x hx) y hy
theorem shp_all {ds : List D} (h : shp (.list ds) = true) : PyData.canLayAll0 ds = true ∧ PyData.depthAll ds ≤ 63 := by
  have h1 := SeqAt.canLay_of_shaped h
  have h2 := SeqAt.depth_of_shaped h
  simp only [PyData.canLay0] at h1
  simp only [PyData.depth] at h2
  exact ⟨h1, by omega⟩
theorem depth_mem {ds : List D} {d : D} (h : d ∈ ds) : d.depth ≤ PyData.depthAll ds := by
  induction ds with
  | nil => cases h
  | cons x r ih =>
    simp only [PyData.depthAll]
    rcases List.mem_cons.mp h with e | h
    · subst e
      omega
    · have := ih h
      omega
theorem fold_mem {f : D → D → Bool} : ∀ (xs : List D) (x : D), xs.foldl (fun a y => if f a y = true then y else a) x ∈ x :: xs
  | [], x => by simp
  | y :: r, x => by
    have h := fold_mem (f := f) r (if f x y = true then y else x)
    rw [List.foldl_cons]
    rcases List.mem_cons.mp h with e | h
    · rw [e]
      split <;> simp
    · exact List.mem_cons_of_mem _ (List.mem_cons_of_mem _ h)
theorem maxD_mem (x : D) (xs : List D) : W.maxD x xs ∈ x :: xs := fold_mem (f := fun a y => W.dataLt a y) xs x
theorem minD_mem (x : D) (xs : List D) : W.minD x xs ∈ x :: xs := fold_mem (f := fun a y => W.dataLt y a) xs x
theorem vals_get' : ∀ {xs : List V} {us : List Value} {i : Nat} {u : Value}, Vals xs us → us[i]? = some u → ∃ x, xs[i]? = some x ∧ RelV x u
  | _, _, _, _, .nil, e => by simp at e
  | _, _, 0, _, .cons r _, e => by simp at e; subst e; exact ⟨_, rfl, r⟩
  | _, _, i + 1, _, .cons _ t, e => by
    obtain ⟨x, h1, h2⟩ := vals_get' (i := i) t (by simpa using e)
    exact ⟨x, by simpa using h1, h2⟩
theorem comparable_of {ds : List D} (h : comparable ds = true) : W.AlikeAll ds ∧ PyData.canLayAll0 ds = true ∧ PyData.depthAll ds ≤ 63 := by
  unfold comparable at h
  simp only [Bool.and_eq_true] at h
  obtain ⟨⟨h1, h2⟩, h3⟩ := h
  refine ⟨⟨alikeL_all h1, fun x hx z => ?_⟩, (shp_all h3).1, (shp_all h3).2⟩
  have := List.all_eq_true.mp h2 x hx
  subst z
  simp [isNone] at this
theorem canLay_mem {ds : List D} {d : D} (hl : PyData.canLayAll0 ds = true) (h : d ∈ ds) : d.canLay0 = true := by
  induction ds with
  | nil => cases h
  | cons y r ih =>
    simp only [PyData.canLayAll0, Bool.and_eq_true] at hl
    rcases List.mem_cons.mp h with e | h
    · rw [e]; exact hl.1
    · exact ih hl.2 h
/-- the item that is handed back, as it stands -/
theorem best_item {pins : List (Addr × Obj)} {s : Shared} {σ : L2.St} {H : Hp} {P : Addr → Prop} {ds : List D} {vs : List V} {its : List Value} {m : D} {i : Nat} {v : Value} {h' : Heap} {tk : Nat} {bs : List Addr} {Q : VK} (I : Inv X pins σ H s)
    (hc : comparable ds = true) (hm : m ∈ ds) (da : DaL X.K H P vs ds) (rv : Vals vs its) (hi : its.toArray[i]? = some v) (hr : Reads h' v m bs) (hk : ∀ b o, s.heap.get? b = some o → h'.get? b = some o) (q : ∀ u, Da X.K H P u m → Q u H) :
    EP X pins σ Q v { s with heap := h', toks := tk } := by
  obtain ⟨⟨ha, _⟩, hl, _⟩ := comparable_of hc
  have hi' : its[i]? = some v := by simpa using hi
  obtain ⟨x, hx, rx⟩ := vals_get' rv hi'
  obtain ⟨d, hd, dd⟩ := da.get' hx
  have hmem : d ∈ ds := List.mem_of_getElem? hd
  have hcl := canLay_mem hl hmem
  obtain ⟨as, r1⟩ := Dp.reads I d x v (Da.dp _ _ hcl dd) rx
  have e : d = m := W.alike_unique d m v _ _ (ha d hmem m hm) (PyProof.Rows.Reads.keeps hk r1) hr
  subst e
  exact ⟨x, H, I.kept hk, rx, q x dd⟩
theorem canLay_list {ds : List D} (h : PyData.canLayAll0 ds = true) : PyData.canLay0 (.list ds) = true := by simp only [PyData.canLay0]; exact h
theorem cu_max (hc : X.calm = true) (hu : X.A.units + 70 < cLine) : CallR X (.builtin "max") (rUn1 X.K .max) := by
  intro pins s σ H xs us Q I r h
  obtain ⟨v, rfl, P, d, y, hp, da, e, q⟩ := h
  cases d with
  | list ds =>
    cases ds with
    | nil => simp [unF] at e
    | cons d0 ds =>
      obtain ⟨a, vs, rfl, h1, h2, h3⟩ := da.list
      simp only [unF] at e
      split at e
      · rename_i hcm
        cases e
        obtain ⟨ha, hl, hd⟩ := comparable_of hcm
        obtain ⟨its, rv, hL, _⟩ := I.list (Rd.sq (K := X.K) h1)
        rw [Vals.ref1 r]
        obtain ⟨as, hr⟩ := Dp.readsAll I _ _ _ (DaL.dp _ _ hl h3) rv
        refine W.max_list_data (I.ok.hd hc) hL.isList (by simpa using hr) ha (by omega) fun i v h' tk bs e1 e2 hk => ?_
        exact best_item I hcm (maxD_mem _ _) h3 rv e1 e2 hk fun u du => q u H (Same.refl _) du (no_un (by decide) (by decide))
      · cases e
  | tuple ds =>
    cases ds with
    | nil => simp [unF] at e
    | cons d0 ds =>
      obtain ⟨a, vs, rfl, h1, h2, h3⟩ := da.tuple
      simp only [unF] at e
      split at e
      · rename_i hcm
        cases e
        obtain ⟨ha, hl, hd⟩ := comparable_of hcm
        obtain ⟨its, rv, hL, _⟩ := I.tuple (h1.sq (K := X.K))
        rw [Vals.ref1 r]
        obtain ⟨as, hr⟩ := Dp.readsAll I _ _ _ (DaL.dp _ _ hl h3) rv
        refine W.max_tuple_data (I.ok.hd hc) hL (by simpa using hr) ha (by omega) fun i v h' tk bs e1 e2 hk => ?_
        exact best_item I hcm (maxD_mem _ _) h3 rv e1 e2 hk fun u du => q u H (Same.refl _) du (no_un (by decide) (by decide))
      · cases e
  | _ => simp [unF] at e
theorem cu_min (hc : X.calm = true) (hu : X.A.units + 70 < cLine) : CallR X (.builtin "min") (rUn1 X.K .min) := by
  intro pins s σ H xs us Q I r h
  obtain ⟨v, rfl, P, d, y, hp, da, e, q⟩ := h
  cases d with
  | list ds =>
    cases ds with
    | nil => simp [unF] at e
    | cons d0 ds =>
      obtain ⟨a, vs, rfl, h1, h2, h3⟩ := da.list
      simp only [unF] at e
      split at e
      · rename_i hcm
        cases e
        obtain ⟨ha, hl, hd⟩ := comparable_of hcm
        obtain ⟨its, rv, hL, _⟩ := I.list (Rd.sq (K := X.K) h1)
        rw [Vals.ref1 r]
        obtain ⟨as, hr⟩ := Dp.readsAll I _ _ _ (DaL.dp _ _ hl h3) rv
        refine W.min_list_data (I.ok.hd hc) hL.isList (by simpa using hr) ha (by omega) fun i v h' tk bs e1 e2 hk => ?_
        exact best_item I hcm (minD_mem _ _) h3 rv e1 e2 hk fun u du => q u H (Same.refl _) du (no_un (by decide) (by decide))
      · cases e
  | tuple ds =>
    cases ds with
    | nil => simp [unF] at e
    | cons d0 ds =>
      obtain ⟨a, vs, rfl, h1, h2, h3⟩ := da.tuple
      simp only [unF] at e
      split at e
      · rename_i hcm
        cases e
        obtain ⟨ha, hl, hd⟩ := comparable_of hcm
        obtain ⟨its, rv, hL, _⟩ := I.tuple (h1.sq (K := X.K))
        rw [Vals.ref1 r]
        obtain ⟨as, hr⟩ := Dp.readsAll I _ _ _ (DaL.dp _ _ hl h3) rv
        refine W.min_tuple_data (I.ok.hd hc) hL (by simpa using hr) ha (by omega) fun i v h' tk bs e1 e2 hk => ?_
        exact best_item I hcm (minD_mem _ _) h3 rv e1 e2 hk fun u du => q u H (Same.refl _) du (no_un (by decide) (by decide))
      · cases e
  | _ => simp [unF] at e
/-- items by their values -/
theorem each_of {K : W.Frag} {H : Hp} {P : Addr → Prop} : ∀ {vs : List V} {us : List Value} {ds : List D}, Vals vs us → DaL K H P vs ds → W.EachIs (fun u d => ∃ v, RelV v u ∧ Da K H P v d) us ds
  | _, _, _, .nil, .nil => .nil
  | _, _, _, .cons r t, .cons d e => .cons ⟨_, r, d⟩ (each_of t e)
theorem of_each {K : W.Frag} {H : Hp} {P : Addr → Prop} : ∀ {us : List Value} {ds : List D}, W.EachIs (fun u d => ∃ v, RelV v u ∧ Da K H P v d) us ds → ∃ vs, Vals vs us ∧ DaL K H P vs ds
  | _, _, .nil => ⟨[], .nil, .nil⟩
  | _, _, .cons ⟨v, r, d⟩ t => by
    obtain ⟨vs, h1, h2⟩ := of_each t
    exact ⟨v :: vs, .cons r h1, .cons d h2⟩
theorem each_reads {pins : List (Addr × Obj)} {s : Shared} {σ : L2.St} {H : Hp} {P : Addr → Prop} (I : Inv X pins σ H s) : ∀ {vs : List V} {us : List Value} {ds : List D}, PyData.canLayAll0 ds = true → Vals vs us → DaL X.K H P vs ds → W.EachIs (fun u d => ∃ as, Reads s.heap u (id d) as) us ds
  | _, _, _, _, .nil, .nil => .nil
  | _, _, _, l, .cons r t, .cons d e => by
    simp only [PyData.canLayAll0, Bool.and_eq_true] at l
    exact .cons (Dp.reads I _ _ _ (Da.dp _ _ l.1 d) r) (each_reads I l.2 t e)
theorem sortable_of {ds : List D} (h : sortable ds = true) : W.Sortable ds := by
  unfold sortable at h
  rw [Bool.or_eq_true] at h
  rcases h with h | h
  · refine .inl fun d hd => ?_
    have := List.all_eq_true.mp h d hd
    unfold isTupC at this
    split at this
    · exact ⟨_, _, rfl⟩
    · cases this
  · refine .inr fun d hd => ?_
    have := List.all_eq_true.mp h d hd
    refine ⟨fun z => ?_, fun xs z => ?_⟩ <;> (subst z; simp [isTupN] at this)
theorem cu_sorted (hu : X.A.units + 70 < cLine) : CallR X (.builtin "sorted") (rUn1 X.K .sorted) := by
  intro pins s σ H xs us Q I r h
  obtain ⟨v, rfl, P, d, y, hp, da, e, q⟩ := h
  cases d with
  | list ds =>
    obtain ⟨a, vs, rfl, h1, h2, h3⟩ := da.list
    simp only [unF] at e
    split at e
    · rename_i hcm
      cases e
      simp only [Bool.and_eq_true] at hcm
      obtain ⟨⟨ha, hs⟩, hsh⟩ := hcm
      obtain ⟨hl, hd⟩ := shp_all hsh
      obtain ⟨its, rv, hL, _⟩ := I.list (Rd.sq (K := X.K) h1)
      rw [Vals.ref1 r]
      have hal : W.AllAlike (ds.map id) := by rw [List.map_id]; exact fun x hx z hz => alikeL_all ha x hx z hz
      refine W.sorted_data (R := fun u d => ∃ v, RelV v u ∧ Da X.K H P v d) (enc := id) hL.isList (each_of rv h3) (each_reads I hl rv h3) hal (by rw [List.map_id]; exact sortable_of hs) (by rw [← h3.length]; exact h2)
        (fun b hb => by have := depth_mem hb; show X.A.units + 2 + b.depth < cLine; omega) fun out h4 h5 => ?_
      obtain ⟨ws, w1, w2⟩ := of_each h5
      have hlen : ws.length ≤ sizeLine := by rw [w1.length, h4, ← h3.length]; exact h2
      obtain ⟨ep, he'⟩ := PyProof.Rows.sortedAll_at s.heap its out.toArray
      have np : H (s.heap.objs.size + 1) = none := I.hok.fresh (Nat.le_succ _)
      have f : Fresh X.K H (upd H (s.heap.objs.size + 1) (.lst ws)) P (.ref (s.heap.objs.size + 1)) (.list (sortD ds)) := Fresh.new (Same.refl _) np w2 hlen
      exact ⟨.ref _, upd H (s.heap.objs.size + 1) (.lst ws), I.laid (t' := s.toks) (fun _ _ => PyProof.Rows.sortedAll_old) (Nat.le_succ _) ⟨hlen, out, ep, w1, he'⟩, rfl, q _ _ (same_upd np) (f.da hp) fun _ => f⟩
    · cases e
  | _ => simp [unF] at e

/-! ### operators -/
theorem no_bin {r : D} {f : Bin} {A : Prop} (h1 : ∀ ds, r ≠ .list ds) : ∀ ds, r = .list ds → f = .add ∨ f = .mul → A := fun ds z => absurd z (h1 ds)
theorem no_binf {r : D} {f : Bin} {A : Prop} (h1 : f ≠ .add) (h2 : f ≠ .mul) : ∀ ds, r = .list ds → f = .add ∨ f = .mul → A := fun ds z w => (w.elim h1 h2).elim
theorem Inv.rdL {pins : List (Addr × Obj)} {s : Shared} {σ : L2.St} {H : Hp} {l : Addr} {xs : List V} (I : Inv X pins σ H s) (hH : Rd H l (.lst xs)) :
    xs.length ≤ sizeLine ∧ ∃ (its : List Value) (n : Nat), Vals xs its ∧ xs.length = its.length ∧ s.heap.get? l = some { cls := .type "list", data := .seq its.toArray n } := by
  obtain ⟨z, its, n, r, e⟩ := hH.ok I.hok
  exact ⟨z, its, n, r, r.length, e⟩
def rCatL : R2 := fun x y H Q => ∃ l b xs zs, x = .ref l ∧ y = .ref b ∧ Rd H l (.lst xs) ∧ Rd H b (.lst zs) ∧ xs.length + zs.length ≤ sizeLine ∧ ∀ p, H p = none → Q (.ref p) (upd H p (.lst (xs ++ zs)))
theorem op_catL : OpR X (binaryOp .Add) rCatL := by
  intro pins s σ H x y v u Q I rx ry h
  obtain ⟨l, b, xs, zs, rfl, rfl, hH, hB, hz, q⟩ := h
  cases rx
  cases ry
  obtain ⟨z, its, n, r, hl, e⟩ := Inv.rdL I hH
  obtain ⟨z2, its2, n2, r2, hl2, e2⟩ := Inv.rdL I hB
  refine PySem.P.add_list e e2 ?_ (by rw [List.size_toArray, List.size_toArray]; omega)
  have ea : its.toArray ++ its2.toArray = (its ++ its2).toArray := by simp
  rw [ea]
  exact ⟨.ref _, _, I.lnew (t' := s.toks) (r.append r2) (by rw [List.length_append]; omega), rfl, q _ I.fresh⟩
def rRepL : R2 := fun x y H Q => ∃ l k xs, x = .ref l ∧ y = .int k ∧ Rd H l (.lst xs) ∧ -(2 ^ 63) ≤ k ∧ k < 2 ^ 63 ∧ xs.length * k.toNat ≤ sizeLine ∧
  ∀ p, H p = none → Q (.ref p) (upd H p (.lst (List.replicate k.toNat xs).flatten))
theorem op_repL : OpR X (binaryOp .Mult) rRepL := by
  intro pins s σ H x y v u Q I rx ry h
  obtain ⟨l, k, xs, rfl, rfl, hH, h1, h2, hz, q⟩ := h
  cases rx
  obtain ⟨t, rfl⟩ := ry
  obtain ⟨z, its, n, r, hl, e⟩ := Inv.rdL I hH
  have hlen : its.toArray.size * k.toNat ≤ sizeLine := by rw [List.size_toArray, ← hl]; exact hz
  have hcap : ¬ its.toArray.size * k.toNat > (2 ^ 63 - 1) / 8 := by
    have : (sizeLine : Nat) ≤ (2 ^ 63 - 1) / 8 := by decide
    omega
  have hfit : ¬ (!Builtin.List.listFitsIndex k) = true := by
    rw [fitsIndex_both h1 h2]
    exact Bool.false_ne_true
  have hlong : ¬ Builtin.List.listTooLong (its.toArray.size * k.toNat) = true := by
    rw [notLongL hlen]
    exact Bool.false_ne_true
  have hnew : List.foldl (fun x1 x2 => x1 ++ x2) #[] (List.replicate (if its.toArray.isEmpty = true then 0 else k.toNat) its.toArray) = (List.replicate k.toNat its).flatten.toArray := by
    have f0 : ∀ m : Nat, List.foldl (fun x1 x2 => x1 ++ x2) #[] (List.replicate m its.toArray) = (List.replicate m its).flatten.toArray := fun m => by
      have := foldl_rep its m []
      rw [List.nil_append] at this
      exact this
    rw [f0]
    cases its with
    | nil => simp
    | cons a r' => rw [if_neg (by simp)]
  refine wpAny_binaryOp_repeat_ref (T := "list") (U := "int") (by decide) ⟨_, e, rfl⟩ (fun s' => typeIs_int s' k t) noFill_list_mul F.fills_int_mul F.slot_int_rmul repeat_list F.slot_int_index.lookup
    (call_meets F.slot_int_rmul (typeIs_int s k t) F.entry_int_rmul (F.args_int_rmul_2 _ _) (int___rmul___int_list k t l its.toArray n)
      ⟨e, rfl, ⟨_, e, rfl⟩, call_meets F.slot_list_mul ⟨_, e, rfl⟩ F.entry_list_mul (F.args_list_mul_2 _ _) (AutoListH.list___mul___list_int_3 l its.toArray n k t hfit hcap hlong) ⟨e, ?_⟩⟩)
  rw [hnew]
  exact ⟨.ref _, _, I.lnew (t' := s.toks) (r.rep k.toNat) (by rw [PyProof.Rows.lm_len_rep_flat, Nat.mul_comm]; exact hz), rfl, q _ I.fresh⟩
open PySem.MeetsSeq PySem.MeetsSeq2 PySem.MeetsSeq3 PySem.AutoSeq1 in
theorem tuple_mul1 (l : Addr) (items : Array Value) (n : Nat) (dd : Option Addr) (sl : Array (Option Value)) (u : Tok) :
    Meets (Builtin.«tuple.__mul__» ⟨[.ref l, .int 1 u], []⟩) (fun _ R s => s.heap.get? l = some { cls := .type "tuple", dict := dd, data := .seq items n, slots := sl } ∧
      R (.ok (.ret (Value.ref l))) s) :=
  .of_wp fun prog w A R s h => by
    obtain ⟨hp, g, d, tk, os⟩ := s
    obtain ⟨hl, h⟩ := h
    have f1 := AutoSeq1.idx_int
    have c1 : (items.isEmpty || (1 : Int) == 1) = true := by simp
    wp_walk using wpAny_loadPart' hl
    repeat (first
      | (refine wpAny_ite_true (decide_eq_true (by rw [c1])) ?_; wp_walk using wpAny_loadPart' hl)
      | (refine wpAny_ite_false (decide_eq_false (by decide)) ?_; wp_walk using wpAny_loadPart' hl))
    exact ⟨_, rfl, h⟩
theorem op_repT1 : OpR X (binaryOp .Mult) (fun x y H Q => ∃ l xs, x = .ref l ∧ y = .int 1 ∧ SqT X.K H l xs ∧ Q (.ref l) H) := by
  intro pins s σ H x y v u Q I rx ry h
  obtain ⟨l, xs, rfl, rfl, hT, q⟩ := h
  cases rx
  obtain ⟨t, rfl⟩ := ry
  obtain ⟨its, r, ⟨⟨cls, dd, data, sl⟩, ho, hc, n, hd⟩, hs⟩ := I.tuple hT
  simp only at hc hd
  subst hc hd
  refine wpAny_binaryOp_repeat_ref (T := "tuple") (U := "int") (by decide) ⟨_, ho, rfl⟩ (fun s' => typeIs_int s' 1 t) noFill_tuple_mul F.fills_int_mul F.slot_int_rmul repeat_tuple F.slot_int_index.lookup
    (call_meets F.slot_int_rmul (typeIs_int s 1 t) F.entry_int_rmul (F.args_int_rmul_2 _ _) (int_rmul_tuple 1 t l its.toArray n dd sl)
      ⟨ho, rfl, ⟨_, ho, rfl⟩, call_meets F.slot_tuple_mul ⟨_, ho, rfl⟩ F.entry_tuple_mul (F.args_tuple_mul_2 _ _) (tuple_mul1 l its.toArray n dd sl t) ⟨ho, ?_⟩⟩)
  exact ⟨.ref l, H, I, rfl, q⟩
def rCatF (K : W.Frag) : R2 := fun x y H Q => ∃ a b xs ys, x = .ref a ∧ y = .ref b ∧ SqT K H a xs ∧ SqT K H b ys ∧ xs.length + ys.length ≤ sizeLine ∧
  (xs = [] → Q (.ref b) H) ∧ (xs ≠ [] → ys = [] → Q (.ref a) H) ∧ (xs ≠ [] → ys ≠ [] → ∀ p o, H p = none → o.dict = none → Q (.ref p) (upd H p (.frz o (.tup (xs ++ ys)))))
theorem op_catF : OpR X (binaryOp .Add) (rCatF X.K) := by
  intro pins s σ H x y v u Q I rx ry h
  obtain ⟨a, b, xs, ys, rfl, rfl, ha, hb, hz, q0, q1, q2⟩ := h
  cases rx
  cases ry
  obtain ⟨its, r1, p1, _⟩ := I.tuple ha
  obtain ⟨its2, r2, p2, _⟩ := I.tuple hb
  by_cases hx : xs = []
  · subst hx
    cases r1
    exact cat_tup0 p1 p2 ⟨.ref b, H, I, rfl, q0 rfl⟩
  · have hv : its ≠ [] := fun e => hx (by
      subst e
      exact List.eq_nil_of_length_eq_zero (by rw [r1.length]; rfl))
    refine HT.cat_tup p1 p2 hv (fun e => ?_) (fun e => ?_) (by rw [← r1.length, ← r2.length]; exact hz)
    · subst e
      exact ⟨.ref a, H, I, rfl, q1 hx (List.eq_nil_of_length_eq_zero (by rw [r2.length]; rfl))⟩
    · refine ⟨.ref _, _, Inv.tnew I (t' := s.toks) (r1.append r2) (by rw [List.length_append]; exact hz), rfl, q2 hx (fun z => e ?_) _ _ (I.hok.fresh (Nat.le_refl _)) rfl⟩
      subst z
      exact List.eq_nil_of_length_eq_zero (by rw [← r2.length]; rfl)
def rRepF (K : W.Frag) : R2 := fun x y H Q => ∃ l k xs, x = .ref l ∧ y = .int k ∧ SqT K H l xs ∧ xs ≠ [] ∧ 2 ≤ k ∧ k ≤ 1000 ∧ xs.length ≤ 1000 ∧ ∀ p o, H p = none → o.dict = none → Q (.ref p) (upd H p (.frz o (.tup (List.replicate k.toNat xs).flatten)))
theorem op_repF : OpR X (binaryOp .Mult) (rRepF X.K) := by
  intro pins s σ H x y v u Q I rx ry h
  obtain ⟨l, k, xs, rfl, rfl, hT, hne, h1, h2, hz, q⟩ := h
  cases rx
  obtain ⟨t, rfl⟩ := ry
  obtain ⟨its, r, ⟨⟨cls, dd, data, sl⟩, ho, hc, n, hd⟩, hs⟩ := I.tuple hT
  simp only at hc hd
  subst hc hd
  have hle : its.length = xs.length := r.length.symm
  have hn : its ≠ [] := fun e => hne (by
    rw [e] at hle
    exact List.eq_nil_of_length_eq_zero hle.symm)
  have hi : its.toArray.isEmpty = false := by
    cases its with
    | nil => exact absurd rfl hn
    | cons a b => rfl
  have hsz0 : its.toArray.size = xs.length := by rw [List.size_toArray, hle]
  have hm : ((its.toArray.size : Nat) : Int) * k ≤ 1000000 := by
    rw [hsz0]
    have a1 : ((xs.length : Nat) : Int) * k ≤ 1000 * k := Int.mul_le_mul_of_nonneg_right (by omega) (by omega)
    omega
  have flen : (List.replicate k.toNat its).flatten.length ≤ sizeLine := by
    rw [PyProof.Rows.lm_len_rep_flat, hle, sizeLine_eq]
    have a1 : k.toNat * xs.length ≤ 1000 * 1000 := Nat.mul_le_mul (by omega) hz
    omega
  have c0 : (decide (k < -(2 ^ 63)) || decide (k ≥ 2 ^ 63)) = false := by
    rw [decide_eq_false (by omega), decide_eq_false (by omega)] <;> rfl
  have c1 : (its.toArray.isEmpty || k == 1) = false := by
    rw [hi, Bool.false_or]
    exact beq_eq_false_iff_ne.mpr (by omega)
  have c2 : (decide (k ≤ 0) || its.toArray.isEmpty) = false := by
    rw [hi, Bool.or_false]
    exact decide_eq_false (by omega)
  have c4 : Builtin.Tuple.tupleTooMany (((its.toArray.size : Nat) : Int) * k) = false := by
    unfold Builtin.Tuple.tupleTooMany
    rw [sizeLine_eq]
    exact decide_eq_false (by omega)
  refine wpAny_binaryOp_repeat_ref (T := "tuple") (U := "int") (by decide) ⟨_, ho, rfl⟩ (fun s' => typeIs_int s' k t) noFill_tuple_mul F.fills_int_mul F.slot_int_rmul repeat_tuple F.slot_int_index.lookup
    (call_meets F.slot_int_rmul (typeIs_int s k t) F.entry_int_rmul (F.args_int_rmul_2 _ _) (int_rmul_tuple k t l its.toArray n dd sl)
      ⟨ho, rfl, ⟨_, ho, rfl⟩, call_meets F.slot_tuple_mul ⟨_, ho, rfl⟩ F.entry_tuple_mul (F.args_tuple_mul_2 _ _) (tuple_mulW l its.toArray n dd sl k t c0 c1 c2 (by omega) c4 (by rw [size_rep, List.size_toArray]; exact flen)) ⟨ho, ?_⟩⟩)
  rw [size_rep]
  exact ⟨.ref s.heap.objs.size, _, Inv.tnew I (t' := s.toks) (r.rep k.toNat) (by rw [PyProof.Rows.lm_len_rep_flat, sizeLine_eq]; have a1 : k.toNat * xs.length ≤ 1000 * 1000 := Nat.mul_le_mul (by omega) hz; omega), rfl, q _ _ (I.hok.fresh (Nat.le_refl _)) rfl⟩
theorem mulOk_cmul {i j : Int} (h : mulOk i j = true) : CMul i j := by
  unfold mulOk at h
  rw [Bool.or_eq_true] at h
  rcases h with h | h
  · have := of_decide_eq_true h
    exact .inl (by omega)
  · have := of_decide_eq_true h
    exact .inr (by omega)
theorem ob_add : OpR X (binaryOp .Add) (rBin X.K .add) := by
  intro pins s σ H x y v u Q I rx ry h
  obtain ⟨P, a, b, r, hp, da, db, e, q⟩ := h
  cases a with
  | int i =>
    cases b with
    | int j =>
      cases da.int
      cases db.int
      cases e
      exact op_add pins s σ H _ _ v u Q I rx ry ⟨i, j, rfl, rfl, q _ _ (Same.refl _) (.int _) (no_bin (by intro _ z; cases z))⟩
    | _ => simp [binF] at e
  | str i =>
    cases b with
    | str j =>
      cases da.str
      cases db.str
      simp only [binF] at e
      split at e
      · rename_i hl
        cases e
        exact op_add_str pins s σ H _ _ v u Q I rx ry ⟨i, j, rfl, rfl, hl, q _ _ (Same.refl _) (.str _) (no_bin (by intro _ z; cases z))⟩
      · cases e
    | _ => simp [binF] at e
  | list xs =>
    cases b with
    | list ys =>
      obtain ⟨a1, v1, rfl, h1, h2, h3⟩ := da.list
      obtain ⟨a2, v2, rfl, k1, k2, k3⟩ := db.list
      simp only [binF] at e
      split at e
      · rename_i hl
        cases e
        have hz : v1.length + v2.length ≤ sizeLine := by
          have := of_decide_eq_true hl
          rw [List.length_append, ← h3.length, ← k3.length] at this
          exact this
        refine op_catL pins s σ H _ _ v u Q I rx ry ⟨a1, a2, v1, v2, rfl, rfl, h1, k1, hz, fun p np => ?_⟩
        have f : Fresh X.K H (upd H p (.lst (v1 ++ v2))) P (.ref p) (.list (xs ++ ys)) := Fresh.new (Same.refl _) np (h3.append k3) (by rw [List.length_append]; exact hz)
        exact q _ _ (same_upd np) (f.da hp) fun _ _ _ => f
      · cases e
    | _ => simp [binF] at e
  | tuple xs =>
    cases b with
    | tuple ys =>
      obtain ⟨a1, v1, rfl, h1, h2, h3⟩ := da.tuple
      obtain ⟨a2, v2, rfl, k1, k2, k3⟩ := db.tuple
      simp only [binF] at e
      split at e
      · rename_i hl
        cases e
        have hz : v1.length + v2.length ≤ sizeLine := by
          have := of_decide_eq_true hl
          rw [List.length_append, ← h3.length, ← k3.length] at this
          exact this
        refine op_catF pins s σ H _ _ v u Q I rx ry ⟨a1, a2, v1, v2, rfl, rfl, h1.sq, k1.sq, hz, fun z => ?_, fun z w => ?_, fun z w p o np ho => ?_⟩
        · subst z
          cases xs with
          | nil => exact q _ _ (Same.refl _) (.tup k1 k3) (no_bin (by intro _ z; cases z))
          | cons _ _ => cases h3
        · subst w
          cases ys with
          | nil => exact q _ _ (Same.refl _) (by rw [List.append_nil]; exact .tup h1 h3) (no_bin (by intro _ z; cases z))
          | cons _ _ => cases k3
        · exact q _ _ (same_upd np) (Da.new_tup np ho (h3.append k3) (by rw [List.length_append]; exact hz)) (no_bin (by intro _ z; cases z))
      · cases e
    | _ => simp [binF] at e
  | _ => simp [binF] at e
theorem ob_sub : OpR X (binaryOp .Sub) (rBin X.K .sub) := by
  intro pins s σ H x y v u Q I rx ry h
  obtain ⟨P, a, b, r, hp, da, db, e, q⟩ := h
  cases a with
  | int i =>
    cases b with
    | int j =>
      cases da.int
      cases db.int
      cases e
      exact op_sub pins s σ H _ _ v u Q I rx ry ⟨i, j, rfl, rfl, q _ _ (Same.refl _) (.int _) (no_bin (by intro _ z; cases z))⟩
    | _ => simp [binF] at e
  | _ => simp [binF] at e
theorem ob_mul : OpR X (binaryOp .Mult) (rBin X.K .mul) := by
  intro pins s σ H x y v u Q I rx ry h
  obtain ⟨P, a, b, r, hp, da, db, e, q⟩ := h
  cases a with
  | int i =>
    cases b with
    | int j =>
      cases da.int
      cases db.int
      simp only [binF] at e
      split at e
      · rename_i hm
        cases e
        exact op_mul pins s σ H _ _ v u Q I rx ry ⟨i, j, rfl, rfl, mulOk_cmul hm, q _ _ (Same.refl _) (.int _) (no_bin (by intro _ z; cases z))⟩
      · cases e
    | _ => simp [binF] at e
  | list xs =>
    cases b with
    | int k =>
      obtain ⟨a1, v1, rfl, h1, h2, h3⟩ := da.list
      cases db.int
      simp only [binF] at e
      split at e
      · rename_i hm
        cases e
        obtain ⟨m1, m2, m3⟩ := hm
        rw [← h3.length] at m3
        refine op_repL pins s σ H _ _ v u Q I rx ry ⟨a1, k, v1, rfl, rfl, h1, m1, m2, m3, fun p np => ?_⟩
        have f : Fresh X.K H (upd H p (.lst (List.replicate k.toNat v1).flatten)) P (.ref p) (.list (List.replicate k.toNat xs).flatten) :=
          Fresh.new (Same.refl _) np (h3.rep _) (by rw [PyProof.Rows.lm_len_rep_flat, Nat.mul_comm]; exact m3)
        exact q _ _ (same_upd np) (f.da hp) fun _ _ _ => f
      · cases e
    | _ => simp [binF] at e
  | tuple xs =>
    cases b with
    | int k =>
      obtain ⟨a1, v1, rfl, h1, h2, h3⟩ := da.tuple
      cases db.int
      simp only [binF] at e
      split at e
      · rename_i hm
        cases e
        obtain ⟨m1, m2, m3, m4⟩ := hm
        rw [← h3.length] at m3 m4
        by_cases k1 : k = 1
        · subst k1
          refine op_repT1 pins s σ H _ _ v u Q I rx ry ⟨a1, v1, rfl, rfl, h1.sq, ?_⟩
          refine q _ _ (Same.refl _) ?_ (no_bin (by intro _ z; cases z))
          show Da _ _ _ _ (.tuple (xs ++ []))
          rw [List.append_nil]
          exact .tup h1 h3
        · refine op_repF pins s σ H _ _ v u Q I rx ry ⟨a1, k, v1, rfl, rfl, h1.sq, fun z => by subst z; simp at m3, by omega, m2, m4, fun p o np ho => ?_⟩
          have a2 : k.toNat * v1.length ≤ 1000 * 1000 := Nat.mul_le_mul (by omega) m4
          exact q _ _ (same_upd np) (Da.new_tup np ho (h3.rep _) (by rw [PyProof.Rows.lm_len_rep_flat, sizeLine_eq]; omega)) (no_bin (by intro _ z; cases z))
      · cases e
    | _ => simp [binF] at e
  | _ => simp [binF] at e
theorem ob_mod : OpR X (binaryOp .Mod) (rBin X.K .mod) := by
  intro pins s σ H x y v u Q I rx ry h
  obtain ⟨P, a, b, r, hp, da, db, e, q⟩ := h
  cases a with
  | int i =>
    cases b with
    | int j =>
      cases da.int
      cases db.int
      simp only [binF] at e
      split at e
      · rename_i hm
        cases e
        exact op_mod pins s σ H _ _ v u Q I rx ry ⟨i, j, rfl, rfl, hm, q _ _ (Same.refl _) (.int _) (no_bin (by intro _ z; cases z))⟩
      · cases e
    | _ => simp [binF] at e
  | _ => simp [binF] at e
theorem ob_fdiv : OpR X (binaryOp .FloorDiv) (rBin X.K .fdiv) := by
  intro pins s σ H x y v u Q I rx ry h
  obtain ⟨P, a, b, r, hp, da, db, e, q⟩ := h
  cases a with
  | int i =>
    cases b with
    | int j =>
      cases da.int
      cases db.int
      simp only [binF] at e
      split at e
      · rename_i hm
        cases e
        exact op_fdiv pins s σ H _ _ v u Q I rx ry ⟨i, j, rfl, rfl, hm, q _ _ (Same.refl _) (.int _) (no_bin (by intro _ z; cases z))⟩
      · cases e
    | _ => simp [binF] at e
  | _ => simp [binF] at e
theorem ob_pow : OpR X (binaryOp .Pow) (rBin X.K .pow) := by
  intro pins s σ H x y v u Q I rx ry h
  obtain ⟨P, a, b, r, hp, da, db, e, q⟩ := h
  cases a with
  | int i =>
    cases b with
    | int j =>
      cases da.int
      cases db.int
      simp only [binF] at e
      split at e
      · rename_i hm
        cases e
        exact op_pow pins s σ H _ _ v u Q I rx ry ⟨i, j, rfl, rfl, hm, q _ _ (Same.refl _) (.int _) (no_bin (by intro _ z; cases z))⟩
      · cases e
    | _ => simp [binF] at e
  | _ => simp [binF] at e
theorem ob_shl : OpR X (binaryOp .LShift) (rBin X.K .shl) := by
  intro pins s σ H x y v u Q I rx ry h
  obtain ⟨P, a, b, r, hp, da, db, e, q⟩ := h
  cases a with
  | int i =>
    cases b with
    | int j =>
      cases da.int
      cases db.int
      simp only [binF] at e
      split at e
      · rename_i hm
        cases e
        exact op_shl pins s σ H _ _ v u Q I rx ry ⟨i, j, rfl, rfl, hm, q _ _ (Same.refl _) (.int _) (no_bin (by intro _ z; cases z))⟩
      · cases e
    | _ => simp [binF] at e
  | _ => simp [binF] at e
theorem ob_eq (hu : X.A.units + 70 < cLine) : OpR X (compareOp .Eq) (rBin X.K .eq) := by
  intro pins s σ H x y v u Q I rx ry h
  obtain ⟨P, a, b, r, hp, da, db, e, q⟩ := h
  simp only [binF] at e
  split at e
  · rename_i hs
    cases e
    rw [Bool.and_eq_true] at hs
    exact op_eqD (by omega) pins s σ H x y v u Q I rx ry ⟨a, b, da.dp (SeqAt.canLay_of_shaped hs.1), db.dp (SeqAt.canLay_of_shaped hs.2), hs.1, hs.2, q _ _ (Same.refl _) (.bl _) (no_bin (by intro _ z; cases z))⟩
  · cases e
theorem ob_ne (hu : X.A.units + 70 < cLine) : OpR X (compareOp .NotEq) (rBin X.K .ne) := by
  intro pins s σ H x y v u Q I rx ry h
  obtain ⟨P, a, b, r, hp, da, db, e, q⟩ := h
  simp only [binF] at e
  split at e
  · rename_i hs
    cases e
    rw [Bool.and_eq_true] at hs
    exact op_neD (by omega) pins s σ H x y v u Q I rx ry ⟨a, b, da.dp (SeqAt.canLay_of_shaped hs.1), db.dp (SeqAt.canLay_of_shaped hs.2), hs.1, hs.2, q _ _ (Same.refl _) (.bl _) (no_bin (by intro _ z; cases z))⟩
  · cases e
theorem ob_lt (hu : X.A.units + 70 < cLine) : OpR X (compareOp .Lt) (rBin X.K .lt) := by
  intro pins s σ H x y v u Q I rx ry h
  obtain ⟨P, a, b, r, hp, da, db, e, q⟩ := h
  cases a with
  | int i =>
    cases b with
    | int j =>
      cases da.int
      cases db.int
      cases e
      exact op_lt pins s σ H _ _ v u Q I rx ry ⟨i, j, rfl, rfl, q _ _ (Same.refl _) (.bl _) (no_bin (by intro _ z; cases z))⟩
    | _ => simp [binF] at e
  | str i =>
    cases b with
    | str j =>
      cases da.str
      cases db.str
      cases e
      exact op_lt_str pins s σ H _ _ v u Q I rx ry ⟨i, j, rfl, rfl, q _ _ (Same.refl _) (.bl _) (no_bin (by intro _ z; cases z))⟩
    | _ => simp [binF] at e
  | tuple xs =>
    cases b with
    | tuple ys =>
      simp only [binF] at e
      split at e
      · rename_i hs
        cases e
        rw [Bool.and_eq_true, Bool.and_eq_true] at hs
        obtain ⟨⟨h1, h2⟩, h3⟩ := hs
        obtain ⟨as, r1⟩ := Dp.reads I _ x v (da.dp (SeqAt.canLay_of_shaped h2)) rx
        obtain ⟨bs, r2⟩ := Dp.reads I _ y u (db.dp (SeqAt.canLay_of_shaped h3)) ry
        have hd := SeqAt.depth_of_shaped h2
        have hu' : X.A.units + min (PyData.tuple xs).depth (PyData.tuple ys).depth < cLine := by
          have := Nat.min_le_left (PyData.tuple xs).depth (PyData.tuple ys).depth
          omega
        exact W.rcLt_alike _ _ X.A s v u as bs r1 r2 h1 (by intro z; cases z) hu' X.prog X.w X.xe _ ⟨.bl _, H, I, rfl, q _ _ (Same.refl _) (.bl _) (no_bin (by intro _ z; cases z))⟩
      · cases e
    | _ => simp [binF] at e
  | _ => simp [binF] at e
theorem ob_gt : OpR X (compareOp .Gt) (rBin X.K .gt) := by
  intro pins s σ H x y v u Q I rx ry h
  obtain ⟨P, a, b, r, hp, da, db, e, q⟩ := h
  cases a with
  | int i =>
    cases b with
    | int j =>
      cases da.int
      cases db.int
      cases e
      exact op_gt pins s σ H _ _ v u Q I rx ry ⟨i, j, rfl, rfl, q _ _ (Same.refl _) (.bl _) (no_bin (by intro _ z; cases z))⟩
    | _ => simp [binF] at e
  | str i =>
    cases b with
    | str j =>
      cases da.str
      cases db.str
      cases e
      exact op_gt_str pins s σ H _ _ v u Q I rx ry ⟨i, j, rfl, rfl, q _ _ (Same.refl _) (.bl _) (no_bin (by intro _ z; cases z))⟩
    | _ => simp [binF] at e
  | _ => simp [binF] at e
theorem ob_le : OpR X (compareOp .LtE) (rBin X.K .le) := by
  intro pins s σ H x y v u Q I rx ry h
  obtain ⟨P, a, b, r, hp, da, db, e, q⟩ := h
  cases a with
  | int i =>
    cases b with
    | int j =>
      cases da.int
      cases db.int
      cases e
      exact op_le pins s σ H _ _ v u Q I rx ry ⟨i, j, rfl, rfl, q _ _ (Same.refl _) (.bl _) (no_bin (by intro _ z; cases z))⟩
    | _ => simp [binF] at e
  | _ => simp [binF] at e
theorem ob_ge : OpR X (compareOp .GtE) (rBin X.K .ge) := by
  intro pins s σ H x y v u Q I rx ry h
  obtain ⟨P, a, b, r, hp, da, db, e, q⟩ := h
  cases a with
  | int i =>
    cases b with
    | int j =>
      cases da.int
      cases db.int
      cases e
      exact op_ge pins s σ H _ _ v u Q I rx ry ⟨i, j, rfl, rfl, q _ _ (Same.refl _) (.bl _) (no_bin (by intro _ z; cases z))⟩
    | _ => simp [binF] at e
  | _ => simp [binF] at e
theorem sign_of {s : Str} {c : Nat} (h : s.cps.toList = [c]) : s = ⟨#[c]⟩ := by
  obtain ⟨cps⟩ := s
  have : cps = [c].toArray := by rw [← h]
  rw [this]
theorem ob_mem (hu : X.A.units + 70 < cLine) : OpR X (compareOp .In) (rBin X.K .mem) := by
  intro pins s σ H x y v u Q I rx ry h
  obtain ⟨P, a, b, r, hp, da, db, e, q⟩ := h
  simp only [binF, Option.map_eq_some_iff] at e
  obtain ⟨k, e, rfl⟩ := e
  have qk := q (.bl k) H (Same.refl _) (.bl _) (no_bin (by intro _ z; cases z))
  unfold memD at e
  cases b with
  | list ds =>
    simp only at e
    split at e
    · rename_i hs
      cases e
      rw [Bool.and_eq_true] at hs
      obtain ⟨as, r1⟩ := Dp.reads I a x v (da.dp (SeqAt.canLay_of_shaped hs.1)) rx
      obtain ⟨bs, r2⟩ := Dp.reads I _ y u (db.dp (SeqAt.canLay_of_shaped hs.2)) ry
      exact SeqAt.in_list_reads r2 r1 (SeqAt.canLay_of_shaped hs.2) (SeqAt.canLay_of_shaped hs.1) (room_in_shaped hs.1 (by omega)) ⟨.bl _, H, I, rfl, qk⟩
    · cases e
  | tuple ds =>
    simp only at e
    split at e
    · rename_i hs
      cases e
      rw [Bool.and_eq_true] at hs
      obtain ⟨as, r1⟩ := Dp.reads I a x v (da.dp (SeqAt.canLay_of_shaped hs.1)) rx
      obtain ⟨bs, r2⟩ := Dp.reads I _ y u (db.dp (SeqAt.canLay_of_shaped hs.2)) ry
      exact SeqAt.in_tuple_reads r2 r1 (SeqAt.canLay_of_shaped hs.2) (SeqAt.canLay_of_shaped hs.1) (room_in_shaped hs.1 (by omega)) ⟨.bl _, H, I, rfl, qk⟩
    · cases e
  | str z =>
    cases a with
    | str c =>
      simp only at e
      split at e
      · rename_i c0 ec
        cases e
        cases da.str
        cases db.str
        exact op_in_sign pins s σ H _ _ v u Q I rx ry ⟨c0, z, by rw [sign_of ec], rfl, qk⟩
      · cases e
    | _ => simp at e
  | _ => simp at e
theorem ob_nmem (hu : X.A.units + 70 < cLine) : OpR X (compareOp .NotIn) (rBin X.K .nmem) := by
  intro pins s σ H x y v u Q I rx ry h
  obtain ⟨P, a, b, r, hp, da, db, e, q⟩ := h
  simp only [binF, Option.map_eq_some_iff] at e
  obtain ⟨k, e, rfl⟩ := e
  have qk := q (.bl (!k)) H (Same.refl _) (.bl _) (no_bin (by intro _ z; cases z))
  unfold memD at e
  cases b with
  | list ds =>
    simp only at e
    split at e
    · rename_i hs
      cases e
      rw [Bool.and_eq_true] at hs
      obtain ⟨as, r1⟩ := Dp.reads I a x v (da.dp (SeqAt.canLay_of_shaped hs.1)) rx
      obtain ⟨bs, r2⟩ := Dp.reads I _ y u (db.dp (SeqAt.canLay_of_shaped hs.2)) ry
      exact SeqAt.notIn_list_reads r2 r1 (SeqAt.canLay_of_shaped hs.2) (SeqAt.canLay_of_shaped hs.1) (room_in_shaped hs.1 (by omega)) ⟨.bl _, H, I, rfl, qk⟩
    · cases e
  | tuple ds =>
    simp only at e
    split at e
    · rename_i hs
      cases e
      rw [Bool.and_eq_true] at hs
      obtain ⟨as, r1⟩ := Dp.reads I a x v (da.dp (SeqAt.canLay_of_shaped hs.1)) rx
      obtain ⟨bs, r2⟩ := Dp.reads I _ y u (db.dp (SeqAt.canLay_of_shaped hs.2)) ry
      exact SeqAt.notIn_tuple_reads r2 r1 (SeqAt.canLay_of_shaped hs.2) (SeqAt.canLay_of_shaped hs.1) (room_in_shaped hs.1 (by omega)) ⟨.bl _, H, I, rfl, qk⟩
    · cases e
  | str z =>
    cases a with
    | str c =>
      simp only at e
      split at e
      · rename_i c0 ec
        cases e
        cases da.str
        cases db.str
        exact op_notIn_sign pins s σ H _ _ v u Q I rx ry ⟨c0, z, by rw [sign_of ec], rfl, qk⟩
      · cases e
    | _ => simp at e
  | _ => simp at e
theorem cu_max2 (hc : X.calm = true) : CallR X (.builtin "max") (fun xs H Q => ∃ v w, xs = [v, w] ∧ rBin X.K .max2 v w H Q) := by
  intro pins s σ H xs us Q I rr h
  obtain ⟨v, w', rfl, P, a, b, r, hp, da, db, e, q⟩ := h
  cases a with
  | int i =>
    cases b with
    | int j =>
      cases da.int
      cases db.int
      cases e
      exact call_max2 hc pins s σ H _ us Q I rr ⟨i, j, rfl, q _ _ (Same.refl _) (.int _) (no_bin (by intro _ z; cases z))⟩
    | _ => simp [binF] at e
  | _ => simp [binF] at e
theorem cu_min2 (hc : X.calm = true) : CallR X (.builtin "min") (fun xs H Q => ∃ v w, xs = [v, w] ∧ rBin X.K .min2 v w H Q) := by
  intro pins s σ H xs us Q I rr h
  obtain ⟨v, w', rfl, P, a, b, r, hp, da, db, e, q⟩ := h
  cases a with
  | int i =>
    cases b with
    | int j =>
      cases da.int
      cases db.int
      cases e
      exact call_min2 hc pins s σ H _ us Q I rr ⟨i, j, rfl, q _ _ (Same.refl _) (.int _) (no_bin (by intro _ z; cases z))⟩
    | _ => simp [binF] at e
  | _ => simp [binF] at e
theorem atI_da {K : W.Frag} {H : Hp} {P : Addr → Prop} {vs : List V} {ds : List D} {i : Int} {d : D} (h : DaL K H P vs ds) (e : atI ds i = some d) : ∃ v, atI vs i = some v ∧ Da K H P v d := by
  unfold atI at e ⊢
  rw [h.length]
  cases q : ixN ds.length i with
  | none => rw [q] at e; cases e
  | some j =>
    rw [q] at e
    exact h.get e
theorem ob_idx : IxR X (rBin X.K .idx) := by
  intro value slice pins s σ H x y v u Q I rx ry h hsub
  obtain ⟨P, a, b, r, hp, da, db, e, q⟩ := h
  cases b with
  | int i =>
    cases db.int
    cases a with
    | list ds =>
      obtain ⟨a1, v1, rfl, h1, h2, h3⟩ := da.list
      simp only [binF] at e
      obtain ⟨z, hz, dz⟩ := atI_da h3 e
      exact ix_list value slice pins s σ H _ _ v u Q I rx ry ⟨a1, v1, i, z, rfl, rfl, Rd.sq h1, hz, q _ _ (Same.refl _) dz (no_binf (by decide) (by decide))⟩ hsub
    | tuple ds =>
      obtain ⟨a1, v1, rfl, h1, h2, h3⟩ := da.tuple
      simp only [binF] at e
      obtain ⟨z, hz, dz⟩ := atI_da h3 e
      exact ix_tup value slice pins s σ H _ _ v u Q I rx ry ⟨a1, v1, i, z, rfl, rfl, h1.sq, hz, q _ _ (Same.refl _) dz (no_binf (by decide) (by decide))⟩ hsub
    | dict kvs =>
      obtain ⟨a1, ns, rfl, rfl, h1⟩ := da.scr
      simp only [binF, Option.map_eq_some_iff] at e
      obtain ⟨kv, e, rfl⟩ := e
      have hz : ∃ n : Int, kv = (.int n, .none) ∧ atI (ns.map V.int) i = some (.int n) := by
        unfold atI at e ⊢
        rw [List.length_map] at e ⊢
        cases q : ixN ns.length i with
        | none => rw [q] at e; cases e
        | some j =>
          rw [q] at e
          simp only [Option.bind_some, List.getElem?_map, Option.map_eq_some_iff] at e
          obtain ⟨n, hn, rfl⟩ := e
          exact ⟨n, rfl, by simp [hn]⟩
      obtain ⟨n, rfl, hz⟩ := hz
      exact ix_list value slice pins s σ H _ _ v u Q I rx ry ⟨a1, _, i, _, rfl, rfl, h1.sq, hz, q _ _ (Same.refl _) (.int n) (no_binf (by decide) (by decide))⟩ hsub
    | _ => simp [binF] at e
  | _ => cases a <;> simp [binF] at e
/-! ### methods of what is told: x.index(y) -/
theorem indexD_spec {d : D} : ∀ {ds : List D} {j : Nat}, indexD d ds = some j → ∃ z, ds[j]? = some z ∧ PyData.eqv z d = true ∧ ∀ (m : Nat) (z' : D), m < j → ds[m]? = some z' → PyData.eqv z' d = false
  | [], j, e => by simp [indexD] at e
  | x :: r, j, e => by
    unfold indexD at e
    cases h : PyData.eqv x d with
    | true =>
      rw [h, if_pos rfl] at e
      cases e
      exact ⟨x, rfl, h, fun m z' hm => absurd hm (Nat.not_lt_zero _)⟩
    | false =>
      rw [h, if_neg (by decide), Option.map_eq_some_iff] at e
      obtain ⟨k, e, rfl⟩ := e
      obtain ⟨z, h1, h2, h3⟩ := indexD_spec e
      refine ⟨z, by simpa using h1, h2, fun m z' hm hz => ?_⟩
      cases m with
      | zero =>
        simp at hz
        subst hz
        exact h
      | succ m => exact h3 m z' (by omega) (by simpa using hz)
def rTupIndexD (K : W.Frag) : V → List V → Hp → VK → Prop := fun x xs H Q => ∃ (a : Addr) (y : V) (d : PyData) (ds : List PyData) (j : Nat) (z : PyData), x = V.ref a ∧ xs = [y] ∧ Dp K H (V.ref a) (.tuple ds) ∧ Dp K H y d ∧
  SeqAt.shaped (.tuple ds) = true ∧ SeqAt.shaped d = true ∧ ds[j]? = some z ∧ PyData.eqv z d = true ∧ (∀ (m : Nat) (z' : PyData), m < j → ds[m]? = some z' → PyData.eqv z' d = false) ∧ Q (.int (j : Nat)) H
theorem mt_tupIndexD (hu : X.A.units + 65 < cLine) : MtR X "tuple.index" (rTupIndexD X.K) := by
  intro pins s σ H x xs v us Q I rx rxs h
  obtain ⟨a, y, d, ds, j, z, rfl, rfl, hl, hy, sl, sd, hz, hzj, hno, q⟩ := h
  cases rx
  cases rxs with
  | cons ry rt =>
    rename_i uy ut
    cases rt
    obtain ⟨bs, r1⟩ := Dp.reads I d y uy hy ry
    have hxs : PyData.canLayAll0 ds = true := SeqAt.canLay_of_shaped sl
    have hroom : X.A.units + 1 + min (PyData.depthAll ds) d.depth < cLine := room_in_shaped sd hu
    cases hl with
    | tup hs ha =>
      obtain ⟨its, rv, ⟨⟨cls, dd, data, sls⟩, ho, hc, n, hdt⟩, hlen⟩ := I.tuple hs
      simp only at hc hdt
      subst hc hdt
      obtain ⟨as, h4⟩ := Dp.readsAll I ds _ its ha rv
      have hn : its.length = ds.length := SeqAt.ReadsAll.length ds its as h4
      have hmap : its.map (SeqAt.readOf s.heap) = ds := SeqAt.readsAll_map ds its as hxs h4
      have hvl := rv.length
      have hsl := sizeLine_eq
      obtain ⟨hjd, _⟩ := List.getElem?_eq_some_iff.mp hz
      have hjl : j < its.length := by omega
      have hj : j < its.toArray.size := by simpa using hjl
      have at_ : ∀ (m : Nat) (hm : m < its.toArray.size) (z' : PyData), ds[m]? = some z' → SeqAt.readOf s.heap its.toArray[m] = z' := by
        intro m hm z' hz'
        have hml : m < its.length := by simpa using hm
        rw [← hmap, List.getElem?_map, List.getElem?_eq_getElem hml] at hz'
        have e1 : SeqAt.readOf s.heap its[m] = z' := Option.some.inj (show some (SeqAt.readOf s.heap its[m]) = some z' from hz')
        simpa using e1
      refine call_meets PySem.F.slot_tuple_index ⟨_, ho, rfl⟩ PySem.F.entry_tuple_index (PySem.F.args_tuple_index_2 _ _)
        (TI.tuple_indexAt a its.toArray n dd sls uy (fun u => PyData.eqv (SeqAt.readOf s.heap u) d) j hj ?_ ?_) ⟨ho, SeqAt.items_eqAt (vs := its.toArray) (show ReadsAll s.heap its.toArray.toList ds as from h4) r1 hxs (SeqAt.canLay_of_shaped sd) hroom, ?_⟩
      · show PyData.eqv (SeqAt.readOf s.heap its.toArray[j]) d = true
        rw [at_ j hj z hz]
        exact hzj
      · intro m hm hmj
        have hmd : m < ds.length := by omega
        have hz' : ds[m]? = some ds[m] := List.getElem?_eq_getElem hmd
        show PyData.eqv (SeqAt.readOf s.heap its.toArray[m]) d = false
        rw [at_ m hm _ hz']
        exact hno m _ hmj hz'
      · exact ⟨.int (j : Nat), H, I.tok _, ⟨_, rfl⟩, q⟩
def TyM (prog : Program) (w : World) (T : String) (x : V) (H : Hp) : Prop := ∃ a, x = .ref a ∧ ((T = "list" ∧ ∃ xs, Rd H a (.lst xs)) ∨ (T = "tuple" ∧ ∃ xs, ST H a xs) ∨
  (T = "dict" ∧ ((∃ kvs, H a = some (.dK kvs)) ∨ ∃ o xs, H a = some (.ext (RawN prog w a o xs)))))
theorem TyM.is {pins : List (Addr × Obj)} {s : Shared} {σ : L2.St} {H : Hp} {T : String} {x : V} {v : Value} (I : Inv X pins σ H s) (r : RelV x v) (ty : TyM X.prog X.w T x H) :
    s.TypeIs v T ∧ ∀ a, v = .ref a → ∃ ob, s.heap.get? a = some ob ∧ ob.dict = none := by
  obtain ⟨a, rfl, h⟩ := ty
  cases r
  rcases h with ⟨rfl, xs, h⟩ | ⟨rfl, xs, h⟩ | ⟨rfl, ⟨kvs, h⟩ | ⟨o, xs, h⟩⟩
  · obtain ⟨_, its, n, _, _, e⟩ := Inv.rdL I h
    exact ⟨⟨_, e, rfl⟩, fun b z => by cases z; exact ⟨_, e, rfl⟩⟩
  · obtain ⟨_, o, h, ho⟩ := h
    obtain ⟨e, _, its, _, o', e', c, _⟩ := I.hok _ _ h
    rw [e] at e'
    cases e'
    exact ⟨⟨_, e, c⟩, fun b z => by cases z; exact ⟨_, e, ho⟩⟩
  · obtain ⟨_, _, vs, _, o, es, ep, e, c, _⟩ := I.hok _ _ h
    exact ⟨⟨_, e, c.1⟩, fun b z => by cases z; exact ⟨_, e, c.2.1⟩⟩
  · obtain ⟨⟨_, e, c, _⟩, _⟩ := I.hok _ _ h
    exact ⟨⟨_, e, c.1⟩, fun b z => by cases z; exact ⟨_, e, c.2.1⟩⟩
def tBX (prog : Program) (w : World) (T : String) (r : V → List V → Hp → VK → Prop) (to : TE) (t : TA) : TE := fun σ H Q => to σ H fun x H1 => TyM prog w T x H1 ∧ t σ H1 fun xs H2 => r x xs H2 Q
theorem pe_bX {o e : Expr} {es : List Expr} {to : TE} {t : TA} {name : Str} {apos cpos : Pos} {T id : String} {r : V → List V → Hp → VK → Prop} (pa : PlainAttrs T) (slot : Slot T name id) (hty : typeOf (.builtin id) = pure (.type "method_descriptor")) (hm : MtR X id r) (ho : PE X o to) (ha : PA X (e :: es) t)
    (hbase : attributeBase o name X.env (eval o X.env) = eval o X.env)
    (hfew : ((backTo cpos (starEach (e :: es) X.env)).all (fun x => !x.1) && (backToKw cpos (keywordEach [] X.env)).all (fun x => x.1.isSome)
      && decide ((e :: es).length + ([] : List Keyword).length + (if ([] : List Keyword).isEmpty then 0 else 1) < 30)) = true)
    (hline : (apos.endLine == cpos.line) = true) (hs : starEach (e :: es) X.env = (false, eval e X.env) :: starEach es X.env) (hplain : (backTo cpos (starEach es X.env)).any (·.1) = false) :
    PE X (.Call (.Attribute o name apos) (e :: es) [] cpos) (tBX X.prog X.w T r to t) := by
  refine ⟨fun pins s σ H Q I h => ?_⟩
  refine wpAny_Call_method_late hbase hfew hline rfl (thn (ho.run pins s σ H _ I h) fun v s1 ⟨x, H1, I1, r1, ty, q1⟩ => ?_)
  obtain ⟨h1, h2⟩ := TyM.is I1 r1 ty
  refine ⟨T, id, pa, slot, hty, h1, h2, ?_⟩
  have hA := ha.run cpos pins s1 σ H1 _ I1 q1
  rw [hs] at hA ⊢
  refine Calls.callWith_builtin (by show (false || (backTo cpos (starEach es X.env)).any (·.1)) = false; rw [hplain] <;> rfl) (Calls.evalArgs_plain ?_)
  exact thn hA fun us s2 ⟨vs, H2, I2, r2, q2⟩ => hm pins s2 σ H2 x vs v us Q I2 r1 r2 q2
/-- o.m() -/
theorem pe_bX0 {o : Expr} {to : TE} {name : Str} {apos cpos : Pos} {T id : String} {r : V → List V → Hp → VK → Prop} (pa : PlainAttrs T) (slot : Slot T name id) (hty : typeOf (.builtin id) = pure (.type "method_descriptor")) (hm : MtR X id r) (ho : PE X o to)
    (hbase : attributeBase o name X.env (eval o X.env) = eval o X.env) (hline : (apos.endLine == cpos.line) = true) : PE X (.Call (.Attribute o name apos) [] [] cpos) (fun σ H Q => to σ H fun x H1 => TyM X.prog X.w T x H1 ∧ r x [] H1 Q) := by
  refine ⟨fun pins s σ H Q I h => ?_⟩
  refine wpAny_Call_method0_late hbase hline (thn (ho.run pins s σ H _ I h) fun v s1 ⟨x, H1, I1, r1, ty, q1⟩ => ?_)
  obtain ⟨h1, h2⟩ := TyM.is I1 r1 ty
  exact ⟨T, id, pa, slot, hty, h1, h2, Calls.callWith_builtin rfl (PySem.evalArgs_none (hm pins s1 σ H1 x [] v [] Q I1 r1 .nil q1))⟩
/-! ### slices, isinstance, unary operators -/
theorem IsPartRel.dummy : True := trivial
def rSlc (K : W.Frag) : V → Option Int → Option Int → Hp → VK → Prop := fun x lo hi H Q => ∃ P d r, (∀ b, H b = none → P b) ∧ DaO K H P x d ∧ slcF d lo hi = some r ∧
  ∀ u H', Same H H' → Da K H' P u r → (∀ ds, r = .list ds → Fresh K H H' P u r) → Q u H'
theorem sl_tupF {pins : List (Addr × Obj)} {s : Shared} {σ : L2.St} {H : Hp} {a : Addr} {xs : List V} {vl vu : Value} {lo hi : Option Int} {sl : Addr} {Q : VK} (I : Inv X pins σ H s) (hx : SqT X.K H a xs) (hs : s.heap.IsSliceOf sl vl vu .none) (pl : IsPart vl lo) (pu : IsPart vu hi)
    (q1 : HT.sIx xs.length 0 lo = 0 ∧ HT.sIx xs.length xs.length hi = xs.length → Q (.ref a) H) (q2 : ∀ p o, H p = none → o.dict = none → Q (.ref p) (upd H p (.frz o (.tup (cutV xs lo hi))))) :
    ∃ T id, typeLookup (.type T) "__getitem__" = pure (some (.builtin id)) ∧ s.TypeIs (.ref a) T ∧ wpAny (model X.prog X.w) X.A (getItem (.ref a) (.ref sl)) (EP X pins σ Q) X.xe s := by
  obtain ⟨its, r, ht, hz⟩ := I.tuple hx
  have hlen : its.toArray.size = xs.length := by rw [List.size_toArray]; exact r.length.symm
  refine ⟨"tuple", _, PyProof.Rows.slot_tuple_getitem.lookup, ht.typeIs, ?_⟩
  by_cases hw : HT.sIx xs.length 0 lo = 0 ∧ HT.sIx xs.length xs.length hi = xs.length
  · exact getItem_tuple_whole ht hs pl pu (by rw [hlen]; exact hw) ⟨.ref a, H, I, rfl, q1 hw⟩
  · refine HT.getItem_tuple_cut ht hs pl pu (by rw [hlen]; exact hw) ?_ (by rw [hlen]; exact hz)
    rw [hlen]
    have hv : Vals (cutV xs lo hi) ((its.drop (HT.sIx xs.length 0 lo)).take (HT.sIx xs.length xs.length hi - HT.sIx xs.length 0 lo)) := (r.drop _).take _
    exact ⟨.ref _, _, Inv.tnew I (t' := s.toks) hv (Nat.le_trans (cut_len xs lo hi) hz), rfl, q2 _ _ (I.hok.fresh (Nat.le_refl _)) rfl⟩
theorem cut_whole {α : Type} {xs : List α} {lo hi : Option Int} (h : HT.sIx xs.length 0 lo = 0 ∧ HT.sIx xs.length xs.length hi = xs.length) : cut xs lo hi = xs := by
  unfold cut
  rw [h.1, h.2, List.drop_zero, Nat.sub_zero, List.take_length]
theorem ob_slc : SlR X (rSlc X.K) := by
  intro pins s σ H x v vl vu lo hi sl Q I rx hs pl pu h
  obtain ⟨P, d, r, hp, da, e, q⟩ := h
  cases d with
  | list ds =>
    obtain ⟨a, vs, rfl, h1, h2, h3⟩ := da.list
    cases e
    refine sl_list pins s σ H _ v vl vu lo hi sl Q I rx hs pl pu ⟨a, vs, rfl, Rd.sq h1, fun p np => ?_⟩
    have f : Fresh X.K H (upd H p (.lst (cutV vs lo hi))) P (.ref p) (.list (cut ds lo hi)) := Fresh.new (Same.refl _) np (h3.cut lo hi) (Nat.le_trans (cut_len vs lo hi) h2)
    exact q _ _ (same_upd np) (f.da hp) fun _ _ => f
  | tuple ds =>
    obtain ⟨a, vs, rfl, h1, h2, h3⟩ := da.tuple
    cases e
    cases rx
    refine sl_tupF I (h1.sq (K := X.K)) hs pl pu (fun hw => ?_) fun p o np ho => ?_
    · have e2 : cut ds lo hi = ds := cut_whole (by rw [← h3.length]; exact hw)
      exact q _ _ (Same.refl _) (by rw [e2]; exact .tup h1 h3) (by intro _ z; cases z)
    · exact q _ _ (same_upd np) (Da.new_tup np ho (h3.cut lo hi) (Nat.le_trans (cut_len vs lo hi) h2)) (by intro _ z; cases z)
  | _ => simp [slcF] at e
def tyName : Ty → String
  | .int => "int" | .bool => "bool" | .str => "str" | .tuple => "tuple" | .list => "list"
def kTy (t : Ty) : Value := .type (tyName t)
theorem da_ty {K : W.Frag} {H : Hp} {P : Addr → Prop} {v : V} {d : D} (h : DaO K H P v d) (hd : ∀ kvs, d ≠ .dict kvs) : ∃ n, TyX K H v (.type n) ∧ ∀ t, kitB n (tyName t) = some (tyIs d t) := by
  have fin : ∀ {n : String} {d : D}, (∀ t, kitB n (tyName t) = some (tyIs d t)) → ∀ t, kitB n (tyName t) = some (tyIs d t) := fun h => h
  cases d with
  | none =>
    cases h.non
    exact ⟨_, .base .non, fun t => by cases t <;> decide +kernel⟩
  | bool b =>
    cases h.bl
    exact ⟨_, .base (.bl b), fun t => by cases t <;> (show _ = some (tyIs (.bool _) _); simp only [tyIs]; decide +kernel)⟩
  | int b =>
    cases h.int
    exact ⟨_, .base (.int b), fun t => by cases t <;> (show _ = some (tyIs (.int _) _); simp only [tyIs]; decide +kernel)⟩
  | str b =>
    cases h.str
    exact ⟨_, .base (.str b), fun t => by cases t <;> (show _ = some (tyIs (.str _) _); simp only [tyIs]; decide +kernel)⟩
  | list ds =>
    obtain ⟨a, vs, rfl, h1, h2, h3⟩ := h.list
    refine ⟨"list", ?_, fun t => by cases t <;> (show _ = some (tyIs (.list _) _); simp only [tyIs]; decide +kernel)⟩
    rcases h1 with h1 | ⟨o, h1⟩
    · exact .base (.lst h1)
    · exact .base (.frz h1)
  | tuple ds =>
    obtain ⟨a, vs, rfl, h1, h2, h3⟩ := h.tuple
    obtain ⟨_, o, h1, _⟩ := h1
    exact ⟨"tuple", .fTuple h1, fun t => by cases t <;> (show _ = some (tyIs (.tuple _) _); simp only [tyIs]; decide +kernel)⟩
  | dict kvs => exact absurd rfl (hd kvs)
theorem un_neg' : UnR X (unaryOp .USub) (rUn X.K .neg) := by
  intro pins s σ H x v Q I rx h
  obtain ⟨P, d, r, hp, da, e, q⟩ := h
  cases d with
  | int i =>
    cases da.int
    cases e
    exact un_neg pins s σ H _ v Q I rx ⟨i, rfl, q _ _ (Same.refl _) (.int _) (no_un (by decide) (by decide))⟩
  | _ => simp [unF] at e
end
end Bw

/-! Bw, part D: slots, targets, walked things; that a text of the model's form says what ours says. -/
namespace Bw
open PySem PySem.Spec PyProof.Rows L2

/-! ### slots set, forgotten -/
theorem wipe_get (σ : L2.St) (j : Nat) : ∀ vs : List Nat, (wipe σ vs)[j]? = if j ∈ vs then (σ[j]?).map (fun _ => none) else σ[j]?
  | [] => by simp [wipe]
  | v :: vs => by
    unfold wipe
    by_cases h : v = j
    · subst h
      rw [if_pos List.mem_cons_self]
      by_cases hv : v < σ.length
      · rw [List.getElem?_set_self (by rw [wipe_length]; exact hv), List.getElem?_eq_getElem hv]
        rfl
      · rw [List.getElem?_eq_none (by rw [List.length_set, wipe_length]; omega), List.getElem?_eq_none (by omega)]
        rfl
    · rw [List.getElem?_set_ne h, wipe_get σ j vs]
      have hm : (j ∈ v :: vs) ↔ (j ∈ vs) := by simp [List.mem_cons, Ne.symm h]
      by_cases hj : j ∈ vs
      · rw [if_pos hj, if_pos (hm.mpr hj)]
      · rw [if_neg hj, if_neg fun z => hj (hm.mp z)]
theorem wipeE_get (ρ : Env) (j : Nat) : ∀ vs : List Nat, (wipeE ρ vs)[j]? = if j ∈ vs then (ρ[j]?).map (fun _ => none) else ρ[j]?
  | [] => by simp [wipeE]
  | v :: vs => by
    have hl : ∀ vs : List Nat, (wipeE ρ vs).length = ρ.length := fun vs => by
      induction vs with
      | nil => rfl
      | cons a r ih => unfold wipeE; rw [List.length_set, ih]
    unfold wipeE
    by_cases h : v = j
    · subst h
      rw [if_pos List.mem_cons_self]
      by_cases hv : v < ρ.length
      · rw [List.getElem?_set_self (by rw [hl]; exact hv), List.getElem?_eq_getElem hv]
        rfl
      · rw [List.getElem?_eq_none (by rw [List.length_set, hl]; omega), List.getElem?_eq_none (by omega)]
        rfl
    · rw [List.getElem?_set_ne h, wipeE_get ρ j vs]
      have hm : (j ∈ v :: vs) ↔ (j ∈ vs) := by simp [List.mem_cons, Ne.symm h]
      by_cases hj : j ∈ vs
      · rw [if_pos hj, if_pos (hm.mpr hj)]
      · rw [if_neg hj, if_neg fun z => hj (hm.mp z)]
theorem wipe_eq {σ σ' : L2.St} {vs : List Nat} (hl : σ'.length = σ.length) (h : ∀ j, j ∉ vs → σ'[j]? = σ[j]?) : wipe σ' vs = wipe σ vs := by
  refine List.ext_getElem? fun j => ?_
  rw [wipe_get, wipe_get]
  by_cases hj : j ∈ vs
  · rw [if_pos hj, if_pos hj]
    by_cases hv : j < σ.length
    · rw [List.getElem?_eq_getElem hv, List.getElem?_eq_getElem (by omega)]
      rfl
    · rw [List.getElem?_eq_none (by omega), List.getElem?_eq_none (by omega)]
  · rw [if_neg hj, if_neg hj, h j hj]
section
variable {prog : Program} {w : World} {K : W.Frag} {P : Addr → Prop} {F : List Addr} {ρ : Env} {σ : L2.St} {H H' : Hp}
theorem R.set (r : R prog w K P F ρ σ H) {i : Nat} {v : V} {d : D} (h : Da K H (PF P F) v d) : R prog w K P F (ρ.set i (some (.dat d))) (σ.set i (some v)) H := by
  refine ⟨by rw [List.length_set, List.length_set]; exact r.len, r.trk, r.fresh, fun j s e => ?_, fun j k s t v' u b ne e1 e2 e3 e4 f g => ?_⟩
  · by_cases hj : i = j
    · subst hj
      by_cases hl : i < ρ.length
      · rw [List.getElem?_set_self hl] at e
        cases e
        exact ⟨v, by rw [List.getElem?_set_self (by rw [r.len]; exact hl)], h⟩
      · rw [List.getElem?_eq_none (by rw [List.length_set]; omega)] at e
        cases e
    · rw [List.getElem?_set_ne hj] at e ⊢
      exact r.rep j s e
  · have key : ∀ {j : Nat} {s : SV} {v' : V} {b : Addr}, (ρ.set i (some (SV.dat d)))[j]? = some (some s) → (σ.set i (some v))[j]? = some (some v') → Fp H v' s b → ρ[j]? = some (some s) ∧ σ[j]? = some (some v') := fun {j s v' b} e1 e3 f => by
      by_cases hj : i = j
      · subst hj
        by_cases hl : i < ρ.length
        · rw [List.getElem?_set_self hl] at e1
          cases e1
          exact f.elim
        · rw [List.getElem?_eq_none (by rw [List.length_set]; omega)] at e1
          cases e1
      · rw [List.getElem?_set_ne hj] at e1 e3
        exact ⟨e1, e3⟩
    obtain ⟨a1, a2⟩ := key e1 e3 f
    obtain ⟨b1, b2⟩ := key e2 e4 g
    exact r.sep j k s t v' u b ne a1 b1 a2 b2 f g
theorem R.wipe (r : R prog w K P F ρ σ H) (vs : List Nat) : R prog w K P F (wipeE ρ vs) (L2.wipe σ vs) H := by
  have hlE : ∀ vs : List Nat, (wipeE ρ vs).length = ρ.length := fun vs => by
    induction vs with
    | nil => rfl
    | cons a r ih => unfold wipeE; rw [List.length_set, ih]
  have back : ∀ {j : Nat} {s : SV}, (wipeE ρ vs)[j]? = some (some s) → j ∉ vs ∧ ρ[j]? = some (some s) := fun {j s} e => by
    rw [wipeE_get] at e
    by_cases hj : j ∈ vs
    · rw [if_pos hj] at e
      cases q : ρ[j]? with
      | none => rw [q] at e; cases e
      | some y => rw [q] at e; cases e
    · rw [if_neg hj] at e
      exact ⟨hj, e⟩
  refine ⟨by rw [wipe_length, hlE]; exact r.len, r.trk, r.fresh, fun j s e => ?_, fun j k s t v' u b ne e1 e2 e3 e4 f g => ?_⟩
  · obtain ⟨h1, h2⟩ := back e
    obtain ⟨v, h3, h4⟩ := r.rep j s h2
    exact ⟨v, by rw [wipe_out h1]; exact h3, h4⟩
  · obtain ⟨h1, h2⟩ := back e1
    obtain ⟨k1, k2⟩ := back e2
    rw [wipe_out h1] at e3
    rw [wipe_out k1] at e4
    exact r.sep j k s t v' u b ne h2 k2 e3 e4 f g
/-- one address more of one's own, that no slot has -/
theorem R.more (r : R prog w K P F ρ σ H) {D : Addr} {o : HO} (hD : H D = none) (m : isMut o = true) : R prog w K P (D :: F) ρ σ (upd H D o) := by
  have s : Same H (upd H D o) := same_upd hD
  have r' := r.same s
  have hp : ∀ b x, PF P F b → H b = some x → PF P (D :: F) b := fun b x p e => ⟨p.1, fun z => (List.mem_cons.mp z).elim (fun q => by rw [q, hD] at e; cases e) p.2⟩
  refine ⟨r.len, fun b hb => ?_, fun b hb => r.fresh b (s.free hb), fun i t e => ?_, r'.sep⟩
  · rcases List.mem_cons.mp hb with z | hb
    · subst z
      exact ⟨o, upd_same, m⟩
    · exact r'.trk b hb
  · obtain ⟨v, h1, h2⟩ := r.rep i t e
    refine ⟨v, h1, ?_⟩
    cases t with
    | dat d => exact (Da.mono .refl hp _ _ h2).same s
    | own ds =>
      obtain ⟨a, vs, g1, g2, g3, g4, g5, g6⟩ := h2
      exact ⟨a, vs, g1, List.mem_cons_of_mem _ g2, g3, s _ _ g4, g5, (DaL.mono .refl hp _ _ g6).same s⟩
    | mat dss =>
      obtain ⟨a, as, g1, g2, g3, g4, g5, g6, g7, g8⟩ := h2
      refine ⟨a, as, g1, List.mem_cons_of_mem _ g2, g3, s _ _ g4, g5, g6, g7, paired_mono (fun b ds z => ?_) g8⟩
      obtain ⟨z1, z2, vs, z3, z4, z5⟩ := z
      exact ⟨List.mem_cons_of_mem _ z1, z2, vs, s _ _ z3, z4, (DaL.mono .refl hp _ _ z5).same s⟩
    | dct nest kvs =>
      obtain ⟨a, g1, g2, g3⟩ := h2
      exact ⟨a, g1, List.mem_cons_of_mem _ g2, (g3.mono .refl hp fun o e => e).mono (.of_same s) (fun _ _ z _ => z) fun o e => s _ _ e⟩
/-- all but D stands -/
def SameX (D : Addr) (H H' : Hp) : Prop := ∀ b o, H b = some o → b ≠ D → H' b = some o
/-- an address that no data may have -/
theorem R.ban {H1 : Hp} {D : Addr} {o : HO} (r : R prog w K P F ρ σ H) (hD : H D = none) (s : Same H H1) (e : H1 D = some o) : R prog w K (fun b => P b ∧ b ≠ D) F ρ σ H1 := by
  have r' := r.same s
  have hp : ∀ b x, PF P F b → H b = some x → PF (fun b => P b ∧ b ≠ D) F b := fun b x p e => ⟨⟨p.1, fun z => by rw [z, hD] at e; cases e⟩, p.2⟩
  have hF : ∀ b, b ∈ F → b ≠ D := fun b hb z => by
    obtain ⟨o', h1, _⟩ := r.trk b hb
    rw [z, hD] at h1
    cases h1
  refine ⟨r.len, r'.trk, fun b hb => ⟨r.fresh b (s.free hb), fun z => by rw [z, e] at hb; cases hb⟩, fun i t e => ?_, r'.sep⟩
  obtain ⟨v, h1, h2⟩ := r.rep i t e
  refine ⟨v, h1, ?_⟩
  cases t with
  | dat d => exact (Da.mono .refl hp _ _ h2).same s
  | own ds =>
    obtain ⟨a, vs, g1, g2, g3, g4, g5, g6⟩ := h2
    exact ⟨a, vs, g1, g2, ⟨g3, hF a g2⟩, s _ _ g4, g5, (DaL.mono .refl hp _ _ g6).same s⟩
  | mat dss =>
    obtain ⟨a, as', g1, g2, g3, g4, g5, g6, g7, g8⟩ := h2
    refine ⟨a, as', g1, g2, ⟨g3, hF a g2⟩, s _ _ g4, g5, g6, g7, paired_mono (fun b ds z => ?_) g8⟩
    obtain ⟨z1, z2, vs, z3, z4, z5⟩ := z
    exact ⟨z1, ⟨z2, hF b z1⟩, vs, s _ _ z3, z4, (DaL.mono .refl hp _ _ z5).same s⟩
  | dct nest kvs =>
    obtain ⟨a, g1, g2, g3⟩ := h2
    exact ⟨a, g1, g2, (g3.mono .refl hp fun o e => e).mono (.of_same s) (fun _ _ z _ => z) fun o e => s _ _ e⟩
theorem R.stepX {H1 : Hp} {D : Addr} {o : HO} (r : R prog w K P F ρ σ H) (hP : ∀ b, P b → b ≠ D) (hF : D ∉ F) (sx : SameX D H H1) (u : ∀ o, H D = some o → isMut o = true) (e : H1 D = some o) : R prog w K P F ρ σ H1 := by
  have kp : Keeps (PF P F) H H1 := ⟨fun b o p e => sx b o e (hP b p.1), fun b o q e => sx _ _ e fun z => by rw [z] at e; have := u _ e; cases this⟩
  have ne : ∀ b, b ∈ F → b ≠ D := fun b hb z => hF (by rw [← z]; exact hb)
  have key : ∀ {v : V} {t : SV}, RepS prog w K P F H v t → RepS prog w K P F H1 v t ∧ ∀ b, Fp H1 v t b → Fp H v t b := fun {v t} h2 => by
    cases t with
    | dat d => exact ⟨Da.keep h2 kp, fun b f => f⟩
    | own ds =>
      obtain ⟨a, vs, g1, g2, g3, g4, g5, g6⟩ := h2
      exact ⟨⟨a, vs, g1, g2, g3, sx _ _ g4 (ne a g2), g5, g6.keep kp⟩, fun b f => f⟩
    | mat dss =>
      obtain ⟨a, as', g1, g2, g3, g4, g5, g6, g7, g8⟩ := h2
      refine ⟨⟨a, as', g1, g2, g3, sx _ _ g4 (ne a g2), g5, g6, g7, paired_mono (fun b ds z => ?_) g8⟩, fun b f => ?_⟩
      · obtain ⟨z1, z2, vs, z3, z4, z5⟩ := z
        exact ⟨z1, z2, vs, sx _ _ z3 (ne b z1), z4, z5.keep kp⟩
      · rcases f with f | ⟨c, us, f1, f2, f3⟩
        · exact .inl f
        · rw [g1] at f1
          cases f1
          rw [sx _ _ g4 (ne a g2)] at f2
          cases f2
          exact .inr ⟨a, _, g1, g4, f3⟩
    | dct nest kvs =>
      obtain ⟨a, g1, g2, g3⟩ := h2
      exact ⟨⟨a, g1, g2, g3.mono kp (fun _ _ p _ => p) fun o e => sx _ _ e (ne a g2)⟩, fun b f => f⟩
  refine ⟨r.len, fun b hb => ?_, fun b hb => r.fresh b ?_, fun i t e => ?_, fun i j s t v u b ne e1 e2 e3 e4 f g => ?_⟩
  · obtain ⟨o, h1, h2⟩ := r.trk b hb
    exact ⟨o, sx _ _ h1 (ne b hb), h2⟩
  · cases hh : H b with
    | none => rfl
    | some x =>
      by_cases hbD : b = D
      · rw [hbD, e] at hb; cases hb
      · rw [sx _ _ hh hbD] at hb; cases hb
  · obtain ⟨v, h1, h2⟩ := r.rep i t e
    exact ⟨v, h1, (key h2).1⟩
  · obtain ⟨v', h1, h2⟩ := r.rep i s e1
    rw [e3] at h1
    cases h1
    obtain ⟨u', h3, h4⟩ := r.rep j t e2
    rw [e4] at h3
    cases h3
    exact r.sep i j s t v u b ne e1 e2 e3 e4 ((key h2).2 b f) ((key h4).2 b g)
/-- several more of one's own, that no slot has -/
theorem R.moreL {H1 : Hp} {as : List Addr} (r : R prog w K P F ρ σ H) (ha : ∀ b ∈ as, H b = none) (s : Same H H1) (m : ∀ b ∈ as, ∃ o, H1 b = some o ∧ isMut o = true) : R prog w K P (as ++ F) ρ σ H1 := by
  have r' := r.same s
  have hp : ∀ b x, PF P F b → H b = some x → PF P (as ++ F) b := fun b x p e => ⟨p.1, fun z => (List.mem_append.mp z).elim (fun q => by rw [ha b q] at e; cases e) p.2⟩
  refine ⟨r.len, fun b hb => ?_, fun b hb => r.fresh b (s.free hb), fun i t e => ?_, r'.sep⟩
  · rcases List.mem_append.mp hb with z | hb
    · exact m b z
    · exact r'.trk b hb
  · obtain ⟨v, h1, h2⟩ := r.rep i t e
    refine ⟨v, h1, ?_⟩
    cases t with
    | dat d => exact (Da.mono .refl hp _ _ h2).same s
    | own ds =>
      obtain ⟨a, vs, g1, g2, g3, g4, g5, g6⟩ := h2
      exact ⟨a, vs, g1, List.mem_append_right _ g2, g3, s _ _ g4, g5, (DaL.mono .refl hp _ _ g6).same s⟩
    | mat dss =>
      obtain ⟨a, as', g1, g2, g3, g4, g5, g6, g7, g8⟩ := h2
      refine ⟨a, as', g1, List.mem_append_right _ g2, g3, s _ _ g4, g5, g6, g7, paired_mono (fun b ds z => ?_) g8⟩
      obtain ⟨z1, z2, vs, z3, z4, z5⟩ := z
      exact ⟨List.mem_append_right _ z1, z2, vs, s _ _ z3, z4, (DaL.mono .refl hp _ _ z5).same s⟩
    | dct nest kvs =>
      obtain ⟨a, g1, g2, g3⟩ := h2
      exact ⟨a, g1, List.mem_append_right _ g2, (g3.mono .refl hp fun o e => e).mono (.of_same s) (fun _ _ z _ => z) fun o e => s _ _ e⟩
end

/-! ### targets -/
/-- an item: data, or a new pair -/
def Itm (K : W.Frag) (H : Hp) (P : Addr → Prop) (x : V) (d : D) : Prop := Da K H P x d ∨ ∃ T xs es, x = .ref T ∧ d = .tuple es ∧ SqT K H T xs ∧ DaL K H P xs es
def gS : List Nat → TGs
  | [] => gNil
  | i :: is => gCons (gName i) (gS is)
def gT (K : W.Frag) : Tg → TG
  | .n i => gName i
  | .t is => gTup K is.length (gS is)
def tgIn (own : List Nat) : Tg → Bool
  | .n i => own.contains i
  | .t is => is.all fun i => own.contains i
section
variable {prog : Program} {w : World} {K : W.Frag} {P : Addr → Prop} {F : List Addr} {H : Hp}
theorem gS_run : ∀ {is : List Nat} {ρ ρ' : Env} {σ : L2.St} {xs : List V} {es : List D} {Q : L2.St → Hp → Prop}, R prog w K P F ρ σ H → DaL K H (PF P F) xs es → setAll is es ρ = some ρ' →
    (∀ σ', R prog w K P F ρ' σ' H → σ'.length = σ.length → (∀ j, j ∉ is → σ'[j]? = σ[j]?) → Q σ' H) → gS is xs σ H Q
  | [], ρ, ρ', σ, xs, es, Q, r, da, e, q => by
    cases es with
    | nil =>
      cases da
      cases e
      exact ⟨rfl, q σ r rfl fun _ _ => rfl⟩
    | cons _ _ => simp [setAll] at e
  | i :: is, ρ, ρ', σ, xs, es, Q, r, da, e, q => by
    cases es with
    | nil => simp [setAll] at e
    | cons d ds =>
      cases da with
      | cons h1 h2 =>
        refine ⟨_, _, rfl, gS_run (r.set (i := i) h1) h2 e fun σ' r' hl hj => q σ' r' (by rw [hl, List.length_set]) fun j hn => ?_⟩
        rw [hj j fun z => hn (List.mem_cons_of_mem _ z), List.getElem?_set_ne fun z => hn (by rw [z]; exact List.mem_cons_self)]
theorem gT_run {tg : Tg} {d : D} {x : V} {ρ ρ' : Env} {σ : L2.St} {Q : L2.St → Hp → Prop} {own : List Nat} (r : R prog w K P F ρ σ H) (it : Itm K H (PF P F) x d) (e : bindT tg d ρ = some ρ') (hn : tgIn own tg = true ∨ own = [])
    (q : ∀ σ', R prog w K P F ρ' σ' H → σ'.length = σ.length → (tgIn own tg = true → L2.wipe σ' own = L2.wipe σ own) → Q σ' H) (hpair : ∀ i, tg = .n i → Da K H (PF P F) x d) : gT K tg x σ H Q := by
  cases tg with
  | n i =>
    cases e
    refine q _ (r.set (hpair i rfl)) (by rw [List.length_set]) fun hi => wipe_eq (by rw [List.length_set]) fun j hj => ?_
    rw [List.getElem?_set_ne]
    intro z
    subst z
    exact hj (by simpa [tgIn] using hi)
  | t is =>
    have fin : ∀ {T xs es}, x = .ref T → d = .tuple es → SqT K H T xs → DaL K H (PF P F) xs es → gT K (.t is) x σ H Q := fun {T xs es} hx hd hT da => by
      subst hx hd
      have e' : setAll is es ρ = some ρ' := e
      have hlen : ∀ {is : List Nat} {es : List D} {ρ : Env}, setAll is es ρ = some ρ' → is.length = es.length := fun {is} => by
        induction is with
        | nil =>
          intro es ρ e
          cases es with
          | nil => rfl
          | cons _ _ => simp [setAll] at e
        | cons i is ih =>
          intro es ρ e
          cases es with
          | nil => simp [setAll] at e
          | cons d ds => rw [List.length_cons, List.length_cons, ih (es := ds) (ρ := ρ.set i (some (.dat d))) e]
      refine ⟨T, xs, rfl, hT, by rw [da.length, hlen e'], gS_run r da e' fun σ' r' hl hj => q σ' r' hl fun hi => wipe_eq hl fun j hn => hj j fun z => hn ?_⟩
      have := List.all_eq_true.mp hi j z
      simpa using this
    rcases it with h | ⟨T, xs, es, h1, h2, h3, h4⟩
    · cases d with
      | tuple es =>
        cases h with
        | tup a1 a2 => exact fin rfl rfl a1.sq a2
      | _ => simp [bindT] at e
    · exact fin h1 h2 h3 h4
end

/-! ### walked things -/
def Zb (b : Bool) (P : Addr → Prop) (H H' : Hp) : Prop := match b with | true => Same H H' | false => Keeps P H H'
theorem Zb.refl {b : Bool} {P : Addr → Prop} {H : Hp} : Zb b P H H := by
  cases b
  · exact Keeps.refl
  · exact Same.refl H
theorem Zb.of_same {b : Bool} {P : Addr → Prop} {H H' : Hp} (s : Same H H') : Zb b P H H' := by
  cases b
  · exact Keeps.of_same s
  · exact s
theorem Zb.keeps {b : Bool} {P : Addr → Prop} {H H' : Hp} (z : Zb b P H H') : Keeps P H H' := by
  cases b
  · exact z
  · exact Keeps.of_same z
def DaB (b : Bool) (K : W.Frag) (H : Hp) (P : Addr → Prop) (v : V) (d : D) : Prop := match b with | true => DaO K H P v d | false => Da K H P v d
theorem DaB.o {b : Bool} {K : W.Frag} {H : Hp} {P : Addr → Prop} {v : V} {d : D} (h : DaB b K H P v d) : DaO K H P v d := by
  cases b
  · exact .inl h
  · exact h
theorem DaB.of {b : Bool} {K : W.Frag} {H : Hp} {P : Addr → Prop} {v : V} {d : D} (h : Da K H P v d) : DaB b K H P v d := by
  cases b
  · exact h
  · exact .inl h
theorem DaB.same {b : Bool} {K : W.Frag} {H H' : Hp} {P : Addr → Prop} {v : V} {d : D} (h : DaB b K H P v d) (s : Same H H') : DaB b K H' P v d := by
  cases b
  · exact Da.same h s
  · exact DaO.same h s
/-- from H1 on the walk gives ds -/
def Wk (K : W.Frag) (b : Bool) (P : Addr → Prop) (J : It) (H1 : Hp) (ds : List D) (pair : Bool) : Prop :=
  Walk J ds.length (Zb b P H1) fun i H x H' => Same H H' ∧ ∃ d, ds[i]? = some d ∧ ∀ P' : Addr → Prop, (∀ b o, P b → H1 b = some o → P' b) → Itm K H' P' x d ∧ (pair = false → Da K H' P' x d)
section
variable {K : W.Frag} {b : Bool} {P : Addr → Prop} {H1 : Hp} {ds : List D} {a : Addr} {vs : List V}
theorem DaB.list {v : V} (h : DaB b K H1 P v (.list ds)) : ∃ a vs, v = .ref a ∧ (∀ H, Zb b P H1 H → Rd H a (.lst vs)) ∧ vs.length ≤ sizeLine ∧ DaL K H1 P vs ds := by
  cases b with
  | false =>
    cases h with
    | lst h1 h2 => exact ⟨_, _, rfl, fun H z => (h1.mono z (fun _ _ p _ => p)).2.1, h1.1, h2⟩
  | true =>
    obtain ⟨a, vs, rfl, h1, h2, h3⟩ := DaO.list h
    exact ⟨a, vs, rfl, fun H z => h1.elim (fun r => .inl (z _ _ r)) fun ⟨o, r⟩ => .inr ⟨o, z _ _ r⟩, h2, h3⟩
theorem DaB.tuple {v : V} (h : DaB b K H1 P v (.tuple ds)) : ∃ a vs, v = .ref a ∧ (∀ H, Zb b P H1 H → ST H a vs) ∧ vs.length ≤ sizeLine ∧ DaL K H1 P vs ds := by
  obtain ⟨a, vs, rfl, h1, h2, h3⟩ := DaO.tuple h.o
  exact ⟨a, vs, rfl, fun H z => h1.mono z.keeps, h2, h3⟩
theorem wk_list (h : ∀ H, Zb b P H1 H → Rd H a (.lst vs)) (da : DaL K H1 P vs ds) : Wk K b P (Itl K a) H1 ds false := by
  have w := (walk_list (K := K) (a := a) (xs := vs)).mono (G' := Zb b P H1) (fun H z => Rd.sq (h H z)) (Y' := fun i H x H' => Same H H' ∧ ∃ d, ds[i]? = some d ∧ ∀ P' : Addr → Prop, (∀ b o, P b → H1 b = some o → P' b) → Itm K H' P' x d ∧ (false = false → Da K H' P' x d)) fun i H x H' hi z y => by
    obtain ⟨rfl, e⟩ := y
    obtain ⟨d, h1, h2⟩ := da.get' e
    exact ⟨Same.refl _, d, h1, fun P' hp => ⟨.inl (Da.mono z.keeps hp _ _ h2), fun _ => Da.mono z.keeps hp _ _ h2⟩⟩
  unfold Wk
  rw [← da.length]
  exact w
theorem wk_tup (h : ∀ H, Zb b P H1 H → ST H a vs) (da : DaL K H1 P vs ds) : Wk K b P (Itt K a) H1 ds false := by
  have w := (walk_tup (K := K) (a := a) (xs := vs)).mono (G' := Zb b P H1) (fun H z => (h H z).sq) (Y' := fun i H x H' => Same H H' ∧ ∃ d, ds[i]? = some d ∧ ∀ P' : Addr → Prop, (∀ b o, P b → H1 b = some o → P' b) → Itm K H' P' x d ∧ (false = false → Da K H' P' x d)) fun i H x H' hi z y => by
    obtain ⟨rfl, e⟩ := y
    obtain ⟨d, h1, h2⟩ := da.get' e
    exact ⟨Same.refl _, d, h1, fun P' hp => ⟨.inl (Da.mono z.keeps hp _ _ h2), fun _ => Da.mono z.keeps hp _ _ h2⟩⟩
  unfold Wk
  rw [← da.length]
  exact w
theorem wk_range {lo hi : Int} {ds : List D} (e : rngL lo hi = some ds) : Wk K b P (Itr lo (hi - lo).toNat) H1 ds false := by
  unfold rngL at e
  split at e
  · cases e
    have w := (walk_range (lo := lo) (n := (hi - lo).toNat)).mono (G' := Zb b P H1) (fun _ _ => trivial) (Y' := fun i H x H' => Same H H' ∧ ∃ d, ((List.range (hi - lo).toNat).map fun k => (PyData.int (lo + (k : Nat)) : D))[i]? = some d ∧ ∀ P' : Addr → Prop, (∀ b o, P b → H1 b = some o → P' b) → Itm K H' P' x d ∧ (false = false → Da K H' P' x d)) fun i H x H' hi z y => by
      obtain ⟨rfl, rfl⟩ := y
      exact ⟨Same.refl _, _, by rw [List.getElem?_map, List.getElem?_range hi]; rfl, fun _ _ => ⟨.inl (.int _), fun _ => .int _⟩⟩
    unfold Wk
    rw [List.length_map, List.length_range]
    exact w
  · cases e
theorem wk_str {x : Str} {ds : List D} (e : charsL (.str x) = some ds) : Wk K b P (Its x) H1 ds false := by
  simp only [charsL] at e
  split at e
  · cases e
    have w := (walk_str (z := x)).mono (G' := Zb b P H1) (fun _ _ => trivial) (Y' := fun i H y H' => Same H H' ∧ ∃ d, (x.cps.toList.map fun c => (PyData.str ⟨#[c]⟩ : D))[i]? = some d ∧ ∀ P' : Addr → Prop, (∀ b o, P b → H1 b = some o → P' b) → Itm K H' P' y d ∧ (false = false → Da K H' P' y d)) fun i H y H' hi z q => by
      obtain ⟨rfl, c, hc, rfl⟩ := q
      exact ⟨Same.refl _, _, by rw [List.getElem?_map, Array.getElem?_toList, hc]; rfl, fun _ _ => ⟨.inl (.str _), fun _ => .str _⟩⟩
    unfold Wk
    rw [List.length_map, Array.length_toList]
    exact w
  · cases e
theorem zipL_len : ∀ xs ys : List D, (zipL xs ys).length = min xs.length ys.length
  | [], _ => by simp [zipL]
  | _ :: _, [] => by simp [zipL]
  | x :: xs, y :: ys => by
    unfold zipL
    rw [List.length_cons, zipL_len xs ys, List.length_cons, List.length_cons]
    omega
theorem zipL_get : ∀ {xs ys : List D} {i : Nat} {x y : D}, xs[i]? = some x → ys[i]? = some y → (zipL xs ys)[i]? = some (.tuple [x, y])
  | [], _, _, _, _, h, _ => by simp at h
  | _ :: _, [], _, _, _, _, h => by simp at h
  | x :: xs, y :: ys, 0, _, _, h, k => by
    simp at h k
    subst h k
    rfl
  | x :: xs, y :: ys, i + 1, _, _, h, k => by
    unfold zipL
    rw [List.getElem?_cons_succ]
    exact zipL_get (by simpa using h) (by simpa using k)
theorem itm_pair {H : Hp} {T : Addr} {x y : V} {d e : D} (hT : H T = none) (h1 : Da K H P x d) (h2 : Da K H P y e) : Itm K (upd H T (.tup [x, y])) P (.ref T) (.tuple [d, e]) :=
  .inr ⟨T, [x, y], [d, e], rfl, rfl, .inl (.inl upd_same), .cons (h1.same (same_upd hT)) (.cons (h2.same (same_upd hT)) .nil)⟩
theorem walk_zipT {K : W.Frag} {a b : Addr} {xs ys : List V} {n : Nat} (hn : n = min xs.length ys.length) : Walk (RZ.ItzT K a b) n (fun H => SqT K H a xs ∧ SqT K H b ys) (YPair (fun i => xs[i]?) (fun i => ys[i]?)) := by
  subst hn
  refine ⟨fun i _ hi q => ?_, fun _ q => ⟨xs, ys, q.1, q.2, by omega⟩, fun i H v H' _ q y => ?_⟩
  · have h1 : i < xs.length := by omega
    have h2 : i < ys.length := by omega
    exact ⟨xs, ys, xs[i], ys[i], q.1, q.2, by simp [h1], by simp [h2]⟩
  · obtain ⟨T, x, z, h1, h2, h3, h4, h5⟩ := y
    exact ⟨T, x, z, h1, h2, h3, h4 xs q.1, h5 ys q.2⟩
theorem wk_pairs {J : It} {n : Nat} {G : Hp → Prop} {vs ws : List V} {es : List D} (w : Walk J n G (YPair (fun i => vs[i]?) (fun i => ws[i]?))) (hn : n = min vs.length ws.length) (hG : ∀ H, Zb b P H1 H → G H) (da : DaL K H1 P vs ds) (db : DaL K H1 P ws es) :
    Wk K b P J H1 (zipL ds es) true := by
  have w' := w.mono (G' := Zb b P H1) hG (Y' := fun i H x H' => Same H H' ∧ ∃ d, (zipL ds es)[i]? = some d ∧ ∀ P' : Addr → Prop, (∀ b o, P b → H1 b = some o → P' b) → Itm K H' P' x d ∧ (true = false → Da K H' P' x d)) fun i H x H' hi z y => by
    obtain ⟨T, v1, v2, rfl, hT, rfl, e1, e2⟩ := y
    obtain ⟨d1, h1, h2⟩ := da.get' e1
    obtain ⟨d2, k1, k2⟩ := db.get' e2
    exact ⟨same_upd hT, _, zipL_get h1 k1, fun P' hp => ⟨itm_pair hT (Da.mono z.keeps hp _ _ h2) (Da.mono z.keeps hp _ _ k2), by intro z; cases z⟩⟩
  unfold Wk
  rw [zipL_len, ← da.length, ← db.length, ← hn]
  exact w'
theorem enumL_len : ∀ (ds : List D) (k : Nat), (enumL k ds).length = ds.length
  | [], _ => rfl
  | x :: xs, k => by
    unfold enumL
    rw [List.length_cons, enumL_len xs, List.length_cons]
theorem enumL_get : ∀ {ds : List D} {k i : Nat} {x : D}, ds[i]? = some x → (enumL k ds)[i]? = some (.tuple [.int ((k + i : Nat) : Int), x])
  | [], _, _, _, h => by simp at h
  | x :: xs, k, 0, _, h => by
    simp at h
    subst h
    rfl
  | x :: xs, k, i + 1, _, h => by
    unfold enumL
    rw [List.getElem?_cons_succ, enumL_get (k := k + 1) (by simpa using h)]
    have : k + 1 + i = k + (i + 1) := by omega
    rw [this]
theorem wk_enum (h : ∀ H, Zb b P H1 H → Rd H a (.lst vs)) (da : DaL K H1 P vs ds) : Wk K b P (Ite K a) H1 (enumL 0 ds) true := by
  have w' := (walk_enum (K := K) (a := a) (xs := vs)).mono (G' := Zb b P H1) (fun H z => Rd.sq (h H z)) (Y' := fun i H x H' => Same H H' ∧ ∃ d, (enumL 0 ds)[i]? = some d ∧ ∀ P' : Addr → Prop, (∀ b o, P b → H1 b = some o → P' b) → Itm K H' P' x d ∧ (true = false → Da K H' P' x d)) fun i H x H' hi z y => by
    obtain ⟨T, v1, v2, rfl, hT, rfl, e1, e2⟩ := y
    cases e1
    obtain ⟨d2, k1, k2⟩ := da.get' e2
    refine ⟨same_upd hT, _, enumL_get k1, fun P' hp => ⟨?_, by intro z; cases z⟩⟩
    rw [Nat.zero_add]
    exact itm_pair hT (.int _) (Da.mono z.keeps hp _ _ k2)
  unfold Wk
  rw [enumL_len, ← da.length]
  exact w'
end
end Bw

/-! Bw, part E: whether a text of the model's form is what ours says (a look that ends in true or false), and what its syntax gives. -/
namespace Bw
open PySem PySem.Spec PyProof.Rows L2

/-! ### views -/
def vName : Expr → Option Str | .Name x _ => some x | _ => none
def vConst : Expr → Option Const | .Constant c _ _ => some c | _ => none
def vUn : Expr → Option (UnaryOp × Expr) | .UnaryOp o e _ => some (o, e) | _ => none
def vBin : Expr → Option (Expr × Operator × Expr) | .BinOp a o b _ => some (a, o, b) | _ => none
def vCmp1 : Expr → Option (Expr × CmpOp × Expr) | .Compare a [o] [b] _ => some (a, o, b) | _ => none
def vCmp2 : Expr → Option (Expr × CmpOp × CmpOp × Expr × Expr) | .Compare a [o, p] [b, c] _ => some (a, o, p, b, c) | _ => none
def vBool : Expr → Option (BoolOp × List Expr) | .BoolOp o vs _ => some (o, vs) | _ => none
def vIf : Expr → Option (Expr × Expr × Expr) | .IfExp c a b _ => some (c, a, b) | _ => none
def vTup : Expr → Option (List Expr) | .Tuple vs _ _ => some vs | _ => none
def vLst : Expr → Option (List Expr) | .List vs _ => some vs | _ => none
def vSub : Expr → Option (Expr × Expr) | .Subscript a b _ => some (a, b) | _ => none
def vSlc : Expr → Option (Option Expr × Option Expr) | .Slice l u none _ => some (l, u) | _ => none
def vCall : Expr → Option (Str × List Expr) | .Call (.Name x _) es [] _ => some (x, es) | _ => none
def vMeth : Expr → Option (Expr × Str × List Expr × Bool) | .Call (.Attribute o m p) es [] q => some (o, m, es, p.endLine == q.line) | _ => none
def vLc : Expr → Option (Expr × Expr × Expr × List Expr × Scope) | .ListComp e [⟨t, i, ifs, a⟩] s _ => if a = 0 then some (e, t, i, ifs, s) else none | _ => none
def vLc2 : Expr → Option (Expr × (Expr × Expr × List Expr) × (Expr × Expr × List Expr) × Scope)
  | .ListComp e [⟨t, i, ifs, a⟩, ⟨t1, i1, ifs1, a1⟩] s _ => if a = 0 ∧ a1 = 0 then some (e, (t, i, ifs), (t1, i1, ifs1), s) else none | _ => none
def vDc : Expr → Option (Expr × Expr × Expr × Expr × List Expr × Scope) | .DictComp k v [⟨t, i, ifs, a⟩] s _ => if a = 0 then some (k, v, t, i, ifs, s) else none | _ => none
section
variable {e : Expr}
theorem vName_of {x : Str} (h : vName e = some x) : ∃ p, e = .Name x p := by cases e <;> simp [vName] at h; subst h; exact ⟨_, rfl⟩
theorem vConst_of {x : Const} (h : vConst e = some x) : ∃ j p, e = .Constant x j p := by cases e <;> simp [vConst] at h; subst h; exact ⟨_, _, rfl⟩
theorem vUn_of {o : UnaryOp} {a : Expr} (h : vUn e = some (o, a)) : ∃ p, e = .UnaryOp o a p := by cases e <;> simp [vUn] at h; obtain ⟨rfl, rfl⟩ := h; exact ⟨_, rfl⟩
theorem vBin_of {o : Operator} {a b : Expr} (h : vBin e = some (a, o, b)) : ∃ p, e = .BinOp a o b p := by cases e <;> simp [vBin] at h; obtain ⟨rfl, rfl, rfl⟩ := h; exact ⟨_, rfl⟩
theorem vCmp1_of {o : CmpOp} {a b : Expr} (h : vCmp1 e = some (a, o, b)) : ∃ p, e = .Compare a [o] [b] p := by
  unfold vCmp1 at h
  split at h
  · cases h; exact ⟨_, rfl⟩
  · cases h
theorem vCmp2_of {o p : CmpOp} {a b c : Expr} (h : vCmp2 e = some (a, o, p, b, c)) : ∃ q, e = .Compare a [o, p] [b, c] q := by
  unfold vCmp2 at h
  split at h
  · cases h; exact ⟨_, rfl⟩
  · cases h
theorem vBool_of {o : BoolOp} {vs : List Expr} (h : vBool e = some (o, vs)) : ∃ p, e = .BoolOp o vs p := by cases e <;> simp [vBool] at h; obtain ⟨rfl, rfl⟩ := h; exact ⟨_, rfl⟩
theorem vIf_of {a b c : Expr} (h : vIf e = some (c, a, b)) : ∃ p, e = .IfExp c a b p := by cases e <;> simp [vIf] at h; obtain ⟨rfl, rfl, rfl⟩ := h; exact ⟨_, rfl⟩
theorem vTup_of {vs : List Expr} (h : vTup e = some vs) : ∃ k p, e = .Tuple vs k p := by cases e <;> simp [vTup] at h; subst h; exact ⟨_, _, rfl⟩
theorem vLst_of {vs : List Expr} (h : vLst e = some vs) : ∃ p, e = .List vs p := by cases e <;> simp [vLst] at h; subst h; exact ⟨_, rfl⟩
theorem vSub_of {a b : Expr} (h : vSub e = some (a, b)) : ∃ p, e = .Subscript a b p := by cases e <;> simp [vSub] at h; obtain ⟨rfl, rfl⟩ := h; exact ⟨_, rfl⟩
theorem vSlc_of {l u : Option Expr} (h : vSlc e = some (l, u)) : ∃ p, e = .Slice l u none p := by
  unfold vSlc at h
  split at h
  · cases h; exact ⟨_, rfl⟩
  · cases h
theorem vCall_of {x : Str} {es : List Expr} (h : vCall e = some (x, es)) : ∃ p q, e = .Call (.Name x p) es [] q := by
  unfold vCall at h
  split at h
  · cases h; exact ⟨_, _, rfl⟩
  · cases h
theorem vMeth_of {o : Expr} {m : Str} {es : List Expr} {b : Bool} (h : vMeth e = some (o, m, es, b)) : ∃ p q, e = .Call (.Attribute o m p) es [] q ∧ (p.endLine == q.line) = b := by
  unfold vMeth at h
  split at h
  · cases h; exact ⟨_, _, rfl, rfl⟩
  · cases h
theorem vLc_of {a t i : Expr} {ifs : List Expr} {s : Scope} (h : vLc e = some (a, t, i, ifs, s)) : ∃ p, e = .ListComp a [⟨t, i, ifs, 0⟩] s p := by
  unfold vLc at h
  split at h
  · split at h
    · rename_i z; subst z; cases h; exact ⟨_, rfl⟩
    · cases h
  · cases h
theorem vLc2_of {a t i t1 i1 : Expr} {ifs ifs1 : List Expr} {s : Scope} (h : vLc2 e = some (a, (t, i, ifs), (t1, i1, ifs1), s)) : ∃ p, e = .ListComp a [⟨t, i, ifs, 0⟩, ⟨t1, i1, ifs1, 0⟩] s p := by
  unfold vLc2 at h
  split at h
  · split at h
    · rename_i z; obtain ⟨rfl, rfl⟩ := z; cases h; exact ⟨_, rfl⟩
    · cases h
  · cases h
theorem vDc_of {k v t i : Expr} {ifs : List Expr} {s : Scope} (h : vDc e = some (k, v, t, i, ifs, s)) : ∃ p, e = .DictComp k v [⟨t, i, ifs, 0⟩] s p := by
  unfold vDc at h
  split at h
  · split at h
    · rename_i z; subst z; cases h; exact ⟨_, rfl⟩
    · cases h
  · cases h
end

/-! ### forms -/
def nStar : Expr → Bool | .Starred .. => false | _ => true
def nCall : Expr → Bool | .Call .. => false | _ => true
def nSlice : Expr → Bool | .Slice .. => false | _ => true
def nComp : Expr → Bool | .ListComp .. => false | .SetComp .. => false | .DictComp .. => false | _ => true
def nSet : Expr → Bool | .Set .. => false | _ => true
/-- what isTrue takes as a value -/
def nTest : Expr → Bool | .UnaryOp .Not _ _ => false | .BoolOp .. => false | .IfExp .. => false | .Compare .. => false | _ => true
/-- what may stand as a test here -/
def tOk : Expr → Bool | .IfExp .. => false | _ => true
section
variable {e o : Expr} {es : List Expr} {env : PySem.Env} {m : Str}
theorem star_cons (h : nStar e = true) : starEach (e :: es) env = (false, eval e env) :: starEach es env := by
  cases e <;> first | rfl | simp [nStar] at h
theorem star_all : ∀ {es : List Expr}, (es.all nStar) = true → ((starEach es env).all fun x => !x.1) = true
  | [], _ => rfl
  | e :: es, h => by
    simp only [List.all_cons, Bool.and_eq_true] at h
    rw [star_cons h.1, List.all_cons, star_all h.2]
    rfl
theorem back_any {pos : Pos} (h : (es.all nStar) = true) : (backTo pos (starEach es env)).any (·.1) = false := by
  have := star_all (env := env) h
  unfold backTo
  rw [List.any_map]
  generalize starEach es env = l at this
  induction l with
  | nil => rfl
  | cons a r ih =>
    simp only [List.all_cons, Bool.and_eq_true, Bool.not_eq_true'] at this
    rw [List.any_cons, ih this.2, Bool.or_false]
    exact this.1
theorem back_all {pos : Pos} (h : (es.all nStar) = true) : (backTo pos (starEach es env)).all (fun x => !x.1) = true := by
  have := star_all (env := env) h
  unfold backTo
  rw [List.all_map]
  exact this
theorem base_of (h : nCall o = true) : attributeBase o m env (eval o env) = eval o env := by
  cases o <;> first | rfl | simp [nCall] at h
theorem plain_ix {b : Expr} (h : nSlice b = true) : PlainIx b := by
  cases b <;> first | (intro _ _; rfl) | simp [nSlice] at h
theorem no_swap {t : Option Expr} {l : Nat} (h : nComp e = true) : swapsWith e t l env = pure false := by
  cases e <;> first | rfl | simp [nComp] at h
theorem no_fold (h : nSet e = true) : ∀ x, foldedSetIterable e env x = pure x := by
  intro x
  cases e <;> first | rfl | simp [nSet] at h
theorem plain_test (h : nTest e = true) : ∀ whole, PySem.isTrue e env whole = (do let v ← whole; standAt e.pos; holding [v] (truthy v)) := by
  intro whole
  cases e <;> first | rfl | (simp [nTest] at h; done) | skip
  rename_i o a p
  cases o <;> first | rfl | simp [nTest] at h
end

/-! ### scopes -/
def visB (sc : Scope) (x : Str) : Bool := match sc.names.lookup x with | some .local => true | some .cell => true | some .free => true | _ => false
def locB (sc : Scope) (x : Str) : Bool := match sc.names.lookup x with | some .local => true | some .cell => true | _ => false
def glB (sc : Scope) (x : Str) : Bool := match sc.names.lookup x with | some .globalImplicit => true | _ => false
/-- what the text's scope tells of the scope as it runs -/
structure ScRel (sc : Scope) (env : PySem.Env) : Prop where
  vis : ∀ x, visB sc x = true → Vis env.scope x
  loc : ∀ x, locB sc x = true → Loc env.scope x
  locL : ∀ x, sc.names.lookup x = some .local → env.scope.names.lookup x = some .local
  gl : ∀ x, glB sc x = true → env.kindOf x = some .globalImplicit
  cf : ∀ x, (sc.names.lookup x = some .cell ∨ sc.names.lookup x = some .free) → env.scope.names.lookup x = some .cell ∨ env.scope.names.lookup x = some .free
theorem ScRel.refl {env : PySem.Env} : ScRel env.scope env := by
  refine ⟨fun x h => ?_, fun x h => ?_, fun x h => h, fun x h => ?_, fun x h => h⟩
  · unfold visB at h
    split at h
    · rename_i z; exact .inl z
    · rename_i z; exact .inr (.inl z)
    · rename_i z; exact .inr (.inr z)
    · cases h
  · unfold locB at h
    split at h
    · rename_i z; exact .inl z
    · rename_i z; exact .inr z
    · cases h
  · unfold glB at h
    split at h
    · rename_i z; exact z
    · cases h
theorem relabel_keep {env : PySem.Env} : ∀ {names : List (Str × NameKind)} {x : Str} {k : NameKind}, k ≠ .free → names.lookup x = some k →
    (names.map fun (n, k) => if (k == NameKind.free && env.scope.kind == .function && env.kindOf n == some .cell) then (n, NameKind.cell) else (n, k)).lookup x = some k
  | [], _, _, _, h => by simp at h
  | (n, k0) :: r, x, k, hk, h => by
    show List.lookup x ((if (k0 == NameKind.free && env.scope.kind == .function && env.kindOf n == some .cell) = true then (n, NameKind.cell) else (n, k0)) :: _) = _
    cases hx : x == n with
    | true =>
      simp only [List.lookup_cons, hx] at h
      have h' : k0 = k := Option.some.inj h
      subst h'
      have hf : (k0 == NameKind.free && env.scope.kind == .function && env.kindOf n == some .cell) = false := by
        have : (k0 == NameKind.free) = false := by cases k0 <;> first | rfl | exact absurd rfl hk
        rw [this]
        rfl
      rw [hf, if_neg Bool.false_ne_true]
      simp [List.lookup_cons, hx]
    | false =>
      simp only [List.lookup_cons, hx] at h
      have ih := relabel_keep (env := env) hk h
      by_cases hc : (k0 == NameKind.free && env.scope.kind == .function && env.kindOf n == some .cell) = true
      · rw [if_pos hc]; simp only [List.lookup_cons, hx]; exact ih
      · rw [if_neg hc]; simp only [List.lookup_cons, hx]; exact ih
theorem relabel_free {env : PySem.Env} : ∀ {names : List (Str × NameKind)} {x : Str}, names.lookup x = some .free →
    (names.map fun (n, k) => if (k == NameKind.free && env.scope.kind == .function && env.kindOf n == some .cell) then (n, NameKind.cell) else (n, k)).lookup x = some .cell ∨
    (names.map fun (n, k) => if (k == NameKind.free && env.scope.kind == .function && env.kindOf n == some .cell) then (n, NameKind.cell) else (n, k)).lookup x = some .free
  | [], _, h => by simp at h
  | (n, k0) :: r, x, h => by
    show List.lookup x ((if (k0 == NameKind.free && env.scope.kind == .function && env.kindOf n == some .cell) = true then (n, NameKind.cell) else (n, k0)) :: _) = _ ∨ List.lookup x ((if (k0 == NameKind.free && env.scope.kind == .function && env.kindOf n == some .cell) = true then (n, NameKind.cell) else (n, k0)) :: _) = _
    cases hx : x == n with
    | true =>
      simp only [List.lookup_cons, hx] at h
      cases h
      by_cases hc : (NameKind.free == NameKind.free && env.scope.kind == .function && env.kindOf n == some .cell) = true
      · left; rw [if_pos hc]; simp [List.lookup_cons, hx]
      · right; rw [if_neg hc]; simp [List.lookup_cons, hx]
    | false =>
      simp only [List.lookup_cons, hx] at h
      have ih := relabel_free (env := env) h
      by_cases hc : (k0 == NameKind.free && env.scope.kind == .function && env.kindOf n == some .cell) = true
      · rw [if_pos hc]; simp only [List.lookup_cons, hx]; exact ih
      · rw [if_neg hc]; simp only [List.lookup_cons, hx]; exact ih
theorem ScRel.comp {scope : Scope} {cl : List (Str × Addr)} {C : Addr} {env : PySem.Env} : ScRel scope (compEnvC scope cl C env) := by
  have keep : ∀ {x : Str} {k : NameKind}, k ≠ .free → scope.names.lookup x = some k → (compEnvC scope cl C env).scope.names.lookup x = some k := fun hk h => relabel_keep hk h
  have free : ∀ {x : Str}, scope.names.lookup x = some .free → (compEnvC scope cl C env).scope.names.lookup x = some .cell ∨ (compEnvC scope cl C env).scope.names.lookup x = some .free := fun h => relabel_free h
  refine ⟨fun x h => ?_, fun x h => ?_, fun x h => keep (by decide) h, fun x h => ?_, fun x h => ?_⟩
  · unfold visB at h
    split at h
    · rename_i z; exact .inl (keep (by decide) z)
    · rename_i z; exact .inr (.inl (keep (by decide) z))
    · rename_i z; exact .inr (free z)
    · cases h
  · unfold locB at h
    split at h
    · rename_i z; exact .inl (keep (by decide) z)
    · rename_i z; exact .inr (keep (by decide) z)
    · cases h
  · unfold glB at h
    split at h
    · rename_i z; exact keep (by decide) z
    · cases h
  · rcases h with h | h
    · exact .inl (keep (by decide) h)
    · exact free h
theorem blkOk_rel {N : List Str} {sc scope : Scope} {env : PySem.Env} {own : List (Str × Nat)} (r : ScRel sc env) (h : blkC N sc scope own = true) : BlkOk N env.scope scope own := by
  have b := blkOk_by h
  exact ⟨b.kind, b.uniq, b.ix, fun y hy e => r.cf _ (b.free y hy e), b.own⟩

/-! ### the look -/
structure G where
  gn : Nat → Option Str
  bn : List Str
def nameOk (N : List Str) (sc : Scope) (i : Nat) (x : Str) : Bool := decide (N[i]? = some x) && visB sc x && !(x == ("__debug__" : Str)) && !(x == ("__classdict__" : Str))
def litOk : Lit → Const → Bool
  | .int i, .int j => decide (i = j)
  | .str x, .str y => decide (x = y)
  | .bl a, .bool b => a == b
  | .non, .none => true
  | _, _ => false
def opOf : Bin → Option Operator
  | .add => some .Add | .sub => some .Sub | .mul => some .Mult | .mod => some .Mod | .fdiv => some .FloorDiv | .pow => some .Pow | .shl => some .LShift | _ => none
def cmpOf : Bin → Option CmpOp
  | .eq => some .Eq | .ne => some .NotEq | .lt => some .Lt | .le => some .LtE | .gt => some .Gt | .ge => some .GtE | .mem => some .In | .nmem => some .NotIn | _ => none
def unNm : Un → Option Str
  | .len => some "len" | .sum => some "sum" | .max => some "max" | .min => some "min" | .all => some "all" | .any => some "any" | .sorted => some "sorted"
  | .tuple => some "tuple" | .list => some "list" | .int => some "int" | .bool => some "bool" | _ => none
def isCst : Un → Option (CmpOp × Const)
  | .isNon => some (.Is, .none) | .notNon => some (.IsNot, .none) | .notTrue => some (.IsNot, .bool true) | .notFalse => some (.IsNot, .bool false) | _ => none
def glOk (g : G) (sc : Scope) (x : Str) : Bool := glB sc x && g.bn.contains x
def tyOk (g : G) (sc : Scope) (t : Ty) (e : Expr) : Bool := match vName e with | some x => decide (x = Str.ofString (tyName t)) && glOk g sc x | none => false
def tysOk (g : G) (sc : Scope) : List Ty → List Expr → Bool
  | [], [] => true
  | t :: ts, e :: es => tyOk g sc t e && nStar e && tysOk g sc ts es
  | _, _ => false
def tgNames (N : List Str) (sc : Scope) : List Nat → List Expr → Bool
  | [], [] => true
  | i :: is, e :: es => (match vName e with | some x => decide (N[i]? = some x) && locB sc x | none => false) && tgNames N sc is es
  | _, _ => false
def cTg (N : List Str) (sc : Scope) : Tg → Expr → Bool
  | .n i, e => match vName e with | some x => decide (N[i]? = some x) && locB sc x | none => false
  | .t is, e => match vTup e with | some es => tgNames N sc is es | none => false
def ownP (N : List Str) (own : List Nat) : List (Str × Nat) := own.map fun i => (N.getD i Str.empty, i)
section
variable (g : G) (N : List Str)
mutual
def cE : E → Scope → Expr → Bool
  | .nm i, sc, e => match vName e with | some x => nameOk N sc i x | none => false
  | .pk i, sc, e => match vName e with | some x => nameOk N sc i x | none => false
  | .cst l, _, e => match vConst e with | some c => litOk l c | none => false
  | .un f a, sc, e =>
    match f with
    | .neg => match vUn e with | some (o, e1) => decide (o = .USub) && cE a sc e1 | none => false
    | .not => match vUn e with | some (o, e1) => decide (o = .Not) && cE a sc e1 && tOk e1 | none => false
    | .ssort => match vCall e with
      | some (x, [e1]) => match vCall e1 with
        | some (y, [e2]) => decide (x = ("sorted" : Str)) && glOk g sc x && decide (y = ("set" : Str)) && glOk g sc y && nStar e2 && cE a sc e2
        | _ => false
      | _ => false
    | f => match isCst f with
      | some (op, k) => match vCmp1 e with | some (e1, o, e2) => decide (o = op) && decide (vConst e2 = some k) && cE a sc e1 | none => false
      | none => match vCall e with
        | some (x, [e1]) => decide (unNm f = some x) && glOk g sc x && nStar e1 && cE a sc e1
        | _ => false
  | .bin f a b, sc, e =>
    match opOf f with
    | some op => match vBin e with | some (e1, o, e2) => decide (o = op) && cE a sc e1 && cE b sc e2 | none => false
    | none => match cmpOf f with
      | some op => match vCmp1 e with | some (e1, o, e2) => decide (o = op) && !behindInMarks op e2 && cE a sc e1 && cE b sc e2 | none => false
      | none => match f with
        | .idx => match vSub e with | some (e1, e2) => nSlice e2 && cE a sc e1 && cE b sc e2 | none => false
        | .index => match vMeth e with
          | some (e1, m, [e2], ln) => decide (m = ("index" : Str)) && ln && nCall e1 && nStar e2 && cE a sc e1 && cE b sc e2
          | _ => false
        | .max2 => match vCall e with
          | some (x, [e1, e2]) => decide (x = ("max" : Str)) && glOk g sc x && nStar e1 && nStar e2 && cE a sc e1 && cE b sc e2
          | _ => false
        | .min2 => match vCall e with
          | some (x, [e1, e2]) => decide (x = ("min" : Str)) && glOk g sc x && nStar e1 && nStar e2 && cE a sc e1 && cE b sc e2
          | _ => false
        | _ => false
  | .chain f f2 a b c, sc, e => match vCmp2 e with
    | some (e1, o, p, e2, e3) => decide (cmpOf f = some o) && decide (cmpOf f2 = some p) && !lastMarks [o, p] [e2, e3] && cE a sc e1 && cE b sc e2 && cE c sc e3
    | none => false
  | .and es, sc, e => match vBool e with | some (o, vs) => decide (o = .And) && vs.all tOk && cEs es sc vs | none => false
  | .or es, sc, e => match vBool e with | some (o, vs) => decide (o = .Or) && vs.all tOk && cEs es sc vs | none => false
  | .ife c a b, sc, e => match vIf e with | some (e1, e2, e3) => tOk e1 && cE c sc e1 && cE a sc e2 && cE b sc e3 | none => false
  | .tup es, sc, e => match vTup e with | some vs => cEs es sc vs | none => false
  | .lst es, sc, e => match vLst e with | some vs => cEs es sc vs | none => false
  | .slc a lo hi, sc, e => match vSub e with
    | some (e1, e2) => match vSlc e2 with | some (l, u) => cE a sc e1 && cPart lo sc l && cPart hi sc u | none => false
    | none => false
  | .isi a tys, sc, e => match vCall e with
    | some (x, [e1, e2]) => decide (x = ("isinstance" : Str)) && glOk g sc x && nStar e1 && nStar e2 && cE a sc e1 && decide (tys.length ≤ 100) &&
      (match vTup e2 with | some ts => tysOk g sc tys ts | none => match tys with | [t] => tyOk g sc t e2 | _ => false)
    | _ => false
  | .call f es, sc, e => match vCall e with
    | some (x, e1 :: vs) => decide (g.gn f = some x) && glB sc x && !(x == ("__debug__" : Str)) && cEs es sc (e1 :: vs)
    | _ => false
  | .lc own tg it cond elt, sc, e => match vLc e with
    | some (e1, t, i, ifs, s) => blkC N sc s (ownP N own) && tgIn own tg && nSet i && cTg N s tg t && cI it sc t i && cCond cond s ifs && cE elt s e1
    | none => false
  | .lc2 own own1 tg it cond tg1 it1 cond1 elt, sc, e => match vLc2 e with
    | some (e1, (t, i, ifs), (t1, i1, ifs1), s) => blkC N sc s (ownP N own) && tgIn own tg && tgIn own1 tg1 && own1.all (fun j => own.contains j) && nSet i && nSet i1 && cTg N s tg t && cI it sc t i && cCond cond s ifs && cTg N s tg1 t1 && cI it1 s t1 i1 && cCond cond1 s ifs1 && cE elt s e1
    | none => false
  | .dget i k, sc, e => match vSub e with
    | some (e1, e2) => (match vName e1 with | some x => nameOk N sc i x | none => false) && nSlice e2 && cE k sc e2
    | none => false
  | .dgetd i k d, sc, e => match vMeth e with
    | some (e1, m, [e2, e3], ln) => (match vName e1 with | some x => nameOk N sc i x | none => false) && decide (m = ("get" : Str)) && ln && nStar e2 && nStar e3 && cE k sc e2 && cE d sc e3
    | _ => false
  | .din neg k i, sc, e => match vCmp1 e with
    | some (e1, o, e2) => decide (o = if neg then .NotIn else .In) && (match vName e2 with | some x => nameOk N sc i x | none => false) && cE k sc e1
    | none => false
  | .dsorted i, sc, e => match vCall e with
    | some (x, [e1]) => decide (x = ("sorted" : Str)) && glOk g sc x && nStar e1 && (match vName e1 with | some y => nameOk N sc i y | none => false)
    | _ => false
  | .midx i a b, sc, e => match vSub e with
    | some (e0, e2) => match vSub e0 with
      | some (e1, e3) => (match vName e1 with | some x => nameOk N sc i x | none => false) && nSlice e2 && nSlice e3 && cE a sc e3 && cE b sc e2
      | none => false
    | none => false
def cEs : Es → Scope → List Expr → Bool
  | .nil, _, [] => true
  | .cons e es, sc, v :: vs => nStar v && cE e sc v && cEs es sc vs
  | _, _, _ => false
def cPart : Oe → Scope → Option Expr → Bool
  | .no, _, none => true
  | .yes e, sc, some v => cE e sc v
  | _, _, _ => false
def cCond : Oe → Scope → List Expr → Bool
  | .no, _, [] => true
  | .yes e, sc, [v] => tOk v && cE e sc v
  | _, _, _ => false
/-- t: the target that it is walked with -/
def cI : I → Scope → Expr → Expr → Bool
  | .ex e, sc, _, v => cE e sc v
  | .chars e, sc, _, v => cE e sc v
  | .rng a, sc, _, v => match vCall v with
    | some (x, [e1]) => decide (x = ("range" : Str)) && glOk g sc x && nStar e1 && cE a sc e1
    | _ => false
  | .rng2 a b, sc, _, v => match vCall v with
    | some (x, [e1, e2]) => decide (x = ("range" : Str)) && glOk g sc x && nStar e1 && nStar e2 && cE a sc e1 && cE b sc e2
    | _ => false
  | .zip a b, sc, t, v => match vCall v with
    | some (x, [e1, e2]) => decide (x = ("zip" : Str)) && glOk g sc x && nStar e1 && nStar e2 && (vTup t).isSome && cE a sc e1 && cE b sc e2
    | _ => false
  | .enum a, sc, t, v => match vCall v with
    | some (x, [e1]) => decide (x = ("enumerate" : Str)) && glOk g sc x && nStar e1 && (vTup t).isSome && cE a sc e1
    | _ => false
  | .keys i, sc, _, v => match vName v with | some x => nameOk N sc i x | none => false
end
end
end Bw

/-! Bw, part F: an expression of the text does what ours says. -/
namespace Bw
open PySem PySem.Spec PyProof.Rows L2

abbrev RX (X : Cx) (P : Addr → Prop) (F : List Addr) (ρ : Env) (σ : L2.St) (H : Hp) : Prop := R X.prog X.w X.K P F ρ σ H
def freshE : E → Bool
  | .lst _ => true | .lc .. => true | .lc2 .. => true | .slc .. => true | .dsorted _ => true
  | .un f _ => decide (f = .list) || decide (f = .sorted)
  | .bin f _ _ => decide (f = .add) || decide (f = .mul)
  | _ => false
def RepR (prog : Program) (w : World) (K : W.Frag) (H H' : Hp) (P : Addr → Prop) (v : V) : RV → Prop
  | .dat d => Da K H' P v d
  | .own ds => Fresh K H H' P v (.list ds)
  | .dct n kvs => ∃ a, v = .ref a ∧ H a = none ∧ DctAt prog w K H' (fun b => P b ∧ b ≠ a) a n kvs
/-- what a def promises: from data what cf says, and all that stood stands -/
def spF (prog : Program) (w : World) (K : W.Frag) (cf : Nat → List D → Option RV) (id n : Nat) : Sp := fun vs H Q _ => vs.length = n ∧ ∃ P ds r, (∀ b, H b = none → P b) ∧ DaL K H P vs ds ∧ cf id ds = some r ∧
  ∀ v H', Same H H' → RepR prog w K H H' P v r → Q v H'
/-- where a text stands -/
structure Gd (g : G) (cf : Nat → List D → Option RV) (sc : Scope) (X : Cx) : Prop where
  calm : X.calm = true
  nd : X.N.Nodup
  hu : X.A.units + 70 < cLine
  rel : ScRel sc X.env
  bl : ∀ x, g.bn.contains x = true → X.mg x = none
  fs : ∀ x, locB sc x = true → X.fn x = true ∨ X.env.scope.names.lookup x = some .local
  fn : ∀ id x, g.gn id = some x → ∃ (k : Nat) (f : Addr) (fd : FuncData) (ps : List Str), X.mg x = some (.ref f) ∧ W.keepIn X.K (.ref f) = true ∧ Binds X.K fd ps [] ∧ Room k X.A ∧
    FnOk X.prog X.w X.K X.mg X.base CX0 k f fd ps (spF X.prog X.w X.K cf id ps.length) ∧ ∀ ds r, cf id ds = some r → ds.length = ps.length
theorem Gd.blk {g : G} {cf : Nat → List D → Option RV} {sc scope : Scope} {X : Cx} (h : Gd g cf sc X) (s : Shared) (H : Hp) (C : Addr) (cl : List (Str × Addr)) (fp : List Addr) :
    Gd g cf scope (X.blk s H scope (compEnvC scope cl C X.env) fp) where
  calm := h.calm
  nd := h.nd
  hu := h.hu
  rel := ScRel.comp
  bl := h.bl
  fs := fun x e => by
    unfold locB at e
    split at e
    · rename_i z
      exact .inr ((ScRel.comp (scope := scope) (cl := cl) (C := C) (env := X.env)).locL x z)
    · rename_i z
      refine .inl ?_
      show (scope.names.lookup x == some NameKind.cell) = true
      rw [z]
      rfl
    · cases e
  fn := h.fn
def rdE (X : Cx) (cf : Nat → List D → Option RV) (b : Bool) (c : E) : TE := fun σ H Q => ∃ P F ρ d, RX X P F ρ σ H ∧ evE cf c b ρ = some d ∧
  ∀ v H', Same H H' → DaB b X.K H' (PF P F) v d → (freshE c = true → ∀ ds, d = .list ds → Fresh X.K H H' (PF P F) v d) → Q v H'
def rdT (X : Cx) (cf : Nat → List D → Option RV) (c : E) : TT := fun σ H Q => ∃ P F ρ k, RX X P F ρ σ H ∧ evE cf c false ρ = some (.bool k) ∧ ∀ H', Same H H' → Q k H'
structure OkE (X : Cx) (cf : Nat → List D → Option RV) (c : E) (e : Expr) : Prop where
  pe : ∀ b, PE X e (rdE X cf b c)
  pt : tOk e = true → PT X e (rdT X cf c)

section
variable {g : G} {cf : Nat → List D → Option RV} {sc : Scope} {X : Cx} {P : Addr → Prop} {F : List Addr} {ρ : Env} {σ : L2.St} {H : Hp}
theorem R.pf {prog : Program} {w : World} {K : W.Frag} (r : R prog w K P F ρ σ H) : ∀ b, H b = none → PF P F b := fun b h => ⟨r.fresh b h, fun z => by
  obtain ⟨o, e, _⟩ := r.trk b z
  rw [h] at e
  cases e⟩
theorem Fresh.back {K : W.Frag} {H0 H H' : Hp} {P : Addr → Prop} {v : V} {d : D} (s : Same H0 H) (f : Fresh K H H' P v d) : Fresh K H0 H' P v d := by
  obtain ⟨p, vs, ds, h1, h2, h3, h4⟩ := f.ex
  exact ⟨p, vs, ds, h1, h2, s.free h3, h4⟩
theorem _root_.L2.PE.mono {e : Expr} {t t' : TE} (h : PE X e t) (m : ∀ σ H Q, t' σ H Q → t σ H Q) : PE X e t' := ⟨fun pins s σ H Q I q => h.run pins s σ H Q I (m _ _ _ q)⟩
theorem _root_.L2.PT.mono {e : Expr} {t t' : TT} (h : PT X e t) (m : ∀ σ H Q, t' σ H Q → t σ H Q) : PT X e t' := ⟨fun pins s σ H Q I q => h.run pins s σ H Q I (m _ _ _ q)⟩
theorem _root_.L2.PA.mono {e : List Expr} {t t' : TA} (h : PA X e t) (m : ∀ σ H Q, t' σ H Q → t σ H Q) : PA X e t' := ⟨fun pos pins s σ H Q I q => h.run pos pins s σ H Q I (m _ _ _ q)⟩
/-- a part's reading, from ours -/
theorem rd_in {c : E} {b : Bool} {d : D} {Q : VK} (r : RX X P F ρ σ H) (e : evE cf c b ρ = some d) (q : ∀ v H', Same H H' → RX X P F ρ σ H' → DaB b X.K H' (PF P F) v d → (freshE c = true → ∀ ds, d = .list ds → Fresh X.K H H' (PF P F) v d) → Q v H') : rdE X cf b c σ H Q :=
  ⟨P, F, ρ, d, r, e, fun v H' s da f => q v H' s (r.same s) da f⟩
/-- a test by its value -/
theorem OkE.of_pe {c : E} {e : Expr} (h : ∀ b, PE X e (rdE X cf b c)) (ht : nTest e = true) : OkE X cf c e := ⟨h, fun _ => (pt_val (h false) (plain_test ht)).mono fun σ H Q ⟨P, F, ρ, k, r, ev, q⟩ =>
  rd_in r ev fun v H' s _ da _ => by
    cases da
    exact ⟨k, rfl, q H' s⟩⟩
theorem nameOk_of {N : List Str} {sc : Scope} {env : PySem.Env} {i : Nat} {x : Str} (rl : ScRel sc env) (h : nameOk N sc i x = true) : N[i]? = some x ∧ Vis env.scope x ∧ (x == ("__debug__" : Str)) = false ∧ (x == ("__classdict__" : Str)) = false := by
  unfold nameOk at h
  simp only [Bool.and_eq_true, Bool.not_eq_true', decide_eq_true_eq] at h
  exact ⟨h.1.1.1, rl.vis x h.1.1.2, h.1.2, h.2⟩
theorem pe_slot (G : Gd g cf sc X) {i : Nat} {x : Str} {p : Pos} (h : nameOk X.N sc i x = true) : PE X (.Name x p) (tVar i) := by
  obtain ⟨h1, h2, h3, h4⟩ := nameOk_of G.rel h
  exact pe_var h1 h2 h3 h4
theorem sE_nm (G : Gd g cf sc X) {i : Nat} {x : Str} {p : Pos} (h : nameOk X.N sc i x = true) : OkE X cf (.nm i) (.Name x p) := by
  refine .of_pe (fun b => (pe_slot G h).mono fun σ H Q ⟨P, F, ρ, d, r, ev, q⟩ => ?_) rfl
  obtain ⟨v, h1, h2⟩ := r.dat (show rdD ρ i = some d from ev)
  exact ⟨v, h1, q v H (Same.refl _) (.of h2) (by intro z; cases z)⟩
theorem sE_pk (G : Gd g cf sc X) {i : Nat} {x : Str} {p : Pos} (h : nameOk X.N sc i x = true) : OkE X cf (.pk i) (.Name x p) := by
  refine .of_pe (fun b => (pe_slot G h).mono fun σ H Q ⟨P, F, ρ, d, r, ev, q⟩ => ?_) rfl
  unfold evE at ev
  cases b with
  | false => cases ev
  | true =>
    rw [if_pos rfl, Option.map_eq_some_iff] at ev
    obtain ⟨ds, ev, rfl⟩ := ev
    obtain ⟨a, vs, h1, h2, h3, h4, h5, h6⟩ := r.own ev
    exact ⟨_, h1, q _ H (Same.refl _) (.inr ⟨a, vs, ds, rfl, rfl, h4, h5, h6⟩) (by intro z; cases z)⟩
theorem sE_cst {l : Lit} {c : Const} {j : Nat} {p : Pos} (h : litOk l c = true) : OkE X cf (.cst l) (.Constant c j p) := by
  refine .of_pe (fun b => ?_) rfl
  cases l with
  | int i =>
    cases c <;> simp [litOk] at h
    subst h
    exact pe_int.mono fun σ H Q ⟨P, F, ρ, d, r, ev, q⟩ => by cases ev; exact q _ H (Same.refl _) (.of (.int _)) (by intro z; cases z)
  | str i =>
    cases c <;> simp [litOk] at h
    subst h
    exact pe_str.mono fun σ H Q ⟨P, F, ρ, d, r, ev, q⟩ => by cases ev; exact q _ H (Same.refl _) (.of (.str _)) (by intro z; cases z)
  | bl i =>
    cases c <;> simp [litOk] at h
    subst h
    exact pe_bl.mono fun σ H Q ⟨P, F, ρ, d, r, ev, q⟩ => by cases ev; exact q _ H (Same.refl _) (.of (.bl _)) (by intro z; cases z)
  | non =>
    cases c <;> simp [litOk] at h
    exact pe_non.mono fun σ H Q ⟨P, F, ρ, d, r, ev, q⟩ => by cases ev; exact q _ H (Same.refl _) (.of .non) (by intro z; cases z)
theorem evE_flag {c : E} {b b' : Bool} {d : D} (h : evE cf c b ρ = some d) (hd : ∀ ds, d ≠ .list ds) : evE cf c b' ρ = some d := by
  cases c with
  | pk i =>
    unfold evE at h
    cases b with
    | false => cases h
    | true =>
      rw [if_pos rfl, Option.map_eq_some_iff] at h
      obtain ⟨ds, _, rfl⟩ := h
      exact absurd rfl (hd ds)
  | _ =>
    unfold evE at h ⊢
    exact h
theorem un_split {f : Un} {a : E} {b : Bool} {d : D} (h : evE cf (.un f a) b ρ = some d) : ∃ x, evE cf a true ρ = some x ∧ unF f x = some d := by
  unfold evE at h
  exact Option.bind_eq_some_iff.mp h
/-- one operand's rule to ours -/
theorem un_fin {f : Un} {a : E} {b : Bool} {x d : D} {v : V} {H1 : Hp} {Q : VK} (r : RX X P F ρ σ H) (hd : unF f x = some d) (s : Same H H1) (da : DaO X.K H1 (PF P F) v x)
    (q : ∀ v H', Same H H' → DaB b X.K H' (PF P F) v d → (freshE (.un f a) = true → ∀ ds, d = .list ds → Fresh X.K H H' (PF P F) v d) → Q v H') : rUn X.K f v H1 Q :=
  ⟨PF P F, x, d, (r.same s).pf, da, hd, fun u H2 s2 du fr => q u H2 (s.trans s2) (.of du) fun z ds e => (fr (by simpa [freshE] using z)).back s⟩
theorem sE_neg {a : E} {e : Expr} {p : Pos} (ha : OkE X cf a e) : OkE X cf (.un .neg a) (.UnaryOp .USub e p) := by
  refine .of_pe (fun b => (pe_un un_neg' (ha.pe true)).mono fun σ H Q ⟨P, F, ρ, d, r, ev, q⟩ => ?_) rfl
  obtain ⟨x, e1, e2⟩ := un_split ev
  exact rd_in r e1 fun v H1 s1 r1 da _ => un_fin r e2 s1 da q
theorem sE_not {a : E} {e : Expr} {p : Pos} (ha : OkE X cf a e) (ht : tOk e = true) : OkE X cf (.un .not a) (.UnaryOp .Not e p) := by
  have key : ∀ {x d}, unF .not x = some d → ∃ k, x = .bool k ∧ d = .bool (!k) := fun {x d} h => by
    cases x <;> simp [unF] at h
    exact ⟨_, rfl, h.symm⟩
  refine ⟨fun b => (pe_not (ha.pe true)).mono fun σ H Q ⟨P, F, ρ, d, r, ev, q⟩ => ?_, fun _ => (pt_not (ha.pt ht)).mono fun σ H Q ⟨P, F, ρ, k, r, ev, q⟩ => ?_⟩
  · obtain ⟨x, e1, e2⟩ := un_split ev
    obtain ⟨k, rfl, rfl⟩ := key e2
    exact rd_in r e1 fun v H1 s1 r1 da _ => by
      cases DaO.bl da
      exact ⟨k, rfl, q _ H1 s1 (.of (.bl _)) (by intro z; simp [freshE] at z)⟩
  · obtain ⟨x, e1, e2⟩ := un_split ev
    obtain ⟨k', rfl, e3⟩ := key e2
    cases e3
    exact ⟨P, F, ρ, k', r, evE_flag e1 (by intro _ z; cases z), fun H1 s1 => q H1 s1⟩
/-- x is None, is not True .. -/
theorem cst_pe {f : Un} {op : CmpOp} {k : Const} {a : E} {e e2 : Expr} {p : Pos} (ha : OkE X cf a e) (hf : isCst f = some (op, k)) (h2 : vConst e2 = some k) : OkE X cf (.un f a) (.Compare e [op] [e2] p) := by
  obtain ⟨j, p2, rfl⟩ := vConst_of h2
  have notfresh : freshE (.un f a) = false := by cases f <;> first | rfl | simp [isCst] at hf
  have main : ∃ r : R2, OpR X (compareOp op) r ∧ ∃ y, PE X (.Constant k j p2) (tC y) ∧ ∀ {P F ρ σ H x d v H1}, RX X P F ρ σ H → unF f x = some d → DaO X.K H1 (PF P F) v x → ∃ b, d = .bool b ∧ ∀ Q : VK, Q (.bl b) H1 → r v y H1 Q := by
    cases f <;> simp [isCst] at hf
    · obtain ⟨rfl, rfl⟩ := hf
      refine ⟨_, op_isN, .non, pe_non, fun {P F ρ σ H x d v H1} r h da => ?_⟩
      cases x with
      | none => cases da.non; cases h; exact ⟨true, rfl, fun Q q => ⟨rfl, by simpa using q⟩⟩
      | bool b => cases da.bl; cases h; exact ⟨false, rfl, fun Q q => ⟨rfl, by simpa using q⟩⟩
      | int b => cases da.int; cases h; exact ⟨false, rfl, fun Q q => ⟨rfl, by simpa using q⟩⟩
      | str b => cases da.str; cases h; exact ⟨false, rfl, fun Q q => ⟨rfl, by simpa using q⟩⟩
      | list ds => obtain ⟨a, vs, rfl, _⟩ := da.list; cases h; exact ⟨false, rfl, fun Q q => ⟨rfl, by simpa using q⟩⟩
      | tuple ds => obtain ⟨a, vs, rfl, _⟩ := da.tuple; cases h; exact ⟨false, rfl, fun Q q => ⟨rfl, by simpa using q⟩⟩
      | dict ds => obtain ⟨a, vs, rfl, _⟩ := da.scr; cases h; exact ⟨false, rfl, fun Q q => ⟨rfl, by simpa using q⟩⟩
    · obtain ⟨rfl, rfl⟩ := hf
      refine ⟨_, op_notN, .non, pe_non, fun {P F ρ σ H x d v H1} r h da => ?_⟩
      cases x with
      | none => cases da.non; cases h; exact ⟨false, rfl, fun Q q => ⟨rfl, by simpa using q⟩⟩
      | bool b => cases da.bl; cases h; exact ⟨true, rfl, fun Q q => ⟨rfl, by simpa using q⟩⟩
      | int b => cases da.int; cases h; exact ⟨true, rfl, fun Q q => ⟨rfl, by simpa using q⟩⟩
      | str b => cases da.str; cases h; exact ⟨true, rfl, fun Q q => ⟨rfl, by simpa using q⟩⟩
      | list ds => obtain ⟨a, vs, rfl, _⟩ := da.list; cases h; exact ⟨true, rfl, fun Q q => ⟨rfl, by simpa using q⟩⟩
      | tuple ds => obtain ⟨a, vs, rfl, _⟩ := da.tuple; cases h; exact ⟨true, rfl, fun Q q => ⟨rfl, by simpa using q⟩⟩
      | dict ds => obtain ⟨a, vs, rfl, _⟩ := da.scr; cases h; exact ⟨true, rfl, fun Q q => ⟨rfl, by simpa using q⟩⟩
    · obtain ⟨rfl, rfl⟩ := hf
      refine ⟨_, op_isnot_bl, .bl true, pe_bl, fun {P F ρ σ H x d v H1} r h da => ?_⟩
      cases x <;> simp [unF] at h
      subst h
      cases da.bl
      rename_i b
      exact ⟨!b, rfl, fun Q q => ⟨b, true, rfl, rfl, by cases b <;> simpa using q⟩⟩
    · obtain ⟨rfl, rfl⟩ := hf
      refine ⟨_, op_isnot_bl, .bl false, pe_bl, fun {P F ρ σ H x d v H1} r h da => ?_⟩
      cases x <;> simp [unF] at h
      subst h
      cases da.bl
      rename_i b
      exact ⟨b, rfl, fun Q q => ⟨b, false, rfl, rfl, by cases b <;> simpa using q⟩⟩
  obtain ⟨r0, ho, y, hy, key⟩ := main
  have hop : op = .Is ∨ op = .IsNot := by cases f <;> simp [isCst] at hf <;> simp [← hf.1]
  have hm : behindInMarks op (.Constant k j p2) = false := by rcases hop with rfl | rfl <;> rfl
  refine ⟨fun b => (pe_cmpR ho (ha.pe true) hy hm).mono fun σ H Q ⟨P, F, ρ, d, r, ev, q⟩ => ?_, fun _ => (pt_cmpR ho (ha.pe true) hy hm).mono fun σ H Q ⟨P, F, ρ, k, r, ev, q⟩ => ?_⟩
  · obtain ⟨x, e1, e2⟩ := un_split ev
    refine rd_in r e1 fun v H1 s1 r1 da _ => ?_
    obtain ⟨b', rfl, kk⟩ := key r e2 da
    exact kk _ (q _ H1 s1 (.of (.bl _)) (by rw [notfresh]; intro z; cases z))
  · obtain ⟨x, e1, e2⟩ := un_split ev
    refine rd_in r e1 fun v H1 s1 r1 da _ => ?_
    obtain ⟨b', e3, kk⟩ := key r e2 da
    cases e3
    exact kk _ ⟨k, rfl, q H1 s1⟩
theorem glOk_of (G : Gd g cf sc X) {x : Str} (h : glOk g sc x = true) : Gl X x ∧ X.mg x = none := by
  unfold glOk at h
  rw [Bool.and_eq_true] at h
  exact ⟨G.rel.gl x h.1, G.bl x h.2⟩
theorem unB_pe {f : Un} {id : String} {x : Str} {a : E} {e : Expr} {p q : Pos} (G : Gd g cf sc X) (hc : CallR X (.builtin id) (rUn1 X.K f)) (hx : glOk g sc x = true) (hs : nStar e = true) (hv : bootBuiltins x = some (.builtin id)) (ha : OkE X cf a e) (hn : x ≠ "__name__" := by decide) (hdb : (x == ("__debug__" : Str)) = false := by decide) :
    OkE X cf (.un f a) (.Call (.Name x p) [e] [] q) := by
  obtain ⟨h1, h2⟩ := glOk_of G hx
  refine .of_pe (fun b => (pe_callB hc h1 h2 hv (pa_cons (ha.pe true) pa_nil (star_cons hs)) hn hdb (star_cons hs)).mono fun σ H Q ⟨P, F, ρ, d, r, ev, qq⟩ => ?_) rfl
  obtain ⟨y, e1, e2⟩ := un_split ev
  exact rd_in r e1 fun v H1 s1 r1 da _ => ⟨v, rfl, un_fin r e2 s1 da qq⟩
theorem unT_pe {f : Un} {T : String} {x : Str} {a : E} {e : Expr} {p q : Pos} (G : Gd g cf sc X) (hc : CallR X (.type T) (rUn1 X.K f)) (hx : glOk g sc x = true) (hs : nStar e = true) (hv : bootBuiltins x = some (.type T)) (ha : OkE X cf a e) (hn : x ≠ "__name__" := by decide) (hdb : (x == ("__debug__" : Str)) = false := by decide) :
    OkE X cf (.un f a) (.Call (.Name x p) [e] [] q) := by
  obtain ⟨h1, h2⟩ := glOk_of G hx
  refine .of_pe (fun b => (pe_callTy hc h1 h2 hv (pa_cons (ha.pe true) pa_nil (star_cons hs)) hn hdb (star_cons hs)).mono fun σ H Q ⟨P, F, ρ, d, r, ev, qq⟩ => ?_) rfl
  obtain ⟨y, e1, e2⟩ := un_split ev
  exact rd_in r e1 fun v H1 s1 r1 da _ => ⟨v, rfl, un_fin r e2 s1 da qq⟩
theorem sE_un {f : Un} {x : Str} {a : E} {e : Expr} {p q : Pos} (G : Gd g cf sc X) (hf : unNm f = some x) (hx : glOk g sc x = true) (hs : nStar e = true) (ha : OkE X cf a e) : OkE X cf (.un f a) (.Call (.Name x p) [e] [] q) := by
  have hu := G.hu
  cases f <;> simp [unNm] at hf <;> subst hf
  · exact unB_pe G cu_len hx hs PySem.boot_len ha
  · exact unB_pe G (cu_sum G.calm) hx hs (by decide +kernel) ha
  · exact unB_pe G (cu_max G.calm hu) hx hs (by decide +kernel) ha
  · exact unB_pe G (cu_min G.calm hu) hx hs (by decide +kernel) ha
  · exact unB_pe G (cu_all G.calm) hx hs (by decide +kernel) ha
  · exact unB_pe G (cu_any G.calm) hx hs (by decide +kernel) ha
  · exact unB_pe G (cu_sorted hu) hx hs (by decide +kernel) ha
  · exact unT_pe G cu_tuple hx hs (by decide +kernel) ha
  · exact unT_pe G cu_list hx hs (by decide +kernel) ha
  · exact unT_pe G cu_int hx hs (by decide +kernel) ha
  · exact unT_pe G cu_bool hx hs (by decide +kernel) ha

/-! ### two operands -/
theorem bin_split {f : Bin} {a c : E} {b : Bool} {d : D} (h : evE cf (.bin f a c) b ρ = some d) : ∃ x y, evE cf a true ρ = some x ∧ evE cf c true ρ = some y ∧ binF f x y = some d := by
  unfold evE at h
  obtain ⟨x, h1, h⟩ := Option.bind_eq_some_iff.mp h
  obtain ⟨y, h2, h⟩ := Option.bind_eq_some_iff.mp h
  exact ⟨x, y, h1, h2, h⟩
theorem bin_fin {f : Bin} {a c : E} {b : Bool} {x y d : D} {v u : V} {H1 : Hp} {Q : VK} (r : RX X P F ρ σ H) (hd : binF f x y = some d) (s : Same H H1) (da : DaO X.K H1 (PF P F) v x) (db : DaO X.K H1 (PF P F) u y)
    (q : ∀ v H', Same H H' → DaB b X.K H' (PF P F) v d → (freshE (.bin f a c) = true → ∀ ds, d = .list ds → Fresh X.K H H' (PF P F) v d) → Q v H') : rBin X.K f v u H1 Q :=
  ⟨PF P F, x, y, d, (r.same s).pf, da, db, hd, fun u H2 s2 du fr => q u H2 (s.trans s2) (.of du) fun z ds e => (fr ds e (by simpa [freshE] using z)).back s⟩
theorem bin_rd {f : Bin} {a c : E} {b : Bool} {d : D} {Q : VK} (r : RX X P F ρ σ H) (ev : evE cf (.bin f a c) b ρ = some d)
    (q : ∀ v H', Same H H' → DaB b X.K H' (PF P F) v d → (freshE (.bin f a c) = true → ∀ ds, d = .list ds → Fresh X.K H H' (PF P F) v d) → Q v H') : tOp (rBin X.K f) (rdE X cf true a) (rdE X cf true c) σ H Q := by
  obtain ⟨x, y, e1, e2, e3⟩ := bin_split ev
  exact rd_in r e1 fun v H1 s1 r1 da _ => rd_in r1 e2 fun u H2 s2 r2 db _ => bin_fin r e3 (s1.trans s2) (DaO.same da s2) db q
theorem bin_bool {f : Bin} {op : CmpOp} (h : cmpOf f = some op) {x y d : D} (e : binF f x y = some d) : ∃ k, d = .bool k := by
  cases f <;> simp [cmpOf] at h
  · simp only [binF] at e; split at e <;> cases e; exact ⟨_, rfl⟩
  · simp only [binF] at e; split at e <;> cases e; exact ⟨_, rfl⟩
  · cases x <;> cases y <;> simp [binF] at e
    · subst e; exact ⟨_, rfl⟩
    · subst e; exact ⟨_, rfl⟩
    · obtain ⟨_, rfl⟩ := e; exact ⟨_, rfl⟩
  · cases x <;> cases y <;> simp [binF] at e
    subst e; exact ⟨_, rfl⟩
  · cases x <;> cases y <;> simp [binF] at e
    · subst e; exact ⟨_, rfl⟩
    · subst e; exact ⟨_, rfl⟩
  · cases x <;> cases y <;> simp [binF] at e
    subst e; exact ⟨_, rfl⟩
  · simp only [binF, Option.map_eq_some_iff] at e; obtain ⟨k, _, rfl⟩ := e; exact ⟨_, rfl⟩
  · simp only [binF, Option.map_eq_some_iff] at e; obtain ⟨k, _, rfl⟩ := e; exact ⟨_, rfl⟩
theorem cmp_rule (G : Gd g cf sc X) {f : Bin} {op : CmpOp} (h : cmpOf f = some op) : OpR X (compareOp op) (rBin X.K f) := by
  have hu := G.hu
  cases f <;> simp [cmpOf] at h <;> subst h
  · exact ob_eq hu
  · exact ob_ne hu
  · exact ob_lt hu
  · exact ob_le
  · exact ob_gt
  · exact ob_ge
  · exact ob_mem hu
  · exact ob_nmem hu
theorem op_rule {f : Bin} {op : Operator} (h : opOf f = some op) : OpR X (binaryOp op) (rBin X.K f) := by
  cases f <;> simp [opOf] at h <;> subst h
  · exact ob_add
  · exact ob_sub
  · exact ob_mul
  · exact ob_mod
  · exact ob_fdiv
  · exact ob_pow
  · exact ob_shl
theorem sE_op {f : Bin} {op : Operator} {a c : E} {e1 e2 : Expr} {p : Pos} (h : opOf f = some op) (ha : OkE X cf a e1) (hb : OkE X cf c e2) : OkE X cf (.bin f a c) (.BinOp e1 op e2 p) :=
  .of_pe (fun b => (pe_op (op_rule h) (ha.pe true) (hb.pe true)).mono fun σ H Q ⟨P, F, ρ, d, r, ev, q⟩ => bin_rd r ev q) rfl
theorem cmp_notfresh {f : Bin} {op : CmpOp} (h : cmpOf f = some op) (a c : E) : freshE (.bin f a c) = false := by cases f <;> simp [cmpOf] at h <;> rfl
theorem sE_cmp (G : Gd g cf sc X) {f : Bin} {op : CmpOp} {a c : E} {e1 e2 : Expr} {p : Pos} (h : cmpOf f = some op) (hm : behindInMarks op e2 = false) (ha : OkE X cf a e1) (hb : OkE X cf c e2) : OkE X cf (.bin f a c) (.Compare e1 [op] [e2] p) :=
  ⟨fun b => (pe_cmpR (cmp_rule G h) (ha.pe true) (hb.pe true) hm).mono fun σ H Q ⟨P, F, ρ, d, r, ev, q⟩ => bin_rd r ev q,
   fun _ => (pt_cmpR (cmp_rule G h) (ha.pe true) (hb.pe true) hm).mono fun σ H Q ⟨P, F, ρ, k, r, ev, q⟩ => bin_rd r ev fun v H' s da _ => by
    cases da
    exact ⟨k, rfl, q H' s⟩⟩
theorem sE_idx {a c : E} {e1 e2 : Expr} {p : Pos} (hs : nSlice e2 = true) (ha : OkE X cf a e1) (hb : OkE X cf c e2) : OkE X cf (.bin .idx a c) (.Subscript e1 e2 p) :=
  .of_pe (fun b => (pe_ix ob_idx (ha.pe true) (hb.pe true) (plain_ix hs)).mono fun σ H Q ⟨P, F, ρ, d, r, ev, q⟩ => bin_rd r ev q) rfl
theorem sE_max2 (G : Gd g cf sc X) {x : Str} {a c : E} {e1 e2 : Expr} {p q : Pos} (hn : x = ("max" : Str)) (hx : glOk g sc x = true) (h1 : nStar e1 = true) (h2 : nStar e2 = true) (ha : OkE X cf a e1) (hb : OkE X cf c e2) :
    OkE X cf (.bin .max2 a c) (.Call (.Name x p) [e1, e2] [] q) := by
  subst hn
  obtain ⟨g1, g2⟩ := glOk_of G hx
  refine .of_pe (fun b => (pe_callB (cu_max2 G.calm) g1 g2 (by decide +kernel) (pa_cons (ha.pe true) (pa_cons (hb.pe true) pa_nil (star_cons h2)) (star_cons h1)) (by decide) (by decide) (star_cons h1) (back_any (by simp [h2]))).mono fun σ H Q ⟨P, F, ρ, d, r, ev, qq⟩ => ?_) rfl
  obtain ⟨y, z, k1, k2, k3⟩ := bin_split ev
  exact rd_in r k1 fun v H1 s1 r1 da _ => rd_in r1 k2 fun u H2 s2 r2 db _ => ⟨v, u, rfl, bin_fin r k3 (s1.trans s2) (DaO.same da s2) db qq⟩
theorem sE_min2 (G : Gd g cf sc X) {x : Str} {a c : E} {e1 e2 : Expr} {p q : Pos} (hn : x = ("min" : Str)) (hx : glOk g sc x = true) (h1 : nStar e1 = true) (h2 : nStar e2 = true) (ha : OkE X cf a e1) (hb : OkE X cf c e2) :
    OkE X cf (.bin .min2 a c) (.Call (.Name x p) [e1, e2] [] q) := by
  subst hn
  obtain ⟨g1, g2⟩ := glOk_of G hx
  refine .of_pe (fun b => (pe_callB (cu_min2 G.calm) g1 g2 (by decide +kernel) (pa_cons (ha.pe true) (pa_cons (hb.pe true) pa_nil (star_cons h2)) (star_cons h1)) (by decide) (by decide) (star_cons h1) (back_any (by simp [h2]))).mono fun σ H Q ⟨P, F, ρ, d, r, ev, qq⟩ => ?_) rfl
  obtain ⟨y, z, k1, k2, k3⟩ := bin_split ev
  exact rd_in r k1 fun v H1 s1 r1 da _ => rd_in r1 k2 fun u H2 s2 r2 db _ => ⟨v, u, rfl, bin_fin r k3 (s1.trans s2) (DaO.same da s2) db qq⟩
theorem sE_index (G : Gd g cf sc X) {m : Str} {a c : E} {e1 e2 : Expr} {p q : Pos} (hm : m = ("index" : Str)) (hl : (p.endLine == q.line) = true) (hc : nCall e1 = true) (h2 : nStar e2 = true) (ha : OkE X cf a e1) (hb : OkE X cf c e2) :
    OkE X cf (.bin .index a c) (.Call (.Attribute e1 m p) [e2] [] q) := by
  subst hm
  have hu := G.hu
  refine .of_pe (fun b => ⟨fun pins s σ H Q I ⟨P, F, ρ, d, r, ev, qq⟩ => ?_⟩) rfl
  obtain ⟨y, z, k1, k2, k3⟩ := bin_split ev
  have few : ((backTo q (starEach [e2] X.env)).all (fun x => !x.1) && (backToKw q (keywordEach [] X.env)).all (fun x => x.1.isSome) && decide ([e2].length + ([] : List Keyword).length + (if ([] : List Keyword).isEmpty then 0 else 1) < 30)) = true := by
    rw [back_all (by simp [h2])]
    rfl
  cases y with
  | list ds =>
    simp only [binF] at k3
    split at k3
    · rename_i hs
      rw [Bool.and_eq_true] at hs
      rw [Option.map_eq_some_iff] at k3
      obtain ⟨j, k3, rfl⟩ := k3
      obtain ⟨w', w1, w2, w3⟩ := indexD_spec k3
      refine (pe_bX (T := "list") PySem.F.plainAttrs_list PySem.F.slot_list_index PySem.F.type_list_index (mt_indexD (by omega)) (ha.pe true) (pa_cons (hb.pe true) pa_nil (star_cons h2)) (base_of hc) few hl (star_cons h2) rfl).run pins s σ H Q I ?_
      refine rd_in r k1 fun v H1 s1 r1 da _ => ?_
      obtain ⟨a1, v1, rfl, g1, g2, g3⟩ := DaO.list da
      refine ⟨⟨a1, rfl, .inl ⟨rfl, v1, g1⟩⟩, rd_in r1 k2 fun u H2 s2 r2 db _ => ?_⟩
      exact ⟨a1, u, z, ds, j, w', rfl, rfl, DaO.dp (SeqAt.canLay_of_shaped hs.2) (DaO.same da s2), DaO.dp (SeqAt.canLay_of_shaped hs.1) db, hs.2, hs.1, w1, w2, w3, qq _ _ (s1.trans s2) (.of (.int _)) (by intro z; simp [freshE] at z)⟩
    · cases k3
  | tuple ds =>
    simp only [binF] at k3
    split at k3
    · rename_i hs
      rw [Bool.and_eq_true] at hs
      rw [Option.map_eq_some_iff] at k3
      obtain ⟨j, k3, rfl⟩ := k3
      obtain ⟨w', w1, w2, w3⟩ := indexD_spec k3
      refine (pe_bX (T := "tuple") PySem.F.plainAttrs_tuple PySem.F.slot_tuple_index PySem.F.type_tuple_index (mt_tupIndexD (by omega)) (ha.pe true) (pa_cons (hb.pe true) pa_nil (star_cons h2)) (base_of hc) few hl (star_cons h2) rfl).run pins s σ H Q I ?_
      refine rd_in r k1 fun v H1 s1 r1 da _ => ?_
      obtain ⟨a1, v1, rfl, g1, g2, g3⟩ := DaO.tuple da
      refine ⟨⟨a1, rfl, .inr (.inl ⟨rfl, v1, g1⟩)⟩, rd_in r1 k2 fun u H2 s2 r2 db _ => ?_⟩
      exact ⟨a1, u, z, ds, j, w', rfl, rfl, DaO.dp (SeqAt.canLay_of_shaped hs.2) (DaO.same da s2), DaO.dp (SeqAt.canLay_of_shaped hs.1) db, hs.2, hs.1, w1, w2, w3, qq _ _ (s1.trans s2) (.of (.int _)) (by intro z; simp [freshE] at z)⟩
    · cases k3
  | _ => simp [binF] at k3
theorem sE_chain (G : Gd g cf sc X) {f f2 : Bin} {o p2 : CmpOp} {a c c2 : E} {e1 e2 e3 : Expr} {p : Pos} (h1 : cmpOf f = some o) (h2 : cmpOf f2 = some p2) (hm : lastMarks [o, p2] [e2, e3] = false) (ha : OkE X cf a e1) (hb : OkE X cf c e2) (hc : OkE X cf c2 e3) :
    OkE X cf (.chain f f2 a c c2) (.Compare e1 [o, p2] [e2, e3] p) := by
  have rd : ∀ {b σ H d} {Q : VK} {P F ρ}, RX X P F ρ σ H → evE cf (.chain f f2 a c c2) b ρ = some d → (∀ k H', d = .bool k → Same H H' → Q (.bl k) H') →
      tChain (rBin X.K f) (rBin X.K f2) (rdE X cf true a) (rdE X cf true c) (rdE X cf true c2) σ H Q := fun {b σ H d Q P F ρ} r ev q => by
    unfold evE at ev
    obtain ⟨x, k1, ev⟩ := Option.bind_eq_some_iff.mp ev
    obtain ⟨y, k2, ev⟩ := Option.bind_eq_some_iff.mp ev
    obtain ⟨z, k3, ev⟩ := Option.bind_eq_some_iff.mp ev
    obtain ⟨k, rfl⟩ := bin_bool h1 k3
    refine rd_in r k1 fun v H1 s1 r1 da _ => rd_in r1 k2 fun u H2 s2 r2 db _ => ⟨PF P F, x, y, _, r2.pf, DaO.same da s2, db, k3, fun u' H3 s3 du _ => ?_⟩
    cases du
    refine ⟨k, rfl, ?_⟩
    cases k with
    | false =>
      cases ev
      exact q false H3 rfl ((s1.trans s2).trans s3)
    | true =>
      obtain ⟨z, k4, ev⟩ := Option.bind_eq_some_iff.mp ev
      obtain ⟨k', rfl⟩ := bin_bool h2 ev
      show (rdE X cf true c2) σ H3 _
      refine rd_in (r2.same s3) k4 fun w' H4 s4 r4 dc _ => ⟨PF P F, y, z, _, r4.pf, DaO.same (DaO.same db s3) s4, dc, ev, fun u' H5 s5 du _ => ?_⟩
      cases du
      exact q k' H5 rfl ((((s1.trans s2).trans s3).trans s4).trans s5)
  refine ⟨fun b => (pe_chain (cmp_rule G h1) (cmp_rule G h2) (ha.pe true) (hb.pe true) (hc.pe true) hm).mono fun σ H Q ⟨P, F, ρ, d, r, ev, q⟩ => ?_, fun _ => (pt_chain (cmp_rule G h1) (cmp_rule G h2) (ha.pe true) (hb.pe true) (hc.pe true) hm).mono fun σ H Q ⟨P, F, ρ, k, r, ev, q⟩ => ?_⟩
  · refine rd r ev fun k H' e s => ?_
    subst e
    exact q _ H' s (.of (.bl k)) (by intro z; cases z)
  · refine rd r ev fun k' H' e s => ?_
    cases e
    exact ⟨k, rfl, q H' s⟩

/-! ### argument lists, displays, calls -/
def rdEs (X : Cx) (cf : Nat → List D → Option RV) (c : Es) : TA := fun σ H Q => ∃ P F ρ ds, RX X P F ρ σ H ∧ evEs cf c ρ = some ds ∧ ∀ vs H', Same H H' → DaL X.K H' (PF P F) vs ds → Q vs H'
theorem rds_in {c : Es} {ds : List D} {Q : List V → Hp → Prop} (r : RX X P F ρ σ H) (e : evEs cf c ρ = some ds) (q : ∀ vs H', Same H H' → RX X P F ρ σ H' → DaL X.K H' (PF P F) vs ds → Q vs H') : rdEs X cf c σ H Q :=
  ⟨P, F, ρ, ds, r, e, fun vs H' s da => q vs H' s (r.same s) da⟩
theorem sEs_nil : PA X [] (rdEs X cf .nil) := pa_nil.mono fun σ H Q ⟨P, F, ρ, ds, r, ev, q⟩ => by
  cases ev
  exact q [] H (Same.refl _) .nil
theorem sEs_cons {c : E} {cs : Es} {e : Expr} {es : List Expr} (hs : nStar e = true) (h : OkE X cf c e) (t : PA X es (rdEs X cf cs)) : PA X (e :: es) (rdEs X cf (.cons c cs)) :=
  (pa_cons (h.pe false) t (star_cons hs)).mono fun σ H Q ⟨P, F, ρ, ds, r, ev, q⟩ => by
    unfold evEs at ev
    obtain ⟨d, k1, ev⟩ := Option.bind_eq_some_iff.mp ev
    obtain ⟨ds', k2, rfl⟩ := Option.map_eq_some_iff.mp ev
    exact rd_in r k1 fun v H1 s1 r1 da _ => rds_in r1 k2 fun vs H2 s2 r2 dl => q (v :: vs) H2 (s1.trans s2) (.cons (Da.same da s2) dl)
def tTupF (t : TA) : TE := fun σ H Q => t σ H fun xs H1 => xs.length ≤ sizeLine ∧ ∀ p o, H1 p = none → o.dict = none → Q (.ref p) (upd H1 p (.frz o (.tup xs)))
theorem pe_tupF {es : List Expr} {k : Nat} {pos : Pos} {t : TA} (h : PA X es t) : PE X (.Tuple es k pos) (tTupF t) := by
  refine ⟨fun pins s σ H Q I hq => ?_⟩
  refine wpAny_Tuple_spliced (thn (h.run pos pins s σ H _ I hq) fun us s1 ⟨xs, H1, I1, r, z, q⟩ => ⟨by rw [← r.length]; exact z, ?_⟩)
  exact ⟨.ref s1.heap.objs.size, _, Inv.tnew I1 (t' := s1.toks) r z, rfl, q _ _ (I1.hok.fresh (Nat.le_refl _)) rfl⟩
theorem sE_tup {cs : Es} {es : List Expr} {k : Nat} {p : Pos} (h : PA X es (rdEs X cf cs)) : OkE X cf (.tup cs) (.Tuple es k p) := by
  refine .of_pe (fun b => (pe_tupF h).mono fun σ H Q ⟨P, F, ρ, d, r, ev, q⟩ => ?_) rfl
  unfold evE at ev
  obtain ⟨ds, k1, ev⟩ := Option.bind_eq_some_iff.mp ev
  split at ev
  · rename_i hf
    cases ev
    refine rds_in r k1 fun vs H1 s1 r1 dl => ?_
    have hl : vs.length ≤ sizeLine := by rw [dl.length]; exact of_decide_eq_true hf
    exact ⟨hl, fun p o np ho => q _ _ (s1.trans (same_upd np)) (.of (Da.new_tup np ho dl hl)) (by intro z; cases z)⟩
  · cases ev
theorem sE_lst {cs : Es} {es : List Expr} {p : Pos} (h : PA X es (rdEs X cf cs)) : OkE X cf (.lst cs) (.List es p) := by
  refine .of_pe (fun b => (pe_lst h).mono fun σ H Q ⟨P, F, ρ, d, r, ev, q⟩ => ?_) rfl
  unfold evE at ev
  obtain ⟨ds, k1, ev⟩ := Option.bind_eq_some_iff.mp ev
  split at ev
  · rename_i hf
    cases ev
    refine rds_in r k1 fun vs H1 s1 r1 dl => ?_
    have hl : vs.length ≤ sizeLine := by rw [dl.length]; exact of_decide_eq_true hf
    refine ⟨hl, fun p np => ?_⟩
    have f : Fresh X.K H (upd H1 p (.lst vs)) (PF P F) (.ref p) (.list ds) := Fresh.new s1 np dl hl
    exact q _ _ (s1.trans (same_upd np)) (.of (f.da r.pf)) fun _ _ _ => f
  · cases ev
theorem sE_call (G : Gd g cf sc X) {id : Nat} {x : Str} {cs : Es} {e : Expr} {es : List Expr} {p q : Pos} (hx : g.gn id = some x) (hg : glB sc x = true) (hd : (x == ("__debug__" : Str)) = false) (hs : ((e :: es).all nStar) = true) (h : PA X (e :: es) (rdEs X cf cs)) :
    OkE X cf (.call id cs) (.Call (.Name x p) (e :: es) [] q) := by
  obtain ⟨k, f, fd, ps, h1, h2, h3, h4, h5, h6⟩ := G.fn id x hx
  simp only [List.all_cons, Bool.and_eq_true] at hs
  refine .of_pe (fun b => (pe_call h5 h4 (G.rel.gl x hg) h1 h2 h3 .nil pass0 h hd (star_cons hs.1) (back_any hs.2)).mono fun σ H Q ⟨P, F, ρ, d, r, ev, qq⟩ => ?_) rfl
  unfold evE at ev
  obtain ⟨ds, k1, ev⟩ := Option.bind_eq_some_iff.mp ev
  obtain ⟨rv, k2, ev⟩ := Option.bind_eq_some_iff.mp ev
  refine rds_in r k1 fun vs H1 s1 r1 dl => ?_
  show spF X.prog X.w X.K cf id ps.length (vs ++ []) H1 Q E0
  rw [List.append_nil]
  refine ⟨by rw [dl.length]; exact h6 ds rv k2, PF P F, ds, rv, r1.pf, dl, k2, fun v H2 s2 rep => ?_⟩
  cases rv with
  | dat d' =>
    cases ev
    exact qq v H2 (s1.trans s2) (.of rep) (by intro z; cases z)
  | own ds' =>
    cases ev
    exact qq v H2 (s1.trans s2) (.of (Fresh.da rep r1.pf)) (by intro z; cases z)
  | dct n kvs => cases ev
/-! ### and, or, if-else -/
def rdAnd (X : Cx) (cf : Nat → List D → Option RV) (c : Es) : TE := fun σ H Q => ∃ P F ρ k, RX X P F ρ σ H ∧ evAnd cf c ρ = some (.bool k) ∧ ∀ H', Same H H' → Q (.bl k) H'
def rdOr (X : Cx) (cf : Nat → List D → Option RV) (c : Es) : TE := fun σ H Q => ∃ P F ρ k, RX X P F ρ σ H ∧ evOr cf c ρ = some (.bool k) ∧ ∀ H', Same H H' → Q (.bl k) H'
def rdAndT (X : Cx) (cf : Nat → List D → Option RV) (c : Es) : TT := fun σ H Q => ∃ P F ρ k, RX X P F ρ σ H ∧ evAnd cf c ρ = some (.bool k) ∧ ∀ H', Same H H' → Q k H'
def rdOrT (X : Cx) (cf : Nat → List D → Option RV) (c : Es) : TT := fun σ H Q => ∃ P F ρ k, RX X P F ρ σ H ∧ evOr cf c ρ = some (.bool k) ∧ ∀ H', Same H H' → Q k H'
/-- what a list of parts gives: arguments, an and, an or -/
structure OkEs (X : Cx) (cf : Nat → List D → Option RV) (cs : Es) (es : List Expr) : Prop where
  pa : PA X es (rdEs X cf cs)
  an : es ≠ [] → ∀ p, PE X (.BoolOp .And es p) (rdAnd X cf cs)
  or_ : es ≠ [] → ∀ p, PE X (.BoolOp .Or es p) (rdOr X cf cs)
  anT : es.all tOk = true → es ≠ [] → ∀ p, PW X (.BoolOp .And es p) (rdAndT X cf cs)
  orT : es.all tOk = true → es ≠ [] → ∀ p, PW X (.BoolOp .Or es p) (rdOrT X cf cs)
theorem _root_.L2.PW.mono {e : Expr} {t t' : TT} (h : PW X e t) (m : ∀ σ H Q, t' σ H Q → t σ H Q) : PW X e t' := ⟨fun w pins s σ H Q I q => h.run w pins s σ H Q I (m _ _ _ q)⟩
theorem rd_bl {c : E} {k : Bool} {Q : VK} (r : RX X P F ρ σ H) (e : evE cf c false ρ = some (.bool k)) (q : ∀ H', Same H H' → RX X P F ρ σ H' → Q (.bl k) H') : rdE X cf false c σ H Q :=
  rd_in r e fun v H' s r' da _ => by
    cases da
    exact q H' s r'
theorem okEs_nil : OkEs X cf .nil [] := ⟨sEs_nil, fun h => absurd rfl h, fun h => absurd rfl h, fun _ h => absurd rfl h, fun _ h => absurd rfl h⟩
theorem evAnd1 {e : E} {d : D} (h : evAnd cf (.cons e .nil) ρ = some d) : ∃ k, d = .bool k ∧ evE cf e false ρ = some d := by
  unfold evAnd at h
  obtain ⟨x, k1, h⟩ := Option.bind_eq_some_iff.mp h
  cases x <;> simp at h
  subst h
  exact ⟨_, rfl, k1⟩
theorem evOr1 {e : E} {d : D} (h : evOr cf (.cons e .nil) ρ = some d) : ∃ k, d = .bool k ∧ evE cf e false ρ = some d := by
  unfold evOr at h
  obtain ⟨x, k1, h⟩ := Option.bind_eq_some_iff.mp h
  cases x <;> simp at h
  subst h
  exact ⟨_, rfl, k1⟩
theorem evAnd2 {e e2 : E} {es : Es} {d : D} (h : evAnd cf (.cons e (.cons e2 es)) ρ = some d) : (evE cf e false ρ = some (.bool true) ∧ evAnd cf (.cons e2 es) ρ = some d) ∨ (evE cf e false ρ = some (.bool false) ∧ d = .bool false) := by
  unfold evAnd at h
  obtain ⟨x, k1, h⟩ := Option.bind_eq_some_iff.mp h
  cases x <;> try (simp at h; done)
  rename_i b
  cases b with
  | false => exact .inr ⟨k1, (Option.some.inj h).symm⟩
  | true => exact .inl ⟨k1, h⟩
theorem evOr2 {e e2 : E} {es : Es} {d : D} (h : evOr cf (.cons e (.cons e2 es)) ρ = some d) : (evE cf e false ρ = some (.bool false) ∧ evOr cf (.cons e2 es) ρ = some d) ∨ (evE cf e false ρ = some (.bool true) ∧ d = .bool true) := by
  unfold evOr at h
  obtain ⟨x, k1, h⟩ := Option.bind_eq_some_iff.mp h
  cases x <;> try (simp at h; done)
  rename_i b
  cases b with
  | false => exact .inl ⟨k1, h⟩
  | true => exact .inr ⟨k1, (Option.some.inj h).symm⟩
theorem okEs_cons {c : E} {cs : Es} {e : Expr} {es : List Expr} (hs : nStar e = true) (h : OkE X cf c e) (t : OkEs X cf cs es) (hn : (cs = .nil ∧ es = []) ∨ ∃ c2 cs2, cs = .cons c2 cs2 ∧ es ≠ []) : OkEs X cf (.cons c cs) (e :: es) := by
  refine ⟨sEs_cons hs h t.pa, fun _ p => ?_, fun _ p => ?_, fun ht _ p => ?_, fun ht _ p => ?_⟩
  · rcases hn with ⟨rfl, rfl⟩ | ⟨c2, cs2, rfl, ne⟩
    · refine (pe_one (h.pe false)).mono fun σ H Q ⟨P, F, ρ, k, r, ev, q⟩ => ?_
      obtain ⟨k', _, e1⟩ := evAnd1 ev
      exact rd_bl r e1 fun H' s _ => q H' s
    · obtain ⟨e2, es2, rfl⟩ := List.exists_cons_of_ne_nil ne
      refine (pe_and (h.pe false) (t.an ne p)).mono fun σ H Q ⟨P, F, ρ, k, r, ev, q⟩ => ?_
      rcases evAnd2 ev with ⟨e1, e2⟩ | ⟨e1, e2⟩
      · exact rd_bl r e1 fun H' s r' => ⟨true, rfl, ⟨P, F, ρ, k, r', e2, fun H2 s2 => q H2 (s.trans s2)⟩⟩
      · cases e2
        exact rd_bl r e1 fun H' s r' => ⟨false, rfl, q H' s⟩
  · rcases hn with ⟨rfl, rfl⟩ | ⟨c2, cs2, rfl, ne⟩
    · refine (pe_one (h.pe false)).mono fun σ H Q ⟨P, F, ρ, k, r, ev, q⟩ => ?_
      obtain ⟨k', _, e1⟩ := evOr1 ev
      exact rd_bl r e1 fun H' s _ => q H' s
    · obtain ⟨e2, es2, rfl⟩ := List.exists_cons_of_ne_nil ne
      refine (pe_or (h.pe false) (t.or_ ne p)).mono fun σ H Q ⟨P, F, ρ, k, r, ev, q⟩ => ?_
      rcases evOr2 ev with ⟨e1, e2⟩ | ⟨e1, e2⟩
      · exact rd_bl r e1 fun H' s r' => ⟨false, rfl, ⟨P, F, ρ, k, r', e2, fun H2 s2 => q H2 (s.trans s2)⟩⟩
      · cases e2
        exact rd_bl r e1 fun H' s r' => ⟨true, rfl, q H' s⟩
  · simp only [List.all_cons, Bool.and_eq_true] at ht
    rcases hn with ⟨rfl, rfl⟩ | ⟨c2, cs2, rfl, ne⟩
    · refine (pw_and1 (h.pt ht.1)).mono fun σ H Q ⟨P, F, ρ, k, r, ev, q⟩ => ?_
      obtain ⟨k', _, e1⟩ := evAnd1 ev
      exact ⟨P, F, ρ, k, r, e1, q⟩
    · obtain ⟨e2, es2, rfl⟩ := List.exists_cons_of_ne_nil ne
      refine (pw_and (h.pt ht.1) (t.anT ht.2 ne p)).mono fun σ H Q ⟨P, F, ρ, k, r, ev, q⟩ => ?_
      rcases evAnd2 ev with ⟨e1, e2⟩ | ⟨e1, e2⟩
      · exact ⟨P, F, ρ, true, r, e1, fun H' s => ⟨P, F, ρ, k, r.same s, e2, fun H2 s2 => q H2 (s.trans s2)⟩⟩
      · cases e2
        exact ⟨P, F, ρ, false, r, e1, fun H' s => q H' s⟩
  · simp only [List.all_cons, Bool.and_eq_true] at ht
    rcases hn with ⟨rfl, rfl⟩ | ⟨c2, cs2, rfl, ne⟩
    · refine (pw_or1 (h.pt ht.1)).mono fun σ H Q ⟨P, F, ρ, k, r, ev, q⟩ => ?_
      obtain ⟨k', _, e1⟩ := evOr1 ev
      exact ⟨P, F, ρ, k, r, e1, q⟩
    · obtain ⟨e2, es2, rfl⟩ := List.exists_cons_of_ne_nil ne
      refine (pw_or (h.pt ht.1) (t.orT ht.2 ne p)).mono fun σ H Q ⟨P, F, ρ, k, r, ev, q⟩ => ?_
      rcases evOr2 ev with ⟨e1, e2⟩ | ⟨e1, e2⟩
      · exact ⟨P, F, ρ, false, r, e1, fun H' s => ⟨P, F, ρ, k, r.same s, e2, fun H2 s2 => q H2 (s.trans s2)⟩⟩
      · cases e2
        exact ⟨P, F, ρ, true, r, e1, fun H' s => q H' s⟩
theorem and_bool : ∀ {cs : Es} {d : D}, evAnd cf cs ρ = some d → ∃ k, d = .bool k
  | .nil, _, h => by simp [evAnd] at h
  | .cons e .nil, _, h => let ⟨k, z, _⟩ := evAnd1 h; ⟨k, z⟩
  | .cons e (.cons e2 es), _, h => by
    rcases evAnd2 h with ⟨_, h⟩ | ⟨_, h⟩
    · exact and_bool h
    · exact ⟨_, h⟩
theorem or_bool : ∀ {cs : Es} {d : D}, evOr cf cs ρ = some d → ∃ k, d = .bool k
  | .nil, _, h => by simp [evOr] at h
  | .cons e .nil, _, h => let ⟨k, z, _⟩ := evOr1 h; ⟨k, z⟩
  | .cons e (.cons e2 es), _, h => by
    rcases evOr2 h with ⟨_, h⟩ | ⟨_, h⟩
    · exact or_bool h
    · exact ⟨_, h⟩
theorem sE_and {cs : Es} {es : List Expr} {p : Pos} (h : OkEs X cf cs es) (ht : es.all tOk = true) (ne : es ≠ []) : OkE X cf (.and cs) (.BoolOp .And es p) := by
  refine ⟨fun b => (h.an ne p).mono fun σ H Q ⟨P, F, ρ, d, r, ev, q⟩ => ?_, fun _ => (PW.pt (h.anT ht ne p)).mono fun σ H Q ⟨P, F, ρ, k, r, ev, q⟩ => ⟨P, F, ρ, k, r, ev, q⟩⟩
  obtain ⟨k, rfl⟩ := and_bool (show evAnd cf cs ρ = some d from ev)
  exact ⟨P, F, ρ, k, r, ev, fun H' s => q _ H' s (.of (.bl k)) (by intro z; cases z)⟩
theorem sE_or {cs : Es} {es : List Expr} {p : Pos} (h : OkEs X cf cs es) (ht : es.all tOk = true) (ne : es ≠ []) : OkE X cf (.or cs) (.BoolOp .Or es p) := by
  refine ⟨fun b => (h.or_ ne p).mono fun σ H Q ⟨P, F, ρ, d, r, ev, q⟩ => ?_, fun _ => (PW.pt (h.orT ht ne p)).mono fun σ H Q ⟨P, F, ρ, k, r, ev, q⟩ => ⟨P, F, ρ, k, r, ev, q⟩⟩
  obtain ⟨k, rfl⟩ := or_bool (show evOr cf cs ρ = some d from ev)
  exact ⟨P, F, ρ, k, r, ev, fun H' s => q _ H' s (.of (.bl k)) (by intro z; cases z)⟩
theorem sE_ife {c a a2 : E} {e1 e2 e3 : Expr} {p : Pos} (ht : tOk e1 = true) (hc : OkE X cf c e1) (ha : OkE X cf a e2) (hb : OkE X cf a2 e3) : OkE X cf (.ife c a a2) (.IfExp e1 e2 e3 p) := by
  refine ⟨fun b => (pe_ifExp (hc.pt ht) (ha.pe false) (hb.pe false)).mono fun σ H Q ⟨P, F, ρ, d, r, ev, q⟩ => ?_, fun z => by cases z⟩
  unfold evE at ev
  obtain ⟨x, k1, ev⟩ := Option.bind_eq_some_iff.mp ev
  cases x <;> try (simp at ev; done)
  rename_i k
  refine ⟨P, F, ρ, k, r, k1, fun H' s => ?_⟩
  cases k with
  | false =>
    have ev' : evE cf a2 false ρ = some d := ev
    exact rd_in (r.same s) ev' fun v H2 s2 r2 da _ => q v H2 (s.trans s2) (.of da) (by intro z; cases z)
  | true =>
    have ev' : evE cf a false ρ = some d := ev
    exact rd_in (r.same s) ev' fun v H2 s2 r2 da _ => q v H2 (s.trans s2) (.of da) (by intro z; cases z)
/-! ### slices, isinstance -/
def rdPart (X : Cx) (cf : Nat → List D → Option RV) (c : Oe) : TO := fun σ H Q => ∃ P F ρ o, RX X P F ρ σ H ∧ evPart cf c ρ = some o ∧ ∀ H', Same H H' → Q o H'
theorem sPart_no : PO X none (rdPart X cf .no) := ⟨fun pins s σ H Q I ⟨P, F, ρ, o, r, ev, q⟩ => by
  cases ev
  exact po_none.run pins s σ H Q I (q H (Same.refl _))⟩
theorem sPart_yes {c : E} {e : Expr} (h : OkE X cf c e) : PO X (some e) (rdPart X cf (.yes c)) := ⟨fun pins s σ H Q I ⟨P, F, ρ, o, r, ev, q⟩ => by
  unfold evPart at ev
  obtain ⟨x, k1, ev⟩ := Option.bind_eq_some_iff.mp ev
  cases x <;> simp at ev
  subst ev
  refine (po_some (h.pe false)).run pins s σ H Q I (rd_in r k1 fun v H1 s1 r1 da _ => ?_)
  cases da
  exact ⟨_, rfl, q H1 s1⟩⟩
theorem sE_slc {a : E} {lo hi : Oe} {e : Expr} {l u : Option Expr} {p p2 : Pos} (ha : OkE X cf a e) (hl : PO X l (rdPart X cf lo)) (hu : PO X u (rdPart X cf hi)) : OkE X cf (.slc a lo hi) (.Subscript e (.Slice l u none p2) p) := by
  refine .of_pe (fun b => (pe_slice ob_slc (ha.pe true) hl hu).mono fun σ H Q ⟨P, F, ρ, d, r, ev, q⟩ => ?_) rfl
  unfold evE at ev
  obtain ⟨x, k1, ev⟩ := Option.bind_eq_some_iff.mp ev
  obtain ⟨l', k2, ev⟩ := Option.bind_eq_some_iff.mp ev
  obtain ⟨h', k3, ev⟩ := Option.bind_eq_some_iff.mp ev
  exact rd_in r k1 fun v H1 s1 r1 da _ => ⟨P, F, ρ, l', r1, k2, fun H2 s2 => ⟨P, F, ρ, h', r1.same s2, k3, fun H3 s3 =>
    ⟨PF P F, x, d, ((r1.same s2).same s3).pf, DaO.same (DaO.same da s2) s3, ev, fun w' H4 s4 dw fr => q w' H4 (((s1.trans s2).trans s3).trans s4) (.of dw) fun _ ds e => (fr ds e).back ((s1.trans s2).trans s3)⟩⟩⟩
theorem tyOk_of (G : Gd g cf sc X) {t : Ty} {e : Expr} (h : tyOk g sc t e = true) : PE X e (tC (.ty (tyName t))) := by
  unfold tyOk at h
  split at h
  · rename_i x hv
    rw [Bool.and_eq_true] at h
    obtain ⟨p, rfl⟩ := vName_of hv
    have hx := of_decide_eq_true h.1
    subst hx
    obtain ⟨g1, g2⟩ := glOk_of G h.2
    cases t
    · exact pe_bltn (u := .type "int") g1 g2 (by decide +kernel) rfl (by decide +kernel) (by decide +kernel)
    · exact pe_bltn (u := .type "bool") g1 g2 (by decide +kernel) rfl (by decide +kernel) (by decide +kernel)
    · exact pe_bltn (u := .type "str") g1 g2 (by decide +kernel) rfl (by decide +kernel) (by decide +kernel)
    · exact pe_bltn (u := .type "tuple") g1 g2 (by decide +kernel) rfl (by decide +kernel) (by decide +kernel)
    · exact pe_bltn (u := .type "list") g1 g2 (by decide +kernel) rfl (by decide +kernel) (by decide +kernel)
  · cases h
def tTys (tys : List Ty) : TA := fun _ H Q => Q (tys.map fun t => .ty (tyName t)) H
theorem tys_pa (G : Gd g cf sc X) : ∀ {tys : List Ty} {es : List Expr}, tysOk g sc tys es = true → PA X es (tTys tys)
  | [], [], _ => pa_nil
  | [], _ :: _, h => by simp [tysOk] at h
  | _ :: _, [], h => by simp [tysOk] at h
  | t :: ts, e :: es, h => by
    simp only [tysOk, Bool.and_eq_true] at h
    exact (pa_cons (tyOk_of G h.1.1) (tys_pa G h.2) (star_cons h.1.2)).mono fun σ H Q q => q
theorem kitAny_tys {K : W.Frag} {n : String} {d : D} (h : ∀ t, kitB n (tyName t) = some (tyIs d t)) : ∀ tys : List Ty, W.kitAny K (.type n) (tys.map fun t => .type (tyName t)) = some (tys.any (tyIs d))
  | [] => kitAny_nil
  | t :: ts => by
    refine kitAny_cons (kit_ty (h t)) (fun z => ?_) fun z => ?_
    · rw [List.any_cons, z, Bool.false_or]
      exact kitAny_tys h ts
    · rw [List.any_cons, z, Bool.true_or]
theorem paired_tys : ∀ tys : List Ty, Paired ClsV (tys.map fun t => V.ty (tyName t)) (tys.map fun t => Value.type (tyName t))
  | [] => .nil
  | t :: ts => .cons (.ty _) (paired_tys ts)
theorem isi_split {a : E} {tys : List Ty} {b : Bool} {d : D} (h : evE cf (.isi a tys) b ρ = some d) : ∃ x, evE cf a true ρ = some x ∧ (∀ kvs, x ≠ .dict kvs) ∧ d = .bool (tys.any (tyIs x)) := by
  unfold evE at h
  obtain ⟨x, k1, h⟩ := Option.bind_eq_some_iff.mp h
  cases x <;> simp [isiF] at h <;> subst h <;> exact ⟨_, k1, (by intro _ z; cases z), rfl⟩
theorem sE_isi (G : Gd g cf sc X) {a : E} {tys : List Ty} {x : Str} {e1 e2 : Expr} {p q : Pos} (hn : x = ("isinstance" : Str)) (hx : glOk g sc x = true) (h1 : nStar e1 = true) (h2 : nStar e2 = true) (ha : OkE X cf a e1)
    (ht : (match vTup e2 with | some ts => tysOk g sc tys ts | none => match tys with | [t] => tyOk g sc t e2 | _ => false) = true) (hlen : tys.length ≤ 100) : OkE X cf (.isi a tys) (.Call (.Name x p) [e1, e2] [] q) := by
  subst hn
  obtain ⟨g1, g2⟩ := glOk_of G hx
  cases hv : vTup e2 with
  | none =>
    rw [hv] at ht
    simp only at ht
    split at ht
    · rename_i t
      refine .of_pe (fun b => (pe_callB call_isi g1 g2 (by decide +kernel) (pa_cons (ha.pe true) (pa_cons (tyOk_of G ht) pa_nil (star_cons h2)) (star_cons h1)) (by decide) (by decide) (star_cons h1) (back_any (by simp [h2]))).mono fun σ H Q ⟨P, F, ρ, d, r, ev, qq⟩ => ?_) rfl
      obtain ⟨y, k1, k2, rfl⟩ := isi_split ev
      refine rd_in r k1 fun v H1 s1 r1 da _ => ?_
      obtain ⟨n, t1, t2⟩ := da_ty da k2
      refine ⟨v, _, _, _, tyIs y t, rfl, .ty _, t1, kit_ty (t2 t), ?_⟩
      have := qq (.bl ([t].any (tyIs y))) H1 s1 (.of (.bl _)) (by intro z; cases z)
      simpa using this
    · cases ht
  | some ts =>
    rw [hv] at ht
    obtain ⟨k, p2, rfl⟩ := vTup_of hv
    refine .of_pe (fun b => (pe_callB call_isiT g1 g2 (by decide +kernel) (pa_cons (ha.pe true) (pa_cons (pe_tup (tys_pa G ht)) pa_nil (star_cons h2)) (star_cons h1)) (by decide) (by decide) (star_cons h1) (back_any (by simp [h2]))).mono fun σ H Q ⟨P, F, ρ, d, r, ev, qq⟩ => ?_) rfl
    obtain ⟨y, k1, k2, rfl⟩ := isi_split ev
    refine rd_in r k1 fun v H1 s1 r1 da _ => ?_
    have hl : tys.length ≤ sizeLine := by rw [sizeLine_eq]; omega
    refine ⟨by rw [List.length_map]; exact hl, fun tp np => ?_⟩
    obtain ⟨n, t1, t2⟩ := da_ty (DaO.same da (same_upd np)) k2
    exact ⟨v, tp, _, _, tys.map fun t => .type (tyName t), tys.any (tyIs y), rfl, upd_same, paired_tys tys, t1, kitAny_tys t2 tys, qq _ _ (s1.trans (same_upd np)) (.of (.bl _)) (by intro z; cases z)⟩
end
end Bw

/-! Bw, part G0: a tuple's items, numbered. -/
namespace Bw
open PySem PySem.Spec PyProof.Rows L2

set_option maxHeartbeats 4000000 in
theorem new_enum1 {src : Value} {itO : Obj} {Hs : Heap → Prop} (B : Begins src itO Hs) :
    Meets (Builtin.«enumerate.__new__» ⟨[.type "enumerate", src], []⟩) (fun _ Rs sh => Hs sh.heap ∧
      Rs (.ok (.ret (.ref (sh.heap.push itO).objs.size))) { sh with heap := (sh.heap.push itO).push { cls := .type "enumerate", data := .fields #[.none, .bool false, .ref sh.heap.objs.size, rawInt 0, .none, .none] } }) :=
  .of_wp fun prog w A Rs sh hyp => by
    obtain ⟨hp0, g0, d0, tk0, os0⟩ := sh
    obtain ⟨in0, fin0⟩ := hyp
    have sube := sub_enumerate
    have begun : ∀ {A' : Around} {E Q : Value → Shared → Prop}, Q (.ref hp0.objs.size) ⟨hp0.push itO, g0, d0, tk0, os0⟩ → wpAny (model prog w) A' (pyIter src) Q E ⟨hp0, g0, d0, tk0, os0⟩ := fun z => B.iter prog w _ _ ⟨hp0, g0, d0, tk0, os0⟩ _ in0 z
    wp_walk using begun
    refine wpAny_stack_any fun stk => wpAny_pure ?_
    split
    · rename_i cc _ _ _ _ _
      cases (cc == Value.type "enumerate") <;> (wp_walk using begun; exact ⟨_, rfl, fin0⟩)
    · wp_walk using begun
      exact ⟨_, rfl, fin0⟩
section
variable {prog : Program} {w : World} {A : Around} {E : Value → Shared → Prop} {s : Shared}
theorem enum1_begins {src : Value} {itO : Obj} {Hs : Heap → Prop} {Q : Value → Shared → Prop} (B : Begins src itO Hs) (in0 : Hs s.heap)
    (fin0 : ∀ hp1, IsEnum hp1 (s.heap.objs.size + 1) s.heap.objs.size 0 .none → hp1.get? s.heap.objs.size = some itO → (∀ b x, s.heap.get? b = some x → hp1.get? b = some x) → Q (.ref (s.heap.objs.size + 1)) { s with heap := hp1 }) :
    wpAny (model prog w) A (call (.type "enumerate") [src]) Q E s := by
  refine callType_new F.called_enumerate (by decide) (F.typeCall_enumerate_1 _) (F.newCall_enumerate_1 _) (fun obj => F.args_object_init_2 obj _) F.entry_enumerate_new (new_enum1 B) ⟨in0, ?_⟩
  have one : (s.heap.push itO).objs.size = s.heap.objs.size + 1 := Heap.size_push ..
  have cell := Heap.get?_push_size (s.heap.push itO) (o := { cls := .type "enumerate", data := .fields #[.none, .bool false, .ref s.heap.objs.size, rawInt 0, .none, .none] }) rfl
  show _ ∧ _
  rw [one] at cell ⊢
  exact ⟨⟨_, cell, rfl⟩, fin0 _ cell (Heap.get?_push_of_some _ (Heap.get?_push_size _ B.free)) fun b x y => Heap.get?_push_of_some _ (Heap.get?_push_of_some _ y)⟩
end
/-- the tuple at a, each item in a new pair -/
def IteT (K : W.Frag) (a : Addr) : It :=
  ⟨fun i H => ∃ xs x, SqT K H a xs ∧ xs[i]? = some x, fun i H v H' => ∃ T x, v = .ref T ∧ H T = none ∧ H' = upd H T (.tup [.int (i : Nat), x]) ∧ ∀ xs, SqT K H a xs → xs[i]? = some x, fun i H => ∃ xs, SqT K H a xs ∧ xs.length ≤ i⟩
theorem turn_enumT {P : Program} {w : World} {K : W.Frag} {elts : List Expr} {kk : Nat} {tpos : Pos} (a e it : Addr) :
    Turn P w K (.Tuple elts kk tpos) (IteT K a) [e, it] e (fun i h => (∃ old, IsEnum h e it ((i : Nat) : Int) old) ∧ h.IsTupleIter it a i ∧ e ≠ it) where
  mem := by simp
  obj := fun i h st b hb => by
    obtain ⟨⟨old, he⟩, ⟨o, ho, hc, hd⟩, _⟩ := st
    rcases (show b = e ∨ b = it by simpa using hb) with z | z <;> rw [z]
    · exact ⟨_, he, fun v q => nomatch q⟩
    · exact ⟨o, ho, fun v q => by rw [hd] at q; cases q⟩
  keep := fun i h h' st k => ⟨st.1.elim fun old he => ⟨old, k e (by simp) _ he⟩, st.2.1.at fun o q => k it (by simp) o q, st.2.2⟩
  item := by
    intro X hP hw hK hc i pins s σ H E I hf st hg
    subst hP hw hK
    obtain ⟨⟨old, he⟩, hit, hne⟩ := st
    obtain ⟨xs, x, hq, hx⟩ := hg
    obtain ⟨its, rv, p, hz⟩ := I.tuple hq
    have ht : s.heap.IsTuple a its.toArray := p
    have hai : a ≠ it := fun z => by
      obtain ⟨o1, q1, q2, _⟩ := ht
      obtain ⟨o2, q3, q4, _⟩ := hit
      rw [z, q3] at q1
      cases q1
      rw [q2] at q4
      injection q4 with z4
      exact absurd z4 (by decide)
    have hae : a ≠ e := fun z => by
      obtain ⟨o1, q1, q2, _⟩ := ht
      rw [z, show s.heap.get? e = _ from he] at q1
      cases q1
      injection q2 with z2
      exact absurd z2 (by decide)
    have D := Draws.tuple (prog := X.prog) (w := X.w) (A := X.A.in1) (I.ok.hd hc) it a hai its.toArray
    have hsz0 : its.toArray.size = xs.length := by rw [List.size_toArray, rv.length]
    have hlt : i < its.toArray.size := by rw [hsz0]; exact (List.getElem?_eq_some_iff.mp hx).1
    have hel : e < s.heap.objs.size := Heap.lt_size he
    have hil : it < s.heap.objs.size := hit.elim fun _ q => Heap.lt_size q.1
    refine wpAny_pyNext_enum_itemD D he ⟨hit, ht⟩ hlt hne (by simp [hne, Ne.symm hae]) fun u h' tk hu ho hst' hT hsz hk => ?_
    refine ⟨_, rfl, wpAny_letOwnedTupleGo_enum (s := { s with heap := h', toks := tk + 1 }) ho fun h'' he' sb => ?_⟩
    obtain ⟨u', hu', ru⟩ := rv.get hx
    have euu : u' = u := by
      have h1 : its.toArray[i]? = some u := hu
      rw [List.getElem?_toArray, hu'] at h1
      exact Option.some.inj h1
    subst euu
    have hT2 : h''.get? s.heap.objs.size = some { cls := .type "tuple", data := .seq #[.int i tk, u'] } := (sb.2 _ (Nat.ne_of_gt hel)).trans hT
    have new : ObjOk X.prog X.w (upd H s.heap.objs.size (.tup [.int (i : Nat), x])) h'' s.heap.objs.size (.tup [.int (i : Nat), x]) := ⟨by show 2 ≤ sizeLine; decide, [.int i tk, u'], .cons ⟨_, rfl⟩ (.cons ru .nil), ⟨_, hT2, rfl, _, rfl⟩⟩
    have I1 : Inv X pins σ (upd H s.heap.objs.size (.tup [.int (i : Nat), x])) { s with heap := h'', toks := tk + 1 } :=
      I.turnedNew (ch := [e, it]) (fun b ob hb q => (sb.2 b (fun z => hb (by simp [z]))).trans (hk b ob (fun z => hb (by simp [z])) (fun z => hb (by simp [z])) q)) hf (Nat.le_refl _) new
    refine ⟨.ref s.heap.objs.size, _, I1, rfl, ⟨_, x, rfl, I.hok.fresh (Nat.le_refl _), rfl, fun ys hy => by rw [I.tuple_inj hy hq]; exact hx⟩, ⟨⟨u', ?_⟩, hst'.1.at fun o q => (sb.2 it (Ne.symm hne)).trans q, hne⟩, fun b hb => ?_⟩
    · rw [show ((i + 1 : Nat) : Int) = (i : Int) + 1 by omega]; exact he'
    · have hb' : b < s.heap.objs.size := by
        rcases (show b = e ∨ b = it by simpa using hb) with z | z <;> rw [z] <;> assumption
      rw [upd_ne (Nat.ne_of_lt hb')]
      exact (hf b hb).1
  done := by
    intro X hP hw hK hc i pins s σ H E I hf st hg
    subst hP hw hK
    obtain ⟨⟨old, he⟩, hit, hne⟩ := st
    obtain ⟨xs, hq, hx⟩ := hg
    obtain ⟨its, rv, p, hz⟩ := I.tuple hq
    obtain ⟨f0, f1, f2, f3, f4, f5⟩ := hf it (by simp)
    have hT : s.TypeIs (.ref e) "enumerate" := ⟨_, he, rfl⟩
    have hl := rv.length
    have ht : s.heap.IsTuple a its.toArray := p
    unfold pyNext
    refine wpAny_bind (wpAny_attempt (wpAny_callSpecial?_slot (name := Str.ofString "__next__") hT F.slot_enumerate_next (wpAny_call_entry F.slot_enumerate_next hT F.entry_enumerate_next ?_ (F.args_enumerate_next_1 _))))
    show wpAny _ _ (field (.ref e) 2 >>= _) _ _ _
    refine wpAny_bind (wpAny_field he rfl (x := .ref it) rfl (wpAny_bind (wpAny_nextOf_tuple_end (I.ok.hd hc) hit ht (by simp; omega) fun h' x eb hx' => ?_)))
    obtain ⟨o, ho, hc'⟩ := hx'
    refine wpAny_bind (wpAny_isInstance (T := "StopIteration") (b := true) ⟨o, ho, hc'⟩ isSubtype_stop (wpAny_pure ?_))
    exact ⟨rfl, I.turned (t' := s.toks) (fun b o hb q => eb b o hb q) f0 f1 f3 f4 f5⟩
  self := fun A i s Q E st h => st.1.elim fun old he => wpAny_pyIter_enum he h
def iEnumT (K : W.Frag) (ta : TA) : TI := fun σ H R => ta σ H fun vs H1 => ∃ a xs, vs = [.ref a] ∧ SqT K H1 a xs ∧ R (IteT K a) H1
theorem pi_enumT {X : Cx} {e : Expr} {ta : TA} {p pos tpos : Pos} {elts : List Expr} {kk : Nat} (hg : Gl X "enumerate") (hm : X.mg "enumerate" = none) (ha : PA X [e] ta) (hs : starEach [e] X.env = [(false, eval e X.env)] := by rfl) :
    PI X (.Tuple elts kk tpos) (.Call (.Name "enumerate" p) [e] [] pos) (iEnumT X.K ta) := by
  refine ⟨fun pins s σ H R I h => Call_ (ld_blt I hg hm boot_enumerate (PyProof.Rows.callWith_type1 (thn (ha.run pos pins s σ H _ I h) fun us s1 ⟨vs, H1, I1, r1, q1⟩ => ?_) hs rfl))⟩
  obtain ⟨a, xs, ex, hq, q⟩ := q1
  subst ex
  obtain rfl : us = [Value.ref a] := Vals.ref1 r1
  obtain ⟨its, rv, p', hz⟩ := I1.tuple hq
  refine enum1_begins (begins_tuple a its.toArray) p' fun h' he hit hk => wpAny_pyIter_enum he ?_
  have I2 : Inv X pins σ H1 { s1 with heap := h' } := I1.kept (t' := s1.toks) hk
  refine ⟨s1.heap.objs.size + 1, [s1.heap.objs.size + 1, s1.heap.objs.size], _, _, H1, rfl, I2, turn_enumT a (s1.heap.objs.size + 1) s1.heap.objs.size, ⟨⟨.none, he⟩, ⟨_, hit, rfl, rfl⟩, Nat.succ_ne_self _⟩, fun b hb => ?_, q⟩
  have hle : s1.heap.objs.size ≤ b := by
    rcases (show b = s1.heap.objs.size + 1 ∨ b = s1.heap.objs.size by simpa using hb) with z | z <;> rw [z]
    · exact Nat.le_add_right _ _
    · exact Nat.le_refl _
  exact I1.fpOk hle (I1.hok.fresh hle)
theorem walk_enumT {K : W.Frag} {a : Addr} {xs : List V} : Walk (IteT K a) xs.length (fun H => SqT K H a xs) (YPair (fun i => some (.int (i : Nat))) (fun i => xs[i]?)) :=
  ⟨fun i _ hi q => ⟨xs, xs[i], q, by simp [hi]⟩, fun _ q => ⟨xs, q, Nat.le_refl _⟩, fun i H v H' _ q ⟨T, x, h1, h2, h3, h4⟩ => ⟨T, .int (i : Nat), x, h1, h2, h3, rfl, h4 xs q⟩⟩
theorem wk_enumT {K : W.Frag} {b : Bool} {P : Addr → Prop} {H1 : Hp} {ds : List D} {a : Addr} {vs : List V} (h : ∀ H, Zb b P H1 H → ST H a vs) (da : DaL K H1 P vs ds) : Wk K b P (IteT K a) H1 (enumL 0 ds) true := by
  have w' := (walk_enumT (K := K) (a := a) (xs := vs)).mono (G' := Zb b P H1) (fun H z => (h H z).sq) (Y' := fun i H x H' => Same H H' ∧ ∃ d, (enumL 0 ds)[i]? = some d ∧ ∀ P' : Addr → Prop, (∀ b o, P b → H1 b = some o → P' b) → Itm K H' P' x d ∧ (true = false → Da K H' P' x d)) fun i H x H' hi z y => by
    obtain ⟨T, v1, v2, rfl, hT, rfl, e1, e2⟩ := y
    cases e1
    obtain ⟨d2, k1, k2⟩ := da.get' e2
    refine ⟨same_upd hT, _, enumL_get k1, fun P' hp => ⟨?_, by intro z; cases z⟩⟩
    rw [Nat.zero_add]
    exact itm_pair hT (.int _) (Da.mono z.keeps hp _ _ k2)
  unfold Wk
  rw [enumL_len, ← da.length]
  exact w'
end Bw

/-! Bw, part G1: a list and a tuple walked together. -/
namespace Bw
open PySem PySem.Spec PyProof.Rows L2

/-- t: a tuple, else a list -/
def SqA (t : Bool) (K : W.Frag) (H : Hp) (a : Addr) (xs : List V) : Prop := match t with | true => SqT K H a xs | false => SqL K H a xs
def IsItA (t : Bool) (h : Heap) (it a : Addr) (i : Nat) : Prop := match t with | true => h.IsTupleIter it a i | false => h.IsListIter it a i
def IsSqA (t : Bool) (h : Heap) (a : Addr) (its : Array Value) : Prop := match t with | true => h.IsTuple a its | false => h.IsList a its
def itObj (t : Bool) (a : Addr) : Obj := { cls := .type (if t then "tuple_iterator" else "list_iterator"), data := .fields #[.ref a, .int 0 0] }
theorem beginsA (t : Bool) (a : Addr) (its : Array Value) : Begins (.ref a) (itObj t a) fun h => IsSqA t h a its := by
  cases t
  · exact begins_list a its
  · exact begins_tuple a its
theorem IsItA.start {t : Bool} {h : Heap} {it a : Addr} (e : h.get? it = some (itObj t a)) : IsItA t h it a 0 := by
  cases t <;> exact ⟨_, e, rfl, rfl⟩
theorem IsItA.ob {t : Bool} {h : Heap} {it a : Addr} {i : Nat} (e : IsItA t h it a i) : ∃ o vs, h.get? it = some o ∧ o.data = .fields vs := by
  cases t <;> exact e.elim fun o z => ⟨o, _, z.1, z.2.2⟩
theorem IsItA.to {t : Bool} {h h' : Heap} {it a : Addr} {i : Nat} (e : IsItA t h it a i) (k : ∀ o, h.get? it = some o → h'.get? it = some o) : IsItA t h' it a i := by
  cases t
  · exact Heap.IsListIter.at (h := h) e k
  · exact Heap.IsTupleIter.at (h := h) e k
theorem drawsA {prog : Program} {w : World} {A : Around} (t : Bool) (hh : A.handled = none) (it a : Addr) (ne : a ≠ it) (its : Array Value) : Draws prog w A it [it, a] its.size (fun i v => its[i]? = some v) (fun i h => IsItA t h it a i ∧ IsSqA t h a its) := by
  cases t
  · exact Draws.list hh it a ne its
  · exact Draws.tuple hh it a ne its
section
variable {X : Cx} {pins : List (Addr × Obj)} {σ : L2.St} {H : Hp} {s : Shared}
theorem sqA_in {t : Bool} {a : Addr} {xs : List V} (I : Inv X pins σ H s) (h : SqA t X.K H a xs) : ∃ its : List Value, Vals xs its ∧ IsSqA t s.heap a its.toArray := by
  cases t
  · obtain ⟨its, rv, p, _⟩ := I.list h
    exact ⟨its, rv, p.isList⟩
  · obtain ⟨its, rv, p, _⟩ := I.tuple h
    exact ⟨its, rv, p⟩
theorem sqA_inj {t : Bool} {a : Addr} {xs ys : List V} (I : Inv X pins σ H s) (h : SqA t X.K H a xs) (h2 : SqA t X.K H a ys) : xs = ys := by
  cases t
  · exact I.list_inj h h2
  · exact I.tuple_inj h h2
theorem seq_not_it {t t2 : Bool} {h : Heap} {a it b : Addr} {i : Nat} {its : Array Value} (e : IsSqA t h a its) (f : IsItA t2 h it b i) : a ≠ it := fun z => by
  have q1 : ∃ o nm, h.get? a = some o ∧ o.cls = .type nm ∧ (nm = "list" ∨ nm = "tuple") := by
    cases t
    · exact e.elim fun o z => ⟨o, _, z.1, z.2.1, .inl rfl⟩
    · exact e.elim fun o z => ⟨o, _, z.1, z.2.1, .inr rfl⟩
  have q2 : ∃ o nm, h.get? it = some o ∧ o.cls = .type nm ∧ (nm = "list_iterator" ∨ nm = "tuple_iterator") := by
    cases t2
    · exact f.elim fun o z => ⟨o, _, z.1, z.2.1, .inl rfl⟩
    · exact f.elim fun o z => ⟨o, _, z.1, z.2.1, .inr rfl⟩
  obtain ⟨o1, n1, a1, a2, a3⟩ := q1
  obtain ⟨o2, n2, b1, b2, b3⟩ := q2
  rw [z, b1] at a1
  cases a1
  rw [a2] at b2
  injection b2 with b2
  subst b2
  rcases a3 with rfl | rfl <;> rcases b3 with b3 | b3 <;> exact absurd b3 (by decide)
theorem seq_not_cls {t : Bool} {h : Heap} {a z : Addr} {o : Obj} {nm : String} {its : Array Value} (e : IsSqA t h a its) (f : h.get? z = some o) (c : o.cls = .type nm) (n1 : nm ≠ "list") (n2 : nm ≠ "tuple") : a ≠ z := fun q => by
  cases t
  · obtain ⟨o', e1, e2, _⟩ := e
    rw [q, f] at e1
    cases e1
    rw [c] at e2
    injection e2 with e2
    exact n1 e2
  · obtain ⟨o', e1, e2, _⟩ := e
    rw [q, f] at e1
    cases e1
    rw [c] at e2
    injection e2 with e2
    exact n2 e2
end
/-- the sequences at a and b, the items in new pairs -/
def ItzA (t1 t2 : Bool) (K : W.Frag) (a b : Addr) : It :=
  ⟨fun i H => ∃ (xs ys : List V) (x y : V), SqA t1 K H a xs ∧ SqA t2 K H b ys ∧ xs[i]? = some x ∧ ys[i]? = some y,
    fun i H v H' => ∃ T x y, v = .ref T ∧ H T = none ∧ H' = upd H T (.tup [x, y]) ∧ (∀ xs, SqA t1 K H a xs → xs[i]? = some x) ∧ ∀ ys, SqA t2 K H b ys → ys[i]? = some y,
    fun i H => ∃ xs ys : List V, SqA t1 K H a xs ∧ SqA t2 K H b ys ∧ i = min xs.length ys.length⟩
/-- the cells lie apart -/
structure ApartA (z TI TO i1 i2 a b : Addr) : Prop where
  TIz : TI ≠ z
  TOz : TO ≠ z
  TITO : TI ≠ TO
  TIi1 : TI ≠ i1
  TIi2 : TI ≠ i2
  zi1 : z ≠ i1
  zi2 : z ≠ i2
  Ti1 : TO ≠ i1
  Ti2 : TO ≠ i2
  i12 : i1 ≠ i2
  za : z ≠ a
  zb : z ≠ b
  Ta : TO ≠ a
  Tb : TO ≠ b
  i1a : i1 ≠ a
  i1b : i1 ≠ b
  i2a : i2 ≠ a
  i2b : i2 ≠ b
theorem ApartA.sep {z TI TO i1 i2 a b : Addr} (D : ApartA z TI TO i1 i2 a b) : ZipSep2 z TI TO i1 i2 [i1, a] [i2, b] where
  TIz := D.TIz
  TOz := D.TOz
  TITO := D.TITO
  TIi1 := D.TIi1
  mem1 := by simp
  zf1 := by simp [D.zi1, D.za]
  Tf1 := by simp [D.Ti1, D.Ta]
  TIi2 := D.TIi2
  mem2 := by simp
  zf2 := by simp [D.zi2, D.zb]
  Tf2 := by simp [D.Ti2, D.Tb]
  sep1_2 := by simp [D.i12, D.i1b]
  sep2_1 := by simp [Ne.symm D.i12, D.i2a]
theorem turn_zipMix {t1 t2 : Bool} {P : Program} {w : World} {K : W.Frag} {elts : List Expr} {kk : Nat} {tpos : Pos} {a b z TI TO i1 i2 : Addr} (D : ApartA z TI TO i1 i2 a b) :
    Turn P w K (.Tuple elts kk tpos) (ItzA t1 t2 K a b) [z, TI, TO, i1, i2] z (fun i h => IsZip h z TI TO .none ∧ IsTupOf2 h TI (.ref i1) (.ref i2) ∧ (∃ x y, IsTupOf2 h TO x y) ∧ IsItA t1 h i1 a i ∧ IsItA t2 h i2 b i) where
  mem := by simp
  obj := fun i h st c hc => by
    obtain ⟨hz, hTI, ⟨x, y, hTO⟩, k1, k2⟩ := st
    obtain ⟨o1, v1, e1, d1⟩ := k1.ob
    obtain ⟨o2, v2, e2, d2⟩ := k2.ob
    rcases (show c = z ∨ c = TI ∨ c = TO ∨ c = i1 ∨ c = i2 by simpa using hc) with q | q | q | q | q <;> rw [q]
    · exact ⟨_, hz, fun v q => nomatch q⟩
    · exact ⟨_, hTI, fun v q => nomatch q⟩
    · exact ⟨_, hTO, fun v q => nomatch q⟩
    · exact ⟨o1, e1, fun v q => by rw [d1] at q; cases q⟩
    · exact ⟨o2, e2, fun v q => by rw [d2] at q; cases q⟩
  keep := fun i h h' st k => ⟨k z (by simp) _ st.1, k TI (by simp) _ st.2.1, st.2.2.1.elim fun x q => q.elim fun y q => ⟨x, y, k TO (by simp) _ q⟩, st.2.2.2.1.to fun o q => k i1 (by simp) o q, st.2.2.2.2.to fun o q => k i2 (by simp) o q⟩
  item := by
    intro X hP hw hK hc i pins s σ H E I hf st hg
    subst hP hw hK
    obtain ⟨hz, hTI, ⟨x0, y0, hTO⟩, k1, k2⟩ := st
    obtain ⟨xs, ys, x, y, hqx, hqy, hx, hy⟩ := hg
    obtain ⟨its, rv, p⟩ := sqA_in I hqx
    obtain ⟨its2, rv2, p2⟩ := sqA_in I hqy
    obtain ⟨u, hu, ru⟩ := rv.get hx
    obtain ⟨u2, hu2, ru2⟩ := rv2.get hy
    have l1 := rv.length
    have l2 := rv2.length
    have hzl : z < s.heap.objs.size := Heap.lt_size hz
    have hi1 := (List.getElem?_eq_some_iff.mp hx).1
    have hi2 := (List.getElem?_eq_some_iff.mp hy).1
    refine wpAny_pyNext_zipD2_item D.sep (drawsA t1 (A := X.A.in1) (I.ok.hd hc) i1 a (Ne.symm D.i1a) its.toArray) (drawsA t2 (A := X.A.in1) (I.ok.hd hc) i2 b (Ne.symm D.i2b) its2.toArray) hz hTI hTO ⟨k1, p⟩ ⟨k2, p2⟩ (by rw [List.size_toArray]; omega) (by rw [List.size_toArray]; omega)
      fun w1 w2 h' tk y1 y2 z' TO' h1' h2' hT hsz hk => ?_
    have e1 : u = w1 := by
      have : its.toArray[i]? = some w1 := y1
      rw [List.getElem?_toArray, hu] at this
      exact Option.some.inj this
    have e2 : u2 = w2 := by
      have : its2.toArray[i]? = some w2 := y2
      rw [List.getElem?_toArray, hu2] at this
      exact Option.some.inj this
    subst e1 e2
    refine ⟨_, rfl, wpAny_letOwnedTupleGo_zip (s := { s with heap := h', toks := tk }) z' fun h'' z'' sb => ?_⟩
    have hT2 : h''.get? s.heap.objs.size = some { cls := .type "tuple", data := .seq #[u, u2] } := (sb.2 _ (Nat.ne_of_gt hzl)).trans hT
    have new : ObjOk X.prog X.w (upd H s.heap.objs.size (.tup [x, y])) h'' s.heap.objs.size (.tup [x, y]) := ⟨by show 2 ≤ sizeLine; decide, [u, u2], .cons ru (.cons ru2 .nil), ⟨_, hT2, rfl, _, rfl⟩⟩
    have I1 : Inv X pins σ (upd H s.heap.objs.size (.tup [x, y])) { s with heap := h'', toks := tk } :=
      I.turnedNew (t' := tk) (ch := [z, TI, TO, i1, i2]) (fun c o hb q => (sb.2 c (fun q' => hb (by simp [q']))).trans (hk c o (fun q' => hb (by simp [q'])) (fun q' => hb (by simp [q'])) (fun q' => hb (by simp [q'])) (fun q' => hb (by simp [q'])) q)) hf (Nat.le_refl _) new
    refine ⟨.ref s.heap.objs.size, _, I1, rfl, ⟨_, x, y, rfl, I.hok.fresh (Nat.le_refl _), rfl, fun l hl => by rw [sqA_inj I hl hqx]; exact hx, fun l hl => by rw [sqA_inj I hl hqy]; exact hy⟩,
      ⟨z'', (sb.2 _ D.TIz).trans (hk _ _ D.TIz D.TITO D.TIi1 D.TIi2 hTI), ⟨u, u2, (sb.2 _ D.TOz).trans TO'⟩, h1'.1.to fun o q => (sb.2 _ (Ne.symm D.zi1)).trans q, h2'.1.to fun o q => (sb.2 _ (Ne.symm D.zi2)).trans q⟩, fun c hcm => ?_⟩
    have hlt : c < s.heap.objs.size := by
      rcases (show c = z ∨ c = TI ∨ c = TO ∨ c = i1 ∨ c = i2 by simpa using hcm) with q | q | q | q | q <;> rw [q]
      · exact hzl
      · exact Heap.lt_size hTI
      · exact Heap.lt_size hTO
      · exact k1.ob.elim fun _ q => q.elim fun _ q => Heap.lt_size q.1
      · exact k2.ob.elim fun _ q => q.elim fun _ q => Heap.lt_size q.1
    rw [upd_ne (Nat.ne_of_lt hlt)]
    exact (hf c hcm).1
  done := by
    intro X hP hw hK hc i pins s σ H E I hf st hg
    subst hP hw hK
    obtain ⟨hz, hTI, ⟨x0, y0, hTO⟩, k1, k2⟩ := st
    obtain ⟨xs, ys, hqx, hqy, hend⟩ := hg
    obtain ⟨its, rv, p⟩ := sqA_in I hqx
    obtain ⟨its2, rv2, p2⟩ := sqA_in I hqy
    have l1 := rv.length
    have l2 := rv2.length
    exact wpAny_pyNext_zipD2_end D.sep (drawsA t1 (A := X.A.in1) (I.ok.hd hc) i1 a (Ne.symm D.i1a) its.toArray) (drawsA t2 (A := X.A.in1) (I.ok.hd hc) i2 b (Ne.symm D.i2b) its2.toArray) hz hTI hTO ⟨k1, p⟩ ⟨k2, p2⟩ (by rw [List.size_toArray]; omega) (by rw [List.size_toArray]; omega) (by rw [List.size_toArray, List.size_toArray]; omega)
      fun h' tk hk => ⟨rfl, I.turnedL (t' := tk) (ch := [z, TI, TO, i1, i2]) (fun c o hb q => hk c o (fun q' => hb (by simp [q'])) (fun q' => hb (by simp [q'])) (fun q' => hb (by simp [q'])) (fun q' => hb (by simp [q'])) q) hf⟩
  self := fun A i s Q E st h => wpAny_pyIter_zip st.1 h
def iZipM (t1 t2 : Bool) (K : W.Frag) (ta : TA) : TI := fun σ H R => ta σ H fun vs H1 => ∃ a b xs ys, vs = [.ref a, .ref b] ∧ SqA t1 K H1 a xs ∧ SqA t2 K H1 b ys ∧ R (ItzA t1 t2 K a b) H1
theorem pi_zipM {t1 t2 : Bool} {X : Cx} {e e2 : Expr} {ta : TA} {p pos tpos : Pos} {elts : List Expr} {kk : Nat} (hg : Gl X "zip") (hm : X.mg "zip" = none) (ha : PA X [e, e2] ta)
    (hs : starEach [e, e2] X.env = (false, eval e X.env) :: starEach [e2] X.env := by rfl) (hpl : (backTo pos (starEach [e2] X.env)).any (·.1) = false := by rfl) :
    PI X (.Tuple elts kk tpos) (.Call (.Name "zip" p) [e, e2] [] pos) (iZipM t1 t2 X.K ta) := by
  refine ⟨fun pins s σ H R I h => Call_ (ld_blt I hg hm PyProof.Rows.boot_zip (PyProof.Rows.callWith_type1 (thn (ha.run pos pins s σ H _ I h) fun us s1 ⟨vs, H1, I1, r1, q1⟩ => ?_) hs hpl))⟩
  obtain ⟨a, b, xs, ys, ex, hqx, hqy, q⟩ := q1
  subst ex
  obtain ⟨its, rv, p1⟩ := sqA_in I1 hqx
  obtain ⟨its2, rv2, p2⟩ := sqA_in I1 hqy
  have lt : ∀ {t : Bool} {c : Addr} {l : Array Value}, IsSqA t s1.heap c l → c < s1.heap.objs.size := fun {t c l} z => by
    cases t <;> exact z.elim fun _ q => Heap.lt_size q.1
  have la := lt p1
  have lb := lt p2
  cases r1 with
  | cons r rr =>
    cases rr with
    | cons r' rr =>
      cases rr
      cases r
      cases r'
      refine zip_begins2 (beginsA t1 a its.toArray) (beginsA t2 b its2.toArray) p1 p2 fun h' hz hTI hTO h1 h2 hsz hk => wpAny_pyIter_zip hz ?_
      have I2 : Inv X pins σ H1 { s1 with heap := h' } := I1.kept (t' := s1.toks) hk
      have ne1 : ∀ (n m : Nat), n ≠ m → s1.heap.objs.size + n ≠ s1.heap.objs.size + m := fun n m h z => h (Nat.add_left_cancel z)
      have ne2 : ∀ (n : Nat) (c : Addr), c < s1.heap.objs.size → s1.heap.objs.size + n ≠ c := fun n c h z => by
        rw [← z] at h
        exact absurd h (Nat.not_lt.mpr (Nat.le_add_right _ _))
      have D : ApartA (s1.heap.objs.size + 4) (s1.heap.objs.size + 2) (s1.heap.objs.size + 3) s1.heap.objs.size (s1.heap.objs.size + 1) a b :=
        ⟨ne1 2 4 (by decide), ne1 3 4 (by decide), ne1 2 3 (by decide), ne1 2 0 (by decide), ne1 2 1 (by decide), ne1 4 0 (by decide), ne1 4 1 (by decide), ne1 3 0 (by decide), ne1 3 1 (by decide), ne1 0 1 (by decide), ne2 4 a la, ne2 4 b lb, ne2 3 a la, ne2 3 b lb, ne2 0 a la, ne2 0 b lb, ne2 1 a la, ne2 1 b lb⟩
      refine ⟨s1.heap.objs.size + 4, [s1.heap.objs.size + 4, s1.heap.objs.size + 2, s1.heap.objs.size + 3, s1.heap.objs.size, s1.heap.objs.size + 1], _, _, H1, rfl, I2, turn_zipMix D, ⟨hz, hTI, ⟨_, _, hTO⟩, .start h1, .start h2⟩, fun c hcm => ?_, q⟩
      have hle : s1.heap.objs.size ≤ c := by
        rcases (show c = s1.heap.objs.size + 4 ∨ c = s1.heap.objs.size + 2 ∨ c = s1.heap.objs.size + 3 ∨ c = s1.heap.objs.size ∨ c = s1.heap.objs.size + 1 by simpa using hcm) with z | z | z | z | z <;> rw [z] <;> first | exact Nat.le_add_right _ _ | exact Nat.le_refl _
      exact I1.fpOk hle (I1.hok.fresh hle)
theorem walk_zipMix {t1 t2 : Bool} {K : W.Frag} {a b : Addr} {xs ys : List V} {n : Nat} (hn : n = min xs.length ys.length) : Walk (ItzA t1 t2 K a b) n (fun H => SqA t1 K H a xs ∧ SqA t2 K H b ys) (YPair (fun i => xs[i]?) (fun i => ys[i]?)) := by
  subst hn
  refine ⟨fun i _ hi q => ?_, fun _ q => ⟨xs, ys, q.1, q.2, rfl⟩, fun i H v H' _ q y => ?_⟩
  · have h1 : i < xs.length := by omega
    have h2 : i < ys.length := by omega
    exact ⟨xs, ys, xs[i], ys[i], q.1, q.2, by simp [h1], by simp [h2]⟩
  · obtain ⟨T, x, z, h1, h2, h3, h4, h5⟩ := y
    exact ⟨T, x, z, h1, h2, h3, h4 xs q.1, h5 ys q.2⟩
end Bw

/-! Bw, part G: what is walked, comprehensions. -/
namespace Bw
open PySem PySem.Spec PyProof.Rows L2

def Itn (prog : Program) (w : World) (d : Addr) (o : Obj) (xs : List NEnt) : It :=
  ⟨fun i H => H d = some (.ext (RawN prog w d o xs)) ∧ i < xs.length, fun i H x H' => H' = H ∧ ∃ k q v, xs[i]? = some (k, q, v) ∧ x = .ref q, fun i H => H d = some (.ext (RawN prog w d o xs)) ∧ xs.length ≤ i⟩
theorem turn_keysN {P : Program} {w : World} {K : W.Frag} {tg : Expr} {d : Addr} {o : Obj} {es : Array DictEntry} {ep : Nat} {xs : List NEnt} (it : Addr) (hod : o.data = .dict es ep) : Turn P w K tg (Itn P w d o xs) [it] it (fun i h => h.IsKeyIter it d i xs.length ep) where
  mem := by simp
  obj := fun i h st b hb => by
    have e : b = it := by simpa using hb
    subst e
    obtain ⟨oi, e, c, dd⟩ := st
    exact ⟨oi, e, fun v z => by rw [dd] at z; cases z⟩
  keep := fun i h h' st k => st.at fun oi e => k it (by simp) oi e
  item := by
    intro X hP hw hK hc i pins s σ H E I hf st hg
    subst hP hw hK
    obtain ⟨hd, hi⟩ := hg
    obtain ⟨f0, f1, f2, f3, f4, f5⟩ := hf it (by simp)
    obtain ⟨⟨hs, hgd, hx, es', ep', hdt, he⟩, _⟩ := I.hok d _ hd
    obtain ⟨rfl, rfl⟩ := dict_ep hod hdt
    have hsz : es'.size = xs.length := size_of_entries he
    have ent := entry_at he i
    rw [List.getElem?_eq_getElem hi] at ent
    refine next_key_item st hgd hdt hsz ent fun h' st' sb => ?_
    have I1 : Inv X pins σ H { s with heap := h' } := I.turned (t' := s.toks) (fun b ob hb e => (sb.2 b hb).trans e) f0 f1 f3 f4 f5
    obtain ⟨oi, e, c, dd⟩ := id st'
    exact ⟨_, rfl, go_of (s := { s with heap := h' }) e c dd (by decide) ⟨.ref (xs[i]).2.1, H, I1, rfl, ⟨rfl, (xs[i]).1, (xs[i]).2.1, (xs[i]).2.2, List.getElem?_eq_getElem hi, rfl⟩, st', fun b hb => (hf b hb).1⟩⟩
  done := by
    intro X hP hw hK hc i pins s σ H E I hf st hg
    subst hP hw hK
    obtain ⟨hd, hi⟩ := hg
    obtain ⟨f0, f1, f2, f3, f4, f5⟩ := hf it (by simp)
    obtain ⟨⟨hs, hgd, hx, es', ep', hdt, he⟩, _⟩ := I.hok d _ hd
    obtain ⟨rfl, rfl⟩ := dict_ep hod hdt
    have hsz : es'.size = xs.length := size_of_entries he
    exact next_key_end (I.ok.hd hc) st hgd hdt hsz hi fun h' eb => ⟨rfl, I.turned (t' := s.toks) (fun b ob hb e => eb b ob hb e) f0 f1 f3 f4 f5⟩
  self := fun A i s Q E st h => by
    refine wpAny_pyIter_slot st.typeIs F.slot_dict_keyiterator_iter (wpAny_call_entry F.slot_dict_keyiterator_iter st.typeIs F.entry_dict_keyiterator_iter ?_ (F.args_dict_keyiterator_iter_1 _))
    show wpAny _ _ (ret (.ref it)) _ _ s
    exact wpAny_pure ⟨_, rfl, "dict_keyiterator", _, st.typeIs, F.slot_dict_keyiterator_next.lookup, h⟩
def iKeysN (prog : Program) (w : World) (td : TE) : TI := fun σ H R => td σ H fun x H1 => ∃ d o xs, x = .ref d ∧ H1 d = some (.ext (RawN prog w d o xs)) ∧ R (Itn prog w d o xs) H1
theorem pi_keysN {X : Cx} {tg e : Expr} {td : TE} (he : PE X e td) : PI X tg e (iKeysN X.prog X.w td) := by
  refine ⟨fun pins s σ H R I h => ?_⟩
  refine thn (he.run pins s σ H _ I h) fun u s1 ⟨x, H1, I1, rx, d, o, xs, ex, hd, q⟩ => ?_
  subst ex
  obtain rfl : u = Value.ref d := rx
  obtain ⟨⟨hs, hgd, hx, es, ep, hdt, he⟩, _⟩ := I1.hok d _ hd
  have hsz : es.size = xs.length := size_of_entries he
  refine iter_keys hs hgd hx hdt (pi_one (tk := s1.toks) I1 _ (turn_keysN _ hdt) ⟨_, Heap.get?_push_size _ rfl, rfl, ?_⟩ q)
  rw [hsz] <;> rfl
theorem paired_get2 {α β : Type} {G : α → β → Prop} : ∀ {l₁ : List α} {l₂ : List β} {i : Nat} {b : β}, Paired G l₁ l₂ → l₂[i]? = some b → ∃ a, l₁[i]? = some a ∧ G a b
  | _, _, _, _, .nil, e => by simp at e
  | _, _, 0, _, .cons r _, e => by simp at e; subst e; exact ⟨_, rfl, r⟩
  | _, _, i + 1, _, .cons _ t, e => by
    obtain ⟨a, h1, h2⟩ := paired_get2 (i := i) t (by simpa using e)
    exact ⟨a, by simpa using h1, h2⟩
theorem wk_keys {prog : Program} {w : World} {K : W.Frag} {P : Addr → Prop} {H1 : Hp} {d : Addr} {o : Obj} {xs : List NEnt} {kvs : List (D × D)} (hd : H1 d = some (.ext (RawN prog w d o xs))) (pr : Paired (EntN K H1 P) kvs xs) :
    Wk K true P (Itn prog w d o xs) H1 (kvs.map (·.1)) false := by
  have hl : kvs.length = xs.length := Paired.length pr
  unfold Wk
  rw [List.length_map, hl]
  refine ⟨fun i H hi z => ⟨z _ _ hd, hi⟩, fun H z => ⟨z _ _ hd, Nat.le_refl _⟩, fun i H x H' hi z y => ?_⟩
  obtain ⟨rfl, k, q, v, e, rfl⟩ := y
  obtain ⟨kv, h1, _, _, h2, _⟩ := paired_get2 pr e
  have z' : Same H1 H' := z
  exact ⟨Same.refl _, kv.1, by rw [List.getElem?_map, h1]; rfl, fun P' hp => ⟨.inl (Da.mono (.of_same z') hp _ _ h2), fun _ => Da.mono (.of_same z') hp _ _ h2⟩⟩

/-! ### what is walked -/
def pairI : I → Bool | .zip .. => true | .enum .. => true | _ => false
def rdI (X : Cx) (cf : Nat → List D → Option RV) (b : Bool) (c : I) : TI := fun σ H Rr => ∃ P F ρ ds, RX X P F ρ σ H ∧ evI cf c b ρ = some ds ∧ ∀ J H', Same H H' → ds.length ≤ sizeLine → Wk X.K b (PF P F) J H' ds (pairI c) → Rr J H'
structure OkI (X : Cx) (cf : Nat → List D → Option RV) (c : I) (t e : Expr) : Prop where
  pi : ∀ b, PI X t e (rdI X cf b c)
section
variable {g : G} {cf : Nat → List D → Option RV} {sc : Scope} {X : Cx} {P : Addr → Prop} {F : List Addr} {ρ : Env} {σ : L2.St} {H : Hp} {t : Expr}
theorem sI_ex {c : E} {e : Expr} (h : OkE X cf c e) : OkI X cf (.ex c) t e := ⟨fun b => ⟨fun pins s σ H Rr I ⟨P, F, ρ, ds, r, ev, q⟩ => by
  unfold evI at ev
  obtain ⟨x, k1, ev⟩ := Option.bind_eq_some_iff.mp ev
  cases x <;> simp [seqOf] at ev
  · subst ev
    refine (pi_list (h.pe b)).run pins s σ H Rr I (rd_in r k1 fun v H1 s1 r1 da _ => ?_)
    obtain ⟨a, vs, rfl, h1, h2, h3⟩ := da.list
    exact ⟨a, rfl, ⟨vs, Rd.sq (h1 H1 Zb.refl)⟩, q _ H1 s1 (by rw [← h3.length]; exact h2) (wk_list h1 h3)⟩
  · subst ev
    refine (pi_tup (h.pe b)).run pins s σ H Rr I (rd_in r k1 fun v H1 s1 r1 da _ => ?_)
    obtain ⟨a, vs, rfl, h1, h2, h3⟩ := da.tuple
    exact ⟨a, rfl, ⟨vs, (h1 H1 Zb.refl).sq⟩, q _ H1 s1 (by rw [← h3.length]; exact h2) (wk_tup h1 h3)⟩⟩⟩
theorem chars_len {x : Str} {ds : List D} (e : charsL (.str x) = some ds) : ds.length ≤ sizeLine := by
  simp only [charsL] at e
  split at e
  · cases e
    rw [List.length_map, Array.length_toList]
    assumption
  · cases e
theorem rng_len {lo hi : Int} {ds : List D} (h : rngL lo hi = some ds) : ds.length ≤ sizeLine := by
  unfold rngL at h
  split at h
  · rename_i z
    cases h
    rw [List.length_map, List.length_range]
    exact z.2.2.2.2
  · cases h
theorem sI_chars {c : E} {e : Expr} (h : OkE X cf c e) : OkI X cf (.chars c) t e := ⟨fun b => ⟨fun pins s σ H Rr I ⟨P, F, ρ, ds, r, ev, q⟩ => by
  unfold evI at ev
  obtain ⟨x, k1, ev⟩ := Option.bind_eq_some_iff.mp ev
  cases x <;> try (simp [charsL] at ev; done)
  refine (pi_str (h.pe false)).run pins s σ H Rr I (rd_in r k1 fun v H1 s1 r1 da _ => ?_)
  cases da
  exact ⟨_, rfl, q _ H1 s1 (chars_len ev) (wk_str ev)⟩⟩⟩
theorem rngL_bounds {lo hi : Int} {ds : List D} (h : rngL lo hi = some ds) : -(2 ^ 62) ≤ lo ∧ lo < 2 ^ 62 ∧ -(2 ^ 62) ≤ hi ∧ hi < 2 ^ 62 := by
  unfold rngL at h
  split at h
  · rename_i z; exact ⟨z.1, z.2.1, z.2.2.1, z.2.2.2.1⟩
  · cases h
theorem sI_rng (G : Gd g cf sc X) {a : E} {x : Str} {e : Expr} {p p2 : Pos} (hn : x = ("range" : Str)) (hx : glOk g sc x = true) (hs : nStar e = true) (h : OkE X cf a e) : OkI X cf (.rng a) t (.Call (.Name x p) [e] [] p2) := ⟨fun b => ⟨fun pins s σ H Rr I ⟨P, F, ρ, ds, r, ev, q⟩ => by
  subst hn
  obtain ⟨g1, g2⟩ := glOk_of G hx
  unfold evI at ev
  obtain ⟨x, k1, ev⟩ := Option.bind_eq_some_iff.mp ev
  cases x <;> try (simp at ev; done)
  rename_i n
  obtain ⟨b1, b2, b3, b4⟩ := rngL_bounds ev
  refine (pi_range1 g1 g2 (pa_cons (h.pe false) pa_nil (star_cons hs)) (star_cons hs)).run pins s σ H Rr I (rd_in r k1 fun v H1 s1 r1 da _ => ?_)
  cases da
  have w := wk_range (K := X.K) (b := b) (P := PF P F) (H1 := H1) ev
  rw [Int.sub_zero] at w
  exact ⟨n, rfl, b3, b4, q _ H1 s1 (rng_len ev) w⟩⟩⟩
theorem sI_rng2 (G : Gd g cf sc X) {a c : E} {x : Str} {e e2 : Expr} {p p2 : Pos} (hn : x = ("range" : Str)) (hx : glOk g sc x = true) (hs : nStar e = true) (hs2 : nStar e2 = true) (h : OkE X cf a e) (h2 : OkE X cf c e2) : OkI X cf (.rng2 a c) t (.Call (.Name x p) [e, e2] [] p2) := ⟨fun b => ⟨fun pins s σ H Rr I ⟨P, F, ρ, ds, r, ev, q⟩ => by
  subst hn
  obtain ⟨g1, g2⟩ := glOk_of G hx
  unfold evI at ev
  obtain ⟨x, k1, ev⟩ := Option.bind_eq_some_iff.mp ev
  obtain ⟨y, k2, ev⟩ := Option.bind_eq_some_iff.mp ev
  cases x <;> try (simp at ev; done)
  rename_i n _
  cases y <;> try (simp at ev; done)
  rename_i m
  obtain ⟨b1, b2, b3, b4⟩ := rngL_bounds ev
  refine (pi_range2 g1 g2 (pa_cons (h.pe false) (pa_cons (h2.pe false) pa_nil (star_cons hs2)) (star_cons hs)) (by rw [star_cons hs, star_cons hs2]; rfl) (star_cons hs2)).run pins s σ H Rr I (rd_in r k1 fun v H1 s1 r1 da _ => rd_in r1 k2 fun u H2 s2 r2 db _ => ?_)
  cases da
  cases db
  exact ⟨n, m, rfl, ⟨b1, b2, b3, b4⟩, q _ H2 (s1.trans s2) (rng_len ev) (wk_range ev)⟩⟩⟩
theorem sI_zip (G : Gd g cf sc X) {a c : E} {x : Str} {e e2 : Expr} {p p2 : Pos} (hn : x = ("zip" : Str)) (hx : glOk g sc x = true) (hs : nStar e = true) (hs2 : nStar e2 = true) (ht : (vTup t).isSome = true) (h : OkE X cf a e) (h2 : OkE X cf c e2) : OkI X cf (.zip a c) t (.Call (.Name x p) [e, e2] [] p2) := ⟨fun b => ⟨fun pins s σ H Rr I ⟨P, F, ρ, ds, r, ev, q⟩ => by
  subst hn
  obtain ⟨g1, g2⟩ := glOk_of G hx
  obtain ⟨elts, ht⟩ := Option.isSome_iff_exists.mp ht
  obtain ⟨kk, tp, rfl⟩ := vTup_of ht
  unfold evI at ev
  obtain ⟨x, k1, ev⟩ := Option.bind_eq_some_iff.mp ev
  obtain ⟨y, k2, ev⟩ := Option.bind_eq_some_iff.mp ev
  obtain ⟨xy, k3, rfl⟩ := Option.map_eq_some_iff.mp ev
  have mix := fun (t1 t2 : Bool) => (pi_zipM (t1 := t1) (t2 := t2) (kk := kk) (elts := elts) (tpos := tp) (p := p) (pos := p2) g1 g2 (pa_cons (h.pe b) (pa_cons (h2.pe b) pa_nil (star_cons hs2)) (star_cons hs)) (star_cons hs) (back_any (by simp [hs2]))).run pins s σ H Rr I
  have plain := (RZ.pi_zipA (kk := kk) (elts := elts) (tpos := tp) (p := p) (pos := p2) g1 g2 (pa_cons (h.pe b) (pa_cons (h2.pe b) pa_nil (star_cons hs2)) (star_cons hs)) (star_cons hs) (back_any (by simp [hs2]))).run pins s σ H Rr I
  cases x <;> try (simp [zipD] at k3; done)
  · cases y <;> try (simp [zipD] at k3; done)
    rotate_left
    · cases k3
      refine mix false true (rd_in r k1 fun v H1 s1 r1 da _ => rd_in r1 k2 fun u H2 s2 r2 db _ => ?_)
      obtain ⟨a1, v1, rfl, f1, f2, f3⟩ := (da.same s2).list
      obtain ⟨a2, v2, rfl, f4, f5, f6⟩ := db.tuple
      exact ⟨a1, a2, v1, v2, rfl, Rd.sq (f1 H2 Zb.refl), (f4 H2 Zb.refl).sq, q _ H2 (s1.trans s2) (by rw [zipL_len, ← f3.length]; omega) (wk_pairs (walk_zipMix (t1 := false) (t2 := true) (K := X.K) (a := a1) (b := a2) rfl) rfl (fun H z => ⟨Rd.sq (f1 H z), (f4 H z).sq⟩) f3 f6)⟩
    cases k3
    refine plain (rd_in r k1 fun v H1 s1 r1 da _ => rd_in r1 k2 fun u H2 s2 r2 db _ => ?_)
    obtain ⟨a1, v1, rfl, f1, f2, f3⟩ := (da.same s2).list
    obtain ⟨a2, v2, rfl, f4, f5, f6⟩ := db.list
    exact ⟨a1, a2, v1, v2, rfl, .inl ⟨Rd.sq (f1 H2 Zb.refl), Rd.sq (f4 H2 Zb.refl), q _ H2 (s1.trans s2) (by rw [zipL_len, ← f3.length]; omega) (wk_pairs (walk_zip (K := X.K) (a := a1) (b := a2) rfl) rfl (fun H z => ⟨Rd.sq (f1 H z), Rd.sq (f4 H z)⟩) f3 f6)⟩⟩
  · cases y <;> try (simp [zipD] at k3; done)
    · cases k3
      refine mix true false (rd_in r k1 fun v H1 s1 r1 da _ => rd_in r1 k2 fun u H2 s2 r2 db _ => ?_)
      obtain ⟨a1, v1, rfl, f1, f2, f3⟩ := (da.same s2).tuple
      obtain ⟨a2, v2, rfl, f4, f5, f6⟩ := db.list
      exact ⟨a1, a2, v1, v2, rfl, (f1 H2 Zb.refl).sq, Rd.sq (f4 H2 Zb.refl), q _ H2 (s1.trans s2) (by rw [zipL_len, ← f3.length]; omega) (wk_pairs (walk_zipMix (t1 := true) (t2 := false) (K := X.K) (a := a1) (b := a2) rfl) rfl (fun H z => ⟨(f1 H z).sq, Rd.sq (f4 H z)⟩) f3 f6)⟩
    cases k3
    refine plain (rd_in r k1 fun v H1 s1 r1 da _ => rd_in r1 k2 fun u H2 s2 r2 db _ => ?_)
    obtain ⟨a1, v1, rfl, f1, f2, f3⟩ := (da.same s2).tuple
    obtain ⟨a2, v2, rfl, f4, f5, f6⟩ := db.tuple
    exact ⟨a1, a2, v1, v2, rfl, .inr ⟨(f1 H2 Zb.refl).sq, (f4 H2 Zb.refl).sq, q _ H2 (s1.trans s2) (by rw [zipL_len, ← f3.length]; omega) (wk_pairs (walk_zipT (K := X.K) (a := a1) (b := a2) rfl) rfl (fun H z => ⟨(f1 H z).sq, (f4 H z).sq⟩) f3 f6)⟩⟩⟩⟩
theorem sI_enum (G : Gd g cf sc X) {a : E} {x : Str} {e : Expr} {p p2 : Pos} (hn : x = ("enumerate" : Str)) (hx : glOk g sc x = true) (hs : nStar e = true) (ht : (vTup t).isSome = true) (h : OkE X cf a e) : OkI X cf (.enum a) t (.Call (.Name x p) [e] [] p2) := ⟨fun b => ⟨fun pins s σ H Rr I ⟨P, F, ρ, ds, r, ev, q⟩ => by
  subst hn
  obtain ⟨g1, g2⟩ := glOk_of G hx
  obtain ⟨elts, ht⟩ := Option.isSome_iff_exists.mp ht
  obtain ⟨kk, tp, rfl⟩ := vTup_of ht
  unfold evI at ev
  obtain ⟨x, k1, ev⟩ := Option.bind_eq_some_iff.mp ev
  obtain ⟨xs, k2, rfl⟩ := Option.map_eq_some_iff.mp ev
  cases x <;> try (simp [seqOf] at k2; done)
  · cases k2
    refine (pi_enum g1 g2 (pa_cons (h.pe b) pa_nil (star_cons hs)) (star_cons hs)).run pins s σ H Rr I (rd_in r k1 fun v H1 s1 r1 da _ => ?_)
    obtain ⟨a1, v1, rfl, f1, f2, f3⟩ := da.list
    exact ⟨a1, v1, rfl, Rd.sq (f1 H1 Zb.refl), q _ H1 s1 (by rw [enumL_len, ← f3.length]; exact f2) (wk_enum f1 f3)⟩
  · cases k2
    refine (pi_enumT g1 g2 (pa_cons (h.pe b) pa_nil (star_cons hs)) (star_cons hs)).run pins s σ H Rr I (rd_in r k1 fun v H1 s1 r1 da _ => ?_)
    obtain ⟨a1, v1, rfl, f1, f2, f3⟩ := da.tuple
    exact ⟨a1, v1, rfl, (f1 H1 Zb.refl).sq, q _ H1 s1 (by rw [enumL_len, ← f3.length]; exact f2) (wk_enumT f1 f3)⟩⟩⟩
theorem sI_keys (G : Gd g cf sc X) {i : Nat} {x : Str} {p : Pos} (hn : nameOk X.N sc i x = true) : OkI X cf (.keys i) t (.Name x p) := ⟨fun b => ⟨fun pins s σ H Rr I ⟨P, F, ρ, ds, r, ev, q⟩ => by
  unfold evI at ev
  cases b with
  | false => cases ev
  | true =>
    rw [if_pos rfl] at ev
    obtain ⟨d, k1, ev⟩ := Option.bind_eq_some_iff.mp ev
    obtain ⟨nest, kvs⟩ := d
    obtain ⟨a, h1, h2, h3⟩ := r.dct k1
    cases nest with
    | true =>
      cases ev
      obtain ⟨o, xs, h4, h5, h6, h7⟩ := h3
      exact (pi_keysN (pe_slot G hn)).run pins s σ H Rr I ⟨_, h1, a, o, xs, rfl, h4, q _ H (Same.refl _) (by rw [List.length_map, show kvs.length = xs.length from Paired.length h7]; exact h5) (wk_keys h4 h7)⟩
    | false => cases ev⟩⟩

/-! ### comprehensions -/
def rdCond (X : Cx) (cf : Nat → List D → Option RV) (c : Oe) : TT := fun σ H Q => ∃ P F ρ k, RX X P F ρ σ H ∧ evCond cf c ρ = some k ∧ ∀ H', Same H H' → Q k H'
theorem sCond_no : PTs X [] (rdCond X cf .no) := ⟨fun pins s σ H Q I ⟨P, F, ρ, k, r, ev, q⟩ => by
  cases ev
  exact pts_nil.run pins s σ H Q I (q H (Same.refl _))⟩
theorem sCond_yes {c : E} {e : Expr} (h : OkE X cf c e) (ht : tOk e = true) : PTs X [e] (rdCond X cf (.yes c)) := ⟨fun pins s σ H Q I ⟨P, F, ρ, k, r, ev, q⟩ => by
  unfold evCond at ev
  obtain ⟨x, k1, ev⟩ := Option.bind_eq_some_iff.mp ev
  cases x <;> try (simp at ev; done)
  cases ev
  exact (pts_one (h.pt ht)).run pins s σ H Q I ⟨P, F, ρ, k, r, k1, q⟩⟩
theorem names_pgs (G : Gd g cf sc X) : ∀ {is : List Nat} {es : List Expr}, tgNames X.N sc is es = true → PGs X es (gS is) ∧ (assignEach es X.env).length = is.length ∧ (assignEach es X.env).findIdx? (·.1) = none
  | [], [], _ => ⟨pgs_nil, rfl, rfl⟩
  | [], _ :: _, h => by simp [tgNames] at h
  | _ :: _, [], h => by simp [tgNames] at h
  | i :: is, e :: es, h => by
    simp only [tgNames, Bool.and_eq_true] at h
    obtain ⟨h1, h2⟩ := h
    split at h1
    · rename_i x hv
      rw [Bool.and_eq_true] at h1
      obtain ⟨p, rfl⟩ := vName_of hv
      obtain ⟨k1, k2, k3⟩ := names_pgs G h2
      refine ⟨pgs_cons (pg_name G.nd (of_decide_eq_true h1.1) (G.rel.loc x h1.2) (G.fs x h1.2)) k1, ?_, ?_⟩
      · show (assignEach es X.env).length + 1 = is.length + 1
        rw [k2]
      · show List.findIdx? (·.1) ((false, assign (.Name x p) X.env) :: assignEach es X.env) = none
        rw [List.findIdx?_cons, if_neg Bool.false_ne_true, k3]
        rfl
    · cases h1
theorem tg_pg (G : Gd g cf sc X) {tg : Tg} (h : cTg X.N sc tg t = true) : PG X t (gT X.K tg) := by
  cases tg with
  | n i =>
    simp only [cTg] at h
    split at h
    · rename_i x hv
      rw [Bool.and_eq_true] at h
      obtain ⟨p, rfl⟩ := vName_of hv
      exact pg_name G.nd (of_decide_eq_true h.1) (G.rel.loc x h.2) (G.fs x h.2)
    · cases h
  | t is =>
    simp only [cTg] at h
    split at h
    · rename_i es hv
      obtain ⟨k, p, rfl⟩ := vTup_of hv
      obtain ⟨k1, k2, k3⟩ := names_pgs G h
      exact pg_tup G.calm k1 k2 k3
    · cases h
theorem lcF_append {f : D → Option (Option D)} : ∀ (xs ys : List D), lcF f (xs ++ ys) = (lcF f xs).bind fun a => (lcF f ys).map fun b => a ++ b
  | [], ys => by
    simp only [List.nil_append, lcF, Option.bind_some]
    cases lcF f ys <;> rfl
  | x :: xs, ys => by
    simp only [List.cons_append, lcF, lcF_append xs ys]
    cases f x with
    | none => rfl
    | some r =>
      cases lcF f xs with
      | none => rfl
      | some a =>
        cases lcF f ys with
        | none => rfl
        | some b => cases r <;> rfl
theorem lcF_at {f : D → Option (Option D)} {ds out : List D} (h : lcF f ds = some out) {i : Nat} {d : D} (hd : ds[i]? = some d) : ∃ rs r, lcF f (ds.take i) = some rs ∧ f d = some r ∧ lcF f (ds.take (i + 1)) = some (rs ++ r.toList) := by
  have hlt : i < ds.length := (List.getElem?_eq_some_iff.mp hd).1
  have e : ds = ds.take i ++ (d :: ds.drop (i + 1)) := by
    rw [← (List.getElem?_eq_some_iff.mp hd).2]
    simp
  have h' := h
  rw [e, lcF_append] at h'
  obtain ⟨rs, h1, h'⟩ := Option.bind_eq_some_iff.mp h'
  obtain ⟨b, h2, _⟩ := Option.map_eq_some_iff.mp h'
  simp only [lcF] at h2
  obtain ⟨r, h3, _⟩ := Option.bind_eq_some_iff.mp h2
  refine ⟨rs, r, h1, h3, ?_⟩
  rw [List.take_add_one, hd]
  show lcF f (ds.take i ++ [d]) = _
  rw [lcF_append, h1]
  simp only [lcF, h3, Option.bind_some, Option.map_some]
  cases r <;> rfl
theorem R.more' {prog : Program} {w : World} {K : W.Frag} {H1 : Hp} {D : Addr} {o : HO} (r : R prog w K P F ρ σ H1) (hD : H1 D = none) (s : Same H1 H) (e : H D = some o) (m : isMut o = true) : R prog w K P (D :: F) ρ σ H :=
  (r.more hD m).same fun b x h => by
    by_cases hb : b = D
    · subst hb
      rw [upd_same] at h
      rw [e]
      exact h
    · rw [upd_ne hb] at h
      exact s b x h
/-- the reading of one turn's element, kept or left out -/
theorem ownP_snd (N : List Str) (own : List Nat) : (ownP N own).map (·.2) = own := by
  unfold ownP
  rw [List.map_map]
  exact List.map_id' own
theorem lc_main {own : List Nat} {tg : Tg} {it : I} {cond : Oe} {elt : E} {b : Bool} {d : D} {Q : VK} (hin : tgIn own tg = true) (r : RX X P F ρ σ H) (ev : evE cf (.lc own tg it cond elt) b ρ = some d) (hp : ∀ i, tg = .n i → pairI it = false)
    (q : ∀ v H', Same H H' → Fresh X.K H H' (PF P F) v d → Q v H') : tLc (rdI X cf true it) (gT X.K tg) (rdCond X cf cond) (rdE X cf false elt) own σ H Q := by
  unfold evE at ev
  obtain ⟨ds, k1, ev⟩ := Option.bind_eq_some_iff.mp ev
  obtain ⟨out, k2, rfl⟩ := Option.map_eq_some_iff.mp ev
  refine ⟨P, F, ρ, ds, r, k1, fun J H1 s1 hl wk D hD => ?_⟩
  have r1 := r.same s1
  refine lc_it wk (fun i H2 => Same H1 H2 ∧ ∃ acc rs, lcF (fun d => (bindT tg d (wipeE ρ own)).bind fun ρ' => (evCond cf cond ρ').bind fun c => if c then (evE cf elt false ρ').map some else some none) (ds.take i) = some rs ∧ H2 D = some (.lst acc) ∧ acc.length ≤ i ∧ DaL X.K H2 (PF P (D :: F)) acc rs)
    ⟨same_upd hD, [], [], by rw [List.take_zero]; rfl, upd_same, Nat.le_refl _, .nil⟩ (fun i H2 hi p => p.1) (fun i x H2 H3 hi p y => ?_) fun H2 p => ?_
  · obtain ⟨s2, acc, rs, e1, e2, e3, e4⟩ := p
    obtain ⟨s3, d, hd, itm⟩ := y
    obtain ⟨rs', r', f1, f2, f3⟩ := lcF_at k2 hd
    rw [e1] at f1
    cases f1
    obtain ⟨ρ', b1, f2⟩ := Option.bind_eq_some_iff.mp f2
    obtain ⟨c, b2, f2⟩ := Option.bind_eq_some_iff.mp f2
    have hP : ∀ b o, PF P F b → H1 b = some o → PF P (D :: F) b := fun b o p e => ⟨p.1, fun z => (List.mem_cons.mp z).elim (fun q => by rw [q, hD] at e; cases e) p.2⟩
    obtain ⟨i1, i2⟩ := itm _ hP
    have e2' := s3 _ _ e2
    have rD : RX X P (D :: F) ρ σ H3 := R.more' r1 hD (s2.trans s3) e2' rfl
    refine gT_run (own := own) (rD.wipe own) i1 b1 (.inl hin) (fun σ2 r2 hl2 hw => ⟨(hw hin).trans ?_, P, D :: F, ρ', c, r2, b2, fun H4 s4 => ?_⟩) fun j hj => i2 (hp j hj)
    · refine wipe_eq (wipe_length _ _) fun j hj => wipe_out hj
    · cases c with
      | false =>
        have f2' : some none = some r' := f2
        cases f2'
        rw [if_neg Bool.false_ne_true]
        refine ⟨(s2.trans s3).trans s4, acc, rs, by rw [f3]; simp, s4 _ _ e2', by omega, (e4.same s3).same s4⟩
      | true =>
        have f2' : (evE cf elt false ρ').map some = some r' := f2
        obtain ⟨dv, b3, rfl⟩ := Option.map_eq_some_iff.mp f2'
        rw [if_pos rfl]
        refine rd_in (r2.same s4) b3 fun v H5 s5 r5 da _ => ⟨acc, s5 _ _ (s4 _ _ e2'), by omega, ?_⟩
        have e5 : H5 D = some (.lst acc) := s5 _ _ (s4 _ _ e2')
        have kk : Keeps (PF P (D :: F)) H5 (upd H5 D (.lst (acc ++ [v]))) := ⟨fun b o p e => by rw [upd_ne fun z => p.2 (by rw [z]; exact List.mem_cons_self)]; exact e,
          fun b o u e => by rw [upd_ne fun z => by rw [z, e5] at e; cases e]; exact e⟩
        refine ⟨fun b o e => ?_, acc ++ [v], rs ++ [dv], f3, upd_same, by rw [List.length_append]; simp; omega, ((((e4.same s3).same s4).same s5).append (.cons da .nil)).keep kk⟩
        rw [upd_ne (ne_of_none e hD)]
        exact s5 _ _ (s4 _ _ (s3 _ _ (s2 _ _ e)))
  · obtain ⟨s2, acc, rs, e1, e2, e3, e4⟩ := p
    rw [List.take_length, k2] at e1
    cases e1
    refine q _ H2 (s1.trans s2) ⟨D, acc, out, rfl, rfl, s1.free hD, e2, by omega, e4.weak fun b o p e => ⟨⟨p.1, fun z => p.2 (List.mem_cons_of_mem _ z)⟩, fun z => p.2 (by rw [z]; exact List.mem_cons_self)⟩⟩
end
end Bw

/-! Bw, part H: comprehensions as expressions; dicts. -/
namespace Bw
open PySem PySem.Spec PyProof.Rows L2

section
variable {g : G} {cf : Nat → List D → Option RV} {sc : Scope} {X : Cx} {P : Addr → Prop} {F : List Addr} {ρ : Env} {σ : L2.St} {H : Hp} {t : Expr}
theorem pair_no {it : I} {tg : Tg} {N : List Str} {s : Scope} {i : Expr} (ht : cTg N s tg t = true) (hi : cI g N it sc t i = true) : ∀ j, tg = .n j → pairI it = false := by
  intro j e
  subst e
  have hv : ∃ x, vName t = some x := by
    simp only [cTg] at ht
    split at ht
    · rename_i x h; exact ⟨x, h⟩
    · cases ht
  obtain ⟨x, hv⟩ := hv
  obtain ⟨p, rfl⟩ := vName_of hv
  cases it with
  | zip a b =>
    unfold cI at hi
    split at hi
    · simp [vTup] at hi
    · cases hi
  | enum a =>
    unfold cI at hi
    split at hi
    · simp [vTup] at hi
    · cases hi
  | _ => rfl
theorem sE_lc (G : Gd g cf sc X) {own : List Nat} {tg : Tg} {it : I} {cond : Oe} {elt : E} {e1 i : Expr} {ifs : List Expr} {s : Scope} {p : Pos} (hb : blkC X.N sc s (ownP X.N own) = true) (hin : tgIn own tg = true) (hs : nSet i = true) (ht : cTg X.N s tg t = true)
    (hp : ∀ j, tg = .n j → pairI it = false) (hi : OkI X cf it t i) (hc : ∀ X' : Cx, Gd g cf s X' → X'.N = X.N → PTs X' ifs (rdCond X' cf cond)) (he : ∀ X' : Cx, Gd g cf s X' → X'.N = X.N → OkE X' cf elt e1) :
    OkE X cf (.lc own tg it cond elt) (.ListComp e1 [⟨t, i, ifs, 0⟩] s p) := by
  refine .of_pe (fun b => (pe_lc (own := ownP X.N own) (g := gT X.K tg) (tt := rdCond X cf cond) (te := rdE X cf false elt) G.calm G.nd (hi.pi true) (blkOk_rel G.rel hb) (fun s' H' C cl fp => tg_pg (G.blk s' H' C cl fp) ht)
    (fun s' H' C cl fp => hc _ (G.blk s' H' C cl fp) rfl) (fun s' H' C cl fp => (he _ (G.blk s' H' C cl fp) rfl).pe false) (no_fold hs)).mono fun σ H Q ⟨P, F, ρ, d, r, ev, q⟩ => ?_) rfl
  rw [ownP_snd]
  exact lc_main hin r ev hp fun v H' s' fr => q v H' s' (.of (Fresh.da fr r.pf)) fun _ _ _ => fr
end

/-! ### two clauses -/
theorem lcF2_append {f : D → Option (List D)} : ∀ (xs ys : List D), lcF2 f (xs ++ ys) = (lcF2 f xs).bind fun a => (lcF2 f ys).map fun b => a ++ b
  | [], ys => by
    simp only [List.nil_append, lcF2, Option.bind_some]
    cases lcF2 f ys <;> rfl
  | x :: xs, ys => by
    simp only [List.cons_append, lcF2, lcF2_append xs ys]
    cases f x with
    | none => rfl
    | some r =>
      cases lcF2 f xs with
      | none => rfl
      | some a =>
        cases lcF2 f ys with
        | none => rfl
        | some b => simp
theorem lcF2_at {f : D → Option (List D)} {ds out : List D} (h : lcF2 f ds = some out) {i : Nat} {d : D} (hd : ds[i]? = some d) : ∃ rs r t, lcF2 f (ds.take i) = some rs ∧ f d = some r ∧ lcF2 f (ds.take (i + 1)) = some (rs ++ r) ∧ out = rs ++ r ++ t := by
  have hlt : i < ds.length := (List.getElem?_eq_some_iff.mp hd).1
  have e : ds = ds.take i ++ (d :: ds.drop (i + 1)) := by
    rw [← (List.getElem?_eq_some_iff.mp hd).2]
    simp
  have h' := h
  rw [e, lcF2_append] at h'
  obtain ⟨rs, h1, h'⟩ := Option.bind_eq_some_iff.mp h'
  obtain ⟨b, h2, h4⟩ := Option.map_eq_some_iff.mp h'
  simp only [lcF2] at h2
  obtain ⟨r, h3, h2⟩ := Option.bind_eq_some_iff.mp h2
  obtain ⟨t, h5, h6⟩ := Option.map_eq_some_iff.mp h2
  refine ⟨rs, r, t, h1, h3, ?_, by rw [← h4, ← h6, List.append_assoc]⟩
  rw [List.take_add_one, hd]
  show lcF2 f (ds.take i ++ [d]) = _
  rw [lcF2_append, h1]
  simp only [lcF2, h3, Option.bind_some, Option.map_some, List.append_nil]
theorem lcF_pre0 {f : D → Option (Option D)} {ds out rs : List D} (h : lcF f ds = some out) {k : Nat} (h2 : lcF f (ds.take k) = some rs) : ∃ t, out = rs ++ t := by
  rw [← List.take_append_drop k ds, lcF_append, h2] at h
  obtain ⟨b, _, rfl⟩ := Option.map_eq_some_iff.mp (by simpa using h)
  exact ⟨b, rfl⟩
section
variable {J : It} {n : Nat} {G : Hp → Prop} {Y : Nat → Hp → V → Hp → Prop}
/-- the turns of an inner clause -/
theorem lc_in (w : Walk J n G Y) {g : TG} {tt : TT} {te : TE} {vs : List Nat} {σ : L2.St} {H4 : Hp} {D : Addr} {Qd : Hp → Prop} (Pv : Nat → Hp → Prop) (h0 : Pv 0 H4) (hG : ∀ i H, i ≤ n → Pv i H → G H)
    (hs : ∀ i x H H', i < n → Pv i H → Y i H x H' → g x (L2.wipe σ vs) H' fun σ2 H2 => L2.wipe σ2 vs = L2.wipe σ vs ∧ tt σ2 H2 fun b H3 =>
      if b = true then te σ2 H3 fun y H4 => ∃ acc, H4 D = some (.lst acc) ∧ acc.length < sizeLine ∧ Pv (i + 1) (upd H4 D (.lst (acc ++ [y]))) else Pv (i + 1) H3) (hd : ∀ H, Pv n H → Qd H) :
    ∃ W : Nat → Nat → Hp → Prop, (∃ m, W 0 m H4) ∧ ∀ i m H, W i m H →
      (J.stop i H ∧ Qd H) ∨ (J.go i H ∧ ∃ Nx : Hp → Prop, (∀ H', Nx H' → ∃ m', m' < m ∧ W (i + 1) m' H') ∧ ∀ x H', J.yld i H x H' → g x (L2.wipe σ vs) H' fun σ2 H2 => L2.wipe σ2 vs = L2.wipe σ vs ∧ tt σ2 H2 fun b H3 =>
        if b = true then te σ2 H3 fun y H4 => ∃ acc, H4 D = some (.lst acc) ∧ acc.length < sizeLine ∧ Nx (upd H4 D (.lst (acc ++ [y]))) else Nx H3) := by
  refine ⟨fun i m H => m = n - i ∧ i ≤ n ∧ Pv i H, ⟨n, by simp, Nat.zero_le _, h0⟩, ?_⟩
  rintro i m H ⟨rfl, hi, p⟩
  have q := hG i H hi p
  by_cases hlt : i < n
  · refine .inr ⟨w.goes i H hlt q, Pv (i + 1), fun H' p' => ⟨n - (i + 1), by omega, rfl, hlt, p'⟩, fun x H' y => hs i x H H' hlt p (w.yields i H x H' hlt q y)⟩
  · have e : i = n := by omega
    subst e
    exact .inl ⟨w.stops H q, hd H p⟩
/-- the turns of the outer clause -/
theorem lc_out (w : Walk J n G Y) {g g1 : TG} {tt tt1 : TT} {te : TE} {wi1 : TI} {vs vs1 : List Nat} {σ : L2.St} {H1 : Hp} {D : Addr} {Qd : Hp → Prop} (Pv : Nat → Hp → Prop) (h0 : Pv 0 (upd H1 D (.lst []))) (hG : ∀ i H, i ≤ n → Pv i H → G H)
    (hs : ∀ i x H H', i < n → Pv i H → Y i H x H' → g x (L2.wipe σ vs) H' fun σ2 H2 => L2.wipe σ2 vs = L2.wipe σ vs ∧ tt σ2 H2 fun b H3 =>
      if b = true then wi1 σ2 H3 fun J1 H4 => ∃ W1 : Nat → Nat → Hp → Prop, (∃ m, W1 0 m H4) ∧ ∀ j k H, W1 j k H →
        (J1.stop j H ∧ Pv (i + 1) H) ∨ (J1.go j H ∧ ∃ Nx1 : Hp → Prop, (∀ H', Nx1 H' → ∃ k', k' < k ∧ W1 (j + 1) k' H') ∧ ∀ x H', J1.yld j H x H' → g1 x (L2.wipe σ2 vs1) H' fun σ3 H5 => L2.wipe σ3 vs1 = L2.wipe σ2 vs1 ∧ tt1 σ3 H5 fun b H6 =>
          if b = true then te σ3 H6 fun y H7 => ∃ acc, H7 D = some (.lst acc) ∧ acc.length < sizeLine ∧ Nx1 (upd H7 D (.lst (acc ++ [y]))) else Nx1 H6)
      else Pv (i + 1) H3) (hd : ∀ H, Pv n H → Qd H) :
    ∃ W : Nat → Nat → Hp → Prop, (∃ m, W 0 m (upd H1 D (.lst []))) ∧ ∀ i m H, W i m H →
      (J.stop i H ∧ Qd H) ∨ (J.go i H ∧ ∃ Nx : Hp → Prop, (∀ H', Nx H' → ∃ m', m' < m ∧ W (i + 1) m' H') ∧ ∀ x H', J.yld i H x H' → g x (L2.wipe σ vs) H' fun σ2 H2 => L2.wipe σ2 vs = L2.wipe σ vs ∧ tt σ2 H2 fun b H3 =>
        if b = true then wi1 σ2 H3 fun J1 H4 => ∃ W1 : Nat → Nat → Hp → Prop, (∃ m, W1 0 m H4) ∧ ∀ j k H, W1 j k H →
          (J1.stop j H ∧ Nx H) ∨ (J1.go j H ∧ ∃ Nx1 : Hp → Prop, (∀ H', Nx1 H' → ∃ k', k' < k ∧ W1 (j + 1) k' H') ∧ ∀ x H', J1.yld j H x H' → g1 x (L2.wipe σ2 vs1) H' fun σ3 H5 => L2.wipe σ3 vs1 = L2.wipe σ2 vs1 ∧ tt1 σ3 H5 fun b H6 =>
            if b = true then te σ3 H6 fun y H7 => ∃ acc, H7 D = some (.lst acc) ∧ acc.length < sizeLine ∧ Nx1 (upd H7 D (.lst (acc ++ [y]))) else Nx1 H6)
        else Nx H3) := by
  refine ⟨fun i m H => m = n - i ∧ i ≤ n ∧ Pv i H, ⟨n, by simp, Nat.zero_le _, h0⟩, ?_⟩
  rintro i m H ⟨rfl, hi, p⟩
  have q := hG i H hi p
  by_cases hlt : i < n
  · refine .inr ⟨w.goes i H hlt q, Pv (i + 1), fun H' p' => ⟨n - (i + 1), by omega, rfl, hlt, p'⟩, fun x H' y => hs i x H H' hlt p (w.yields i H x H' hlt q y)⟩
  · have e : i = n := by omega
    subst e
    exact .inl ⟨w.stops H q, hd H p⟩
end
section
variable {g : G} {cf : Nat → List D → Option RV} {sc : Scope} {X : Cx} {P : Addr → Prop} {F : List Addr} {ρ : Env} {σ : L2.St} {H : Hp} {t : Expr}
theorem lc2_main {own own1 : List Nat} {tg tg1 : Tg} {it it1 : I} {cond cond1 : Oe} {elt : E} {b : Bool} {d : D} {Q : VK} (hin : tgIn own tg = true) (hin1 : tgIn own1 tg1 = true) (hsub : ∀ j ∈ own1, j ∈ own) (r : RX X P F ρ σ H) (ev : evE cf (.lc2 own own1 tg it cond tg1 it1 cond1 elt) b ρ = some d)
    (hp : ∀ i, tg = .n i → pairI it = false) (hp1 : ∀ i, tg1 = .n i → pairI it1 = false)
    (q : ∀ v H', Same H H' → Fresh X.K H H' (PF P F) v d → Q v H') : tLc2 (rdI X cf true it) (gT X.K tg) (rdCond X cf cond) (rdI X cf false it1) (gT X.K tg1) (rdCond X cf cond1) (rdE X cf false elt) own own1 σ H Q := by
  unfold evE at ev
  obtain ⟨ds, k1, ev⟩ := Option.bind_eq_some_iff.mp ev
  obtain ⟨out, k2, ev⟩ := Option.bind_eq_some_iff.mp ev
  split at ev
  case isFalse => cases ev
  rename_i hfit
  cases ev
  have hfit' : out.length ≤ sizeLine := of_decide_eq_true hfit
  refine ⟨P, F, ρ, ds, r, k1, fun J H1 s1 hl wk D hD => ?_⟩
  have r1 := r.same s1
  let P' : Addr → Prop := fun b => P b ∧ b ≠ D
  have hDF : D ∉ F := fun hb => by
    obtain ⟨o', h1, _⟩ := r1.trk D hb
    rw [hD] at h1
    cases h1
  refine lc_out wk (fun i H2 => Same H1 H2 ∧ ∃ acc rs, lcF2 (fun d => (bindT tg d (wipeE ρ own)).bind fun ρ' => (evCond cf cond ρ').bind fun c =>
      if c then (evI cf it1 false ρ').bind fun es => lcF (fun e => (bindT tg1 e (wipeE ρ' own1)).bind fun ρ2 => (evCond cf cond1 ρ2).bind fun c1 =>
        if c1 then (evE cf elt false ρ2).map some else some none) es else some []) (ds.take i) = some rs ∧ H2 D = some (.lst acc) ∧ DaL X.K H2 (PF P' F) acc rs)
    ⟨same_upd hD, [], [], by rw [List.take_zero]; rfl, upd_same, .nil⟩ (fun i H2 hi p => p.1) (fun i x H2 H3 hi p y => ?_) fun H2 p => ?_
  · obtain ⟨s2, acc, rs, e1, e2, e4⟩ := p
    obtain ⟨s3, d, hd, itm⟩ := y
    obtain ⟨rs', r', t, f1, f2, f3, fout⟩ := lcF2_at k2 hd
    rw [e1] at f1
    cases f1
    obtain ⟨ρ', b1, f2⟩ := Option.bind_eq_some_iff.mp f2
    obtain ⟨c, b2, f2⟩ := Option.bind_eq_some_iff.mp f2
    have hP : ∀ b o, PF P F b → H1 b = some o → PF P' F b := fun b o p e => ⟨⟨p.1, fun z => by rw [z, hD] at e; cases e⟩, p.2⟩
    obtain ⟨i1, i2⟩ := itm _ hP
    have e2' := s3 _ _ e2
    have rD : RX X P' F ρ σ H3 := R.ban r1 hD (s2.trans s3) e2'
    refine gT_run (own := own) (rD.wipe own) i1 b1 (.inl hin) (fun σ2 r2 hl2 hw => ⟨(hw hin).trans ?_, P', F, ρ', c, r2, b2, fun H4 s4 => ?_⟩) fun j hj => i2 (hp j hj)
    · refine wipe_eq (wipe_length _ _) fun j hj => wipe_out hj
    · cases c with
      | false =>
        have f2' : some [] = some r' := f2
        cases f2'
        rw [if_neg Bool.false_ne_true]
        exact ⟨(s2.trans s3).trans s4, acc, rs, by rw [f3]; simp, s4 _ _ e2', (e4.same s3).same s4⟩
      | true =>
        rw [if_pos rfl]
        obtain ⟨es, g1, g2⟩ := Option.bind_eq_some_iff.mp (show (evI cf it1 false ρ').bind _ = some r' from f2)
        refine ⟨P', F, ρ', es, r2.same s4, g1, fun J1 H5 s5 hl1 wk1 => ?_⟩
        have s25 : Same H1 H5 := ((s2.trans s3).trans s4).trans s5
        have r5 : RX X P' F ρ' σ2 H5 := (r2.same s4).same s5
        have e5 : H5 D = some (.lst acc) := s5 _ _ (s4 _ _ e2')
        have hu : ∀ o, H5 D = some o → isMut o = true := fun o z => by rw [e5] at z; cases z; rfl
        have kpX : ∀ {H : Hp}, SameX D H5 H → Keeps (PF P' F) H5 H := fun sx => ⟨fun b o p e => sx b o e p.1.2, fun b o q e => sx _ _ e fun z => by rw [z] at e; have := hu _ e; cases this⟩
        refine lc_in wk1 (fun j H6 => Same H1 H6 ∧ SameX D H5 H6 ∧ ∃ acc1 rs1, lcF (fun e => (bindT tg1 e (wipeE ρ' own1)).bind fun ρ2 => (evCond cf cond1 ρ2).bind fun c1 => if c1 then (evE cf elt false ρ2).map some else some none) (es.take j) = some rs1 ∧
            H6 D = some (.lst acc1) ∧ DaL X.K H6 (PF P' F) acc1 (rs ++ rs1))
          ⟨s25, fun b o e _ => e, acc, [], by rw [List.take_zero]; rfl, e5, by rw [List.append_nil]; exact ((e4.same s3).same s4).same s5⟩ (fun j H6 hj p => kpX p.2.1) (fun j x H6 H7 hj p y => ?_) fun H6 p => ?_
        · obtain ⟨a1, a2, acc1, rs1, a3, a4, a5⟩ := p
          obtain ⟨s7, e, he, itm1⟩ := y
          obtain ⟨rs1', r1', c1, c2, c3⟩ := lcF_at g2 he
          rw [a3] at c1
          cases c1
          obtain ⟨ρ2, d1, c2⟩ := Option.bind_eq_some_iff.mp c2
          obtain ⟨cc, d2, c2⟩ := Option.bind_eq_some_iff.mp c2
          obtain ⟨j1, j2⟩ := itm1 (PF P' F) fun b o p _ => p
          have a4' := s7 _ _ a4
          have r7 : RX X P' F ρ' σ2 H7 := (R.stepX r5 (fun b p => p.2) hDF a2 hu a4).same s7
          refine gT_run (own := own1) (r7.wipe own1) j1 d1 (.inl hin1) (fun σ3 r8 hl3 hw3 => ⟨(hw3 hin1).trans ?_, P', F, ρ2, cc, r8, d2, fun H8 s8 => ?_⟩) fun l hl => j2 (hp1 l hl)
          · refine wipe_eq (wipe_length _ _) fun j hj => wipe_out hj
          · cases cc with
            | false =>
              have c2' : some none = some r1' := c2
              cases c2'
              rw [if_neg Bool.false_ne_true]
              have s78 := s7.trans s8
              exact ⟨a1.trans s78, fun b o e n => s78 _ _ (a2 b o e n), acc1, rs1, by rw [c3]; simp, s78 _ _ a4, a5.same s78⟩
            | true =>
              have c2' : (evE cf elt false ρ2).map some = some r1' := c2
              obtain ⟨dv, b3, rfl⟩ := Option.map_eq_some_iff.mp c2'
              rw [if_pos rfl]
              refine rd_in (r8.same s8) b3 fun v H9 s9 r9 da _ => ?_
              have s79 := (s7.trans s8).trans s9
              have e9 : H9 D = some (.lst acc1) := s79 _ _ a4
              obtain ⟨t1, ht1⟩ := lcF_pre0 g2 c3
              have hlen : acc1.length < sizeLine := by
                have h1 := a5.length
                have h2 := congrArg List.length fout
                rw [ht1] at h2
                simp only [List.length_append, Option.toList_some, List.length_singleton] at h1 h2
                omega
              refine ⟨acc1, e9, hlen, ?_⟩
              have kk : Keeps (PF P' F) H9 (upd H9 D (.lst (acc1 ++ [v]))) := ⟨fun b o p e => by rw [upd_ne p.1.2]; exact e,
                fun b o u e => by rw [upd_ne fun z => by rw [z, e9] at e; cases e]; exact e⟩
              refine ⟨fun b o e => ?_, fun b o e n => by rw [upd_ne n]; exact s79 _ _ (a2 b o e n), acc1 ++ [v], rs1 ++ [dv], by rw [c3]; rfl, upd_same, ?_⟩
              · rw [upd_ne (ne_of_none e hD)]
                exact s79 _ _ (a1 _ _ e)
              · rw [← List.append_assoc]
                exact ((a5.same s79).append (.cons da .nil)).keep kk
        · obtain ⟨a1, a2, acc1, rs1, a3, a4, a5⟩ := p
          rw [List.take_length, g2] at a3
          cases a3
          exact ⟨a1, acc1, rs ++ r', f3, a4, a5⟩
  · obtain ⟨s2, acc, rs, e1, e2, e4⟩ := p
    rw [List.take_length, k2] at e1
    cases e1
    refine q _ H2 (s1.trans s2) ⟨D, acc, out, rfl, rfl, s1.free hD, e2, by rw [e4.length]; exact hfit', e4.weak fun b o p e => ⟨⟨p.1.1, p.2⟩, p.1.2⟩⟩
theorem sE_lc2 (G : Gd g cf sc X) {own own1 : List Nat} {tg tg1 : Tg} {it it1 : I} {cond cond1 : Oe} {elt : E} {e1 i t1 i1 : Expr} {ifs ifs1 : List Expr} {s : Scope} {p : Pos} (hb : blkC X.N sc s (ownP X.N own) = true) (hin : tgIn own tg = true) (hin1 : tgIn own1 tg1 = true) (hsub : (own1.all fun j => own.contains j) = true)
    (hs : nSet i = true) (hs1 : nSet i1 = true) (ht : cTg X.N s tg t = true) (hp : ∀ j, tg = .n j → pairI it = false) (hi : OkI X cf it t i) (hc : ∀ X' : Cx, Gd g cf s X' → X'.N = X.N → PTs X' ifs (rdCond X' cf cond))
    (ht1 : cTg X.N s tg1 t1 = true) (hp1 : ∀ j, tg1 = .n j → pairI it1 = false) (hi1 : ∀ X' : Cx, Gd g cf s X' → X'.N = X.N → OkI X' cf it1 t1 i1) (hc1 : ∀ X' : Cx, Gd g cf s X' → X'.N = X.N → PTs X' ifs1 (rdCond X' cf cond1)) (he : ∀ X' : Cx, Gd g cf s X' → X'.N = X.N → OkE X' cf elt e1) :
    OkE X cf (.lc2 own own1 tg it cond tg1 it1 cond1 elt) (.ListComp e1 [⟨t, i, ifs, 0⟩, ⟨t1, i1, ifs1, 0⟩] s p) := by
  have hsub' : ∀ j ∈ own1, j ∈ own := fun j hj => by
    have := List.all_eq_true.mp hsub j hj
    exact List.contains_iff_mem.mp this
  refine .of_pe (fun b => (pe_lc2 (own := ownP X.N own) (vs1 := own1) (g := gT X.K tg) (tt := rdCond X cf cond) (g1 := gT X.K tg1) (tt1 := rdCond X cf cond1) (wi1 := rdI X cf false it1) (te := rdE X cf false elt) G.calm G.nd (hi.pi true) (blkOk_rel G.rel hb) (fun i hi => by rw [ownP_snd]; exact hsub' i hi)
    (fun s' H' C cl fp => tg_pg (G.blk s' H' C cl fp) ht) (fun s' H' C cl fp => hc _ (G.blk s' H' C cl fp) rfl) (fun s' H' C cl fp => (hi1 _ (G.blk s' H' C cl fp) rfl).pi false) (fun s' H' C cl fp => tg_pg (G.blk s' H' C cl fp) ht1)
    (fun s' H' C cl fp => hc1 _ (G.blk s' H' C cl fp) rfl) (fun s' H' C cl fp => (he _ (G.blk s' H' C cl fp) rfl).pe false) (no_fold hs) (fun env => no_fold (env := env) hs1)).mono fun σ H Q ⟨P, F, ρ, d, r, ev, q⟩ => ?_) rfl
  rw [ownP_snd]
  exact lc2_main hin hin1 hsub' r ev hp hp1 fun v H' s' fr => q v H' s' (.of (Fresh.da fr r.pf)) fun _ _ _ => fr
end
end Bw

/-! Bw, part I: dicts, looked into and changed. -/
namespace Bw
open PySem PySem.Spec PyProof.Rows L2

/-! ### keys -/
mutual
theorem eqv_key : ∀ (a b : D), keyOk a = true → keyOk b = true → PyData.eqv a b = NestedKey.beq (keyN a) (keyN b)
  | .int i, .int j, _, _ => by
    show (i == j) = decide (i = j)
    by_cases h : i = j
    · simp [h]
    · rw [decide_eq_false h]
      simp [h]
  | .int i, .str y, _, _ => rfl
  | .int i, .tuple ys, _, _ => rfl
  | .str x, .int j, _, _ => rfl
  | .str x, .str y, _, _ => by
    show (x == y) = decide (x = y)
    by_cases h : x = y
    · simp [h]
    · rw [decide_eq_false h]
      simp [h]
  | .str x, .tuple ys, _, _ => rfl
  | .tuple xs, .int j, _, _ => rfl
  | .tuple xs, .str y, _, _ => rfl
  | .tuple xs, .tuple ys, h, k => eqv_keys xs ys h k
  | .none, _, h, _ => by cases h
  | .bool _, _, h, _ => by cases h
  | .list _, _, h, _ => by cases h
  | .dict _, _, h, _ => by cases h
  | .int _, .none, _, h => by cases h
  | .int _, .bool _, _, h => by cases h
  | .int _, .list _, _, h => by cases h
  | .int _, .dict _, _, h => by cases h
  | .str _, .none, _, h => by cases h
  | .str _, .bool _, _, h => by cases h
  | .str _, .list _, _, h => by cases h
  | .str _, .dict _, _, h => by cases h
  | .tuple _, .none, _, h => by cases h
  | .tuple _, .bool _, _, h => by cases h
  | .tuple _, .list _, _, h => by cases h
  | .tuple _, .dict _, _, h => by cases h
theorem eqv_keys : ∀ (a b : List D), keyOkAll a = true → keyOkAll b = true → PyData.eqvAll a b = NestedKey.beqAll (keyNs a) (keyNs b)
  | [], [], _, _ => rfl
  | [], _ :: _, _, _ => rfl
  | _ :: _, [], _, _ => rfl
  | x :: xs, y :: ys, h, k => by
    simp only [keyOkAll, Bool.and_eq_true] at h k
    show (PyData.eqv x y && PyData.eqvAll xs ys) = (NestedKey.beq (keyN x) (keyN y) && NestedKey.beqAll (keyNs xs) (keyNs ys))
    rw [eqv_key x y h.1 k.1, eqv_keys xs ys h.2 k.2]
end
mutual
theorem key_depth : ∀ (a : D), keyOk a = true → (keyN a).depth = a.depth
  | .int i, _ => rfl
  | .str x, _ => rfl
  | .tuple xs, h => by
    show NestedKey.depthAll (keyNs xs) + 1 = PyData.depthAll xs + 1
    rw [keys_depth xs h]
  | .none, h => by cases h
  | .bool _, h => by cases h
  | .list _, h => by cases h
  | .dict _, h => by cases h
theorem keys_depth : ∀ (a : List D), keyOkAll a = true → NestedKey.depthAll (keyNs a) = PyData.depthAll a
  | [], _ => rfl
  | x :: xs, h => by
    simp only [keyOkAll, Bool.and_eq_true] at h
    show max (keyN x).depth (NestedKey.depthAll (keyNs xs)) = max x.depth (PyData.depthAll xs)
    rw [key_depth x h.1, keys_depth xs h.2]
end
theorem fit_ok {k : D} (h : keyFit true k = true) : keyOk k = true ∧ (keyN k).depth ≤ 8 := by
  cases k with
  | tuple xs =>
    simp only [keyFit, Bool.and_eq_true, decide_eq_true_eq] at h
    have hk : keyOk (.tuple xs) = true := h.1
    exact ⟨hk, by rw [key_depth _ hk]; exact h.2⟩
  | _ => cases h
theorem key_eq {a b : D} (ha : keyFit true a = true) (hb : keyFit true b = true) : PyData.eqv a b = decide (keyN a = keyN b) := by
  rw [NestedKey.decide_eq, eqv_key a b (fit_ok ha).1 (fit_ok hb).1]
theorem fit_ref {K : W.Frag} {H : Hp} {P : Addr → Prop} {v : V} {k : D} (h : keyFit true k = true) (da : Da K H P v k) : ∃ b, v = .ref b := by
  cases k with
  | tuple xs => cases da; exact ⟨_, rfl⟩
  | _ => cases h
theorem fit_str {k : D} (h : keyFit false k = true) : ∃ s, k = .str s := by
  cases k with
  | str s => exact ⟨s, rfl⟩
  | _ => cases h
section
variable {prog : Program} {w : World} {K : W.Frag} {H H' : Hp} {P P' : Addr → Prop} {h : Heap}
mutual
theorem key_is (ok : HOk prog w H h) : ∀ (k : D) (v : V) (u : Value), keyOk k = true → Da K H P v k → RelV v u → NestedIs h (keyN k) u
  | .int i, _, u, _, da, r => by
    cases da
    obtain ⟨t, rfl⟩ := r
    exact .int i t
  | .str x, _, u, _, da, r => by
    cases da
    obtain ⟨t, rfl⟩ := r
    exact .text x t
  | .tuple ks, _, u, hk, da, r => by
    cases da with
    | tup h1 h2 =>
      cases (show u = Value.ref _ from r)
      obtain ⟨o, e, _⟩ := h1.2
      obtain ⟨_, its, r, ob, g1, g2, n, g3⟩ := rd_of ok (.inr ⟨o, e⟩)
      exact .tup g1 g2 g3 (by simpa using keys_is ok ks _ its hk h2 r)
  | .none, _, _, h, _, _ => by cases h
  | .bool _, _, _, h, _, _ => by cases h
  | .list _, _, _, h, _, _ => by cases h
  | .dict _, _, _, h, _, _ => by cases h
theorem keys_is (ok : HOk prog w H h) : ∀ (ks : List D) (vs : List V) (us : List Value), keyOkAll ks = true → DaL K H P vs ks → Vals vs us → NestedAll h (keyNs ks) us
  | [], _, _, _, da, r => by
    cases da
    cases r
    exact .nil
  | k :: ks, _, _, hk, da, r => by
    simp only [keyOkAll, Bool.and_eq_true] at hk
    cases da with
    | cons d1 d2 =>
      cases r with
      | cons r1 r2 => exact .cons (key_is ok k _ _ hk.1 d1 r1) (keys_is ok ks _ _ hk.2 d2 r2)
end
theorem knd_is (ok : HOk prog w H h) {k : D} {b : Addr} (hk : keyFit true k = true) (da : Da K H P (.ref b) k) : (nestedKind prog w).is h (keyN k) b :=
  ⟨key_is ok k _ _ (fit_ok hk).1 da rfl, (fit_ok hk).2⟩
theorem pairs_mem {α β : Type} {G : α → β → Prop} : ∀ {l₁ : List α} {l₂ : List β}, Paired G l₁ l₂ → ∀ b ∈ l₂, ∃ a, G a b
  | _, _, .cons r t, b, hb => (List.mem_cons.mp hb).elim (fun e => ⟨_, e ▸ r⟩) (pairs_mem t b)
theorem dctN_of (ok : HOk prog w H h) {a : Addr} {o : Obj} {xs : List NEnt} {kvs : List (D × D)} (e : H a = some (.ext (RawN prog w a o xs))) (nd : (xs.map (·.1)).Nodup) (pr : Paired (EntN K H P) kvs xs) :
    (a == sysModules) = false ∧ h.DictOfH (nestedKind prog w) a xs := by
  obtain ⟨⟨h1, h2, h3, es, ep, h4, h5⟩, _⟩ := ok a _ e
  refine ⟨h1, o, es, ep, h2, h3, h4, h5, fun x hx => ?_, nd⟩
  obtain ⟨kv, g1, g2, g3, _⟩ := pairs_mem pr x hx
  have := knd_is ok g1 g3
  rw [g2] at this
  exact this

/-! ### what is looked up -/
theorem atKey_cons {x : NEnt} {r : List NEnt} {k : NestedKey} : atKey (x :: r) k = if x.1 = k then some x.2 else atKey r k := by
  unfold atKey
  rw [List.find?_cons]
  by_cases h : x.1 = k
  · rw [if_pos h, decide_eq_true h]; rfl
  · rw [if_neg h, decide_eq_false h]
theorem look_some : ∀ {kvs : List (D × D)} {xs : List NEnt} {k d : D}, Paired (EntN K H P) kvs xs → keyFit true k = true → dLook kvs k = some d → ∃ p v, atKey xs (keyN k) = some p ∧ RelV v p.2 ∧ Da K H P v d
  | _, _, _, _, .nil, _, e => by cases e
  | (a, v) :: r, x :: xs, k, d, .cons z t, hk, e => by
    obtain ⟨g1, g2, g3, u, g4, g5⟩ := z
    unfold dLook at e
    rw [key_eq g1 hk] at e
    rw [atKey_cons]
    by_cases hq : keyN a = keyN k
    · rw [if_pos (decide_eq_true hq)] at e
      cases e
      rw [if_pos (g2.symm.trans hq)]
      exact ⟨_, u, rfl, g4, g5⟩
    · rw [if_neg (by rw [decide_eq_false hq]; exact Bool.false_ne_true)] at e
      rw [if_neg fun z => hq (g2.trans z)]
      exact look_some t hk e
theorem look_none : ∀ {kvs : List (D × D)} {xs : List NEnt} {k : D}, Paired (EntN K H P) kvs xs → keyFit true k = true → dLook kvs k = none → atKey xs (keyN k) = none
  | _, _, _, .nil, _, _ => rfl
  | (a, v) :: r, x :: xs, k, .cons z t, hk, e => by
    obtain ⟨g1, g2, g3, u, g4, g5⟩ := z
    unfold dLook at e
    rw [key_eq g1 hk] at e
    rw [atKey_cons]
    by_cases hq : keyN a = keyN k
    · rw [if_pos (decide_eq_true hq)] at e
      cases e
    · rw [if_neg (by rw [decide_eq_false hq]; exact Bool.false_ne_true)] at e
      rw [if_neg fun z => hq (g2.trans z)]
      exact look_none t hk e
theorem look_isSome {kvs : List (D × D)} {xs : List NEnt} {k : D} (pr : Paired (EntN K H P) kvs xs) (hk : keyFit true k = true) : (atKey xs (keyN k)).isSome = (dLook kvs k).isSome := by
  cases e : dLook kvs k with
  | none => rw [look_none pr hk e]; rfl
  | some d =>
    obtain ⟨p, v, h1, _⟩ := look_some pr hk e
    rw [h1]
    rfl
theorem put_far {k : NestedKey} {val : Value} : ∀ {xs : List NEnt}, k ∉ xs.map (·.1) → xs.map (putAt k val) = xs
  | [], _ => rfl
  | x :: r, h => by
    rw [List.map_cons, put_far (fun z => h (List.mem_cons_of_mem _ z))]
    unfold putAt
    rw [if_neg fun z => h (by rw [← z]; exact List.mem_cons_self)]
theorem storedH_cons_ne {x : NEnt} {r : List NEnt} {k : NestedKey} {b : Addr} {val : Value} (hn : ¬ x.1 = k) : storedH (x :: r) k b val = x :: storedH r k b val := by
  unfold storedH
  rw [atKey_cons, if_neg hn]
  cases atKey r k with
  | none => rfl
  | some p =>
    show List.map (putAt k val) (x :: r) = x :: List.map (putAt k val) r
    rw [List.map_cons]
    unfold putAt
    rw [if_neg hn]
theorem storedH_cons_eq {x : NEnt} {r : List NEnt} {k : NestedKey} {b : Addr} {val : Value} (hn : x.1 = k) (nd : ((x :: r).map (·.1)).Nodup) : storedH (x :: r) k b val = (x.1, x.2.1, val) :: r := by
  unfold storedH
  rw [atKey_cons, if_pos hn]
  show List.map (putAt k val) (x :: r) = _
  rw [List.map_cons, List.nodup_cons] at nd
  rw [List.map_cons, put_far (by rw [← hn]; exact nd.1)]
  unfold putAt
  rw [if_pos hn]
theorem put_pairs : ∀ {kvs : List (D × D)} {xs : List NEnt} {k d : D} {b : Addr} {v : V} {val : Value}, Paired (EntN K H P) kvs xs → (xs.map (·.1)).Nodup → keyFit true k = true → Da K H P (.ref b) k → RelV v val → Da K H P v d →
    Paired (EntN K H P) (dPut kvs k d) (storedH xs (keyN k) b val)
  | _, _, k, d, b, v, val, .nil, _, hk, dk, rv, dv => .cons ⟨hk, rfl, dk, v, rv, dv⟩ .nil
  | (a, c) :: r, x :: xs, k, d, b, v, val, .cons z t, nd, hk, dk, rv, dv => by
    have z' := z
    obtain ⟨g1, g2, g3, u, g4, g5⟩ := z
    unfold dPut
    rw [key_eq g1 hk]
    by_cases hq : keyN a = keyN k
    · rw [if_pos (decide_eq_true hq), storedH_cons_eq (g2.symm.trans hq) nd]
      exact .cons ⟨g1, g2, g3, v, rv, dv⟩ t
    · rw [if_neg (by rw [decide_eq_false hq]; exact Bool.false_ne_true), storedH_cons_ne fun z => hq (g2.trans z)]
      rw [List.map_cons, List.nodup_cons] at nd
      exact .cons z' (put_pairs t nd.2 hk dk rv dv)
theorem drop_far {k : NestedKey} {xs : List NEnt} (h : k ∉ xs.map (·.1)) : withoutH xs k = xs := withoutH_of_not_mem xs k h
theorem drop_pairs : ∀ {kvs : List (D × D)} {xs : List NEnt} {k : D}, Paired (EntN K H P) kvs xs → (xs.map (·.1)).Nodup → keyFit true k = true → Paired (EntN K H P) (dDrop kvs k) (withoutH xs (keyN k))
  | _, _, _, .nil, _, _ => .nil
  | (a, c) :: r, x :: xs, k, .cons z t, nd, hk => by
    have z' := z
    obtain ⟨g1, g2, g3, u, g4, g5⟩ := z
    rw [List.map_cons, List.nodup_cons] at nd
    unfold dDrop
    rw [key_eq g1 hk]
    by_cases hq : keyN a = keyN k
    · rw [if_pos (decide_eq_true hq)]
      have e : withoutH (x :: xs) (keyN k) = xs := by
        unfold withoutH
        rw [List.filter_cons, if_neg (by simp [g2.symm.trans hq])]
        exact drop_far (by rw [← hq, g2]; exact nd.1)
      rw [e]
      exact t
    · rw [if_neg (by rw [decide_eq_false hq]; exact Bool.false_ne_true)]
      have e : withoutH (x :: xs) (keyN k) = x :: withoutH xs (keyN k) := by
        unfold withoutH
        rw [List.filter_cons, if_pos (decide_eq_true (p := x.1 ≠ keyN k) fun z => hq (g2.trans z))]
      rw [e]
      exact .cons z' (drop_pairs t nd.2 hk)
theorem length_storedH (xs : List NEnt) (k : NestedKey) (b : Addr) (v : Value) : (storedH xs k b v).length ≤ xs.length + 1 := by
  unfold storedH
  split
  · rw [List.length_map]; omega
  · rw [List.length_append]; simp
end
end Bw

/-! Bw, part J: dicts, as the machine runs. -/
namespace Bw
open PySem PySem.Spec PyProof.Rows L2

section
variable {K : W.Frag} {H H' : Hp} {P P' : Addr → Prop}
/-! ### keys that are texts -/
theorem lookS : ∀ {kvs : List (D × D)} {xs : List (Key × V)} {s : Str}, Paired (EntS K H P) kvs xs → (match dLook kvs (.str s) with | some d => ∃ v, valV xs (Sum.inr s) = some v ∧ Da K H P v d | none => valV xs (Sum.inr s) = none)
  | _, _, s, .nil => rfl
  | (a, v) :: r, x :: xs, s, .cons z t => by
    obtain ⟨c, g1, g2, g3⟩ := z
    cases (show a = .str c from g1)
    unfold dLook
    by_cases hq : c = s
    · subst hq
      rw [if_pos (show PyData.eqv (.str c) (.str c) = true from beq_self_eq_true c)]
      exact ⟨x.2, valV_pos g2, g3⟩
    · rw [if_neg (show ¬ PyData.eqv (.str c) (.str s) = true from fun z => hq (by simpa [PyData.eqv] using z)), valV_neg (by rw [g2]; exact fun z => hq (Sum.inr.inj z))]
      exact lookS t
theorem putS_cons_ne {x : Key × V} {r : List (Key × V)} {k : Key} {v : V} (h : ¬ x.1 = k) : putK (x :: r) k v = x :: putK r k v := by
  unfold putK
  rw [List.any_cons, decide_eq_false h, Bool.false_or, List.map_cons, if_neg h]
  split <;> rfl
theorem putS_far {k : Key} {v : V} : ∀ {xs : List (Key × V)}, k ∉ xs.map (·.1) → xs.map (fun kv => if kv.1 = k then (kv.1, v) else kv) = xs
  | [], _ => rfl
  | x :: r, h => by
    rw [List.map_cons, putS_far (fun z => h (List.mem_cons_of_mem _ z)), if_neg fun z => h (by rw [← z]; exact List.mem_cons_self)]
theorem putS_cons_eq {x : Key × V} {r : List (Key × V)} {k : Key} {v : V} (h : x.1 = k) (nd : ((x :: r).map (·.1)).Nodup) : putK (x :: r) k v = (x.1, v) :: r := by
  rw [List.map_cons, List.nodup_cons] at nd
  unfold putK
  rw [List.any_cons, decide_eq_true h, Bool.true_or, if_pos rfl, List.map_cons, if_pos h, putS_far (by rw [← h]; exact nd.1)]
theorem putS : ∀ {kvs : List (D × D)} {xs : List (Key × V)} {s : Str} {d : D} {v : V}, Paired (EntS K H P) kvs xs → (xs.map (·.1)).Nodup → Da K H P v d → Paired (EntS K H P) (dPut kvs (.str s) d) (putK xs (Sum.inr s) v)
  | _, _, s, d, v, .nil, _, dv => .cons ⟨s, rfl, rfl, dv⟩ .nil
  | (a, c) :: r, x :: xs, s, d, v, .cons z t, nd, dv => by
    have z' := z
    obtain ⟨e, g1, g2, g3⟩ := z
    cases (show a = .str e from g1)
    unfold dPut
    by_cases hq : e = s
    · subst hq
      rw [if_pos (show PyData.eqv (.str e) (.str e) = true from beq_self_eq_true e), putS_cons_eq g2 nd]
      exact .cons ⟨e, rfl, g2, dv⟩ t
    · rw [if_neg (show ¬ PyData.eqv (.str e) (.str s) = true from fun z => hq (by simpa [PyData.eqv] using z)), putS_cons_ne (by rw [g2]; exact fun z => hq (Sum.inr.inj z))]
      rw [List.map_cons, List.nodup_cons] at nd
      exact .cons z' (putS t nd.2 dv)
theorem putK_nodup {xs : List (Key × V)} {k : Key} {v : V} (nd : (xs.map (·.1)).Nodup) : ((putK xs k v).map (·.1)).Nodup := by
  unfold putK
  split
  · rw [List.map_map]
    have e : ((fun kv : Key × V => kv.1) ∘ fun kv => if kv.1 = k then (kv.1, v) else kv) = fun kv => kv.1 := by
      funext kv
      show (if kv.1 = k then (kv.1, v) else kv).1 = kv.1
      split <;> rfl
    rw [e]
    exact nd
  · rename_i h
    rw [List.map_append, List.nodup_append]
    refine ⟨nd, by simp, fun a ha b hb => ?_⟩
    simp at hb
    subst hb
    intro e
    subst e
    obtain ⟨x, hx, rfl⟩ := List.mem_map.mp ha
    exact h (List.any_eq_true.mpr ⟨x, hx, by simp⟩)
theorem dropS_far {k : Key} {xs : List (Key × V)} (h : k ∉ xs.map (·.1)) : dropK xs k = xs := by
  unfold dropK
  refine List.filter_eq_self.mpr fun x hx => decide_eq_true fun z => h (by rw [← z]; exact List.mem_map_of_mem hx)
theorem dropS : ∀ {kvs : List (D × D)} {xs : List (Key × V)} {s : Str}, Paired (EntS K H P) kvs xs → (xs.map (·.1)).Nodup → Paired (EntS K H P) (dDrop kvs (.str s)) (dropK xs (Sum.inr s))
  | _, _, _, .nil, _ => .nil
  | (a, c) :: r, x :: xs, s, .cons z t, nd => by
    have z' := z
    obtain ⟨e, g1, g2, g3⟩ := z
    cases (show a = .str e from g1)
    rw [List.map_cons, List.nodup_cons] at nd
    unfold dDrop
    by_cases hq : e = s
    · subst hq
      rw [if_pos (show PyData.eqv (.str e) (.str e) = true from beq_self_eq_true e)]
      have e' : dropK (x :: xs) (Sum.inr e) = xs := by
        unfold dropK
        rw [List.filter_cons, if_neg (by simp [g2])]
        exact dropS_far (by rw [← g2]; exact nd.1)
      rw [e']
      exact t
    · rw [if_neg (show ¬ PyData.eqv (.str e) (.str s) = true from fun z => hq (by simpa [PyData.eqv] using z))]
      have e' : dropK (x :: xs) (Sum.inr s) = x :: dropK xs (Sum.inr s) := by
        unfold dropK
        rw [List.filter_cons, if_pos (decide_eq_true (p := x.1 ≠ Sum.inr s) (by rw [g2]; exact fun z => hq (Sum.inr.inj z)))]
      rw [e']
      exact .cons z' (dropS t nd.2)
end

section
variable {X : Cx} {pins : List (Addr × Obj)} {σ : L2.St} {H : Hp} {s : Shared} {a : Addr} {y v : V} {u r : Value} {A : Around} {E : Value → Shared → Prop} {P : Addr → Prop} {nest : Bool} {kvs : List (D × D)} {k d : D}
theorem room8 (hu : A.units + 20 < cLine) : (nestedKind X.prog X.w).room A.in1 := by
  show A.in1.units + 8 < cLine
  show A.units + 1 + 8 < cLine
  omega
theorem dct_get {Q : Value → Shared → Prop} (hu : A.units + 20 < cLine) (I : Inv X pins σ H s) (dc : DctAt X.prog X.w X.K H P a nest kvs) (hk : keyFit nest k = true) (da : Da X.K H P y k) (l : dLook kvs k = some d) (ry : RelV y u)
    (h : ∀ v w' s', Inv X pins σ H s' → RelV v w' → Da X.K H P v d → Q w' s') : wpAny (model X.prog X.w) A (getItem (.ref a) u) Q E s := by
  cases nest with
  | false =>
    obtain ⟨xs, e, nd, pr⟩ := dc
    obtain ⟨st, rfl⟩ := fit_str hk
    cases da
    have := lookS (s := st) pr
    rw [l] at this
    obtain ⟨v, h1, h2⟩ := this
    have g := DGet.k (H := H) (a := a) (k := Sum.inr st) e
    rw [h1] at g
    exact d_getItem (by omega) I g ry fun w' s' I' rw' => h v w' s' I' rw' h2
  | true =>
    obtain ⟨o, xs, e, hl, nd, pr⟩ := dc
    obtain ⟨b, rfl⟩ := fit_ref hk da
    cases (show u = Value.ref b from ry)
    obtain ⟨p, v, h1, h2, h3⟩ := look_some pr hk l
    exact wpAny_getItem_heap (room8 (X := X) hu) (knd_is I.hok hk da) (dctN_of I.hok e nd pr).2 h1 (h v _ _ (I.tok _) h2 h3)
theorem dct_in {Q : Value → Shared → Prop} (hu : A.units + 20 < cLine) (I : Inv X pins σ H s) (dc : DctAt X.prog X.w X.K H P a nest kvs) (hk : keyFit nest k = true) (da : Da X.K H P y k) (ry : RelV y u)
    (h : ∀ s', Inv X pins σ H s' → Q (.bool (dLook kvs k).isSome) s') : wpAny (model X.prog X.w) A (compareOp .In u (.ref a)) Q E s := by
  cases nest with
  | false =>
    obtain ⟨xs, e, nd, pr⟩ := dc
    obtain ⟨st, rfl⟩ := fit_str hk
    cases da
    have q := lookS (s := st) pr
    have g := DGet.k (H := H) (a := a) (k := Sum.inr st) e
    refine d_in (by omega) I g ry fun s' I' => ?_
    have e' : (valV xs (Sum.inr st)).isSome = (dLook kvs (.str st)).isSome := by
      cases hq : dLook kvs (.str st) with
      | none => rw [hq] at q; rw [q]; rfl
      | some d => rw [hq] at q; obtain ⟨v, h1, _⟩ := q; rw [h1]; rfl
    rw [e']
    exact h s' I'
  | true =>
    obtain ⟨o, xs, e, hl, nd, pr⟩ := dc
    obtain ⟨b, rfl⟩ := fit_ref hk da
    cases (show u = Value.ref b from ry)
    obtain ⟨h1, h2⟩ := dctN_of I.hok e nd pr
    refine wpAny_in_heap (room8 (X := X) hu) (knd_is I.hok hk da) h1 h2 ?_
    rw [look_isSome pr hk]
    exact h _ (I.tok _)
theorem dct_notIn {Q : Value → Shared → Prop} (hu : A.units + 20 < cLine) (I : Inv X pins σ H s) (dc : DctAt X.prog X.w X.K H P a nest kvs) (hk : keyFit nest k = true) (da : Da X.K H P y k) (ry : RelV y u)
    (h : ∀ s', Inv X pins σ H s' → Q (.bool (!(dLook kvs k).isSome)) s') : wpAny (model X.prog X.w) A (compareOp .NotIn u (.ref a)) Q E s := by
  cases nest with
  | false =>
    obtain ⟨xs, e, nd, pr⟩ := dc
    obtain ⟨st, rfl⟩ := fit_str hk
    cases da
    have q := lookS (s := st) pr
    have g := DGet.k (H := H) (a := a) (k := Sum.inr st) e
    refine d_notIn (by omega) I g ry fun s' I' => ?_
    have e' : (valV xs (Sum.inr st)).isSome = (dLook kvs (.str st)).isSome := by
      cases hq : dLook kvs (.str st) with
      | none => rw [hq] at q; rw [q]; rfl
      | some d => rw [hq] at q; obtain ⟨v, h1, _⟩ := q; rw [h1]; rfl
    rw [e']
    exact h s' I'
  | true =>
    obtain ⟨o, xs, e, hl, nd, pr⟩ := dc
    obtain ⟨b, rfl⟩ := fit_ref hk da
    cases (show u = Value.ref b from ry)
    obtain ⟨h1, h2⟩ := dctN_of I.hok e nd pr
    refine wpAny_notIn_heap (room8 (X := X) hu) (knd_is I.hok hk da) h1 h2 ?_
    rw [look_isSome pr hk]
    exact h _ (I.tok _)
theorem dct_get2 {Q : Value → Shared → Prop} {z : V} {e : D} (hu : A.units + 20 < cLine) (I : Inv X pins σ H s) (dc : DctAt X.prog X.w X.K H P a nest kvs) (hk : keyFit nest k = true) (da : Da X.K H P y k) (dz : Da X.K H P z e) (ry : RelV y u) (rz : RelV z r)
    (h : ∀ v w' s', Inv X pins σ H s' → RelV v w' → Da X.K H P v ((dLook kvs k).getD e) → Q w' s') : wpAny (model X.prog X.w) A (call (.builtin "dict.get") [.ref a, u, r]) Q E s := by
  cases nest with
  | false =>
    obtain ⟨xs, ea, nd, pr⟩ := dc
    obtain ⟨st, rfl⟩ := fit_str hk
    cases da
    have q := lookS (s := st) pr
    have g := DGet.k (H := H) (a := a) (k := Sum.inr st) ea
    refine d_get2 (by omega) I g ry rz fun w' s' I' rw' => h _ w' s' I' rw' ?_
    cases hq : dLook kvs (.str st) with
    | none => rw [hq] at q; rw [q]; exact dz
    | some d => rw [hq] at q; obtain ⟨v, h1, h2⟩ := q; rw [h1]; exact h2
  | true =>
    obtain ⟨o, xs, ea, hl, nd, pr⟩ := dc
    obtain ⟨b, rfl⟩ := fit_ref hk da
    cases (show u = Value.ref b from ry)
    obtain ⟨h1, h2⟩ := dctN_of I.hok ea nd pr
    cases hq : dLook kvs k with
    | none =>
      refine call_meetsIn PySem.F.slot_dict_get h2.typeIs PySem.F.entry_dict_get (PySem.F.args_dict_get_3 _ _ _) (meetsH_dict_get_default (nestedKind X.prog X.w) a b h1 r) ⟨room8 (X := X) hu, _, xs, knd_is I.hok hk da, h2, ?_⟩
      rw [look_none pr hk hq]
      rw [hq] at h
      exact h z _ _ (I.tok _) rz dz
    | some d =>
      obtain ⟨p, v, g1, g2, g3⟩ := look_some pr hk hq
      refine call_meetsIn PySem.F.slot_dict_get h2.typeIs PySem.F.entry_dict_get (PySem.F.args_dict_get_3 _ _ _) (meetsH_dict_get_default (nestedKind X.prog X.w) a b h1 r) ⟨room8 (X := X) hu, _, xs, knd_is I.hok hk da, h2, ?_⟩
      rw [g1]
      rw [hq] at h
      exact h v _ _ (I.tok _) g2 g3
/-- the dict at a is now another one; all else stands -/
structure DNew (X : Cx) (H H' : Hp) (P : Addr → Prop) (a : Addr) (nest : Bool) (kvs : List (D × D)) : Prop where
  ne : ∀ b, b ≠ a → H' b = H b
  isM : ∃ o, H' a = some o ∧ isMut o = true
  at_ : DctAt X.prog X.w X.K H' P a nest kvs
theorem DctAt.isM {prog : Program} {w : World} {K : W.Frag} (dc : DctAt prog w K H P a nest kvs) : ∃ o, H a = some o ∧ isMut o = true ∧ L2.Mut (H a) := by
  cases nest with
  | false =>
    obtain ⟨xs, e, _⟩ := dc
    exact ⟨_, e, rfl, by rw [e]; exact True.intro⟩
  | true =>
    obtain ⟨o, xs, e, _⟩ := dc
    exact ⟨_, e, rfl, by rw [e]; exact True.intro⟩
theorem keeps_upd {ob o : HO} (ha : ¬ P a) (e : H a = some o) (m : isMut o = true) : Keeps P H (upd H a ob) :=
  ⟨fun b x p h => by rw [upd_ne fun z => ha (by rw [← z]; exact p)]; exact h, fun b x u' h => by rw [upd_ne fun z => by rw [z, e] at h; cases h; cases m]; exact h⟩
theorem rawN_ok {o : Obj} {xs : List NEnt} {h : Heap} {H' : Hp} (h1 : (a == sysModules) = false) (h2 : h.get? a = some o) (h3 : o.ExactDict) (h4 : ∃ es ep, o.data = .dict es ep ∧ es.toList = xs.map (entryOfKey (nestedKind X.prog X.w))) : ObjOk X.prog X.w H' h a (.ext (RawN X.prog X.w a o xs)) :=
  ⟨⟨h1, h2, h3, h4⟩, ⟨o, h2⟩, fun g1 g2 q k => ⟨q.1, k _ q.2.1, q.2.2⟩⟩
theorem dct_set {Q : Unit → Shared → Prop} (hu : A.units + 20 < cLine) (I : Inv X pins σ H s) (dc : DctAt X.prog X.w X.K H P a nest kvs) (ha : ¬ P a) (hk : keyFit nest k = true) (hl : kvs.length < sizeLine) (da : Da X.K H P y k) (dv : Da X.K H P v d) (ry : RelV y u) (rv : RelV v r)
    (h : ∀ H' s', Inv X pins σ H' s' → DNew X H H' P a nest (dPut kvs k d) → Q () s') : wpAny (model X.prog X.w) A (setItem (.ref a) u r) Q E s := by
  cases nest with
  | false =>
    obtain ⟨xs, e, nd, pr⟩ := dc
    obtain ⟨st, rfl⟩ := fit_str hk
    cases da
    have hl' : xs.length < sizeLine := by rw [← Paired.length pr]; exact hl
    refine d_setItem (by omega) I (DPut.k (k := Sum.inr st) (v := v) e hl') ry rv fun s' I' => h _ s' I' ⟨fun b hb => upd_ne hb, ⟨_, upd_same, rfl⟩, putK xs (Sum.inr st) v, upd_same, putK_nodup nd, ?_⟩
    exact putS (paired_mono (fun _ _ z => z.mono (keeps_upd ha e rfl) fun _ _ p _ => p) pr) nd (dv.keep (keeps_upd ha e rfl))
  | true =>
    obtain ⟨o, xs, e, hx, nd, pr⟩ := dc
    obtain ⟨b, rfl⟩ := fit_ref hk da
    cases (show u = Value.ref b from ry)
    obtain ⟨h1, h2⟩ := dctN_of I.hok e nd pr
    refine wpAny_setItem_heap (hsz := hx) (room8 (X := X) hu) (knd_is I.hok hk da) h2 fun h' dd' hs => ?_
    obtain ⟨q, es, ep, g1, g2, g3, g4, g5, g6⟩ := dd'
    have I' := d_write (t' := s.toks + (nestedKind X.prog X.w).draws (keyN k)) (ob := .ext (RawN X.prog X.w a q (storedH xs (keyN k) b r))) I (by rw [e]; exact True.intro) hs ⟨q, g1⟩ (rawN_ok h1 g1 g2 ⟨es, ep, g3, g4⟩)
    have kp := keeps_upd (ob := .ext (RawN X.prog X.w a q (storedH xs (keyN k) b r))) ha e rfl
    have hl' : xs.length < sizeLine := by rw [← Paired.length pr]; exact hl
    refine h _ _ I' ⟨fun b hb => upd_ne hb, ⟨_, upd_same, rfl⟩, q, _, upd_same, ?_, g6, put_pairs (paired_mono (fun _ _ z => z.mono kp fun _ _ p _ => p) pr) nd hk (da.keep kp) rv (dv.keep kp)⟩
    have := length_storedH xs (keyN k) b r
    omega
theorem dct_pop {Q : Value → Shared → Prop} (hu : A.units + 20 < cLine) (I : Inv X pins σ H s) (dc : DctAt X.prog X.w X.K H P a nest kvs) (ha : ¬ P a) (hk : keyFit nest k = true) (da : Da X.K H P y k) (l : dLook kvs k = some d) (ry : RelV y u)
    (h : ∀ v w' H' s', Inv X pins σ H' s' → RelV v w' → DNew X H H' P a nest (dDrop kvs k) → Q w' s') : wpAny (model X.prog X.w) A (call (.builtin "dict.pop") [.ref a, u]) Q E s := by
  cases nest with
  | false =>
    obtain ⟨xs, e, nd, pr⟩ := dc
    obtain ⟨st, rfl⟩ := fit_str hk
    cases da
    have := lookS (s := st) pr
    rw [l] at this
    obtain ⟨v, h1, h2⟩ := this
    refine d_pop (k := Sum.inr st) I e ry h1 (.inl rfl) fun w' s' I' rw' => h v w' _ s' I' rw' ⟨fun b hb => upd_ne hb, ⟨_, upd_same, rfl⟩, dropK xs (Sum.inr st), upd_same, ?_, ?_⟩
    · exact (List.filter_sublist.map _).nodup nd
    · exact dropS (paired_mono (fun _ _ z => z.mono (keeps_upd ha e rfl) fun _ _ p _ => p) pr) nd
  | true =>
    obtain ⟨o, xs, e, hx, nd, pr⟩ := dc
    obtain ⟨b, rfl⟩ := fit_ref hk da
    cases (show u = Value.ref b from ry)
    obtain ⟨h1, h2⟩ := dctN_of I.hok e nd pr
    obtain ⟨p, v, f1, f2, f3⟩ := look_some pr hk l
    refine call_pop_heap (hsz := hx) (.inl rfl) (PySem.F.args_dict_pop_2 _ _) (room8 (X := X) hu) (knd_is I.hok hk da) h1 h2 f1 fun h' dd' hs => ?_
    obtain ⟨q, es, ep, g1, g2, g3, g4, g5, g6⟩ := dd'
    have I' := d_write (t' := s.toks + (nestedKind X.prog X.w).draws (keyN k)) (ob := .ext (RawN X.prog X.w a q (withoutH xs (keyN k)))) I (by rw [e]; exact True.intro) hs ⟨q, g1⟩ (rawN_ok h1 g1 g2 ⟨es, ep, g3, g4⟩)
    have kp := keeps_upd (ob := .ext (RawN X.prog X.w a q (withoutH xs (keyN k)))) ha e rfl
    refine h v _ _ _ I' f2 ⟨fun b hb => upd_ne hb, ⟨_, upd_same, rfl⟩, q, _, upd_same, ?_, g6, drop_pairs (paired_mono (fun _ _ z => z.mono kp fun _ _ p _ => p) pr) nd hk⟩
    have := List.length_filter_le (fun x : NEnt => decide (x.1 ≠ keyN k)) xs
    exact Nat.le_trans this hx
end
end Bw

/-! Bw, part K: sorted over a dict; dicts in expressions. -/
namespace Bw
open PySem PySem.Spec PyProof.Rows L2

section
variable {X : Cx} {pos : Pos}
theorem pe_dnewN : PE X (.Dict [] [] pos) (fun _ H Q => ∀ p o, H p = none → Q (.ref p) (upd H p (.ext (RawN X.prog X.w p o [])))) := ⟨fun pins s σ H Q I h =>
  wpAny_Dict_empty ⟨.ref s.heap.objs.size, _, I.laid (a := s.heap.objs.size) (o := .ext (RawN X.prog X.w s.heap.objs.size { cls := .type "dict", data := .dict #[] } [])) (t' := s.toks) (fun _ _ q => Heap.get?_push_of_some _ q) (Nat.le_refl _)
    (rawN_ok (beq_eq_false_iff_ne.mpr (Ne.symm (Nat.ne_of_lt I.big))) (Heap.get?_push_size _ rfl) ⟨rfl, rfl, rfl⟩ ⟨#[], 0, rfl, rfl⟩), rfl, h _ _ (I.hok.fresh (Nat.le_refl _))⟩⟩
def tDNew (X : Cx) (nest : Bool) : TE := fun _ H Q => ∀ p H', H p = none → Same H H' → (∃ o, H' p = some o ∧ isMut o = true) → (∀ P, DctAt X.prog X.w X.K H' P p nest []) → (∀ b, b ≠ p → H' b = H b) → Q (.ref p) H'
theorem pe_dnew (nest : Bool) : PE X (.Dict [] [] pos) (tDNew X nest) := by
  cases nest with
  | false => exact pe_dnewK.mono fun σ H Q q p np => q p _ np (same_upd np) ⟨_, upd_same, rfl⟩ (fun P => ⟨[], upd_same, List.nodup_nil, .nil⟩) fun b hb => upd_ne hb
  | true => exact pe_dnewN.mono fun σ H Q q p o np => q p _ np (same_upd np) ⟨_, upd_same, rfl⟩ (fun P => ⟨o, [], upd_same, Nat.zero_le _, List.nodup_nil, .nil⟩) fun b hb => upd_ne hb
end

section
variable {X : Cx} {pins : List (Addr × Obj)} {σ : L2.St} {H : Hp} {s : Shared} {P : Addr → Prop} {a : Addr} {nest : Bool} {kvs : List (D × D)}
theorem keys_collect {R : List Value → Shared → Prop} (hc : X.calm = true) (I : Inv X pins σ H s) (dc : DctAt X.prog X.w X.K H P a nest kvs)
    (h : ∀ h' tk acc vs, Inv X pins σ H { s with heap := h', toks := tk } → Vals vs acc → DaL X.K H P vs (kvs.map (·.1)) → acc.length ≤ sizeLine → R acc { s with heap := h', toks := tk }) {A : Around} (hh : A.handled = none) {E : Value → Shared → Prop} :
    wpAny (model X.prog X.w) A (collect (.ref a)) R E s := by
  cases nest with
  | false =>
    obtain ⟨xs, e, nd, pr⟩ := dc
    obtain ⟨z, lo, vs, rel, dd⟩ := dk_rd I.hok (.inl e)
    obtain ⟨ep, hat⟩ := dd.dictAt
    refine W.kdu_collect (A := A) (W.kdl_dict (knd := mixKind X.prog X.w) (kvs := vs) (ep := ep) lo) hh hat (by rw [← rel.length]; exact z) fun h' tk acc hk hacc => ?_
    have hl : acc.toList.length = kvs.length := by rw [Array.length_toList, hacc.1, ← rel.length, Paired.length pr]
    have key : ∀ (j : Nat) (v : Value), acc.toList[j]? = some v → ∃ d, (kvs.map (·.1))[j]? = some d ∧ ∃ st, d = PyData.str st ∧ L2.RelV (V.str st) v := fun j v ej => by
      obtain ⟨k, x, e1, e2⟩ := hacc.2 j v (by rw [← Array.getElem?_toList]; exact ej)
      have e3 : (xs.map (·.1))[j]? = some k := by rw [rel.keys, List.getElem?_map, e1]; rfl
      rw [List.getElem?_map, Option.map_eq_some_iff] at e3
      obtain ⟨y, e4, rfl⟩ := e3
      obtain ⟨kv, f1, st, f2, f3, _⟩ := paired_get2 pr e4
      refine ⟨kv.1, by rw [List.getElem?_map, f1]; rfl, st, f2, ?_⟩
      rw [f3] at e2
      obtain ⟨t, ev⟩ := Value.isStrOf_shape (x := st) (v := v) e2
      exact ⟨t, ev⟩
    have all : ∀ (us : List Value) (ds : List D), us.length = ds.length → (∀ (j : Nat) (v : Value), us[j]? = some v → ∃ d, ds[j]? = some d ∧ ∃ st, d = PyData.str st ∧ L2.RelV (V.str st) v) → ∃ vs, Vals vs us ∧ DaL X.K H P vs ds := by
      intro us
      induction us with
      | nil =>
        intro ds hl _
        cases ds with
        | nil => exact ⟨[], .nil, .nil⟩
        | cons _ _ => simp at hl
      | cons u us ih =>
        intro ds hl hj
        cases ds with
        | nil => simp at hl
        | cons d ds =>
          obtain ⟨d', g1, st, g2, g3⟩ := hj 0 u rfl
          cases g1
          obtain ⟨vs, h1, h2⟩ := ih ds (by simpa using hl) fun j v ej => hj (j + 1) v (by simpa using ej)
          exact ⟨.str st :: vs, .cons g3 h1, .cons (by rw [g2]; exact .str st) h2⟩
    obtain ⟨ws, w1, w2⟩ := all acc.toList (kvs.map (·.1)) (by rw [hl, List.length_map]) key
    exact h h' tk acc.toList ws (I.kept hk) w1 w2 (by rw [hl, Paired.length pr]; exact z)
  | true =>
    obtain ⟨o, xs, e, hx, nd, pr⟩ := dc
    obtain ⟨⟨h1, h2, h3, es, ep, h4, h5⟩, _⟩ := I.hok a _ e
    have hsz : es.size = xs.length := size_of_entries h5
    refine W.kdu_collect (A := A) (KdlSrc.rawDict (es := es) (ep := ep) h1) hh ⟨o, h2, h3, h4⟩ (by rw [hsz]; exact hx) fun h' tk acc hk hacc => ?_
    have hl : acc.toList.length = kvs.length := by rw [Array.length_toList, hacc.1, hsz, Paired.length pr]
    have key : ∀ (j : Nat) (v : Value), acc.toList[j]? = some v → ∃ d, (kvs.map (·.1))[j]? = some d ∧ ∃ q, v = Value.ref q ∧ Da X.K H P (V.ref q) d := fun j v ej => by
      obtain ⟨hi, e1⟩ := hacc.2 j v (by rw [← Array.getElem?_toList]; exact ej)
      have ent := entry_at h5 j
      rw [Array.getElem?_eq_getElem hi] at ent
      obtain ⟨y, e4, e5⟩ := Option.map_eq_some_iff.mp ent.symm
      obtain ⟨kv, f1, f2, f3, f4, _⟩ := paired_get2 pr e4
      refine ⟨kv.1, by rw [List.getElem?_map, f1]; rfl, y.2.1, ?_, f4⟩
      rw [e1, ← e5]
      rfl
    have all : ∀ (us : List Value) (ds : List D), us.length = ds.length → (∀ (j : Nat) (v : Value), us[j]? = some v → ∃ d, ds[j]? = some d ∧ ∃ q, v = Value.ref q ∧ Da X.K H P (V.ref q) d) → ∃ vs, Vals vs us ∧ DaL X.K H P vs ds := by
      intro us
      induction us with
      | nil =>
        intro ds hl _
        cases ds with
        | nil => exact ⟨[], .nil, .nil⟩
        | cons _ _ => simp at hl
      | cons u us ih =>
        intro ds hl hj
        cases ds with
        | nil => simp at hl
        | cons d ds =>
          obtain ⟨d', g1, q, g2, g3⟩ := hj 0 u rfl
          cases g1
          obtain ⟨vs, h1, h2⟩ := ih ds (by simpa using hl) fun j v ej => hj (j + 1) v (by simpa using ej)
          exact ⟨.ref q :: vs, .cons (by rw [g2]; rfl) h1, .cons g3 h2⟩
    obtain ⟨ws, w1, w2⟩ := all acc.toList (kvs.map (·.1)) (by rw [hl, List.length_map]) key
    exact h h' tk acc.toList ws (I.kept hk) w1 w2 (by rw [hl, Paired.length pr]; exact hx)
/-- sorted(d) -/
theorem call_sortedDct (hu : X.A.units + 70 < cLine) (hc : X.calm = true) : CallR X (.builtin "sorted") (fun xs H Q => ∃ (a : Addr) (P : Addr → Prop) (nest : Bool) (kvs : List (D × D)) (d : D), xs = [.ref a] ∧ (∀ b, H b = none → P b) ∧ DctAt X.prog X.w X.K H P a nest kvs ∧ unF .sorted (.list (kvs.map (·.1))) = some d ∧
    ∀ v H', Same H H' → Fresh X.K H H' P v d → Q v H') := by
  intro pins s σ H xs us Q I r q
  obtain ⟨a, P, nest, kvs, d, ex, hp, hd, e, q⟩ := q
  subst ex
  obtain ⟨u, eu, rx⟩ := vals1 r
  subst eu
  cases rx
  simp only [unF] at e
  split at e
  · rename_i hcm
    cases e
    simp only [Bool.and_eq_true] at hcm
    obtain ⟨⟨ha, hs⟩, hsh⟩ := hcm
    obtain ⟨hl, hdp⟩ := shp_all hsh
    refine Calls.call_function_entry PyProof.Rows.kind_sorted PyProof.Rows.plain_sorted PyProof.Rows.entry_sorted (PyProof.Rows.args_sorted1 _) ?_
    unfold Builtin.«sorted»
    refine wpAny_bind (m := checkCount "sorted" 1 1 _) (wpAny_pure ?_)
    refine wpAny_bind (keys_collect (A := X.A.in1) hc I hd (fun h' tk acc vs I1 rv h3 hz => ?_) (I.ok.hd hc))
    refine wpAny_bind (wpAny_newList ?_ hz)
    have hoL : (h'.push (seqObj "list" acc.toArray 0)).get? h'.objs.size = some (seqObj "list" acc.toArray 0) := Heap.get?_push_size _ rfl
    show wpAny _ _ _ _ _ { s with heap := h'.push (seqObj "list" acc.toArray 0), toks := tk }
    have hal : W.AllAlike ((kvs.map (·.1)).map id) := by rw [List.map_id]; exact fun x hx z hz => alikeL_all ha x hx z hz
    have er0 := each_reads I1 hl rv h3
    have er : W.EachIs (fun u d => ∃ as, Reads (W.sortingHeap (h'.push (seqObj "list" acc.toArray 0)) h'.objs.size acc) u (id d) as) acc (kvs.map (·.1)) := er0.mono fun _ _ ⟨as, r⟩ =>
      ⟨as, PyProof.Rows.Reads.keeps (fun b o e => W.sortingHeap_old (Nat.ne_of_lt (Heap.lt_size e)) (Heap.get?_push_of_some _ e)) r⟩
    refine wpAny_bind (wpAny_holding (wpAny_call_entry PyProof.Rows.slot_list_sort ⟨_, hoL, rfl⟩ PyProof.Rows.entry_list_sort
      (W.list_sort_vals (s := { s with heap := h'.push (seqObj "list" acc.toArray 0), toks := tk }) (κ := W.dataKind (W.sortingHeap (h'.push (seqObj "list" acc.toArray 0)) h'.objs.size acc) ((kvs.map (·.1)).map id)) hoL
        (W.SortsAt.data (s := { s with heap := W.sortingHeap (h'.push (seqObj "list" acc.toArray 0)) h'.objs.size acc, toks := tk }) (W.each_map (R := fun v d => ∃ as, Reads (W.sortingHeap (h'.push (seqObj "list" acc.toArray 0)) h'.objs.size acc) v d as) id er) hal (by rw [List.map_id]; exact sortable_of hs) (W.bound_map fun b hb => ?_)) hz ⟨_, rfl, ?_⟩)
      (PyProof.Rows.args_list_sort _)))
    · have := depth_mem hb
      show X.A.units + 1 + 1 + b.depth < cLine
      have := hdp
      omega
    · have h5 := W.sortVals_data (h' := W.sortingHeap (h'.push (seqObj "list" acc.toArray 0)) h'.objs.size acc) (R := fun u d => ∃ v, L2.RelV v u ∧ Da X.K H P v d) (enc := id) false (each_of rv h3) er hal
      generalize hout : W.sortVals (W.dataKind (W.sortingHeap (h'.push (seqObj "list" acc.toArray 0)) h'.objs.size acc) ((kvs.map (·.1)).map id)) false acc acc = out at h5
      obtain ⟨ws, w1, w2⟩ := of_each h5
      have hlen : ws.length ≤ sizeLine := by
        have e1 : (kvs.map (·.1)).length = acc.length := by rw [← h3.length, rv.length]
        have e2 : (sortD (kvs.map (·.1))).length = (kvs.map (·.1)).length := List.length_mergeSort _
        have e3 : ws.length = (sortD (kvs.map (·.1))).length := w2.length
        omega
      obtain ⟨e', he'⟩ := PyProof.Rows.sortedHeap_at (vs := acc) (out := out.toArray) hoL
      have np : H h'.objs.size = none := I1.hok.fresh (Nat.le_refl _)
      have f : Fresh X.K H (upd H h'.objs.size (.lst ws)) P (.ref h'.objs.size) (.list (sortD (kvs.map (·.1)))) := Fresh.new (Same.refl _) np w2 hlen
      refine wpAny_pure ⟨_, rfl, .ref h'.objs.size, upd H h'.objs.size (.lst ws), I1.laid (t' := tk) (fun b u e => ?_) (Nat.le_refl _)
        (show ObjOk X.prog X.w _ _ _ (.lst ws) from ⟨hlen, out, e', w1, he'⟩), rfl, q _ _ (same_upd np) f⟩
      have hb : b < h'.objs.size := Heap.lt_size e
      rw [PyProof.Rows.sortedHeap_old (Nat.ne_of_lt hb) (by rw [size_push']; exact Nat.lt_succ_of_lt hb)]
      exact Heap.get?_push_of_some _ e
  · cases e
end
end Bw

/-! Bw, part L: dicts in expressions; every expression that the look lets pass does what ours says. -/
namespace Bw
open PySem PySem.Spec PyProof.Rows L2

theorem dct_is {X : Cx} {pins : List (Addr × Obj)} {σ : L2.St} {H : Hp} {s : Shared} {P : Addr → Prop} {a : Addr} {nest : Bool} {kvs : List (D × D)} (I : Inv X pins σ H s) (dc : DctAt X.prog X.w X.K H P a nest kvs) :
    s.TypeIs (.ref a) "dict" ∧ ∀ b, Value.ref a = .ref b → ∃ ob, s.heap.get? b = some ob ∧ ob.dict = none := by
  cases nest with
  | false =>
    obtain ⟨xs, e, _⟩ := dc
    obtain ⟨t1, t2, _⟩ := isD_at I (.inl ⟨xs, .inl e⟩)
    exact ⟨t1, t2⟩
  | true =>
    obtain ⟨o, xs, e, _⟩ := dc
    obtain ⟨⟨h1, h2, h3, _⟩, _⟩ := I.hok a _ e
    refine ⟨⟨o, h2, h3.1⟩, fun b q => ?_⟩
    cases q
    exact ⟨o, h2, h3.2.1⟩
section
variable {g : G} {cf : Nat → List D → Option RV} {sc : Scope} {X : Cx} {P : Addr → Prop} {F : List Addr} {ρ : Env} {σ : L2.St} {H : Hp} {t : Expr}
theorem nm_slot (G : Gd g cf sc X) {i : Nat} {e : Expr} (h : (match vName e with | some x => nameOk X.N sc i x | none => false) = true) : PE X e (tVar i) := by
  split at h
  · rename_i x hv
    obtain ⟨p, rfl⟩ := vName_of hv
    exact pe_slot G h
  · cases h
/-- a row of a list of one's own lists -/
theorem mrow_at {as : List Addr} {dss : List (List D)} {K : W.Frag} (h : Paired (MatRow K H P F) as dss) {p : Int} {ds : List D} (e : atI dss p = some ds) : ∃ (j : Nat) (b : Addr), ixN as.length p = some j ∧ as[j]? = some b ∧ dss[j]? = some ds ∧ atI (as.map V.ref) p = some (.ref b) ∧ MatRow K H P F b ds := by
  have hl : as.length = dss.length := by
    clear e
    induction h with
    | nil => rfl
    | cons _ _ ih => rw [List.length_cons, List.length_cons, ih]
  unfold atI at e ⊢
  rw [← hl] at e
  rw [List.length_map]
  cases hj : ixN as.length p with
  | none => rw [hj] at e; cases e
  | some j =>
    rw [hj] at e
    have e' : dss[j]? = some ds := e
    have : ∀ {as : List Addr} {dss : List (List D)}, Paired (MatRow K H P F) as dss → ∀ {j : Nat} {ds : List D}, dss[j]? = some ds → ∃ b, as[j]? = some b ∧ MatRow K H P F b ds := by
      intro as dss pr
      induction pr with
      | nil => intro j ds e; simp at e
      | cons z t ih =>
        intro j ds e
        cases j with
        | zero => simp at e; subst e; exact ⟨_, rfl, z⟩
        | succ j => simpa using ih (by simpa using e)
    obtain ⟨b, h1, h2⟩ := this h e'
    exact ⟨j, b, rfl, h1, e', by show (as.map V.ref)[j]? = _; rw [List.getElem?_map, h1]; rfl, h2⟩
/-- m[i] -/
def tRow (X : Cx) (cf : Nat → List D → Option RV) (i : Nat) (a : E) : TE := fun σ H Q => ∃ P F ρ p m ds, RX X P F ρ σ H ∧ evE cf a false ρ = some (.int p) ∧ rdM ρ i = some m ∧ atI m p = some ds ∧
  ∀ j as ar b H', Same H H' → σ[i]? = some (some (.ref ar)) → ar ∈ F → P ar → H' ar = some (.lst (as.map V.ref)) → as.length ≤ sizeLine → as.Nodup → ar ∉ as → Paired (MatRow X.K H' P F) as m → ixN as.length p = some j → as[j]? = some b → m[j]? = some ds → RX X P F ρ σ H' → Q (.ref b) H'
theorem pe_row (G : Gd g cf sc X) {i : Nat} {a : E} {e1 e3 : Expr} {p : Pos} (h1 : (match vName e1 with | some x => nameOk X.N sc i x | none => false) = true) (hs : nSlice e3 = true) (ha : OkE X cf a e3) : PE X (.Subscript e1 e3 p) (tRow X cf i a) := by
  refine (pe_ix ix_list (nm_slot G h1) (ha.pe false) (plain_ix hs)).mono fun σ H Q ⟨P, F, ρ, pi, m, ds, r, ev, hm, hat, q⟩ => ?_
  obtain ⟨ar, as, f1, f2, f3, f4, f5, f6, f7, f8⟩ := r.mat hm
  refine ⟨_, f1, rd_in r ev fun v H' s r' da _ => ?_⟩
  obtain ⟨ar', as', f1', f2', f3', f4', f5', f6', f7', f8'⟩ := r'.mat hm
  rw [f1] at f1'
  cases f1'
  obtain ⟨j, b, j1, j2, j3, j4, j5⟩ := mrow_at f8' hat
  cases da
  exact ⟨ar, _, pi, _, rfl, rfl, .inl (.inl f4'), j4, q j as' ar b H' s f1 f2 f3 f4' f5' f6' f7' f8' j1 j2 j3 r'⟩
theorem sE_midx (G : Gd g cf sc X) {i : Nat} {a c : E} {e1 e2 e3 : Expr} {p q : Pos} (h1 : (match vName e1 with | some x => nameOk X.N sc i x | none => false) = true) (hs2 : nSlice e2 = true) (hs3 : nSlice e3 = true) (ha : OkE X cf a e3) (hc : OkE X cf c e2) :
    OkE X cf (.midx i a c) (.Subscript (.Subscript e1 e3 p) e2 q) := by
  refine .of_pe (fun b => (pe_ix ix_list (pe_row G h1 hs3 ha) (hc.pe false) (plain_ix hs2)).mono fun σ H Q ⟨P, F, ρ, d, r, ev, qq⟩ => ?_) rfl
  unfold evE at ev
  obtain ⟨x, k1, ev⟩ := Option.bind_eq_some_iff.mp ev
  obtain ⟨y, k2, ev⟩ := Option.bind_eq_some_iff.mp ev
  obtain ⟨m, k3, ev⟩ := Option.bind_eq_some_iff.mp ev
  obtain ⟨x, rfl⟩ : ∃ p, x = .int p := by cases x <;> first | exact ⟨_, rfl⟩ | simp at ev
  obtain ⟨y, rfl⟩ : ∃ p, y = .int p := by cases y <;> first | exact ⟨_, rfl⟩ | simp at ev
  obtain ⟨ds, k4, ev⟩ := Option.bind_eq_some_iff.mp ev
  refine ⟨P, F, ρ, x, m, ds, r, k1, k3, k4, fun j as ar b H1 s1 f1 f2 f3 f4 f5 f6 f7 f8 f9 f10 f11 r1 => rd_in r1 k2 fun v H2 s2 r2 da _ => ?_⟩
  cases da
  obtain ⟨j', b', j1, j2, j3, j4, j5⟩ := mrow_at f8 k4
  rw [f9] at j1
  cases j1
  rw [f10] at j2
  cases j2
  obtain ⟨m1, m2, vs, m3, m4, m5⟩ := j5
  obtain ⟨w1, w2, w3⟩ := atI_da m5 ev
  exact ⟨b, vs, y, w1, rfl, rfl, .inl (.inl (s2 _ _ m3)), w2, qq _ _ (s1.trans s2) (.of (w3.same s2)) (by intro z; cases z)⟩
/-! sorted(set(pairs)) -/
theorem rise_eq : ∀ {a b : List Int}, a.Pairwise (· < ·) → b.Pairwise (· < ·) → (∀ x, x ∈ a ↔ x ∈ b) → a = b
  | [], [], _, _, _ => rfl
  | [], y :: ys, _, _, h => absurd ((h y).mpr List.mem_cons_self) (by simp)
  | x :: xs, [], _, _, h => absurd ((h x).mp List.mem_cons_self) (by simp)
  | x :: xs, y :: ys, ha, hb, h => by
    obtain ⟨a1, a2⟩ := List.pairwise_cons.mp ha
    obtain ⟨b1, b2⟩ := List.pairwise_cons.mp hb
    have exy : x = y := by
      rcases List.mem_cons.mp ((h x).mp List.mem_cons_self) with e | e
      · exact e
      · rcases List.mem_cons.mp ((h y).mpr List.mem_cons_self) with e2 | e2
        · exact e2.symm
        · have := b1 x e
          have := a1 y e2
          omega
    subst exy
    refine congrArg _ (rise_eq a2 b2 fun z => ⟨fun hz => ?_, fun hz => ?_⟩)
    · rcases List.mem_cons.mp ((h z).mp (List.mem_cons_of_mem _ hz)) with e | e
      · have := a1 z hz; omega
      · exact e
    · rcases List.mem_cons.mp ((h z).mpr (List.mem_cons_of_mem _ hz)) with e | e
      · have := b1 z hz; omega
      · exact e
theorem pairsD_ks {K : W.Frag} : ∀ {ds : List D} {vs : List V} {ps : List (Int × Int)}, DaL K H P vs ds → pairsD ds = some ps →
    ∃ ks : List (Addr × List Int), vs = ks.map (fun p => V.ref p.1) ∧ ks.map (·.2) = ps.map (fun p => [p.1, p.2]) ∧ (∀ p ∈ ks, ST H p.1 (p.2.map V.int) ∧ Da K H P (.ref p.1) (.tuple (p.2.map .int))) ∧ ∀ p ∈ ps, 0 ≤ p.1 ∧ p.1 < 64 ∧ 0 ≤ p.2 ∧ p.2 < 64
  | [], _, ps, h, e => by
    cases h
    cases e
    exact ⟨[], rfl, rfl, (by intro p z; cases z), (by intro p z; cases z)⟩
  | d :: ds, vs, ps, h, e => by
    unfold pairsD at e
    split at e
    · rename_i e0; cases e0
    · rename_i x y r e0
      cases e0
      split at e
      · rename_i hb
        obtain ⟨ps', e1, rfl⟩ := Option.map_eq_some_iff.mp e
        cases h with
        | cons h1 h2 =>
          obtain ⟨ks, k1, k2, k3, k4⟩ := pairsD_ks h2 e1
          cases h1 with
          | tup t1 t2 =>
            have hi : DaL K H P _ [.int x, .int y] := t2
            have t2' := hi.toInts (ns := [x, y]) rfl
            refine ⟨(_, [x, y]) :: ks, by rw [k1]; rfl, by rw [List.map_cons, k2]; rfl, fun p hp => ?_, fun p hp => ?_⟩
            · rcases List.mem_cons.mp hp with rfl | hp
              · exact ⟨by rw [← t2']; exact t1, .tup t1 t2⟩
              · exact k3 p hp
            · rcases List.mem_cons.mp hp with rfl | hp
              · exact hb
              · exact k4 p hp
      · cases e
    · cases e
theorem sortP_mem {ps : List (Int × Int)} (hb : ∀ p ∈ ps, 0 ≤ p.1 ∧ p.1 < 64 ∧ 0 ≤ p.2 ∧ p.2 < 64) (p : Int × Int) : p ∈ sortP ps ↔ p ∈ ps := by
  unfold sortP
  rw [List.mem_filter, List.contains_iff_mem]
  refine ⟨fun h => h.2, fun h => ⟨?_, h⟩⟩
  obtain ⟨h1, h2, h3, h4⟩ := hb p h
  refine List.mem_map.mpr ⟨(p.1 * 64 + p.2).toNat, List.mem_range.mpr (by omega), ?_⟩
  obtain ⟨x, y⟩ := p
  dsimp only at h1 h2 h3 h4 ⊢
  refine Prod.ext ?_ ?_ <;> dsimp only <;> omega
theorem sortP_rise (ps : List (Int × Int)) : ((sortP ps).map fun p => p.1 * 64 + p.2).Pairwise (· < ·) := by
  unfold sortP
  refine List.Pairwise.map _ (R := fun p q : Int × Int => p.1 * 64 + p.2 < q.1 * 64 + q.2) (fun a b h => h) ?_
  refine List.Pairwise.filter _ ?_
  refine List.Pairwise.map _ (R := fun a b : Nat => a < b) (fun a b h => ?_) List.pairwise_lt_range
  dsimp only
  omega
theorem code_in {ns : List Int} {p : Int × Int} (h : ns = [p.1, p.2]) : TS.code 64 ns = p.1 * 64 + p.2 := by rw [h]; exact code_pair _ _
theorem sorted_ks {ks L' : List (Addr × List Int)} {ps : List (Int × Int)} (hk : ks.map (·.2) = ps.map (fun p => [p.1, p.2])) (hb : ∀ p ∈ ps, 0 ≤ p.1 ∧ p.1 < 64 ∧ 0 ≤ p.2 ∧ p.2 < 64) (hs : ∀ p ∈ L', p ∈ ks) (ha : ∀ p ∈ ks, p.2 ∈ L'.map (·.2)) (nd : (L'.map (·.2)).Nodup)
    (pw : L'.Pairwise (fun q r => TS.code 64 q.2 ≤ TS.code 64 r.2)) : L'.map (fun p => PyData.tuple (p.2.map .int)) = (sortP ps).map fun p => .tuple [.int p.1, .int p.2] := by
  have inP : ∀ p ∈ L', ∃ q ∈ ps, p.2 = [q.1, q.2] := fun p hp => by
    have : p.2 ∈ ks.map (·.2) := List.mem_map_of_mem (hs p hp)
    rw [hk] at this
    obtain ⟨q, h1, h2⟩ := List.mem_map.mp this
    exact ⟨q, h1, h2.symm⟩
  have e : L'.map (fun p => TS.code 64 p.2) = (sortP ps).map fun p => p.1 * 64 + p.2 := by
    refine rise_eq ?_ (sortP_rise ps) fun x => ⟨fun hx => ?_, fun hx => ?_⟩
    · refine List.Pairwise.map _ (R := fun q r : Addr × List Int => TS.code 64 q.2 < TS.code 64 r.2) (fun a b h => h) ?_
      have nd' : L'.Pairwise (fun q r => q.2 ≠ r.2) := by
        have := List.pairwise_map.mp nd
        exact this
      refine List.Pairwise.imp_of_mem (fun {q r} hq hr h => ?_) (List.Pairwise.and pw nd')
      obtain ⟨q', q1, q2⟩ := inP q hq
      obtain ⟨r', r1, r2⟩ := inP r hr
      have b1 := hb q' q1
      have b2 := hb r' r1
      obtain ⟨h1, h2⟩ := h
      rw [code_in q2, code_in r2] at h1 ⊢
      have hne : q'.1 * 64 + q'.2 ≠ r'.1 * 64 + r'.2 := fun z => h2 (by rw [q2, r2, show q'.1 = r'.1 from by omega, show q'.2 = r'.2 from by omega])
      omega
    · obtain ⟨p, hp, rfl⟩ := List.mem_map.mp hx
      obtain ⟨q, q1, q2⟩ := inP p hp
      exact List.mem_map.mpr ⟨q, (sortP_mem hb q).mpr q1, (code_in q2).symm⟩
    · obtain ⟨q, hq, rfl⟩ := List.mem_map.mp hx
      have hq' := (sortP_mem hb q).mp hq
      have : [q.1, q.2] ∈ ks.map (·.2) := by rw [hk]; exact List.mem_map_of_mem (f := fun p : Int × Int => [p.1, p.2]) hq'
      obtain ⟨p, hp, e⟩ := List.mem_map.mp this
      obtain ⟨p', hp', e'⟩ := List.mem_map.mp (ha p hp)
      exact List.mem_map.mpr ⟨p', hp', code_in (e'.trans e)⟩
  have back1 : L'.map (fun p => PyData.tuple (p.2.map .int)) = (L'.map fun p => TS.code 64 p.2).map fun c => .tuple [.int (c / 64), .int (c % 64)] := by
    rw [List.map_map]
    refine List.map_congr_left fun p hp => ?_
    obtain ⟨q, q1, q2⟩ := inP p hp
    have b := hb q q1
    show _ = PyData.tuple [.int (TS.code 64 p.2 / 64), .int (TS.code 64 p.2 % 64)]
    rw [code_in q2, q2, show (q.1 * 64 + q.2) / 64 = q.1 from by omega, show (q.1 * 64 + q.2) % 64 = q.2 from by omega]
    rfl
  rw [back1, e, List.map_map]
  refine List.map_congr_left fun q hq => ?_
  have b := hb q ((sortP_mem hb q).mp hq)
  show PyData.tuple [.int ((q.1 * 64 + q.2) / 64), .int ((q.1 * 64 + q.2) % 64)] = _
  rw [show (q.1 * 64 + q.2) / 64 = q.1 from by omega, show (q.1 * 64 + q.2) % 64 = q.2 from by omega]
theorem sE_ssort (G : Gd g cf sc X) {x y : Str} {a : E} {e : Expr} {p q p2 q2 : Pos} (hx : x = ("sorted" : Str)) (hxg : glOk g sc x = true) (hy : y = ("set" : Str)) (hyg : glOk g sc y = true) (hs : nStar e = true) (ha : OkE X cf a e) :
    OkE X cf (.un .ssort a) (.Call (.Name x p) [.Call (.Name y p2) [e] [] q2] [] q) := by
  subst hx hy
  have hu := G.hu
  obtain ⟨g1, g2⟩ := glOk_of G hxg
  obtain ⟨g3, g4⟩ := glOk_of G hyg
  have inner := pe_callTy (p := p2) (pos := q2) (cr_setOfT G.calm (by omega)) g3 g4 (by decide +kernel) (pa_cons (ha.pe true) pa_nil (star_cons hs)) (by decide) (by decide) (star_cons hs)
  refine .of_pe (fun b => (pe_callB (cr_sortedT G.calm) g1 g2 (by decide +kernel) (pa_cons inner pa_nil (star_cons rfl)) (by decide) (by decide) (star_cons rfl)).mono fun σ H Q ⟨P, F, ρ, d, r, ev, qq⟩ => ?_) rfl
  obtain ⟨xd, k1, k2⟩ := un_split ev
  cases xd <;> try (simp [unF] at k2; done)
  rename_i ds
  obtain ⟨ps, k3, k4⟩ := Option.bind_eq_some_iff.mp (show (pairsD ds).bind _ = some d from k2)
  split at k4
  case isFalse => cases k4
  rename_i hlen
  cases k4
  refine rd_in r k1 fun v H1 s1 r1 da _ => ?_
  obtain ⟨l, vs, rfl, h1, h2, h3⟩ := DaO.list da
  obtain ⟨ks, m1, m2, m3, m4⟩ := pairsD_ks h3 k3
  subst m1
  have hkl : ks.length < 64 := by
    have := congrArg List.length m2
    rw [List.length_map, List.length_map] at this
    omega
  refine ⟨l, ks, rfl, Rd.sq h1, fun p hp => (m3 p hp).1.sq, hkl, fun a L hn hsub hall => ?_⟩
  have s2 : Same H1 (upd H1 a (SetTO X.prog X.w a L)) := same_upd hn
  refine ⟨a, L, 2, 64, rfl, upd_same, fun p hp => ((m3 p (hsub p hp)).1.mono (P := fun _ => True) (.of_same s2)).sq, by decide, fun p hp => ?_, fun L' b pm nd hf pw hb => ?_⟩
  · have : p.2 ∈ ks.map (·.2) := List.mem_map_of_mem (hsub p hp)
    rw [m2] at this
    obtain ⟨q, h1, h2⟩ := List.mem_map.mp this
    have := m4 q h1
    rw [← h2]
    refine ⟨rfl, fun z hz => ?_⟩
    simp only [List.mem_cons, List.not_mem_nil, or_false] at hz
    omega
  · have hsub' : ∀ p ∈ L', p ∈ ks := fun p hp => hsub p (pm.mem_iff.mp hp)
    have hall' : ∀ p ∈ ks, p.2 ∈ L'.map (·.2) := fun p hp => (pm.map (·.2)).mem_iff.mpr (hall p hp)
    have ed := sorted_ks m2 m4 hsub' hall' nd pw
    have s3 := same_upd (o := HO.lst (L'.map fun q => V.ref q.1)) hb
    have dl : DaL X.K H1 (PF P F) (L'.map fun q => V.ref q.1) (L'.map fun p => PyData.tuple (p.2.map .int)) := by
      have : ∀ l : List (Addr × List Int), (∀ p ∈ l, p ∈ ks) → DaL X.K H1 (PF P F) (l.map fun q => V.ref q.1) (l.map fun p => PyData.tuple (p.2.map .int)) := by
        intro l
        induction l with
        | nil => intro _; exact .nil
        | cons p l ih => intro h; exact .cons (m3 p (h p List.mem_cons_self)).2 (ih fun p hp => h p (List.mem_cons_of_mem _ hp))
      exact this L' hsub'
    rw [ed] at dl
    refine qq _ _ ((s1.trans s2).trans s3) (.of (.lst ⟨by rw [List.length_map, sizeLine_eq]; omega, .inl upd_same, ?_⟩ ((dl.same s2).same s3))) (by intro z; simp [freshE] at z)
    exact r1.pf b (s2.free hb)
def nmOk (N : List Str) (sc : Scope) (i : Nat) (e : Expr) : Bool := match vName e with | some x => nameOk N sc i x | none => false
theorem sE_dget (G : Gd g cf sc X) {i : Nat} {k : E} {e1 e2 : Expr} {p : Pos} (h1 : (match vName e1 with | some x => nameOk X.N sc i x | none => false) = true) (hs : nSlice e2 = true) (hk : OkE X cf k e2) : OkE X cf (.dget i k) (.Subscript e1 e2 p) := by
  have hu := G.hu
  refine .of_pe (fun b => ⟨fun pins s σ H Q I ⟨P, F, ρ, d, r, ev, q⟩ => ?_⟩) rfl
  unfold evE at ev
  obtain ⟨kd, k1, ev⟩ := Option.bind_eq_some_iff.mp ev
  obtain ⟨⟨nest, kvs⟩, k2, ev⟩ := Option.bind_eq_some_iff.mp ev
  split at ev
  · rename_i hf
    obtain ⟨a, f1, f2, f3⟩ := r.dct k2
    refine subD_of PySem.F.slot_dict_getitem.lookup (fun ov iv => plain_ix hs ov iv) (thn ((nm_slot G h1).run pins s σ H (fun v H' => v = .ref a ∧ H' = H) I ⟨_, f1, rfl, rfl⟩) fun u s1 ⟨x, H1, I1, rx, ex, eH⟩ => ?_)
    subst ex eH
    obtain rfl : u = Value.ref a := rx
    refine thn ((hk.pe false).run pins s1 σ H1 _ I1 (rd_in r k1 fun v H2 s2 r2 da _ => (⟨s2, da⟩ : Same H1 H2 ∧ Da X.K H2 (PF P F) v kd))) fun iv s2 ⟨y, H2, I2, ry, st, da⟩ => ?_
    have dc := f3.mono (.of_same st) (fun _ _ z _ => z) fun o e => st _ _ e
    exact ⟨(dct_is I2 dc).1, dct_get (by omega) I2 dc hf da ev ry fun v w' s3 I3 rw' dv => ⟨v, H2, I3, rw', q v H2 st (.of dv) (by intro z; cases z)⟩⟩
  · cases ev
theorem sE_dgetd (G : Gd g cf sc X) {i : Nat} {k c : E} {e1 e2 e3 : Expr} {m : Str} {ap cp : Pos} (h1 : (match vName e1 with | some x => nameOk X.N sc i x | none => false) = true) (hm : m = ("get" : Str)) (hl : (ap.endLine == cp.line) = true)
    (hs2 : nStar e2 = true) (hs3 : nStar e3 = true) (hk : OkE X cf k e2) (hc : OkE X cf c e3) : OkE X cf (.dgetd i k c) (.Call (.Attribute e1 m ap) [e2, e3] [] cp) := by
  subst hm
  have hu := G.hu
  refine .of_pe (fun b => ⟨fun pins s σ H Q I ⟨P, F, ρ, d, r, ev, q⟩ => ?_⟩) rfl
  unfold evE at ev
  obtain ⟨kd, k1, ev⟩ := Option.bind_eq_some_iff.mp ev
  obtain ⟨cd, k3, ev⟩ := Option.bind_eq_some_iff.mp ev
  obtain ⟨⟨nest, kvs⟩, k2, ev⟩ := Option.bind_eq_some_iff.mp ev
  split at ev
  · rename_i hf
    cases ev
    obtain ⟨a, f1, f2, f3⟩ := r.dct k2
    have hn : ∃ x p, e1 = .Name x p := by
      split at h1
      · rename_i x hv
        obtain ⟨p, e⟩ := vName_of hv
        exact ⟨x, p, e⟩
      · cases h1
    obtain ⟨x, xp, rfl⟩ := hn
    refine wpAny_Call_method (base_of rfl) ?_ hl PySem.F.plainAttrs_dict PySem.F.slot_dict_get PySem.F.type_dict_get (thn ((nm_slot G h1).run pins s σ H (fun v H' => v = .ref a ∧ H' = H) I ⟨_, f1, rfl, rfl⟩) fun u s1 ⟨x, H1, I1, rx, ex, eH⟩ => ?_)
    · have := back_all (pos := cp) (env := X.env) (es := [e2, e3]) (by simp [hs2, hs3])
      rw [this]
      rfl
    subst ex eH
    obtain rfl : u = Value.ref a := rx
    obtain ⟨t1, t2⟩ := dct_is I1 f3
    refine ⟨t1, t2, ?_⟩
    rw [show backTo cp (starEach [e2, e3] X.env) = _ from rfl, star_cons hs2, star_cons hs3]
    refine Calls.callWith_builtin rfl (Calls.evalArgs_plain (Calls.spliced_cons (thn ((hk.pe false).run pins s1 σ H1 _ I1 (rd_in r k1 fun v H2 s2 r2 da _ => (⟨s2, r2, da⟩ : Same H1 H2 ∧ RX X P F ρ σ H2 ∧ Da X.K H2 (PF P F) v kd))) fun iv s2 ⟨y, H2, I2, ry, st, r2, da⟩ =>
      Calls.spliced_cons (thn ((hc.pe false).run pins s2 σ H2 _ I2 (rd_in r2 k3 fun v H3 s3 r3 dv _ => (⟨s3, dv⟩ : Same H2 H3 ∧ Da X.K H3 (PF P F) v cd))) fun fv s3 ⟨z, H3, I3, rz, st3, dz⟩ => Calls.spliced_nil ?_))))
    have sx := st.trans st3
    have dc := f3.mono (.of_same sx) (fun _ _ z _ => z) fun o e => sx _ _ e
    exact dct_get2 (by omega) I3 dc hf (da.same st3) dz ry rz fun v w' s4 I4 rw' dv => ⟨v, H3, I4, rw', q v H3 sx (.of dv) (by intro z; cases z)⟩
  · cases ev
def rDin (X : Cx) (neg : Bool) : R2 := fun y x H Q => ∃ (a : Addr) (P : Addr → Prop) (nest : Bool) (kvs : List (D × D)) (k : D), x = .ref a ∧ DctAt X.prog X.w X.K H P a nest kvs ∧ keyFit nest k = true ∧ Da X.K H P y k ∧ Q (.bl (if neg then !(dLook kvs k).isSome else (dLook kvs k).isSome)) H
theorem op_din (hu : X.A.units + 20 < cLine) : OpR X (compareOp .In) (rDin X false) := by
  intro pins s σ H x y v u Q I rx ry ⟨a, P, nest, kvs, k, ey, dc, hf, da, q⟩
  subst ey
  obtain rfl : u = Value.ref a := ry
  exact dct_in hu I dc hf da rx fun s' I' => ⟨.bl _, H, I', rfl, q⟩
theorem op_dnin (hu : X.A.units + 20 < cLine) : OpR X (compareOp .NotIn) (rDin X true) := by
  intro pins s σ H x y v u Q I rx ry ⟨a, P, nest, kvs, k, ey, dc, hf, da, q⟩
  subst ey
  obtain rfl : u = Value.ref a := ry
  exact dct_notIn hu I dc hf da rx fun s' I' => ⟨.bl _, H, I', rfl, q⟩
theorem sE_din (G : Gd g cf sc X) {neg : Bool} {i : Nat} {k : E} {e1 e2 : Expr} {op : CmpOp} {p : Pos} (ho : op = if neg then .NotIn else .In) (h2 : (match vName e2 with | some x => nameOk X.N sc i x | none => false) = true) (hk : OkE X cf k e1) : OkE X cf (.din neg k i) (.Compare e1 [op] [e2] p) := by
  have hu := G.hu
  have rule : OpR X (compareOp op) (rDin X neg) := by
    cases neg with
    | false => subst ho; exact op_din (by omega)
    | true => subst ho; exact op_dnin (by omega)
  have hm : behindInMarks op e2 = false := by
    split at h2
    · rename_i x hv
      obtain ⟨p, rfl⟩ := vName_of hv
      cases neg <;> subst ho <;> rfl
    · cases h2
  have rd : ∀ {b σ H d} {Q : VK} {P F ρ}, RX X P F ρ σ H → evE cf (.din neg k i) b ρ = some d → (∀ k H', d = .bool k → Same H H' → Q (.bl k) H') → tOp (rDin X neg) (rdE X cf false k) (tVar i) σ H Q := fun {b σ H d Q P F ρ} r ev q => by
    unfold evE at ev
    obtain ⟨kd, k1, ev⟩ := Option.bind_eq_some_iff.mp ev
    obtain ⟨⟨nest, kvs⟩, k2, ev⟩ := Option.bind_eq_some_iff.mp ev
    split at ev
    · rename_i hf
      cases ev
      obtain ⟨a, f1, f2, f3⟩ := r.dct k2
      refine rd_in r k1 fun v H1 s1 r1 da _ => ⟨_, f1, ?_⟩
      exact ⟨a, PF P F, nest, kvs, kd, rfl, f3.mono (.of_same s1) (fun _ _ z _ => z) fun o e => s1 _ _ e, hf, da, q _ H1 rfl s1⟩
    · cases ev
  refine ⟨fun b => (pe_cmpR rule (hk.pe false) (nm_slot G h2) hm).mono fun σ H Q ⟨P, F, ρ, d, r, ev, q⟩ => rd r ev fun k H' e s => ?_,
    fun _ => (pt_cmpR rule (hk.pe false) (nm_slot G h2) hm).mono fun σ H Q ⟨P, F, ρ, k, r, ev, q⟩ => rd r ev fun k' H' e s => ?_⟩
  · subst e
    exact q _ H' s (.of (.bl k)) (by intro z; cases z)
  · cases e
    exact ⟨_, rfl, q H' s⟩
theorem sE_dsorted (G : Gd g cf sc X) {i : Nat} {x : Str} {e1 : Expr} {p q : Pos} (hn : x = ("sorted" : Str)) (hx : glOk g sc x = true) (hs : nStar e1 = true) (h1 : (match vName e1 with | some x => nameOk X.N sc i x | none => false) = true) : OkE X cf (.dsorted i) (.Call (.Name x p) [e1] [] q) := by
  subst hn
  obtain ⟨g1, g2⟩ := glOk_of G hx
  refine .of_pe (fun b => (pe_callB (call_sortedDct G.hu G.calm) g1 g2 (by decide +kernel) (pa_cons (nm_slot G h1) pa_nil (star_cons hs)) (by decide) (by decide) (star_cons hs) (back_any (by simp [hs]))).mono fun σ H Q ⟨P, F, ρ, d, r, ev, qq⟩ => ?_) rfl
  unfold evE at ev
  obtain ⟨⟨nest, kvs⟩, k2, ev⟩ := Option.bind_eq_some_iff.mp ev
  obtain ⟨a, f1, f2, f3⟩ := r.dct k2
  exact ⟨_, f1, a, PF P F, nest, kvs, d, rfl, r.pf, f3, ev, fun v H' s f => qq v H' s (.of (Fresh.da f r.pf)) fun _ _ _ => f⟩
theorem ok_absurd {c : E} {e : Expr} (h : ∀ b ρ d, evE cf c b ρ ≠ some d) : OkE X cf c e :=
  ⟨fun b => ⟨fun pins s σ H Q I ⟨P, F, ρ, d, r, ev, q⟩ => absurd ev (h _ _ _)⟩, fun _ => ⟨fun pins s σ H Q I ⟨P, F, ρ, k, r, ev, q⟩ => absurd ev (h _ _ _)⟩⟩
theorem cEs_shape {N : List Str} : ∀ {cs : Es} {es : List Expr}, cEs g N cs sc es = true → (cs = .nil ∧ es = []) ∨ ∃ c2 cs2, cs = .cons c2 cs2 ∧ es ≠ []
  | .nil, [], _ => .inl ⟨rfl, rfl⟩
  | .nil, _ :: _, h => by simp [cEs] at h
  | .cons _ _, [], h => by simp [cEs] at h
  | .cons c cs, e :: es, _ => .inr ⟨c, cs, rfl, by simp⟩
theorem cEs_star {N : List Str} : ∀ {cs : Es} {es : List Expr}, cEs g N cs sc es = true → es.all nStar = true
  | .nil, [], _ => rfl
  | .nil, _ :: _, h => by simp [cEs] at h
  | .cons _ _, [], h => by simp [cEs] at h
  | .cons c cs, e :: es, h => by
    simp only [cEs, Bool.and_eq_true] at h
    rw [List.all_cons, h.1.1, cEs_star h.2]
    rfl
end
section
variable {g : G} {cf : Nat → List D → Option RV}
mutual
theorem okE : ∀ (c : E) {sc : Scope} {X : Cx} {e : Expr}, Gd g cf sc X → cE g X.N c sc e = true → OkE X cf c e
  | .nm i, sc, X, e, G, h => by
    unfold cE at h
    split at h
    · rename_i x hv
      obtain ⟨p, rfl⟩ := vName_of hv
      exact sE_nm G h
    · cases h
  | .pk i, sc, X, e, G, h => by
    unfold cE at h
    split at h
    · rename_i x hv
      obtain ⟨p, rfl⟩ := vName_of hv
      exact sE_pk G h
    · cases h
  | .cst l, sc, X, e, G, h => by
    unfold cE at h
    split at h
    · rename_i x hv
      obtain ⟨j, p, rfl⟩ := vConst_of hv
      exact sE_cst h
    · cases h
  | .un f a, sc, X, e, G, h => by
    have cst : ∀ {op k}, isCst f = some (op, k) → (match vCmp1 e with | some (e1, o, e2) => decide (o = op) && decide (vConst e2 = some k) && cE g X.N a sc e1 | none => false) = true → OkE X cf (.un f a) e := fun {op k} hf h' => by
      clear h
      have h := h'
      clear h'
      split at h
      · rename_i e1 o e2 hv
        obtain ⟨p, rfl⟩ := vCmp1_of hv
        simp only [Bool.and_eq_true, decide_eq_true_eq] at h
        obtain ⟨⟨rfl, h2⟩, h3⟩ := h
        exact cst_pe (okE a G h3) hf h2
      · cases h
    have cal : ∀ {y}, unNm f = some y → (match vCall e with | some (x, [e1]) => decide (unNm f = some x) && glOk g sc x && nStar e1 && cE g X.N a sc e1 | _ => false) = true → OkE X cf (.un f a) e := fun {y} hf h' => by
      clear h
      have h := h'
      clear h'
      split at h
      · rename_i x e1 hv
        obtain ⟨p, q, rfl⟩ := vCall_of hv
        simp only [Bool.and_eq_true, decide_eq_true_eq] at h
        exact sE_un G h.1.1.1 h.1.1.2 h.1.2 (okE a G h.2)
      · cases h
    cases f with
    | neg =>
      unfold cE at h
      simp only at h
      split at h
      · rename_i o e1 hv
        obtain ⟨p, rfl⟩ := vUn_of hv
        simp only [Bool.and_eq_true, decide_eq_true_eq] at h
        obtain ⟨rfl, h2⟩ := h
        exact sE_neg (okE a G h2)
      · cases h
    | not =>
      unfold cE at h
      simp only at h
      split at h
      · rename_i o e1 hv
        obtain ⟨p, rfl⟩ := vUn_of hv
        simp only [Bool.and_eq_true, decide_eq_true_eq] at h
        obtain ⟨⟨rfl, h2⟩, h3⟩ := h
        exact sE_not (okE a G h2) h3
      · cases h
    | ssort =>
      unfold cE at h
      simp only at h
      split at h
      · rename_i x e1 hv
        split at h
        · rename_i y e2 hv2
          obtain ⟨p, q, rfl⟩ := vCall_of hv
          obtain ⟨p2, q2, rfl⟩ := vCall_of hv2
          simp only [Bool.and_eq_true, decide_eq_true_eq] at h
          obtain ⟨⟨⟨⟨⟨h1, h2⟩, h3⟩, h4⟩, h5⟩, h6⟩ := h
          exact sE_ssort G h1 h2 h3 h4 h5 (okE a G h6)
        · cases h
      · cases h
    | isNon => unfold cE at h; exact cst rfl h
    | notNon => unfold cE at h; exact cst rfl h
    | notTrue => unfold cE at h; exact cst rfl h
    | notFalse => unfold cE at h; exact cst rfl h
    | len => unfold cE at h; exact cal rfl h
    | sum => unfold cE at h; exact cal rfl h
    | max => unfold cE at h; exact cal rfl h
    | min => unfold cE at h; exact cal rfl h
    | all => unfold cE at h; exact cal rfl h
    | any => unfold cE at h; exact cal rfl h
    | sorted => unfold cE at h; exact cal rfl h
    | tuple => unfold cE at h; exact cal rfl h
    | list => unfold cE at h; exact cal rfl h
    | int => unfold cE at h; exact cal rfl h
    | bool => unfold cE at h; exact cal rfl h
  | .bin f a b, sc, X, e, G, h => by
    have opr : ∀ {op}, opOf f = some op → (match vBin e with | some (e1, o, e2) => decide (o = op) && cE g X.N a sc e1 && cE g X.N b sc e2 | none => false) = true → OkE X cf (.bin f a b) e := fun {op} hf h' => by
      clear h
      have h := h'
      clear h'
      split at h
      · rename_i e1 o e2 hv
        obtain ⟨p, rfl⟩ := vBin_of hv
        simp only [Bool.and_eq_true, decide_eq_true_eq] at h
        obtain ⟨⟨rfl, h2⟩, h3⟩ := h
        exact sE_op hf (okE a G h2) (okE b G h3)
      · cases h
    have cmp : ∀ {op}, cmpOf f = some op → (match vCmp1 e with | some (e1, o, e2) => decide (o = op) && !behindInMarks op e2 && cE g X.N a sc e1 && cE g X.N b sc e2 | none => false) = true → OkE X cf (.bin f a b) e := fun {op} hf h' => by
      clear h
      have h := h'
      clear h'
      split at h
      · rename_i e1 o e2 hv
        obtain ⟨p, rfl⟩ := vCmp1_of hv
        simp only [Bool.and_eq_true, decide_eq_true_eq, Bool.not_eq_true'] at h
        obtain ⟨⟨⟨rfl, h1⟩, h2⟩, h3⟩ := h
        exact sE_cmp G hf h1 (okE a G h2) (okE b G h3)
      · cases h
    cases f with
    | add => unfold cE at h; exact opr rfl h
    | sub => unfold cE at h; exact opr rfl h
    | mul => unfold cE at h; exact opr rfl h
    | mod => unfold cE at h; exact opr rfl h
    | fdiv => unfold cE at h; exact opr rfl h
    | pow => unfold cE at h; exact opr rfl h
    | shl => unfold cE at h; exact opr rfl h
    | eq => unfold cE at h; exact cmp rfl h
    | ne => unfold cE at h; exact cmp rfl h
    | lt => unfold cE at h; exact cmp rfl h
    | le => unfold cE at h; exact cmp rfl h
    | gt => unfold cE at h; exact cmp rfl h
    | ge => unfold cE at h; exact cmp rfl h
    | mem => unfold cE at h; exact cmp rfl h
    | nmem => unfold cE at h; exact cmp rfl h
    | idx =>
      unfold cE at h
      simp only [opOf, cmpOf] at h
      split at h
      · rename_i e1 e2 hv
        obtain ⟨p, rfl⟩ := vSub_of hv
        simp only [Bool.and_eq_true] at h
        exact sE_idx h.1.1 (okE a G h.1.2) (okE b G h.2)
      · cases h
    | index =>
      unfold cE at h
      simp only [opOf, cmpOf] at h
      split at h
      · rename_i e1 m e2 ln hv
        obtain ⟨p, q, rfl, hl⟩ := vMeth_of hv
        simp only [Bool.and_eq_true, decide_eq_true_eq] at h
        obtain ⟨⟨⟨⟨⟨h1, h2⟩, h3⟩, h4⟩, h5⟩, h6⟩ := h
        exact sE_index G h1 (hl.trans h2) h3 h4 (okE a G h5) (okE b G h6)
      · cases h
    | max2 =>
      unfold cE at h
      simp only [opOf, cmpOf] at h
      split at h
      · rename_i x e1 e2 hv
        obtain ⟨p, q, rfl⟩ := vCall_of hv
        simp only [Bool.and_eq_true, decide_eq_true_eq] at h
        obtain ⟨⟨⟨⟨⟨h1, h2⟩, h3⟩, h4⟩, h5⟩, h6⟩ := h
        exact sE_max2 G h1 h2 h3 h4 (okE a G h5) (okE b G h6)
      · cases h
    | min2 =>
      unfold cE at h
      simp only [opOf, cmpOf] at h
      split at h
      · rename_i x e1 e2 hv
        obtain ⟨p, q, rfl⟩ := vCall_of hv
        simp only [Bool.and_eq_true, decide_eq_true_eq] at h
        obtain ⟨⟨⟨⟨⟨h1, h2⟩, h3⟩, h4⟩, h5⟩, h6⟩ := h
        exact sE_min2 G h1 h2 h3 h4 (okE a G h5) (okE b G h6)
      · cases h
  | .chain f f2 a b c, sc, X, e, G, h => by
    unfold cE at h
    split at h
    · rename_i e1 o p2 e2 e3 hv
      obtain ⟨q, rfl⟩ := vCmp2_of hv
      simp only [Bool.and_eq_true, decide_eq_true_eq, Bool.not_eq_true'] at h
      obtain ⟨⟨⟨⟨⟨h1, h2⟩, h3⟩, h4⟩, h5⟩, h6⟩ := h
      exact sE_chain G h1 h2 h3 (okE a G h4) (okE b G h5) (okE c G h6)
    · cases h
  | .and es, sc, X, e, G, h => by
    unfold cE at h
    split at h
    · rename_i o vs hv
      obtain ⟨q, rfl⟩ := vBool_of hv
      simp only [Bool.and_eq_true, decide_eq_true_eq] at h
      obtain ⟨⟨rfl, h1⟩, h2⟩ := h
      rcases cEs_shape h2 with ⟨rfl, rfl⟩ | ⟨c2, cs2, e1, ne⟩
      · exact ok_absurd fun b ρ d z => by simp [evE, evAnd] at z
      · exact sE_and (okEs es G h2) h1 ne
    · cases h
  | .or es, sc, X, e, G, h => by
    unfold cE at h
    split at h
    · rename_i o vs hv
      obtain ⟨q, rfl⟩ := vBool_of hv
      simp only [Bool.and_eq_true, decide_eq_true_eq] at h
      obtain ⟨⟨rfl, h1⟩, h2⟩ := h
      rcases cEs_shape h2 with ⟨rfl, rfl⟩ | ⟨c2, cs2, e1, ne⟩
      · exact ok_absurd fun b ρ d z => by simp [evE, evOr] at z
      · exact sE_or (okEs es G h2) h1 ne
    · cases h
  | .ife c a b, sc, X, e, G, h => by
    unfold cE at h
    split at h
    · rename_i e1 e2 e3 hv
      obtain ⟨q, rfl⟩ := vIf_of hv
      simp only [Bool.and_eq_true] at h
      obtain ⟨⟨⟨h1, h2⟩, h3⟩, h4⟩ := h
      exact sE_ife h1 (okE c G h2) (okE a G h3) (okE b G h4)
    · cases h
  | .tup es, sc, X, e, G, h => by
    unfold cE at h
    split at h
    · rename_i vs hv
      obtain ⟨k, q, rfl⟩ := vTup_of hv
      exact sE_tup (okEs es G h).pa
    · cases h
  | .lst es, sc, X, e, G, h => by
    unfold cE at h
    split at h
    · rename_i vs hv
      obtain ⟨q, rfl⟩ := vLst_of hv
      exact sE_lst (okEs es G h).pa
    · cases h
  | .slc a lo hi, sc, X, e, G, h => by
    unfold cE at h
    split at h
    · rename_i e1 e2 hv
      split at h
      · rename_i l u hv2
        obtain ⟨p, rfl⟩ := vSub_of hv
        obtain ⟨p2, rfl⟩ := vSlc_of hv2
        simp only [Bool.and_eq_true] at h
        exact sE_slc (okE a G h.1.1) (okO lo G h.1.2) (okO hi G h.2)
      · cases h
    · cases h
  | .isi a tys, sc, X, e, G, h => by
    unfold cE at h
    split at h
    · rename_i x e1 e2 hv
      obtain ⟨p, q, rfl⟩ := vCall_of hv
      simp only [Bool.and_eq_true, decide_eq_true_eq] at h
      obtain ⟨⟨⟨⟨⟨⟨h1, h2⟩, h3⟩, h4⟩, h5⟩, h6⟩, h7⟩ := h
      exact sE_isi G h1 h2 h3 h4 (okE a G h5) h7 h6
    · cases h
  | .call f es, sc, X, e, G, h => by
    unfold cE at h
    split at h
    · rename_i x e1 vs hv
      obtain ⟨p, q, rfl⟩ := vCall_of hv
      simp only [Bool.and_eq_true, decide_eq_true_eq, Bool.not_eq_true'] at h
      obtain ⟨⟨⟨h1, h2⟩, h3⟩, h4⟩ := h
      exact sE_call G h1 h2 h3 (cEs_star h4) (okEs es G h4).pa
    · cases h
  | .lc own tg it cond elt, sc, X, e, G, h => by
    unfold cE at h
    split at h
    · rename_i e1 t i ifs s hv
      obtain ⟨p, rfl⟩ := vLc_of hv
      simp only [Bool.and_eq_true] at h
      obtain ⟨⟨⟨⟨⟨⟨h1, h2⟩, h3⟩, h4⟩, h5⟩, h6⟩, h7⟩ := h
      exact sE_lc G h1 h2 h3 h4 (pair_no h4 h5) (okI it G h5) (fun X' G' e => okC cond G' (by rw [e]; exact h6)) fun X' G' e => okE elt G' (by rw [e]; exact h7)
    · cases h
  | .lc2 own own1 tg it cond tg1 it1 cond1 elt, sc, X, e, G, h => by
    unfold cE at h
    split at h
    · rename_i e1 t i ifs t1 i1 ifs1 s hv
      obtain ⟨p, rfl⟩ := vLc2_of hv
      simp only [Bool.and_eq_true] at h
      obtain ⟨⟨⟨⟨⟨⟨⟨⟨⟨⟨⟨⟨h1, h2⟩, h3⟩, h4⟩, h5⟩, h6⟩, h7⟩, h8⟩, h9⟩, h10⟩, h11⟩, h12⟩, h13⟩ := h
      exact sE_lc2 G h1 h2 h3 h4 h5 h6 h7 (pair_no h7 h8) (okI it G h8) (fun X' G' e => okC cond G' (by rw [e]; exact h9)) h10 (pair_no h10 h11) (fun X' G' e => okI it1 G' (by rw [e]; exact h11)) (fun X' G' e => okC cond1 G' (by rw [e]; exact h12)) fun X' G' e => okE elt G' (by rw [e]; exact h13)
    · cases h
  | .dget i k, sc, X, e, G, h => by
    unfold cE at h
    split at h
    · rename_i e1 e2 hv
      obtain ⟨p, rfl⟩ := vSub_of hv
      rw [Bool.and_eq_true, Bool.and_eq_true] at h
      exact sE_dget G h.1.1 h.1.2 (okE k G h.2)
    · cases h
  | .dgetd i k d, sc, X, e, G, h => by
    unfold cE at h
    split at h
    · rename_i e1 m e2 e3 ln hv
      obtain ⟨p, q, rfl, hl⟩ := vMeth_of hv
      rw [Bool.and_eq_true, Bool.and_eq_true, Bool.and_eq_true, Bool.and_eq_true, Bool.and_eq_true, Bool.and_eq_true] at h
      obtain ⟨⟨⟨⟨⟨⟨h1, h2⟩, h3⟩, h4⟩, h5⟩, h6⟩, h7⟩ := h
      exact sE_dgetd G h1 (of_decide_eq_true h2) (hl.trans h3) h4 h5 (okE k G h6) (okE d G h7)
    · cases h
  | .din neg k i, sc, X, e, G, h => by
    unfold cE at h
    split at h
    · rename_i e1 o e2 hv
      obtain ⟨p, rfl⟩ := vCmp1_of hv
      rw [Bool.and_eq_true, Bool.and_eq_true] at h
      exact sE_din G (of_decide_eq_true h.1.1) h.1.2 (okE k G h.2)
    · cases h
  | .dsorted i, sc, X, e, G, h => by
    unfold cE at h
    split at h
    · rename_i x e1 hv
      obtain ⟨p, q, rfl⟩ := vCall_of hv
      rw [Bool.and_eq_true, Bool.and_eq_true, Bool.and_eq_true] at h
      exact sE_dsorted G (of_decide_eq_true h.1.1.1) h.1.1.2 h.1.2 h.2
    · cases h
  | .midx i a b, sc, X, e, G, h => by
    unfold cE at h
    split at h
    · rename_i e0 e2 hv
      split at h
      · rename_i e1 e3 hv2
        obtain ⟨p, rfl⟩ := vSub_of hv
        obtain ⟨q, rfl⟩ := vSub_of hv2
        rw [Bool.and_eq_true, Bool.and_eq_true, Bool.and_eq_true, Bool.and_eq_true] at h
        obtain ⟨⟨⟨⟨h1, h2⟩, h3⟩, h4⟩, h5⟩ := h
        exact sE_midx G h1 h2 h3 (okE a G h4) (okE b G h5)
      · cases h
    · cases h
theorem okEs : ∀ (cs : Es) {sc : Scope} {X : Cx} {es : List Expr}, Gd g cf sc X → cEs g X.N cs sc es = true → OkEs X cf cs es
  | .nil, sc, X, es, G, h => by
    cases es with
    | nil => exact okEs_nil
    | cons _ _ => simp [cEs] at h
  | .cons c cs, sc, X, es, G, h => by
    cases es with
    | nil => simp [cEs] at h
    | cons e es =>
      simp only [cEs, Bool.and_eq_true] at h
      exact okEs_cons h.1.1 (okE c G h.1.2) (okEs cs G h.2) (cEs_shape h.2)
theorem okO : ∀ (c : Oe) {sc : Scope} {X : Cx} {e : Option Expr}, Gd g cf sc X → cPart g X.N c sc e = true → PO X e (rdPart X cf c)
  | .no, sc, X, e, G, h => by
    cases e with
    | none => exact sPart_no
    | some _ => simp [cPart] at h
  | .yes c, sc, X, e, G, h => by
    cases e with
    | none => simp [cPart] at h
    | some e =>
      simp only [cPart] at h
      exact sPart_yes (okE c G h)
theorem okC : ∀ (c : Oe) {sc : Scope} {X : Cx} {es : List Expr}, Gd g cf sc X → cCond g X.N c sc es = true → PTs X es (rdCond X cf c)
  | .no, sc, X, es, G, h => by
    cases es with
    | nil => exact sCond_no
    | cons _ _ => simp [cCond] at h
  | .yes c, sc, X, es, G, h => by
    match es, h with
    | [], h => simp [cCond] at h
    | [e], h =>
      simp only [cCond, Bool.and_eq_true] at h
      exact sCond_yes (okE c G h.2) h.1
    | _ :: _ :: _, h => simp [cCond] at h
theorem okI : ∀ (c : I) {sc : Scope} {X : Cx} {t e : Expr}, Gd g cf sc X → cI g X.N c sc t e = true → OkI X cf c t e
  | .ex c, sc, X, t, e, G, h => by
    unfold cI at h
    exact sI_ex (okE c G h)
  | .chars c, sc, X, t, e, G, h => by
    unfold cI at h
    exact sI_chars (okE c G h)
  | .rng a, sc, X, t, e, G, h => by
    unfold cI at h
    split at h
    · rename_i x e1 hv
      obtain ⟨p, q, rfl⟩ := vCall_of hv
      simp only [Bool.and_eq_true, decide_eq_true_eq] at h
      exact sI_rng G h.1.1.1 h.1.1.2 h.1.2 (okE a G h.2)
    · cases h
  | .rng2 a b, sc, X, t, e, G, h => by
    unfold cI at h
    split at h
    · rename_i x e1 e2 hv
      obtain ⟨p, q, rfl⟩ := vCall_of hv
      simp only [Bool.and_eq_true, decide_eq_true_eq] at h
      obtain ⟨⟨⟨⟨⟨h1, h2⟩, h3⟩, h4⟩, h5⟩, h6⟩ := h
      exact sI_rng2 G h1 h2 h3 h4 (okE a G h5) (okE b G h6)
    · cases h
  | .zip a b, sc, X, t, e, G, h => by
    unfold cI at h
    split at h
    · rename_i x e1 e2 hv
      obtain ⟨p, q, rfl⟩ := vCall_of hv
      simp only [Bool.and_eq_true, decide_eq_true_eq] at h
      obtain ⟨⟨⟨⟨⟨⟨h1, h2⟩, h3⟩, h4⟩, h5⟩, h6⟩, h7⟩ := h
      exact sI_zip G h1 h2 h3 h4 h5 (okE a G h6) (okE b G h7)
    · cases h
  | .enum a, sc, X, t, e, G, h => by
    unfold cI at h
    split at h
    · rename_i x e1 hv
      obtain ⟨p, q, rfl⟩ := vCall_of hv
      simp only [Bool.and_eq_true, decide_eq_true_eq] at h
      exact sI_enum G h.1.1.1.1 h.1.1.1.2 h.1.1.2 h.1.2 (okE a G h.2)
    · cases h
  | .keys i, sc, X, t, e, G, h => by
    unfold cI at h
    split at h
    · rename_i x hv
      obtain ⟨p, rfl⟩ := vName_of hv
      exact sI_keys G h
    · cases h
end
end
end Bw

/-! Bw, part M: slots as statements change them. -/
namespace Bw
open PySem PySem.Spec PyProof.Rows L2

/-- how things stand from one place of a def's body to a later one -/
structure Go (F : List Addr) (H : Hp) (F' : List Addr) (H' : Hp) : Prop where
  step : Step F H H'
  sub : ∀ b ∈ F', b ∈ F ∨ H b = none
theorem Go.refl {F : List Addr} {H : Hp} : Go F H F H := ⟨Step.refl, fun _ h => .inl h⟩
theorem Go.of_same {F : List Addr} {H H' : Hp} (s : Same H H') : Go F H F H' := ⟨Step.of_same s, fun _ h => .inl h⟩
theorem Go.trans {F F1 F2 : List Addr} {H H1 H2 : Hp} (a : Go F H F1 H1) (b : Go F1 H1 F2 H2) : Go F H F2 H2 :=
  ⟨a.step.trans a.sub b.step, fun c h => (b.sub c h).elim (a.sub c) fun z => .inr (a.step.grow c z)⟩
theorem Go.same {F F' : List Addr} {H H1 H2 : Hp} (s : Same H H1) (b : Go F H1 F' H2) : Go F H F' H2 := (Go.of_same s).trans b

section
variable {prog : Program} {w : World} {K : W.Frag} {P : Addr → Prop} {F : List Addr} {ρ : Env} {σ : L2.St} {H H' : Hp}
theorem Fp.mem {v : V} {s : SV} {b : Addr} (r : RepS prog w K P F H v s) (h : Fp H v s b) : b ∈ F := by
  cases s with
  | dat d => exact h.elim
  | own ds =>
    obtain ⟨a, vs, h1, h2, _⟩ := r
    rw [show v = V.ref b from h] at h1
    cases h1
    exact h2
  | mat dss =>
    obtain ⟨a, as, h1, h2, h3, h4, h5, h6, h7, h8⟩ := r
    rcases h with h | ⟨a', vs, e1, e2, e3⟩
    · rw [h] at h1
      cases h1
      exact h2
    · rw [h1] at e1
      cases e1
      rw [h4] at e2
      cases e2
      obtain ⟨c, hc, e⟩ := List.mem_map.mp e3
      cases e
      have : ∀ {as : List Addr} {dss : List (List D)}, Paired (MatRow K H P F) as dss → ∀ b ∈ as, b ∈ F := by
        intro as dss pr
        induction pr with
        | nil => intro b hb; cases hb
        | cons z t ih =>
          intro b hb
          rcases List.mem_cons.mp hb with rfl | hb
          · exact z.1
          · exact ih b hb
      exact this h8 _ hc
  | dct nest kvs =>
    obtain ⟨a, h1, h2, _⟩ := r
    rw [show v = V.ref b from h] at h1
    cases h1
    exact h2
/-- a slot is set -/
theorem R.put (r : R prog w K P F ρ σ H) {i : Nat} {v : V} {s : SV} (h : RepS prog w K P F H v s)
    (hs : ∀ (j : Nat) (t : SV) (u : V) (b : Addr), j ≠ i → ρ[j]? = some (some t) → σ[j]? = some (some u) → Fp H v s b → ¬ Fp H u t b) : R prog w K P F (ρ.set i (some s)) (σ.set i (some v)) H := by
  have back : ∀ {j : Nat} {t : SV}, (ρ.set i (some s))[j]? = some (some t) → (j = i ∧ t = s ∧ i < ρ.length) ∨ (j ≠ i ∧ ρ[j]? = some (some t)) := fun {j t} e => by
    by_cases hj : i = j
    · subst hj
      by_cases hl : i < ρ.length
      · rw [List.getElem?_set_self hl] at e
        cases e
        exact .inl ⟨rfl, rfl, hl⟩
      · rw [List.getElem?_eq_none (by rw [List.length_set]; omega)] at e
        cases e
    · rw [List.getElem?_set_ne hj] at e
      exact .inr ⟨Ne.symm hj, e⟩
  refine ⟨by rw [List.length_set, List.length_set]; exact r.len, r.trk, r.fresh, fun j t e => ?_, fun j k t t' v' u b ne e1 e2 e3 e4 f g => ?_⟩
  · rcases back e with ⟨rfl, rfl, hl⟩ | ⟨hj, e⟩
    · exact ⟨v, by rw [List.getElem?_set_self (by rw [r.len]; exact hl)], h⟩
    · rw [List.getElem?_set_ne (Ne.symm hj)]
      exact r.rep j t e
  · rcases back e1 with ⟨rfl, rfl, hl⟩ | ⟨hj, q1⟩
    · rcases back e2 with ⟨rfl, rfl, _⟩ | ⟨hk, q2⟩
      · exact ne rfl
      · rw [List.getElem?_set_self (by rw [r.len]; exact hl)] at e3
        cases e3
        rw [List.getElem?_set_ne (Ne.symm hk)] at e4
        exact hs k t' u b hk q2 e4 f g
    · rw [List.getElem?_set_ne (Ne.symm hj)] at e3
      rcases back e2 with ⟨rfl, rfl, hl⟩ | ⟨hk, q2⟩
      · rw [List.getElem?_set_self (by rw [r.len]; exact hl)] at e4
        cases e4
        exact hs j t v' b hj q1 e3 g f
      · rw [List.getElem?_set_ne (Ne.symm hk)] at e4
        exact r.sep j k t t' v' u b ne q1 q2 e3 e4 f g
/-- the same things, otherwise placed -/
theorem R.remap (r : R prog w K P F ρ σ H) {ρ' : Env} {σ' : L2.St} (φ : Nat → Nat) (hl : σ'.length = ρ'.length)
    (h : ∀ i s, ρ'[i]? = some (some s) → ρ[φ i]? = some (some s) ∧ σ'[i]? = σ[φ i]?) (inj : ∀ i j s t, i ≠ j → ρ'[i]? = some (some s) → ρ'[j]? = some (some t) → φ i ≠ φ j) : R prog w K P F ρ' σ' H := by
  refine ⟨hl, r.trk, r.fresh, fun i s e => ?_, fun i j s t v u b ne e1 e2 e3 e4 f g => ?_⟩
  · obtain ⟨h1, h2⟩ := h i s e
    obtain ⟨v, h3, h4⟩ := r.rep _ s h1
    exact ⟨v, h2.trans h3, h4⟩
  · obtain ⟨a1, a2⟩ := h i s e1
    obtain ⟨b1, b2⟩ := h j t e2
    exact r.sep _ _ s t v u b (inj i j s t ne e1 e2) a1 b1 (a2.symm.trans e3) (b2.symm.trans e4) f g

/-- a row of a new list of lists -/
def NewRow (K : W.Frag) (H' : Hp) (P : Addr → Prop) (as : List Addr) (b : Addr) (ds : List D) : Prop := ∃ vs, H' b = some (.lst vs) ∧ vs.length ≤ sizeLine ∧ DaL K H' (fun c => P c ∧ c ∉ as) vs ds
theorem NewRow.isM {K : W.Frag} {H' : Hp} {P : Addr → Prop} {as : List Addr} : ∀ {bs : List Addr} {dss : List (List D)}, Paired (NewRow K H' P as) bs dss → ∀ b ∈ bs, ∃ o, H' b = some o ∧ isMut o = true
  | _, _, .nil, b, hb => by cases hb
  | _, _, .cons z t, b, hb => by
    rcases List.mem_cons.mp hb with rfl | hb
    · obtain ⟨vs, h, _⟩ := z
      exact ⟨_, h, rfl⟩
    · exact NewRow.isM t b hb
theorem NewRow.row {K : W.Frag} {H' : Hp} {P : Addr → Prop} {F as : List Addr} (hP : ∀ b ∈ as, P b) : ∀ {bs : List Addr} {dss : List (List D)}, (∀ b ∈ bs, b ∈ as) → Paired (NewRow K H' (PF P F) as) bs dss → Paired (MatRow K H' P (as ++ F)) bs dss
  | _, _, _, .nil => .nil
  | _, _, hb, .cons z t => by
    refine .cons ?_ (NewRow.row hP (fun b h => hb b (List.mem_cons_of_mem _ h)) t)
    obtain ⟨vs, h1, h2, h3⟩ := z
    have hm := hb _ List.mem_cons_self
    exact ⟨List.mem_append_left _ hm, hP _ hm, vs, h1, h2, h3.weak fun c o q _ => ⟨q.1.1, fun z => (List.mem_append.mp z).elim q.2 q.1.2⟩⟩
/-- a new value -/
def NewS (prog : Program) (w : World) (K : W.Frag) (H H' : Hp) (P : Addr → Prop) (v : V) : SV → Prop
  | .dat d => Da K H' P v d
  | .own ds => Fresh K H H' P v (.list ds)
  | .mat dss => ∃ a as, v = .ref a ∧ H a = none ∧ (∀ b ∈ as, H b = none) ∧ as.Nodup ∧ a ∉ as ∧ H' a = some (.lst (as.map V.ref)) ∧ as.length ≤ sizeLine ∧ Paired (NewRow K H' P (a :: as)) as dss
  | .dct n kvs => ∃ a, v = .ref a ∧ H a = none ∧ DctAt prog w K H' (fun b => P b ∧ b ≠ a) a n kvs
theorem R.mono1 {H1 : Hp} {p : Addr} {o : HO} (r : R prog w K P F ρ σ H) (hp : H p = none) (s : Same H H1) (e : H1 p = some o) (m : isMut o = true) : R prog w K P (p :: F) ρ σ H1 := R.more' r hp s e m
theorem fp_new {H1 : Hp} {p : Addr} (r : R prog w K P F ρ σ H) (hp : H p = none) (s : Same H H1) {j : Nat} {t : SV} {u : V} (e1 : ρ[j]? = some (some t)) (e2 : σ[j]? = some (some u)) : ¬ Fp H1 u t p := fun f => by
  obtain ⟨u', h1, h2⟩ := r.rep j t e1
  rw [e2] at h1
  cases h1
  obtain ⟨o, h3, _⟩ := r.trk p (Fp.mem h2 (Fp.same h2 s f))
  rw [hp] at h3
  cases h3
/-- a new value is put into a slot -/
theorem R.new {H1 : Hp} {i : Nat} {v : V} {s : SV} (r : R prog w K P F ρ σ H) (sm : Same H H1) (n : NewS prog w K H H1 (PF P F) v s) :
    ∃ F', R prog w K P F' (ρ.set i (some s)) (σ.set i (some v)) H1 ∧ Go F H F' H1 := by
  cases s with
  | dat d => exact ⟨F, (r.same sm).set n, Go.of_same sm⟩
  | own ds =>
    obtain ⟨p, vs, ds', h1, h2, h3, h4, h5, h6⟩ := n.ex
    cases h2
    subst h1
    have r1 := R.mono1 r h3 sm h4 rfl
    refine ⟨p :: F, r1.put ⟨p, vs, rfl, List.mem_cons_self, r.fresh p h3, h4, h5, h6.weak fun b o q _ => ⟨q.1.1, fun z => (List.mem_cons.mp z).elim q.2 q.1.2⟩⟩ fun j t u b hj e1 e2 f g => ?_, Step.of_same sm, fun b hb => ?_⟩
    · have e : p = b := V.ref.inj (show V.ref p = V.ref b from f)
      subst e
      exact fp_new r h3 sm e1 e2 g
    · rcases List.mem_cons.mp hb with z | z
      · rw [z]; exact .inr h3
      · exact .inl z
  | mat dss =>
    obtain ⟨a, as, h1, h3, h4, h5, h6, h7, h8, h9⟩ := n
    subst h1
    have hN : ∀ b ∈ a :: as, H b = none := fun b hb => (List.mem_cons.mp hb).elim (fun z => by rw [z]; exact h3) (h4 b)
    have r1 := R.moreL (as := a :: as) r hN sm fun b hb => (List.mem_cons.mp hb).elim (fun z => by rw [z]; exact ⟨_, h7, rfl⟩) (NewRow.isM h9 b)
    refine ⟨(a :: as) ++ F, r1.put ⟨a, as, rfl, by simp, r.fresh a h3, h7, h8, h5, h6, NewRow.row (fun b hb => r.fresh b (hN b hb)) (fun b hb => List.mem_cons_of_mem _ hb) h9⟩ fun j t u b hj e1 e2 f g => ?_, Step.of_same sm, fun b hb => ?_⟩
    · have hb : b ∈ a :: as := by
        rcases f with f | ⟨a', vs, f1, f2, f3⟩
        · cases f
          exact List.mem_cons_self
        · cases f1
          rw [h7] at f2
          cases f2
          obtain ⟨c, hc, e⟩ := List.mem_map.mp f3
          cases e
          exact List.mem_cons_of_mem _ hc
      exact fp_new r (hN b hb) sm e1 e2 g
    · rcases List.mem_append.mp hb with z | z
      · exact .inr (hN b z)
      · exact .inl z
  | dct nest kvs =>
    obtain ⟨p, h1, h3, h4⟩ := n
    subst h1
    obtain ⟨o, h5, h6, _⟩ := h4.isM
    have r1 := R.mono1 r h3 sm h5 h6
    refine ⟨p :: F, r1.put ⟨p, rfl, List.mem_cons_self, h4.mono .refl (fun b o q _ => ⟨q.1.1, fun z => (List.mem_cons.mp z).elim q.2 q.1.2⟩) fun o e => e⟩ fun j t u b hj e1 e2 f g => ?_, Step.of_same sm, fun b hb => ?_⟩
    · have e : p = b := V.ref.inj (show V.ref p = V.ref b from f)
      subst e
      exact fp_new r h3 sm e1 e2 g
    · rcases List.mem_cons.mp hb with z | z
      · rw [z]; exact .inr h3
      · exact .inl z
/-- a slot's own thing has changed in place, all else stands -/
theorem R.write {i : Nat} {s s' : SV} {v : V} {a : Addr} (r : R prog w K P F ρ σ H) (hi : ρ[i]? = some (some s)) (hv : σ[i]? = some (some v)) (ha : Fp H v s a) (ne : ∀ b, b ≠ a → H' b = H b) (mu : ∃ o, H' a = some o ∧ isMut o = true)
    (rep : RepS prog w K P F H' v s') (fp : ∀ b, Fp H' v s' b → Fp H v s b) : R prog w K P F (ρ.set i (some s')) σ H' ∧ Go F H F H' := by
  obtain ⟨v', hv', rs⟩ := r.rep i s hi
  rw [hv] at hv'
  cases hv'
  have haF := Fp.mem rs ha
  obtain ⟨oa, hoa, hma⟩ := r.trk a haF
  have kp : Keeps (PF P F) H H' := ⟨fun b o p e => by rw [ne b fun z => p.2 (by rw [z]; exact haF)]; exact e, fun b o u e => by rw [ne b fun z => by rw [z, hoa] at e; cases e; cases hma]; exact e⟩
  have hnone : ∀ b, H' b = none → H b = none := fun b e => by
    by_cases hb : b = a
    · subst hb
      obtain ⟨o, q, _⟩ := mu
      rw [q] at e
      cases e
    · rw [← ne b hb]; exact e
  have other : ∀ j t u, j ≠ i → ρ[j]? = some (some t) → σ[j]? = some (some u) → RepS prog w K P F H u t → RepS prog w K P F H' u t ∧ ∀ b, Fp H' u t b → Fp H u t b := fun j t u hj e1 e2 rt => by
    have na : ¬ Fp H u t a := fun f => r.sep i j s t v u a (Ne.symm hj) hi e1 hv e2 ha f
    cases t with
    | dat d => exact ⟨Da.keep rt kp, fun b f => f⟩
    | own ds =>
      obtain ⟨c, vs, h1, h2, h3, h4, h5, h6⟩ := rt
      have hc : c ≠ a := fun z => na (by rw [← z]; exact h1)
      exact ⟨⟨c, vs, h1, h2, h3, by rw [ne c hc]; exact h4, h5, h6.keep kp⟩, fun b f => f⟩
    | mat dss =>
      obtain ⟨c, as, h1, h2, h3, h4, h5, h6, h7, h8⟩ := rt
      have hc : c ≠ a := fun z => na (by rw [← z]; exact .inl h1)
      have hr : a ∉ as := fun z => na (.inr ⟨c, _, h1, h4, List.mem_map_of_mem z⟩)
      have rows : ∀ {as : List Addr} {dss : List (List D)}, a ∉ as → Paired (MatRow K H P F) as dss → Paired (MatRow K H' P F) as dss := by
        intro as dss hn pr
        induction pr with
        | nil => exact .nil
        | cons z t ih =>
          refine .cons ?_ (ih fun q => hn (List.mem_cons_of_mem _ q))
          obtain ⟨z1, z2, vs, z3, z4, z5⟩ := z
          exact ⟨z1, z2, vs, by rw [ne _ fun q => hn (by rw [← q]; exact List.mem_cons_self)]; exact z3, z4, z5.keep kp⟩
      refine ⟨⟨c, as, h1, h2, h3, by rw [ne c hc]; exact h4, h5, h6, h7, rows hr h8⟩, fun b f => ?_⟩
      rcases f with f | ⟨c', vs, f1, f2, f3⟩
      · exact .inl f
      · have hcc : c = c' := V.ref.inj (h1.symm.trans f1)
        subst hcc
        exact .inr ⟨c, vs, f1, by rw [← ne c hc]; exact f2, f3⟩
    | dct nest kvs =>
      obtain ⟨c, h1, h2, h3⟩ := rt
      have hc : c ≠ a := fun z => na (by rw [← z]; exact h1)
      exact ⟨⟨c, h1, h2, h3.mono kp (fun _ _ p _ => p) fun o e => by rw [ne c hc]; exact e⟩, fun b f => f⟩
  have hlt : i < ρ.length := (List.getElem?_eq_some_iff.mp hi).1
  have back : ∀ {j : Nat} {t : SV}, (ρ.set i (some s'))[j]? = some (some t) → (j = i ∧ t = s') ∨ (j ≠ i ∧ ρ[j]? = some (some t)) := fun {j t} e => by
    by_cases hj : i = j
    · subst hj
      rw [List.getElem?_set_self hlt] at e
      cases e
      exact .inl ⟨rfl, rfl⟩
    · rw [List.getElem?_set_ne hj] at e
      exact .inr ⟨Ne.symm hj, e⟩
  refine ⟨⟨by rw [List.length_set]; exact r.len, fun b hb => ?_, fun b e => r.fresh b (hnone b e), fun j t e => ?_, fun j k t t' v' u b nejk e1 e2 e3 e4 f g => ?_⟩, ⟨fun b o e n => by rw [ne b fun z => n (by rw [z]; exact haF)]; exact e, hnone⟩, fun b h => .inl h⟩
  · by_cases hba : b = a
    · subst hba; exact mu
    · rw [ne b hba]; exact r.trk b hb
  · rcases back e with ⟨rfl, rfl⟩ | ⟨hj, e⟩
    · exact ⟨v, hv, rep⟩
    · obtain ⟨u, h1, h2⟩ := r.rep j t e
      exact ⟨u, h1, (other j t u hj e h1 h2).1⟩
  · have fpO : ∀ {j t u b}, (ρ.set i (some s'))[j]? = some (some t) → σ[j]? = some (some u) → Fp H' u t b → ∃ t0, ρ[j]? = some (some t0) ∧ Fp H u t0 b := fun {j t u b} e1 e3 f => by
      rcases back e1 with ⟨rfl, rfl⟩ | ⟨hj, e1⟩
      · rw [hv] at e3
        cases e3
        exact ⟨s, hi, fp b f⟩
      · obtain ⟨u', h1, h2⟩ := r.rep j t e1
        rw [e3] at h1
        cases h1
        exact ⟨t, e1, (other j t u hj e1 e3 h2).2 b f⟩
    obtain ⟨t0, a1, a2⟩ := fpO e1 e3 f
    obtain ⟨t1, b1, b2⟩ := fpO e2 e4 g
    exact r.sep j k t0 t1 v' u b nejk a1 b1 e3 e4 a2 b2
end
end Bw

/-! Bw, a list of one's own that is changed no more becomes data (begun). -/
namespace Bw
open PySem PySem.Spec PyProof.Rows L2
section
variable {prog : Program} {w : World} {K : W.Frag} {P : Addr → Prop} {F : List Addr} {ρ : Env} {σ : L2.St} {H : Hp}
theorem R.frz (r : R prog w K P F ρ σ H) {i : Nat} {ds : List D} (hi : ρ[i]? = some (some (.own ds))) : ∃ F', R prog w K P F' (ρ.set i (some (.dat (.list ds)))) σ H ∧ Go F H F' H := by
  obtain ⟨v, hv, a, vs, rfl, h1, h2, h3, h4, h5⟩ := r.rep i _ hi
  have hw : ∀ b o, PF P F b → H b = some o → PF P (F.filter fun b => b != a) b := fun b o p _ => ⟨p.1, fun z => p.2 (List.mem_filter.mp z).1⟩
  have keep : ∀ {b : Addr}, b ∈ F → b ≠ a → b ∈ F.filter fun b => b != a := fun hb hn => List.mem_filter.mpr ⟨hb, by simp [hn]⟩
  have hlt : i < ρ.length := (List.getElem?_eq_some_iff.mp hi).1
  have back : ∀ {j : Nat} {t : SV}, (ρ.set i (some (SV.dat (.list ds))))[j]? = some (some t) → (j = i ∧ t = .dat (.list ds)) ∨ (j ≠ i ∧ ρ[j]? = some (some t)) := fun {j t} e => by
    by_cases hj : i = j
    · subst hj
      rw [List.getElem?_set_self hlt] at e
      cases e
      exact .inl ⟨rfl, rfl⟩
    · rw [List.getElem?_set_ne hj] at e
      exact .inr ⟨Ne.symm hj, e⟩
  refine ⟨F.filter fun b => b != a, ⟨by rw [List.length_set]; exact r.len, fun b hb => r.trk b (List.mem_filter.mp hb).1, r.fresh, fun j t e => ?_, fun j k t t' v' u b ne e1 e2 e3 e4 f g => ?_⟩, Step.refl, fun b hb => .inl (List.mem_filter.mp hb).1⟩
  · rcases back e with ⟨rfl, rfl⟩ | ⟨hj, e⟩
    · exact ⟨_, hv, .lst ⟨h4, .inl h3, h2, fun z => by have := (List.mem_filter.mp z).2; simp at this⟩ (h5.weak hw)⟩
    · obtain ⟨u, g1, g2⟩ := r.rep j t e
      have nf : ¬ Fp H u t a := fun f => r.sep i j _ t _ u a (Ne.symm hj) hi e hv g1 rfl f
      refine ⟨u, g1, ?_⟩
      cases t with
      | dat d => exact Da.weak g2 hw
      | own es =>
        obtain ⟨c, us, q1, q2, q3, q4, q5, q6⟩ := g2
        exact ⟨c, us, q1, keep q2 (fun z => nf (by rw [← z]; exact q1)), q3, q4, q5, q6.weak hw⟩
      | mat dss =>
        obtain ⟨c, as, q1, q2, q3, q4, q5, q6, q7, q8⟩ := g2
        refine ⟨c, as, q1, keep q2 (fun z => nf (by rw [← z]; exact .inl q1)), q3, q4, q5, q6, q7, ?_⟩
        have rows : ∀ {as : List Addr} {dss : List (List D)}, a ∉ as → Paired (MatRow K H P F) as dss → Paired (MatRow K H P (F.filter fun b => b != a)) as dss := by
          intro as dss hn pr
          induction pr with
          | nil => exact .nil
          | cons z t ih =>
            refine .cons ?_ (ih fun q => hn (List.mem_cons_of_mem _ q))
            obtain ⟨z1, z2, us, z3, z4, z5⟩ := z
            exact ⟨keep z1 (fun q => hn (by rw [← q]; exact List.mem_cons_self)), z2, us, z3, z4, z5.weak hw⟩
        exact rows (fun z => nf (.inr ⟨c, _, q1, q4, List.mem_map_of_mem z⟩)) q8
      | dct nest kvs =>
        obtain ⟨c, q1, q2, q3⟩ := g2
        exact ⟨c, q1, keep q2 (fun z => nf (by rw [← z]; exact q1)), q3.mono .refl hw fun o e => e⟩
  · rcases back e1 with ⟨rfl, rfl⟩ | ⟨hj, q1⟩
    · exact f.elim
    · rcases back e2 with ⟨rfl, rfl⟩ | ⟨hk, q2⟩
      · exact g.elim
      · exact r.sep j k t t' v' u b ne q1 q2 e3 e4 f g
theorem mrow_da {F' : List Addr} : ∀ {as : List Addr} {dss : List (List D)}, (∀ b ∈ as, b ∉ F') → (∀ b o, PF P F b → H b = some o → PF P F' b) → Paired (MatRow K H P F) as dss → DaL K H (PF P F') (as.map V.ref) (dss.map .list)
  | _, _, _, _, .nil => .nil
  | _, _, hn, hw, .cons z t => by
    obtain ⟨z1, z2, vs, z3, z4, z5⟩ := z
    exact .cons (.lst ⟨z4, .inl z3, z2, hn _ List.mem_cons_self⟩ (z5.weak hw)) (mrow_da (fun b h => hn b (List.mem_cons_of_mem _ h)) hw t)
theorem R.frzM (r : R prog w K P F ρ σ H) {i : Nat} {dss : List (List D)} (hi : ρ[i]? = some (some (.mat dss))) : ∃ F', R prog w K P F' (ρ.set i (some (.dat (.list (dss.map .list))))) σ H ∧ Go F H F' H := by
  obtain ⟨v, hv, a, as, rfl, h1, h2, h3, h4, h4', h4'', h5⟩ := r.rep i _ hi
  have hw : ∀ b o, PF P F b → H b = some o → PF P (F.filter fun b => !(a :: as).contains b) b := fun b o p _ => ⟨p.1, fun z => p.2 (List.mem_filter.mp z).1⟩
  have keep : ∀ {b : Addr}, b ∈ F → b ∉ a :: as → b ∈ F.filter fun b => !(a :: as).contains b := fun hb hn => List.mem_filter.mpr ⟨hb, by simpa using hn⟩
  have out : ∀ b ∈ a :: as, b ∉ F.filter fun b => !(a :: as).contains b := fun b hb z => by
    have := (List.mem_filter.mp z).2
    rw [Bool.not_eq_true', ← Bool.not_eq_true, List.contains_iff_mem] at this
    exact this hb
  have hlt : i < ρ.length := (List.getElem?_eq_some_iff.mp hi).1
  have back : ∀ {j : Nat} {t : SV}, (ρ.set i (some (SV.dat (.list (dss.map .list)))))[j]? = some (some t) → (j = i ∧ t = .dat (.list (dss.map .list))) ∨ (j ≠ i ∧ ρ[j]? = some (some t)) := fun {j t} e => by
    by_cases hj : i = j
    · subst hj
      rw [List.getElem?_set_self hlt] at e
      cases e
      exact .inl ⟨rfl, rfl⟩
    · rw [List.getElem?_set_ne hj] at e
      exact .inr ⟨Ne.symm hj, e⟩
  refine ⟨F.filter fun b => !(a :: as).contains b, ⟨by rw [List.length_set]; exact r.len, fun b hb => r.trk b (List.mem_filter.mp hb).1, r.fresh, fun j t e => ?_, fun j k t t' v' u b ne e1 e2 e3 e4 f g => ?_⟩, Step.refl, fun b hb => .inl (List.mem_filter.mp hb).1⟩
  · rcases back e with ⟨rfl, rfl⟩ | ⟨hj, e⟩
    · exact ⟨_, hv, .lst ⟨by rw [List.length_map]; exact h4, .inl h3, h2, out a List.mem_cons_self⟩ (mrow_da (fun b hb => out b (List.mem_cons_of_mem _ hb)) hw h5)⟩
    · obtain ⟨u, g1, g2⟩ := r.rep j t e
      have nf : ∀ b ∈ a :: as, ¬ Fp H u t b := fun b hb f => by
        refine r.sep i j _ t _ u b (Ne.symm hj) hi e hv g1 ?_ f
        rcases List.mem_cons.mp hb with z | z
        · rw [z]; exact .inl rfl
        · exact .inr ⟨a, _, rfl, h3, List.mem_map_of_mem z⟩
      refine ⟨u, g1, ?_⟩
      cases t with
      | dat d => exact Da.weak g2 hw
      | own es =>
        obtain ⟨c, us, q1, q2, q3, q4, q5, q6⟩ := g2
        exact ⟨c, us, q1, keep q2 (fun z => nf _ z q1), q3, q4, q5, q6.weak hw⟩
      | mat ess =>
        obtain ⟨c, cs, q1, q2, q3, q4, q5, q6, q7, q8⟩ := g2
        refine ⟨c, cs, q1, keep q2 (fun z => nf _ z (.inl q1)), q3, q4, q5, q6, q7, ?_⟩
        have rows : ∀ {cs : List Addr} {ess : List (List D)}, (∀ c ∈ cs, c ∉ a :: as) → Paired (MatRow K H P F) cs ess → Paired (MatRow K H P (F.filter fun b => !(a :: as).contains b)) cs ess := by
          intro cs ess hn pr
          induction pr with
          | nil => exact .nil
          | cons z t ih =>
            refine .cons ?_ (ih fun c q => hn c (List.mem_cons_of_mem _ q))
            obtain ⟨z1, z2, us, z3, z4, z5⟩ := z
            exact ⟨keep z1 (hn _ List.mem_cons_self), z2, us, z3, z4, z5.weak hw⟩
        exact rows (fun d hd z => nf _ z (.inr ⟨c, _, q1, q4, List.mem_map_of_mem hd⟩)) q8
      | dct nest kvs =>
        obtain ⟨c, q1, q2, q3⟩ := g2
        exact ⟨c, q1, keep q2 (fun z => nf _ z q1), q3.mono .refl hw fun o e => e⟩
  · rcases back e1 with ⟨rfl, rfl⟩ | ⟨hj, q1⟩
    · exact f.elim
    · rcases back e2 with ⟨rfl, rfl⟩ | ⟨hk, q2⟩
      · exact g.elim
      · exact r.sep j k t t' v' u b ne q1 q2 e3 e4 f g
end
theorem map_list_inj : ∀ {a b : List (List D)}, a.map PyData.list = b.map PyData.list → a = b
  | [], [], _ => rfl
  | [], _ :: _, h => by simp at h
  | _ :: _, [], h => by simp at h
  | x :: xs, y :: ys, h => by
    simp only [List.map_cons, List.cons.injEq] at h
    rw [PyData.list.inj h.1, map_list_inj h.2]
theorem lists_map : ∀ {ds : List D} {dss : List (List D)}, lists ds = some dss → ds = dss.map .list
  | [], _, h => by cases h; rfl
  | d :: ds, dss, h => by
    cases d <;> try (simp [lists] at h; done)
    rename_i xs
    simp only [lists, Option.map_eq_some_iff] at h
    obtain ⟨r, h1, rfl⟩ := h
    rw [List.map_cons, lists_map h1]
theorem lcF_pre {f : D → Option (Option D)} {ds out rs : List D} (h : lcF f ds = some out) {k : Nat} (h2 : lcF f (ds.take k) = some rs) : ∃ t, out = rs ++ t := by
  rw [← List.take_append_drop k ds, lcF_append, h2] at h
  obtain ⟨b, _, rfl⟩ := Option.map_eq_some_iff.mp (by simpa using h)
  exact ⟨b, rfl⟩
section
variable {K : W.Frag} {H H' : Hp} {P : Addr → Prop}
theorem NewRow.mono {as as' : List Addr} (k : Keeps (fun c => P c ∧ c ∉ as) H H') (hp : ∀ c o, H c = some o → c ∉ as → c ∉ as') : ∀ {bs : List Addr} {dss : List (List D)}, (∀ b ∈ bs, ∀ o, H b = some o → H' b = some o) → Paired (NewRow K H P as) bs dss → Paired (NewRow K H' P as') bs dss
  | _, _, _, .nil => .nil
  | _, _, hb, .cons z t => by
    obtain ⟨vs, h1, h2, h3⟩ := z
    exact .cons ⟨vs, hb _ List.mem_cons_self _ h1, h2, DaL.mono k (fun b o q e => ⟨q.1, hp b o e q.2⟩) _ _ h3⟩ (NewRow.mono k hp (fun b h => hb b (List.mem_cons_of_mem _ h)) t)
theorem paired_len {α β : Type} {F : α → β → Prop} : ∀ {l₁ : List α} {l₂ : List β}, Paired F l₁ l₂ → l₁.length = l₂.length
  | _, _, .nil => rfl
  | _, _, .cons _ t => by rw [List.length_cons, List.length_cons, paired_len t]
theorem paired_snoc {α β : Type} {F : α → β → Prop} {a : α} {b : β} (h : F a b) : ∀ {l₁ : List α} {l₂ : List β}, Paired F l₁ l₂ → Paired F (l₁ ++ [a]) (l₂ ++ [b])
  | _, _, .nil => .cons h .nil
  | _, _, .cons r t => .cons r (paired_snoc h t)
end
section
variable {g : G} {cf : Nat → List D → Option RV} {sc : Scope} {X : Cx} {P : Addr → Prop} {F : List Addr} {ρ : Env} {σ : L2.St} {H : Hp} {t : Expr}
theorem lc_mainM {own : List Nat} {tg : Tg} {it : I} {cond : Oe} {elt : E} {b : Bool} {dss : List (List D)} {Q : VK} (hin : tgIn own tg = true) (r : RX X P F ρ σ H) (ev : evE cf (.lc own tg it cond elt) b ρ = some (.list (dss.map .list))) (hp : ∀ i, tg = .n i → pairI it = false) (hf : freshE elt = true)
    (q : ∀ v H', Same H H' → NewS X.prog X.w X.K H H' (PF P F) v (.mat dss) → Q v H') : tLc (rdI X cf true it) (gT X.K tg) (rdCond X cf cond) (rdE X cf false elt) own σ H Q := by
  unfold evE at ev
  obtain ⟨ds, k1, ev⟩ := Option.bind_eq_some_iff.mp ev
  obtain ⟨out, k2, e0⟩ := Option.map_eq_some_iff.mp ev
  cases e0
  refine ⟨P, F, ρ, ds, r, k1, fun J H1 s1 hl wk D hD => ?_⟩
  have r1 := r.same s1
  refine lc_it wk (fun i H2 => Same H1 H2 ∧ ∃ as rss, lcF (fun d => (bindT tg d (wipeE ρ own)).bind fun ρ' => (evCond cf cond ρ').bind fun c => if c then (evE cf elt false ρ').map some else some none) (ds.take i) = some (rss.map .list) ∧ H2 D = some (.lst (as.map V.ref)) ∧ as.length ≤ i ∧
      as.Nodup ∧ D ∉ as ∧ (∀ b ∈ as, H1 b = none) ∧ Paired (NewRow X.K H2 (PF P F) (D :: as)) as rss)
    ⟨same_upd hD, [], [], by rw [List.take_zero]; rfl, upd_same, Nat.le_refl _, List.nodup_nil, by simp, by simp, .nil⟩ (fun i H2 hi p => p.1) (fun i x H2 H3 hi p y => ?_) fun H2 p => ?_
  · obtain ⟨s2, as, rss, e1, e2, e3, e4, e5, e6, e7⟩ := p
    obtain ⟨s3, d, hd, itm⟩ := y
    obtain ⟨rs', r', f1, f2, f3⟩ := lcF_at k2 hd
    rw [e1] at f1
    cases f1
    obtain ⟨ρ', b1, f2⟩ := Option.bind_eq_some_iff.mp f2
    obtain ⟨c, b2, f2⟩ := Option.bind_eq_some_iff.mp f2
    have hN : ∀ b ∈ D :: as, H1 b = none := fun b hb => (List.mem_cons.mp hb).elim (fun z => by rw [z]; exact hD) (e6 b)
    have hP : ∀ b o, PF P F b → H1 b = some o → PF P ((D :: as) ++ F) b := fun b o p e => ⟨p.1, fun z => (List.mem_append.mp z).elim (fun q => by rw [hN b q] at e; cases e) p.2⟩
    obtain ⟨i1, i2⟩ := itm _ hP
    have e2' := s3 _ _ e2
    have rD : RX X P ((D :: as) ++ F) ρ σ H3 := R.moreL r1 hN (s2.trans s3) fun b hb => (List.mem_cons.mp hb).elim (fun z => by rw [z]; exact ⟨_, e2', rfl⟩) fun z => by
      obtain ⟨o, m1, m2⟩ := NewRow.isM e7 b z
      exact ⟨o, s3 _ _ m1, m2⟩
    refine gT_run (own := own) (rD.wipe own) i1 b1 (.inl hin) (fun σ2 r2 hl2 hw => ⟨(hw hin).trans ?_, P, (D :: as) ++ F, ρ', c, r2, b2, fun H4 s4 => ?_⟩) fun j hj => i2 (hp j hj)
    · refine wipe_eq (wipe_length _ _) fun j hj => wipe_out hj
    · have s34 := s3.trans s4
      have row4 : Paired (NewRow X.K H4 (PF P F) (D :: as)) as rss := NewRow.mono (.of_same s34) (fun c o _ n => n) (fun b _ o e => s34 _ _ e) e7
      cases c with
      | false =>
        have f2' : some none = some r' := f2
        cases f2'
        dsimp only
        rw [if_neg Bool.false_ne_true]
        exact ⟨s2.trans s34, as, rss, by rw [f3]; simp, s4 _ _ e2', by omega, e4, e5, e6, row4⟩
      | true =>
        have f2' : (evE cf elt false ρ').map some = some r' := f2
        obtain ⟨dv, b3, rfl⟩ := Option.map_eq_some_iff.mp f2'
        dsimp only
        rw [if_pos rfl]
        obtain ⟨xs, hxs⟩ : ∃ xs, dv = .list xs := by
          obtain ⟨t, ht⟩ := lcF_pre k2 f3
          have : dv ∈ dss.map PyData.list := by rw [ht]; simp
          obtain ⟨xs, _, e⟩ := List.mem_map.mp this
          exact ⟨xs, e.symm⟩
        subst hxs
        refine rd_in (r2.same s4) b3 fun v H5 s5 r5 da fr => ?_
        obtain ⟨p, vs, ds', g1, g2, g3, g4, g5, g6⟩ := (fr hf _ rfl).ex
        cases g2
        subst g1
        have eD : H5 D = some (.lst (as.map V.ref)) := s5 _ _ (s4 _ _ e2')
        have pD : p ≠ D := fun z => by rw [z, s4 _ _ e2'] at g3; cases g3
        have pas : p ∉ as := fun z => by
          obtain ⟨o, m1, m2⟩ := NewRow.isM row4 p z
          rw [m1] at g3
          cases g3
        have h1p : H1 p = none := s2.free (s34.free g3)
        refine ⟨as.map V.ref, eD, by rw [List.length_map]; omega, ?_⟩
        have row5 : Paired (NewRow X.K H5 (PF P F) (D :: (as ++ [p]))) as rss := NewRow.mono (.of_same s5) (fun c o e n z => by
          rcases List.mem_cons.mp z with z | z
          · exact n (by rw [z]; exact List.mem_cons_self)
          · rcases List.mem_append.mp z with z | z
            · exact n (List.mem_cons_of_mem _ z)
            · rw [List.mem_singleton.mp z, g3] at e; cases e) (fun b _ o e => s5 _ _ e) row4
        have new5 : NewRow X.K H5 (PF P F) (D :: (as ++ [p])) p xs := ⟨vs, g4, g5, g6.weak fun c o q e => ⟨⟨q.1.1, fun z => q.1.2 (List.mem_append_right _ z)⟩, fun z => by
          rcases List.mem_cons.mp z with z | z
          · exact q.1.2 (by rw [z]; simp)
          · rcases List.mem_append.mp z with z | z
            · exact q.1.2 (by simp [z])
            · exact q.2 (List.mem_singleton.mp z)⟩⟩
        have kk : Keeps (fun c => PF P F c ∧ c ∉ D :: (as ++ [p])) H5 (upd H5 D (.lst (as.map V.ref ++ [.ref p]))) := ⟨fun b o p e => by rw [upd_ne fun z => p.2 (by rw [z]; exact List.mem_cons_self)]; exact e,
          fun b o u e => by rw [upd_ne fun z => by rw [z, eD] at e; cases e]; exact e⟩
        have nd : (as ++ [p]).Nodup := List.nodup_append.mpr ⟨e4, by simp, fun a ha b hb => by rw [List.mem_singleton.mp hb]; exact fun z => pas (by rw [← z]; exact ha)⟩
        have nD : D ∉ as ++ [p] := fun z => (List.mem_append.mp z).elim e5 fun z => pD (List.mem_singleton.mp z).symm
        refine ⟨fun b o e => ?_, as ++ [p], rss ++ [xs], by rw [f3]; simp, by rw [List.map_append]; exact upd_same, by rw [List.length_append]; simp; omega, nd, nD, fun b hb => (List.mem_append.mp hb).elim (e6 b) fun z => by rw [List.mem_singleton.mp z]; exact h1p,
          NewRow.mono kk (fun c o _ n => n) (fun b hb o e => by rw [upd_ne fun z => nD (by rw [← z]; exact hb)]; exact e) (paired_snoc new5 row5)⟩
        rw [upd_ne (ne_of_none e hD)]
        exact s5 _ _ (s4 _ _ (s3 _ _ (s2 _ _ e)))
  · obtain ⟨s2, as, rss, e1, e2, e3, e4, e5, e6, e7⟩ := p
    rw [List.take_length, k2] at e1
    have e1' : dss = rss := map_list_inj (Option.some.inj e1)
    subst e1'
    refine q _ H2 (s1.trans s2) ⟨D, as, rfl, s1.free hD, fun b hb => s1.free (e6 b hb), e4, e5, e2, by omega, e7⟩
end
end Bw

/-! Bw, part N: right-hand sides, statements. -/
namespace Bw
open PySem PySem.Spec PyProof.Rows L2

/-! ### views -/
def vAsg : Stmt → Option (Expr × Expr × Pos) | .Assign [t] e p => some (t, e, p) | _ => none
def vAug : Stmt → Option (Expr × Operator × Expr) | .AugAssign t o e _ => some (t, o, e) | _ => none
def vExpr : Stmt → Option (Expr × Pos) | .Expr e p => some (e, p) | _ => none
def vRet : Stmt → Option Expr | .Return (some e) _ => some e | _ => none
def vIfS : Stmt → Option (Expr × List Stmt × List Stmt) | .If c a b _ => some (c, a, b) | _ => none
def vFor : Stmt → Option (Expr × Expr × List Stmt) | .For t i b [] _ => some (t, i, b) | _ => none
def vWhl : Stmt → Option (Expr × List Stmt) | .While c b [] _ => some (c, b) | _ => none
def vNameP : Expr → Option (Str × Pos) | .Name x p => some (x, p) | _ => none
def vDict0 : Expr → Bool | .Dict [] [] _ => true | _ => false
section
variable {st : Stmt} {e : Expr}
theorem vAsg_of {t e : Expr} {p : Pos} (h : vAsg st = some (t, e, p)) : st = .Assign [t] e p := by
  unfold vAsg at h
  split at h
  · cases h; rfl
  · cases h
theorem vAug_of {t e : Expr} {o : Operator} (h : vAug st = some (t, o, e)) : ∃ p, st = .AugAssign t o e p := by
  unfold vAug at h
  split at h
  · cases h; exact ⟨_, rfl⟩
  · cases h
theorem vExpr_of {e : Expr} {p : Pos} (h : vExpr st = some (e, p)) : st = .Expr e p := by
  unfold vExpr at h
  split at h
  · cases h; rfl
  · cases h
theorem vRet_of {e : Expr} (h : vRet st = some e) : ∃ p, st = .Return (some e) p := by
  unfold vRet at h
  split at h
  · cases h; exact ⟨_, rfl⟩
  · cases h
theorem vIfS_of {c : Expr} {a b : List Stmt} (h : vIfS st = some (c, a, b)) : ∃ p, st = .If c a b p := by
  unfold vIfS at h
  split at h
  · cases h; exact ⟨_, rfl⟩
  · cases h
theorem vFor_of {t i : Expr} {b : List Stmt} (h : vFor st = some (t, i, b)) : ∃ p, st = .For t i b [] p := by
  unfold vFor at h
  split at h
  · cases h; exact ⟨_, rfl⟩
  · cases h
theorem vWhl_of {c : Expr} {b : List Stmt} (h : vWhl st = some (c, b)) : ∃ p, st = .While c b [] p := by
  unfold vWhl at h
  split at h
  · cases h; exact ⟨_, rfl⟩
  · cases h
theorem vNameP_of {x : Str} {p : Pos} (h : vNameP e = some (x, p)) : e = .Name x p := by
  unfold vNameP at h
  split at h
  · cases h; rfl
  · cases h
theorem vDict0_of (h : vDict0 e = true) : ∃ p, e = .Dict [] [] p := by
  unfold vDict0 at h
  split at h
  · exact ⟨_, rfl⟩
  · cases h
end

/-! ### right-hand sides -/
def rdR (X : Cx) (cf : Nat → List D → Option RV) (c : Rh) : TE := fun σ H Q => ∃ P F ρ s, RX X P F ρ σ H ∧ evR cf c ρ = some s ∧ ∀ v H', Same H H' → NewS X.prog X.w X.K H H' (PF P F) v s → Q v H'
/-- a comprehension of new lists -/
def lcFr : E → Bool
  | .lc _ _ _ _ elt => freshE elt
  | _ => false
section
variable (g : G) (N : List Str)
def cR : Rh → Scope → Expr → Bool
  | .d e, sc, v => cE g N e sc v
  | .o e, sc, v => freshE e && cE g N e sc v
  | .dnew _, _, v => vDict0 v
  | .ow f es, sc, v => match vCall v with
    | some (x, e1 :: vs) => decide (g.gn f = some x) && glB sc x && !(x == ("__debug__" : Str)) && cEs g N es sc (e1 :: vs)
    | _ => false
  | .m e, sc, v => lcFr e && cE g N e sc v && (vLc v).isSome
  | _, _, _ => false
end
def cRs (g : G) (N : List Str) : Rhs → Scope → List Expr → Bool
  | .nil, _, [] => true
  | .cons _ r rs, sc, e :: es => nStar e && cR g N r sc e && cRs g N rs sc es
  | _, _, _ => false
def idxs : Rhs → List Nat
  | .nil => []
  | .cons i _ rs => i :: idxs rs
section
variable {g : G} {cf : Nat → List D → Option RV} {sc : Scope} {X : Cx} {P : Addr → Prop} {F : List Addr} {ρ : Env} {σ : L2.St} {H : Hp} {t : Expr}
theorem okR (G : Gd g cf sc X) {c : Rh} {e : Expr} (h : cR g X.N c sc e = true) : PE X e (rdR X cf c) := by
  cases c with
  | d c =>
    refine ((okE c G h).pe false).mono fun σ H Q ⟨P, F, ρ, s, r, ev, q⟩ => ?_
    obtain ⟨d, k1, rfl⟩ := Option.map_eq_some_iff.mp ev
    exact rd_in r k1 fun v H' sm r' da _ => q v H' sm da
  | o c =>
    simp only [cR, Bool.and_eq_true] at h
    refine ((okE c G h.2).pe false).mono fun σ H Q ⟨P, F, ρ, s, r, ev, q⟩ => ?_
    obtain ⟨d, k1, ev⟩ := Option.bind_eq_some_iff.mp ev
    cases d <;> try (simp at ev; done)
    cases ev
    exact rd_in r k1 fun v H' sm r' da fr => q v H' sm (fr h.1 _ rfl)
  | dnew nest =>
    obtain ⟨p, rfl⟩ := vDict0_of h
    refine (pe_dnew nest).mono fun σ H Q ⟨P, F, ρ, s, r, ev, q⟩ p H' np sm mu dc ne => ?_
    cases ev
    exact q _ H' sm ⟨p, rfl, np, dc _⟩
  | ow f es =>
    simp only [cR] at h
    split at h
    · rename_i x e1 vs hv
      obtain ⟨p, q, rfl⟩ := vCall_of hv
      simp only [Bool.and_eq_true, decide_eq_true_eq, Bool.not_eq_true'] at h
      obtain ⟨⟨⟨hx, hg⟩, hd⟩, h4⟩ := h
      have hs := cEs_star h4
      obtain ⟨k, f', fd, ps, h1, h2, h3, h4', h5, h6⟩ := G.fn f x hx
      simp only [List.all_cons, Bool.and_eq_true] at hs
      refine (pe_call h5 h4' (G.rel.gl x hg) h1 h2 h3 .nil pass0 (okEs es G h4).pa hd (star_cons hs.1) (back_any hs.2)).mono fun σ H Q ⟨P, F, ρ, s, r, ev, qq⟩ => ?_
      obtain ⟨ds, k1, ev⟩ := Option.bind_eq_some_iff.mp ev
      obtain ⟨rv, k2, ev⟩ := Option.bind_eq_some_iff.mp ev
      refine rds_in r k1 fun vs H1 s1 r1 dl => ?_
      show spF X.prog X.w X.K cf f ps.length (vs ++ []) H1 Q E0
      rw [List.append_nil]
      refine ⟨by rw [dl.length]; exact h6 ds rv k2, PF P F, ds, rv, r1.pf, dl, k2, fun v H2 s2 rep => ?_⟩
      cases rv with
      | dat d' => cases ev
      | own ds' =>
        cases ev
        exact qq v H2 (s1.trans s2) (Fresh.back s1 rep)
      | dct n kvs =>
        cases ev
        obtain ⟨a, e1, e2, e3⟩ := rep
        exact qq v H2 (s1.trans s2) ⟨a, e1, s1.free e2, e3⟩
    · cases h
  | m c =>
    simp only [cR, Bool.and_eq_true] at h
    obtain ⟨⟨h0, h⟩, _⟩ := h
    cases c <;> try (simp [lcFr] at h0; done)
    rename_i own tg it cond elt
    have hf : freshE elt = true := h0
    unfold cE at h
    split at h
    · rename_i e1 t i ifs s hv
      obtain ⟨p, rfl⟩ := vLc_of hv
      simp only [Bool.and_eq_true] at h
      obtain ⟨⟨⟨⟨⟨⟨h1, h2⟩, h3⟩, h4⟩, h5⟩, h6⟩, h7⟩ := h
      refine (pe_lc (own := ownP X.N own) (g := gT X.K tg) (tt := rdCond X cf cond) (te := rdE X cf false elt) G.calm G.nd ((okI it G h5).pi true) (blkOk_rel G.rel h1) (fun s' H' C cl fp => tg_pg (G.blk s' H' C cl fp) h4)
        (fun s' H' C cl fp => okC cond (G.blk s' H' C cl fp) h6) (fun s' H' C cl fp => (okE elt (G.blk s' H' C cl fp) h7).pe false) (no_fold h3)).mono fun σ H Q ⟨P, F, ρ, s, r, ev, q⟩ => ?_
      rw [ownP_snd]
      obtain ⟨d, k1, ev⟩ := Option.bind_eq_some_iff.mp ev
      cases d <;> try (simp at ev; done)
      obtain ⟨dss, k2, rfl⟩ := Option.map_eq_some_iff.mp ev
      have := lists_map k2
      subst this
      exact lc_mainM h2 r k1 (pair_no h4 h5) hf q
    · cases h
  | dc nest own tg it cond k v => cases h

/-! several of them -/
theorem R.pre {prog : Program} {w : World} {K : W.Frag} {L : Env} {M : L2.St} (r : R prog w K P F (ρ ++ L) (σ ++ M) H) (hl : σ.length = ρ.length) : R prog w K P F ρ σ H :=
  r.remap id hl (fun i s e => by
    have hi : i < ρ.length := (List.getElem?_eq_some_iff.mp e).1
    exact ⟨by rw [id, List.getElem?_append_left hi]; exact e, by rw [id, List.getElem?_append_left (by omega)]⟩) fun i j _ _ ne _ _ => ne
theorem R.push {prog : Program} {w : World} {K : W.Frag} {H1 : Hp} {v : V} {s : SV} (r : R prog w K P F ρ σ H) (sm : Same H H1) (n : NewS prog w K H H1 (PF P F) v s) :
    ∃ F', R prog w K P F' (ρ ++ [some s]) (σ ++ [some v]) H1 ∧ Go F H F' H1 := by
  have hl := r.len
  have r0 : R prog w K P F (ρ ++ [none]) (σ ++ [none]) H := r.remap id (by rw [List.length_append, List.length_append, hl]; rfl) (fun i t e => by
    by_cases hi : i < ρ.length
    · rw [List.getElem?_append_left hi] at e
      exact ⟨e, by rw [id, List.getElem?_append_left (by omega)]⟩
    · rw [List.getElem?_append_right (by omega)] at e
      cases hk : i - ρ.length with
      | zero => rw [hk] at e; cases e
      | succ k => rw [hk] at e; cases e) fun i j _ _ ne _ _ => ne
  obtain ⟨F', r1, go⟩ := R.new (i := ρ.length) r0 sm n
  refine ⟨F', ?_, go⟩
  have e1 : (ρ ++ [none]).set ρ.length (some s) = ρ ++ [some s] := by simp
  have e2 : (σ ++ [none]).set ρ.length (some v) = σ ++ [some v] := by rw [← hl]; simp
  rw [e1, e2] at r1
  exact r1
def rdRs (X : Cx) (cf : Nat → List D → Option RV) (c : Rhs) : TA := fun σ H Q => ∃ P F ρ L M xs, RX X P F (ρ ++ L) (σ ++ M) H ∧ σ.length = ρ.length ∧ evRs cf c ρ = some xs ∧
  ∀ vs H' F', Go F H F' H' → Same H H' → vs.length = xs.length → RX X P F' (ρ ++ L ++ xs.map fun x => some x.2) (σ ++ M ++ vs.map some) H' → Q vs H'
theorem okRs (G : Gd g cf sc X) : ∀ {c : Rhs} {es : List Expr}, cRs g X.N c sc es = true → PA X es (rdRs X cf c)
  | .nil, [], _ => pa_nil.mono fun σ H Q ⟨P, F, ρ, L, M, xs, r, hl, ev, q⟩ => by
    cases ev
    exact q [] H F Go.refl (Same.refl _) rfl (by simpa using r)
  | .nil, _ :: _, h => by simp [cRs] at h
  | .cons _ _ _, [], h => by simp [cRs] at h
  | .cons i c cs, e :: es, h => by
    simp only [cRs, Bool.and_eq_true] at h
    refine (pa_cons (okR G h.1.2) (okRs G h.2) (star_cons h.1.1)).mono fun σ H Q ⟨P, F, ρ, L, M, xs, r, hl, ev, q⟩ => ?_
    unfold evRs at ev
    obtain ⟨x, k1, ev⟩ := Option.bind_eq_some_iff.mp ev
    obtain ⟨xs', k2, rfl⟩ := Option.map_eq_some_iff.mp ev
    refine ⟨P, F, ρ, x, r.pre hl, k1, fun v H1 s1 n => ?_⟩
    obtain ⟨F1, r1, g1⟩ := r.push s1 n
    refine ⟨P, F1, ρ, L ++ [some x], M ++ [some v], xs', by simpa using r1, hl, k2, fun vs H2 F2 g2 s2 hl2 r2 => ?_⟩
    exact q (v :: vs) H2 F2 (g1.trans g2) (s1.trans s2) (by simp [hl2]) (by simpa using r2)
theorem get_mid {α : Type} (A : List α) (x : α) (T : List α) (k : Nat) : (A ++ x :: T)[k]? = if k < A.length then A[k]? else if k = A.length then some x else T[k - A.length - 1]? := by
  by_cases h : k < A.length
  · rw [if_pos h, List.getElem?_append_left h]
  · rw [if_neg h, List.getElem?_append_right (by omega)]
    by_cases h2 : k = A.length
    · rw [if_pos h2, h2, Nat.sub_self]
      rfl
    · rw [if_neg h2]
      obtain ⟨m, hm⟩ : ∃ m, k - A.length = m + 1 := ⟨k - A.length - 1, by omega⟩
      rw [hm]
      rfl
/-- the first of what waits goes to its slot -/
theorem R.take1 {prog : Program} {w : World} {K : W.Frag} {s : SV} {v : V} {T : Env} {U : L2.St} {i : Nat} (r : R prog w K P F (ρ ++ some s :: T) (σ ++ some v :: U) H) (hl : σ.length = ρ.length) (hi : i < ρ.length) :
    R prog w K P F (ρ.set i (some s) ++ none :: T) (σ.set i (some v) ++ none :: U) H := by
  have hlen := r.len
  simp only [List.length_append, List.length_cons] at hlen
  refine r.remap (fun k => if k = i then ρ.length else k) (by simp; omega) (fun k t e => ?_) fun k j t u ne e1 e2 => ?_
  · rw [get_mid, List.length_set] at e
    rw [get_mid, get_mid, get_mid, List.length_set, hl]
    show _ ∧ _
    by_cases hk : k < ρ.length
    · rw [if_pos hk] at e
      rw [if_pos hk]
      by_cases hki : k = i
      · subst hki
        rw [List.getElem?_set_self hk] at e
        cases e
        simp only [if_true, Nat.lt_irrefl, if_false]
        rw [List.getElem?_set_self (by omega)]
        exact ⟨trivial, by first | rfl | trivial⟩
      · rw [List.getElem?_set_ne (Ne.symm hki)] at e
        rw [List.getElem?_set_ne (Ne.symm hki)]
        simp only [if_neg hki, if_pos hk]
        exact ⟨e, trivial⟩
    · rw [if_neg hk] at e
      have hki : k ≠ i := fun z => hk (z ▸ hi)
      by_cases h2 : k = ρ.length
      · rw [if_pos h2] at e
        cases e
      · rw [if_neg h2] at e
        simp only [if_neg hki, if_neg hk, if_neg h2]
        exact ⟨e, trivial⟩
  · rw [get_mid, List.length_set] at e1 e2
    have no : ∀ {k : Nat} {t : SV}, (if k < ρ.length then (ρ.set i (some s))[k]? else if k = ρ.length then some none else T[k - ρ.length - 1]?) = some (some t) → k ≠ ρ.length := fun {k t} e z => by
      subst z
      rw [if_neg (Nat.lt_irrefl _), if_pos rfl] at e
      cases e
    have n1 := no e1
    have n2 := no e2
    show (if k = i then ρ.length else k) ≠ (if j = i then ρ.length else j)
    split <;> split <;> omega
end
end Bw

/-! Bw, part O: statements, one by one. -/
namespace Bw
open PySem PySem.Spec PyProof.Rows L2

def RV.sv : RV → SV
  | .dat d => .dat d | .own ds => .own ds | .dct n kvs => .dct n kvs
/-- what is wanted behind a statement, by what it comes to -/
def Fin (X : Cx) (P : Addr → Prop) (F : List Addr) (H : Hp) (D : Ends) : Out → Prop
  | .nx ρ' => ∀ σ' H' F', RX X P F' ρ' σ' H' → Go F H F' H' → D.nx σ' H'
  | .rt r _ => ∀ v H' F', RepS X.prog X.w X.K P F' H' v r.sv → Go F H F' H' → D.rt v H'
theorem Fin.go {X : Cx} {P : Addr → Prop} {F F1 : List Addr} {H H1 : Hp} {D : Ends} {o : Out} (f : Fin X P F H D o) (g : Go F H F1 H1) : Fin X P F1 H1 D o := by
  cases o with
  | nx ρ' => exact fun σ' H' F' r q => f σ' H' F' r (g.trans q)
  | rt r ρ' => exact fun v H' F' r q => f v H' F' r (g.trans q)
def rdS (X : Cx) (cf : Nat → List D → Option RV) (M : Nat) (c : S) : TS := fun D σ H => ∃ P F ρ o, RX X P F ρ σ H ∧ evS cf M c ρ = some o ∧ Fin X P F H D o
def rdSs (X : Cx) (cf : Nat → List D → Option RV) (M : Nat) (c : Ss) : TS := fun D σ H => ∃ P F ρ o, RX X P F ρ σ H ∧ evSs cf M c ρ = some o ∧ Fin X P F H D o
theorem _root_.L2.PS.mono {X : Cx} {e : Stmt} {t t' : TS} (h : PS X e t) (m : ∀ D σ H, t' D σ H → t D σ H) : PS X e t' := ⟨fun pins s σ H D I q => h.run pins s σ H D I (m _ _ _ q)⟩
theorem _root_.L2.PSs.mono {X : Cx} {e : List Stmt} {t t' : TS} (h : PSs X e t) (m : ∀ D σ H, t' D σ H → t D σ H) : PSs X e t' := ⟨fun pins s σ H D I q => h.run pins s σ H D I (m _ _ _ q)⟩

def swF (sc : Scope) (x : Str) (px : Pos) : Expr → Bool
  | .ListComp _ _ _ p => decide (sc.names.lookup x = some .cell) || !(px.line == p.line)
  | e => nComp e
def swT (sc : Scope) (x : Str) (px : Pos) : Expr → Bool
  | .ListComp _ _ s p => decide (sc.names.lookup x = some .local) && (px.line == p.line) && !(s.names.any fun (n, k) => n == x && (k == .local || k == .cell))
  | _ => false
section
variable {g : G} {cf : Nat → List D → Option RV} {M : Nat} {sc : Scope} {X : Cx} {P : Addr → Prop} {F : List Addr} {ρ : Env} {σ : L2.St} {H : Hp} {t : Expr}
theorem sw_false (G : Gd g cf sc X) {x : Str} {px : Pos} {e : Expr} {l : Nat} (h : swF sc x px e = true) : swapsWith e (some (.Name x px)) l X.env = pure false := by
  unfold swF at h
  split at h
  · rename_i elt gs s p
    have key : (X.env.blockKind == .function && X.env.kindOf x == some .local && px.line == p.line && !(s.names.any fun (n, k) => n == x && (k == .local || k == .cell))) = false := by
      rw [Bool.or_eq_true] at h
      rcases h with h | h
      · have hk : (X.env.kindOf x == some NameKind.local) = false := by
          rcases G.rel.cf x (.inl (of_decide_eq_true h)) with z | z <;> (show (X.env.scope.names.lookup x == some NameKind.local) = false; rw [z]; rfl)
        rw [hk]
        simp
      · rw [Bool.not_eq_true'] at h
        rw [h]
        simp
    show (pure _ : Sem Bool) = _
    exact congrArg _ key
  · exact no_swap h
theorem sS_set (G : Gd g cf sc X) {i : Nat} {c : Rh} {x : Str} {px p : Pos} {e : Expr} (hN : X.N[i]? = some x) (hl : locB sc x = true) (hsw : swF sc x px e = true) (h : cR g X.N c sc e = true) : PS X (.Assign [.Name x px] e p) (rdS X cf M (.asg i c)) := by
  refine (ps_set G.nd hN (G.rel.loc x hl) (okR G h) (sw_false G hsw) (G.fs x hl)).mono fun D σ H ⟨P, F, ρ, o, r, ev, q⟩ => ?_
  unfold evS at ev
  obtain ⟨s, k1, rfl⟩ := Option.map_eq_some_iff.mp ev
  refine ⟨P, F, ρ, s, r, k1, fun v H' sm n => ?_⟩
  obtain ⟨F', r', go⟩ := r.new (i := i) sm n
  exact q _ H' F' r' go
def lcOf : Rh → Option E
  | .d (.lc own tg it cond elt) => some (.lc own tg it cond elt)
  | .o (.lc own tg it cond elt) => some (.lc own tg it cond elt)
  | .m (.lc own tg it cond elt) => some (.lc own tg it cond elt)
  | _ => none
theorem sS_setLc (G : Gd g cf sc X) {i : Nat} {c : Rh} {x : Str} {px p : Pos} {e : Expr} (hN : X.N[i]? = some x) (hsw : swT sc x px e = true) (hc : (lcOf c).isSome = true) (hR : cR g X.N c sc e = true) : PS X (.Assign [.Name x px] e p) (rdS X cf M (.asg i c)) := by
  obtain ⟨own, tg, it, cond, elt, hcc, h⟩ : ∃ own tg it cond elt, (c = .d (.lc own tg it cond elt) ∨ c = .o (.lc own tg it cond elt) ∨ (c = .m (.lc own tg it cond elt) ∧ freshE elt = true)) ∧ cE g X.N (.lc own tg it cond elt) sc e = true := by
    unfold lcOf at hc
    split at hc
    · exact ⟨_, _, _, _, _, .inl rfl, hR⟩
    · exact ⟨_, _, _, _, _, .inr (.inl rfl), by simpa [cR, freshE] using hR⟩
    · simp only [cR, Bool.and_eq_true, lcFr] at hR
      exact ⟨_, _, _, _, _, .inr (.inr ⟨rfl, hR.1.1⟩), hR.1.2⟩
    · cases hc
  clear hR
  unfold cE at h
  split at h
  · rename_i e1 t i' ifs s hv
    obtain ⟨p', rfl⟩ := vLc_of hv
    simp only [Bool.and_eq_true] at h
    obtain ⟨⟨⟨⟨⟨⟨h1, h2⟩, h3⟩, h4⟩, h5⟩, h6⟩, h7⟩ := h
    simp only [swT, Bool.and_eq_true, decide_eq_true_eq, Bool.not_eq_true'] at hsw
    obtain ⟨⟨w1, w2⟩, w3⟩ := hsw
    have hy := G.rel.locL x w1
    refine ⟨fun pins st σ H D I ⟨P, F, ρ, o, r, ev, q⟩ => ?_⟩
    refine (ps_setLc (own := ownP X.N own) (g := gT X.K tg) (tt := rdCond X cf cond) (te := rdE X cf false elt) G.calm G.nd hN hy (sw_true I.ok.kind hy w2 w3) ((okI it G h5).pi true) (blkOk_rel G.rel h1) (fun s' H' C cl fp => tg_pg (G.blk s' H' C cl fp) h4)
      (fun s' H' C cl fp => okC cond (G.blk s' H' C cl fp) h6) (fun s' H' C cl fp => (okE elt (G.blk s' H' C cl fp) h7).pe false) (no_fold h3)).run pins st σ H D I ?_
    rw [ownP_snd]
    unfold evS at ev
    obtain ⟨sv, k1, rfl⟩ := Option.map_eq_some_iff.mp ev
    show tLc _ _ _ _ _ σ H _
    rcases hcc with rfl | rfl | ⟨rfl, hf⟩
    · obtain ⟨d, k2, rfl⟩ := Option.map_eq_some_iff.mp k1
      refine lc_main h2 r k2 (pair_no h4 h5) fun v H' sm fr => ?_
      obtain ⟨F', r', go⟩ := r.new (i := i) (s := .dat d) sm (Fresh.da fr r.pf)
      exact q _ H' F' r' go
    · obtain ⟨d, k2, k3⟩ := Option.bind_eq_some_iff.mp k1
      cases d <;> try (simp at k3; done)
      cases k3
      refine lc_main h2 r k2 (pair_no h4 h5) fun v H' sm fr => ?_
      obtain ⟨F', r', go⟩ := r.new (i := i) (s := .own _) sm fr
      exact q _ H' F' r' go
    · obtain ⟨d, k2, k3⟩ := Option.bind_eq_some_iff.mp k1
      cases d <;> try (simp at k3; done)
      obtain ⟨dss, k4, rfl⟩ := Option.map_eq_some_iff.mp k3
      have := lists_map k4
      subst this
      refine lc_mainM h2 r k2 (pair_no h4 h5) hf fun v H' sm fr => ?_
      obtain ⟨F', r', go⟩ := r.new (i := i) (s := .mat _) sm fr
      exact q _ H' F' r' go
  · cases h
def lc2Of : Rh → Bool
  | .d (.lc2 ..) => true
  | .o (.lc2 ..) => true
  | _ => false
theorem sS_setLc2 (G : Gd g cf sc X) {i : Nat} {c : Rh} {x : Str} {px p : Pos} {e : Expr} (hN : X.N[i]? = some x) (hsw : swT sc x px e = true) (hc : lc2Of c = true) (hR : cR g X.N c sc e = true) : PS X (.Assign [.Name x px] e p) (rdS X cf M (.asg i c)) := by
  obtain ⟨own, own1, tg, it, cond, tg1, it1, cond1, elt, hcc, h⟩ : ∃ own own1 tg it cond tg1 it1 cond1 elt, (c = .d (.lc2 own own1 tg it cond tg1 it1 cond1 elt) ∨ c = .o (.lc2 own own1 tg it cond tg1 it1 cond1 elt)) ∧ cE g X.N (.lc2 own own1 tg it cond tg1 it1 cond1 elt) sc e = true := by
    unfold lc2Of at hc
    split at hc
    · exact ⟨_, _, _, _, _, _, _, _, _, .inl rfl, hR⟩
    · exact ⟨_, _, _, _, _, _, _, _, _, .inr rfl, by simpa [cR, freshE] using hR⟩
    · cases hc
  clear hR
  unfold cE at h
  split at h
  · rename_i e1 t i' ifs t1 i1 ifs1 s hv
    obtain ⟨p', rfl⟩ := vLc2_of hv
    simp only [Bool.and_eq_true] at h
    obtain ⟨⟨⟨⟨⟨⟨⟨⟨⟨⟨⟨⟨h1, h2⟩, h3⟩, h4⟩, h5⟩, h6⟩, h7⟩, h8⟩, h9⟩, h10⟩, h11⟩, h12⟩, h13⟩ := h
    have hsub' : ∀ j ∈ own1, j ∈ own := fun j hj => List.contains_iff_mem.mp (List.all_eq_true.mp h4 j hj)
    simp only [swT, Bool.and_eq_true, decide_eq_true_eq, Bool.not_eq_true'] at hsw
    obtain ⟨⟨w1, w2⟩, w3⟩ := hsw
    have hy := G.rel.locL x w1
    refine ⟨fun pins st σ H D I ⟨P, F, ρ, o, r, ev, q⟩ => ?_⟩
    refine (ps_setLc2 (own := ownP X.N own) (vs1 := own1) (g := gT X.K tg) (tt := rdCond X cf cond) (g1 := gT X.K tg1) (tt1 := rdCond X cf cond1) (wi1 := rdI X cf false it1) (te := rdE X cf false elt) G.calm G.nd hN hy (sw_true I.ok.kind hy w2 w3) ((okI it G h8).pi true) (blkOk_rel G.rel h1) (fun i hi => by rw [ownP_snd]; exact hsub' i hi)
      (fun s' H' C cl fp => tg_pg (G.blk s' H' C cl fp) h7) (fun s' H' C cl fp => okC cond (G.blk s' H' C cl fp) h9) (fun s' H' C cl fp => (okI it1 (G.blk s' H' C cl fp) h11).pi false) (fun s' H' C cl fp => tg_pg (G.blk s' H' C cl fp) h10) (fun s' H' C cl fp => okC cond1 (G.blk s' H' C cl fp) h12)
      (fun s' H' C cl fp => (okE elt (G.blk s' H' C cl fp) h13).pe false) (no_fold h5) (fun env => no_fold (env := env) h6)).run pins st σ H D I ?_
    rw [ownP_snd]
    unfold evS at ev
    obtain ⟨sv, k1, rfl⟩ := Option.map_eq_some_iff.mp ev
    show tLc2 _ _ _ _ _ _ _ _ _ σ H _
    rcases hcc with rfl | rfl
    · obtain ⟨d, k2, rfl⟩ := Option.map_eq_some_iff.mp k1
      refine lc2_main h2 h3 hsub' r k2 (pair_no h7 h8) (pair_no h10 h11) fun v H' sm fr => ?_
      obtain ⟨F', r', go⟩ := r.new (i := i) (s := .dat d) sm (Fresh.da fr r.pf)
      exact q _ H' F' r' go
    · obtain ⟨d, k2, k3⟩ := Option.bind_eq_some_iff.mp k1
      cases d <;> try (simp at k3; done)
      cases k3
      refine lc2_main h2 h3 hsub' r k2 (pair_no h7 h8) (pair_no h10 h11) fun v H' sm fr => ?_
      obtain ⟨F', r', go⟩ := r.new (i := i) (s := .own _) sm fr
      exact q _ H' F' r' go
  · cases h
theorem sw_other {e : Expr} {tg : Expr} {l : Nat} {env : PySem.Env} (h : vName tg = none) : swapsWith e (some tg) l env = pure false := by
  cases tg <;> try (simp [vName] at h; done)
  all_goals cases e <;> rfl
/-! targets that are names: from a tuple -/
def nTup : Expr → Bool | .Tuple .. => false | _ => true
theorem noStores {tg e : Expr} {env : PySem.Env} (h : nTup e = true) : swappedStores [tg] e env = pure none := by
  cases e <;> first | (simp [nTup] at h; done) | (cases tg <;> rfl)
/-- no exchange in place: too many names, or one of them is a cell -/
def noSwapB (sc : Scope) (ts : List Expr) : Bool := !(ts.length == 2 || ts.length == 3) || ts.any fun e => match vName e with | some x => decide (sc.names.lookup x = some .cell) | none => false
theorem filterMap_lt {α β : Type} {f : α → Option β} {a : α} (h : f a = none) : ∀ {l : List α}, a ∈ l → (l.filterMap f).length < l.length
  | b :: l, hb => by
    have le : (l.filterMap f).length ≤ l.length := List.length_filterMap_le f l
    rw [List.filterMap_cons]
    rcases List.mem_cons.mp hb with rfl | hb
    · rw [h]
      simp only [List.length_cons]
      omega
    · have := filterMap_lt h hb
      cases f b <;> simp only [List.length_cons] <;> omega
theorem noStoresT {sc : Scope} {env : PySem.Env} {ts : List Expr} {k : Nat} {tp : Pos} {e : Expr} (cf : ∀ x, sc.names.lookup x = some .cell → env.scope.names.lookup x = some .cell ∨ env.scope.names.lookup x = some .free) (h : noSwapB sc ts = true) : swappedStores [.Tuple ts k tp] e env = pure none := by
  cases e <;> try rfl
  rename_i vs k2 p2
  unfold swappedStores
  simp only [noSwapB, Bool.or_eq_true] at h
  by_cases c1 : (!(ts.length == 2 || ts.length == 3) || vs.length != ts.length || env.blockKind != .function) = true
  · exact if_pos c1
  · refine (if_neg c1).trans ?_
    by_cases c2 : (vs.any fun | .Starred .. => true | _ => false) = true
    · exact if_pos c2
    · refine (if_neg c2).trans (if_pos ?_)
      rcases h with h | h
      · rw [h] at c1
        simp at c1
      · obtain ⟨t, ht, hx⟩ := List.any_eq_true.mp h
        rw [Bool.or_eq_true]
        left
        have : (ts.filterMap fun | .Name id pos => if env.kindOf id == some .local && pos.line == ((ts.head?.map (·.pos.line)).getD 0) then some id else none | _ => none).length < ts.length := by
          refine filterMap_lt ?_ ht
          split at hx
          · rename_i x hv
            obtain ⟨px, rfl⟩ := vName_of hv
            have hk : (env.kindOf x == some NameKind.local) = false := by
              rcases cf x (of_decide_eq_true hx) with z | z <;> (show (env.scope.names.lookup x == some NameKind.local) = false; rw [z]; rfl)
            show (if (env.kindOf x == some NameKind.local && _) = true then some x else none) = none
            rw [hk]
            rfl
          · cases hx
        exact bne_iff_ne.mpr (Nat.ne_of_lt this)
theorem sS_unp (G : Gd g cf sc X) {is : List Nat} {c : E} {ts : List Expr} {k : Nat} {tp p : Pos} {e : Expr} (ht : tgNames X.N sc is ts = true) (hn : (nTup e || noSwapB sc ts) = true) (h : cE g X.N c sc e = true) : PS X (.Assign [.Tuple ts k tp] e p) (rdS X cf M (.unp is c)) := by
  obtain ⟨k1, k2, k3⟩ := names_pgs G ht
  refine (ps_asg ((okE c G h).pe false) (pg_tup (k := k) (pos := tp) G.calm k1 k2 k3) (sw_other (tg := .Tuple ts k tp) (e := e) (l := p.line) (env := X.env) rfl) ((Bool.or_eq_true_iff.mp hn).elim noStores (noStoresT fun x z => G.rel.cf x (.inl z))) rfl).mono fun D σ H ⟨P, F, ρ, o, r, ev, q⟩ => ?_
  unfold evS at ev
  obtain ⟨d, e1, ev⟩ := Option.bind_eq_some_iff.mp ev
  cases d <;> try (simp at ev; done)
  rename_i ds
  obtain ⟨ρ', e2, rfl⟩ := Option.map_eq_some_iff.mp ev
  refine rd_in r e1 fun v H' sm r' da _ => ?_
  refine gT_run (tg := .t is) (own := []) r' (.inl da) e2 (.inr rfl) (fun σ' r2 _ _ => q σ' H' F r2 (Go.of_same sm)) fun i z => by cases z
theorem sS_ret {c : E} {e : Expr} {p : Pos} (G : Gd g cf sc X) (h : cE g X.N c sc e = true) : PS X (.Return (some e) p) (rdS X cf M (.ret c)) := by
  refine (ps_ret ((okE c G h).pe false)).mono fun D σ H ⟨P, F, ρ, o, r, ev, q⟩ => ?_
  unfold evS at ev
  obtain ⟨d, k1, rfl⟩ := Option.map_eq_some_iff.mp ev
  exact rd_in r k1 fun v H' sm r' da _ => q v H' F da (Go.of_same sm)
theorem sS_retO {i : Nat} {e : Expr} {p : Pos} (G : Gd g cf sc X) (h : (match vName e with | some x => nameOk X.N sc i x | none => false) = true) : PS X (.Return (some e) p) (rdS X cf M (.retO i)) := by
  refine (ps_ret (nm_slot G h)).mono fun D σ H ⟨P, F, ρ, o, r, ev, q⟩ => ?_
  unfold evS at ev
  split at ev
  · rename_i ds e1
    cases ev
    obtain ⟨v, h1, h2⟩ := r.rep i _ e1
    exact ⟨v, h1, q v H F h2 Go.refl⟩
  · rename_i n kvs e1
    cases ev
    obtain ⟨v, h1, h2⟩ := r.rep i _ e1
    exact ⟨v, h1, q v H F h2 Go.refl⟩
  · cases ev
theorem sS_ifs {c : E} {a b : Ss} {e : Expr} {la lb : List Stmt} {p : Pos} (hc : PT X e (rdT X cf c)) (ha : PSs X la (rdSs X cf M a)) (hb : PSs X lb (rdSs X cf M b)) : PS X (.If e la lb p) (rdS X cf M (.ifs c a b)) := by
  refine (ps_if hc ha hb).mono fun D σ H ⟨P, F, ρ, o, r, ev, q⟩ => ?_
  unfold evS at ev
  obtain ⟨d, k1, ev⟩ := Option.bind_eq_some_iff.mp ev
  cases d <;> try (simp at ev; done)
  rename_i k
  refine ⟨P, F, ρ, k, r, k1, fun H' sm => ?_⟩
  cases k with
  | true => exact ⟨P, F, ρ, o, r.same sm, ev, q.go (Go.of_same sm)⟩
  | false => exact ⟨P, F, ρ, o, r.same sm, ev, q.go (Go.of_same sm)⟩
theorem sS_whl {c : E} {b : Ss} {e : Expr} {lb : List Stmt} {p : Pos} (hp : PassesOwn (model X.prog X.w) X.A X.env X.xe) (hc : PT X e (rdT X cf c)) (hb : PSs X lb (rdSs X cf M b)) : PS X (.While e lb [] p) (rdS X cf M (.whl c b)) := by
  refine (ps_while hp hc hb).mono fun D σ0 H0 ⟨P, F0, ρ0, o, r0, ev, q⟩ => ?_
  unfold evS at ev
  refine ⟨fun m σ H => ∃ F ρ, RX X P F ρ σ H ∧ Go F0 H0 F H ∧ whlF (fun ρ => evE cf c false ρ) (fun ρ => evSs cf M b ρ) m ρ = some o, ⟨M, F0, ρ0, r0, Go.refl, ev⟩, fun m σ H ⟨F, ρ, r, go, ev⟩ => ?_⟩
  cases m with
  | zero => cases ev
  | succ m =>
    unfold whlF at ev
    obtain ⟨d, k1, ev⟩ := Option.bind_eq_some_iff.mp ev
    cases d <;> try (simp at ev; done)
    rename_i k
    refine ⟨P, F, ρ, k, r, k1, fun H' sm => ?_⟩
    have go' := go.trans (Go.of_same sm)
    cases k with
    | false =>
      cases ev
      exact iteF (q σ H' F (r.same sm) go')
    | true =>
      obtain ⟨o1, k2, ev⟩ := Option.bind_eq_some_iff.mp (show (evSs cf M b ρ).bind _ = some o from ev)
      refine iteT ⟨fun σ' H' => ∃ F ρ, RX X P F ρ σ' H' ∧ Go F0 H0 F H' ∧ whlF (fun ρ => evE cf c false ρ) (fun ρ => evSs cf M b ρ) m ρ = some o, fun σ' H' z => ⟨m, Nat.lt_succ_self m, z⟩, P, F, ρ, o1, r.same sm, k2, ?_⟩
      cases o1 with
      | nx ρ1 => exact fun σ1 H1 F1 r1 g1 => ⟨F1, ρ1, r1, go'.trans g1, ev⟩
      | rt rv ρ1 =>
        cases ev
        exact fun v H1 F1 r1 g1 => q v H1 F1 r1 (go'.trans g1)
theorem forF_at {f : D → Env → Option Out} : ∀ {ds : List D} {i : Nat} {d : D}, ds[i]? = some d → ∃ rest, ds.drop i = d :: rest ∧ ds.drop (i + 1) = rest
  | [], _, _, h => by simp at h
  | x :: xs, 0, _, h => by simp at h; subst h; exact ⟨xs, rfl, rfl⟩
  | x :: xs, i + 1, _, h => by
    obtain ⟨r, h1, h2⟩ := forF_at (f := f) (ds := xs) (i := i) (by simpa using h)
    exact ⟨r, by simpa using h1, by simpa using h2⟩
theorem sS_fr {tg : Tg} {it : I} {b : Ss} {te ie : Expr} {lb : List Stmt} {p : Pos} (G : Gd g cf sc X) (hp : PassesOwn (model X.prog X.w) X.A X.env X.xe) (ht : cTg X.N sc tg te = true) (hi : cI g X.N it sc te ie = true) (hs : nSet ie = true) (hb : PSs X lb (rdSs X cf M b)) :
    PS X (.For te ie lb [] p) (rdS X cf M (.fr tg it b)) := by
  refine (ps_for hp G.calm ((okI it G hi).pi false) (tg_pg G ht) hb (no_fold hs)).mono fun D σ H ⟨P, F0, ρ0, o, r0, ev, q⟩ => ?_
  unfold evS at ev
  obtain ⟨ds, k1, ev⟩ := Option.bind_eq_some_iff.mp ev
  refine ⟨P, F0, ρ0, ds, r0, k1, fun J H1 s1 hl wk => ?_⟩
  have r1 := r0.same s1
  refine for_it wk (fun i σ H2 => ∃ F ρ, RX X P F ρ σ H2 ∧ Go F0 H1 F H2 ∧ forF (fun d ρ => (bindT tg d ρ).bind fun ρ' => evSs cf M b ρ') (ds.drop i) ρ = some o) ⟨F0, ρ0, r1, Go.refl, ev⟩
    (fun i σ H2 hi ⟨F, ρ, r, go, _⟩ => r1.keeps go.step) (fun i x σ H2 H3 hi z y => ?_) fun σ H2 ⟨F, ρ, r, go, ev⟩ => ?_
  · obtain ⟨F, ρ, r, go, ev⟩ := z
    obtain ⟨s3, d, hd, itm⟩ := y
    obtain ⟨rest, e1, e2⟩ := forF_at (f := fun d ρ => (bindT tg d ρ).bind fun ρ' => evSs cf M b ρ') hd
    rw [e1] at ev
    unfold forF at ev
    obtain ⟨o1, k2, ev⟩ := Option.bind_eq_some_iff.mp ev
    obtain ⟨ρ1, k3, k2⟩ := Option.bind_eq_some_iff.mp k2
    have hP : ∀ b o, PF P F0 b → H1 b = some o → PF P F b := fun b o p e => ⟨p.1, fun z => (go.sub b z).elim p.2 fun q => by rw [q] at e; cases e⟩
    obtain ⟨i1, i2⟩ := itm _ hP
    have r3 := r.same s3
    have go3 := go.trans (Go.of_same s3)
    refine gT_run (own := []) r3 i1 k3 (.inr rfl) (fun σ2 r2 _ _ => ⟨P, F, ρ1, o1, r2, k2, ?_⟩) fun j hj => i2 (pair_no ht ‹_› j hj)
    cases o1 with
    | nx ρ2 => exact fun σ4 H4 F4 r4 g4 => ⟨F4, ρ2, r4, go3.trans g4, by rw [e2]; exact ev⟩
    | rt rv ρ2 =>
      cases ev
      exact fun v H4 F4 r4 g4 => q v H4 F4 r4 ((Go.of_same s1).trans (go3.trans g4))
  · rw [List.drop_length] at ev
    cases ev
    exact q σ H2 F r ((Go.of_same s1).trans go)
end
end Bw

/-! Bw, part P: statements that change one's own things; several names at once. -/
namespace Bw
open PySem PySem.Spec PyProof.Rows L2

theorem get_list {X : Cx} : PGet X (rIxL X.K) := by
  intro pins s σ H o i ov iv Q I ro ri h
  obtain ⟨p, xs, i, z, rfl, rfl, hq, he, q⟩ := h
  cases ro
  obtain ⟨t, rfl⟩ := ri
  obtain ⟨its, r, pl, hz⟩ := I.list hq
  obtain ⟨j, h1, h2, h3, h4, h5⟩ := atI_get he
  obtain ⟨w, ew, rw'⟩ := r.get h2
  have hl := r.length
  have hn := line63
  have fin : EP X pins σ Q w s := ⟨z, H, I, rw', q⟩
  by_cases h0 : 0 ≤ i
  · have hj : i.toNat = j := by
      rw [seqIndex_of h0 h5] at h1
      exact Option.some.inj h1
    exact wpAny_getItem_list pl.isList h0 (by omega) (by rw [hj]; simpa using ew) fin
  · have hj : (i + (its.toArray.size : Int)).toNat = j := by
      rw [seqIndex_neg (by omega) h4] at h1
      rw [List.size_toArray, ← hl]
      exact Option.some.inj h1
    exact wpAny_getItem_list_neg pl.isList (by omega) (by rw [List.size_toArray] <;> omega) (by omega) (by rw [hj]; simpa using ew) fin
theorem asg_sub {o i : Expr} {env : PySem.Env} {pos : Pos} (h : nSlice i = true) : ∀ v, assign (.Subscript o i pos) env v = (do
      let ov ← holding [v] (eval o env)
      let iv ← holding [v, ov] (eval i env)
      standAt pos
      holding [v, ov, iv] (setItem ov iv v)
      release [v, ov, iv] []) := by
  intro v
  cases i <;> first | rfl | simp [nSlice] at h
theorem aug_sub {i : Expr} (h : nSlice i = true) : ∀ ov iv new, augStore i ov iv new = (do holding [new, ov, iv] (setItem ov iv new); release [new, ov, iv] []; pure .next) := by
  intro ov iv new
  cases i <;> first | rfl | simp [nSlice] at h
theorem noStores2 {o i : Expr} {p : Pos} {e : Expr} {env : PySem.Env} : swappedStores [.Subscript o i p] e env = pure none := by cases e <;> rfl
section
variable {g : G} {cf : Nat → List D → Option RV} {M : Nat} {sc : Scope} {X : Cx} {P : Addr → Prop} {F : List Addr} {ρ : Env} {σ : L2.St} {H : Hp} {t : Expr}
theorem own_write {i : Nat} {ds ds' : List D} {a : Addr} {vs vs' : List V} (r : RX X P F ρ σ H) (h : rdO ρ i = some ds) (hs : σ[i]? = some (some (.ref a))) (ha : a ∈ F) (hP : P a) (e : H a = some (.lst vs)) (hz : vs'.length ≤ sizeLine) (da : DaL X.K H (PF P F) vs' ds') :
    RX X P F (ρ.set i (some (.own ds'))) σ (upd H a (.lst vs')) ∧ Go F H F (upd H a (.lst vs')) := by
  have hρ : ρ[i]? = some (some (.own ds)) := by
    unfold rdO at h
    split at h
    · rename_i d e; cases h; exact e
    · cases h
  exact R.write r hρ hs (a := a) rfl (fun b hb => upd_ne hb) ⟨_, upd_same, rfl⟩ ⟨a, vs', rfl, ha, hP, upd_same, hz, da.keep (keeps_upd (fun z => z.2 ha) e rfl)⟩ fun b f => f
theorem dct_write {H' : Hp} {i : Nat} {nest : Bool} {kvs kvs' : List (D × D)} {a : Addr} (r : RX X P F ρ σ H) (h : rdK ρ i = some (nest, kvs)) (hs : σ[i]? = some (some (.ref a))) (ha : a ∈ F) (n : DNew X H H' (PF P F) a nest kvs') :
    RX X P F (ρ.set i (some (.dct nest kvs'))) σ H' ∧ Go F H F H' := by
  have hρ : ρ[i]? = some (some (.dct nest kvs)) := by
    unfold rdK at h
    split at h
    · rename_i d e; cases h; exact e
    · cases h
  exact R.write r hρ hs (a := a) rfl n.ne n.isM ⟨a, rfl, ha, n.at_⟩ fun b f => f
theorem slot_of (r : RX X P F ρ σ H) {i : Nat} {ds : List D} (h : rdO ρ i = some ds) {v : V} (e : σ[i]? = some (some v)) : ∃ a vs, v = .ref a ∧ a ∈ F ∧ P a ∧ H a = some (.lst vs) ∧ vs.length ≤ sizeLine ∧ DaL X.K H (PF P F) vs ds := by
  obtain ⟨a, vs, h1, h2⟩ := r.own h
  rw [e] at h1
  cases h1
  exact ⟨a, vs, rfl, h2⟩
theorem refs_inj : ∀ {a b : List Addr}, a.map V.ref = b.map V.ref → a = b
  | [], [], _ => rfl
  | [], _ :: _, h => by simp at h
  | _ :: _, [], h => by simp at h
  | x :: xs, y :: ys, h => by
    simp only [List.map_cons, List.cons.injEq] at h
    rw [V.ref.inj h.1, refs_inj h.2]
theorem ixN_lt {n : Nat} {k : Int} {j : Nat} (h : ixN n k = some j) : j < n := (ixN_seq h).2.1
theorem atI_of {ds : List D} {vs : List V} {k : Int} {j : Nat} {K : W.Frag} {v : V} (hj : ixN vs.length k = some j) (hv : vs[j]? = some v) : atI vs k = some v := by
  unfold atI
  rw [hj]
  exact hv
theorem sS_setO (G : Gd g cf sc X) {i : Nat} {k v : E} {o e2 e : Expr} {sp p : Pos} (ho : (match vName o with | some x => nameOk X.N sc i x | none => false) = true) (hs : nSlice e2 = true) (hk : cE g X.N k sc e2 = true) (hv : cE g X.N v sc e = true) :
    PS X (.Assign [.Subscript o e2 sp] e p) (rdS X cf M (.setO i k v)) := by
  refine (ps_asg ((okE v G hv).pe false) (pg_sub (nm_slot G ho) ((okE k G hk).pe false) set_list (asg_sub hs)) (sw_other (tg := .Subscript o e2 sp) (e := e) (l := p.line) (env := X.env) rfl) noStores2 rfl).mono fun D σ H ⟨P, F, ρ, o, r, ev, q⟩ => ?_
  unfold evS at ev
  obtain ⟨y, k1, ev⟩ := Option.bind_eq_some_iff.mp ev
  obtain ⟨x, k2, ev⟩ := Option.bind_eq_some_iff.mp ev
  obtain ⟨ds, k3, ev⟩ := Option.bind_eq_some_iff.mp ev
  cases x <;> try (simp at ev; done)
  rename_i n
  obtain ⟨j, k4, rfl⟩ := Option.map_eq_some_iff.mp ev
  refine rd_in r k1 fun v H1 s1 r1 da _ => ?_
  obtain ⟨a, vs, f1, f2, f3, f4, f5, f6⟩ := r1.own k3
  refine ⟨_, f1, rd_in r1 k2 fun u H2 s2 r2 db _ => ?_⟩
  cases db
  have e2 := s2 _ _ f4
  refine ⟨a, vs, _, j, rfl, rfl, e2, by rw [f6.length]; exact k4, ?_⟩
  obtain ⟨r3, g3⟩ := own_write r2 k3 f1 f2 f3 e2 (by rw [List.length_set]; exact f5) ((f6.same s2).set j (Da.same da s2))
  exact q σ _ F r3 ((Go.of_same (s1.trans s2)).trans g3)
theorem rowsAt_set {K : W.Frag} {b : Addr} {vs' : List V} {xs : List D} {a : Addr} (hk : ∀ c, c ≠ b → upd H b (.lst vs') c = H c) (kp : Keeps (PF P F) H (upd H b (.lst vs'))) (new : MatRow K (upd H b (.lst vs')) P F b xs) :
    ∀ {as : List Addr} {dss : List (List D)} {j : Nat}, as.Nodup → as[j]? = some b → Paired (MatRow K H P F) as dss → Paired (MatRow K (upd H b (.lst vs')) P F) as (dss.set j xs) := by
  have rest : ∀ {as : List Addr} {dss : List (List D)}, b ∉ as → Paired (MatRow K H P F) as dss → Paired (MatRow K (upd H b (.lst vs')) P F) as dss := by
    intro as dss hn pr
    induction pr with
    | nil => exact .nil
    | cons z t ih =>
      refine .cons ?_ (ih fun q => hn (List.mem_cons_of_mem _ q))
      obtain ⟨z1, z2, vs, z3, z4, z5⟩ := z
      exact ⟨z1, z2, vs, by rw [hk _ fun q => hn (by rw [← q]; exact List.mem_cons_self)]; exact z3, z4, z5.keep kp⟩
  intro as dss j nd hj pr
  induction pr generalizing j with
  | nil => simp at hj
  | cons z t ih =>
    cases j with
    | zero =>
      simp at hj
      subst hj
      exact .cons new (rest (List.nodup_cons.mp nd).1 t)
    | succ j =>
      have hj' := (List.getElem?_cons_succ ▸ hj)
      refine .cons ?_ (ih (List.nodup_cons.mp nd).2 hj')
      have hb := List.mem_of_getElem? hj'
      obtain ⟨z1, z2, vs, z3, z4, z5⟩ := z
      exact ⟨z1, z2, vs, by rw [hk _ fun q => (List.nodup_cons.mp nd).1 (by rw [q]; exact hb)]; exact z3, z4, z5.keep kp⟩
theorem mat_write {i : Nat} {m : List (List D)} {xs : List D} {ar b : Addr} {as : List Addr} {vs vs' : List V} {j : Nat} (r : RX X P F ρ σ H) (h : rdM ρ i = some m) (hs : σ[i]? = some (some (.ref ar))) (ha : ar ∈ F) (hP : P ar) (e : H ar = some (.lst (as.map V.ref))) (hl : as.length ≤ sizeLine) (nd : as.Nodup) (ni : ar ∉ as)
    (pr : Paired (MatRow X.K H P F) as m) (hj : as[j]? = some b) (hb : b ∈ F) (hPb : P b) (hv : H b = some (.lst vs)) (hz : vs'.length ≤ sizeLine) (da : DaL X.K H (PF P F) vs' xs) :
    RX X P F (ρ.set i (some (.mat (m.set j xs)))) σ (upd H b (.lst vs')) ∧ Go F H F (upd H b (.lst vs')) := by
  have hρ : ρ[i]? = some (some (.mat m)) := by
    unfold rdM at h
    split at h
    · rename_i d e; cases h; exact e
    · cases h
  have kp : Keeps (PF P F) H (upd H b (.lst vs')) := keeps_upd (fun z => z.2 hb) hv rfl
  have hne : ar ≠ b := fun z => ni (by rw [z]; exact List.mem_of_getElem? hj)
  refine R.write r hρ hs (a := b) (.inr ⟨ar, _, rfl, e, List.mem_map_of_mem (List.mem_of_getElem? hj)⟩) (fun c hc => upd_ne hc) ⟨_, upd_same, rfl⟩
    ⟨ar, as, rfl, ha, hP, by rw [upd_ne hne]; exact e, hl, nd, ni, rowsAt_set (a := ar) (fun c hc => upd_ne hc) kp ⟨hb, hPb, vs', upd_same, hz, da.keep kp⟩ nd hj pr⟩ fun c f => ?_
  rcases f with f | ⟨a', us, f1, f2, f3⟩
  · exact .inl f
  · cases f1
    rw [upd_ne hne] at f2
    exact .inr ⟨ar, us, rfl, f2, f3⟩
theorem sS_setM (G : Gd g cf sc X) {i : Nat} {k l v : E} {o e2 e3 e : Expr} {sp sp2 p : Pos} (ho : (match vName o with | some x => nameOk X.N sc i x | none => false) = true) (hs2 : nSlice e2 = true) (hs3 : nSlice e3 = true) (hk : cE g X.N k sc e3 = true) (hl : cE g X.N l sc e2 = true) (hv : cE g X.N v sc e = true) :
    PS X (.Assign [.Subscript (.Subscript o e3 sp2) e2 sp] e p) (rdS X cf M (.setM i k l v)) := by
  refine (ps_asg ((okE v G hv).pe false) (pg_sub (pe_row G ho hs3 (okE k G hk)) ((okE l G hl).pe false) set_list (asg_sub hs2)) (sw_other (tg := .Subscript (.Subscript o e3 sp2) e2 sp) (e := e) (l := p.line) (env := X.env) rfl) noStores2 rfl).mono fun D σ H ⟨P, F, ρ, o, r, ev, q⟩ => ?_
  unfold evS at ev
  obtain ⟨y, k1, ev⟩ := Option.bind_eq_some_iff.mp ev
  obtain ⟨x, k2, ev⟩ := Option.bind_eq_some_iff.mp ev
  obtain ⟨z, k3, ev⟩ := Option.bind_eq_some_iff.mp ev
  obtain ⟨m, k4, ev⟩ := Option.bind_eq_some_iff.mp ev
  obtain ⟨x, rfl⟩ : ∃ p, x = .int p := by cases x <;> first | exact ⟨_, rfl⟩ | simp at ev
  obtain ⟨z, rfl⟩ : ∃ p, z = .int p := by cases z <;> first | exact ⟨_, rfl⟩ | simp at ev
  obtain ⟨j, k5, ev⟩ := Option.bind_eq_some_iff.mp ev
  obtain ⟨rw_, k6, ev⟩ := Option.bind_eq_some_iff.mp ev
  obtain ⟨n, k7, rfl⟩ := Option.map_eq_some_iff.mp ev
  refine rd_in r k1 fun u H1 s1 r1 du _ => ⟨P, F, ρ, x, m, rw_, r1, k2, k4, by unfold atI; rw [k5]; exact k6, fun j' as ar b H2 s2 f1 f2 f3 f4 f5 f6 f7 f8 f9 f10 f11 r2 => rd_in r2 k3 fun w H3 s3 r3 dw _ => ?_⟩
  cases dw
  obtain ⟨ar', as', g1, g2, g3, g4, g5, g6, g7, g8⟩ := r3.mat k4
  rw [f1] at g1
  cases g1
  have e4 := s3 _ _ f4
  rw [g4] at e4
  have ea : as' = as := by
    have := HO.lst.inj (Option.some.inj e4)
    exact refs_inj this
  subst ea
  obtain ⟨j2, b', j3, j4, j5, j6, j7⟩ := mrow_at g8 (show atI m x = some rw_ by unfold atI; rw [k5]; exact k6)
  rw [f9] at j3
  cases j3
  rw [f10] at j4
  cases j4
  have hjj : j = j' := by
    have hlen := paired_len g8
    rw [hlen, k5] at f9
    exact Option.some.inj f9
  subst hjj
  obtain ⟨m1, m2, vs, m3, m4, m5⟩ := j7
  refine ⟨b, vs, _, n, rfl, rfl, m3, by rw [m5.length]; exact k7, ?_⟩
  obtain ⟨r4, g4'⟩ := mat_write (j := j) (xs := rw_.set n y) r3 k4 f1 g2 g3 g4 g5 g6 g7 g8 f10 m1 m2 m3 (by rw [List.length_set]; exact m4) (m5.set n (Da.same (Da.same du s2) s3))
  exact q σ _ F r4 ((Go.of_same ((s1.trans s2).trans s3)).trans g4')
def augOp : Bin → Option Operator | .add => some .Add | .sub => some .Sub | _ => none
theorem augF_ints {f : Bin} {x y z : D} (h : augF f x y = some z) : ∃ i j k, x = .int i ∧ y = .int j ∧ z = .int k ∧ ((f = .add ∧ k = i + j) ∨ (f = .sub ∧ k = i - j)) := by
  cases f <;> cases x <;> cases y <;> simp [augF] at h
  · exact ⟨_, _, _, rfl, rfl, h.symm, .inl ⟨rfl, rfl⟩⟩
  · exact ⟨_, _, _, rfl, rfl, h.symm, .inr ⟨rfl, rfl⟩⟩
/-- += and -= of whole numbers -/
def rIp : TIp := fun x y H Q => ∃ f i j k, x = .int i ∧ y = .int j ∧ augF f (.int i) (.int j) = some (.int k) ∧ Q (.int k) H
theorem ip_of {X : Cx} {f : Bin} {op : Operator} (h : augOp f = some op) : PIp X op (fun x y H Q => ∃ i j k, x = .int i ∧ y = .int j ∧ augF f (.int i) (.int j) = some (.int k) ∧ Q (.int k) H) := by
  cases f <;> simp [augOp] at h <;> subst h
  · intro pins s σ H x y v u Q I r1 r2 ⟨i, j, k, e1, e2, e3, q⟩
    cases e3
    exact ip_add pins s σ H x y v u Q I r1 r2 ⟨i, j, e1, e2, q⟩
  · intro pins s σ H x y v u Q I r1 r2 ⟨i, j, k, e1, e2, e3, q⟩
    cases e3
    exact ip_sub pins s σ H x y v u Q I r1 r2 ⟨i, j, e1, e2, q⟩
theorem sS_aug (G : Gd g cf sc X) {i : Nat} {f : Bin} {op : Operator} {c : E} {x : Str} {px p : Pos} {e : Expr} (hN : X.N[i]? = some x) (hl : locB sc x = true) (hf : augOp f = some op) (h : cE g X.N c sc e = true) : PS X (.AugAssign (.Name x px) op e p) (rdS X cf M (.aug i f c)) := by
  refine (ps_aug G.nd hN (G.rel.loc x hl) ((okE c G h).pe false) (ip_of hf) (G.fs x hl)).mono fun D σ H ⟨P, F, ρ, o, r, ev, q⟩ => ?_
  unfold evS at ev
  obtain ⟨xd, k1, ev⟩ := Option.bind_eq_some_iff.mp ev
  obtain ⟨yd, k2, ev⟩ := Option.bind_eq_some_iff.mp ev
  obtain ⟨zd, k3, rfl⟩ := Option.map_eq_some_iff.mp ev
  obtain ⟨a, b, k, rfl, rfl, rfl, _⟩ := augF_ints k3
  obtain ⟨v, h1, h2⟩ := r.dat k1
  cases h2
  refine ⟨_, h1, rd_in r k2 fun u H1 s1 r1 db _ => ?_⟩
  cases db
  exact ⟨a, b, k, rfl, rfl, k3, q _ H1 F (r1.set (.int k)) (Go.of_same s1)⟩
theorem sS_augO (G : Gd g cf sc X) {i : Nat} {f : Bin} {op : Operator} {k v : E} {o e2 e : Expr} {sp p : Pos} (ho : (match vName o with | some x => nameOk X.N sc i x | none => false) = true) (hs : nSlice e2 = true) (hf : augOp f = some op) (hk : cE g X.N k sc e2 = true) (hv : cE g X.N v sc e = true) :
    PS X (.AugAssign (.Subscript o e2 sp) op e p) (rdS X cf M (.augO i f k v)) := by
  refine (ps_augS (nm_slot G ho) ((okE k G hk).pe false) get_list ((okE v G hv).pe false) (ip_of hf) set_list (aug_sub hs)).mono fun D σ H ⟨P, F, ρ, o, r, ev, q⟩ => ?_
  unfold evS at ev
  obtain ⟨x, k2, ev⟩ := Option.bind_eq_some_iff.mp ev
  obtain ⟨ds, k3, ev⟩ := Option.bind_eq_some_iff.mp ev
  cases x <;> try (simp at ev; done)
  rename_i n
  obtain ⟨j, k4, ev⟩ := Option.bind_eq_some_iff.mp ev
  obtain ⟨z, k5, ev⟩ := Option.bind_eq_some_iff.mp ev
  obtain ⟨y, k6, ev⟩ := Option.bind_eq_some_iff.mp ev
  obtain ⟨u, k7, rfl⟩ := Option.map_eq_some_iff.mp ev
  obtain ⟨a', b', c', rfl, rfl, rfl, _⟩ := augF_ints k7
  obtain ⟨a, vs, f1, f2, f3, f4, f5, f6⟩ := r.own k3
  refine ⟨_, f1, rd_in r k2 fun u H2 s2 r2 db _ => ?_⟩
  cases db
  have e2 := s2 _ _ f4
  obtain ⟨w, w1, w2⟩ := f6.get k5
  cases w2
  refine ⟨a, vs, _, _, rfl, rfl, .inl (.inl e2), atI_of (ds := ds) (K := X.K) (by rw [f6.length]; exact k4) w1, rd_in r2 k6 fun u H3 s3 r3 dc _ => ?_⟩
  cases dc
  have s23 := s2.trans s3
  have e3 := s23 _ _ f4
  refine ⟨a', b', c', rfl, rfl, k7, a, vs, _, j, rfl, rfl, e3, by rw [f6.length]; exact k4, ?_⟩
  obtain ⟨r4, g4⟩ := own_write r3 k3 f1 f2 f3 e3 (by rw [List.length_set]; exact f5) ((f6.same s23).set j (.int c'))
  exact q σ _ F r4 ((Go.of_same s23).trans g4)
theorem sS_augM (G : Gd g cf sc X) {i : Nat} {f : Bin} {op : Operator} {k l v : E} {o e2 e3 e : Expr} {sp sp2 p : Pos} (ho : (match vName o with | some x => nameOk X.N sc i x | none => false) = true) (hs2 : nSlice e2 = true) (hs3 : nSlice e3 = true) (hf : augOp f = some op) (hk : cE g X.N k sc e3 = true) (hl : cE g X.N l sc e2 = true) (hv : cE g X.N v sc e = true) :
    PS X (.AugAssign (.Subscript (.Subscript o e3 sp2) e2 sp) op e p) (rdS X cf M (.augM i f k l v)) := by
  refine (ps_augS (pe_row G ho hs3 (okE k G hk)) ((okE l G hl).pe false) get_list ((okE v G hv).pe false) (ip_of hf) set_list (aug_sub hs2)).mono fun D σ H ⟨P, F, ρ, o, r, ev, q⟩ => ?_
  unfold evS at ev
  obtain ⟨x, k2, ev⟩ := Option.bind_eq_some_iff.mp ev
  obtain ⟨z, k3, ev⟩ := Option.bind_eq_some_iff.mp ev
  obtain ⟨m, k4, ev⟩ := Option.bind_eq_some_iff.mp ev
  obtain ⟨x, rfl⟩ : ∃ p, x = .int p := by cases x <;> first | exact ⟨_, rfl⟩ | simp at ev
  obtain ⟨z, rfl⟩ : ∃ p, z = .int p := by cases z <;> first | exact ⟨_, rfl⟩ | simp at ev
  obtain ⟨j, k5, ev⟩ := Option.bind_eq_some_iff.mp ev
  obtain ⟨rw_, k6, ev⟩ := Option.bind_eq_some_iff.mp ev
  obtain ⟨n, k7, ev⟩ := Option.bind_eq_some_iff.mp ev
  obtain ⟨c, k8, ev⟩ := Option.bind_eq_some_iff.mp ev
  obtain ⟨y, k9, ev⟩ := Option.bind_eq_some_iff.mp ev
  obtain ⟨u, k10, rfl⟩ := Option.map_eq_some_iff.mp ev
  obtain ⟨a', b', c', rfl, rfl, rfl, _⟩ := augF_ints k10
  have hat : atI m x = some rw_ := by unfold atI; rw [k5]; exact k6
  refine ⟨P, F, ρ, x, m, rw_, r, k2, k4, hat, fun j' as ar b H2 s2 f1 f2 f3 f4 f5 f6 f7 f8 f9 f10 f11 r2 => rd_in r2 k3 fun w H3 s3 r3 dw _ => ?_⟩
  cases dw
  obtain ⟨ar', as', g1, g2, g3, g4, g5, g6, g7, g8⟩ := r3.mat k4
  rw [f1] at g1
  cases g1
  have e4 := s3 _ _ f4
  rw [g4] at e4
  have ea : as' = as := refs_inj (HO.lst.inj (Option.some.inj e4))
  subst ea
  obtain ⟨j2, b2, j3, j4, j5, j6, j7⟩ := mrow_at g8 hat
  rw [f9] at j3
  cases j3
  rw [f10] at j4
  cases j4
  have hjj : j = j' := by
    have hlen := paired_len g8
    rw [hlen, k5] at f9
    exact Option.some.inj f9
  subst hjj
  obtain ⟨m1, m2, vs, m3, m4, m5⟩ := j7
  obtain ⟨w1, w2, w3⟩ := m5.get k8
  cases w3
  refine ⟨b, vs, _, _, rfl, rfl, .inl (.inl m3), atI_of (ds := rw_) (K := X.K) (by rw [m5.length]; exact k7) w2, rd_in r3 k9 fun w H4 s4 r4 dw _ => ?_⟩
  cases dw
  obtain ⟨ar', as', h1, h2, h3, h4, h5, h6, h7, h8⟩ := r4.mat k4
  rw [f1] at h1
  cases h1
  have e5 := s4 _ _ g4
  rw [h4] at e5
  have ea : as' = _ := refs_inj (HO.lst.inj (Option.some.inj e5))
  subst ea
  obtain ⟨j2, b2, q3, q4, q5, q6, q7⟩ := mrow_at h8 hat
  rw [f9] at q3
  cases q3
  rw [f10] at q4
  cases q4
  obtain ⟨n1, n2, us, n3, n4, n5⟩ := q7
  refine ⟨a', b', c', rfl, rfl, k10, b, us, _, n, rfl, rfl, n3, by rw [n5.length]; exact k7, ?_⟩
  obtain ⟨r5, g5'⟩ := mat_write (j := j) (xs := rw_.set n (.int c')) r4 k4 f1 h2 h3 h4 h5 h6 h7 h8 f10 n1 n2 n3 (by rw [List.length_set]; exact n4) (n5.set n (.int c'))
  exact q σ _ F r5 ((Go.of_same ((s2.trans s3).trans s4)).trans g5')
theorem few1 {e : Expr} {cp : Pos} {env : PySem.Env} (h : nStar e = true) : ((backTo cp (starEach [e] env)).all (fun x => !x.1) && (backToKw cp (keywordEach [] env)).all (fun x => x.1.isSome)
    && decide (([e] : List Expr).length + ([] : List Keyword).length + (if ([] : List Keyword).isEmpty then 0 else 1) < 30)) = true := by
  rw [back_all (by simp [h])]
  rfl
theorem base_nm {o : Expr} {m : Str} {i : Nat} {N : List Str} {env : PySem.Env} (h : (match vName o with | some x => nameOk N sc i x | none => false) = true) : attributeBase o m env (eval o env) = eval o env := by
  split at h
  · rename_i x hv
    obtain ⟨p, rfl⟩ := vName_of hv
    rfl
  · cases h
theorem sS_app (G : Gd g cf sc X) {i : Nat} {c : E} {o e : Expr} {m : Str} {ap cp p : Pos} (hm : m = ("append" : Str)) (ho : (match vName o with | some x => nameOk X.N sc i x | none => false) = true) (hl : (ap.endLine == cp.line) = true) (hs : nStar e = true) (h : cE g X.N c sc e = true) :
    PS X (.Expr (.Call (.Attribute o m ap) [e] [] cp) p) (rdS X cf M (.app i c)) := by
  subst hm
  refine (ps_expr (pe_bX (T := "list") PySem.F.plainAttrs_list PySem.F.slot_list_append PySem.F.type_list_append mt_append (nm_slot G ho) (pa_cons ((okE c G h).pe false) pa_nil (star_cons hs)) (base_nm ho) (few1 hs) hl (star_cons hs) rfl) rfl).mono fun D σ H ⟨P, F, ρ, o, r, ev, q⟩ => ?_
  unfold evS at ev
  obtain ⟨y, k1, ev⟩ := Option.bind_eq_some_iff.mp ev
  obtain ⟨ds, k2, ev⟩ := Option.bind_eq_some_iff.mp ev
  split at ev
  · rename_i hlt
    cases ev
    obtain ⟨a, vs, f1, f2, f3, f4, f5, f6⟩ := r.own k2
    refine ⟨_, f1, ⟨a, rfl, .inl ⟨rfl, vs, .inl f4⟩⟩, rd_in r k1 fun v H1 s1 r1 da _ => ?_⟩
    have e1 := s1 _ _ f4
    refine ⟨a, vs, v, rfl, rfl, e1, by rw [f6.length]; exact hlt, ?_⟩
    obtain ⟨r2, g2⟩ := own_write r1 k2 f1 f2 f3 e1 (by rw [List.length_append, f6.length]; simp; omega) ((f6.same s1).append (.one da))
    exact q σ _ F r2 ((Go.of_same s1).trans g2)
  · cases ev
theorem rdO_set {ρ : Env} {i j : Nat} {d : D} {x : SV} : True := trivial
theorem sS_popL (G : Gd g cf sc X) {i j : Nat} {o : Expr} {m x : Str} {ap cp px p : Pos} (hm : m = ("pop" : Str)) (hN : X.N[j]? = some x) (hlc : locB sc x = true) (ho : (match vName o with | some x => nameOk X.N sc i x | none => false) = true) (hl : (ap.endLine == cp.line) = true) :
    PS X (.Assign [.Name x px] (.Call (.Attribute o m ap) [] [] cp) p) (rdS X cf M (.popL j i)) := by
  subst hm
  refine (ps_set G.nd hN (G.rel.loc x hlc) (pe_bX0 (T := "list") PySem.F.plainAttrs_list PySem.F.slot_list_pop PySem.F.type_list_pop mt_pop (nm_slot G ho) (base_nm ho) hl) rfl (G.fs x hlc)).mono fun D σ H ⟨P, F, ρ, o, r, ev, q⟩ => ?_
  unfold evS at ev
  obtain ⟨ds, k2, ev⟩ := Option.bind_eq_some_iff.mp ev
  obtain ⟨y, k3, rfl⟩ := Option.map_eq_some_iff.mp ev
  obtain ⟨a, vs, f1, f2, f3, f4, f5, f6⟩ := r.own k2
  obtain ⟨v, v1, v2⟩ := f6.get k3
  refine ⟨_, f1, ⟨a, rfl, .inl ⟨rfl, vs, .inl f4⟩⟩, a, vs, v, rfl, rfl, f4, by rw [f6.length]; exact v1, ?_⟩
  obtain ⟨r2, g2⟩ := own_write r k2 f1 f2 f3 f4 (by rw [List.length_dropLast]; omega) f6.dropLast
  exact q _ _ F (r2.set (v2.keep (keeps_upd (fun z => z.2 f2) f4 rfl))) g2
/-! dicts -/
theorem sS_setD (G : Gd g cf sc X) {i : Nat} {k v : E} {o e2 e : Expr} {sp p : Pos} (ho : (match vName o with | some x => nameOk X.N sc i x | none => false) = true) (hs : nSlice e2 = true) (hk : cE g X.N k sc e2 = true) (hv : cE g X.N v sc e = true) :
    PS X (.Assign [.Subscript o e2 sp] e p) (rdS X cf M (.setD i k v)) := by
  have hu := G.hu
  refine ⟨fun pins s σ H D I ⟨P, F, ρ, o', r, ev, q⟩ => ?_⟩
  unfold evS at ev
  obtain ⟨y, k1, ev⟩ := Option.bind_eq_some_iff.mp ev
  obtain ⟨x, k2, ev⟩ := Option.bind_eq_some_iff.mp ev
  obtain ⟨⟨nest, kvs⟩, k3, ev⟩ := Option.bind_eq_some_iff.mp ev
  split at ev
  · rename_i hc
    cases ev
    simp only [Bool.and_eq_true, decide_eq_true_eq] at hc
    obtain ⟨a, f1, f2, f3⟩ := r.dct k3
    refine wpAny_Assign_Subscript (thn (((okE v G hv).pe false).run pins s σ H _ I (rd_in r k1 fun v H1 s1 r1 da _ => (⟨s1, r1, da⟩ : Same H H1 ∧ RX X P F ρ σ H1 ∧ Da X.K H1 (PF P F) v y))) fun vv s1 ⟨v1, H1, I1, rv, st1, r1, dv⟩ =>
      thn ((nm_slot G ho).run pins s1 σ H1 (fun v H' => v = .ref a ∧ H' = H1) I1 ⟨_, f1, rfl, rfl⟩) fun u s2 ⟨x2, H2, I2, rx, ex, eH⟩ => ?_) (sw_other (tg := .Subscript o e2 sp) rfl)
    subst ex eH
    obtain rfl : u = Value.ref a := rx
    refine thn (((okE k G hk).pe false).run pins s2 σ H2 _ I2 (rd_in r1 k2 fun v H3 s3 r3 da _ => (⟨s3, r3, da⟩ : Same H2 H3 ∧ RX X P F ρ σ H3 ∧ Da X.K H3 (PF P F) v x))) fun iv s3 ⟨y3, H3, I3, ry, st3, r3, dk⟩ => ?_
    have sx := st1.trans st3
    have dc := f3.mono (.of_same sx) (fun _ _ z _ => z) fun o e => sx _ _ e
    refine dct_set (by omega) I3 dc (fun z => z.2 f2) hc.1 hc.2 dk (Da.same dv st3) ry rv fun H4 s4 I4 n => ?_
    obtain ⟨r4, g4⟩ := dct_write r3 k3 f1 f2 n
    exact ⟨σ, H4, I4, q σ H4 F r4 ((Go.of_same sx).trans g4)⟩
  · cases ev
theorem sS_augD (G : Gd g cf sc X) {i : Nat} {f : Bin} {op : Operator} {k v : E} {o e2 e : Expr} {sp p : Pos} (ho : (match vName o with | some x => nameOk X.N sc i x | none => false) = true) (hs : nSlice e2 = true) (hf : augOp f = some op) (hk : cE g X.N k sc e2 = true) (hv : cE g X.N v sc e = true) :
    PS X (.AugAssign (.Subscript o e2 sp) op e p) (rdS X cf M (.augD i f k v)) := by
  have hu := G.hu
  refine ⟨fun pins s σ H D I ⟨P, F, ρ, o', r, ev, q⟩ => ?_⟩
  unfold evS at ev
  obtain ⟨x, k2, ev⟩ := Option.bind_eq_some_iff.mp ev
  obtain ⟨⟨nest, kvs⟩, k3, ev⟩ := Option.bind_eq_some_iff.mp ev
  obtain ⟨z, k4, ev⟩ := Option.bind_eq_some_iff.mp ev
  obtain ⟨y, k6, ev⟩ := Option.bind_eq_some_iff.mp ev
  obtain ⟨w, k7, rfl⟩ := Option.map_eq_some_iff.mp ev
  split at k4
  · rename_i hc
    simp only [Bool.and_eq_true, decide_eq_true_eq] at hc
    obtain ⟨a', b', c', rfl, rfl, rfl, _⟩ := augF_ints k7
    obtain ⟨a, f1, f2, f3⟩ := r.dct k3
    refine wpAny_AugAssign_SubscriptAny (thn ((nm_slot G ho).run pins s σ H (fun v H' => v = .ref a ∧ H' = H) I ⟨_, f1, rfl, rfl⟩) fun u s1 ⟨x1, H1, I1, rx, ex, eH⟩ => ?_) (aug_sub hs)
    subst ex eH
    obtain rfl : u = Value.ref a := rx
    refine thn (((okE k G hk).pe false).run pins s1 σ H1 _ I1 (rd_in r k2 fun v H3 s3 r3 da _ => (⟨s3, r3, da⟩ : Same H1 H3 ∧ RX X P F ρ σ H3 ∧ Da X.K H3 (PF P F) v x))) fun iv s3 ⟨y3, H3, I3, ry, st3, r3, dk⟩ => ?_
    have dc := f3.mono (.of_same st3) (fun _ _ z _ => z) fun o e => st3 _ _ e
    refine dct_get (by omega) I3 dc hc.1 dk k4 ry fun v4 w4 s4 I4 rw4 d4 => ?_
    cases d4
    refine thn (((okE v G hv).pe false).run pins s4 σ H3 _ I4 (rd_in r3 k6 fun v H5 s5 r5 da _ => (⟨s5, r5, da⟩ : Same H3 H5 ∧ RX X P F ρ σ H5 ∧ Da X.K H5 (PF P F) v (.int b')))) fun w5 s5 ⟨y5, H5, I5, ry5, st5, r5, d5⟩ => ?_
    cases d5
    refine thn (ip_of hf pins s5 σ H5 (.int a') (.int b') w4 w5 (fun v H' => v = .int c' ∧ H' = H5) I5 rw4 ry5 ⟨a', b', c', rfl, rfl, k7, rfl, rfl⟩) fun w6 s6 ⟨y6, H6, I6, ry6, e6, eH6⟩ => ?_
    subst e6 eH6
    have sx := st3.trans st5
    have dc5 := f3.mono (.of_same sx) (fun _ _ z _ => z) fun o e => sx _ _ e
    refine dct_set (by omega) I6 dc5 (fun z => z.2 f2) hc.1 hc.2 (dk.same st5) (.int c') ry ry6 fun H7 s7 I7 n => ?_
    obtain ⟨r7, g7⟩ := dct_write r5 k3 f1 f2 n
    exact ⟨σ, H7, I7, q σ H7 F r7 ((Go.of_same sx).trans g7)⟩
  · cases k4
theorem sS_popD (G : Gd g cf sc X) {i : Nat} {k : E} {o e : Expr} {m : Str} {ap cp p : Pos} (hm : m = ("pop" : Str)) (ho : (match vName o with | some x => nameOk X.N sc i x | none => false) = true) (hl : (ap.endLine == cp.line) = true) (hs : nStar e = true) (h : cE g X.N k sc e = true) :
    PS X (.Expr (.Call (.Attribute o m ap) [e] [] cp) p) (rdS X cf M (.popD i k)) := by
  subst hm
  have hu := G.hu
  refine ⟨fun pins s σ H D I ⟨P, F, ρ, o', r, ev, q⟩ => ?_⟩
  unfold evS at ev
  obtain ⟨x, k1, ev⟩ := Option.bind_eq_some_iff.mp ev
  obtain ⟨⟨nest, kvs⟩, k3, ev⟩ := Option.bind_eq_some_iff.mp ev
  obtain ⟨z, k4, rfl⟩ := Option.map_eq_some_iff.mp ev
  split at k4
  · rename_i hc
    simp only [Bool.and_eq_true, decide_eq_true_eq] at hc
    obtain ⟨a, f1, f2, f3⟩ := r.dct k3
    refine wpAny_Expr_any (wpAny_Call_method (base_nm ho) (few1 hs) hl PySem.F.plainAttrs_dict PySem.F.slot_dict_pop PySem.F.type_dict_pop (thn ((nm_slot G ho).run pins s σ H (fun v H' => v = .ref a ∧ H' = H) I ⟨_, f1, rfl, rfl⟩) fun u s1 ⟨x1, H1, I1, rx, ex, eH⟩ => ?_)) I.quiet rfl
    subst ex eH
    obtain rfl : u = Value.ref a := rx
    obtain ⟨t1, t2⟩ := dct_is I1 f3
    refine ⟨t1, t2, ?_⟩
    rw [show backTo cp (starEach [e] X.env) = _ from rfl, star_cons hs]
    refine Calls.callWith_builtin rfl (Calls.evalArgs_plain (Calls.spliced_cons (thn (((okE k G h).pe false).run pins s1 σ H1 _ I1 (rd_in r k1 fun v H2 s2 r2 da _ => (⟨s2, r2, da⟩ : Same H1 H2 ∧ RX X P F ρ σ H2 ∧ Da X.K H2 (PF P F) v x))) fun iv s2 ⟨y, H2, I2, ry, st, r2, da⟩ => Calls.spliced_nil ?_)))
    have dc := f3.mono (.of_same st) (fun _ _ z _ => z) fun o e => st _ _ e
    refine dct_pop (by omega) I2 dc (fun z => z.2 f2) hc.1 da k4 ry fun v w' H4 s4 I4 rv n => ?_
    obtain ⟨r4, g4⟩ := dct_write r2 k3 f1 f2 n
    exact ⟨σ, H4, I4, q σ H4 F r4 ((Go.of_same st).trans g4)⟩
  · cases k4
end
end Bw

/-! Bw, part Q: several names at once; the look at statements; every statement that it lets pass does what ours says. -/
namespace Bw
open PySem PySem.Spec PyProof.Rows L2

def allLoc (sc : Scope) (line : Nat) : List Expr → Bool
  | [] => true
  | e :: es => (match vNameP e with | some (x, p) => decide (sc.names.lookup x = some .local) && (p.line == line) | none => false) && allLoc sc line es
def strsOf : List Expr → List Str
  | [] => []
  | e :: es => (match vName e with | some x => [x] | none => []) ++ strsOf es
def lineOf : List Expr → Nat
  | e :: _ => e.pos.line
  | [] => 0
theorem stores_names {sc : Scope} {env : PySem.Env} (rl : ∀ x, sc.names.lookup x = some .local → env.scope.names.lookup x = some .local) {line : Nat} : ∀ {ts : List Expr}, allLoc sc line ts = true →
    (ts.filterMap fun | .Name id pos => if env.kindOf id == some .local && pos.line == line then some id else none | _ => none) = strsOf ts
  | [], _ => rfl
  | t :: ts, h => by
    simp only [allLoc, Bool.and_eq_true] at h
    obtain ⟨h1, h2⟩ := h
    split at h1
    · rename_i x p hv
      have e := vNameP_of hv
      subst e
      rw [Bool.and_eq_true, decide_eq_true_eq] at h1
      have hk : (env.kindOf x == some NameKind.local && p.line == line) = true := by
        have : env.kindOf x = some .local := rl x h1.1
        rw [this, h1.2]
        rfl
      rw [List.filterMap_cons]
      simp only [hk, if_true]
      rw [stores_names rl h2]
      rfl
    · cases h1
theorem swap_some {sc : Scope} {env : PySem.Env} {ts es : List Expr} {k k2 : Nat} {p p2 : Pos} (rl : ∀ x, sc.names.lookup x = some .local → env.scope.names.lookup x = some .local) (hk : env.scope.kind = .function) (hl : ts.length = 2 ∨ ts.length = 3) (he : es.length = ts.length)
    (hst : es.all nStar = true) (ha : allLoc sc (lineOf ts) ts = true) (hn : (strsOf ts).length = ts.length) (hd : (strsOf ts).eraseDups.length = (strsOf ts).length) (hf : es.all (foldedForSure 8) = false) (hcs : es.all (constantsAlone 8) = false) :
    swappedStores [.Tuple ts k p] (.Tuple es k2 p2) env = pure (some (strsOf ts)) := by
  unfold swappedStores
  have hb : env.blockKind = .function := by unfold Env.blockKind; rw [hk]; rfl
  have c1 : (!(ts.length == 2 || ts.length == 3) || es.length != ts.length || env.blockKind != .function) = false := by
    rw [hb, he]
    rcases hl with h | h <;> rw [h] <;> rfl
  have c2 : (es.any fun | .Starred .. => true | _ => false) = false := by
    clear hf hcs he c1
    induction es with
    | nil => rfl
    | cons e es ih =>
      simp only [List.all_cons, Bool.and_eq_true] at hst
      rw [List.any_cons, ih hst.2]
      cases e <;> first | rfl | simp [nStar] at hst
  have hline : ((ts.head?.map (·.pos.line)).getD 0) = lineOf ts := by cases ts <;> rfl
  have nm := stores_names rl (line := lineOf ts) ha
  simp only [c1, hline, hf, hcs, if_false, Bool.false_eq_true]
  have c3 : ((strsOf ts).length != ts.length || (strsOf ts).eraseDups.length != (strsOf ts).length) = false := by
    rw [hn, hd, hn]
    simp
  rw [← nm] at c3
  refine (if_neg fun z => by have := c2.symm.trans z; cases this).trans ?_
  refine (if_neg fun z => by have := c3.symm.trans z; cases this).trans ?_
  exact congrArg (fun z => pure (some z)) nm
/-- what is seen of a, b = x, y -/
def swapB (sc : Scope) (ts es : List Expr) : Bool :=
  es.all nStar && allLoc sc (lineOf ts) ts && decide ((strsOf ts).length = ts.length) && decide ((strsOf ts).eraseDups.length = (strsOf ts).length) && !es.all (foldedForSure 8) && !es.all (constantsAlone 8)
section
variable {g : G} {cf : Nat → List D → Option RV} {M : Nat} {sc : Scope} {X : Cx} {P : Addr → Prop} {F : List Addr} {ρ : Env} {σ : L2.St} {H : Hp} {t : Expr}
theorem ix_in {pins : List (Addr × Obj)} {s : Shared} (I : Inv X pins σ H s) (r : RX X P F ρ σ H) {i : Nat} {x : Str} (h : X.N[i]? = some x) : i < ρ.length := by
  rw [← r.len, I.len]
  exact (List.getElem?_eq_some_iff.mp h).1
theorem evRs_cons {i : Nat} {c : Rh} {cs : Rhs} {xs : List (Nat × SV)} (h : evRs cf (.cons i c cs) ρ = some xs) : ∃ s xs', xs = (i, s) :: xs' ∧ evRs cf cs ρ = some xs' := by
  unfold evRs at h
  obtain ⟨s, _, h⟩ := Option.bind_eq_some_iff.mp h
  obtain ⟨xs', h', rfl⟩ := Option.map_eq_some_iff.mp h
  exact ⟨s, xs', rfl, h'⟩
theorem sS_par2 (G : Gd g cf sc X) {i j : Nat} {x y : Str} {r1 r2 : Rh} {a b : Expr} {px py pt p p2 : Pos} {kt k2 : Nat} (hi : X.N[i]? = some x) (hj : X.N[j]? = some y) (hij : i ≠ j) (hx : sc.names.lookup x = some .local) (hy : sc.names.lookup y = some .local)
    (hw : swapB sc [.Name x px, .Name y py] [a, b] = true) (h : cRs g X.N (.cons i r1 (.cons j r2 .nil)) sc [a, b] = true) :
    PS X (.Assign [.Tuple [.Name x px, .Name y py] kt pt] (.Tuple [a, b] k2 p2) p) (rdS X cf M (.par (.cons i r1 (.cons j r2 .nil)))) := by
  simp only [swapB, Bool.and_eq_true, decide_eq_true_eq, Bool.not_eq_true'] at hw
  obtain ⟨⟨⟨⟨⟨w1, w2⟩, w3⟩, w4⟩, w5⟩, w6⟩ := hw
  refine ⟨fun pins s σ H D I ⟨P, F, ρ, o, r, ev, q⟩ => ?_⟩
  have sw := swap_some (ts := [.Name x px, .Name y py]) (es := [a, b]) (k := kt) (k2 := k2) (p := pt) (p2 := p2) G.rel.locL I.ok.kind (.inl rfl) rfl w1 w2 w3 w4 w5 w6
  refine (ps_par G.calm G.nd hi hj hij (G.rel.locL x hx) (G.rel.locL y hy) (okRs G h) sw rfl).run pins s σ H D I ?_
  unfold evS at ev
  obtain ⟨xs, k1, rfl⟩ := Option.map_eq_some_iff.mp ev
  have hs : ∃ s1 s2, xs = [(i, s1), (j, s2)] := by
    obtain ⟨s1, _, rfl, k2⟩ := evRs_cons k1
    obtain ⟨s2, _, rfl, k3⟩ := evRs_cons k2
    cases k3
    exact ⟨s1, s2, rfl⟩
  obtain ⟨s1, s2, rfl⟩ := hs
  refine ⟨P, F, ρ, [], [], _, by simpa using r, r.len, k1, fun vs H' F' go sm hl r' => ?_⟩
  obtain ⟨v, w, rfl⟩ : ∃ v w, vs = [v, w] := by
    match vs, hl with
    | [v, w], _ => exact ⟨v, w, rfl⟩
  have li := ix_in I r hi
  have lj := ix_in I r hj
  have r1 : RX X P F' (ρ ++ some s1 :: [some s2]) (σ ++ some v :: [some w]) H' := by simpa using r'
  have r2 := R.take1 (i := i) r1 r.len li
  have r3 : RX X P F' ((ρ.set i (some s1) ++ [none]) ++ some s2 :: []) ((σ.set i (some v) ++ [none]) ++ some w :: []) H' := by simpa using r2
  have r4 := R.take1 (i := j) r3 (by simp [r.len]) (by simp; omega)
  rw [List.set_append_left _ _ (by simp; exact lj), List.set_append_left _ _ (by simp [r.len]; exact lj)] at r4
  have r5 : RX X P F' ((ρ.set i (some s1)).set j (some s2)) ((σ.set i (some v)).set j (some w)) H' := R.pre (L := [none, none]) (M := [none, none]) (by simpa using r4) (by simp [r.len])
  exact ⟨v, w, rfl, q _ H' F' r5 go⟩
theorem sS_par3 (G : Gd g cf sc X) {i j l : Nat} {x y z : Str} {r1 r2 r3 : Rh} {a b c : Expr} {px py pz pt p p2 : Pos} {kt k2 : Nat} (hi : X.N[i]? = some x) (hj : X.N[j]? = some y) (hl' : X.N[l]? = some z) (hij : i ≠ j) (hil : i ≠ l) (hjl : j ≠ l)
    (hx : sc.names.lookup x = some .local) (hy : sc.names.lookup y = some .local) (hz : sc.names.lookup z = some .local)
    (hw : swapB sc [.Name x px, .Name y py, .Name z pz] [a, b, c] = true) (h : cRs g X.N (.cons i r1 (.cons j r2 (.cons l r3 .nil))) sc [a, b, c] = true) :
    PS X (.Assign [.Tuple [.Name x px, .Name y py, .Name z pz] kt pt] (.Tuple [a, b, c] k2 p2) p) (rdS X cf M (.par (.cons i r1 (.cons j r2 (.cons l r3 .nil))))) := by
  simp only [swapB, Bool.and_eq_true, decide_eq_true_eq, Bool.not_eq_true'] at hw
  obtain ⟨⟨⟨⟨⟨w1, w2⟩, w3⟩, w4⟩, w5⟩, w6⟩ := hw
  refine ⟨fun pins s σ H D I ⟨P, F, ρ, o, r, ev, q⟩ => ?_⟩
  have sw := swap_some (ts := [.Name x px, .Name y py, .Name z pz]) (es := [a, b, c]) (k := kt) (k2 := k2) (p := pt) (p2 := p2) G.rel.locL I.ok.kind (.inr rfl) rfl w1 w2 w3 w4 w5 w6
  refine (ps_par3 G.calm G.nd hi hj hl' hij hil hjl (G.rel.locL x hx) (G.rel.locL y hy) (G.rel.locL z hz) (okRs G h) sw rfl).run pins s σ H D I ?_
  unfold evS at ev
  obtain ⟨xs, k1, rfl⟩ := Option.map_eq_some_iff.mp ev
  have hs : ∃ s1 s2 s3, xs = [(i, s1), (j, s2), (l, s3)] := by
    obtain ⟨s1, _, rfl, k2⟩ := evRs_cons k1
    obtain ⟨s2, _, rfl, k3⟩ := evRs_cons k2
    obtain ⟨s3, _, rfl, k4⟩ := evRs_cons k3
    cases k4
    exact ⟨s1, s2, s3, rfl⟩
  obtain ⟨s1, s2, s3, rfl⟩ := hs
  refine ⟨P, F, ρ, [], [], _, by simpa using r, r.len, k1, fun vs H' F' go sm hl r' => ?_⟩
  obtain ⟨v, w, u, rfl⟩ : ∃ v w u, vs = [v, w, u] := by
    match vs, hl with
    | [v, w, u], _ => exact ⟨v, w, u, rfl⟩
  have li := ix_in I r hi
  have lj := ix_in I r hj
  have ll := ix_in I r hl'
  have r1 : RX X P F' (ρ ++ some s1 :: [some s2, some s3]) (σ ++ some v :: [some w, some u]) H' := by simpa using r'
  have r2 := R.take1 (i := i) r1 r.len li
  have r3 : RX X P F' ((ρ.set i (some s1) ++ [none]) ++ some s2 :: [some s3]) ((σ.set i (some v) ++ [none]) ++ some w :: [some u]) H' := by simpa using r2
  have r4 := R.take1 (i := j) r3 (by simp [r.len]) (by simp; omega)
  rw [List.set_append_left _ _ (by simp; exact lj), List.set_append_left _ _ (by simp [r.len]; exact lj)] at r4
  have r5 : RX X P F' (((ρ.set i (some s1)).set j (some s2) ++ [none, none]) ++ some s3 :: []) (((σ.set i (some v)).set j (some w) ++ [none, none]) ++ some u :: []) H' := by simpa using r4
  have r6 := R.take1 (i := l) r5 (by simp [r.len]) (by simp; omega)
  rw [List.set_append_left _ _ (by simp; exact ll), List.set_append_left _ _ (by simp [r.len]; exact ll)] at r6
  have r7 : RX X P F' (((ρ.set i (some s1)).set j (some s2)).set l (some s3)) (((σ.set i (some v)).set j (some w)).set l (some u)) H' := R.pre (L := [none, none, none]) (M := [none, none, none]) (by simpa using r6) (by simp [r.len])
  exact ⟨v, w, u, rfl, q _ H' F' r7 go⟩
end

/-! ### the look at statements -/
def nmB (N : List Str) (sc : Scope) (i : Nat) (e : Expr) : Bool := match vName e with | some x => nameOk N sc i x | none => false
def tgB (N : List Str) (sc : Scope) (i : Nat) (e : Expr) : Bool := match vName e with | some x => decide (N[i]? = some x) && locB sc x | none => false
def isFrz : S → Option Nat
  | .frz i => some i
  | _ => none
section
variable (g : G) (N : List Str)
mutual
def cS : S → Scope → Stmt → Bool
  | .asg i r, sc, st => match vAsg st with
    | some (t, e, _) => match vNameP t with
      | some (x, px) => decide (N[i]? = some x) && locB sc x && (swF sc x px e || (swT sc x px e && ((lcOf r).isSome || lc2Of r))) && cR g N r sc e
      | none => false
    | none => false
  | .par rs, sc, st => match vAsg st with
    | some (t, e, _) => match vTup t, vTup e with
      | some [t1, t2], some [a, b] => match rs with
        | .cons i r1 (.cons j r2 .nil) => match vNameP t1, vNameP t2 with
          | some (x, px), some (y, py) => decide (N[i]? = some x) && decide (N[j]? = some y) && decide (i ≠ j) && decide (sc.names.lookup x = some .local) && decide (sc.names.lookup y = some .local) &&
            swapB sc [.Name x px, .Name y py] [a, b] && cRs g N (.cons i r1 (.cons j r2 .nil)) sc [a, b]
          | _, _ => false
        | _ => false
      | some [t1, t2, t3], some [a, b, c] => match rs with
        | .cons i r1 (.cons j r2 (.cons l r3 .nil)) => match vNameP t1, vNameP t2, vNameP t3 with
          | some (x, px), some (y, py), some (z, pz) => decide (N[i]? = some x) && decide (N[j]? = some y) && decide (N[l]? = some z) && decide (i ≠ j) && decide (i ≠ l) && decide (j ≠ l) &&
            decide (sc.names.lookup x = some .local) && decide (sc.names.lookup y = some .local) && decide (sc.names.lookup z = some .local) &&
            swapB sc [.Name x px, .Name y py, .Name z pz] [a, b, c] && cRs g N (.cons i r1 (.cons j r2 (.cons l r3 .nil))) sc [a, b, c]
          | _, _, _ => false
        | _ => false
      | _, _ => false
    | none => false
  | .unp is c, sc, st => match vAsg st with
    | some (t, e, _) => match vTup t with
      | some ts => tgNames N sc is ts && (nTup e || noSwapB sc ts) && cE g N c sc e
      | none => false
    | none => false
  | .aug i f c, sc, st => match vAug st with
    | some (t, op, e) => tgB N sc i t && decide (augOp f = some op) && cE g N c sc e
    | none => false
  | .setO i k v, sc, st => match vAsg st with
    | some (t, e, _) => match vSub t with
      | some (o, e2) => nmB N sc i o && nSlice e2 && cE g N k sc e2 && cE g N v sc e
      | none => false
    | none => false
  | .augO i f k v, sc, st => match vAug st with
    | some (t, op, e) => match vSub t with
      | some (o, e2) => nmB N sc i o && nSlice e2 && decide (augOp f = some op) && cE g N k sc e2 && cE g N v sc e
      | none => false
    | none => false
  | .setD i k v, sc, st => match vAsg st with
    | some (t, e, _) => match vSub t with
      | some (o, e2) => nmB N sc i o && nSlice e2 && cE g N k sc e2 && cE g N v sc e
      | none => false
    | none => false
  | .augD i f k v, sc, st => match vAug st with
    | some (t, op, e) => match vSub t with
      | some (o, e2) => nmB N sc i o && nSlice e2 && decide (augOp f = some op) && cE g N k sc e2 && cE g N v sc e
      | none => false
    | none => false
  | .popD i k, sc, st => match vExpr st with
    | some (e, _) => match vMeth e with
      | some (o, m, [e1], ln) => decide (m = ("pop" : Str)) && nmB N sc i o && ln && nStar e1 && cE g N k sc e1
      | _ => false
    | none => false
  | .app i c, sc, st => match vExpr st with
    | some (e, _) => match vMeth e with
      | some (o, m, [e1], ln) => decide (m = ("append" : Str)) && nmB N sc i o && ln && nStar e1 && cE g N c sc e1
      | _ => false
    | none => false
  | .popL j i, sc, st => match vAsg st with
    | some (t, e, _) => match vName t with
      | some x => match vMeth e with
        | some (o, m, [], ln) => decide (m = ("pop" : Str)) && decide (N[j]? = some x) && locB sc x && nmB N sc i o && ln
        | _ => false
      | none => false
    | none => false
  | .ifs c a b, sc, st => match vIfS st with
    | some (e, la, lb) => tOk e && cE g N c sc e && cSs a sc la && cSs b sc lb
    | none => false
  | .fr tg it b, sc, st => match vFor st with
    | some (te, ie, lb) => cTg N sc tg te && cI g N it sc te ie && nSet ie && cSs b sc lb
    | none => false
  | .whl c b, sc, st => match vWhl st with
    | some (e, lb) => tOk e && cE g N c sc e && cSs b sc lb
    | none => false
  | .ret c, sc, st => match vRet st with
    | some e => cE g N c sc e
    | none => false
  | .retO i, sc, st => match vRet st with
    | some e => nmB N sc i e
    | none => false
  | .setM i a b v, sc, st => match vAsg st with
    | some (t, e, _) => match vSub t with
      | some (t2, e2) => match vSub t2 with
        | some (o, e3) => nmB N sc i o && nSlice e2 && nSlice e3 && cE g N a sc e3 && cE g N b sc e2 && cE g N v sc e
        | none => false
      | none => false
    | none => false
  | .augM i f a b v, sc, st => match vAug st with
    | some (t, op, e) => match vSub t with
      | some (t2, e2) => match vSub t2 with
        | some (o, e3) => nmB N sc i o && nSlice e2 && nSlice e3 && decide (augOp f = some op) && cE g N a sc e3 && cE g N b sc e2 && cE g N v sc e
        | none => false
      | none => false
    | none => false
  | _, _, _ => false
/-- .frz is no statement of theirs: a list of one's own is from here on data -/
def cSs : Ss → Scope → List Stmt → Bool
  | .nil, _, l => l.isEmpty
  | .cons s ss, sc, l => match isFrz s with
    | some _ => cSs ss sc l
    | none => match l with
      | st :: l => cS s sc st && cSs ss sc l
      | [] => false
end
end
section
variable {g : G} {cf : Nat → List D → Option RV} {M : Nat}
theorem tgB_of {N : List Str} {sc : Scope} {i : Nat} {e : Expr} (h : tgB N sc i e = true) : ∃ x p, e = .Name x p ∧ N[i]? = some x ∧ locB sc x = true := by
  unfold tgB at h
  split at h
  · rename_i x hv
    obtain ⟨p, rfl⟩ := vName_of hv
    rw [Bool.and_eq_true, decide_eq_true_eq] at h
    exact ⟨x, p, rfl, h.1, h.2⟩
  · cases h
mutual
theorem okS : ∀ (c : S) {sc : Scope} {X : Cx} {st : Stmt}, Gd g cf sc X → PassesOwn (model X.prog X.w) X.A X.env X.xe → cS g X.N c sc st = true → PS X st (rdS X cf M c)
  | .asg i r, sc, X, st, G, hp, h => by
    unfold cS at h
    split at h
    · rename_i t e p hv
      split at h
      · rename_i x px hx
        have e1 := vAsg_of hv
        subst e1
        have e2 := vNameP_of hx
        subst e2
        simp only [Bool.and_eq_true, Bool.or_eq_true, decide_eq_true_eq] at h
        obtain ⟨⟨⟨h1, h2⟩, h3⟩, h4⟩ := h
        rcases h3 with h3 | ⟨h3, h5 | h5⟩
        · exact sS_set G h1 h2 h3 h4
        · exact sS_setLc G h1 h3 h5 h4
        · exact sS_setLc2 G h1 h3 h5 h4
      · cases h
    · cases h
  | .par rs, sc, X, st, G, hp, h => by
    unfold cS at h
    split at h
    · rename_i t e p hv
      split at h
      · rename_i t1 t2 a b ht he
        split at h
        · rename_i i r1 j r2
          split at h
          · rename_i x px y py hx hy
            have e1 := vAsg_of hv
            subst e1
            obtain ⟨k, tp, rfl⟩ := vTup_of ht
            obtain ⟨k2, tp2, rfl⟩ := vTup_of he
            have e2 := vNameP_of hx
            have e3 := vNameP_of hy
            subst e2 e3
            simp only [Bool.and_eq_true, decide_eq_true_eq] at h
            obtain ⟨⟨⟨⟨⟨⟨h1, h2⟩, h3⟩, h4⟩, h5⟩, h6⟩, h7⟩ := h
            exact sS_par2 G h1 h2 h3 h4 h5 h6 h7
          · cases h
        · cases h
      · rename_i t1 t2 t3 a b c ht he
        split at h
        · rename_i i r1 j r2 l r3
          split at h
          · rename_i x px y py z pz hx hy hz
            have e1 := vAsg_of hv
            subst e1
            obtain ⟨k, tp, rfl⟩ := vTup_of ht
            obtain ⟨k2, tp2, rfl⟩ := vTup_of he
            have e2 := vNameP_of hx
            have e3 := vNameP_of hy
            have e4 := vNameP_of hz
            subst e2 e3 e4
            simp only [Bool.and_eq_true, decide_eq_true_eq] at h
            obtain ⟨⟨⟨⟨⟨⟨⟨⟨⟨⟨h1, h2⟩, h3⟩, h4⟩, h5⟩, h6⟩, h7⟩, h8⟩, h9⟩, h10⟩, h11⟩ := h
            exact sS_par3 G h1 h2 h3 h4 h5 h6 h7 h8 h9 h10 h11
          · cases h
        · cases h
      · cases h
    · cases h
  | .unp is c, sc, X, st, G, hp, h => by
    unfold cS at h
    split at h
    · rename_i t e p hv
      split at h
      · rename_i ts ht
        have e1 := vAsg_of hv
        subst e1
        obtain ⟨k, tp, rfl⟩ := vTup_of ht
        simp only [Bool.and_eq_true] at h
        exact sS_unp G h.1.1 h.1.2 h.2
      · cases h
    · cases h
  | .aug i f c, sc, X, st, G, hp, h => by
    unfold cS at h
    split at h
    · rename_i t op e hv
      obtain ⟨p, rfl⟩ := vAug_of hv
      simp only [Bool.and_eq_true, decide_eq_true_eq] at h
      obtain ⟨x, px, rfl, h1, h2⟩ := tgB_of h.1.1
      exact sS_aug G h1 h2 h.1.2 h.2
    · cases h
  | .setO i k v, sc, X, st, G, hp, h => by
    unfold cS at h
    split at h
    · rename_i t e p hv
      split at h
      · rename_i o e2 ht
        have e1 := vAsg_of hv
        subst e1
        obtain ⟨tp, rfl⟩ := vSub_of ht
        simp only [Bool.and_eq_true] at h
        exact sS_setO G h.1.1.1 h.1.1.2 h.1.2 h.2
      · cases h
    · cases h
  | .augO i f k v, sc, X, st, G, hp, h => by
    unfold cS at h
    split at h
    · rename_i t op e hv
      split at h
      · rename_i o e2 ht
        obtain ⟨p, rfl⟩ := vAug_of hv
        obtain ⟨tp, rfl⟩ := vSub_of ht
        simp only [Bool.and_eq_true, decide_eq_true_eq] at h
        exact sS_augO G h.1.1.1.1 h.1.1.1.2 h.1.1.2 h.1.2 h.2
      · cases h
    · cases h
  | .setD i k v, sc, X, st, G, hp, h => by
    unfold cS at h
    split at h
    · rename_i t e p hv
      split at h
      · rename_i o e2 ht
        have e1 := vAsg_of hv
        subst e1
        obtain ⟨tp, rfl⟩ := vSub_of ht
        simp only [Bool.and_eq_true] at h
        exact sS_setD G h.1.1.1 h.1.1.2 h.1.2 h.2
      · cases h
    · cases h
  | .augD i f k v, sc, X, st, G, hp, h => by
    unfold cS at h
    split at h
    · rename_i t op e hv
      split at h
      · rename_i o e2 ht
        obtain ⟨p, rfl⟩ := vAug_of hv
        obtain ⟨tp, rfl⟩ := vSub_of ht
        simp only [Bool.and_eq_true, decide_eq_true_eq] at h
        exact sS_augD G h.1.1.1.1 h.1.1.1.2 h.1.1.2 h.1.2 h.2
      · cases h
    · cases h
  | .popD i k, sc, X, st, G, hp, h => by
    unfold cS at h
    split at h
    · rename_i e p hv
      split at h
      · rename_i o m e1 ln hm
        have e0 := vExpr_of hv
        subst e0
        obtain ⟨ap, cp, rfl, hl⟩ := vMeth_of hm
        simp only [Bool.and_eq_true, decide_eq_true_eq] at h
        exact sS_popD G h.1.1.1.1 h.1.1.1.2 (hl.trans h.1.1.2) h.1.2 h.2
      · cases h
    · cases h
  | .app i c, sc, X, st, G, hp, h => by
    unfold cS at h
    split at h
    · rename_i e p hv
      split at h
      · rename_i o m e1 ln hm
        have e0 := vExpr_of hv
        subst e0
        obtain ⟨ap, cp, rfl, hl⟩ := vMeth_of hm
        simp only [Bool.and_eq_true, decide_eq_true_eq] at h
        exact sS_app G h.1.1.1.1 h.1.1.1.2 (hl.trans h.1.1.2) h.1.2 h.2
      · cases h
    · cases h
  | .popL j i, sc, X, st, G, hp, h => by
    unfold cS at h
    split at h
    · rename_i t e p hv
      split at h
      · rename_i x ht
        split at h
        · rename_i o m ln hm
          have e0 := vAsg_of hv
          subst e0
          obtain ⟨px, rfl⟩ := vName_of ht
          obtain ⟨ap, cp, rfl, hl⟩ := vMeth_of hm
          simp only [Bool.and_eq_true, decide_eq_true_eq] at h
          exact sS_popL G h.1.1.1.1 h.1.1.1.2 h.1.1.2 h.1.2 (hl.trans h.2)
        · cases h
      · cases h
    · cases h
  | .ifs c a b, sc, X, st, G, hp, h => by
    unfold cS at h
    split at h
    · rename_i e la lb hv
      obtain ⟨p, rfl⟩ := vIfS_of hv
      simp only [Bool.and_eq_true] at h
      exact sS_ifs ((okE c G h.1.1.2).pt h.1.1.1) (okSs a G hp h.1.2) (okSs b G hp h.2)
    · cases h
  | .fr tg it b, sc, X, st, G, hp, h => by
    unfold cS at h
    split at h
    · rename_i te ie lb hv
      obtain ⟨p, rfl⟩ := vFor_of hv
      simp only [Bool.and_eq_true] at h
      exact sS_fr G hp h.1.1.1 h.1.1.2 h.1.2 (okSs b G hp h.2)
    · cases h
  | .whl c b, sc, X, st, G, hp, h => by
    unfold cS at h
    split at h
    · rename_i e lb hv
      obtain ⟨p, rfl⟩ := vWhl_of hv
      simp only [Bool.and_eq_true] at h
      exact sS_whl hp ((okE c G h.1.2).pt h.1.1) (okSs b G hp h.2)
    · cases h
  | .ret c, sc, X, st, G, hp, h => by
    unfold cS at h
    split at h
    · rename_i e hv
      obtain ⟨p, rfl⟩ := vRet_of hv
      exact sS_ret G h
    · cases h
  | .retO i, sc, X, st, G, hp, h => by
    unfold cS at h
    split at h
    · rename_i e hv
      obtain ⟨p, rfl⟩ := vRet_of hv
      exact sS_retO G h
    · cases h
  | .setM i a b v, sc, X, st, G, hp, h => by
    unfold cS at h
    split at h
    · rename_i t e p hv
      split at h
      · rename_i t2 e2 ht
        split at h
        · rename_i o e3 ht2
          have e0 := vAsg_of hv
          subst e0
          obtain ⟨tp, rfl⟩ := vSub_of ht
          obtain ⟨tp2, rfl⟩ := vSub_of ht2
          simp only [Bool.and_eq_true] at h
          obtain ⟨⟨⟨⟨⟨h1, h2⟩, h3⟩, h4⟩, h5⟩, h6⟩ := h
          exact sS_setM G h1 h2 h3 h4 h5 h6
        · cases h
      · cases h
    · cases h
  | .augM i f a b v, sc, X, st, G, hp, h => by
    unfold cS at h
    split at h
    · rename_i t op e hv
      split at h
      · rename_i t2 e2 ht
        split at h
        · rename_i o e3 ht2
          obtain ⟨p, rfl⟩ := vAug_of hv
          obtain ⟨tp, rfl⟩ := vSub_of ht
          obtain ⟨tp2, rfl⟩ := vSub_of ht2
          simp only [Bool.and_eq_true, decide_eq_true_eq] at h
          obtain ⟨⟨⟨⟨⟨⟨h1, h2⟩, h3⟩, h4⟩, h5⟩, h6⟩, h7⟩ := h
          exact sS_augM G h1 h2 h3 h4 h5 h6 h7
        · cases h
      · cases h
    · cases h
  | .frz .., sc, X, st, G, hp, h => by unfold cS at h; cases h
theorem okSs : ∀ (c : Ss) {sc : Scope} {X : Cx} {l : List Stmt}, Gd g cf sc X → PassesOwn (model X.prog X.w) X.A X.env X.xe → cSs g X.N c sc l = true → PSs X l (rdSs X cf M c)
  | .nil, sc, X, l, G, hp, h => by
    cases l with
    | nil =>
      refine pss_nil.mono fun D σ H ⟨P, F, ρ, o, r, ev, q⟩ => ?_
      cases ev
      exact q σ H F r Go.refl
    | cons _ _ => simp [cSs] at h
  | .cons s ss, sc, X, l, G, hp, h => by
    unfold cSs at h
    split at h
    · rename_i i hi
      have hs : s = .frz i := by
        unfold isFrz at hi
        split at hi
        · cases hi; rfl
        · cases hi
      refine (okSs ss G hp h).mono fun D σ H ⟨P, F, ρ, o, r, ev, q⟩ => ?_
      subst hs
      unfold evSs at ev
      obtain ⟨o1, k1, ev⟩ := Option.bind_eq_some_iff.mp ev
      unfold evS at k1
      split at k1
      · rename_i ds e1
        cases k1
        obtain ⟨F', r', go⟩ := r.frz e1
        exact ⟨P, F', _, o, r', ev, q.go go⟩
      · rename_i dss e1
        cases k1
        obtain ⟨F', r', go⟩ := r.frzM e1
        exact ⟨P, F', _, o, r', ev, q.go go⟩
      · cases k1
    · cases l with
      | nil => cases h
      | cons st l =>
        simp only [Bool.and_eq_true] at h
        refine (pss_cons (okS s G hp h.1) (okSs ss G hp h.2)).mono fun D σ H ⟨P, F, ρ, o, r, ev, q⟩ => ?_
        unfold evSs at ev
        obtain ⟨o1, k1, ev⟩ := Option.bind_eq_some_iff.mp ev
        refine ⟨P, F, ρ, o1, r, k1, ?_⟩
        cases o1 with
        | nx ρ' => exact fun σ' H' F' r' go => ⟨P, F', ρ', o, r', ev, q.go go⟩
        | rt rv ρ' =>
          cases ev
          exact q
end
end
end Bw

/-! Bw, part R: defs: each does what ours does, to any depth of calls; the law. -/
namespace Bw
open PySem PySem.Spec PyProof.Rows L2

structure DI where
  id : Nat
  name : Str
  st : Stmt
  N : List Str
  ps : List Str
  fd : FD
def byId (tab : List DI) (i : Nat) : Option DI := tab.find? fun e => e.id == i
def gOf (tab : List DI) (bn : List Str) : G := ⟨fun i => (byId tab i).map (·.name), bn⟩
def tabF (tab : List DI) : Nat → Option FD := fun i => (byId tab i).map (·.fd)
/-- what is looked at in a def -/
def lookD (tab : List DI) (bn : List Str) (d : DI) : Bool := cSs (gOf tab bn) d.N d.fd.body (defScope d.st) (defBody d.st) && decide (d.fd.np = d.ps.length) && decide (d.fd.ns = d.N.length)
/-- a def whose walk is done by hand: what it gives is f -/
def NatBody (g : G) (sc : Scope) (N : List Str) (l : List Stmt) (f : List D → Option RV) : Prop := ∀ (X : Cx) (cf : Nat → List D → Option RV), Gd g cf sc X → X.N = N → PassesOwn (model X.prog X.w) X.A X.env X.xe →
  PSs X l fun En σ H => ∃ (P : Addr → Prop) (vs : List V) (ds : List D) (r : RV), (∀ b, H b = none → P b) ∧ σ = L2.start N vs ∧ DaL X.K H P vs ds ∧ f ds = some r ∧ ∀ v H', Same H H' → RepR X.prog X.w X.K H H' P v r → En.rt v H'
inductive BodyOk (tab : List DI) (bn : List Str) (d : DI) : Prop where
  | look : d.fd.nat = none → lookD tab bn d = true → BodyOk tab bn d
  | hand (f : List D → Option RV) : d.fd.nat = some f → d.fd.np = d.ps.length → NatBody (gOf tab bn) (defScope d.st) d.N (defBody d.st) f → BodyOk tab bn d
theorem BodyOk.np {tab : List DI} {bn : List Str} {d : DI} (b : BodyOk tab bn d) : d.fd.np = d.ps.length := by
  cases b with
  | look _ h =>
    unfold lookD at h
    simp only [Bool.and_eq_true, decide_eq_true_eq] at h
    exact h.1.2
  | hand f _ h _ => exact h
structure DOk (tab : List DI) (bn : List Str) (d : DI) : Prop where
  sc : FnScope d.N d.ps (defScope d.st)
  body : BodyOk tab bn d
  self : byId tab d.id = some d
  bind : ∀ (kV doc pm : Value) (an : Option Addr) (cdv ct : Value) (us : List Value), us.length = d.ps.length → bindArgs (PySem.W.fnOf d.name d.name (defArgs d.st) (defBody d.st) (defScope d.st) .none kV doc pm an cdv ct) ⟨us, []⟩ = pure (d.ps.zip us)
section
variable {prog : Program} {w : World} {K : W.Frag} {mg : Str → Option Value} {base : Heap}
theorem R.start {P : Addr → Prop} {H : Hp} {fd : FD} {N : List Str} {vs : List V} {ds : List D} (hN : fd.ns = N.length) (hp : ∀ b, H b = none → P b) (da : DaL K H P vs ds) : R prog w K P [] (startE fd ds) (L2.start N vs) H := by
  have hl := da.length
  have key : ∀ {i : Nat} {s : SV}, (startE fd ds)[i]? = some (some s) → ∃ d, ds[i]? = some d ∧ s = .dat d := fun {i s} e => by
    unfold startE at e
    by_cases hi : i < ds.length
    · rw [List.getElem?_append_left (by rw [List.length_map]; exact hi), List.getElem?_map] at e
      obtain ⟨d, h1, h2⟩ := Option.map_eq_some_iff.mp e
      cases h2
      exact ⟨d, h1, rfl⟩
    · rw [List.getElem?_append_right (by rw [List.length_map]; omega), List.getElem?_replicate] at e
      split at e <;> cases e
  refine ⟨?_, (fun b hb => by cases hb), hp, fun i s e => ?_, fun i j s t v u b ne e1 e2 e3 e4 f g => ?_⟩
  · unfold startE L2.start
    simp only [List.length_append, List.length_map, List.length_replicate]
    omega
  · obtain ⟨d, h1, rfl⟩ := key e
    obtain ⟨v, h2, h3⟩ := da.get h1
    refine ⟨v, ?_, h3.weak fun b o p _ => ⟨p, by simp⟩⟩
    unfold L2.start
    rw [List.getElem?_append_left (by rw [List.length_map]; exact (List.getElem?_eq_some_iff.mp h2).1), List.getElem?_map, h2]
    rfl
  · obtain ⟨d, _, rfl⟩ := key e1
    exact f.elim
theorem RepR.of {P : Addr → Prop} {F' : List Addr} {H H' : Hp} {v : V} {r : RV} (go : Go [] H F' H') (h : RepS prog w K P F' H' v r.sv) : RepR prog w K H H' P v r := by
  cases r with
  | dat d => exact Da.weak h fun b o p _ => p.1
  | own ds =>
    obtain ⟨p, vs, h1, h2, h3, h4, h5, h6⟩ := h
    subst h1
    exact ⟨p, vs, ds, rfl, rfl, (go.sub p h2).elim (fun z => by cases z) id, h4, h5, h6.weak fun b o q _ => ⟨q.1, fun z => q.2 (by rw [z]; exact h2)⟩⟩
  | dct n kvs =>
    obtain ⟨p, h1, h2, h3⟩ := h
    exact ⟨p, h1, (go.sub p h2).elim (fun z => by cases z) id, h3.mono .refl (fun b o q _ => ⟨q.1, fun z => q.2 (by rw [z]; exact h2)⟩) fun o e => e⟩
abbrev FunI (K : W.Frag) (d : DI) (fd : FuncData) : Prop := FunD K d.name d.name (defArgs d.st) (defBody d.st) (defScope d.st) [] [] (He.ga K d.name) fd
/-- all defs, to the depth k -/
theorem defs_ok {tab : List DI} {bn : List Str} (M : Nat) (ok : ∀ d ∈ tab, DOk tab bn d) (hmg : ∀ d ∈ tab, mg d.name = some (.ref (He.ga K d.name))) (hbn : ∀ x, bn.contains x = true → mg x = none) (hfun : ∀ d ∈ tab, ∃ fd, FunI K d fd) :
    ∀ (k : Nat) (d : DI) (fd : FuncData), d ∈ tab → FunI K d fd → FnOk prog w K mg base CX0 (k + 1) (He.ga K d.name) fd d.ps (spF prog w K (callF (tabF tab) M k) d.id d.ps.length)
  | 0, d, fd, hd, F => F.ok (ok d hd).sc (fun vs H Q E h => h.1) fun cdv A outer s H vs Q E hr h => by
    obtain ⟨_, P, ds, r, _, _, e, _⟩ := h
    cases e
  | k + 1, d, fd, hd, F => F.ok (ok d hd).sc (fun vs H Q E h => h.1) fun cdv A outer s H vs Q E hr h => by
    have o := ok d hd
    have G : Gd (gOf tab bn) (callF (tabF tab) M k) (defScope d.st) (cxOf CX0 prog w K mg base d.N d.name (defScope d.st) (He.ga K d.name) cdv A outer s H E).nox := by
      refine ⟨rfl, o.sc.nd, ?_, ScRel.refl (env := envOfC d.name (defScope d.st) s.heap.objs.size (He.ga K d.name) cdv), hbn, fun x _ => .inl rfl, fun id x hx => ?_⟩
      · have := hr.un
        show (A.deeper _).units + 70 < cLine
        omega
      · have hx' : (byId tab id).map (·.name) = some x := hx
        obtain ⟨d', h1, rfl⟩ := Option.map_eq_some_iff.mp hx'
        have hm : d' ∈ tab := List.mem_of_find?_eq_some h1
        have hid : d'.id = id := by
          have := List.find?_some h1
          simpa using this
        obtain ⟨fd', F'⟩ := hfun d' hm
        subst hid
        refine ⟨k + 1, He.ga K d'.name, fd', d'.ps, hmg d' hm, F'.kp, F'.bindsN (ok d' hm).bind, hr, defs_ok M ok hmg hbn hfun k d' fd' hm F', fun ds r e => ?_⟩
        cases k with
        | zero => cases e
        | succ k =>
          unfold callF at e
          obtain ⟨fd0, e1, e⟩ := Option.bind_eq_some_iff.mp e
          have e1' : (byId tab d'.id).map (·.fd) = some fd0 := e1
          rw [h1] at e1'
          cases e1'
          split at e
          · rename_i hlen
            have lk' := (ok d' hm).body.np
            have hlen' : ds.length = d'.fd.np := hlen
            omega
          · cases e
    obtain ⟨hlen, P, ds, r, hp, da, e, q⟩ := h
    unfold callF at e
    obtain ⟨fd0, e1, e⟩ := Option.bind_eq_some_iff.mp e
    have e1' : (byId tab d.id).map (·.fd) = some fd0 := e1
    rw [o.self] at e1'
    cases e1'
    rcases o.body with ⟨hn, hlk⟩ | ⟨f, hn, hnp, hb⟩
    case hand =>
      refine ⟨_, PSs.nox (hb _ _ G rfl PassesOwn.never), P, vs, ds, r, hp, rfl, da, ?_, q⟩
      split at e
      · have hn' : (DI.fd d).nat = some f := hn
        simp only [hn'] at e
        exact e
      · cases e
    unfold lookD at hlk
    simp only [Bool.and_eq_true, decide_eq_true_eq] at hlk
    obtain ⟨⟨l1, l2⟩, l3⟩ := hlk
    refine ⟨rdSs _ (callF (tabF tab) M k) M d.fd.body, PSs.nox (okSs d.fd.body G PassesOwn.never l1), ?_⟩
    split at e
    · have hn' : (DI.fd d).nat = none := hn
      simp only [hn'] at e
      obtain ⟨out, e2, e3⟩ := Option.map_eq_some_iff.mp e
      refine ⟨P, [], startE d.fd ds, out, R.start l3 hp da, e2, ?_⟩
      cases out with
      | nx ρ' =>
        cases e3
        exact fun σ' H' F' r' go => q .non H' (fun b o e => go.step.keep b o e (by simp)) .non
      | rt rv ρ' =>
        cases e3
        exact fun v H' F' rep go => q v H' (fun b o e => go.step.keep b o e (by simp)) (RepR.of go rep)
    · cases e
/-- the law's promise -/
theorem law_sp {tab : List DI} {M k i : Nat} {n : Nat} (hv : ∀ ns : List Int, ns.length ≤ n → callF (tabF tab) M k i [scrD ns] = some (.dat (.bool true))) (H : Hp) (a : Addr) (ns : List Int) (hn : ns.length ≤ n) (hO : Only H) (hS : SqL K H a (ns.map V.int)) :
    spF prog w K (callF (tabF tab) M k) i 1 [.ref a] H (fun v _ => v = .bl true) fun _ _ _ => False := by
  refine ⟨rfl, fun _ => True, [scrD ns], .dat (.bool true), fun _ _ => trivial, .cons (.scr ?_) .nil, hv ns hn, fun v H' s rep => ?_⟩
  · rcases hS with (h | ⟨o, h⟩) | ⟨o, its, m, h⟩
    · rcases hO a with z | ⟨o, xs, z⟩
      · rw [h] at z; cases z
      · rw [h] at z; cases z
    · exact .inl ⟨o, h⟩
    · exact .inr ⟨o, its, m, h⟩
  · have rep' : Da K H' (fun _ => True) v (.bool true) := rep
    cases rep'
    rfl
end

/-! ### the head's data -/
def defD (d : DI) : He.DefD := ⟨(d.name, none), d.name, d.name, defArgs d.st, defBody d.st, defScope d.st, [], []⟩
def fasOf (tab : List DI) (bn : List Str) : List He.Fa := tab.map (fun d => He.Fa.glo d.name) ++ bn.map He.Fa.free
theorem law_fn {prog : Program} {w : World} {K : W.Frag} {h : Heap} {mg : Str → Option Value} {f : Addr} {tab : List DI} {bn : List Str} {d : DI} (M k : Nat) (ok : ∀ d ∈ tab, DOk tab bn d) (hd : d ∈ tab) (X : K.In h) (Gm : h.Ns mainGlobals mg) (hfa : mg d.name = some (.ref f))
    (c : He.SaysD (fasOf tab bn) (tab.map defD) K) {x : Str} (hx : d.ps = [x]) :
    ∃ fd : FuncData, (∀ (s : Shared) (v : Value), BindsTo s fd ⟨[v], []⟩ [(x, v)]) ∧ ∀ base : Heap, FnOk prog w K mg base CX0 (k + 1) f fd [x] (spF prog w K (callF (tabF tab) M k) d.id 1) := by
  have hmg : ∀ d ∈ tab, mg d.name = some (.ref (He.ga K d.name)) := fun d hi => by
    obtain ⟨i, hi⟩ := List.getElem?_of_mem hi
    refine He.glo_ok X Gm (c.fact i ?_)
    unfold fasOf
    rw [List.getElem?_append_left (by rw [List.length_map]; exact (List.getElem?_eq_some_iff.mp hi).1), List.getElem?_map, hi]
    rfl
  have hbn : ∀ x, bn.contains x = true → mg x = none := fun x hx => by
    obtain ⟨j, hj⟩ := List.getElem?_of_mem (by simpa using hx : x ∈ bn)
    refine He.free_ok X Gm (c.fact (tab.length + j) ?_)
    unfold fasOf
    rw [List.getElem?_append_right (by rw [List.length_map]; omega), List.length_map, Nat.add_sub_cancel_left, List.getElem?_map, hj]
    rfl
  have hfun : ∀ d ∈ tab, ∃ fd, FunI K d fd := fun d hi => by
    obtain ⟨i, hi⟩ := List.getElem?_of_mem hi
    exact c.def_ i (d := defD d) (by rw [List.getElem?_map, hi]; rfl)
  obtain ⟨fd, F⟩ := hfun d hd
  have e := hfa.symm.trans (hmg d hd)
  cases e
  have b := FunD.bindsA (ps := d.ps) F (ok d hd).bind
  refine ⟨fd, fun s v => ?_, fun base => ?_⟩
  · have := b s [v] (by rw [hx]; rfl)
    rw [hx] at this
    exact this
  · have := defs_ok (prog := prog) (w := w) (base := base) M ok hmg hbn hfun k d fd hd F
    rw [hx] at this
    exact this
end Bw

/-! Bw, part T: the texts of the program and of the laws in our own words (printed by printer.py; nothing of theirs is copied, each is looked at against the given form). -/
namespace Bw
def b_is_number : Ss := (.cons (.ret (.and (.cons (.isi (.nm 0) [.int]) (.cons (.un .not (.isi (.nm 0) [.bool])) (.cons (.chain .le .le (.nm 1) (.nm 0) (.nm 2)) .nil))))) .nil)
def f_is_number : FD := ⟨3, 3, b_is_number, none⟩
def b_is_name : Ss := (.cons (.asg 1 (.d (.cst (.str "abcdefghijklmnopqrstuvwxyz")))) (.cons (.ret (.and (.cons (.isi (.nm 0) [.str]) (.cons (.chain .le .le (.cst (.int 1)) (.un .len (.nm 0)) (.cst (.int 8))) (.cons (.un .all (.lc [2] (.n 2) (.chars (.nm 0)) .no (.bin .mem (.nm 2) (.nm 1)))) .nil))))) .nil))
def f_is_name : FD := ⟨1, 3, b_is_name, none⟩
def b_rises : Ss := (.cons (.ret (.un .all (.lc [1, 2] (.t [1, 2]) (.zip (.nm 0) (.slc (.nm 0) (.yes (.cst (.int 1))) .no)) .no (.bin .lt (.nm 1) (.nm 2))))) .nil)
def f_rises : FD := ⟨1, 3, b_rises, none⟩
def b_is_rule : Ss := (.cons (.ifs (.or (.cons (.un .not (.isi (.nm 1) [.tuple])) (.cons (.bin .ne (.un .len (.nm 1)) (.cst (.int 4))) .nil))) (.cons (.ret (.cst (.bl false))) .nil) .nil) (.cons (.unp [2, 3, 4, 5] (.nm 1)) (.cons (.ifs (.or (.cons (.un .not (.isi (.nm 2) [.str])) (.cons (.un .not (.isi (.nm 4) [.str])) (.cons (.bin .nmem (.nm 2) (.nm 0)) (.cons (.bin .nmem (.nm 4) (.nm 0)) .nil))))) (.cons (.ret (.cst (.bl false))) .nil) .nil) (.cons (.ret (.and (.cons (.call 0 (.cons (.nm 3) (.cons (.cst (.int 1)) (.cons (.cst (.int 4)) .nil)))) (.cons (.call 0 (.cons (.nm 5) (.cons (.cst (.int 1)) (.cons (.cst (.int 3)) .nil)))) .nil)))) .nil))))
def f_is_rule : FD := ⟨2, 6, b_is_rule, none⟩
def b_is_book : Ss := (.cons (.ifs (.or (.cons (.un .not (.isi (.nm 0) [.tuple])) (.cons (.bin .ne (.un .len (.nm 0)) (.cst (.int 2))) (.cons (.un .not (.un .all (.lc [4] (.n 4) (.ex (.nm 0)) .no (.isi (.nm 4) [.tuple])))) .nil)))) (.cons (.ret (.cst (.bl false))) .nil) .nil) (.cons (.unp [1, 2] (.nm 0)) (.cons (.ifs (.or (.cons (.un .not (.chain .le .le (.cst (.int 1)) (.un .len (.nm 1)) (.cst (.int 5)))) (.cons (.un .not (.un .all (.lc [5] (.n 5) (.ex (.nm 1)) .no (.call 1 (.cons (.nm 5) .nil))))) (.cons (.un .not (.call 2 (.cons (.nm 1) .nil))) .nil)))) (.cons (.ret (.cst (.bl false))) .nil) .nil) (.cons (.ifs (.or (.cons (.bin .gt (.un .len (.nm 2)) (.cst (.int 12))) (.cons (.un .not (.un .all (.lc [3] (.n 3) (.ex (.nm 2)) .no (.call 3 (.cons (.nm 1) (.cons (.nm 3) .nil)))))) .nil))) (.cons (.ret (.cst (.bl false))) .nil) .nil) (.cons (.ret (.call 2 (.cons (.lc [3] (.n 3) (.ex (.nm 2)) .no (.slc (.nm 3) .no (.yes (.cst (.int 3))))) .nil))) .nil)))))
def f_is_book : FD := ⟨1, 6, b_is_book, none⟩
def b_is_start : Ss := (.cons (.ret (.and (.cons (.isi (.nm 1) [.tuple]) (.cons (.bin .eq (.un .len (.nm 1)) (.un .len (.bin .idx (.nm 0) (.cst (.int 0))))) (.cons (.un .all (.lc [2] (.n 2) (.ex (.nm 1)) .no (.call 0 (.cons (.nm 2) (.cons (.cst (.int 0)) (.cons (.cst (.int 9)) .nil)))))) .nil))))) .nil)
def f_is_start : FD := ⟨2, 3, b_is_start, none⟩
def b_law_cell : Ss := (.cons (.ifs (.bin .lt (.nm 1) (.un .len (.nm 0))) (.cons (.ret (.bin .idx (.nm 0) (.nm 1))) .nil) .nil) (.cons (.ifs (.bin .eq (.un .len (.nm 0)) (.cst (.int 0))) (.cons (.ret (.bin .add (.bin .mul (.cst (.int 7919)) (.nm 1)) (.cst (.int 101)))) .nil) .nil) (.cons (.ret (.bin .add (.bin .mod (.bin .idx (.nm 0) (.bin .mod (.nm 1) (.un .len (.nm 0)))) (.cst (.int 1000003))) (.bin .mul (.cst (.int 7919)) (.nm 1)))) .nil)))
def f_law_cell : FD := ⟨2, 2, b_law_cell, none⟩
def b_law_draws : Ss := (.cons (.asg 4 (.d (.tup (.cons (.cst (.int 2147483647)) (.cons (.cst (.int 2147483629)) (.cons (.cst (.int 2147483587)) (.cons (.cst (.int 2147483579)) (.cons (.cst (.int 2147483563)) (.cons (.cst (.int 2147483549)) (.cons (.cst (.int 2147483543)) (.cons (.cst (.int 2147483497)) .nil))))))))))) (.cons (.asg 5 (.d (.call 6 (.cons (.nm 0) (.cons (.nm 1) .nil))))) (.cons (.asg 6 (.d (.cst (.int 0)))) (.cons (.ifs (.bin .ge (.nm 5) (.bin .pow (.cst (.int 10)) (.cst (.int 18)))) (.cons (.asg 6 (.d (.nm 5))) .nil) .nil) (.cons (.asg 7 (.o (.lst .nil))) (.cons (.fr (.n 8) (.rng (.nm 2)) (.cons (.asg 9 (.d (.bin .mul (.bin .mod (.nm 5) (.bin .idx (.nm 4) (.bin .mod (.nm 8) (.cst (.int 8))))) (.bin .add (.cst (.int 48271)) (.bin .mul (.bin .mul (.cst (.int 2)) (.nm 8)) (.nm 8)))))) (.cons (.asg 9 (.d (.bin .add (.bin .add (.nm 9) (.bin .mul (.bin .mul (.cst (.int 7919)) (.bin .add (.nm 8) (.cst (.int 1)))) (.bin .add (.nm 8) (.cst (.int 1))))) (.bin .mul (.cst (.int 104729)) (.nm 1))))) (.cons (.asg 9 (.d (.bin .mod (.nm 9) (.bin .idx (.nm 4) (.bin .mod (.bin .add (.bin .mul (.cst (.int 3)) (.nm 8)) (.nm 1)) (.cst (.int 8))))))) (.cons (.asg 9 (.d (.bin .mod (.bin .mul (.bin .mul (.nm 9) (.nm 9)) (.nm 9)) (.bin .idx (.nm 4) (.bin .mod (.bin .add (.nm 8) (.cst (.int 5))) (.cst (.int 8))))))) (.cons (.ifs (.bin .gt (.nm 6) (.cst (.int 0))) (.cons (.asg 9 (.d (.nm 6))) .nil) .nil) (.cons (.app 7 (.bin .mod (.nm 9) (.nm 3))) (.cons (.asg 6 (.d (.bin .fdiv (.nm 6) (.nm 3)))) .nil)))))))) (.cons (.retO 7) .nil)))))))
def f_law_draws : FD := ⟨4, 10, b_law_draws, none⟩
def b_law_number : Ss := (.cons (.ret (.and (.cons (.isi (.nm 0) [.int]) (.cons (.un .not (.isi (.nm 0) [.bool])) (.cons (.chain .le .le (.nm 1) (.nm 0) (.nm 2)) .nil))))) .nil)
def f_law_number : FD := ⟨3, 3, b_law_number, none⟩
def b_law_truly : Ss := (.cons (.ret (.and (.cons (.isi (.nm 0) [.bool]) (.cons (.bin .eq (.nm 0) (.nm 1)) .nil)))) .nil)
def f_law_truly : FD := ⟨2, 2, b_law_truly, none⟩
def b_law_places : Ss := (.cons (.asg 1 (.d (.lst (.cons (.tup .nil) .nil)))) (.cons (.ifs (.isi (.nm 0) [.list, .tuple]) (.cons (.fr (.t [2, 3]) (.enum (.nm 0)) (.cons (.asg 1 (.d (.bin .add (.nm 1) (.lc [4] (.n 4) (.ex (.call 10 (.cons (.nm 3) .nil))) .no (.bin .add (.tup (.cons (.nm 2) .nil)) (.nm 4)))))) .nil)) .nil) .nil) (.cons (.ret (.nm 1)) .nil)))
def f_law_places : FD := ⟨1, 5, b_law_places, none⟩
def b_law_shifted : Ss := (.cons (.asg 3 (.d (.bin .mod (.bin .idx (.nm 2) (.cst (.int 2))) (.un .len (.nm 0))))) (.cons (.ifs (.bin .eq (.bin .mod (.bin .idx (.nm 2) (.cst (.int 0))) (.cst (.int 3))) (.cst (.int 0))) (.cons (.ret (.bin .add (.slc (.nm 0) .no (.yes (.nm 1))) (.slc (.nm 0) (.yes (.bin .add (.nm 1) (.cst (.int 1)))) .no))) .nil) .nil) (.cons (.ifs (.bin .eq (.bin .mod (.bin .idx (.nm 2) (.cst (.int 0))) (.cst (.int 3))) (.cst (.int 1))) (.cons (.ret (.bin .add (.bin .add (.slc (.nm 0) .no (.yes (.nm 3))) (.lst (.cons (.bin .idx (.nm 0) (.nm 1)) .nil))) (.slc (.nm 0) (.yes (.nm 3)) .no))) .nil) .nil) (.cons (.asg 4 (.d (.bin .add (.slc (.nm 0) .no (.yes (.nm 1))) (.slc (.nm 0) (.yes (.bin .add (.nm 1) (.cst (.int 1)))) .no)))) (.cons (.ret (.bin .add (.bin .add (.slc (.nm 4) .no (.yes (.nm 3))) (.lst (.cons (.bin .idx (.nm 0) (.nm 1)) .nil))) (.slc (.nm 4) (.yes (.nm 3)) .no))) .nil)))))
def f_law_shifted : FD := ⟨3, 5, b_law_shifted, none⟩
def b_law_bent : Ss := (.cons (.asg 2 (.d (.call 10 (.cons (.nm 0) .nil)))) (.cons (.ret (.call 13 (.cons (.nm 0) (.cons (.bin .idx (.nm 2) (.bin .mod (.bin .idx (.nm 1) (.cst (.int 4))) (.un .len (.nm 2)))) (.cons (.nm 1) .nil))))) .nil))
def f_law_bent : FD := ⟨2, 3, b_law_bent, none⟩
def b_law_thing : Ss := (.cons (.asg 2 (.d (.bin .mod (.bin .idx (.nm 0) (.nm 1)) (.cst (.int 12))))) (.cons (.asg 3 (.d (.bin .idx (.lst (.cons (.bin .sub (.bin .mod (.bin .idx (.nm 0) (.bin .add (.nm 1) (.cst (.int 1)))) (.cst (.int 12))) (.cst (.int 2))) (.cons (.bin .sub (.cst (.int 0)) (.bin .pow (.cst (.int 10)) (.cst (.int 39)))) (.cons (.bin .pow (.cst (.int 10)) (.cst (.int 39))) .nil)))) (.bin .mod (.bin .idx (.nm 0) (.bin .add (.nm 1) (.cst (.int 2)))) (.cst (.int 3)))))) (.cons (.ifs (.or (.cons (.bin .lt (.nm 2) (.cst (.int 4))) (.cons (.bin .gt (.nm 1) (.cst (.int 3))) .nil))) (.cons (.ret (.nm 3)) .nil) .nil) (.cons (.ifs (.bin .lt (.nm 2) (.cst (.int 7))) (.cons (.ret (.bin .idx (.lst (.cons (.cst (.bl true)) (.cons (.cst (.bl false)) (.cons (.cst .non) .nil)))) (.bin .sub (.nm 2) (.cst (.int 4))))) .nil) .nil) (.cons (.ifs (.bin .lt (.nm 2) (.cst (.int 9))) (.cons (.ret (.bin .idx (.lst (.cons (.cst (.str "")) (.cons (.cst (.str "0")) (.cons (.cst (.str "1-0")) (.cons (.cst (.str "hall")) (.cons (.cst (.str "3")) (.cons (.cst (.str "none")) (.cons (.cst (.str "1:")) (.cons (.cst (.str "~")) .nil))))))))) (.bin .mod (.bin .idx (.nm 0) (.bin .add (.nm 1) (.cst (.int 3)))) (.cst (.int 8))))) .nil) .nil) (.cons (.asg 4 (.d (.lc [5] (.n 5) (.rng (.bin .mod (.bin .idx (.nm 0) (.bin .add (.nm 1) (.cst (.int 4)))) (.cst (.int 4)))) .no (.call 15 (.cons (.bin .add (.slc (.nm 0) (.yes (.nm 5)) .no) (.slc (.nm 0) .no (.yes (.nm 5)))) (.cons (.bin .add (.nm 1) (.cst (.int 1))) .nil)))))) (.cons (.ret (.ife (.bin .eq (.nm 2) (.cst (.int 9))) (.nm 4) (.un .tuple (.nm 4)))) .nil)))))))
def f_law_thing : FD := ⟨2, 6, b_law_thing, none⟩
def b_law_kinds : Ss := (.cons (.ret (.slc (.tup (.cons (.cst (.str "ash")) (.cons (.cst (.str "bay")) (.cons (.cst (.str "cod")) (.cons (.cst (.str "dew")) (.cons (.cst (.str "elm")) .nil)))))) .no (.yes (.nm 0)))) .nil)
def f_law_kinds : FD := ⟨1, 1, b_law_kinds, none⟩
def b_law_book : Ss := (.cons (.asg 2 (.d (.call 16 (.cons (.bin .add (.cst (.int 1)) (.bin .mod (.bin .idx (.nm 0) (.cst (.int 0))) (.cst (.int 5)))) .nil)))) (.cons (.asg 3 (.dnew true)) (.cons (.fr (.n 4) (.rng (.bin .mod (.bin .idx (.nm 0) (.cst (.int 1))) (.cst (.int 13)))) (.cons (.asg 5 (.d (.bin .idx (.nm 0) (.bin .add (.cst (.int 2)) (.nm 4))))) (.cons (.par (.cons 9 (.d (.bin .mod (.nm 5) (.un .len (.nm 2)))) (.cons 10 (.d (.bin .mod (.bin .fdiv (.nm 5) (.cst (.int 5))) (.un .len (.nm 2)))) .nil))) (.cons (.ifs (.or (.cons (.and (.cons (.bin .eq (.nm 1) (.cst (.int 1))) (.cons (.bin .ge (.nm 9) (.nm 10)) .nil))) (.cons (.and (.cons (.bin .gt (.nm 1) (.cst (.int 1))) (.cons (.bin .gt (.nm 9) (.nm 10)) .nil))) .nil))) (.cons (.par (.cons 9 (.d (.bin .min2 (.nm 9) (.nm 10))) (.cons 10 (.d (.bin .max2 (.nm 9) (.nm 10))) .nil))) .nil) .nil) (.cons (.asg 6 (.d (.ife (.bin .lt (.nm 1) (.cst (.int 2))) (.bin .add (.cst (.int 1)) (.bin .mod (.bin .fdiv (.nm 5) (.cst (.int 100))) (.cst (.int 3)))) (.cst (.int 1))))) (.cons (.ifs (.or (.cons (.bin .ne (.nm 1) (.cst (.int 1))) (.cons (.bin .ne (.nm 9) (.nm 10)) .nil))) (.cons (.setD 3 (.tup (.cons (.bin .idx (.nm 2) (.nm 9)) (.cons (.bin .add (.cst (.int 1)) (.bin .mod (.bin .fdiv (.nm 5) (.cst (.int 25))) (.cst (.int 4)))) (.cons (.bin .idx (.nm 2) (.nm 10)) .nil)))) (.nm 6)) .nil) .nil) .nil)))))) (.cons (.ifs (.bin .gt (.nm 1) (.cst (.int 1))) (.cons (.asg 7 (.d (.lc [8] (.n 8) (.ex (.dsorted 3)) (.yes (.bin .eq (.bin .idx (.nm 8) (.cst (.int 0))) (.bin .idx (.nm 8) (.cst (.int 2))))) (.nm 8)))) (.cons (.fr (.n 8) (.ex (.nm 7)) (.cons (.asg 11 (.d (.lc [9] (.n 9) (.keys 3) (.yes (.chain .eq .eq (.bin .idx (.nm 9) (.cst (.int 0))) (.bin .idx (.nm 9) (.cst (.int 2))) (.bin .idx (.nm 8) (.cst (.int 0))))) (.cst (.int 1))))) (.cons (.ifs (.or (.cons (.bin .gt (.un .len (.nm 11)) (.cst (.int 1))) (.cons (.and (.cons (.bin .eq (.nm 1) (.cst (.int 3))) (.cons (.bin .gt (.bin .idx (.nm 8) (.cst (.int 0))) (.cst (.str "ash"))) .nil))) .nil))) (.cons (.popD 3 (.nm 8)) .nil) .nil) .nil))) .nil)) .nil) (.cons (.ret (.tup (.cons (.nm 2) (.cons (.un .tuple (.lc [8] (.n 8) (.ex (.dsorted 3)) .no (.bin .add (.nm 8) (.tup (.cons (.dget 3 (.nm 8)) .nil))))) .nil)))) .nil)))))
def f_law_book : FD := ⟨2, 12, b_law_book, none⟩
def b_law_start : Ss := (.cons (.ifs (.bin .eq (.bin .mod (.bin .idx (.nm 1) (.cst (.int 0))) (.cst (.int 4))) (.cst (.int 0))) (.cons (.ret (.un .tuple (.bin .add (.lst (.cons (.bin .mod (.bin .idx (.nm 1) (.cst (.int 1))) (.cst (.int 10))) .nil)) (.bin .mul (.lst (.cons (.cst (.int 0)) .nil)) (.bin .sub (.un .len (.bin .idx (.nm 0) (.cst (.int 0)))) (.cst (.int 1))))))) .nil) .nil) (.cons (.ret (.un .tuple (.lc [2] (.n 2) (.ex (.slc (.nm 1) (.yes (.cst (.int 1))) (.yes (.bin .add (.cst (.int 1)) (.un .len (.bin .idx (.nm 0) (.cst (.int 0)))))))) .no (.bin .mod (.nm 2) (.bin .idx (.lst (.cons (.cst (.int 10)) (.cons (.cst (.int 2)) (.cons (.cst (.int 4)) .nil)))) (.bin .mod (.bin .fdiv (.bin .idx (.nm 1) (.cst (.int 0))) (.cst (.int 4))) (.cst (.int 3)))))))) .nil))
def f_law_start : FD := ⟨2, 3, b_law_start, none⟩
def b_law_is_name : Ss := (.cons (.ifs (.or (.cons (.un .not (.isi (.nm 0) [.str])) (.cons (.un .not (.chain .le .le (.cst (.int 1)) (.un .len (.nm 0)) (.cst (.int 8)))) .nil))) (.cons (.ret (.cst (.bl false))) .nil) .nil) (.cons (.ret (.bin .eq (.lc [1] (.n 1) (.ex (.nm 0)) (.yes (.bin .nmem (.nm 1) (.cst (.str "abcdefghijklmnopqrstuvwxyz")))) (.nm 1)) (.lst .nil))) .nil))
def f_law_is_name : FD := ⟨1, 2, b_law_is_name, none⟩
def b_law_is_book : Ss := (.cons (.ifs (.or (.cons (.un .not (.isi (.nm 0) [.tuple])) (.cons (.bin .ne (.un .len (.nm 0)) (.cst (.int 2))) .nil))) (.cons (.ret (.cst (.bl false))) .nil) .nil) (.cons (.unp [3, 4] (.nm 0)) (.cons (.ifs (.or (.cons (.un .not (.isi (.nm 3) [.tuple])) (.cons (.un .not (.isi (.nm 4) [.tuple])) .nil))) (.cons (.ret (.cst (.bl false))) .nil) .nil) (.cons (.ifs (.or (.cons (.un .not (.chain .le .le (.cst (.int 1)) (.un .len (.nm 3)) (.cst (.int 5)))) (.cons (.bin .gt (.un .len (.nm 4)) (.cst (.int 12))) .nil))) (.cons (.ret (.cst (.bl false))) .nil) .nil) (.cons (.ifs (.or (.cons (.un .not (.un .all (.lc [5] (.n 5) (.ex (.nm 3)) .no (.call 19 (.cons (.nm 5) .nil))))) (.cons (.bin .ne (.un .list (.nm 3)) (.un .ssort (.nm 3))) .nil))) (.cons (.ret (.cst (.bl false))) .nil) .nil) (.cons (.fr (.n 1) (.ex (.nm 4)) (.cons (.ifs (.or (.cons (.un .not (.isi (.nm 1) [.tuple])) (.cons (.bin .ne (.un .len (.nm 1)) (.cst (.int 4))) .nil))) (.cons (.ret (.cst (.bl false))) .nil) .nil) (.cons (.ifs (.or (.cons (.un .not (.isi (.bin .idx (.nm 1) (.cst (.int 0))) [.str])) (.cons (.un .not (.isi (.bin .idx (.nm 1) (.cst (.int 2))) [.str])) .nil))) (.cons (.ret (.cst (.bl false))) .nil) .nil) (.cons (.ifs (.or (.cons (.bin .nmem (.bin .idx (.nm 1) (.cst (.int 0))) (.nm 3)) (.cons (.bin .nmem (.bin .idx (.nm 1) (.cst (.int 2))) (.nm 3)) .nil))) (.cons (.ret (.cst (.bl false))) .nil) .nil) (.cons (.ifs (.or (.cons (.un .not (.call 8 (.cons (.bin .idx (.nm 1) (.cst (.int 1))) (.cons (.cst (.int 1)) (.cons (.cst (.int 4)) .nil))))) (.cons (.un .not (.call 8 (.cons (.bin .idx (.nm 1) (.cst (.int 3))) (.cons (.cst (.int 1)) (.cons (.cst (.int 3)) .nil))))) .nil))) (.cons (.ret (.cst (.bl false))) .nil) .nil) .nil))))) (.cons (.asg 2 (.d (.lc [1] (.n 1) (.ex (.nm 4)) .no (.slc (.nm 1) .no (.yes (.cst (.int 3))))))) (.cons (.ret (.bin .eq (.nm 2) (.un .ssort (.nm 2)))) .nil))))))))
def f_law_is_book : FD := ⟨1, 6, b_law_is_book, none⟩
def b_law_is_start : Ss := (.cons (.ifs (.or (.cons (.un .not (.isi (.nm 1) [.tuple])) (.cons (.bin .ne (.un .len (.nm 1)) (.un .len (.bin .idx (.nm 0) (.cst (.int 0))))) .nil))) (.cons (.ret (.cst (.bl false))) .nil) .nil) (.cons (.ret (.un .all (.lc [2] (.n 2) (.ex (.nm 1)) .no (.call 8 (.cons (.nm 2) (.cons (.cst (.int 0)) (.cons (.cst (.int 9)) .nil))))))) .nil))
def f_law_is_start : FD := ⟨2, 3, b_law_is_start, none⟩
def b_next_counts : Ss := (.cons (.unp [3, 4] (.nm 0)) (.cons (.asg 2 (.o (.bin .mul (.lst (.cons (.cst (.int 0)) .nil)) (.un .len (.nm 3))))) (.cons (.fr (.t [5, 6, 7, 8]) (.ex (.nm 4)) (.cons (.augO 2 .add (.bin .index (.nm 3) (.nm 7)) (.bin .mul (.bin .idx (.bin .idx (.nm 1) (.bin .sub (.nm 6) (.cst (.int 1)))) (.bin .index (.nm 3) (.nm 5))) (.nm 8))) .nil)) (.cons (.ret (.un .tuple (.pk 2))) .nil))))
def f_next_counts : FD := ⟨2, 9, b_next_counts, none⟩
def b_first_rows : Ss := (.cons (.asg 2 (.d (.bin .mul (.tup (.cons (.cst (.int 0)) .nil)) (.un .len (.bin .idx (.nm 0) (.cst (.int 0))))))) (.cons (.ret (.tup (.cons (.nm 1) (.cons (.nm 2) (.cons (.nm 2) (.cons (.nm 2) .nil)))))) .nil))
def f_first_rows : FD := ⟨2, 3, b_first_rows, none⟩
def b_all_counts : Ss := (.cons (.par (.cons 3 (.d (.call 24 (.cons (.nm 0) (.cons (.nm 1) .nil)))) (.cons 4 (.o (.lst (.cons (.nm 1) .nil))) .nil))) (.cons (.whl (.bin .le (.un .len (.pk 4)) (.nm 2)) (.cons (.asg 3 (.d (.bin .add (.tup (.cons (.call 23 (.cons (.nm 0) (.cons (.nm 3) .nil))) .nil)) (.slc (.nm 3) .no (.yes (.cst (.int 3))))))) (.cons (.app 4 (.bin .idx (.nm 3) (.cst (.int 0)))) .nil))) (.cons (.retO 4) .nil)))
def f_all_counts : FD := ⟨3, 5, b_all_counts, none⟩
def b_counts : Ss := (.cons (.ret (.bin .idx (.call 25 (.cons (.nm 0) (.cons (.nm 1) (.cons (.nm 2) .nil)))) (.nm 2))) .nil)
def f_counts : FD := ⟨3, 3, b_counts, none⟩
def b_sums : Ss := (.cons (.asg 3 (.d (.call 25 (.cons (.nm 0) (.cons (.nm 1) (.cons (.nm 2) .nil)))))) (.cons (.ret (.un .tuple (.lc [4] (.n 4) (.rng (.un .len (.nm 1))) .no (.un .sum (.lc [5] (.n 5) (.ex (.nm 3)) .no (.bin .idx (.nm 5) (.nm 4))))))) .nil))
def f_sums : FD := ⟨3, 6, b_sums, none⟩
def b_law_plus : Ss := (.cons (.ret (.un .tuple (.lc [2, 3] (.t [2, 3]) (.zip (.nm 0) (.nm 1)) .no (.bin .add (.nm 2) (.nm 3))))) .nil)
def f_law_plus : FD := ⟨2, 4, b_law_plus, none⟩
def b_table_of : Ss := (.cons (.unp [4, 5] (.nm 0)) (.cons (.asg 1 (.d (.bin .mul (.cst (.int 4)) (.un .len (.nm 4))))) (.cons (.asg 2 (.m (.lc [3] (.n 3) (.rng (.nm 1)) .no (.bin .mul (.lst (.cons (.cst (.int 0)) .nil)) (.nm 1))))) (.cons (.fr (.t [6, 7, 8, 9]) (.ex (.nm 5)) (.cons (.augM 2 .add (.bin .index (.nm 4) (.nm 8)) (.bin .add (.bin .mul (.bin .sub (.nm 7) (.cst (.int 1))) (.un .len (.nm 4))) (.bin .index (.nm 4) (.nm 6))) (.nm 9)) .nil)) (.cons (.fr (.n 3) (.rng2 (.un .len (.nm 4)) (.nm 1)) (.cons (.setM 2 (.nm 3) (.bin .sub (.nm 3) (.un .len (.nm 4))) (.cst (.int 1))) .nil)) (.cons (.frz 2) (.cons (.ret (.nm 2)) .nil)))))))
def f_table_of : FD := ⟨1, 10, b_table_of, none⟩
def b_multiplied : Ss := (.cons (.asg 3 (.d (.lc [4] (.n 4) (.rng (.un .len (.nm 1))) .no (.lc [5] (.n 5) (.ex (.nm 1)) .no (.bin .idx (.nm 5) (.nm 4)))))) (.cons (.ret (.lc [5] (.n 5) (.ex (.nm 0)) .no (.lc [6] (.n 6) (.ex (.nm 3)) .no (.bin .mod (.un .sum (.lc [7, 8] (.t [7, 8]) (.zip (.nm 5) (.nm 6)) .no (.bin .mul (.nm 7) (.nm 8)))) (.nm 2))))) .nil))
def f_multiplied : FD := ⟨3, 9, b_multiplied, none⟩
def b_rests : Ss := (.cons (.asg 4 (.d (.bin .mul (.cst (.int 4)) (.un .len (.bin .idx (.nm 0) (.cst (.int 0))))))) (.cons (.asg 5 (.d (.lc [8] (.n 8) (.rng (.nm 4)) .no (.lc [9] (.n 9) (.rng (.nm 4)) .no (.bin .mod (.un .int (.bin .eq (.nm 8) (.nm 9))) (.nm 3)))))) (.cons (.asg 6 (.d (.call 32 (.cons (.nm 0) .nil)))) (.cons (.whl (.bin .gt (.nm 2) (.cst (.int 0))) (.cons (.ifs (.bin .eq (.bin .mod (.nm 2) (.cst (.int 2))) (.cst (.int 1))) (.cons (.asg 5 (.d (.call 33 (.cons (.nm 5) (.cons (.nm 6) (.cons (.nm 3) .nil)))))) .nil) .nil) (.cons (.asg 6 (.d (.call 33 (.cons (.nm 6) (.cons (.nm 6) (.cons (.nm 3) .nil)))))) (.cons (.asg 2 (.d (.bin .fdiv (.nm 2) (.cst (.int 2))))) .nil)))) (.cons (.asg 7 (.d (.bin .add (.un .list (.nm 1)) (.bin .mul (.lst (.cons (.cst (.int 0)) .nil)) (.bin .sub (.nm 4) (.un .len (.nm 1))))))) (.cons (.ret (.un .tuple (.lc [8] (.n 8) (.rng (.un .len (.nm 1))) .no (.bin .mod (.un .sum (.lc [10, 11] (.t [10, 11]) (.zip (.bin .idx (.nm 5) (.nm 8)) (.nm 7)) .no (.bin .mul (.nm 10) (.nm 11)))) (.nm 3))))) .nil))))))
def f_rests : FD := ⟨4, 12, b_rests, none⟩
def b_law_step : Ss := (.cons (.asg 3 (.o (.bin .mul (.lst (.cons (.cst (.int 0)) .nil)) (.un .len (.bin .idx (.nm 0) (.cst (.int 0))))))) (.cons (.fr (.t [4, 5, 6, 7]) (.ex (.bin .idx (.nm 0) (.cst (.int 1)))) (.cons (.asg 8 (.d (.bin .index (.bin .idx (.nm 0) (.cst (.int 0))) (.nm 6)))) (.cons (.asg 9 (.d (.bin .idx (.bin .idx (.nm 1) (.bin .sub (.nm 5) (.cst (.int 1)))) (.bin .index (.bin .idx (.nm 0) (.cst (.int 0))) (.nm 4))))) (.cons (.setO 3 (.nm 8) (.bin .mod (.bin .add (.bin .idx (.pk 3) (.nm 8)) (.bin .mul (.nm 7) (.nm 9))) (.nm 2))) .nil)))) (.cons (.frz 3) (.cons (.ret (.bin .add (.lst (.cons (.nm 3) .nil)) (.slc (.nm 1) .no (.yes (.cst (.int 3)))))) .nil))))
def f_law_step : FD := ⟨3, 10, b_law_step, none⟩
def b_law_mixed : Ss := (.cons (.asg 3 (.d (.un .len (.bin .idx (.nm 1) (.cst (.int 0)))))) (.cons (.asg 4 (.m (.lc [5] (.n 5) (.rng (.cst (.int 4))) .no (.bin .mul (.lst (.cons (.cst (.int 0)) .nil)) (.nm 3))))) (.cons (.fr (.n 5) (.rng (.cst (.int 4))) (.cons (.fr (.n 6) (.rng (.nm 3)) (.cons (.fr (.n 7) (.rng (.bin .mul (.cst (.int 4)) (.nm 3))) (.cons (.par (.cons 9 (.d (.bin .fdiv (.nm 7) (.nm 3))) (.cons 10 (.d (.bin .mod (.nm 7) (.nm 3))) .nil))) (.cons (.asg 8 (.d (.bin .mul (.bin .idx (.bin .idx (.nm 1) (.nm 5)) (.nm 6)) (.bin .idx (.bin .idx (.bin .idx (.nm 0) (.bin .add (.bin .mul (.nm 3) (.nm 5)) (.nm 6))) (.nm 9)) (.nm 10))))) (.cons (.setM 4 (.nm 9) (.nm 10) (.bin .mod (.bin .add (.midx 4 (.nm 9) (.nm 10)) (.nm 8)) (.nm 2))) .nil)))) .nil)) .nil)) (.cons (.frz 4) (.cons (.ret (.nm 4)) .nil)))))
def f_law_mixed : FD := ⟨3, 11, b_law_mixed, none⟩
def b_law_far : Ss := (.cons (.asg 4 (.d (.un .len (.bin .idx (.nm 0) (.cst (.int 0)))))) (.cons (.asg 5 (.o (.lst .nil))) (.cons (.fr (.n 6) (.rng (.bin .mul (.cst (.int 4)) (.nm 4))) (.cons (.asg 8 (.d (.lc [9] (.n 9) (.rng (.cst (.int 4))) .no (.lc [11] (.n 11) (.rng (.nm 4)) .no (.un .int (.bin .eq (.bin .add (.bin .mul (.nm 4) (.nm 9)) (.nm 11)) (.nm 6))))))) (.cons (.app 5 (.call 35 (.cons (.nm 0) (.cons (.nm 8) (.cons (.nm 3) .nil))))) .nil))) (.cons (.frz 5) (.cons (.asg 7 (.d (.bin .add (.lst (.cons (.lc [12] (.n 12) (.ex (.nm 1)) .no (.bin .mod (.nm 12) (.nm 3))) .nil)) (.lc [6] (.n 6) (.rng (.cst (.int 3))) .no (.bin .mul (.lst (.cons (.cst (.int 0)) .nil)) (.nm 4)))))) (.cons (.whl (.bin .gt (.nm 2) (.cst (.int 0))) (.cons (.ifs (.bin .eq (.bin .mod (.nm 2) (.cst (.int 2))) (.cst (.int 1))) (.cons (.asg 7 (.d (.call 36 (.cons (.nm 5) (.cons (.nm 7) (.cons (.nm 3) .nil)))))) .nil) .nil) (.cons (.asg 5 (.d (.lc [10] (.n 10) (.ex (.nm 5)) .no (.call 36 (.cons (.nm 5) (.cons (.nm 10) (.cons (.nm 3) .nil))))))) (.cons (.asg 2 (.d (.bin .fdiv (.nm 2) (.cst (.int 2))))) .nil)))) (.cons (.ret (.nm 7)) .nil)))))))
def f_law_far : FD := ⟨4, 13, b_law_far, none⟩
def b_begun : Ss := (.cons (.ret (.lc [2, 3] (.t [2, 3]) (.zip (.bin .idx (.nm 0) (.cst (.int 0))) (.nm 1)) (.yes (.bin .gt (.nm 3) (.cst (.int 0)))) (.nm 2))) .nil)
def f_begun : FD := ⟨2, 4, b_begun, none⟩
def b_circle_of : Ss := (.cons (.asg 2 (.d (.lc [3] (.n 3) (.ex (.call 39 (.cons (.nm 0) (.cons (.lst (.cons (.nm 1) .nil)) .nil)))) (.yes (.bin .mem (.nm 1) (.call 39 (.cons (.nm 0) (.cons (.lst (.cons (.nm 3) .nil)) .nil))))) (.nm 3)))) (.cons (.ret (.lc [4] (.n 4) (.ex (.bin .idx (.nm 0) (.cst (.int 1)))) (.yes (.and (.cons (.bin .mem (.bin .idx (.nm 4) (.cst (.int 0))) (.nm 2)) (.cons (.bin .mem (.bin .idx (.nm 4) (.cst (.int 2))) (.nm 2)) .nil)))) (.nm 4))) .nil))
def f_circle_of : FD := ⟨2, 5, b_circle_of, none⟩
def b_bursting : Ss := (.cons (.asg 2 (.d (.call 39 (.cons (.nm 0) (.cons (.call 40 (.cons (.nm 0) (.cons (.nm 1) .nil))) .nil))))) (.cons (.ret (.lc [3] (.n 3) (.ex (.nm 2)) (.yes (.and (.cons (.bin .ne (.call 41 (.cons (.nm 0) (.cons (.nm 3) .nil))) (.lst .nil)) (.cons (.un .not (.call 42 (.cons (.nm 0) (.cons (.nm 3) .nil)))) .nil)))) (.nm 3))) .nil))
def f_bursting : FD := ⟨2, 4, b_bursting, none⟩
def b_round_of : Ss := (.cons (.par (.cons 2 (.d (.call 24 (.cons (.nm 0) (.cons (.nm 1) .nil)))) (.cons 3 (.dnew true) (.cons 4 (.d (.cst (.int 0))) .nil)))) (.cons (.whl (.din true (.nm 2) 3) (.cons (.setD 3 (.nm 2) (.nm 4)) (.cons (.asg 2 (.d (.bin .add (.tup (.cons (.call 23 (.cons (.nm 0) (.cons (.nm 2) .nil))) .nil)) (.slc (.nm 2) .no (.yes (.cst (.int 3))))))) (.cons (.aug 4 .add (.cst (.int 1))) .nil)))) (.cons (.ret (.tup (.cons (.bin .max2 (.cst (.int 0)) (.bin .sub (.dget 3 (.nm 2)) (.cst (.int 3)))) (.cons (.bin .sub (.nm 4) (.dget 3 (.nm 2))) .nil)))) .nil)))
def f_round_of : FD := ⟨2, 5, b_round_of, none⟩
def b_fate : Ss := (.cons (.ifs (.bin .ne (.call 43 (.cons (.nm 0) (.cons (.nm 1) .nil))) (.lst .nil)) (.cons (.ret (.tup (.cons (.cst (.str "bursts")) .nil))) .nil) .nil) (.cons (.asg 2 (.d (.bin .sub (.un .max (.bin .add (.lc [5] (.n 5) (.ex (.call 40 (.cons (.nm 0) (.cons (.nm 1) .nil)))) .no (.call 44 (.cons (.nm 0) (.cons (.nm 5) .nil)))) (.lst (.cons (.cst (.int 0)) .nil)))) (.cst (.int 1))))) (.cons (.ifs (.bin .gt (.nm 2) (.cst (.int 0))) (.cons (.ret (.tup (.cons (.cst (.str "grows")) (.cons (.nm 2) .nil)))) .nil) .nil) (.cons (.unp [3, 4] (.call 45 (.cons (.nm 0) (.cons (.nm 1) .nil)))) (.cons (.ret (.ife (.bin .eq (.nm 2) (.cst (.int 0))) (.tup (.cons (.cst (.str "rounds")) (.cons (.nm 3) (.cons (.nm 4) .nil)))) (.tup (.cons (.cst (.str "ends")) (.cons (.bin .sub (.nm 3) (.cst (.int 1))) .nil))))) .nil)))))
def f_fate : FD := ⟨2, 6, b_fate, none⟩
def b_law_reached : Ss := (.cons (.asg 2 (.d (.un .list (.nm 1)))) (.cons (.fr (.n 3) (.rng (.un .len (.bin .idx (.nm 0) (.cst (.int 0))))) (.cons (.asg 2 (.d (.bin .add (.nm 2) (.lc [4] (.n 4) (.ex (.bin .idx (.nm 0) (.cst (.int 1)))) (.yes (.and (.cons (.bin .mem (.bin .idx (.nm 4) (.cst (.int 0))) (.nm 2)) (.cons (.bin .nmem (.bin .idx (.nm 4) (.cst (.int 2))) (.nm 2)) .nil)))) (.bin .idx (.nm 4) (.cst (.int 2))))))) .nil)) (.cons (.ret (.un .ssort (.nm 2))) .nil)))
def f_law_reached : FD := ⟨2, 5, b_law_reached, none⟩
def b_law_begun : Ss := (.cons (.ret (.lc [2, 3] (.t [2, 3]) (.zip (.bin .idx (.nm 0) (.cst (.int 0))) (.nm 1)) (.yes (.bin .gt (.nm 3) (.cst (.int 0)))) (.nm 2))) .nil)
def f_law_begun : FD := ⟨2, 4, b_law_begun, none⟩
def b_law_ring : Ss := (.cons (.asg 2 (.d (.lc [3] (.n 3) (.ex (.call 47 (.cons (.nm 0) (.cons (.lst (.cons (.nm 1) .nil)) .nil)))) (.yes (.bin .mem (.nm 1) (.call 47 (.cons (.nm 0) (.cons (.lst (.cons (.nm 3) .nil)) .nil))))) (.nm 3)))) (.cons (.ret (.lc [4] (.n 4) (.ex (.bin .idx (.nm 0) (.cst (.int 1)))) (.yes (.and (.cons (.bin .mem (.bin .idx (.nm 4) (.cst (.int 0))) (.nm 2)) (.cons (.bin .mem (.bin .idx (.nm 4) (.cst (.int 2))) (.nm 2)) .nil)))) (.nm 4))) .nil))
def f_law_ring : FD := ⟨2, 5, b_law_ring, none⟩
def b_law_sort : Ss := (.cons (.asg 2 (.d (.call 49 (.cons (.nm 0) (.cons (.nm 1) .nil))))) (.cons (.ifs (.bin .eq (.nm 2) (.lst .nil)) (.cons (.ret (.cst (.str "none"))) .nil) .nil) (.cons (.asg 3 (.d (.un .ssort (.lc [4] (.n 4) (.ex (.nm 2)) .no (.bin .idx (.nm 4) (.cst (.int 0))))))) (.cons (.ret (.ife (.and (.cons (.bin .eq (.un .len (.nm 3)) (.un .len (.nm 2))) (.cons (.bin .eq (.un .max (.lc [4] (.n 4) (.ex (.nm 2)) .no (.bin .idx (.nm 4) (.cst (.int 3))))) (.cst (.int 1))) .nil))) (.cst (.str "one")) (.cst (.str "many")))) .nil))))
def f_law_sort : FD := ⟨2, 5, b_law_sort, none⟩
def b_law_most_rounds : Ss := (.cons (.asg 2 (.d (.call 49 (.cons (.nm 0) (.cons (.nm 1) .nil))))) (.cons (.asg 3 (.d (.bin .add (.lc [5] (.n 5) (.ex (.nm 2)) .no (.bin .idx (.nm 5) (.cst (.int 0)))) (.lst (.cons (.nm 1) .nil))))) (.cons (.asg 4 (.d (.lc [5] (.n 5) (.ex (.bin .idx (.nm 0) (.cst (.int 1)))) (.yes (.and (.cons (.bin .mem (.bin .idx (.nm 5) (.cst (.int 0))) (.nm 3)) (.cons (.bin .nmem (.bin .idx (.nm 5) (.cst (.int 2))) (.nm 3)) .nil)))) (.bin .idx (.nm 5) (.cst (.int 2)))))) (.cons (.ret (.bin .add (.un .int (.bin .ne (.nm 2) (.lst .nil))) (.un .max (.bin .add (.lst (.cons (.cst (.int 0)) .nil)) (.lc [6] (.n 6) (.ex (.un .ssort (.nm 4))) .no (.call 51 (.cons (.nm 0) (.cons (.nm 6) .nil)))))))) .nil))))
def f_law_most_rounds : FD := ⟨2, 7, b_law_most_rounds, none⟩
def b_law_round : Ss := (.cons (.asg 1 (.d (.cst (.int 1)))) (.cons (.whl (.bin .ne (.slc (.nm 0) (.yes (.cst (.int 100))) (.yes (.cst (.int 300)))) (.slc (.nm 0) (.yes (.bin .add (.cst (.int 100)) (.nm 1))) (.yes (.bin .add (.cst (.int 300)) (.nm 1))))) (.cons (.asg 1 (.d (.bin .add (.nm 1) (.cst (.int 1))))) .nil)) (.cons (.asg 2 (.d (.cst (.int 100)))) (.cons (.whl (.and (.cons (.bin .gt (.nm 2) (.cst (.int 0))) (.cons (.bin .eq (.bin .idx (.nm 0) (.bin .sub (.nm 2) (.cst (.int 1)))) (.bin .idx (.nm 0) (.bin .add (.bin .sub (.nm 2) (.cst (.int 1))) (.nm 1)))) .nil))) (.cons (.asg 2 (.d (.bin .sub (.nm 2) (.cst (.int 1))))) .nil)) (.cons (.ret (.tup (.cons (.nm 2) (.cons (.nm 1) .nil)))) .nil)))))
def f_law_round : FD := ⟨1, 3, b_law_round, none⟩
def b_law_fate : Ss := (.cons (.asg 2 (.d (.call 47 (.cons (.nm 0) (.cons (.call 48 (.cons (.nm 0) (.cons (.nm 1) .nil))) .nil))))) (.cons (.ifs (.bin .mem (.cst (.str "many")) (.lc [7] (.n 7) (.ex (.nm 2)) .no (.call 50 (.cons (.nm 0) (.cons (.nm 7) .nil))))) (.cons (.ret (.tup (.cons (.cst (.str "bursts")) .nil))) .nil) .nil) (.cons (.asg 3 (.d (.bin .sub (.un .max (.bin .add (.lst (.cons (.cst (.int 0)) .nil)) (.lc [7] (.n 7) (.ex (.call 48 (.cons (.nm 0) (.cons (.nm 1) .nil)))) .no (.call 51 (.cons (.nm 0) (.cons (.nm 7) .nil)))))) (.cst (.int 1))))) (.cons (.ifs (.bin .gt (.nm 3) (.cst (.int 0))) (.cons (.ret (.tup (.cons (.cst (.str "grows")) (.cons (.nm 3) .nil)))) .nil) .nil) (.cons (.asg 4 (.d (.call 28 (.cons (.nm 0) (.cons (.nm 1) (.cons (.cst (.int 600)) .nil)))))) (.cons (.unp [5, 6] (.call 52 (.cons (.nm 4) .nil))) (.cons (.ret (.ife (.bin .eq (.nm 3) (.cst (.int 0))) (.tup (.cons (.cst (.str "rounds")) (.cons (.nm 5) (.cons (.nm 6) .nil)))) (.tup (.cons (.cst (.str "ends")) (.cons (.bin .sub (.nm 5) (.cst (.int 1))) .nil))))) .nil)))))))
def f_law_fate : FD := ⟨2, 8, b_law_fate, none⟩
def b_back_by : Ss := (.cons (.par (.cons 3 (.d (.call 55 (.cons (.nm 0) (.cons (.lst (.cons (.nm 1) .nil)) (.cons (.bin .idx (.nm 2) (.cst (.int 0))) .nil))))) (.cons 4 (.d (.call 55 (.cons (.nm 0) (.cons (.lst (.cons (.bin .idx (.nm 2) (.cst (.int 2))) .nil)) (.cons (.nm 1) .nil))))) .nil))) (.cons (.ret (.ife (.or (.cons (.un .isNon (.nm 3)) (.cons (.un .isNon (.nm 4)) .nil))) (.cst .non) (.bin .add (.bin .add (.nm 3) (.tup (.cons (.nm 2) .nil))) (.nm 4)))) .nil))
def f_back_by : FD := ⟨3, 5, b_back_by, none⟩
def b_law_ended : Ss := (.cons (.ret (.bin .eq (.slc (.lc [2, 3] (.t [2, 3]) (.enum (.nm 0)) (.yes (.bin .gt (.un .max (.nm 3)) (.cst (.int 0)))) (.nm 2)) (.yes (.un .neg (.cst (.int 1)))) .no) (.bin .mul (.lst (.cons (.nm 1) .nil)) (.un .int (.bin .ge (.nm 1) (.cst (.int 0))))))) .nil)
def f_law_ended : FD := ⟨2, 4, b_law_ended, none⟩
def b_law_rounds : Ss := (.cons (.ifs (.or (.cons (.bin .ne (.slc (.nm 0) (.yes (.nm 1)) (.yes (.cst (.int 300)))) (.slc (.nm 0) (.yes (.bin .add (.nm 1) (.nm 2))) (.yes (.bin .add (.cst (.int 300)) (.nm 2))))) (.cons (.bin .eq (.un .max (.lc [6] (.n 6) (.ex (.slc (.nm 0) (.yes (.nm 1)) (.yes (.bin .add (.nm 1) (.nm 2))))) .no (.un .max (.nm 6)))) (.cst (.int 0))) .nil))) (.cons (.ret (.cst (.bl false))) .nil) .nil) (.cons (.fr (.n 3) (.rng2 (.cst (.int 1)) (.nm 2)) (.cons (.asg 4 (.d (.bin .add (.nm 1) (.cst (.int 60))))) (.cons (.asg 5 (.d (.bin .add (.nm 4) (.nm 3)))) (.cons (.ifs (.bin .eq (.slc (.nm 0) (.yes (.nm 4)) (.yes (.bin .add (.nm 4) (.nm 2)))) (.slc (.nm 0) (.yes (.nm 5)) (.yes (.bin .add (.nm 5) (.nm 2))))) (.cons (.ret (.cst (.bl false))) .nil) .nil) .nil)))) (.cons (.ret (.or (.cons (.bin .eq (.nm 1) (.cst (.int 0))) (.cons (.bin .ne (.bin .idx (.nm 0) (.bin .sub (.nm 1) (.cst (.int 1)))) (.bin .idx (.nm 0) (.bin .add (.bin .sub (.nm 1) (.cst (.int 1))) (.nm 2)))) .nil)))) .nil)))
def f_law_rounds : FD := ⟨3, 7, b_law_rounds, none⟩
def b_law_grows : Ss := (.cons (.asg 2 (.d (.lc [4] (.n 4) (.rng (.cst (.int 12))) .no (.lc [5] (.n 5) (.rng (.cst (.int 8))) .no (.un .sum (.bin .idx (.nm 0) (.bin .add (.bin .add (.cst (.int 40)) (.nm 4)) (.bin .mul (.cst (.int 12)) (.nm 5))))))))) (.cons (.fr (.n 3) (.rng (.nm 1)) (.cons (.asg 2 (.d (.lc [6] (.n 6) (.ex (.nm 2)) .no (.lc [7, 8] (.t [7, 8]) (.zip (.nm 6) (.slc (.nm 6) (.yes (.cst (.int 1))) .no)) .no (.bin .sub (.nm 8) (.nm 7)))))) .nil)) (.cons (.ifs (.bin .le (.un .max (.lc [6] (.n 6) (.ex (.nm 2)) .no (.un .max (.nm 6)))) (.cst (.int 0))) (.cons (.ret (.cst (.bl false))) .nil) .nil) (.cons (.ret (.bin .eq (.lc [6] (.n 6) (.ex (.nm 2)) (.yes (.bin .ne (.nm 6) (.bin .mul (.slc (.nm 6) .no (.yes (.cst (.int 1)))) (.un .len (.nm 6))))) (.nm 6)) (.lst .nil))) .nil))))
def f_law_grows : FD := ⟨2, 9, b_law_grows, none⟩
def b_law_bursts : Ss := (.cons (.unp [5, 6] (.nm 2)) (.cons (.asg 3 (.d (.bin .idx (.bin .idx (.bin .idx (.nm 6) (.cst (.int 0))) (.cst (.int 0))) (.cst (.int 0))))) (.cons (.unp [7, 8] (.tup (.cons (.un .sum (.lc [10] (.n 10) (.ex (.nm 5)) .no (.bin .idx (.nm 10) (.cst (.int 1))))) (.cons (.un .sum (.lc [11] (.n 11) (.ex (.nm 6)) .no (.un .sum (.lc [10] (.n 10) (.ex (.nm 11)) .no (.bin .idx (.nm 10) (.cst (.int 1))))))) .nil)))) (.cons (.asg 4 (.d (.lc [9] (.n 9) (.rng (.cst (.int 7))) (.yes (.bin .le (.bin .add (.nm 7) (.bin .mul (.nm 9) (.nm 8))) (.cst (.int 300)))) (.bin .add (.nm 7) (.bin .mul (.nm 9) (.nm 8)))))) (.cons (.ret (.bin .eq (.lc [9, 12] (.t [9, 12]) (.enum (.nm 4)) (.yes (.bin .lt (.bin .idx (.call 26 (.cons (.nm 0) (.cons (.nm 1) (.cons (.nm 12) .nil)))) (.bin .index (.bin .idx (.nm 0) (.cst (.int 0))) (.nm 3))) (.bin .shl (.cst (.int 1)) (.nm 9)))) (.nm 9)) (.lst .nil))) .nil)))))
def f_law_bursts : FD := ⟨3, 13, b_law_bursts, none⟩
def b_is_way : Ss := (.cons (.ifs (.or (.cons (.un .not (.isi (.nm 1) [.tuple])) (.cons (.un .not (.un .all (.lc [2] (.n 2) (.ex (.nm 1)) .no (.and (.cons (.isi (.nm 2) [.tuple]) (.cons (.bin .mem (.nm 2) (.bin .idx (.nm 0) (.cst (.int 1)))) .nil)))))) .nil))) (.cons (.ret (.cst (.bl false))) .nil) .nil) (.cons (.ifs (.un .any (.lc2 [2, 3] [3] (.n 2) (.ex (.nm 1)) .no (.n 3) (.ex (.nm 2)) .no (.isi (.nm 3) [.bool]))) (.cons (.ret (.cst (.bl false))) .nil) .nil) (.cons (.ret (.un .all (.lc [4, 5] (.t [4, 5]) (.zip (.nm 1) (.slc (.nm 1) (.yes (.cst (.int 1))) .no)) .no (.bin .eq (.bin .idx (.nm 4) (.cst (.int 2))) (.bin .idx (.nm 5) (.cst (.int 0))))))) .nil)))
def f_is_way : FD := ⟨2, 6, b_is_way, none⟩
def b_is_burst_paper : Ss := (.cons (.ifs (.or (.cons (.un .not (.isi (.nm 2) [.tuple])) (.cons (.bin .ne (.un .len (.nm 2)) (.cst (.int 2))) (.cons (.un .not (.isi (.bin .idx (.nm 2) (.cst (.int 1))) [.tuple])) .nil)))) (.cons (.ret (.cst (.bl false))) .nil) .nil) (.cons (.unp [4, 5] (.nm 2)) (.cons (.ifs (.or (.cons (.bin .nmem (.un .len (.nm 5)) (.tup (.cons (.cst (.int 1)) (.cons (.cst (.int 2)) .nil)))) (.cons (.un .not (.un .all (.lc [6] (.n 6) (.ex (.nm 5)) .no (.and (.cons (.call 63 (.cons (.nm 0) (.cons (.nm 6) .nil))) (.cons (.bin .ne (.nm 6) (.tup .nil)) .nil)))))) (.cons (.un .not (.call 63 (.cons (.nm 0) (.cons (.nm 4) .nil)))) .nil)))) (.cons (.ret (.cst (.bl false))) .nil) .nil) (.cons (.asg 3 (.d (.bin .idx (.bin .idx (.bin .idx (.nm 5) (.cst (.int 0))) (.cst (.int 0))) (.cst (.int 0))))) (.cons (.ifs (.or (.cons (.un .not (.call 2 (.cons (.nm 5) .nil))) (.cons (.un .any (.lc [6] (.n 6) (.ex (.nm 5)) .no (.or (.cons (.bin .ne (.bin .idx (.bin .idx (.nm 6) (.cst (.int 0))) (.cst (.int 0))) (.nm 3)) (.cons (.bin .ne (.bin .idx (.bin .idx (.nm 6) (.un .neg (.cst (.int 1)))) (.cst (.int 2))) (.nm 3)) .nil))))) .nil))) (.cons (.ret (.cst (.bl false))) .nil) .nil) (.cons (.ifs (.and (.cons (.bin .eq (.nm 4) (.tup .nil)) (.cons (.bin .nmem (.nm 3) (.call 40 (.cons (.nm 0) (.cons (.nm 1) .nil)))) .nil))) (.cons (.ret (.cst (.bl false))) .nil) .nil) (.cons (.ifs (.and (.cons (.bin .ne (.nm 4) (.tup .nil)) (.cons (.or (.cons (.bin .nmem (.bin .idx (.bin .idx (.nm 4) (.cst (.int 0))) (.cst (.int 0))) (.call 40 (.cons (.nm 0) (.cons (.nm 1) .nil)))) (.cons (.bin .ne (.bin .idx (.bin .idx (.nm 4) (.un .neg (.cst (.int 1)))) (.cst (.int 2))) (.nm 3)) .nil))) .nil))) (.cons (.ret (.cst (.bl false))) .nil) .nil) (.cons (.ifs (.bin .eq (.un .len (.nm 5)) (.cst (.int 1))) (.cons (.ret (.un .any (.lc [7] (.n 7) (.ex (.bin .idx (.nm 5) (.cst (.int 0)))) .no (.bin .gt (.bin .idx (.nm 7) (.cst (.int 3))) (.cst (.int 1)))))) .nil) .nil) (.cons (.ret (.and (.cons (.bin .ne (.slc (.bin .idx (.nm 5) (.cst (.int 1))) .no (.yes (.un .len (.bin .idx (.nm 5) (.cst (.int 0)))))) (.bin .idx (.nm 5) (.cst (.int 0)))) (.cons (.bin .ne (.slc (.bin .idx (.nm 5) (.cst (.int 0))) .no (.yes (.un .len (.bin .idx (.nm 5) (.cst (.int 1)))))) (.bin .idx (.nm 5) (.cst (.int 1)))) .nil)))) .nil)))))))))
def f_is_burst_paper : FD := ⟨3, 8, b_is_burst_paper, none⟩
def b_law_leads : Ss := (.cons (.asg 4 (.d (.nm 2))) (.cons (.fr (.n 5) (.ex (.nm 1)) (.cons (.ifs (.or (.cons (.bin .nmem (.nm 5) (.bin .idx (.nm 0) (.cst (.int 1)))) (.cons (.bin .ne (.bin .idx (.nm 5) (.cst (.int 0))) (.nm 4)) .nil))) (.cons (.ret (.cst (.bl false))) .nil) .nil) (.cons (.asg 4 (.d (.bin .idx (.nm 5) (.cst (.int 2))))) .nil))) (.cons (.ret (.bin .eq (.nm 4) (.nm 3))) .nil)))
def f_law_leads : FD := ⟨4, 6, b_law_leads, none⟩
def b_law_is_paper : Ss := (.cons (.unp [5, 6] (.nm 2)) (.cons (.asg 3 (.d (.bin .idx (.bin .idx (.bin .idx (.nm 6) (.cst (.int 0))) (.cst (.int 0))) (.cst (.int 0))))) (.cons (.asg 4 (.d (.lc [7, 9] (.t [7, 9]) (.zip (.bin .idx (.nm 0) (.cst (.int 0))) (.nm 1)) (.yes (.bin .gt (.nm 9) (.cst (.int 0)))) (.nm 7)))) (.cons (.ifs (.bin .eq (.lc [7] (.n 7) (.ex (.nm 4)) (.yes (.call 65 (.cons (.nm 0) (.cons (.nm 5) (.cons (.nm 7) (.cons (.nm 3) .nil)))))) (.nm 7)) (.lst .nil)) (.cons (.ret (.cst (.bl false))) .nil) .nil) (.cons (.ifs (.bin .ne (.lc [10] (.n 10) (.ex (.nm 6)) (.yes (.or (.cons (.bin .eq (.nm 10) (.tup .nil)) (.cons (.un .not (.call 65 (.cons (.nm 0) (.cons (.nm 10) (.cons (.nm 3) (.cons (.nm 3) .nil)))))) .nil)))) (.nm 10)) (.lst .nil)) (.cons (.ret (.cst (.bl false))) .nil) .nil) (.cons (.ifs (.bin .eq (.un .len (.nm 6)) (.cst (.int 1))) (.cons (.ret (.bin .gt (.un .max (.lc [11] (.n 11) (.ex (.bin .idx (.nm 6) (.cst (.int 0)))) .no (.bin .idx (.nm 11) (.cst (.int 3))))) (.cst (.int 1)))) .nil) .nil) (.cons (.unp [7, 8] (.nm 6)) (.cons (.ret (.and (.cons (.bin .lt (.nm 7) (.nm 8)) (.cons (.bin .ne (.nm 7) (.slc (.nm 8) .no (.yes (.un .len (.nm 7))))) (.cons (.bin .ne (.nm 8) (.slc (.nm 7) .no (.yes (.un .len (.nm 8))))) .nil))))) .nil))))))))
def f_law_is_paper : FD := ⟨3, 12, b_law_is_paper, none⟩
def b_law_is_way : Ss := (.cons (.ifs (.un .not (.isi (.nm 1) [.tuple])) (.cons (.ret (.cst (.bl false))) .nil) .nil) (.cons (.ifs (.bin .ne (.lc [2] (.n 2) (.ex (.nm 1)) (.yes (.or (.cons (.un .not (.isi (.nm 2) [.tuple])) (.cons (.bin .nmem (.nm 2) (.bin .idx (.nm 0) (.cst (.int 1)))) .nil)))) (.nm 2)) (.lst .nil)) (.cons (.ret (.cst (.bl false))) .nil) .nil) (.cons (.ifs (.bin .ne (.lc [2] (.n 2) (.ex (.nm 1)) (.yes (.or (.cons (.isi (.bin .idx (.nm 2) (.cst (.int 1))) [.bool]) (.cons (.isi (.bin .idx (.nm 2) (.cst (.int 3))) [.bool]) .nil)))) (.cst (.int 1))) (.lst .nil)) (.cons (.ret (.cst (.bl false))) .nil) .nil) (.cons (.ret (.bin .eq (.lc [3, 4] (.t [3, 4]) (.zip (.nm 1) (.slc (.nm 1) (.yes (.cst (.int 1))) .no)) (.yes (.bin .ne (.bin .idx (.nm 3) (.cst (.int 2))) (.bin .idx (.nm 4) (.cst (.int 0))))) (.cst (.int 1))) (.lst .nil))) .nil))))
def f_law_is_way : FD := ⟨2, 5, b_law_is_way, none⟩
def b_law_is_paper_2 : Ss := (.cons (.ifs (.or (.cons (.un .not (.isi (.nm 2) [.tuple])) (.cons (.bin .ne (.un .len (.nm 2)) (.cst (.int 2))) (.cons (.un .not (.isi (.bin .idx (.nm 2) (.cst (.int 1))) [.tuple])) .nil)))) (.cons (.ret (.cst (.bl false))) .nil) .nil) (.cons (.ifs (.un .not (.call 68 (.cons (.nm 0) (.cons (.bin .idx (.nm 2) (.cst (.int 0))) .nil)))) (.cons (.ret (.cst (.bl false))) .nil) .nil) (.cons (.unp [5, 6] (.nm 2)) (.cons (.ifs (.or (.cons (.un .not (.chain .le .le (.cst (.int 1)) (.un .len (.nm 6)) (.cst (.int 2)))) (.cons (.un .not (.un .all (.lc [9] (.n 9) (.ex (.nm 6)) .no (.and (.cons (.call 68 (.cons (.nm 0) (.cons (.nm 9) .nil))) (.cons (.bin .ne (.nm 9) (.tup .nil)) .nil)))))) .nil))) (.cons (.ret (.cst (.bl false))) .nil) .nil) (.cons (.asg 3 (.d (.bin .idx (.bin .idx (.bin .idx (.nm 6) (.cst (.int 0))) (.cst (.int 0))) (.cst (.int 0))))) (.cons (.ifs (.bin .ne (.lc [9] (.n 9) (.ex (.nm 6)) (.yes (.or (.cons (.bin .ne (.bin .idx (.bin .idx (.nm 9) (.cst (.int 0))) (.cst (.int 0))) (.nm 3)) (.cons (.bin .ne (.bin .idx (.bin .idx (.nm 9) (.un .neg (.cst (.int 1)))) (.cst (.int 2))) (.nm 3)) .nil)))) (.nm 9)) (.lst .nil)) (.cons (.ret (.cst (.bl false))) .nil) .nil) (.cons (.asg 4 (.d (.ife (.bin .ne (.nm 5) (.tup .nil)) (.bin .idx (.bin .idx (.nm 5) (.cst (.int 0))) (.cst (.int 0))) (.nm 3)))) (.cons (.ifs (.or (.cons (.bin .eq (.bin .idx (.nm 1) (.bin .index (.bin .idx (.nm 0) (.cst (.int 0))) (.nm 4))) (.cst (.int 0))) (.cons (.and (.cons (.bin .ne (.nm 5) (.tup .nil)) (.cons (.bin .ne (.bin .idx (.bin .idx (.nm 5) (.un .neg (.cst (.int 1)))) (.cst (.int 2))) (.nm 3)) .nil))) .nil))) (.cons (.ret (.cst (.bl false))) .nil) .nil) (.cons (.ifs (.bin .eq (.un .len (.nm 6)) (.cst (.int 1))) (.cons (.ret (.bin .ne (.lc [10] (.n 10) (.ex (.bin .idx (.nm 6) (.cst (.int 0)))) (.yes (.bin .gt (.bin .idx (.nm 10) (.cst (.int 3))) (.cst (.int 1)))) (.nm 10)) (.lst .nil))) .nil) .nil) (.cons (.unp [7, 8] (.nm 6)) (.cons (.ret (.and (.cons (.bin .lt (.nm 7) (.nm 8)) (.cons (.bin .ne (.nm 7) (.slc (.nm 8) .no (.yes (.un .len (.nm 7))))) (.cons (.bin .ne (.nm 8) (.slc (.nm 7) .no (.yes (.un .len (.nm 8))))) .nil))))) .nil)))))))))))
def f_law_is_paper_2 : FD := ⟨3, 11, b_law_is_paper_2, none⟩
def b_law_drawn : Ss := (.cons (.asg 3 (.o (.lst .nil))) (.cons (.fr (.n 4) (.rng (.cst (.int 3))) (.cons (.unp [7, 8] (.tup (.cons (.bin .idx (.bin .idx (.nm 0) (.cst (.int 0))) (.bin .mod (.bin .idx (.nm 2) (.nm 4)) (.un .len (.bin .idx (.nm 0) (.cst (.int 0)))))) (.cons (.tup .nil) .nil)))) (.cons (.ifs (.and (.cons (.bin .eq (.nm 4) (.cst (.int 2))) (.cons (.bin .ne (.bin .idx (.pk 3) (.cst (.int 1))) (.tup .nil)) .nil))) (.cons (.asg 7 (.d (.bin .idx (.bin .idx (.bin .idx (.pk 3) (.cst (.int 1))) (.cst (.int 0))) (.cst (.int 0))))) .nil) .nil) (.cons (.fr (.n 6) (.ex (.slc (.nm 2) (.yes (.bin .add (.bin .mul (.cst (.int 3)) (.nm 4)) (.cst (.int 3)))) (.yes (.bin .add (.bin .add (.bin .mul (.cst (.int 3)) (.nm 4)) (.cst (.int 3))) (.bin .mod (.bin .idx (.nm 2) (.nm 4)) (.cst (.int 4))))))) (.cons (.asg 9 (.d (.lc [10] (.n 10) (.ex (.bin .idx (.nm 0) (.cst (.int 1)))) (.yes (.bin .eq (.bin .idx (.nm 10) (.cst (.int 0))) (.nm 7))) (.nm 10)))) (.cons (.ifs (.bin .ne (.nm 9) (.lst .nil)) (.cons (.asg 8 (.d (.bin .add (.nm 8) (.tup (.cons (.bin .idx (.nm 9) (.bin .mod (.nm 6) (.un .len (.nm 9)))) .nil))))) (.cons (.asg 7 (.d (.bin .idx (.bin .idx (.nm 8) (.un .neg (.cst (.int 1)))) (.cst (.int 2))))) .nil)) .nil) .nil))) (.cons (.app 3 (.nm 8)) .nil))))) (.cons (.asg 5 (.d (.ife (.bin .eq (.bin .mod (.bin .idx (.nm 2) (.cst (.int 21))) (.cst (.int 2))) (.cst (.int 0))) (.un .tuple (.un .sorted (.slc (.pk 3) (.yes (.cst (.int 1))) .no))) (.tup (.cons (.bin .idx (.pk 3) (.cst (.int 1))) .nil))))) (.cons (.ret (.tup (.cons (.ife (.bin .eq (.bin .mod (.bin .idx (.nm 2) (.cst (.int 20))) (.cst (.int 2))) (.cst (.int 0))) (.bin .idx (.pk 3) (.cst (.int 0))) (.tup .nil)) (.cons (.nm 5) .nil)))) .nil))))
def f_law_drawn : FD := ⟨3, 11, b_law_drawn, none⟩
def b_most_at_once : Ss := (.cons (.asg 2 (.d (.call 46 (.cons (.nm 0) (.cons (.nm 1) .nil))))) (.cons (.ifs (.bin .nmem (.bin .idx (.nm 2) (.cst (.int 0))) (.tup (.cons (.cst (.str "ends")) (.cons (.cst (.str "rounds")) .nil)))) (.cons (.ret (.cst .non)) .nil) .nil) (.cons (.asg 3 (.d (.ife (.bin .eq (.bin .idx (.nm 2) (.cst (.int 0))) (.cst (.str "ends"))) (.bin .max2 (.cst (.int 0)) (.bin .idx (.nm 2) (.cst (.int 1)))) (.bin .add (.bin .idx (.nm 2) (.cst (.int 1))) (.bin .idx (.nm 2) (.cst (.int 2))))))) (.cons (.asg 4 (.d (.lc [5] (.n 5) (.ex (.call 25 (.cons (.nm 0) (.cons (.nm 1) (.cons (.nm 3) .nil))))) .no (.un .sum (.nm 5))))) (.cons (.ret (.tup (.cons (.un .max (.nm 4)) (.cons (.bin .index (.nm 4) (.un .max (.nm 4))) .nil)))) .nil)))))
def f_most_at_once : FD := ⟨2, 6, b_most_at_once, none⟩
def b_waiting : Ss := (.cons (.asg 3 (.o (.bin .mul (.lst (.cons (.cst (.int 0)) .nil)) (.un .len (.bin .idx (.nm 0) (.cst (.int 0))))))) (.cons (.fr (.t [4, 5]) (.ex (.nm 1)) (.cons (.ifs (.bin .le (.nm 4) (.nm 2)) (.cons (.augO 3 .add (.nm 5) (.bin .idx (.nm 1) (.tup (.cons (.nm 4) (.cons (.nm 5) .nil))))) .nil) .nil) .nil)) (.cons (.ret (.un .tuple (.pk 3))) .nil)))
def f_waiting : FD := ⟨3, 6, b_waiting, none⟩
def b_law_in_all : Ss := (.cons (.asg 4 (.d (.bin .mul (.lst (.cons (.cst (.int 0)) .nil)) (.un .len (.nm 1))))) (.cons (.fr (.n 5) (.rng (.bin .add (.nm 3) (.cst (.int 1)))) (.cons (.asg 4 (.d (.lc [6, 7] (.t [6, 7]) (.zip (.nm 4) (.bin .idx (.call 77 (.cons (.nm 0) (.cons (.nm 1) (.cons (.nm 2) (.cons (.nm 5) .nil))))) (.cst (.int 0)))) .no (.bin .add (.nm 6) (.nm 7))))) .nil)) (.cons (.ret (.un .tuple (.nm 4))) .nil)))
def f_law_in_all : FD := ⟨4, 8, b_law_in_all, none⟩
def b_law_ending_right : Ss := (.cons (.asg 4 (.d (.call 27 (.cons (.nm 0) (.cons (.nm 1) (.cons (.bin .max2 (.cst (.int 0)) (.nm 2)) .nil)))))) (.cons (.asg 5 (.d (.call 80 (.cons (.nm 0) (.cons (.nm 1) (.cons (.nm 3) .nil)))))) (.cons (.ifs (.or (.cons (.un .isNon (.nm 5)) (.cons (.bin .lt (.nm 5) (.nm 2)) (.cons (.and (.cons (.bin .le (.nm 5) (.cst (.int 40))) (.cons (.bin .ne (.call 81 (.cons (.nm 0) (.cons (.nm 1) (.cons (.nm 3) (.cons (.nm 5) .nil))))) (.nm 4)) .nil))) .nil)))) (.cons (.ret (.cst (.bl false))) .nil) .nil) (.cons (.ret (.bin .eq (.bin .eq (.nm 5) (.bin .sub (.cst (.int 0)) (.cst (.int 1)))) (.bin .eq (.un .max (.nm 4)) (.cst (.int 0))))) .nil))))
def f_law_ending_right : FD := ⟨4, 6, b_law_ending_right, none⟩
def b_law_last : Ss := (.cons (.asg 3 (.d (.cst (.int 30)))) (.cons (.asg 4 (.d (.call 78 (.cons (.nm 0) (.cons (.nm 1) (.cons (.nm 2) (.cons (.nm 3) .nil))))))) (.cons (.whl (.or (.cons (.bin .ne (.bin .idx (.nm 4) (.un .neg (.cst (.int 1)))) (.bin .idx (.nm 4) (.un .neg (.cst (.int 2))))) (.cons (.bin .gt (.un .max (.bin .idx (.bin .idx (.nm 4) (.un .neg (.cst (.int 1)))) (.cst (.int 0)))) (.cst (.int 0))) (.cons (.bin .gt (.un .max (.bin .idx (.bin .idx (.nm 4) (.un .neg (.cst (.int 1)))) (.cst (.int 1)))) (.cst (.int 0))) (.cons (.bin .ne (.slc (.nm 4) (.yes (.un .neg (.cst (.int 6)))) .no) (.bin .mul (.slc (.nm 4) (.yes (.un .neg (.cst (.int 1)))) .no) (.cst (.int 6)))) .nil))))) (.cons (.asg 3 (.d (.bin .mul (.cst (.int 3)) (.nm 3)))) (.cons (.asg 4 (.d (.call 78 (.cons (.nm 0) (.cons (.nm 1) (.cons (.nm 2) (.cons (.nm 3) .nil))))))) .nil))) (.cons (.ret (.un .max (.bin .add (.lst (.cons (.bin .sub (.cst (.int 0)) (.cst (.int 1))) .nil)) (.lc [5, 6] (.t [5, 6]) (.enum (.nm 4)) (.yes (.bin .gt (.un .max (.bin .idx (.nm 6) (.cst (.int 0)))) (.cst (.int 0)))) (.nm 5))))) .nil))))
def f_law_last : FD := ⟨3, 7, b_law_last, none⟩
def b_law_free : Ss := (.cons (.asg 4 (.d (.call 78 (.cons (.nm 0) (.cons (.nm 1) (.cons (.nm 2) (.cons (.bin .add (.nm 3) (.cst (.int 4))) .nil))))))) (.cons (.ret (.and (.cons (.bin .eq (.un .max (.lc [5] (.n 5) (.ex (.slc (.nm 4) (.yes (.bin .add (.nm 3) (.cst (.int 1)))) .no)) .no (.un .max (.bin .idx (.nm 5) (.cst (.int 0)))))) (.cst (.int 0))) (.cons (.bin .eq (.un .max (.bin .idx (.bin .idx (.nm 4) (.un .neg (.cst (.int 1)))) (.cst (.int 1)))) (.cst (.int 0))) .nil)))) .nil))
def f_law_free : FD := ⟨4, 6, b_law_free, none⟩
def b_unit : Ss := (.cons (.ret (.un .tuple (.lc [2] (.n 2) (.rng (.un .len (.bin .idx (.nm 0) (.cst (.int 0))))) .no (.un .int (.bin .eq (.nm 2) (.nm 1)))))) .nil)
def f_unit : FD := ⟨2, 3, b_unit, none⟩
def b_starts_for : Ss := (.cons (.asg 3 (.d (.un .max (.bin .add (.lc [15] (.n 15) (.ex (.nm 2)) .no (.bin .idx (.nm 15) (.cst (.int 0)))) (.lst (.cons (.cst (.int 0)) .nil)))))) (.cons (.asg 4 (.d (.lc [6] (.n 6) (.rng (.un .len (.bin .idx (.nm 0) (.cst (.int 0))))) .no (.call 25 (.cons (.nm 0) (.cons (.call 88 (.cons (.nm 0) (.cons (.nm 6) .nil))) (.cons (.nm 3) .nil))))))) (.cons (.asg 5 (.o (.lst (.cons (.tup .nil) .nil)))) (.cons (.fr (.n 6) (.rng (.un .len (.bin .idx (.nm 0) (.cst (.int 0))))) (.cons (.asg 5 (.o (.lc2 [12, 13] [13] (.n 12) (.ex (.pk 5)) .no (.n 13) (.rng (.bin .add (.nm 1) (.cst (.int 1)))) .no (.bin .add (.nm 12) (.tup (.cons (.nm 13) .nil)))))) .nil)) (.cons (.fr (.t [7, 8, 9]) (.ex (.nm 2)) (.cons (.asg 10 (.d (.bin .index (.bin .idx (.nm 0) (.cst (.int 0))) (.nm 8)))) (.cons (.asg 11 (.d (.lc [14] (.n 14) (.ex (.nm 4)) .no (.bin .idx (.bin .idx (.nm 14) (.nm 7)) (.nm 10))))) (.cons (.asg 5 (.o (.lc [12] (.n 12) (.ex (.pk 5)) (.yes (.bin .eq (.un .sum (.lc [13, 16] (.t [13, 16]) (.zip (.nm 12) (.nm 11)) .no (.bin .mul (.nm 13) (.nm 16)))) (.nm 9))) (.nm 12)))) .nil)))) (.cons (.retO 5) .nil))))))
def f_starts_for : FD := ⟨3, 17, b_starts_for, none⟩
def b_law_starts : Ss := (.cons (.asg 2 (.d (.lst (.cons (.tup .nil) .nil)))) (.cons (.fr (.n 3) (.rng (.nm 0)) (.cons (.asg 4 (.d (.lst .nil))) (.cons (.fr (.n 5) (.ex (.nm 2)) (.cons (.asg 4 (.d (.bin .add (.nm 4) (.lc [6] (.n 6) (.rng (.bin .add (.nm 1) (.cst (.int 1)))) .no (.bin .add (.nm 5) (.tup (.cons (.nm 6) .nil))))))) .nil)) (.cons (.asg 2 (.d (.nm 4))) .nil)))) (.cons (.ret (.nm 2)) .nil)))
def f_law_starts : FD := ⟨2, 7, b_law_starts, none⟩
def b_lots : Ss := (.cons (.asg 2 (.d (.lst (.cons (.tup .nil) .nil)))) (.cons (.fr (.n 3) (.rng (.nm 1)) (.cons (.asg 2 (.d (.lc2 [4, 5] [5] (.n 4) (.ex (.nm 2)) .no (.n 5) (.rng2 (.ife (.bin .ne (.nm 4) (.tup .nil)) (.bin .add (.bin .idx (.nm 4) (.un .neg (.cst (.int 1)))) (.cst (.int 1))) (.cst (.int 0))) (.un .len (.nm 0))) .no (.bin .add (.nm 4) (.tup (.cons (.nm 5) .nil)))))) .nil)) (.cons (.ret (.lc [4] (.n 4) (.ex (.nm 2)) .no (.un .tuple (.lc [5] (.n 5) (.ex (.nm 4)) .no (.bin .idx (.nm 0) (.nm 5)))))) .nil)))
def f_lots : FD := ⟨2, 6, b_lots, none⟩
def b_stopped : Ss := (.cons (.asg 3 (.d (.un .tuple (.lc [4] (.n 4) (.ex (.bin .idx (.nm 0) (.cst (.int 1)))) (.yes (.and (.cons (.bin .nmem (.bin .idx (.nm 4) (.cst (.int 0))) (.nm 2)) (.cons (.bin .nmem (.bin .idx (.nm 4) (.cst (.int 2))) (.nm 2)) .nil)))) (.nm 4))))) (.cons (.ret (.tup (.cons (.tup (.cons (.bin .idx (.nm 0) (.cst (.int 0))) (.cons (.nm 3) .nil))) (.cons (.un .tuple (.lc [5, 6] (.t [5, 6]) (.zip (.bin .idx (.nm 0) (.cst (.int 0))) (.nm 1)) .no (.ife (.bin .mem (.nm 5) (.nm 2)) (.cst (.int 0)) (.nm 6)))) .nil)))) .nil))
def f_stopped : FD := ⟨3, 7, b_stopped, none⟩
def b_is_wished : Ss := (.cons (.ifs (.bin .eq (.bin .idx (.nm 2) (.cst (.int 0))) (.cst (.str "never"))) (.cons (.ret (.bin .nmem (.bin .idx (.nm 2) (.cst (.int 1))) (.call 39 (.cons (.nm 0) (.cons (.call 40 (.cons (.nm 0) (.cons (.nm 1) .nil))) .nil))))) .nil) .nil) (.cons (.asg 3 (.d (.bin .idx (.call 46 (.cons (.nm 0) (.cons (.nm 1) .nil))) (.cst (.int 0))))) (.cons (.ret (.or (.cons (.bin .eq (.nm 3) (.cst (.str "ends"))) (.cons (.and (.cons (.bin .eq (.nm 3) (.cst (.str "rounds"))) (.cons (.bin .eq (.bin .idx (.nm 2) (.cst (.int 0))) (.cst (.str "bounded"))) .nil))) .nil)))) .nil)))
def f_is_wished : FD := ⟨3, 4, b_is_wished, none⟩
def b_fewest_stops : Ss := (.cons (.asg 4 (.d (.lc [7] (.n 7) (.ex (.bin .idx (.nm 0) (.cst (.int 0)))) (.yes (.bin .nmem (.nm 7) (.nm 3))) (.nm 7)))) (.cons (.fr (.n 5) (.rng (.bin .add (.un .len (.nm 4)) (.cst (.int 1)))) (.cons (.fr (.n 6) (.ex (.call 92 (.cons (.nm 4) (.cons (.nm 5) .nil)))) (.cons (.unp [8, 9] (.call 93 (.cons (.nm 0) (.cons (.nm 1) (.cons (.nm 6) .nil))))) (.cons (.ifs (.call 94 (.cons (.nm 8) (.cons (.nm 9) (.cons (.nm 2) .nil)))) (.cons (.ret (.nm 6)) .nil) .nil) .nil))) .nil)) (.cons (.ret (.cst .non)) .nil)))
def f_fewest_stops : FD := ⟨4, 10, b_fewest_stops, none⟩
def b_law_fate_word : Ss := (.cons (.asg 2 (.d (.call 47 (.cons (.nm 0) (.cons (.call 48 (.cons (.nm 0) (.cons (.nm 1) .nil))) .nil))))) (.cons (.ifs (.bin .mem (.cst (.str "many")) (.lc [4] (.n 4) (.ex (.nm 2)) .no (.call 50 (.cons (.nm 0) (.cons (.nm 4) .nil))))) (.cons (.ret (.cst (.str "bursts"))) .nil) .nil) (.cons (.asg 3 (.d (.un .max (.bin .add (.lst (.cons (.cst (.int 0)) .nil)) (.lc [4] (.n 4) (.ex (.call 48 (.cons (.nm 0) (.cons (.nm 1) .nil)))) .no (.call 51 (.cons (.nm 0) (.cons (.nm 4) .nil)))))))) (.cons (.ret (.bin .idx (.lst (.cons (.cst (.str "ends")) (.cons (.cst (.str "rounds")) (.cons (.cst (.str "grows")) .nil)))) (.bin .min2 (.nm 3) (.cst (.int 2))))) .nil))))
def f_law_fate_word : FD := ⟨2, 5, b_law_fate_word, none⟩
def b_law_less : Ss := (.cons (.asg 3 (.d (.un .tuple (.lc [4] (.n 4) (.ex (.bin .idx (.nm 0) (.cst (.int 1)))) (.yes (.and (.cons (.bin .nmem (.bin .idx (.nm 4) (.cst (.int 0))) (.nm 2)) (.cons (.bin .nmem (.bin .idx (.nm 4) (.cst (.int 2))) (.nm 2)) .nil)))) (.nm 4))))) (.cons (.ret (.tup (.cons (.tup (.cons (.bin .idx (.nm 0) (.cst (.int 0))) (.cons (.nm 3) .nil))) (.cons (.un .tuple (.lc [5, 6] (.t [5, 6]) (.zip (.bin .idx (.nm 0) (.cst (.int 0))) (.nm 1)) .no (.bin .mul (.nm 6) (.un .int (.bin .nmem (.nm 5) (.nm 2)))))) .nil)))) .nil))
def f_law_less : FD := ⟨3, 7, b_law_less, none⟩
def b_law_wished : Ss := (.cons (.ifs (.bin .eq (.bin .idx (.nm 2) (.cst (.int 0))) (.cst (.str "never"))) (.cons (.ret (.bin .nmem (.bin .idx (.nm 2) (.cst (.int 1))) (.call 47 (.cons (.nm 0) (.cons (.call 48 (.cons (.nm 0) (.cons (.nm 1) .nil))) .nil))))) .nil) .nil) (.cons (.ret (.bin .mem (.call 96 (.cons (.nm 0) (.cons (.nm 1) .nil))) (.bin .idx (.lst (.cons (.lst (.cons (.cst (.str "ends")) .nil)) (.cons (.lst (.cons (.cst (.str "ends")) (.cons (.cst (.str "rounds")) .nil))) .nil))) (.un .int (.bin .eq (.bin .idx (.nm 2) (.cst (.int 0))) (.cst (.str "bounded"))))))) .nil))
def f_law_wished : FD := ⟨3, 3, b_law_wished, none⟩
def b_law_lots : Ss := (.cons (.asg 1 (.d (.lst (.cons (.tup .nil) .nil)))) (.cons (.fr (.n 2) (.ex (.nm 0)) (.cons (.asg 1 (.d (.bin .add (.nm 1) (.lc [4] (.n 4) (.ex (.nm 1)) .no (.bin .add (.nm 4) (.tup (.cons (.nm 2) .nil))))))) .nil)) (.cons (.ret (.lc [3, 4] (.t [3, 4]) (.ex (.un .sorted (.lc [4] (.n 4) (.ex (.nm 1)) .no (.tup (.cons (.un .len (.nm 4)) (.cons (.nm 4) .nil)))))) .no (.nm 4))) .nil)))
def f_law_lots : FD := ⟨1, 5, b_law_lots, none⟩
def b_law_true : Ss := (.cons (.asg 3 (.d (.call 46 (.cons (.nm 0) (.cons (.nm 1) .nil))))) (.cons (.ifs (.bin .eq (.bin .idx (.nm 2) (.cst (.int 0))) (.cst (.str "never"))) (.cons (.ret (.bin .eq (.bin .idx (.call 27 (.cons (.nm 0) (.cons (.nm 1) (.cons (.cst (.int 25)) .nil)))) (.bin .index (.bin .idx (.nm 0) (.cst (.int 0))) (.bin .idx (.nm 2) (.cst (.int 1))))) (.cst (.int 0)))) .nil) .nil) (.cons (.ifs (.bin .eq (.bin .idx (.nm 2) (.cst (.int 0))) (.cst (.str "ends"))) (.cons (.ret (.and (.cons (.bin .eq (.bin .idx (.nm 3) (.cst (.int 0))) (.cst (.str "ends"))) (.cons (.bin .eq (.call 27 (.cons (.nm 0) (.cons (.nm 1) (.cons (.cst (.int 200)) .nil)))) (.call 27 (.cons (.nm 0) (.cons (.nm 1) (.cons (.cst (.int 25)) .nil))))) .nil)))) .nil) .nil) (.cons (.ret (.bin .mem (.bin .idx (.nm 3) (.cst (.int 0))) (.tup (.cons (.cst (.str "ends")) (.cons (.cst (.str "rounds")) .nil))))) .nil))))
def f_law_true : FD := ⟨3, 4, b_law_true, none⟩
def b_law_parting : Ss := (.cons (.asg 4 (.o (.lst .nil))) (.cons (.fr (.n 5) (.rng (.un .len (.bin .idx (.nm 0) (.cst (.int 0))))) (.cons (.asg 6 (.d (.un .tuple (.lc [12] (.n 12) (.rng (.un .len (.bin .idx (.nm 0) (.cst (.int 0))))) .no (.un .int (.bin .eq (.nm 12) (.nm 5))))))) (.cons (.par (.cons 8 (.d (.call 28 (.cons (.nm 0) (.cons (.nm 6) (.cons (.cst (.int 100)) .nil))))) (.cons 9 (.d (.call 28 (.cons (.nm 2) (.cons (.nm 6) (.cons (.cst (.int 100)) .nil))))) .nil))) (.cons (.fr (.n 7) (.rng (.cst (.int 101))) (.cons (.par (.cons 10 (.d (.bin .index (.bin .idx (.nm 0) (.cst (.int 0))) (.nm 1))) (.cons 11 (.d (.bin .index (.bin .idx (.nm 2) (.cst (.int 0))) (.nm 3))) .nil))) (.cons (.ifs (.bin .ne (.bin .idx (.bin .idx (.nm 8) (.nm 7)) (.nm 10)) (.bin .idx (.bin .idx (.nm 9) (.nm 7)) (.nm 11))) (.cons (.app 4 (.tup (.cons (.nm 7) (.cons (.nm 5) .nil)))) .nil) .nil) .nil))) .nil)))) (.cons (.ret (.ife (.bin .ne (.pk 4) (.lst .nil)) (.un .min (.pk 4)) (.cst .non))) .nil)))
def f_law_parting : FD := ⟨4, 13, b_law_parting, none⟩
def b_law_alike : Ss := (.cons (.fr (.n 6) (.ex (.nm 5)) (.cons (.ifs (.bin .ne (.bin .idx (.call 26 (.cons (.nm 0) (.cons (.nm 4) (.cons (.nm 6) .nil)))) (.nm 1)) (.bin .idx (.call 26 (.cons (.nm 2) (.cons (.nm 4) (.cons (.nm 6) .nil)))) (.nm 3))) (.cons (.ret (.cst (.bl false))) .nil) .nil) .nil)) (.cons (.ret (.cst (.bl true))) .nil))
def f_law_alike : FD := ⟨6, 7, b_law_alike, none⟩
def b_law_renamed : Ss := (.cons (.asg 1 (.d (.lc [2, 3, 4, 5] (.t [2, 3, 4, 5]) (.ex (.bin .idx (.nm 0) (.cst (.int 1)))) .no (.tup (.cons (.bin .add (.cst (.str "x")) (.nm 2)) (.cons (.nm 3) (.cons (.bin .add (.cst (.str "x")) (.nm 4)) (.cons (.nm 5) .nil)))))))) (.cons (.ret (.tup (.cons (.un .tuple (.lc [2] (.n 2) (.ex (.bin .idx (.nm 0) (.cst (.int 0)))) .no (.bin .add (.cst (.str "x")) (.nm 2)))) (.cons (.un .tuple (.nm 1)) .nil)))) .nil))
def f_law_renamed : FD := ⟨1, 6, b_law_renamed, none⟩
def b_cut_to : Ss := (.cons (.ret (.un .tuple (.lc [2, 3] (.t [2, 3]) (.zip (.nm 1) (.nm 0)) .no (.bin .min2 (.nm 2) (.nm 3))))) .nil)
def f_cut_to : FD := ⟨2, 4, b_cut_to, none⟩
def b_next_capped : Ss := (.cons (.asg 4 (.o (.un .list (.call 23 (.cons (.nm 0) (.cons (.nm 3) .nil)))))) (.cons (.fr (.t [5, 6, 7, 8]) (.ex (.nm 2)) (.cons (.asg 9 (.d (.bin .idx (.nm 3) (.bin .sub (.nm 7) (.cst (.int 1)))))) (.cons (.augO 4 .add (.bin .index (.bin .idx (.nm 0) (.cst (.int 0))) (.nm 8)) (.bin .min2 (.bin .idx (.nm 9) (.bin .index (.bin .idx (.nm 0) (.cst (.int 0))) (.nm 5))) (.bin .idx (.nm 9) (.bin .index (.bin .idx (.nm 0) (.cst (.int 0))) (.nm 6))))) .nil))) (.cons (.frz 4) (.cons (.ret (.call 110 (.cons (.nm 1) (.cons (.nm 4) .nil)))) .nil))))
def f_next_capped : FD := ⟨4, 10, b_next_capped, none⟩
def b_capped_at : Ss := (.cons (.unp [5, 6] (.call 112 (.cons (.nm 0) (.cons (.nm 1) (.cons (.nm 2) (.cons (.nm 3) .nil)))))) (.cons (.ret (.ife (.bin .lt (.nm 4) (.un .len (.nm 5))) (.bin .idx (.nm 5) (.nm 4)) (.bin .idx (.nm 5) (.bin .add (.nm 6) (.bin .mod (.bin .sub (.nm 4) (.nm 6)) (.bin .sub (.un .len (.nm 5)) (.nm 6))))))) .nil))
def f_capped_at : FD := ⟨5, 7, b_capped_at, none⟩
def b_capped_round : Ss := (.cons (.unp [4, 5] (.call 112 (.cons (.nm 0) (.cons (.nm 1) (.cons (.nm 2) (.cons (.nm 3) .nil)))))) (.cons (.ret (.tup (.cons (.bin .max2 (.cst (.int 0)) (.bin .sub (.nm 5) (.cst (.int 3)))) (.cons (.bin .sub (.un .len (.nm 4)) (.nm 5)) .nil)))) .nil))
def f_capped_round : FD := ⟨4, 6, b_capped_round, none⟩
def b_law_caps : Ss := (.cons (.asg 2 (.d (.un .tuple (.lc [4] (.n 4) (.ex (.slc (.nm 1) .no (.yes (.un .len (.bin .idx (.nm 0) (.cst (.int 0))))))) .no (.bin .idx (.lst (.cons (.cst (.int 9)) (.cons (.cst (.int 1)) (.cons (.bin .mod (.nm 4) (.cst (.int 10))) (.cons (.cst (.int 3)) .nil))))) (.bin .mod (.bin .fdiv (.nm 4) (.cst (.int 10))) (.cst (.int 4)))))))) (.cons (.asg 3 (.o (.lst .nil))) (.cons (.fr (.n 4) (.ex (.slc (.nm 1) (.yes (.cst (.int 5))) (.yes (.ife (.bin .gt (.un .len (.bin .idx (.nm 0) (.cst (.int 0)))) (.cst (.int 1))) (.bin .add (.cst (.int 5)) (.bin .mod (.bin .idx (.nm 1) (.cst (.int 9))) (.cst (.int 5)))) (.cst (.int 5)))))) (.cons (.asg 5 (.d (.bin .mod (.nm 4) (.un .len (.bin .idx (.nm 0) (.cst (.int 0))))))) (.cons (.asg 6 (.d (.bin .mod (.bin .add (.bin .add (.nm 5) (.cst (.int 1))) (.bin .mod (.bin .fdiv (.nm 4) (.cst (.int 5))) (.bin .sub (.un .len (.bin .idx (.nm 0) (.cst (.int 0)))) (.cst (.int 1))))) (.un .len (.bin .idx (.nm 0) (.cst (.int 0))))))) (.cons (.app 3 (.tup (.cons (.bin .idx (.bin .idx (.nm 0) (.cst (.int 0))) (.nm 5)) (.cons (.bin .idx (.bin .idx (.nm 0) (.cst (.int 0))) (.nm 6)) (.cons (.bin .add (.cst (.int 1)) (.bin .mod (.bin .fdiv (.nm 4) (.cst (.int 25))) (.cst (.int 4)))) (.cons (.bin .idx (.bin .idx (.nm 0) (.cst (.int 0))) (.bin .mod (.bin .fdiv (.nm 4) (.cst (.int 100))) (.un .len (.bin .idx (.nm 0) (.cst (.int 0)))))) .nil)))))) .nil)))) (.cons (.ret (.tup (.cons (.nm 2) (.cons (.un .tuple (.un .ssort (.pk 3))) .nil)))) .nil))))
def f_law_caps : FD := ⟨2, 7, b_law_caps, none⟩
def b_law_twice : Ss := (.cons (.asg 1 (.d (.bin .mul (.tup (.cons (.cst (.int 0)) .nil)) (.un .len (.bin .idx (.nm 0) (.cst (.int 0))))))) (.cons (.asg 2 (.d (.bin .add (.bin .mul (.lst (.cons (.nm 1) .nil)) (.cst (.int 3))) (.nm 0)))) (.cons (.asg 3 (.dnew false)) (.cons (.fr (.n 4) (.rng (.un .len (.nm 0))) (.cons (.asg 5 (.d (.un .tuple (.slc (.nm 2) (.yes (.nm 4)) (.yes (.bin .add (.nm 4) (.cst (.int 4)))))))) (.cons (.ifs (.din false (.nm 5) 3) (.cons (.ret (.tup (.cons (.dget 3 (.nm 5)) (.cons (.nm 4) .nil)))) .nil) .nil) (.cons (.setD 3 (.nm 5) (.nm 4)) .nil)))) (.cons (.ret (.cst .non)) .nil)))))
def f_law_twice : FD := ⟨1, 6, b_law_twice, none⟩
def b_law_due : Ss := (.cons (.ifs (.un .isNon (.nm 1)) (.cons (.ret (.lst (.cons (.cst .non) (.cons (.cst .non) .nil)))) .nil) .nil) (.cons (.unp [6, 7] (.nm 1)) (.cons (.asg 3 (.d (.bin .sub (.nm 7) (.nm 6)))) (.cons (.asg 4 (.d (.ife (.bin .lt (.nm 2) (.nm 7)) (.bin .idx (.nm 0) (.nm 2)) (.bin .idx (.nm 0) (.bin .add (.nm 6) (.bin .mod (.bin .sub (.nm 2) (.nm 6)) (.nm 3))))))) (.cons (.asg 5 (.d (.nm 6))) (.cons (.whl (.and (.cons (.bin .gt (.nm 5) (.cst (.int 0))) (.cons (.bin .gt (.nm 5) (.bin .sub (.nm 6) (.cst (.int 3)))) (.cons (.bin .eq (.bin .idx (.nm 0) (.bin .sub (.nm 5) (.cst (.int 1)))) (.bin .idx (.nm 0) (.bin .add (.bin .sub (.nm 5) (.cst (.int 1))) (.nm 3)))) .nil)))) (.cons (.asg 5 (.d (.bin .sub (.nm 5) (.cst (.int 1))))) .nil)) (.cons (.ret (.lst (.cons (.nm 4) (.cons (.tup (.cons (.nm 5) (.cons (.nm 3) .nil))) .nil)))) .nil)))))))
def f_law_due : FD := ⟨3, 8, b_law_due, none⟩
def b_law_round_right : Ss := (.cons (.unp [7, 8] (.nm 4)) (.cons (.asg 5 (.d (.lc [9] (.n 9) (.rng (.bin .add (.bin .min2 (.nm 8) (.cst (.int 60))) (.cst (.int 5)))) .no (.call 113 (.cons (.nm 0) (.cons (.nm 1) (.cons (.nm 2) (.cons (.nm 3) (.cons (.bin .add (.nm 7) (.nm 9)) .nil))))))))) (.cons (.fr (.t [9, 10]) (.enum (.slc (.nm 5) .no (.yes (.cst (.int 12))))) (.cons (.ifs (.bin .ne (.call 113 (.cons (.nm 0) (.cons (.nm 1) (.cons (.nm 2) (.cons (.nm 3) (.cons (.bin .add (.bin .add (.nm 7) (.nm 9)) (.nm 8)) .nil)))))) (.nm 10)) (.cons (.ret (.cst (.bl false))) .nil) .nil) (.cons (.ifs (.bin .ne (.call 113 (.cons (.nm 0) (.cons (.nm 1) (.cons (.nm 2) (.cons (.nm 3) (.cons (.bin .add (.bin .add (.nm 7) (.nm 9)) (.bin .mul (.bin .pow (.cst (.int 10)) (.cst (.int 20))) (.nm 8))) .nil)))))) (.nm 10)) (.cons (.ret (.cst (.bl false))) .nil) .nil) (.cons (.ifs (.bin .ne (.lc [11, 12] (.t [11, 12]) (.zip (.nm 10) (.nm 1)) (.yes (.bin .gt (.nm 11) (.nm 12))) (.cst (.int 1))) (.lst .nil)) (.cons (.ret (.cst (.bl false))) .nil) .nil) .nil)))) (.cons (.ifs (.bin .eq (.nm 7) (.cst (.int 0))) (.cons (.ret (.cst (.bl true))) .nil) .nil) (.cons (.asg 6 (.d (.call 113 (.cons (.nm 0) (.cons (.nm 1) (.cons (.nm 2) (.cons (.nm 3) (.cons (.bin .sub (.nm 7) (.cst (.int 1))) .nil)))))))) (.cons (.ret (.bin .ne (.nm 6) (.call 113 (.cons (.nm 0) (.cons (.nm 1) (.cons (.nm 2) (.cons (.nm 3) (.cons (.bin .add (.bin .sub (.nm 7) (.cst (.int 1))) (.nm 8)) .nil)))))))) .nil))))))
def f_law_round_right : FD := ⟨5, 13, b_law_round_right, none⟩
def b_law_uncapped_right : Ss := (.cons (.par (.cons 2 (.d (.bin .mul (.tup (.cons (.cst (.int 9)) .nil)) (.un .len (.nm 1)))) (.cons 3 (.d (.cst (.int 0))) .nil))) (.cons (.whl (.and (.cons (.bin .lt (.nm 3) (.cst (.int 25))) (.cons (.bin .lt (.un .max (.call 26 (.cons (.nm 0) (.cons (.nm 1) (.cons (.nm 3) .nil))))) (.cst (.int 10))) .nil))) (.cons (.ifs (.bin .ne (.call 113 (.cons (.nm 0) (.cons (.nm 2) (.cons (.tup .nil) (.cons (.nm 1) (.cons (.nm 3) .nil)))))) (.call 26 (.cons (.nm 0) (.cons (.nm 1) (.cons (.nm 3) .nil))))) (.cons (.ret (.cst (.bl false))) .nil) .nil) (.cons (.asg 3 (.d (.bin .add (.nm 3) (.cst (.int 1))))) .nil))) (.cons (.ret (.cst (.bl true))) .nil)))
def f_law_uncapped_right : FD := ⟨2, 4, b_law_uncapped_right, none⟩
def b_law_named : Ss := (.cons (.ret (.bin .add (.cst (.str "q")) (.nm 0))) .nil)
def f_law_named : FD := ⟨1, 1, b_law_named, none⟩
def b_law_renamed_2 : Ss := (.cons (.asg 1 (.d (.lc [2, 3, 4, 5] (.t [2, 3, 4, 5]) (.ex (.bin .idx (.nm 0) (.cst (.int 1)))) .no (.tup (.cons (.call 125 (.cons (.nm 2) .nil)) (.cons (.nm 3) (.cons (.call 125 (.cons (.nm 4) .nil)) (.cons (.nm 5) .nil)))))))) (.cons (.ret (.tup (.cons (.un .tuple (.lc [6] (.n 6) (.ex (.bin .idx (.nm 0) (.cst (.int 0)))) .no (.call 125 (.cons (.nm 6) .nil)))) (.cons (.un .tuple (.nm 1)) .nil)))) .nil))
def f_law_renamed_2 : FD := ⟨1, 7, b_law_renamed_2, none⟩
end Bw

/-! plain, part 0: reading data; the program's counts. -/
namespace Bw
open PySem

theorem atI_nat {α : Type} (xs : List α) (j : Nat) : L2.atI xs (j : Int) = xs[j]? := by
  unfold L2.atI L2.ixN
  rw [if_pos (Int.natCast_nonneg j)]
  by_cases h : (j : Int) < xs.length
  · rw [if_pos h]; rfl
  · rw [if_neg h, List.getElem?_eq_none (by omega)]; rfl
theorem ixN_nat {n j : Nat} (h : j < n) : L2.ixN n (j : Int) = some j := by
  unfold L2.ixN
  rw [if_pos (Int.natCast_nonneg j), if_pos (by omega)]
  rfl
def intsD (L : List Int) : List D := L.map .int
def vec (n : Nat) (f : Nat → Int) : List D := (List.range n).map fun j => .int (f j)
theorem vec_length (n : Nat) (f : Nat → Int) : (vec n f).length = n := by simp [vec]
theorem vec_get {n : Nat} {f : Nat → Int} {j : Nat} (h : j < n) : (vec n f)[j]? = some (.int (f j)) := by simp [vec, h]
theorem vec_set {n : Nat} {f : Nat → Int} {j : Nat} {x : Int} : (vec n f).set j (.int x) = vec n fun k => if k = j then x else f k := by
  refine List.ext_getElem? fun k => ?_
  by_cases hk : k < n
  · rw [vec_get hk]
    by_cases h : j = k
    · subst h
      rw [List.getElem?_set_self (by rw [vec_length]; exact hk), if_pos rfl]
    · rw [List.getElem?_set_ne h, vec_get hk, if_neg (Ne.symm h)]
  · rw [List.getElem?_eq_none (by rw [List.length_set, vec_length]; omega), List.getElem?_eq_none (by rw [vec_length]; omega)]
theorem vec_congr {n : Nat} {f g : Nat → Int} (h : ∀ j, j < n → f j = g j) : vec n f = vec n g := by
  refine List.map_congr_left fun j hj => ?_
  rw [h j (List.mem_range.mp hj)]
theorem vec_rep (n : Nat) : (List.replicate n ([.int 0] : List D)).flatten = vec n fun _ => 0 := by
  refine List.ext_getElem? fun k => ?_
  have e : (List.replicate n ([.int 0] : List D)).flatten = List.replicate n (.int 0) := by
    induction n with
    | zero => rfl
    | succ n ih => rw [List.replicate_succ, List.flatten_cons, ih]; rfl
  rw [e]
  by_cases hk : k < n
  · rw [vec_get hk, List.getElem?_replicate, if_pos hk]
  · rw [List.getElem?_eq_none (by simp; omega), List.getElem?_eq_none (by rw [vec_length]; omega)]

/-! ### shapes -/
mutual
theorem eqv_self : ∀ d : D, d.canLay0 = true → PyData.eqv d d = true
  | .none, _ => rfl
  | .bool b, _ => by cases b <;> rfl
  | .int i, _ => by show (i == i) = true; simp
  | .str x, _ => beq_self_eq_true x
  | .list xs, h => eqvs_self xs h
  | .tuple xs, h => eqvs_self xs h
  | .dict _, h => by simp [PyData.canLay0] at h
theorem eqvs_self : ∀ d : List D, PyData.canLayAll0 d = true → PyData.eqvAll d d = true
  | [], _ => rfl
  | x :: xs, h => by
    simp -implicitDefEqProofs only [PyData.canLayAll0, Bool.and_eq_true] at h
    show (PyData.eqv x x && PyData.eqvAll xs xs) = true
    rw [eqv_self x h.1, eqvs_self xs h.2]
    rfl
end
theorem ne_self {d : D} (h : shp d = true) : binF .ne d d = some (.bool false) := by
  have hc : d.canLay0 = true := (Bool.and_eq_true_iff.mp h).1
  show (if shp d && shp d then _ else none) = _
  rw [h]
  show some (PyData.bool (!PyData.eqv d d)) = _
  rw [eqv_self d hc]
  rfl
def flat : D → Bool | .int _ => true | .bool _ => true | .none => true | .str x => PyData.strOk x | _ => false
theorem flat_lay : ∀ {L : List D}, (L.all flat) = true → PyData.canLayAll0 L = true ∧ PyData.depthAll L = 0
  | [], _ => ⟨rfl, rfl⟩
  | x :: L, h => by
    simp -implicitDefEqProofs only [List.all_cons, Bool.and_eq_true] at h
    obtain ⟨h1, h2⟩ := flat_lay h.2
    simp -implicitDefEqProofs only [PyData.canLayAll0, PyData.depthAll, h1, h2]
    cases x <;> simp_all [flat, PyData.canLay0, PyData.depth]
theorem shp_flat {L : List D} (h : (L.all flat) = true) : shp (.tuple L) = true := by
  obtain ⟨h1, h2⟩ := flat_lay h
  show (PyData.canLay0 (.tuple L) && decide (PyData.depth (.tuple L) ≤ 64)) = true
  simp [PyData.canLay0, PyData.depth, h1, h2]
theorem vec_flat (n : Nat) (f : Nat → Int) : ((vec n f).all flat) = true := by
  simp [vec, flat]
theorem shp_vec (n : Nat) (f : Nat → Int) : shp (.tuple (vec n f)) = true := shp_flat (vec_flat n f)

/-! ### books -/
structure Rl where
  a : Str
  t : Nat
  b : Str
  m : Int
def Rl.d (r : Rl) : D := .tuple [.str r.a, .int r.t, .str r.b, .int r.m]
def ksD (ks : List Str) : D := .tuple (ks.map .str)
def bookD (ks : List Str) (rs : List Rl) : D := .tuple [ksD ks, .tuple (rs.map Rl.d)]
/-- what the walks ask of a book -/
structure BookOk (ks : List Str) (rs : List Rl) : Prop where
  pos : 0 < ks.length
  few : ks.length ≤ 5
  nd : ks.Nodup
  ok : ∀ x ∈ ks, PyData.strOk x = true
  inA : ∀ r ∈ rs, r.a ∈ ks
  inB : ∀ r ∈ rs, r.b ∈ ks
  t1 : ∀ r ∈ rs, 1 ≤ r.t ∧ r.t ≤ 4
  many : rs.length ≤ 1000
  small : ∀ r ∈ rs, r.m.natAbs < 2 ^ 64
theorem ks_flat {ks : List Str} (h : ∀ x ∈ ks, PyData.strOk x = true) : ((ks.map PyData.str).all flat) = true := by
  simp -implicitDefEqProofs only [List.all_map, List.all_eq_true]
  exact h
theorem indexD_ks {x : Str} : ∀ {ks : List Str}, x ∈ ks → indexD (.str x) (ks.map .str) = some (ks.idxOf x)
  | [], h => by cases h
  | y :: ks, h => by
    by_cases e : y = x
    · subst e
      show (if PyData.eqv (.str y) (.str y) then some 0 else _) = _
      rw [show PyData.eqv (.str y) (.str y) = true from beq_self_eq_true y]
      simp
    · have hm : x ∈ ks := (List.mem_cons.mp h).resolve_left fun z => e z.symm
      show (if PyData.eqv (.str y) (.str x) then some 0 else (indexD (.str x) (ks.map .str)).map (· + 1)) = _
      rw [show PyData.eqv (.str y) (.str x) = false from by show (y == x) = false; simp [e], indexD_ks hm]
      have : (y == x) = false := by simp [e]
      simp [List.idxOf_cons, this]
theorem index_ks {ks : List Str} {x : Str} (hk : ∀ x ∈ ks, PyData.strOk x = true) (h : x ∈ ks) : binF .index (ksD ks) (.str x) = some (.int (ks.idxOf x : Nat)) := by
  show (if shp (.str x) && shp (.tuple (ks.map .str)) then _ else none) = _
  have s1 : shp (.str x) = true := by
    show (PyData.canLay0 (.str x) && decide (PyData.depth (.str x) ≤ 64)) = true
    simp [PyData.canLay0, PyData.depth, hk x h]
  rw [s1, shp_flat (ks_flat hk)]
  show (indexD (.str x) (ks.map .str)).map _ = _
  rw [indexD_ks h]
  rfl
theorem idx_lt {ks : List Str} {x : Str} (h : x ∈ ks) : ks.idxOf x < ks.length := List.idxOf_lt_length_of_mem h

/-! ### what is done next -/
/-- the last four beats, the last one first -/
abbrev Rows := Nat → Nat → Int
def rowsD (n : Nat) (w : Rows) : D := .tuple [.tuple (vec n (w 0)), .tuple (vec n (w 1)), .tuple (vec n (w 2)), .tuple (vec n (w 3))]
theorem rowsD_get {n : Nat} {w : Rows} {i : Nat} (h : i < 4) : binF .idx (rowsD n w) (.int (i : Nat)) = some (.tuple (vec n (w i))) := by
  show L2.atI _ _ = _
  rw [atI_nat]
  match i, h with
  | 0, _ => rfl
  | 1, _ => rfl
  | 2, _ => rfl
  | 3, _ => rfl
def term (ks : List Str) (w : Rows) (j : Nat) (r : Rl) : Int := if j = ks.idxOf r.b then w (r.t - 1) (ks.idxOf r.a) * r.m else 0
def nx (ks : List Str) (rs : List Rl) (w : Rows) (j : Nat) : Int := (rs.map (term ks w j)).sum
section
variable {cf : Nat → List D → Option RV} {M : Nat}
/-- the loop of next_counts -/
theorem next_loop {ks : List Str} {w : Rows} (hk : ∀ x ∈ ks, PyData.strOk x = true) (bk rl : Option SV) :
    ∀ (rs : List Rl) (acc : Nat → Int) (x5 x6 x7 x8 : Option SV), (∀ r ∈ rs, r.a ∈ ks ∧ r.b ∈ ks ∧ 1 ≤ r.t ∧ r.t ≤ 4 ∧ r.m.natAbs < 2 ^ 64) →
    ∃ y5 y6 y7 y8, forF (fun d ρ => (bindT (.t [5, 6, 7, 8]) d ρ).bind fun ρ' => evSs cf M (.cons (.augO 2 .add (.bin .index (.nm 3) (.nm 7)) (.bin .mul (.bin .idx (.bin .idx (.nm 1) (.bin .sub (.nm 6) (.cst (.int 1)))) (.bin .index (.nm 3) (.nm 5))) (.nm 8))) .nil) ρ')
      (rs.map Rl.d) [bk, some (.dat (rowsD ks.length w)), some (.own (vec ks.length acc)), some (.dat (ksD ks)), rl, x5, x6, x7, x8] =
      some (.nx [bk, some (.dat (rowsD ks.length w)), some (.own (vec ks.length fun j => acc j + (rs.map (term ks w j)).sum)), some (.dat (ksD ks)), rl, y5, y6, y7, y8])
  | [], acc, x5, x6, x7, x8, _ => ⟨x5, x6, x7, x8, by simp [forF]⟩
  | r :: rs, acc, x5, x6, x7, x8, h => by
    obtain ⟨ha, hb, h1, h4, hm⟩ := h r List.mem_cons_self
    obtain ⟨y5, y6, y7, y8, ih⟩ := next_loop (w := w) hk bk rl rs (fun j => acc j + term ks w j r) (some (.dat (.str r.a))) (some (.dat (.int r.t))) (some (.dat (.str r.b))) (some (.dat (.int r.m))) fun r' hr => h r' (List.mem_cons_of_mem _ hr)
    refine ⟨y5, y6, y7, y8, ?_⟩
    have ea := index_ks hk ha
    have eb := index_ks hk hb
    have et : ((r.t : Int) - 1) = ((r.t - 1 : Nat) : Int) := by omega
    have er := rowsD_get (n := ks.length) (w := w) (i := r.t - 1) (by omega)
    have ei : binF .idx (.tuple (vec ks.length (w (r.t - 1)))) (.int (ks.idxOf r.a : Nat)) = some (.int (w (r.t - 1) (ks.idxOf r.a))) := by
      show L2.atI _ _ = _
      rw [atI_nat, vec_get (idx_lt ha)]
    have em : binF .mul (.int (w (r.t - 1) (ks.idxOf r.a))) (.int r.m) = some (.int (w (r.t - 1) (ks.idxOf r.a) * r.m)) := by
      show (if mulOk _ _ then _ else none) = _
      have : mulOk (w (r.t - 1) (ks.idxOf r.a)) r.m = true := by simp [mulOk, hm]
      rw [this]
      rfl
    rw [List.map_cons]
    unfold forF
    have step : (bindT (.t [5, 6, 7, 8]) r.d [bk, some (.dat (rowsD ks.length w)), some (.own (vec ks.length acc)), some (.dat (ksD ks)), rl, x5, x6, x7, x8]).bind (fun ρ' => evSs cf M (.cons (.augO 2 .add (.bin .index (.nm 3) (.nm 7)) (.bin .mul (.bin .idx (.bin .idx (.nm 1) (.bin .sub (.nm 6) (.cst (.int 1)))) (.bin .index (.nm 3) (.nm 5))) (.nm 8))) .nil) ρ') =
        some (.nx [bk, some (.dat (rowsD ks.length w)), some (.own (vec ks.length fun j => acc j + term ks w j r)), some (.dat (ksD ks)), rl, some (.dat (.str r.a)), some (.dat (.int r.t)), some (.dat (.str r.b)), some (.dat (.int r.m))]) := by
      have eset : (vec ks.length acc).set (ks.idxOf r.b) (.int (acc (ks.idxOf r.b) + w (r.t - 1) (ks.idxOf r.a) * r.m)) = vec ks.length fun j => acc j + term ks w j r := by
        rw [vec_set]
        refine vec_congr fun j _ => ?_
        unfold term
        by_cases e : j = ks.idxOf r.b
        · rw [if_pos e, if_pos e, e]
        · rw [if_neg e, if_neg e, Int.add_zero]
      simp -implicitDefEqProofs only [Rl.d, bindT, setAll, List.set, Option.bind_some, evSs, evS, evE, rdD, rdO, List.getElem?_cons_succ, List.getElem?_cons_zero, Lit.d, eb, ea, vec_length, ixN_nat (idx_lt hb), vec_get (idx_lt hb)]
      have es : binF .sub (.int r.t) (.int 1) = some (.int ((r.t - 1 : Nat) : Int)) := by
        show some (PyData.int _) = _
        rw [et]
      simp -implicitDefEqProofs only [es, er, ei, em, Option.bind_some, augF, Option.map_some, eset]
    rw [step]
    simp -implicitDefEqProofs only [Option.bind_some]
    rw [ih]
    congr 1
    simp -implicitDefEqProofs only [List.map_cons, List.sum_cons, Int.add_assoc]
end
end Bw

/-! plain, part 1: how our words are read, step by step; turns of loops. -/
namespace Bw
open PySem

/-! ### operators, case by case -/
section
variable {xs ys : List D} {i j : Int} {x y : Str} {p q : Bool}
theorem u_neg : unF .neg (.int i) = some (.int (-i)) := rfl
theorem u_not : unF .not (.bool p) = some (.bool (!p)) := rfl
theorem u_lenL : unF .len (.list xs) = some (.int xs.length) := rfl
theorem u_lenT : unF .len (.tuple xs) = some (.int xs.length) := rfl
theorem u_lenD {kv : List (D × D)} : unF .len (.dict kv) = some (.int kv.length) := rfl
theorem u_sumL : unF .sum (.list xs) = (toInts xs).map fun ns => .int ns.sum := rfl
theorem u_sumT : unF .sum (.tuple xs) = (toInts xs).map fun ns => .int ns.sum := rfl
theorem u_all : unF .all (.list xs) = (toBools xs).map fun bs => .bool (bs.all id) := rfl
theorem u_any : unF .any (.list xs) = (toBools xs).map fun bs => .bool (bs.any id) := rfl
theorem u_tupL : unF .tuple (.list xs) = some (.tuple xs) := rfl
theorem u_tupT : unF .tuple (.tuple xs) = some (.tuple xs) := rfl
theorem u_lstL : unF .list (.list xs) = some (.list xs) := rfl
theorem u_lstT : unF .list (.tuple xs) = some (.list xs) := rfl
theorem u_intI : unF .int (.int i) = some (.int i) := rfl
theorem u_intB : unF .int (.bool p) = some (.int (if p then 1 else 0)) := rfl
theorem u_boolI : unF .bool (.int i) = some (.bool (i != 0)) := rfl
theorem u_boolB : unF .bool (.bool p) = some (.bool p) := rfl
theorem b_addI : binF .add (.int i) (.int j) = some (.int (i + j)) := rfl
theorem b_addL : binF .add (.list xs) (.list ys) = if fits (xs ++ ys) then some (.list (xs ++ ys)) else none := rfl
theorem b_addT : binF .add (.tuple xs) (.tuple ys) = if fits (xs ++ ys) then some (.tuple (xs ++ ys)) else none := rfl
theorem b_sub : binF .sub (.int i) (.int j) = some (.int (i - j)) := rfl
theorem b_mulI : binF .mul (.int i) (.int j) = if mulOk i j then some (.int (i * j)) else none := rfl
theorem b_mod : binF .mod (.int i) (.int j) = if 0 < j then some (.int (i % j)) else none := rfl
theorem b_fdiv : binF .fdiv (.int i) (.int j) = if 0 < j ∧ j < 1073741824 then some (.int (i / j)) else none := rfl
theorem b_lt : binF .lt (.int i) (.int j) = some (.bool (decide (i < j))) := rfl
theorem b_le : binF .le (.int i) (.int j) = some (.bool (decide (i ≤ j))) := rfl
theorem b_gt : binF .gt (.int i) (.int j) = some (.bool (decide (j < i))) := rfl
theorem b_ge : binF .ge (.int i) (.int j) = some (.bool (decide (j ≤ i))) := rfl
theorem b_gtS : binF .gt (.str x) (.str y) = some (.bool (decide (y.cps.toList < x.cps.toList))) := rfl
theorem b_max2 : binF .max2 (.int i) (.int j) = some (.int (if j > i then j else i)) := rfl
theorem b_min2 : binF .min2 (.int i) (.int j) = some (.int (if j < i then j else i)) := rfl
theorem b_idxL : binF .idx (.list xs) (.int i) = L2.atI xs i := rfl
theorem b_idxT : binF .idx (.tuple xs) (.int i) = L2.atI xs i := rfl
theorem b_idxD {kv : List (D × D)} : binF .idx (.dict kv) (.int i) = (L2.atI kv i).map (·.1) := rfl
theorem b_eqS (hx : PyData.strOk x = true) (hy : PyData.strOk y = true) : binF .eq (.str x) (.str y) = some (.bool (x == y)) := by
  have sh : ∀ {z : Str}, PyData.strOk z = true → shp (.str z) = true := fun {z} hz => by
    show (PyData.canLay0 (.str z) && decide (PyData.depth (.str z) ≤ 64)) = true
    simp [PyData.canLay0, PyData.depth, hz]
  show (if shp (.str x) && shp (.str y) then _ else none) = _
  rw [sh hx, sh hy]
  rfl
theorem b_eqI : binF .eq (.int i) (.int j) = some (.bool (i == j)) := rfl
theorem b_neI : binF .ne (.int i) (.int j) = some (.bool (!(i == j))) := rfl
theorem a_add : augF .add (.int i) (.int j) = some (.int (i + j)) := rfl
theorem a_sub : augF .sub (.int i) (.int j) = some (.int (i - j)) := rfl
theorem s_L {l h : Option Int} : slcF (.list xs) l h = some (.list (cut xs l h)) := rfl
theorem s_T {l h : Option Int} : slcF (.tuple xs) l h = some (.tuple (cut xs l h)) := rfl
theorem b_mulL : binF .mul (.list xs) (.int j) = if -(2 ^ 63) ≤ j ∧ j < 2 ^ 63 ∧ xs.length * j.toNat ≤ sizeLine then some (.list (List.replicate j.toNat xs).flatten) else none := rfl
theorem b_mulT : binF .mul (.tuple xs) (.int j) = if 1 ≤ j ∧ j ≤ 1000 ∧ 0 < xs.length ∧ xs.length ≤ 1000 then some (.tuple (List.replicate j.toNat xs).flatten) else none := rfl
theorem b_pow : binF .pow (.int i) (.int j) = if 0 ≤ j ∧ j ≤ 1000000 ∧ i.natAbs < 2 ^ 64 then some (.int (i ^ j.toNat)) else none := rfl
theorem t_L : seqOf (.list xs) = some xs := rfl
theorem t_T : seqOf (.tuple xs) = some xs := rfl
end
theorem sl_eq : sizeLine = 16777216 := by decide
theorem fits_of {α : Type} {xs : List α} (h : xs.length ≤ 1000000) : fits xs = true := by
  unfold fits
  rw [sl_eq]
  exact decide_eq_true (by omega)
theorem mulOk_r {i j : Int} (h : j.natAbs < 2 ^ 64) : mulOk i j = true := by
  unfold mulOk
  rw [decide_eq_true h, Bool.or_true]
theorem mulOk_l {i j : Int} (h : i.natAbs < 2 ^ 64) : mulOk i j = true := by
  unfold mulOk
  rw [decide_eq_true h, Bool.true_or]

/-! ### turns -/
theorem lcF_map {f : D → Option (Option D)} {g : D → D} : ∀ {ds : List D}, (∀ d ∈ ds, f d = some (some (g d))) → lcF f ds = some (ds.map g)
  | [], _ => rfl
  | d :: ds, h => by
    unfold lcF
    rw [h d List.mem_cons_self, lcF_map fun x hx => h x (List.mem_cons_of_mem _ hx)]
    rfl
theorem lcF_filter {α : Type} {f : D → Option (Option D)} {p : α → Bool} {q g : α → D} : ∀ {L : List α}, (∀ d ∈ L, f (q d) = some (if p d then some (g d) else none)) → lcF f (L.map q) = some ((L.filter p).map g)
  | [], _ => rfl
  | d :: L, h => by
    rw [List.map_cons]
    unfold lcF
    rw [h d List.mem_cons_self, lcF_filter fun x hx => h x (List.mem_cons_of_mem _ hx)]
    cases e : p d <;> simp [List.filter_cons, e]
theorem lcF_of {α : Type} {f : D → Option (Option D)} {q : α → D} {g : α → D} : ∀ {L : List α}, (∀ a ∈ L, f (q a) = some (some (g a))) → lcF f (L.map q) = some (L.map g)
  | [], _ => rfl
  | a :: L, h => by
    rw [List.map_cons]
    unfold lcF
    rw [h a List.mem_cons_self, lcF_of fun x hx => h x (List.mem_cons_of_mem _ hx)]
    rfl
theorem toInts_map : ∀ L : List Int, toInts (L.map .int) = some L
  | [] => rfl
  | i :: L => by
    rw [List.map_cons]
    unfold toInts
    rw [toInts_map L]
    rfl
theorem rng_nat {n : Nat} (h : n ≤ 1000000) : rngL 0 (n : Int) = some ((List.range n).map fun k => PyData.int ((k : Nat) : Int)) := by
  unfold rngL
  have hs := sl_eq
  rw [if_pos (by omega)]
  simp
/-- a loop whose turns are told -/
theorem for_run {f : D → Env → Option Out} {α : Type} {q : α → D} (I : List α → Env → Prop) : ∀ (L done : List α) (ρ : Env), I done ρ → (∀ done a ρ, (∃ r, done ++ a :: r = done ++ a :: r) → a ∈ L → I done ρ → ∃ ρ', f (q a) ρ = some (.nx ρ') ∧ I (done ++ [a]) ρ') →
    ∃ ρ', forF f (L.map q) ρ = some (.nx ρ') ∧ I (done ++ L) ρ'
  | [], done, ρ, h, _ => ⟨ρ, rfl, by simpa using h⟩
  | a :: L, done, ρ, h, st => by
    obtain ⟨ρ1, e1, h1⟩ := st done a ρ ⟨[], rfl⟩ List.mem_cons_self h
    obtain ⟨ρ2, e2, h2⟩ := for_run I L (done ++ [a]) ρ1 h1 fun d b ρ hr hb => st d b ρ hr (List.mem_cons_of_mem _ hb)
    refine ⟨ρ2, ?_, by simpa using h2⟩
    rw [List.map_cons]
    unfold forF
    rw [e1]
    exact e2
/-- a loop by the turn's number -/
theorem for_num {f : D → Env → Option Out} (q : Nat → D) (I : Nat → Env → Prop) (n : Nat) (st : ∀ i ρ, i < n → I i ρ → ∃ ρ', f (q i) ρ = some (.nx ρ') ∧ I (i + 1) ρ') : ∀ (d i : Nat) (ρ : Env), i + d = n → I i ρ → ∃ ρ', forF f ((List.range' i d).map q) ρ = some (.nx ρ') ∧ I n ρ'
  | 0, i, ρ, h, hi => ⟨ρ, rfl, by have : i = n := by omega
                                  subst this; exact hi⟩
  | d + 1, i, ρ, h, hi => by
    obtain ⟨ρ1, e1, h1⟩ := st i ρ (by omega) hi
    obtain ⟨ρ2, e2, h2⟩ := for_num q I n st d (i + 1) ρ1 (by omega) h1
    refine ⟨ρ2, ?_, h2⟩
    rw [List.range'_succ, List.map_cons]
    unfold forF
    rw [e1]
    exact e2
theorem whl_run {c : Env → Option D} {f : Env → Option Out} (env : Nat → Env) (n : Nat) (h1 : ∀ i, i < n → c (env i) = some (.bool true)) (h2 : ∀ i, i < n → f (env i) = some (.nx (env (i + 1)))) (h3 : c (env n) = some (.bool false)) : ∀ (d i m : Nat), i + d = n → d < m → whlF c f m (env i) = some (.nx (env n))
  | d, i, 0, _, hm => by omega
  | 0, i, m + 1, he, _ => by
    have e : i = n := by omega
    subst e
    unfold whlF
    rw [h3]
    rfl
  | d + 1, i, m + 1, he, hm => by
    unfold whlF
    rw [h1 i (by omega)]
    show (f (env i)).bind _ = _
    rw [h2 i (by omega)]
    exact whl_run env n h1 h2 h3 d (i + 1) m (by omega) (by omega)

/-! ### statements, one by one -/
section
variable {cf : Nat → List D → Option RV} {M : Nat} {ρ ρ' : Env} {o : Out}
theorem ss_nil : evSs cf M .nil ρ = some (.nx ρ) := by unfold evSs; rfl
theorem ss_nx {s : S} {ss : Ss} (h1 : evS cf M s ρ = some (.nx ρ')) (h2 : evSs cf M ss ρ' = some o) : evSs cf M (.cons s ss) ρ = some o := by
  unfold evSs
  rw [h1]
  exact h2
theorem ss_rt {s : S} {ss : Ss} {r : RV} (h1 : evS cf M s ρ = some (.rt r ρ')) : evSs cf M (.cons s ss) ρ = some (.rt r ρ') := by
  unfold evSs
  rw [h1]
  rfl
theorem call_run {T : Nat → Option FD} {k f : Nat} {fd : FD} {ds : List D} {r : RV} (hT : T f = some fd) (hn : ds.length = fd.np) (h : evSs (callF T M k) M fd.body (startE fd ds) = some (.rt r ρ')) (hnat : fd.nat = none := by rfl) : callF T M (k + 1) f ds = some r := by
  unfold callF
  rw [hT, Option.bind_some, if_pos hn, hnat]
  show (evSs (callF T M k) M fd.body (startE fd ds)).map _ = _
  rw [h]
  rfl
theorem fr_run {tg : Tg} {it : I} {b : Ss} {ds : List D} (h1 : evI cf it false ρ = some ds) (h2 : forF (fun d ρ => (bindT tg d ρ).bind fun ρ' => evSs cf M b ρ') ds ρ = some o) : evS cf M (.fr tg it b) ρ = some o := by
  unfold evS
  rw [h1]
  exact h2
theorem whl_run' {c : E} {b : Ss} (h : whlF (fun ρ => evE cf c false ρ) (fun ρ => evSs cf M b ρ) M ρ = some o) : evS cf M (.whl c b) ρ = some o := by
  unfold evS
  exact h
theorem ifs_t {c : E} {a b : Ss} (h1 : evE cf c false ρ = some (.bool true)) (h2 : evSs cf M a ρ = some o) : evS cf M (.ifs c a b) ρ = some o := by
  unfold evS
  rw [h1]
  exact h2
theorem ifs_f {c : E} {a b : Ss} (h1 : evE cf c false ρ = some (.bool false)) (h2 : evSs cf M b ρ = some o) : evS cf M (.ifs c a b) ρ = some o := by
  unfold evS
  rw [h1]
  exact h2
theorem ret_run {e : E} {d : D} (h : evE cf e false ρ = some d) : evS cf M (.ret e) ρ = some (.rt (.dat d) ρ) := by
  unfold evS
  rw [h]
  rfl
theorem asg_run {i : Nat} {e : E} {d : D} (h : evE cf e false ρ = some d) : evS cf M (.asg i (.d e)) ρ = some (.nx (ρ.set i (some (.dat d)))) := by
  unfold evS
  show ((evE cf e false ρ).map SV.dat).map _ = _
  rw [h]
  rfl
theorem un_run {f : Un} {e : E} {b : Bool} {x d : D} (h : evE cf e true ρ = some x) (h2 : unF f x = some d) : evE cf (.un f e) b ρ = some d := by
  unfold evE
  rw [h]
  exact h2
theorem bin_run {f : Bin} {e e2 : E} {b : Bool} {x y d : D} (h : evE cf e true ρ = some x) (h1 : evE cf e2 true ρ = some y) (h2 : binF f x y = some d) : evE cf (.bin f e e2) b ρ = some d := by
  unfold evE
  rw [h, Option.bind_some, h1]
  exact h2
theorem nm_run {i : Nat} {b : Bool} {d : D} (h : ρ[i]? = some (some (.dat d))) : evE cf (.nm i) b ρ = some d := by
  unfold evE rdD
  rw [h]
theorem pk_run {i : Nat} {ds : List D} (h : ρ[i]? = some (some (.own ds))) : evE cf (.pk i) true ρ = some (.list ds) := by
  unfold evE rdO
  rw [if_pos rfl, h]
  rfl
theorem cst_run {l : Lit} {b : Bool} : evE cf (.cst l) b ρ = some l.d := by unfold evE; rfl
theorem mod_run {i j : Int} (h : 0 < j) : binF .mod (.int i) (.int j) = some (.int (i % j)) := by rw [b_mod, if_pos h]
theorem fdiv_run {i j : Int} (h : 0 < j) (h2 : j < 1073741824) : binF .fdiv (.int i) (.int j) = some (.int (i / j)) := by rw [b_fdiv, if_pos ⟨h, h2⟩]
theorem mul_run {i j : Int} (h : i.natAbs < 2 ^ 64 ∨ j.natAbs < 2 ^ 64) : binF .mul (.int i) (.int j) = some (.int (i * j)) := by
  rw [b_mulI, h.elim (fun z => mulOk_l z) fun z => mulOk_r z]
  rfl
theorem idx_run {i : Nat} {xs : List D} {d : D} (h : xs[i]? = some d) : binF .idx (.tuple xs) (.int (i : Nat)) = some d := by rw [b_idxT, atI_nat, h]
theorem idxL_run {i : Nat} {xs : List D} {d : D} (h : xs[i]? = some d) : binF .idx (.list xs) (.int (i : Nat)) = some d := by rw [b_idxL, atI_nat, h]
theorem app_run {i : Nat} {e : E} {d : D} {ds : List D} (h : evE cf e false ρ = some d) (h1 : ρ[i]? = some (some (.own ds))) (h2 : ds.length ≤ 1000000) : evS cf M (.app i e) ρ = some (.nx (ρ.set i (some (.own (ds ++ [d]))))) := by
  have hs := sl_eq
  unfold evS rdO
  rw [h, Option.bind_some, h1]
  show (if ds.length < sizeLine then _ else _) = _
  rw [if_pos (by omega)]
theorem asgO_run {i : Nat} {e : E} {ds : List D} (h : evE cf e false ρ = some (.list ds)) : evS cf M (.asg i (.o e)) ρ = some (.nx (ρ.set i (some (.own ds)))) := by
  unfold evS
  show ((evE cf e false ρ).bind _).map _ = _
  rw [h]
  rfl
theorem es_nil : evEs cf .nil ρ = some [] := by unfold evEs; rfl
theorem es_cons {e : E} {es : Es} {d : D} {ds : List D} (h : evE cf e false ρ = some d) (h2 : evEs cf es ρ = some ds) : evEs cf (.cons e es) ρ = some (d :: ds) := by
  unfold evEs
  rw [h, Option.bind_some, h2]
  rfl
theorem call_e {f : Nat} {es : Es} {b : Bool} {ds : List D} {r : RV} {d : D} (h : evEs cf es ρ = some ds) (h2 : cf f ds = some r) (h3 : r.toD = some d) : evE cf (.call f es) b ρ = some d := by
  unfold evE
  rw [h, Option.bind_some, h2]
  exact h3
theorem tup_run {es : Es} {b : Bool} {ds : List D} (h : evEs cf es ρ = some ds) (h2 : ds.length ≤ 1000000) : evE cf (.tup es) b ρ = some (.tuple ds) := by
  unfold evE
  rw [h, Option.bind_some, if_pos (fits_of h2)]
theorem lst_run {es : Es} {b : Bool} {ds : List D} (h : evEs cf es ρ = some ds) (h2 : ds.length ≤ 1000000) : evE cf (.lst es) b ρ = some (.list ds) := by
  unfold evE
  rw [h, Option.bind_some, if_pos (fits_of h2)]
theorem slc_run {a : E} {lo hi : Oe} {b : Bool} {x d : D} {l h : Option Int} (ha : evE cf a true ρ = some x) (hl : evPart cf lo ρ = some l) (hh : evPart cf hi ρ = some h) (hd : slcF x l h = some d) : evE cf (.slc a lo hi) b ρ = some d := by
  unfold evE
  rw [ha, Option.bind_some, hl, Option.bind_some, hh]
  exact hd
theorem part_no : evPart cf .no ρ = some none := by unfold evPart; rfl
theorem part_yes {e : E} {i : Int} (h : evE cf e false ρ = some (.int i)) : evPart cf (.yes e) ρ = some (some i) := by
  unfold evPart
  rw [h]
  rfl
theorem cond_no : evCond cf .no ρ = some true := by unfold evCond; rfl
theorem cond_yes {e : E} {p : Bool} (h : evE cf e false ρ = some (.bool p)) : evCond cf (.yes e) ρ = some p := by
  unfold evCond
  rw [h]
  rfl
theorem it_ex {e : E} {b : Bool} {x : D} {ds : List D} (h : evE cf e b ρ = some x) (h2 : seqOf x = some ds) : evI cf (.ex e) b ρ = some ds := by
  unfold evI
  rw [h]
  exact h2
theorem it_rng {e : E} {b : Bool} {n : Nat} (h : evE cf e false ρ = some (.int (n : Nat))) (h2 : n ≤ 1000000) : evI cf (.rng e) b ρ = some ((List.range n).map fun k => PyData.int ((k : Nat) : Int)) := by
  unfold evI
  rw [h, Option.bind_some]
  exact rng_nat h2
theorem and_f {e : E} {es : Es} (h : evE cf e false ρ = some (.bool false)) : evAnd cf (.cons e es) ρ = some (.bool false) := by
  cases es <;> (unfold evAnd; rw [h]; rfl)
theorem and_t {e e2 : E} {es : Es} {d : D} (h : evE cf e false ρ = some (.bool true)) (h2 : evAnd cf (.cons e2 es) ρ = some d) : evAnd cf (.cons e (.cons e2 es)) ρ = some d := by
  unfold evAnd
  rw [h]
  exact h2
theorem and_1 {e : E} {p : Bool} (h : evE cf e false ρ = some (.bool p)) : evAnd cf (.cons e .nil) ρ = some (.bool p) := by
  unfold evAnd
  rw [h]
  rfl
theorem or_t {e : E} {es : Es} (h : evE cf e false ρ = some (.bool true)) : evOr cf (.cons e es) ρ = some (.bool true) := by
  cases es <;> (unfold evOr; rw [h]; rfl)
theorem or_f {e e2 : E} {es : Es} {d : D} (h : evE cf e false ρ = some (.bool false)) (h2 : evOr cf (.cons e2 es) ρ = some d) : evOr cf (.cons e (.cons e2 es)) ρ = some d := by
  unfold evOr
  rw [h]
  exact h2
theorem or_1 {e : E} {p : Bool} (h : evE cf e false ρ = some (.bool p)) : evOr cf (.cons e .nil) ρ = some (.bool p) := by
  unfold evOr
  rw [h]
  rfl
theorem and_b {e e2 : E} {es : Es} {p q : Bool} (h : evE cf e false ρ = some (.bool p)) (h2 : evAnd cf (.cons e2 es) ρ = some (.bool q)) : evAnd cf (.cons e (.cons e2 es)) ρ = some (.bool (p && q)) := by
  cases p
  · exact and_f h
  · exact and_t h h2
theorem or_b {e e2 : E} {es : Es} {p q : Bool} (h : evE cf e false ρ = some (.bool p)) (h2 : evOr cf (.cons e2 es) ρ = some (.bool q)) : evOr cf (.cons e (.cons e2 es)) ρ = some (.bool (p || q)) := by
  cases p
  · exact or_f h h2
  · exact or_t h
theorem rs_nil : evRs cf .nil ρ = some [] := by unfold evRs; rfl
theorem rs_d {i : Nat} {e : E} {rs : Rhs} {d : D} {xs : List (Nat × SV)} (h : evE cf e false ρ = some d) (h2 : evRs cf rs ρ = some xs) : evRs cf (.cons i (.d e) rs) ρ = some ((i, .dat d) :: xs) := by
  unfold evRs
  show (((evE cf e false ρ).map SV.dat).bind _) = _
  rw [h]
  show ((evRs cf rs ρ).map _) = _
  rw [h2]
  rfl
theorem rs_o {i : Nat} {e : E} {rs : Rhs} {ds : List D} {xs : List (Nat × SV)} (h : evE cf e false ρ = some (.list ds)) (h2 : evRs cf rs ρ = some xs) : evRs cf (.cons i (.o e) rs) ρ = some ((i, .own ds) :: xs) := by
  unfold evRs
  show (((evE cf e false ρ).bind _).bind _) = _
  rw [h]
  show ((evRs cf rs ρ).map _) = _
  rw [h2]
  rfl
theorem par_run {rs : Rhs} {xs : List (Nat × SV)} (h : evRs cf rs ρ = some xs) : evS cf M (.par rs) ρ = some (.nx (putAll xs ρ)) := by
  unfold evS
  rw [h]
  rfl
theorem dnew_run {i : Nat} {n : Bool} : evS cf M (.asg i (.dnew n)) ρ = some (.nx (ρ.set i (some (.dct n [])))) := by
  unfold evS
  rfl
theorem setD_run {i : Nat} {k v : E} {x y : D} {n : Bool} {kvs : List (D × D)} (hv : evE cf v false ρ = some y) (hk : evE cf k false ρ = some x) (h : ρ[i]? = some (some (.dct n kvs))) (hf : keyFit n x = true) (hl : kvs.length ≤ 1000000) :
    evS cf M (.setD i k v) ρ = some (.nx (ρ.set i (some (.dct n (dPut kvs x y))))) := by
  have hs := sl_eq
  unfold evS rdK
  rw [hv, Option.bind_some, hk, Option.bind_some, h]
  show (if keyFit n x && decide (kvs.length < sizeLine) then _ else _) = _
  rw [hf, decide_eq_true (by omega)]
  rfl
theorem popD_run {i : Nat} {k : E} {x z : D} {n : Bool} {kvs : List (D × D)} (hk : evE cf k false ρ = some x) (h : ρ[i]? = some (some (.dct n kvs))) (hf : keyFit n x = true) (hl : kvs.length ≤ 1000000) (hz : dLook kvs x = some z) :
    evS cf M (.popD i k) ρ = some (.nx (ρ.set i (some (.dct n (dDrop kvs x))))) := by
  have hs := sl_eq
  unfold evS rdK
  rw [hk, Option.bind_some, h]
  show (if keyFit n x && decide (kvs.length < sizeLine) then dLook kvs x else none).map _ = _
  rw [hf, decide_eq_true (by omega), Bool.true_and, if_pos rfl, hz]
  rfl
theorem dget_run {i : Nat} {k : E} {b : Bool} {x z : D} {n : Bool} {kvs : List (D × D)} (hk : evE cf k false ρ = some x) (h : ρ[i]? = some (some (.dct n kvs))) (hf : keyFit n x = true) (hz : dLook kvs x = some z) : evE cf (.dget i k) b ρ = some z := by
  unfold evE rdK
  rw [hk, Option.bind_some, h]
  show (if keyFit n x then dLook kvs x else none) = _
  rw [hf, if_pos rfl, hz]
theorem dsorted_run {i : Nat} {b : Bool} {d : D} {n : Bool} {kvs : List (D × D)} (h : ρ[i]? = some (some (.dct n kvs))) (hd : unF .sorted (.list (kvs.map (·.1))) = some d) : evE cf (.dsorted i) b ρ = some d := by
  unfold evE rdK
  rw [h]
  exact hd
theorem it_keys {i : Nat} {kvs : List (D × D)} (h : ρ[i]? = some (some (.dct true kvs))) : evI cf (.keys i) true ρ = some (kvs.map (·.1)) := by
  unfold evI rdK
  rw [if_pos rfl, h]
  rfl
theorem chain_b {f g : Bin} {a c e : E} {p : Bool} {x y z : D} {u v : Bool} (ha : evE cf a true ρ = some x) (hc : evE cf c true ρ = some y) (he : evE cf e true ρ = some z) (h1 : binF f x y = some (.bool u)) (h2 : binF g y z = some (.bool v)) : evE cf (.chain f g a c e) p ρ = some (.bool (u && v)) := by
  unfold evE
  rw [ha, Option.bind_some, hc, Option.bind_some, h1, Option.bind_some]
  cases u
  · rfl
  · show (evE cf e true ρ).bind _ = _
    rw [he]
    exact h2
theorem and_run {es : Es} {b : Bool} {d : D} (h : evAnd cf es ρ = some d) : evE cf (.and es) b ρ = some d := by unfold evE; exact h
theorem or_run {es : Es} {b : Bool} {d : D} (h : evOr cf es ρ = some d) : evE cf (.or es) b ρ = some d := by unfold evE; exact h
theorem ife_t {c a b : E} {p : Bool} {d : D} (h : evE cf c false ρ = some (.bool true)) (h2 : evE cf a false ρ = some d) : evE cf (.ife c a b) p ρ = some d := by
  unfold evE
  rw [h]
  exact h2
theorem ife_f {c a b : E} {p : Bool} {d : D} (h : evE cf c false ρ = some (.bool false)) (h2 : evE cf b false ρ = some d) : evE cf (.ife c a b) p ρ = some d := by
  unfold evE
  rw [h]
  exact h2
theorem ifs_b {c : E} {a b : Ss} {p : Bool} (h1 : evE cf c false ρ = some (.bool p)) (h2 : evSs cf M (if p then a else b) ρ = some o) : evS cf M (.ifs c a b) ρ = some o := by
  cases p
  · exact ifs_f h1 h2
  · exact ifs_t h1 h2
theorem lc_run {own : List Nat} {tg : Tg} {it : I} {cond : Oe} {elt : E} {b : Bool} {ds rs : List D} (h1 : evI cf it true ρ = some ds)
    (h2 : lcF (fun d => (bindT tg d (wipeE ρ own)).bind fun ρ' => (evCond cf cond ρ').bind fun c => if c then (evE cf elt false ρ').map some else some none) ds = some rs) : evE cf (.lc own tg it cond elt) b ρ = some (.list rs) := by
  unfold evE
  rw [h1]
  show (lcF _ ds).map PyData.list = _
  rw [h2]
  rfl
theorem lc_n {α : Type} {own : List Nat} {i : Nat} {it : I} {cond : Oe} {elt : E} {b : Bool} {L : List α} {q g : α → D} (h1 : evI cf it true ρ = some (L.map q)) (h2 : ∀ a ∈ L, evCond cf cond ((wipeE ρ own).set i (some (.dat (q a)))) = some true)
    (h3 : ∀ a ∈ L, evE cf elt false ((wipeE ρ own).set i (some (.dat (q a)))) = some (g a)) : evE cf (.lc own (.n i) it cond elt) b ρ = some (.list (L.map g)) := by
  refine lc_run h1 (lcF_of fun a ha => ?_)
  show (evCond cf cond ((wipeE ρ own).set i (some (.dat (q a))))).bind (fun c => if c then (evE cf elt false ((wipeE ρ own).set i (some (.dat (q a))))).map some else some none) = _
  rw [h2 a ha, Option.bind_some, if_pos rfl, h3 a ha]
  rfl
theorem lc_nf {α : Type} {own : List Nat} {i : Nat} {it : I} {cond : Oe} {elt : E} {b : Bool} {L : List α} {q g : α → D} {p : α → Bool} (h1 : evI cf it true ρ = some (L.map q)) (h2 : ∀ a ∈ L, evCond cf cond ((wipeE ρ own).set i (some (.dat (q a)))) = some (p a))
    (h3 : ∀ a ∈ L, p a = true → evE cf elt false ((wipeE ρ own).set i (some (.dat (q a)))) = some (g a)) : evE cf (.lc own (.n i) it cond elt) b ρ = some (.list ((L.filter p).map g)) := by
  refine lc_run h1 (lcF_filter fun a ha => ?_)
  show (evCond cf cond ((wipeE ρ own).set i (some (.dat (q a))))).bind (fun c => if c then (evE cf elt false ((wipeE ρ own).set i (some (.dat (q a))))).map some else some none) = _
  rw [h2 a ha, Option.bind_some]
  cases hp : p a
  · rfl
  · rw [if_pos rfl, h3 a ha hp]
    rfl
theorem lc_t {α : Type} {own is : List Nat} {it : I} {cond : Oe} {elt : E} {b : Bool} {L : List α} {q g : α → D} {r : α → Env} (h1 : evI cf it true ρ = some (L.map q)) (h0 : ∀ a ∈ L, bindT (.t is) (q a) (wipeE ρ own) = some (r a)) (h2 : ∀ a ∈ L, evCond cf cond (r a) = some true)
    (h3 : ∀ a ∈ L, evE cf elt false (r a) = some (g a)) : evE cf (.lc own (.t is) it cond elt) b ρ = some (.list (L.map g)) := by
  refine lc_run h1 (lcF_of fun a ha => ?_)
  rw [h0 a ha, Option.bind_some, h2 a ha, Option.bind_some, if_pos rfl, h3 a ha]
  rfl
end
end Bw

/-! plain, part 2: counts, sums. -/
namespace Bw
open PySem

theorem toD_dat {d : D} : RV.toD (.dat d) = some d := rfl
theorem toD_own {ds : List D} : RV.toD (.own ds) = some (.list ds) := rfl
/-! ### beat by beat -/
def rows0 (s : Nat → Int) : Rows := fun i j => if i = 0 then s j else 0
def rows1 (ks : List Str) (rs : List Rl) (w : Rows) : Rows := fun i j => if i = 0 then nx ks rs w j else w (i - 1) j
def St (ks : List Str) (rs : List Rl) (s : Nat → Int) : Nat → Rows
  | 0 => rows0 s
  | b + 1 => rows1 ks rs (St ks rs s b)
/-- what is done at a beat -/
def C (ks : List Str) (rs : List Rl) (s : Nat → Int) (b j : Nat) : Int := St ks rs s b 0 j
def cntD (ks : List Str) (rs : List Rl) (s : Nat → Int) (b : Nat) : D := .tuple (vec ks.length (C ks rs s b))
section
variable {T : Nat → Option FD} {M k : Nat} {ks : List Str} {rs : List Rl}
theorem mul_rep {n : Nat} (h : n ≤ 1000) : binF .mul (.list [.int 0]) (.int (n : Nat)) = some (.list (vec n fun _ => 0)) := by
  have hs := sl_eq
  rw [b_mulL, if_pos (by simp -implicitDefEqProofs only [List.length_singleton, Int.toNat_natCast]; omega), Int.toNat_natCast, vec_rep]
theorem mul_repT {n : Nat} (h1 : 1 ≤ n) (h : n ≤ 1000) : binF .mul (.tuple [.int 0]) (.int (n : Nat)) = some (.tuple (vec n fun _ => 0)) := by
  rw [b_mulT, if_pos (by simp -implicitDefEqProofs only [List.length_singleton]; omega), Int.toNat_natCast, vec_rep]
theorem call_next (hT : T 23 = some f_next_counts) (B : BookOk ks rs) (w : Rows) : callF T M (k + 1) 23 [bookD ks rs, rowsD ks.length w] = some (.dat (.tuple (vec ks.length (nx ks rs w)))) := by
  have few := B.few
  obtain ⟨y5, y6, y7, y8, hl⟩ := next_loop (cf := callF T M k) (M := M) (w := w) B.ok (some (.dat (bookD ks rs))) (some (.dat (.tuple (rs.map Rl.d)))) rs (fun _ => 0) none none none none
    fun r hr => ⟨B.inA r hr, B.inB r hr, (B.t1 r hr).1, (B.t1 r hr).2, B.small r hr⟩
  have e1 : binF .mul (.list [.int 0]) (.int ((ks.map PyData.str).length : Nat)) = some (.list (vec ks.length fun _ => 0)) := by
    rw [List.length_map]; exact mul_rep (by omega)
  have hf : fits ([.int 0] : List D) = true := fits_of (by simp)
  refine call_run hT rfl (ρ' := [some (.dat (bookD ks rs)), some (.dat (rowsD ks.length w)), some (.own (vec ks.length fun j => 0 + (rs.map (term ks w j)).sum)), some (.dat (ksD ks)), some (.dat (.tuple (rs.map Rl.d))), y5, y6, y7, y8]) ?_
  refine ss_nx (ρ' := [some (.dat (bookD ks rs)), some (.dat (rowsD ks.length w)), none, some (.dat (ksD ks)), some (.dat (.tuple (rs.map Rl.d))), none, none, none, none]) rfl ?_
  refine ss_nx (ρ' := [some (.dat (bookD ks rs)), some (.dat (rowsD ks.length w)), some (.own (vec ks.length fun _ => 0)), some (.dat (ksD ks)), some (.dat (.tuple (rs.map Rl.d))), none, none, none, none]) ?_ ?_
  · simp -implicitDefEqProofs only [evS, evR, evE, evEs, rdD, List.getElem?_cons_succ, List.getElem?_cons_zero, Option.bind_some, Option.map_some, Lit.d, hf, if_true, ksD, u_lenT, e1, List.set]
  refine ss_nx (fr_run (ds := rs.map Rl.d) rfl hl) ?_
  refine ss_rt ?_
  simp -implicitDefEqProofs only [evS, evE, rdO, if_true, List.getElem?_cons_succ, List.getElem?_cons_zero, Option.bind_some, Option.map_some, u_tupL]
  rw [show (vec ks.length fun j => 0 + (rs.map (term ks w j)).sum) = vec ks.length (nx ks rs w) from vec_congr fun j _ => Int.zero_add _]
theorem call_first (hT : T 24 = some f_first_rows) (B : BookOk ks rs) (s : Nat → Int) : callF T M (k + 1) 24 [bookD ks rs, .tuple (vec ks.length s)] = some (.dat (rowsD ks.length (rows0 s))) := by
  have few := B.few
  have pos := B.pos
  have e1 : binF .mul (.tuple [.int 0]) (.int ((ks.map PyData.str).length : Nat)) = some (.tuple (vec ks.length fun _ => 0)) := by
    rw [List.length_map]; exact mul_repT (by omega) (by omega)
  have hf : fits ([.int 0] : List D) = true := fits_of (by simp)
  have e0 : binF .idx (bookD ks rs) (.int 0) = some (ksD ks) := rfl
  have hf4 : fits ([.tuple (vec ks.length s), .tuple (vec ks.length fun _ => 0), .tuple (vec ks.length fun _ => 0), .tuple (vec ks.length fun _ => 0)] : List D) = true := fits_of (by simp)
  refine call_run hT rfl (ρ' := [some (.dat (bookD ks rs)), some (.dat (.tuple (vec ks.length s))), some (.dat (.tuple (vec ks.length fun _ => 0)))]) ?_
  refine ss_nx (ρ' := [some (.dat (bookD ks rs)), some (.dat (.tuple (vec ks.length s))), some (.dat (.tuple (vec ks.length fun _ => 0)))]) ?_ ?_
  · simp -implicitDefEqProofs only [f_first_rows, startE, evS, evR, evE, evEs, rdD, List.map_cons, List.map_nil, List.length_cons, List.length_nil, List.replicate, List.cons_append, List.nil_append, List.getElem?_cons_succ, List.getElem?_cons_zero, Option.bind_some, Option.map_some, Lit.d, hf, if_true, e0, ksD, u_lenT, e1, List.set]
  refine ss_rt ?_
  simp -implicitDefEqProofs only [evS, evE, evEs, rdD, List.getElem?_cons_succ, List.getElem?_cons_zero, Option.bind_some, Option.map_some, hf4, if_true]
  rfl
theorem call_all (h23 : T 23 = some f_next_counts) (h24 : T 24 = some f_first_rows) (h25 : T 25 = some f_all_counts) (B : BookOk ks rs) (s : Nat → Int) {beat : Nat} (hb : beat < M) (hb2 : beat ≤ 10000) :
    callF T M (k + 2) 25 [bookD ks rs, .tuple (vec ks.length s), .int (beat : Nat)] = some (.own ((List.range (beat + 1)).map (cntD ks rs s))) := by
  have hs := sl_eq
  let env : Nat → Env := fun i => [some (.dat (bookD ks rs)), some (.dat (.tuple (vec ks.length s))), some (.dat (.int (beat : Nat))), some (.dat (rowsD ks.length (St ks rs s i))), some (.own ((List.range (i + 1)).map (cntD ks rs s)))]
  refine call_run h25 rfl (ρ' := env beat) ?_
  have hf1 : fits ([.tuple (vec ks.length s)] : List D) = true := fits_of (by simp)
  refine ss_nx (ρ' := env 0) ?_ ?_
  · simp -implicitDefEqProofs only [f_all_counts, startE, List.map_cons, List.map_nil, List.length_cons, List.length_nil, List.replicate, List.cons_append, List.nil_append, evS, evRs, evR, evE, evEs, rdD, List.getElem?_cons_succ, List.getElem?_cons_zero, Option.bind_some, Option.map_some, call_first h24 B s, toD_dat, hf1, if_true, putAll, List.set]
    rfl
  refine ss_nx (ρ' := env beat) (whl_run' (whl_run env beat (fun i hi => ?_) (fun i hi => ?_) ?_ beat 0 M (by omega) hb)) ?_
  · have ec : decide ((((List.range (i + 1)).map (cntD ks rs s)).length : Int) ≤ (beat : Nat)) = true := decide_eq_true (by rw [List.length_map, List.length_range]; omega)
    simp -implicitDefEqProofs only [env, evE, rdO, rdD, List.getElem?_cons_zero, List.getElem?_cons_succ, if_true, Option.map_some, Option.bind_some, u_lenL, b_le, ec]
  · have ef : fits ([.tuple (vec ks.length (nx ks rs (St ks rs s i)))] : List D) = true := fits_of (by simp)
    have es : slcF (rowsD ks.length (St ks rs s i)) none (some 3) = some (.tuple [.tuple (vec ks.length (St ks rs s i 0)), .tuple (vec ks.length (St ks rs s i 1)), .tuple (vec ks.length (St ks rs s i 2))]) := rfl
    have ef2 : fits ([.tuple (vec ks.length (nx ks rs (St ks rs s i)))] ++ [.tuple (vec ks.length (St ks rs s i 0)), .tuple (vec ks.length (St ks rs s i 1)), .tuple (vec ks.length (St ks rs s i 2))] : List D) = true := fits_of (by simp)
    have el : ((List.range (i + 1)).map (cntD ks rs s)).length < sizeLine := by rw [List.length_map, List.length_range]; omega
    have e0 : ∀ l : List D, L2.atI (PyData.tuple (vec ks.length (nx ks rs (St ks rs s i))) :: l) 0 = some (cntD ks rs s (i + 1)) := fun l => by
      rw [show (0 : Int) = ((0 : Nat) : Int) from rfl, atI_nat]
      rfl
    refine ss_nx (ρ' := [some (.dat (bookD ks rs)), some (.dat (.tuple (vec ks.length s))), some (.dat (.int (beat : Nat))), some (.dat (rowsD ks.length (St ks rs s (i + 1)))), some (.own ((List.range (i + 1)).map (cntD ks rs s)))]) ?_ ?_
    · simp -implicitDefEqProofs only [env, evS, evR, evE, evEs, evPart, rdD, List.getElem?_cons_zero, List.getElem?_cons_succ, Option.bind_some, Option.map_some, Lit.d, call_next h23 B (St ks rs s i), toD_dat, ef, if_true, es, b_addT, ef2, List.set]
      rfl
    refine ss_nx (ρ' := env (i + 1)) ?_ ss_nil
    simp -implicitDefEqProofs only [evS, evE, rdD, rdO, List.getElem?_cons_zero, List.getElem?_cons_succ, Option.bind_some, Lit.d]
    have e0' : binF .idx (rowsD ks.length (St ks rs s (i + 1))) (.int 0) = some (cntD ks rs s (i + 1)) := rfl
    rw [e0']
    simp -implicitDefEqProofs only [Option.bind_some, if_pos el, List.set, env]
    rw [List.range_succ (n := i + 1), List.map_append]
    rfl
  · have ec : decide ((((List.range (beat + 1)).map (cntD ks rs s)).length : Int) ≤ (beat : Nat)) = false := decide_eq_false (by rw [List.length_map, List.length_range]; omega)
    simp -implicitDefEqProofs only [env, evE, rdO, rdD, List.getElem?_cons_zero, List.getElem?_cons_succ, if_true, Option.map_some, Option.bind_some, u_lenL, b_le, ec]
  · refine ss_rt ?_
    simp -implicitDefEqProofs only [evS, env, List.getElem?_cons_zero, List.getElem?_cons_succ]
theorem call_counts (h23 : T 23 = some f_next_counts) (h24 : T 24 = some f_first_rows) (h25 : T 25 = some f_all_counts) (h26 : T 26 = some f_counts) (B : BookOk ks rs) (s : Nat → Int) {beat : Nat} (hb : beat < M) (hb2 : beat ≤ 10000) :
    callF T M (k + 3) 26 [bookD ks rs, .tuple (vec ks.length s), .int (beat : Nat)] = some (.dat (cntD ks rs s beat)) := by
  refine call_run h26 rfl (ρ' := [some (.dat (bookD ks rs)), some (.dat (.tuple (vec ks.length s))), some (.dat (.int (beat : Nat)))]) (ss_rt ?_)
  have e : L2.atI ((List.range (beat + 1)).map (cntD ks rs s)) (beat : Nat) = some (cntD ks rs s beat) := by
    rw [atI_nat, List.getElem?_map, List.getElem?_range (by omega)]
    rfl
  simp -implicitDefEqProofs only [f_counts, startE, List.map_cons, List.map_nil, List.length_cons, List.length_nil, List.replicate, List.cons_append, List.nil_append, evS, evE, evEs, rdD, List.getElem?_cons_zero, List.getElem?_cons_succ, Option.bind_some, Option.map_some, call_all h23 h24 h25 B s hb hb2, toD_own, b_idxL, e]
  rfl
/-- what is done up to a beat -/
def Sm (ks : List Str) (rs : List Rl) (s : Nat → Int) (b j : Nat) : Int := ((List.range (b + 1)).map fun i => C ks rs s i j).sum
def sumD (ks : List Str) (rs : List Rl) (s : Nat → Int) (b : Nat) : D := .tuple (vec ks.length (Sm ks rs s b))
theorem call_sums (h23 : T 23 = some f_next_counts) (h24 : T 24 = some f_first_rows) (h25 : T 25 = some f_all_counts) (h27 : T 27 = some f_sums) (B : BookOk ks rs) (s : Nat → Int) {beat : Nat} (hb : beat < M) (hb2 : beat ≤ 10000) :
    callF T M (k + 3) 27 [bookD ks rs, .tuple (vec ks.length s), .int (beat : Nat)] = some (.dat (sumD ks rs s beat)) := by
  have few := B.few
  refine call_run h27 rfl (ρ' := [some (.dat (bookD ks rs)), some (.dat (.tuple (vec ks.length s))), some (.dat (.int (beat : Nat))), some (.dat (.list ((List.range (beat + 1)).map (cntD ks rs s)))), none, none]) ?_
  refine ss_nx (ρ' := [some (.dat (bookD ks rs)), some (.dat (.tuple (vec ks.length s))), some (.dat (.int (beat : Nat))), some (.dat (.list ((List.range (beat + 1)).map (cntD ks rs s)))), none, none]) ?_ (ss_rt ?_)
  · simp -implicitDefEqProofs only [f_sums, startE, List.map_cons, List.map_nil, List.length_cons, List.length_nil, List.replicate, List.cons_append, List.nil_append, evS, evR, evE, evEs, rdD, List.getElem?_cons_zero, List.getElem?_cons_succ, Option.bind_some, Option.map_some, call_all h23 h24 h25 B s hb hb2, toD_own, List.set]
  have inner : ∀ (j : Nat) (b : Bool), j < ks.length → evE (callF T M (k + 2)) (.lc [5] (.n 5) (.ex (.nm 3)) .no (.bin .idx (.nm 5) (.nm 4))) b [some (.dat (bookD ks rs)), some (.dat (.tuple (vec ks.length s))), some (.dat (.int (beat : Nat))), some (.dat (.list ((List.range (beat + 1)).map (cntD ks rs s)))), some (.dat (.int (j : Nat))), none] =
      some (.list (((List.range (beat + 1)).map fun i => C ks rs s i j).map .int)) := fun j b hj => by
    refine lc_run (ds := (List.range (beat + 1)).map (cntD ks rs s)) ?_ ?_
    · simp -implicitDefEqProofs only [evI, evE, rdD, List.getElem?_cons_zero, List.getElem?_cons_succ, Option.bind_some, t_L]
    · rw [List.map_map]
      refine lcF_of fun i _ => ?_
      have e : L2.atI (vec ks.length (C ks rs s i)) (j : Nat) = some (.int (C ks rs s i j)) := by rw [atI_nat, vec_get hj]
      simp -implicitDefEqProofs only [wipeE, bindT, List.set, Option.bind_some, evCond, if_true, evE, rdD, List.getElem?_cons_zero, List.getElem?_cons_succ, cntD, b_idxT, e, Option.map_some, Function.comp]
  have outer : evE (callF T M (k + 2)) (.lc [4] (.n 4) (.rng (.un .len (.nm 1))) .no (.un .sum (.lc [5] (.n 5) (.ex (.nm 3)) .no (.bin .idx (.nm 5) (.nm 4))))) true [some (.dat (bookD ks rs)), some (.dat (.tuple (vec ks.length s))), some (.dat (.int (beat : Nat))), some (.dat (.list ((List.range (beat + 1)).map (cntD ks rs s)))), none, none] =
      some (.list (vec ks.length (Sm ks rs s beat))) := by
    refine lc_run (ds := (List.range ks.length).map fun j => PyData.int ((j : Nat) : Int)) ?_ ?_
    · simp -implicitDefEqProofs only [evI, evE, rdD, List.getElem?_cons_zero, List.getElem?_cons_succ, Option.bind_some, u_lenT, vec_length, rng_nat (show ks.length ≤ 1000000 by omega)]
    · refine lcF_of fun j hj => ?_
      have hj' := List.mem_range.mp hj
      simp -implicitDefEqProofs only [wipeE, bindT, List.set, Option.bind_some, evCond, if_true]
      unfold evE
      rw [inner j true hj']
      simp -implicitDefEqProofs only [Option.bind_some, u_sumL, toInts_map, Option.map_some, Sm]
  exact ret_run (un_run outer u_tupL)
end
end Bw

/-! Bw, part W: a table of rows, whole numbers leading to lists of one's own, as the laws' walks keep it. -/
namespace Bw
open PySem PySem.Spec PyProof.Rows L2

section
variable {prog : Program} {w : World} {K : W.Frag} {P : Addr → Prop} {F : List Addr} {ρ : Env} {σ : L2.St} {H H' : Hp}
/-- where all slots are data, what changes at an address of one's own changes nothing else -/
theorem R.wild (r : R prog w K P F ρ σ H) (hd : ∀ (i : Nat) (s : SV), ρ[i]? = some (some s) → ∃ d, s = .dat d) {a : Addr} (ha : a ∈ F) (ne : ∀ b, b ≠ a → H' b = H b) (mu : ∃ o, H' a = some o ∧ isMut o = true) : R prog w K P F ρ σ H' ∧ Go F H F H' := by
  obtain ⟨oa, hoa, hma⟩ := r.trk a ha
  have kp : Keeps (PF P F) H H' := ⟨fun b o p e => by rw [ne b fun z => p.2 (by rw [z]; exact ha)]; exact e, fun b o u e => by rw [ne b fun z => by rw [z, hoa] at e; cases e; cases hma]; exact e⟩
  have hnone : ∀ b, H' b = none → H b = none := fun b e => by
    by_cases hb : b = a
    · subst hb
      obtain ⟨o, q, _⟩ := mu
      rw [q] at e
      cases e
    · rw [← ne b hb]; exact e
  refine ⟨⟨r.len, fun b hb => ?_, fun b e => r.fresh b (hnone b e), fun i s e => ?_, fun i j s t v u b nij e1 e2 e3 e4 f g => ?_⟩, ⟨fun b o e n => by rw [ne b fun z => n (by rw [z]; exact ha)]; exact e, hnone⟩, fun b h => .inl h⟩
  · by_cases hba : b = a
    · subst hba; exact mu
    · rw [ne b hba]; exact r.trk b hb
  · obtain ⟨v, h1, h2⟩ := r.rep i s e
    obtain ⟨d, rfl⟩ := hd i s e
    exact ⟨v, h1, Da.keep h2 kp⟩
  · obtain ⟨d, rfl⟩ := hd i s e1
    exact f.elim
theorem R.unseen (r : R prog w K P F ρ σ H) {i : Nat} {v : V} (hi : ρ[i]? = some none) : R prog w K P F ρ (σ.set i (some v)) H :=
  r.remap id (by rw [List.length_set]; exact r.len) (fun j s e => ⟨e, by
    rw [id, List.getElem?_set_ne]
    intro z
    subst z
    rw [hi] at e
    cases e⟩) fun i j _ _ ne _ _ => ne
end
def iv (n : Nat) (f : Nat → Int) : List V := (List.range n).map fun j => V.int (f j)
theorem iv_len (n : Nat) (f : Nat → Int) : (iv n f).length = n := by simp [iv]
theorem iv_get {n : Nat} {f : Nat → Int} {j : Nat} (h : j < n) : (iv n f)[j]? = some (.int (f j)) := by simp [iv, h]
theorem iv_set {n : Nat} {f : Nat → Int} {j : Nat} {x : Int} : (iv n f).set j (.int x) = iv n fun k => if k = j then x else f k := by
  refine List.ext_getElem? fun k => ?_
  by_cases hk : k < n
  · rw [iv_get hk]
    by_cases h : j = k
    · subst h
      rw [List.getElem?_set_self (by rw [iv_len]; exact hk), if_pos rfl]
    · rw [List.getElem?_set_ne h, iv_get hk, if_neg (Ne.symm h)]
  · rw [List.getElem?_eq_none (by rw [List.length_set, iv_len]; omega), List.getElem?_eq_none (by rw [iv_len]; omega)]
theorem iv_da {K : W.Frag} {H : Hp} {P : Addr → Prop} (n : Nat) (f : Nat → Int) : DaL K H P (iv n f) ((List.range n).map fun j => PyData.int (f j)) := by
  unfold iv
  generalize List.range n = l
  induction l with
  | nil => exact .nil
  | cons a l ih => exact .cons (.int _) ih
theorem da_iv {K : W.Frag} {H : Hp} {P : Addr → Prop} : ∀ {l : List Nat} {f : Nat → Int} {vs : List V}, DaL K H P vs (l.map fun j => PyData.int (f j)) → vs = l.map fun j => V.int (f j)
  | [], _, _, h => by cases h; rfl
  | a :: l, f, _, h => by
    cases h with
    | cons h1 h2 =>
      cases h1
      rw [da_iv h2]
      rfl
/-- the table at d: n numbers a row, what no row holds is nought -/
structure Tbl (F : List Addr) (H : Hp) (d : Addr) (n c : Nat) (tb : Nat → Option Addr) (W : Nat → Nat → Int) : Prop where
  dF : d ∈ F
  kv : ∃ kvs, H d = some (.dK kvs) ∧ kvs.length ≤ c ∧ ∀ b : Nat, valV kvs (Sum.inl (b : Int)) = (tb b).map V.ref
  at_ : ∀ b a, tb b = some a → a ∈ F ∧ a ≠ d ∧ H a = some (.lst (iv n (W b)))
  inj : ∀ b b' a, tb b = some a → tb b' = some a → b = b'
  zero : ∀ b, tb b = none → ∀ j, j < n → W b j = 0
section
variable {F F' : List Addr} {H H' : Hp} {d : Addr} {n c : Nat} {tb : Nat → Option Addr} {W : Nat → Nat → Int}
theorem Tbl.same (t : Tbl F H d n c tb W) (s : Same H H') (hF : ∀ b ∈ F, b ∈ F') : Tbl F' H' d n c tb W :=
  ⟨hF _ t.dF, t.kv.elim fun kvs h => ⟨kvs, s _ _ h.1, h.2⟩, fun b a e => ⟨hF _ (t.at_ b a e).1, (t.at_ b a e).2.1, s _ _ (t.at_ b a e).2.2⟩, t.inj, t.zero⟩
/-- a list that stands apart is put at b -/
theorem Tbl.put (t : Tbl F H d n c tb W) {b : Nat} {a : Addr} {kvs : List (Key × V)} (hkv : H d = some (.dK kvs)) (ha : a ∈ F) (had : a ≠ d) {f : Nat → Int} (hl : H a = some (.lst (iv n f))) (apart : ∀ b' a', tb b' = some a' → a' = a → b' = b) :
    Tbl F (upd H d (.dK (putK kvs (Sum.inl (b : Int)) (.ref a)))) d n (c + 1) (fun b' => if b' = b then some a else tb b') (fun b' => if b' = b then f else W b') := by
  obtain ⟨kvs', h1, h2, h3⟩ := t.kv
  rw [hkv] at h1
  cases h1
  refine ⟨t.dF, ⟨_, upd_same, ?_, fun b' => ?_⟩, fun b' a' e => ?_, fun b1 b2 a' e1 e2 => ?_, fun b' e => ?_⟩
  · have := length_putK kvs (Sum.inl (b : Int)) (V.ref a)
    omega
  · rw [valV_put]
    by_cases h : b' = b
    · subst h
      rw [if_pos rfl, if_pos rfl]
      rfl
    · rw [if_neg fun z => h (by have := Sum.inl.inj z; omega), if_neg h]
      exact h3 b'
  · try dsimp only at e ⊢
    by_cases h : b' = b
    · subst h
      rw [if_pos rfl] at e
      cases e
      rw [if_pos rfl]
      exact ⟨ha, had, by rw [upd_ne had]; exact hl⟩
    · rw [if_neg h] at e ⊢
      obtain ⟨g1, g2, g3⟩ := t.at_ b' a' e
      exact ⟨g1, g2, by rw [upd_ne g2]; exact g3⟩
  · try dsimp only at e1 e2
    by_cases h1 : b1 = b <;> by_cases h2 : b2 = b
    · omega
    · rw [if_pos h1] at e1
      rw [if_neg h2] at e2
      cases e1
      exact h1.trans (apart b2 _ e2 rfl).symm
    · rw [if_neg h1] at e1
      rw [if_pos h2] at e2
      cases e2
      exact (apart b1 _ e1 rfl).trans h2.symm
    · rw [if_neg h1] at e1
      rw [if_neg h2] at e2
      exact t.inj b1 b2 a' e1 e2
  · try dsimp only at e ⊢
    by_cases h : b' = b
    · rw [if_pos h] at e
      cases e
    · rw [if_neg h] at e ⊢
      exact t.zero b' e
/-- a list that is in no row is changed -/
theorem Tbl.other (t : Tbl F H d n c tb W) {a : Addr} {o : HO} (had : a ≠ d) (h : ∀ b, tb b ≠ some a) : Tbl F (upd H a o) d n c tb W := by
  obtain ⟨kvs, h1, h2, h3⟩ := t.kv
  refine ⟨t.dF, ⟨kvs, by rw [upd_ne (Ne.symm had)]; exact h1, h2, h3⟩, fun b a' e => ?_, t.inj, t.zero⟩
  obtain ⟨g1, g2, g3⟩ := t.at_ b a' e
  exact ⟨g1, g2, by rw [upd_ne fun z => h b (by rw [← z]; exact e)]; exact g3⟩
/-- the list of a row is changed -/
theorem Tbl.row (t : Tbl F H d n c tb W) {b : Nat} {a : Addr} (hb : tb b = some a) (f : Nat → Int) : Tbl F (upd H a (.lst (iv n f))) d n c tb (fun b' => if b' = b then f else W b') := by
  obtain ⟨kvs, h1, h2, h3⟩ := t.kv
  obtain ⟨q1, q2, q3⟩ := t.at_ b a hb
  refine ⟨t.dF, ⟨kvs, by rw [upd_ne (Ne.symm q2)]; exact h1, h2, h3⟩, fun b' a' e => ?_, t.inj, fun b' e => ?_⟩
  · obtain ⟨g1, g2, g3⟩ := t.at_ b' a' e
    refine ⟨g1, g2, ?_⟩
    try dsimp only
    by_cases h : b' = b
    · subst h
      rw [hb] at e
      cases e
      rw [if_pos rfl]
      exact upd_same
    · rw [if_neg h, upd_ne fun z => h (t.inj b' b a (by rw [← z]; exact e) hb)]
      exact g3
  · try dsimp only
    rw [if_neg fun z => by rw [z, hb] at e; cases e]
    exact t.zero b' e
end
section
variable {g : G} {cf : Nat → List D → Option RV} {sc : Scope} {X : Cx}
/-- T.get(k, z), z a new list -/
def tGetW (X : Cx) (cf : Nat → List D → Option RV) (iT : Nat) (kc zc : E) : TE := fun σ H Q => ∃ P F ρ d kvs, ∃ (k : Int) (zs : List D), RX X P F ρ σ H ∧ σ[iT]? = some (some (.ref d)) ∧ H d = some (.dK kvs) ∧ evE cf kc false ρ = some (.int k) ∧ evE cf zc false ρ = some (.list zs) ∧
  ∀ z H', Same H H' → RX X P F ρ σ H' → Fresh X.K H H' (PF P F) z (.list zs) → Q ((valV kvs (Sum.inl k)).getD z) H'
theorem pe_getW (G : Gd g cf sc X) {iT : Nat} {kc zc : E} {o e1 e2 : Expr} {m : Str} {ap cp : Pos} (hm : m = ("get" : Str)) (ho : (match vName o with | some x => nameOk X.N sc iT x | none => false) = true) (hl : (ap.endLine == cp.line) = true) (h1 : nStar e1 = true) (h2 : nStar e2 = true)
    (hk : cE g X.N kc sc e1 = true) (hz : cE g X.N zc sc e2 = true) (hf : freshE zc = true) : PE X (.Call (.Attribute o m ap) [e1, e2] [] cp) (tGetW X cf iT kc zc) := by
  subst hm
  have hu := G.hu
  refine ⟨fun pins s σ H Q I ⟨P, F, ρ, d, kvs, k, zs, r, f1, f2, ev1, ev2, q⟩ => ?_⟩
  refine wpAny_Call_method (base_nm ho) ?_ hl PySem.F.plainAttrs_dict PySem.F.slot_dict_get PySem.F.type_dict_get (thn ((nm_slot G ho).run pins s σ H (fun v H' => v = .ref d ∧ H' = H) I ⟨_, f1, rfl, rfl⟩) fun u s1 ⟨x, H1, I1, rx, ex, eH⟩ => ?_)
  · have := back_all (pos := cp) (env := X.env) (es := [e1, e2]) (by simp [h1, h2])
    rw [this]
    rfl
  subst ex eH
  obtain rfl : u = Value.ref d := rx
  obtain ⟨t1, t2, _⟩ := isD_at I1 (.inl ⟨kvs, .inl f2⟩)
  refine ⟨t1, t2, ?_⟩
  rw [show backTo cp (starEach [e1, e2] X.env) = _ from rfl, star_cons h1, star_cons h2]
  refine Calls.callWith_builtin rfl (Calls.evalArgs_plain (Calls.spliced_cons (thn (((okE kc G hk).pe false).run pins s1 σ H1 _ I1 (rd_in r ev1 fun v H2 s2 r2 da _ => (⟨s2, r2, da⟩ : Same H1 H2 ∧ RX X P F ρ σ H2 ∧ Da X.K H2 (PF P F) v (.int k)))) fun iv s2 ⟨y, H2, I2, ry, st, r2, da⟩ =>
    Calls.spliced_cons (thn (((okE zc G hz).pe false).run pins s2 σ H2 _ I2 (rd_in r2 ev2 fun v H3 s3 r3 dv fr => (⟨s3, r3, fr hf zs rfl⟩ : Same H2 H3 ∧ RX X P F ρ σ H3 ∧ Fresh X.K H2 H3 (PF P F) v (.list zs)))) fun fv s3 ⟨z, H3, I3, rz, st3, r3, fz⟩ => Calls.spliced_nil ?_))))
  cases da
  have sx := st.trans st3
  exact d_get2 (by omega) I3 (DGet.k (k := Sum.inl k) (sx _ _ f2)) ry rz fun w' s4 I4 rw' => ⟨_, H3, I4, rw', q z H3 sx r3 (Fresh.back st fz)⟩
end
end Bw

/-! Bw, part X: the laws' walk over a table of rows, by hand. -/
namespace Bw
open PySem PySem.Spec PyProof.Rows L2

/-- one work sets off its own -/
def push (ks : List Str) (W : Nat → Nat → Int) (b : Nat) (r : Rl) : Nat → Nat → Int := fun c j => if c = b + r.t then (if j = ks.idxOf r.b then W c j + r.m * W b (ks.idxOf r.a) else W c j) else W c j
def zE : E := .bin .mul (.lst (.cons (.cst (.int 0)) .nil)) (.un .len (.nm 1))
def kE : E := .bin .add (.nm 4) (.nm 7)
def pE : E := .bin .index (.bin .idx (.nm 0) (.cst (.int 0))) (.nm 8)
def aE : E := .bin .index (.bin .idx (.nm 0) (.cst (.int 0))) (.nm 6)
section
variable {X : Cx} {cf : Nat → List D → Option RV}
abbrev tC1 (X : Cx) (cf : Nat → List D → Option RV) : TS := tAsg (tGetW X cf 3 kE zE) (gName 10)
abbrev tC2 (X : Cx) (cf : Nat → List D → Option RV) : TS := tAsg (rdE X cf false pE) (gName 11)
abbrev tC3 (X : Cx) (cf : Nat → List D → Option RV) : TS := tAsg (tOp (rBin X.K .add) (tOp (rIxL X.K) (tVar 10) (rdE X cf false (.nm 11))) (tOp (rBin X.K .mul) (rdE X cf false (.nm 9)) (tOp (rIxL X.K) (tVar 5) (rdE X cf false aE)))) (gSub (tVar 10) (rdE X cf false (.nm 11)) rSetL)
abbrev tC4 (X : Cx) (cf : Nat → List D → Option RV) : TS := sDPut (tVar 3) (rdE X cf false kE) (tVar 10)
/-- the slots that are data -/
def wE (bk st far : D) (xb xk xa xo xm xp : Option D) : Env := [some (.dat bk), some (.dat st), some (.dat far), none, xb.map .dat, none, xk.map .dat, xa.map .dat, xo.map .dat, xm.map .dat, none, xp.map .dat]
theorem wE_dat {bk st far : D} {xb xk xa xo xm xp : Option D} : ∀ (i : Nat) (s : SV), (wE bk st far xb xk xa xo xm xp)[i]? = some (some s) → ∃ d, s = .dat d := fun i s h => by
  unfold wE at h
  have mp : ∀ {x : Option D}, some (x.map SV.dat) = some (some s) → ∃ d, s = .dat d := fun {x} h => by
    cases x with
    | none => cases h
    | some d => cases h; exact ⟨d, rfl⟩
  match i, h with
  | 0, h => cases h; exact ⟨_, rfl⟩
  | 1, h => cases h; exact ⟨_, rfl⟩
  | 2, h => cases h; exact ⟨_, rfl⟩
  | 3, h => cases h
  | 4, h => exact mp h
  | 5, h => cases h
  | 6, h => exact mp h
  | 7, h => exact mp h
  | 8, h => exact mp h
  | 9, h => exact mp h
  | 10, h => cases h
  | 11, h => exact mp h
  | n + 12, h => cases h
theorem z_run {n : Nat} {f : Nat → Int} {ρ : Env} (h : ρ[1]? = some (some (.dat (.tuple (vec n f))))) (hn : n ≤ 1000) : evE cf zE false ρ = some (.list (vec n fun _ => 0)) :=
  bin_run (lst_run (es_cons cst_run es_nil) (by simp)) (un_run (nm_run h) u_lenT) (by rw [vec_length]; exact mul_rep hn)
theorem rule_step {ks : List Str} {rs : List Rl} (hks : ∀ x ∈ ks, PyData.strOk x = true) (hfew : ks.length ≤ 1000) {s : Nat → Int} {far : D} {b : Nat} {r : Rl} (ra : r.a ∈ ks) (rb : r.b ∈ ks) (rm : r.m.natAbs < 2 ^ 64) (rt : 1 ≤ r.t) {xp : Option D}
    {P : Addr → Prop} {F : List Addr} {σ : L2.St} {H : Hp} {d ah : Addr} {c : Nat} {tb : Nat → Option Addr} {W : Nat → Nat → Int} {En : Ends} (hc : c < 1000000)
    (R0 : RX X P F (wE (bookD ks rs) (.tuple (vec ks.length s)) far (some (.int (b : Nat))) (some (.str r.a)) (some (.int (r.t : Nat))) (some (.str r.b)) (some (.int r.m)) xp) σ H)
    (hd : σ[3]? = some (some (.ref d))) (hh : σ[5]? = some (some (.ref ah))) (hb : tb b = some ah) (t : Tbl F H d ks.length c tb W)
    (q : ∀ σ' F' H' tb', RX X P F' (wE (bookD ks rs) (.tuple (vec ks.length s)) far (some (.int (b : Nat))) (some (.str r.a)) (some (.int (r.t : Nat))) (some (.str r.b)) (some (.int r.m)) (some (.int (ks.idxOf r.b : Nat)))) σ' H' → σ'[3]? = some (some (.ref d)) → σ'[5]? = some (some (.ref ah)) → tb' b = some ah →
      Tbl F' H' d ks.length (c + 1) tb' (push ks W b r) → Go F H F' H' → (∀ b', (tb b').isSome = true → (tb' b').isSome = true) → En.nx σ' H') :
    tSeq (tC1 X cf) (tSeq (tC2 X cf) (tSeq (tC3 X cf) (tC4 X cf))) En σ H := by
  obtain ⟨kvs, k1, k2, k3⟩ := t.kv
  have hs := sl_eq
  have ek : ∀ {xp : Option D}, evE cf kE false (wE (bookD ks rs) (.tuple (vec ks.length s)) far (some (.int (b : Nat))) (some (.str r.a)) (some (.int (r.t : Nat))) (some (.str r.b)) (some (.int r.m)) xp) = some (.int ((b + r.t : Nat) : Int)) := fun {xp} => bin_run (nm_run rfl) (nm_run rfl) (by rw [Int.natCast_add]; rfl)
  refine ⟨P, F, _, d, kvs, ((b + r.t : Nat) : Int), vec ks.length fun _ => 0, R0, hd, k1, ek, z_run rfl hfew, fun z H1 s1 r1 fz => ?_⟩
  rw [k3 (b + r.t)]
  -- the row's list: it stands there, or is new
  obtain ⟨F1, ar, e0, R1, hF1, hF1n, h1, h2, h3, h4⟩ : ∃ F1 ar, ((tb (b + r.t)).map V.ref).getD z = .ref ar ∧ RX X P F1 (wE (bookD ks rs) (.tuple (vec ks.length s)) far (some (.int (b : Nat))) (some (.str r.a)) (some (.int (r.t : Nat))) (some (.str r.b)) (some (.int r.m)) xp) σ H1 ∧ (∀ b ∈ F, b ∈ F1) ∧ (∀ b ∈ F1, b ∈ F ∨ H b = none) ∧ ar ∈ F1 ∧ ar ≠ d ∧ H1 ar = some (.lst (iv ks.length (W (b + r.t)))) ∧
      ∀ b' a', tb b' = some a' → a' = ar → b' = b + r.t := by
    cases htb : tb (b + r.t) with
    | some a =>
      obtain ⟨g1, g2, g3⟩ := t.at_ _ a htb
      exact ⟨F, a, rfl, r1, fun _ h => h, fun _ h => .inl h, g1, g2, s1 _ _ g3, fun b' a' e ea => t.inj b' _ a' e (by rw [ea]; exact htb)⟩
    | none =>
      obtain ⟨p, vs, ds, g1, g2, g3, g4, g5, g6⟩ := fz.ex
      cases g2
      subst g1
      have hv : vs = iv ks.length (W (b + r.t)) := by
        rw [da_iv g6]
        refine List.map_congr_left fun j hj => ?_
        rw [t.zero _ htb j (List.mem_range.mp hj)]
      refine ⟨p :: F, p, rfl, R.more' R0 g3 s1 g4 rfl, fun _ h => List.mem_cons_of_mem _ h, fun b hb => (List.mem_cons.mp hb).elim (fun z => .inr (by rw [z]; exact g3)) .inl, List.mem_cons_self, (fun z => by rw [z, k1] at g3; cases g3), (by rw [← hv]; exact g4), fun b' a' e ea => ?_⟩
      have := (t.at_ b' a' e).2.2
      rw [ea, g3] at this
      cases this
  rw [e0]
  have t1 : Tbl F1 H1 d ks.length c tb W := t.same s1 hF1
  have go1 : Go F H F1 H1 := ⟨Step.of_same s1, hF1n⟩
  have ha0 : ah ≠ ar := fun z => by
    have := h4 b ah hb z
    omega
  show tC2 X cf _ (σ.set 10 (some (.ref ar))) H1
  have R1' : RX X P F1 (wE (bookD ks rs) (.tuple (vec ks.length s)) far (some (.int (b : Nat))) (some (.str r.a)) (some (.int (r.t : Nat))) (some (.str r.b)) (some (.int r.m)) xp) (σ.set 10 (some (.ref ar))) H1 := R1.unseen rfl
  have hsz : σ.length = 12 := by rw [R0.len]; rfl
  have p_ev : evE cf pE false (wE (bookD ks rs) (.tuple (vec ks.length s)) far (some (.int (b : Nat))) (some (.str r.a)) (some (.int (r.t : Nat))) (some (.str r.b)) (some (.int r.m)) xp) = some (.int (ks.idxOf r.b : Nat)) :=
    bin_run (bin_run (x := bookD ks rs) (nm_run rfl) cst_run (show binF .idx (bookD ks rs) (.int 0) = some (ksD ks) from rfl)) (nm_run rfl) (index_ks hks rb)
  refine rd_in R1' p_ev fun v H2 s2 R2 da _ => ?_
  cases da
  show tC3 X cf _ ((σ.set 10 (some (.ref ar))).set 11 (some (.int (ks.idxOf r.b : Nat)))) H2
  let σ2 := (σ.set 10 (some (V.ref ar))).set 11 (some (.int (ks.idxOf r.b : Nat)))
  have R2' : RX X P F1 (wE (bookD ks rs) (.tuple (vec ks.length s)) far (some (.int (b : Nat))) (some (.str r.a)) (some (.int (r.t : Nat))) (some (.str r.b)) (some (.int r.m)) (some (.int (ks.idxOf r.b : Nat)))) σ2 H2 := R2.set (i := 11) (d := .int (ks.idxOf r.b : Nat)) (.int _)
  have g10 : σ2[10]? = some (some (V.ref ar)) := by
    show ((σ.set 10 _).set 11 _)[10]? = _
    rw [List.getElem?_set_ne (by decide), List.getElem?_set_self (by omega)]
  have g5 : σ2[5]? = some (some (V.ref ah)) := by
    show ((σ.set 10 _).set 11 _)[5]? = _
    rw [List.getElem?_set_ne (by decide), List.getElem?_set_ne (by decide), hh]
  have g3 : σ2[3]? = some (some (V.ref d)) := by
    show ((σ.set 10 _).set 11 _)[3]? = _
    rw [List.getElem?_set_ne (by decide), List.getElem?_set_ne (by decide), hd]
  have nb := idx_lt rb
  have na := idx_lt ra
  have hl1 := s2 _ _ h3
  have hah : H2 ah = some (.lst (iv ks.length (W b))) := s2 _ _ (t1.at_ b ah hb).2.2
  -- row[place] + many * here[..]
  refine ⟨_, g10, rd_in R2' (nm_run (i := 11) (d := .int (ks.idxOf r.b : Nat)) rfl) fun v2 H3 s3 R3 d3 _ => ?_⟩
  cases d3
  refine ⟨ar, iv ks.length (W (b + r.t)), ((ks.idxOf r.b : Nat) : Int), .int (W (b + r.t) (ks.idxOf r.b)), rfl, rfl, .inl (.inl (s3 _ _ hl1)), by rw [atI_nat]; exact iv_get nb, rd_in R3 (nm_run (i := 9) (d := .int r.m) rfl) fun v4 H4 s4 R4 d4 _ => ?_⟩
  cases d4
  have a_ev : evE cf aE false (wE (bookD ks rs) (.tuple (vec ks.length s)) far (some (.int (b : Nat))) (some (.str r.a)) (some (.int (r.t : Nat))) (some (.str r.b)) (some (.int r.m)) (some (.int (ks.idxOf r.b : Nat)))) = some (.int (ks.idxOf r.a : Nat)) :=
    bin_run (bin_run (x := bookD ks rs) (nm_run rfl) cst_run (show binF .idx (bookD ks rs) (.int 0) = some (ksD ks) from rfl)) (nm_run rfl) (index_ks hks ra)
  refine ⟨_, g5, rd_in R4 a_ev fun v5 H5 s5 R5 d5 _ => ?_⟩
  cases d5
  refine ⟨ah, iv ks.length (W b), ((ks.idxOf r.a : Nat) : Int), .int (W b (ks.idxOf r.a)), rfl, rfl, .inl (.inl (s5 _ _ (s4 _ _ (s3 _ _ hah)))), by rw [atI_nat]; exact iv_get na, ?_⟩
  refine ⟨PF P F1, .int r.m, .int (W b (ks.idxOf r.a)), .int (r.m * W b (ks.idxOf r.a)), R5.pf, .inl (.int _), .inl (.int _), mul_run (.inl rm), fun v6 H6 s6 d6 _ => ?_⟩
  cases d6
  refine ⟨PF P F1, .int (W (b + r.t) (ks.idxOf r.b)), .int (r.m * W b (ks.idxOf r.a)), .int (W (b + r.t) (ks.idxOf r.b) + r.m * W b (ks.idxOf r.a)), (R5.same s6).pf, .inl (.int _), .inl (.int _), rfl, fun v7 H7 s7 d7 _ => ?_⟩
  cases d7
  have R7 := (R5.same s6).same s7
  have s27 : Same H2 H7 := (((s3.trans s4).trans s5).trans s6).trans s7
  -- the store
  refine ⟨_, g10, rd_in R7 (nm_run (i := 11) (d := .int (ks.idxOf r.b : Nat)) rfl) fun v8 H8 s8 R8 d8 _ => ?_⟩
  cases d8
  have s28 := s27.trans s8
  have l8 : H8 ar = some (.lst (iv ks.length (W (b + r.t)))) := s28 _ _ hl1
  refine ⟨ar, iv ks.length (W (b + r.t)), ((ks.idxOf r.b : Nat) : Int), ks.idxOf r.b, rfl, rfl, l8, by rw [iv_len]; exact ixN_nat nb, ?_⟩
  rw [iv_set]
  let f' : Nat → Int := fun k => if k = ks.idxOf r.b then W (b + r.t) (ks.idxOf r.b) + r.m * W b (ks.idxOf r.a) else W (b + r.t) k
  let H9 := upd H8 ar (.lst (iv ks.length f'))
  obtain ⟨R9, go9⟩ := R8.wild wE_dat h1 (H' := H9) (fun b hb => upd_ne hb) ⟨_, upd_same, rfl⟩
  have t8 : Tbl F1 H8 d ks.length c tb W := t1.same (s2.trans s28) fun _ h => h
  -- the table behind the store
  obtain ⟨W9, t9, hW9⟩ : ∃ W9, Tbl F1 H9 d ks.length c tb W9 ∧ ∀ b', b' ≠ b + r.t → W9 b' = W b' := by
    cases htb : tb (b + r.t) with
    | some a =>
      have ea : a = ar := by rw [htb] at e0; exact V.ref.inj e0
      subst ea
      exact ⟨_, t8.row htb f', fun b' hb' => if_neg hb'⟩
    | none => exact ⟨W, t8.other h2 (fun b' e => by have := h4 b' ar e rfl; rw [this, htb] at e; cases e), fun _ _ => rfl⟩
  show tC4 X cf En σ2 H9
  refine ⟨_, g10, _, g3, rd_in R9 ek fun v10 H10 s10 R10 d10 _ => ?_⟩
  cases d10
  obtain ⟨kvs9, m1, m2, m3⟩ := t9.kv
  have m1' := s10 _ _ m1
  have t10 : Tbl F1 H10 d ks.length c tb W9 := t9.same s10 fun _ h => h
  refine ⟨d, _, rfl, DPut.k (k := Sum.inl ((b + r.t : Nat) : Int)) (v := .ref ar) m1' (by omega), ?_⟩
  have l10 : H10 ar = some (.lst (iv ks.length f')) := s10 _ _ upd_same
  obtain ⟨R11, go11⟩ := R10.wild wE_dat t10.dF (H' := upd H10 d (.dK (putK kvs9 (Sum.inl ((b + r.t : Nat) : Int)) (.ref ar)))) (fun b hb => upd_ne hb) ⟨_, upd_same, rfl⟩
  have t11 := t10.put (b := b + r.t) m1' h1 h2 l10 h4
  refine q σ2 F1 _ (fun b' => if b' = b + r.t then some ar else tb b') R11 g3 g5 ?_ ?_ ?_ fun b' hb' => ?_
  · show (if b = b + r.t then some ar else tb b) = some ah
    rw [if_neg (by omega)]
    exact hb
  · have eW : (fun b' => if b' = b + r.t then f' else W9 b') = push ks W b r := by
      funext c' j
      unfold push
      by_cases hcc : c' = b + r.t
      · rw [if_pos hcc, if_pos hcc, hcc]
        show (if j = ks.idxOf r.b then _ else _) = _
        by_cases hj : j = ks.idxOf r.b
        · rw [if_pos hj, if_pos hj, hj]
        · rw [if_neg hj, if_neg hj]
      · rw [if_neg hcc, if_neg hcc, hW9 c' hcc]
    rw [← eW]
    exact t11
  · exact go1.trans ((Go.of_same (s2.trans s28)).trans (go9.trans ((Go.of_same s10).trans go11)))
  · show (if b' = b + r.t then some ar else tb b').isSome = true
    split
    · rfl
    · exact hb'
end
end Bw

/-! Bw, part Y: the laws' walk, its loops. -/
namespace Bw
open PySem PySem.Spec PyProof.Rows L2

def pushAll (ks : List Str) (rs : List Rl) (b : Nat) (W : Nat → Nat → Int) : Nat → Nat → Int := rs.foldl (fun W r => push ks W b r) W
/-- the table behind so many beats -/
def walkW (ks : List Str) (rs : List Rl) (s : Nat → Int) : Nat → Nat → Nat → Int
  | 0 => fun b j => if b = 0 then s j else 0
  | i + 1 => pushAll ks rs i (walkW ks rs s i)
def itR : I := .ex (.bin .idx (.nm 0) (.cst (.int 1)))
def itB : I := .rng (.bin .add (.nm 2) (.cst (.int 1)))
section
variable {X : Cx} {cf : Nat → List D → Option RV}
structure RsOk (ks : List Str) (rs : List Rl) : Prop where
  ok : ∀ x ∈ ks, PyData.strOk x = true
  few : ks.length ≤ 1000
  many : rs.length ≤ 1000
  rule : ∀ r ∈ rs, r.a ∈ ks ∧ r.b ∈ ks ∧ r.m.natAbs < 2 ^ 64 ∧ 1 ≤ r.t
abbrev tB3 (X : Cx) (cf : Nat → List D → Option RV) : TS := tFor (rdI X cf false itR) (gT X.K (.t [6, 7, 8, 9])) (tSeq (tC1 X cf) (tSeq (tC2 X cf) (tSeq (tC3 X cf) (tC4 X cf))))
theorem rules_loop {ks : List Str} {rs : List Rl} (O : RsOk ks rs) {s : Nat → Int} {far : D} {b : Nat} {xk xa xo xm xp : Option D}
    {P : Addr → Prop} {F : List Addr} {σ : L2.St} {H : Hp} {d ah : Addr} {c : Nat} {tb : Nat → Option Addr} {W : Nat → Nat → Int} {En : Ends} (hc : c + 1000 < 1000000)
    (R0 : RX X P F (wE (bookD ks rs) (.tuple (vec ks.length s)) far (some (.int (b : Nat))) xk xa xo xm xp) σ H)
    (hd : σ[3]? = some (some (.ref d))) (hh : σ[5]? = some (some (.ref ah))) (hb : tb b = some ah) (t : Tbl F H d ks.length c tb W)
    (q : ∀ σ' F' H' tb' xk xa xo xm xp, RX X P F' (wE (bookD ks rs) (.tuple (vec ks.length s)) far (some (.int (b : Nat))) xk xa xo xm xp) σ' H' → σ'[3]? = some (some (.ref d)) →
      Tbl F' H' d ks.length (c + rs.length) tb' (pushAll ks rs b W) → Go F H F' H' → (∀ b', (tb b').isSome = true → (tb' b').isSome = true) → En.nx σ' H') :
    tB3 X cf En σ H := by
  have ev : evI cf itR false (wE (bookD ks rs) (.tuple (vec ks.length s)) far (some (.int (b : Nat))) xk xa xo xm xp) = some (rs.map Rl.d) :=
    it_ex (bin_run (x := bookD ks rs) (nm_run rfl) cst_run (show binF .idx (bookD ks rs) (.int 1) = some (.tuple (rs.map Rl.d)) from rfl)) t_T
  refine ⟨P, F, _, rs.map Rl.d, R0, ev, fun J H1 s1 hl wk => ?_⟩
  have R1 := R0.same s1
  refine for_it wk (fun i σ H2 => ∃ F2 xk xa xo xm xp tb2, RX X P F2 (wE (bookD ks rs) (.tuple (vec ks.length s)) far (some (.int (b : Nat))) xk xa xo xm xp) σ H2 ∧ σ[3]? = some (some (.ref d)) ∧ σ[5]? = some (some (.ref ah)) ∧ tb2 b = some ah ∧
      Tbl F2 H2 d ks.length (c + i) tb2 ((rs.take i).foldl (fun W r => push ks W b r) W) ∧ Go F H1 F2 H2 ∧ ∀ b', (tb b').isSome = true → (tb2 b').isSome = true)
    ⟨F, xk, xa, xo, xm, xp, tb, R1, hd, hh, hb, t.same s1 fun _ h => h, Go.refl, fun _ h => h⟩ (fun i σ H2 hi ⟨F2, xk, xa, xo, xm, xp, tb2, r2, _, _, _, _, go, _⟩ => R1.keeps go.step) (fun i x σ2 H2 H3 hi z y => ?_) fun σ2 H2 ⟨F2, xk, xa, xo, xm, xp, tb2, r2, g3, g5, gb, t2, go, keep⟩ => ?_
  · obtain ⟨F2, xk, xa, xo, xm, xp, tb2, r2, g3, g5, gb, t2, go, keep⟩ := z
    obtain ⟨s3, dd, hdd, itm⟩ := y
    rw [List.getElem?_map] at hdd
    obtain ⟨r, hr, rfl⟩ := Option.map_eq_some_iff.mp hdd
    have hmem : r ∈ rs := List.mem_of_getElem? hr
    have hP : ∀ b o, PF P F b → H1 b = some o → PF P F2 b := fun b o p e => ⟨p.1, fun z => (go.sub b z).elim p.2 fun q => by rw [q] at e; cases e⟩
    obtain ⟨i1, i2⟩ := itm _ hP
    obtain ⟨ra, rb, rm, rt⟩ := O.rule r hmem
    have hlen : i < rs.length := by rw [List.length_map] at hi; exact hi
    have hmany := O.many
    refine gT_run (own := [6, 7, 8, 9]) (tg := .t [6, 7, 8, 9]) (ρ' := wE (bookD ks rs) (.tuple (vec ks.length s)) far (some (.int (b : Nat))) (some (.str r.a)) (some (.int (r.t : Nat))) (some (.str r.b)) (some (.int r.m)) xp) (r2.same s3) i1 rfl (.inl rfl) (fun σ4 r4 hl4 hw => ?_) fun j hj => by cases hj
    have out : ∀ j, j ∉ [6, 7, 8, 9] → σ4[j]? = σ2[j]? := fun j hj => by
      have e1 := wipe_out (σ := σ4) (vs := [6, 7, 8, 9]) hj
      have e2 := wipe_out (σ := σ2) (vs := [6, 7, 8, 9]) hj
      rw [← e1, ← e2, hw rfl]
    refine rule_step O.ok O.few ra rb rm rt (by omega) r4 ((out 3 (by decide)).trans g3) ((out 5 (by decide)).trans g5) gb (t2.same s3 fun _ h => h) fun σ5 F5 H5 tb5 r5 f3 f5 fb t5 go5 keep5 => ?_
    refine ⟨F5, _, _, _, _, _, tb5, r5, f3, f5, fb, ?_, go.trans ((Go.of_same s3).trans go5), fun b' hb' => keep5 b' (keep b' hb')⟩
    have e : (rs.take (i + 1)).foldl (fun W r => push ks W b r) W = push ks ((rs.take i).foldl (fun W r => push ks W b r) W) b r := by
      rw [List.take_add_one, hr, List.foldl_append]
      rfl
    rw [e]
    exact t5
  · rw [List.length_map, List.take_length] at t2
    exact q σ2 F2 H2 tb2 xk xa xo xm xp r2 g3 t2 ((Go.of_same s1).trans go) keep
abbrev tB1 (X : Cx) (cf : Nat → List D → Option RV) : TS := tAsg (tGetW X cf 3 (.nm 4) zE) (gName 5)
abbrev tB2 (X : Cx) (cf : Nat → List D → Option RV) : TS := sDPut (tVar 3) (rdE X cf false (.nm 4)) (tVar 5)
theorem beat_step {ks : List Str} {rs : List Rl} (O : RsOk ks rs) {s : Nat → Int} {far : D} {b : Nat} {xk xa xo xm xp : Option D}
    {P : Addr → Prop} {F : List Addr} {σ : L2.St} {H : Hp} {d : Addr} {c : Nat} {tb : Nat → Option Addr} {W : Nat → Nat → Int} {En : Ends} (hc : c + 2000 < 1000000)
    (R0 : RX X P F (wE (bookD ks rs) (.tuple (vec ks.length s)) far (some (.int (b : Nat))) xk xa xo xm xp) σ H)
    (hd : σ[3]? = some (some (.ref d))) (t : Tbl F H d ks.length c tb W)
    (q : ∀ σ' F' H' tb' xk xa xo xm xp, RX X P F' (wE (bookD ks rs) (.tuple (vec ks.length s)) far (some (.int (b : Nat))) xk xa xo xm xp) σ' H' → σ'[3]? = some (some (.ref d)) →
      Tbl F' H' d ks.length (c + 1 + rs.length) tb' (pushAll ks rs b W) → Go F H F' H' → (∀ b', ((tb b').isSome = true ∨ b' = b) → (tb' b').isSome = true) → En.nx σ' H') :
    tSeq (tB1 X cf) (tSeq (tB2 X cf) (tB3 X cf)) En σ H := by
  obtain ⟨kvs, k1, k2, k3⟩ := t.kv
  have hs := sl_eq
  have hm := O.many
  have ek : ∀ {xk xa xo xm xp : Option D}, evE cf (.nm 4) false (wE (bookD ks rs) (.tuple (vec ks.length s)) far (some (.int (b : Nat))) xk xa xo xm xp) = some (.int (b : Nat)) := fun {_ _ _ _ _} => nm_run rfl
  refine ⟨P, F, _, d, kvs, (b : Nat), vec ks.length fun _ => 0, R0, hd, k1, ek, z_run rfl O.few, fun z H1 s1 r1 fz => ?_⟩
  rw [k3 b]
  obtain ⟨F1, ar, e0, R1, hF1, hF1n, h1, h2, h3, h4⟩ : ∃ F1 ar, ((tb b).map V.ref).getD z = .ref ar ∧ RX X P F1 (wE (bookD ks rs) (.tuple (vec ks.length s)) far (some (.int (b : Nat))) xk xa xo xm xp) σ H1 ∧ (∀ b ∈ F, b ∈ F1) ∧ (∀ b ∈ F1, b ∈ F ∨ H b = none) ∧ ar ∈ F1 ∧ ar ≠ d ∧ H1 ar = some (.lst (iv ks.length (W b))) ∧
      ∀ b' a', tb b' = some a' → a' = ar → b' = b := by
    cases htb : tb b with
    | some a =>
      obtain ⟨g1, g2, g3⟩ := t.at_ _ a htb
      exact ⟨F, a, rfl, r1, fun _ h => h, fun _ h => .inl h, g1, g2, s1 _ _ g3, fun b' a' e ea => t.inj b' _ a' e (by rw [ea]; exact htb)⟩
    | none =>
      obtain ⟨p, vs, ds, g1, g2, g3, g4, g5, g6⟩ := fz.ex
      cases g2
      subst g1
      have hv : vs = iv ks.length (W b) := by
        rw [da_iv g6]
        refine List.map_congr_left fun j hj => ?_
        rw [t.zero _ htb j (List.mem_range.mp hj)]
      refine ⟨p :: F, p, rfl, R.more' R0 g3 s1 g4 rfl, fun _ h => List.mem_cons_of_mem _ h, fun b hb => (List.mem_cons.mp hb).elim (fun z => .inr (by rw [z]; exact g3)) .inl, List.mem_cons_self, (fun z => by rw [z, k1] at g3; cases g3), (by rw [← hv]; exact g4), fun b' a' e ea => ?_⟩
      have := (t.at_ b' a' e).2.2
      rw [ea, g3] at this
      cases this
  rw [e0]
  have t1 : Tbl F1 H1 d ks.length c tb W := t.same s1 hF1
  have go1 : Go F H F1 H1 := ⟨Step.of_same s1, hF1n⟩
  have hsz : σ.length = 12 := by rw [R0.len]; rfl
  show tSeq (tB2 X cf) (tB3 X cf) En (σ.set 5 (some (.ref ar))) H1
  have R1' : RX X P F1 (wE (bookD ks rs) (.tuple (vec ks.length s)) far (some (.int (b : Nat))) xk xa xo xm xp) (σ.set 5 (some (.ref ar))) H1 := R1.unseen rfl
  have g5 : (σ.set 5 (some (V.ref ar)))[5]? = some (some (V.ref ar)) := List.getElem?_set_self (by omega)
  have g3 : (σ.set 5 (some (V.ref ar)))[3]? = some (some (V.ref d)) := by rw [List.getElem?_set_ne (by decide), hd]
  refine ⟨_, g5, _, g3, rd_in R1' ek fun v H2 s2 R2 dv _ => ?_⟩
  cases dv
  obtain ⟨kvs2, m1, m2, m3⟩ := (t1.same s2 (F' := F1) fun _ h => h).kv
  refine ⟨d, _, rfl, DPut.k (k := Sum.inl (b : Int)) (v := .ref ar) m1 (by omega), ?_⟩
  have t2 : Tbl F1 H2 d ks.length c tb W := t1.same s2 fun _ h => h
  obtain ⟨R3, go3⟩ := R2.wild wE_dat t2.dF (H' := upd H2 d (.dK (putK kvs2 (Sum.inl (b : Int)) (.ref ar)))) (fun b hb => upd_ne hb) ⟨_, upd_same, rfl⟩
  have t3 := t2.put (b := b) m1 h1 h2 (s2 _ _ h3) h4
  have eW : (fun b' => if b' = b then W b else W b') = W := by
    funext b'
    by_cases h : b' = b
    · rw [if_pos h, h]
    · rw [if_neg h]
  rw [eW] at t3
  refine rules_loop O (by omega) R3 g3 g5 (show (if b = b then some ar else tb b) = some ar from if_pos rfl) t3 fun σ' F' H' tb' xk xa xo xm xp r' g' t' go' keep' => ?_
  refine q σ' F' H' tb' xk xa xo xm xp r' g' t' (go1.trans ((Go.of_same s2).trans (go3.trans go'))) fun b' hb' => keep' b' ?_
  show (if b' = b then some ar else tb b').isSome = true
  by_cases h : b' = b
  · rw [if_pos h]; rfl
  · rw [if_neg h]
    exact hb'.resolve_right h
end
end Bw

/-! Bw, part Z: the laws' walk as a whole. -/
namespace Bw
open PySem PySem.Spec PyProof.Rows L2

section
variable {X : Cx} {cf : Nat → List D → Option RV}
abbrev tElt (X : Cx) (cf : Nat → List D → Option RV) : TE := tCB (rUn1 X.K .tuple) (tCons (tDGet (tVar 3) (rdE X cf false (.nm 4))) tNil)
abbrev tA1 (X : Cx) (cf : Nat → List D → Option RV) : TS := tAsg (tDisp [(tC (.int 0), rdE X cf false (.un .list (.nm 1)))]) (gName 3)
abbrev tA2 (X : Cx) (cf : Nat → List D → Option RV) : TS := tFor (rdI X cf false itB) (gT X.K (.n 4)) (tSeq (tB1 X cf) (tSeq (tB2 X cf) (tB3 X cf)))
abbrev tA3 (X : Cx) (cf : Nat → List D → Option RV) : TS := tRet (tLc (rdI X cf true itB) (gT X.K (.n 4)) (rdCond X cf .no) (tElt X cf) [4])
theorem b_run {n : Nat} {b : Bool} {ρ : Env} (h : ρ[2]? = some (some (.dat (.int (n : Nat))))) (hn : n ≤ 100000) : evI cf itB b ρ = some ((List.range (n + 1)).map fun k => PyData.int ((k : Nat) : Int)) :=
  it_rng (bin_run (nm_run h) cst_run (by rw [Int.natCast_add]; rfl)) (by omega)
def outD (ks : List Str) (rs : List Rl) (s : Nat → Int) (far : Nat) : D := .list ((List.range (far + 1)).map fun b => .tuple (vec ks.length (walkW ks rs s (far + 1) b)))
/-- the last row of the walk: the table read off -/
theorem read_off {ks : List Str} {rs : List Rl} (O : RsOk ks rs) {s : Nat → Int} {far : Nat} (hfar : far ≤ 100000) {xb xk xa xo xm xp : Option D}
    {P : Addr → Prop} {F : List Addr} {σ : L2.St} {H : Hp} {d : Addr} {c : Nat} {tb : Nat → Option Addr} {W : Nat → Nat → Int} {Q : VK}
    (R0 : RX X P F (wE (bookD ks rs) (.tuple (vec ks.length s)) (.int (far : Nat)) xb xk xa xo xm xp) σ H)
    (hd : σ[3]? = some (some (.ref d))) (t : Tbl F H d ks.length c tb W) (all : ∀ b, b ≤ far → (tb b).isSome = true)
    (q : ∀ v H', Same H H' → Fresh X.K H H' (PF P F) v (.list ((List.range (far + 1)).map fun b => .tuple (vec ks.length (W b)))) → Q v H') :
    tLc (rdI X cf true itB) (gT X.K (.n 4)) (rdCond X cf .no) (tElt X cf) [4] σ H Q := by
  have hs := sl_eq
  have few := O.few
  refine ⟨P, F, _, _, R0, b_run rfl hfar, fun J H1 s1 hl wk D hD => ?_⟩
  have R1 := R0.same s1
  have t1 : Tbl F H1 d ks.length c tb W := t.same s1 fun _ h => h
  refine lc_it wk (fun i H2 => Same H1 H2 ∧ ∃ acc, H2 D = some (.lst acc) ∧ acc.length ≤ i ∧ DaL X.K H2 (PF P (D :: F)) acc ((List.range i).map fun b => PyData.tuple (vec ks.length (W b))))
    ⟨same_upd hD, [], upd_same, Nat.le_refl _, .nil⟩ (fun i H2 hi p => p.1) (fun i x H2 H3 hi p y => ?_) fun H2 p => ?_
  · obtain ⟨s2, acc, e2, e3, e4⟩ := p
    obtain ⟨s3, dd, hdd, itm⟩ := y
    have hi' : i < far + 1 := by rw [List.length_map, List.length_range] at hi; exact hi
    rw [List.getElem?_map, List.getElem?_range hi'] at hdd
    cases hdd
    have hP : ∀ b o, PF P F b → H1 b = some o → PF P (D :: F) b := fun b o p e => ⟨p.1, fun z => (List.mem_cons.mp z).elim (fun q => by rw [q, hD] at e; cases e) p.2⟩
    obtain ⟨i1, i2⟩ := itm _ hP
    have dx := i2 rfl
    cases dx
    have e2' := s3 _ _ e2
    have rD : RX X P (D :: F) _ σ H3 := R.more' R1 hD (s2.trans s3) e2' rfl
    have rW := (rD.wipe [4]).set (i := 4) (d := .int ((i : Nat) : Int)) (.int _)
    have hsz : σ.length = 12 := by rw [R0.len]; rfl
    have w4 : (L2.wipe σ [4])[3]? = some (some (V.ref d)) := by rw [wipe_out (by decide)]; exact hd
    show L2.wipe ((L2.wipe σ [4]).set 4 (some (.int ((i : Nat) : Int)))) [4] = L2.wipe σ [4] ∧ _
    refine ⟨?_, P, D :: F, _, true, rW, cond_no, fun H4 s4 => ?_⟩
    · refine wipe_eq (vs := [4]) (by rw [List.length_set, wipe_length]) fun j hj => ?_
      rw [List.getElem?_set_ne (fun z => hj (by rw [← z]; exact List.mem_cons_self)), wipe_out hj]
    · refine iteT ?_
      have g3 : ((L2.wipe σ [4]).set 4 (some (V.int ((i : Nat) : Int))))[3]? = some (some (V.ref d)) := by rw [List.getElem?_set_ne (by decide)]; exact w4
      refine ⟨_, g3, rd_in (d := .int ((i : Nat) : Int)) (rW.same s4) (nm_run rfl) fun v H5 s5 r5 dv _ => ?_⟩
      cases dv
      obtain ⟨a, ha⟩ := Option.isSome_iff_exists.mp (all i (by omega))
      have s15 := ((s2.trans s3).trans s4).trans s5
      have t5 : Tbl F H5 d ks.length c tb W := t1.same s15 fun _ h => h
      obtain ⟨kvs, m1, m2, m3⟩ := t5.kv
      have la := (t5.at_ i a ha).2.2
      have mv := m3 i
      rw [ha] at mv
      have dg := DGet.k (H := H5) (a := d) (k := Sum.inl ((i : Nat) : Int)) m1
      rw [mv] at dg
      refine ⟨d, .ref a, rfl, dg, ?_⟩
      have bound : (iv ks.length (W i)).length ≤ sizeLine := by rw [iv_len]; omega
      refine ⟨.ref a, rfl, PF P (D :: F), .list ((List.range ks.length).map fun j => PyData.int (W i j)), .tuple (vec ks.length (W i)), r5.pf, .inr ⟨a, _, _, rfl, rfl, la, bound, iv_da _ _⟩, rfl, fun u H6 s6 du _ => ?_⟩
      have e6 : H6 D = some (.lst acc) := s6 _ _ (s5 _ _ (s4 _ _ e2'))
      refine ⟨acc, e6, by omega, ?_⟩
      have kk : Keeps (PF P (D :: F)) H6 (upd H6 D (.lst (acc ++ [u]))) := ⟨fun b o p e => by rw [upd_ne fun z => p.2 (by rw [z]; exact List.mem_cons_self)]; exact e,
        fun b o u' e => by rw [upd_ne fun z => by rw [z, e6] at e; cases e]; exact e⟩
      refine ⟨fun b o e => ?_, acc ++ [u], upd_same, by rw [List.length_append]; simp; omega, ?_⟩
      · rw [upd_ne (ne_of_none e hD)]
        exact s6 _ _ (s15 _ _ e)
      · rw [List.range_succ, List.map_append]
        exact (((((e4.same s3).same s4).same s5).same s6).append (.cons du .nil)).keep kk
  · obtain ⟨s2, acc, e2, e3, e4⟩ := p
    rw [List.length_map, List.length_range] at e3 e4
    refine q _ H2 (s1.trans s2) ⟨D, acc, _, rfl, rfl, s1.free hD, e2, by omega, e4.weak fun b o p e => ⟨⟨p.1, fun z => p.2 (List.mem_cons_of_mem _ z)⟩, fun z => p.2 (by rw [z]; exact List.mem_cons_self)⟩⟩
theorem walk_body {ks : List Str} {rs : List Rl} (O : RsOk ks rs) {s : Nat → Int} {far : Nat} (hfar : (far + 2) * (rs.length + 1) + 3000 < 1000000) (hfar2 : far ≤ 100000) {P : Addr → Prop} {H : Hp} {σ : L2.St} {En : Ends}
    (R0 : RX X P [] (wE (bookD ks rs) (.tuple (vec ks.length s)) (.int (far : Nat)) none none none none none none) σ H) (hu : X.A.units + 70 < cLine)
    (q : ∀ v H', Same H H' → Da X.K H' P v (outD ks rs s far) → En.rt v H') :
    tSeq (tA1 X cf) (tSeq (tA2 X cf) (tA3 X cf)) En σ H := by
  have hs := sl_eq
  have few := O.few
  have hsz : σ.length = 12 := by rw [R0.len]; rfl
  intro p np
  have R1 : RX X P [p] _ σ (upd H p (.dK [])) := R.more' R0 np (same_upd np) upd_same rfl
  refine rd_in R1 (un_run (f := .list) (nm_run (i := 1) (d := .tuple (vec ks.length s)) rfl) u_lstT) fun v H2 s2 R2 dv fr => ?_
  obtain ⟨a, vs, ds, g1, g2, g3, g4, g5, g6⟩ := (fr rfl _ rfl).ex
  cases g2
  subst g1
  have hp2 : H2 p = some (.dK []) := s2 _ _ upd_same
  refine ⟨hp2, [(Sum.inl 0, .ref a)], rfl, (by show 1 ≤ 15; omega), ?_⟩
  have hap : a ≠ p := fun z => by rw [z, upd_same] at g3; cases g3
  have R3 : RX X P [a, p] _ σ H2 := R.more' R1 g3 s2 g4 rfl
  have hvs : vs = iv ks.length s := da_iv g6
  have t0 : Tbl [a, p] H2 p ks.length 0 (fun _ => none) (fun _ _ => 0) :=
    ⟨by simp, ⟨[], hp2, Nat.le_refl _, fun b => rfl⟩, (fun b a e => by cases e), (fun b b' a e => by cases e), fun b _ j _ => rfl⟩
  have t1 := t0.put (b := 0) (a := a) hp2 (by simp) hap (f := s) (by rw [← hvs]; exact g4) fun b' a' e => by cases e
  obtain ⟨R4, go4⟩ := R3.wild wE_dat (a := p) (by simp) (H' := upd H2 p (.dK (putK [] (Sum.inl ((0 : Nat) : Int)) (.ref a)))) (fun b hb => upd_ne hb) ⟨_, upd_same, rfl⟩
  have e0 : upd H2 p (.dK (mergeK [] [((Sum.inl 0 : Key), V.ref a)])) = upd H2 p (.dK (putK [] (Sum.inl ((0 : Nat) : Int)) (.ref a))) := rfl
  rw [e0]
  have eW : (fun b' => if b' = 0 then s else (fun _ : Nat => (0 : Int))) = walkW ks rs s 0 := by
    funext b' j
    unfold walkW
    by_cases h : b' = 0
    · rw [if_pos h, if_pos h]
    · rw [if_neg h, if_neg h]
  rw [eW] at t1
  have go1 : Go [] H [a, p] (upd H2 p (.dK (putK [] (Sum.inl ((0 : Nat) : Int)) (.ref a)))) := by
    refine Go.trans (F1 := [a, p]) (H1 := H2) ⟨Step.of_same ((same_upd np).trans s2), fun b hb => .inr ?_⟩ go4
    rcases List.mem_cons.mp hb with rfl | hb
    · exact (same_upd np).free g3
    · rw [List.mem_singleton.mp hb]; exact np
  show tSeq (tA2 X cf) (tA3 X cf) En (σ.set 3 (some (.ref p))) _
  have R5 : RX X P [a, p] _ (σ.set 3 (some (.ref p))) _ := R4.unseen (i := 3) (v := .ref p) rfl
  have h3 : (σ.set 3 (some (V.ref p)))[3]? = some (some (V.ref p)) := List.getElem?_set_self (by omega)
  generalize upd H2 p (.dK (putK [] (Sum.inl ((0 : Nat) : Int)) (.ref a))) = H5 at R5 t1 go1
  refine ⟨P, [a, p], _, _, R5, b_run rfl hfar2, fun J H6 s6 hl wk => ?_⟩
  have R6 := R5.same s6
  refine for_it wk (fun i σ H7 => ∃ F2 xb xk xa xo xm xp tb2, RX X P F2 (wE (bookD ks rs) (.tuple (vec ks.length s)) (.int (far : Nat)) xb xk xa xo xm xp) σ H7 ∧ σ[3]? = some (some (.ref p)) ∧
      Tbl F2 H7 p ks.length (1 + i * (rs.length + 1)) tb2 (walkW ks rs s i) ∧ Go [a, p] H6 F2 H7 ∧ ∀ b, b < i → (tb2 b).isSome = true)
    ⟨[a, p], none, none, none, none, none, none, _, R6, h3, by rw [Nat.zero_mul]; exact t1.same s6 fun _ h => h, Go.refl, fun b hb => by omega⟩ (fun i σ H7 hi ⟨F2, xb, xk, xa, xo, xm, xp, tb2, r2, _, _, go, _⟩ => R6.keeps go.step) (fun i x σ2 H7 H8 hi z y => ?_) fun σ2 H7 ⟨F2, xb, xk, xa, xo, xm, xp, tb2, r2, g3, t2, go, all⟩ => ?_
  · obtain ⟨F2, xb, xk, xa, xo, xm, xp, tb2, r2, g3, t2, go, all⟩ := z
    obtain ⟨s8, dd, hdd, itm⟩ := y
    have hi' : i < far + 1 := by rw [List.length_map, List.length_range] at hi; exact hi
    rw [List.getElem?_map, List.getElem?_range hi'] at hdd
    cases hdd
    have hP : ∀ b o, PF P [a, p] b → H6 b = some o → PF P F2 b := fun b o p e => ⟨p.1, fun z => (go.sub b z).elim p.2 fun q => by rw [q] at e; cases e⟩
    obtain ⟨i1, i2⟩ := itm _ hP
    have dx := i2 rfl
    cases dx
    have r8 := (r2.same s8).set (i := 4) (d := .int ((i : Nat) : Int)) (.int _)
    have hsz2 : σ2.length = 12 := by rw [r2.len]; rfl
    have g38 : (σ2.set 4 (some (V.int ((i : Nat) : Int))))[3]? = some (some (V.ref p)) := by rw [List.getElem?_set_ne (by decide)]; exact g3
    have hb : 1 + i * (rs.length + 1) + 2000 < 1000000 := by
      have : i * (rs.length + 1) ≤ (far + 2) * (rs.length + 1) := Nat.mul_le_mul_right _ (by omega)
      omega
    show tSeq (tB1 X cf) (tSeq (tB2 X cf) (tB3 X cf)) _ (σ2.set 4 (some (.int ((i : Nat) : Int)))) H8
    refine beat_step (b := i) O hb r8 g38 (t2.same s8 fun _ h => h) fun σ9 F9 H9 tb9 xk xa xo xm xp r9 f3 t9 go9 keep9 => ?_
    refine ⟨F9, _, _, _, _, _, _, tb9, r9, f3, ?_, go.trans ((Go.of_same s8).trans go9), fun b hb => keep9 b ?_⟩
    · have : 1 + (i + 1) * (rs.length + 1) = 1 + i * (rs.length + 1) + 1 + rs.length := by rw [Nat.add_mul]; omega
      rw [this]
      exact t9
    · by_cases h : b = i
      · exact .inr h
      · exact .inl (all b (by omega))
  · rw [List.length_map, List.length_range] at t2 all
    have goZ := go1.trans ((Go.of_same s6).trans go)
    refine read_off O hfar2 r2 g3 t2 (fun b hb => all b (by omega)) fun v H' s9 fr => ?_
    have hStep : Same H H' := fun b o e => s9 _ _ (goZ.step.keep b o e (by simp))
    exact q v H' hStep ((Fresh.da fr r2.pf).weak fun b o p _ => p.1)
end
end Bw

/-! Bw, part V: the look at the laws' walk; what it gives. -/
namespace Bw
open PySem PySem.Spec PyProof.Rows L2

section
variable (g : G) (N : List Str)
def cGet (sc : Scope) (i : Nat) (kc : E) (st : Stmt) : Bool := match vAsg st with
  | some (t, e, _) => tgB N sc i t && (match vMeth e with
    | some (o, m, [e1, e2], ln) => decide (m = ("get" : Str)) && nmB N sc 3 o && ln && nStar e1 && nStar e2 && cE g N kc sc e1 && cE g N zE sc e2
    | _ => false)
  | none => false
def cPut (sc : Scope) (kc : E) (i : Nat) (st : Stmt) : Bool := match vAsg st with
  | some (t, e, _) => (match vSub t with
    | some (o, e2) => nmB N sc 3 o && cE g N kc sc e2 && nmB N sc i e
    | none => false)
  | none => false
def cSt (sc : Scope) (st : Stmt) : Bool := match vAsg st with
  | some (t, e, _) => (match vSub t, vBin e with
    | some (o, e2), some (l, op, r) => nmB N sc 10 o && nSlice e2 && cE g N (.nm 11) sc e2 && decide (op = .Add) && (match vSub l, vBin r with
      | some (o3, e3), some (m, op2, h) => nmB N sc 10 o3 && nSlice e3 && cE g N (.nm 11) sc e3 && decide (op2 = .Mult) && cE g N (.nm 9) sc m && (match vSub h with
        | some (o5, e5) => nmB N sc 5 o5 && nSlice e5 && cE g N aE sc e5
        | none => false)
      | _, _ => false)
    | _, _ => false)
  | none => false
def cPl (sc : Scope) (st : Stmt) : Bool := match vAsg st with
  | some (t, e, _) => tgB N sc 11 t && nComp e && cE g N pE sc e
  | none => false
def cRl (sc : Scope) : List Stmt → Bool
  | [c1, c2, c3, c4] => cGet g N sc 10 kE c1 && cPl g N sc c2 && cSt g N sc c3 && cPut g N sc kE 10 c4
  | _ => false
def cBt (sc : Scope) : List Stmt → Bool
  | [b1, b2, b3] => cGet g N sc 5 (.nm 4) b1 && cPut g N sc (.nm 4) 5 b2 && (match vFor b3 with
    | some (te, ie, lb) => cTg N sc (.t [6, 7, 8, 9]) te && cI g N itR sc te ie && nSet ie && cRl g N sc lb
    | none => false)
  | _ => false
def cEl (s : Scope) (e1 : Expr) : Bool := match vCall e1 with
  | some (x, [e]) => decide (x = ("tuple" : Str)) && glOk g s x && nStar e && (match vSub e with
    | some (o, e2) => nmB N s 3 o && nSlice e2 && cE g N (.nm 4) s e2
    | none => false)
  | _ => false
def vDict1 : Expr → Option (Expr × Expr) | .Dict [some k] [v] _ => some (k, v) | _ => none
theorem vDict1_of {e k v : Expr} (h : vDict1 e = some (k, v)) : ∃ p, e = .Dict [some k] [v] p := by
  unfold vDict1 at h
  split at h
  · cases h; exact ⟨_, rfl⟩
  · cases h
def cWalk (sc : Scope) : List Stmt → Bool
  | [s1, s2, s3] => (match vAsg s1 with
      | some (t, e, _) => tgB N sc 3 t && (match vDict1 e with
        | some (k0, e0) => decide (vConst k0 = some (.int 0)) && cE g N (.un .list (.nm 1)) sc e0
        | none => false)
      | none => false) && (match vFor s2 with
      | some (te, ie, lb) => cTg N sc (.n 4) te && cI g N itB sc te ie && nSet ie && cBt g N sc lb
      | none => false) && (match vRet s3 with
      | some e => (match vLc e with
        | some (e1, t, i, ifs, s) => blkC N sc s (ownP N [4]) && nSet i && cTg N s (.n 4) t && cI g N itB sc t i && cCond g N .no s ifs && cEl g N s e1
        | none => false)
      | none => false)
  | _ => false
end
section
variable {g : G} {cf : Nat → List D → Option RV} {sc : Scope} {X : Cx}
theorem okGet (G : Gd g cf sc X) {i : Nat} {kc : E} {st : Stmt} (h : cGet g X.N sc i kc st = true) : PS X st (tAsg (tGetW X cf 3 kc zE) (gName i)) := by
  unfold cGet at h
  split at h
  · rename_i t e p hv
    rw [Bool.and_eq_true] at h
    obtain ⟨h1, h⟩ := h
    split at h
    · rename_i o m e1 e2 ln hm
      have e0 := vAsg_of hv
      subst e0
      obtain ⟨x, px, rfl, a1, a2⟩ := tgB_of h1
      obtain ⟨ap, cp, rfl, hl⟩ := vMeth_of hm
      simp only [Bool.and_eq_true, decide_eq_true_eq] at h
      obtain ⟨⟨⟨⟨⟨⟨b1, b2⟩, b3⟩, b4⟩, b5⟩, b6⟩, b7⟩ := h
      exact ps_set G.nd a1 (G.rel.loc x a2) (pe_getW G b1 b2 (hl.trans b3) b4 b5 b6 b7 rfl) rfl (G.fs x a2)
    · cases h
  · cases h
theorem okPut (G : Gd g cf sc X) {i : Nat} {kc : E} {st : Stmt} (h : cPut g X.N sc kc i st = true) : PS X st (sDPut (tVar 3) (rdE X cf false kc) (tVar i)) := by
  have hu := G.hu
  unfold cPut at h
  split at h
  · rename_i t e p hv
    split at h
    · rename_i o e2 ht
      have e0 := vAsg_of hv
      subst e0
      obtain ⟨tp, rfl⟩ := vSub_of ht
      simp only [Bool.and_eq_true] at h
      exact ps_dput (by omega) (nm_slot G h.1.1) ((okE kc G h.1.2).pe false) (nm_slot G h.2) (sw_other (tg := .Subscript o e2 tp) rfl)
    · cases h
  · cases h
theorem okSt (G : Gd g cf sc X) {st : Stmt} (h : cSt g X.N sc st = true) : PS X st (tC3 X cf) := by
  unfold cSt at h
  split at h
  · rename_i t e p hv
    split at h
    · rename_i o e2 l op r ht hb
      have e0 := vAsg_of hv
      subst e0
      obtain ⟨tp, rfl⟩ := vSub_of ht
      obtain ⟨bp, rfl⟩ := vBin_of hb
      rw [Bool.and_eq_true, Bool.and_eq_true, Bool.and_eq_true, Bool.and_eq_true] at h
      obtain ⟨⟨⟨⟨h1, h2⟩, h3⟩, h4⟩, h⟩ := h
      have h4' := of_decide_eq_true h4
      subst h4'
      split at h
      · rename_i o3 e3 m op2 hh hl hr
        obtain ⟨lp, rfl⟩ := vSub_of hl
        obtain ⟨rp, rfl⟩ := vBin_of hr
        rw [Bool.and_eq_true, Bool.and_eq_true, Bool.and_eq_true, Bool.and_eq_true, Bool.and_eq_true] at h
        obtain ⟨⟨⟨⟨⟨k1, k2⟩, k3⟩, k4⟩, k5⟩, h⟩ := h
        have k4' := of_decide_eq_true k4
        subst k4'
        split at h
        · rename_i o5 e5 hs
          obtain ⟨sp, rfl⟩ := vSub_of hs
          simp only [Bool.and_eq_true] at h
          obtain ⟨⟨m1, m2⟩, m3⟩ := h
          exact ps_asg (pe_op (op_rule (f := .add) rfl) (pe_ix ix_list (nm_slot G k1) ((okE (.nm 11) G k3).pe false) (plain_ix k2)) (pe_op (op_rule (f := .mul) rfl) ((okE (.nm 9) G k5).pe false) (pe_ix ix_list (nm_slot G m1) ((okE aE G m3).pe false) (plain_ix m2))))
            (pg_sub (nm_slot G h1) ((okE (.nm 11) G h3).pe false) set_list (asg_sub h2)) rfl noStores2 rfl
        · cases h
      · cases h
    · cases h
  · cases h
theorem okPl (G : Gd g cf sc X) {st : Stmt} (h : cPl g X.N sc st = true) : PS X st (tC2 X cf) := by
  unfold cPl at h
  split at h
  · rename_i t e p hv
    have e0 := vAsg_of hv
    subst e0
    simp only [Bool.and_eq_true] at h
    obtain ⟨x, px, rfl, a1, a2⟩ := tgB_of h.1.1
    exact ps_set G.nd a1 (G.rel.loc x a2) ((okE pE G h.2).pe false) (no_swap h.1.2) (G.fs x a2)
  · cases h
theorem okRl (G : Gd g cf sc X) {l : List Stmt} (h : cRl g X.N sc l = true) : PSs X l (tSeq (tC1 X cf) (tSeq (tC2 X cf) (tSeq (tC3 X cf) (tC4 X cf)))) := by
  unfold cRl at h
  split at h
  · simp only [Bool.and_eq_true] at h
    exact pss_cons (okGet G h.1.1.1) (pss_cons (okPl G h.1.1.2) (pss_cons (okSt G h.1.2) (pss_one (okPut G h.2))))
  · cases h
theorem okBt (G : Gd g cf sc X) (hp : PassesOwn (model X.prog X.w) X.A X.env X.xe) {l : List Stmt} (h : cBt g X.N sc l = true) : PSs X l (tSeq (tB1 X cf) (tSeq (tB2 X cf) (tB3 X cf))) := by
  unfold cBt at h
  split at h
  · rename_i b1 b2 b3
    rw [Bool.and_eq_true, Bool.and_eq_true] at h
    obtain ⟨⟨h1, h2⟩, h⟩ := h
    split at h
    · rename_i te ie lb hv
      obtain ⟨p, rfl⟩ := vFor_of hv
      simp only [Bool.and_eq_true] at h
      exact pss_cons (okGet G h1) (pss_cons (okPut G h2) (pss_one (ps_for hp G.calm ((okI itR G h.1.1.2).pi false) (tg_pg G h.1.1.1) (okRl G h.2) (no_fold h.1.2))))
    · cases h
  · cases h
theorem okEl (G : Gd g cf sc X) {e : Expr} (h : cEl g X.N sc e = true) : PE X e (tElt X cf) := by
  have hu := G.hu
  unfold cEl at h
  split at h
  · rename_i x e1 hv
    obtain ⟨p, q, rfl⟩ := vCall_of hv
    rw [Bool.and_eq_true, Bool.and_eq_true, Bool.and_eq_true] at h
    obtain ⟨⟨⟨h1, h2⟩, h3⟩, h⟩ := h
    have h1' := of_decide_eq_true h1
    subst h1'
    split at h
    · rename_i o e2 hs
      obtain ⟨sp, rfl⟩ := vSub_of hs
      simp only [Bool.and_eq_true] at h
      obtain ⟨g1, g2⟩ := glOk_of G h2
      exact pe_callTy cu_tuple g1 g2 (by decide +kernel) (pa_cons (pe_dget (by omega) (nm_slot G h.1.1) ((okE (.nm 4) G h.2).pe false) (fun ov iv => plain_ix h.1.2 ov iv)) pa_nil (star_cons h3)) (by decide) (by decide) (star_cons h3)
    · cases h
  · cases h
theorem okWalk (G : Gd g cf sc X) (hp : PassesOwn (model X.prog X.w) X.A X.env X.xe) {l : List Stmt} (h : cWalk g X.N sc l = true) : PSs X l (tSeq (tA1 X cf) (tSeq (tA2 X cf) (tA3 X cf))) := by
  unfold cWalk at h
  split at h
  · rename_i s1 s2 s3
    rw [Bool.and_eq_true, Bool.and_eq_true] at h
    obtain ⟨⟨h1, h2⟩, h3⟩ := h
    have p1 : PS X s1 (tA1 X cf) := by
      split at h1
      · rename_i t e p hv
        rw [Bool.and_eq_true] at h1
        obtain ⟨a1, h1⟩ := h1
        split at h1
        · rename_i k0 e0 hd
          have ee := vAsg_of hv
          subst ee
          obtain ⟨x, px, rfl, b1, b2⟩ := tgB_of a1
          obtain ⟨dp, rfl⟩ := vDict1_of hd
          rw [Bool.and_eq_true] at h1
          obtain ⟨j, cp, rfl⟩ := vConst_of (of_decide_eq_true h1.1)
          exact ps_set G.nd b1 (G.rel.loc x b2) (pe_disp (pps_cons pe_int ((okE (.un .list (.nm 1)) G h1.2).pe false) pps_nil) rfl rfl (by simp) (by simp)) rfl (G.fs x b2)
        · cases h1
      · cases h1
    have p2 : PS X s2 (tA2 X cf) := by
      split at h2
      · rename_i te ie lb hv
        obtain ⟨p, rfl⟩ := vFor_of hv
        simp only [Bool.and_eq_true] at h2
        exact ps_for hp G.calm ((okI itB G h2.1.1.2).pi false) (tg_pg G h2.1.1.1) (okBt G hp h2.2) (no_fold h2.1.2)
      · cases h2
    have p3 : PS X s3 (tA3 X cf) := by
      split at h3
      · rename_i e hv
        obtain ⟨p, rfl⟩ := vRet_of hv
        split at h3
        · rename_i e1 t i ifs s hl
          obtain ⟨lp, rfl⟩ := vLc_of hl
          simp only [Bool.and_eq_true] at h3
          obtain ⟨⟨⟨⟨⟨k1, k2⟩, k3⟩, k4⟩, k5⟩, k6⟩ := h3
          have := pe_lc (pos := lp) (own := ownP X.N [4]) (g := gT X.K (.n 4)) (tt := rdCond X cf .no) (te := tElt X cf) G.calm G.nd ((okI itB G k4).pi true) (blkOk_rel G.rel k1) (fun s' H' C cl fp => tg_pg (G.blk s' H' C cl fp) k3)
            (fun s' H' C cl fp => okC .no (G.blk s' H' C cl fp) k5) (fun s' H' C cl fp => okEl (G.blk s' H' C cl fp) k6) (no_fold k2)
          rw [ownP_snd] at this
          exact ps_ret this
        · cases h3
      · cases h3
    exact pss_cons p1 (pss_cons p2 (pss_one p3))
  · cases h
end
/-! ### what it gives, of data -/
def pStrs : List D → Option (List Str)
  | [] => some []
  | .str x :: r => (pStrs r).map (x :: ·)
  | _ => none
def pRules : List D → Option (List Rl)
  | [] => some []
  | .tuple [.str a, .int t, .str b, .int m] :: r => if 1 ≤ t then (pRules r).map (⟨a, t.toNat, b, m⟩ :: ·) else none
  | _ => none
theorem pStrs_of : ∀ {l : List D} {ks : List Str}, pStrs l = some ks → l = ks.map .str
  | [], _, h => by cases h; rfl
  | x :: r, ks, h => by
    cases x <;> simp only [pStrs] at h <;> try (cases h; done)
    obtain ⟨k, h1, rfl⟩ := Option.map_eq_some_iff.mp h
    rw [pStrs_of h1]
    rfl
theorem pStrs_map : ∀ ks : List Str, pStrs (ks.map .str) = some ks
  | [] => rfl
  | k :: ks => by
    rw [List.map_cons]
    unfold pStrs
    rw [pStrs_map ks]
    rfl
theorem pRules_of : ∀ {l : List D} {rs : List Rl}, pRules l = some rs → l = rs.map Rl.d ∧ ∀ r ∈ rs, 1 ≤ r.t
  | [], _, h => by cases h; exact ⟨rfl, by simp⟩
  | x :: r, rs, h => by
    unfold pRules at h
    split at h
    · rename_i e; cases e
    · rename_i a t b m r' e
      cases e
      split at h
      · rename_i ht
        obtain ⟨k, h1, rfl⟩ := Option.map_eq_some_iff.mp h
        obtain ⟨e1, e2⟩ := pRules_of h1
        refine ⟨?_, fun z hz => ?_⟩
        · rw [e1, List.map_cons]
          have : ((t.toNat : Nat) : Int) = t := by omega
          simp only [Rl.d, this]
        · rcases List.mem_cons.mp hz with rfl | hz
          · show 1 ≤ t.toNat
            omega
          · exact e2 z hz
      · cases h
    · cases h
theorem pRules_map : ∀ {rs : List Rl}, (∀ r ∈ rs, 1 ≤ r.t) → pRules (rs.map Rl.d) = some rs
  | [], _ => rfl
  | r :: rs, h => by
    rw [List.map_cons]
    have h1 := h r List.mem_cons_self
    show (if 1 ≤ ((r.t : Nat) : Int) then (pRules (rs.map Rl.d)).map (⟨r.a, ((r.t : Nat) : Int).toNat, r.b, r.m⟩ :: ·) else none) = _
    rw [if_pos (by omega), pRules_map fun z hz => h z (List.mem_cons_of_mem _ hz)]
    rfl
theorem toInts_of : ∀ {l : List D} {L : List Int}, toInts l = some L → l = L.map .int
  | [], _, h => by cases h; rfl
  | x :: r, L, h => by
    cases x <;> simp only [toInts] at h <;> try (cases h; done)
    obtain ⟨k, h1, rfl⟩ := Option.map_eq_some_iff.mp h
    rw [toInts_of h1]
    rfl
def rsB (ks : List Str) (rs : List Rl) : Bool := ks.all PyData.strOk && decide (ks.length ≤ 1000) && decide (rs.length ≤ 1000) && rs.all fun r => decide (r.a ∈ ks) && decide (r.b ∈ ks) && decide (r.m.natAbs < 2 ^ 64) && decide (1 ≤ r.t)
theorem rsB_of {ks : List Str} {rs : List Rl} (h : rsB ks rs = true) : RsOk ks rs := by
  unfold rsB at h
  simp only [Bool.and_eq_true, List.all_eq_true, decide_eq_true_eq] at h
  exact ⟨h.1.1.1, h.1.1.2, h.1.2, fun r hr => ⟨(h.2 r hr).1.1.1, (h.2 r hr).1.1.2, (h.2 r hr).1.2, (h.2 r hr).2⟩⟩
def natWalk : List D → Option RV
  | [.tuple [.tuple kd, .tuple rd], .tuple st, .int far] => (pStrs kd).bind fun ks => (pRules rd).bind fun rs => (toInts st).bind fun L =>
    if rsB ks rs && decide (L.length = ks.length) && decide (0 ≤ far) && decide (far ≤ 100000) && decide ((far.toNat + 2) * (rs.length + 1) + 3000 < 1000000) then some (.dat (outD ks rs (fun j => L.getD j 0) far.toNat)) else none
  | _ => none
theorem vec_of {L : List Int} : L.map PyData.int = vec L.length fun j => L.getD j 0 := by
  refine List.ext_getElem? fun k => ?_
  by_cases hk : k < L.length
  · rw [vec_get hk, List.getElem?_map, List.getElem?_eq_getElem hk, List.getD_eq_getElem?_getD, List.getElem?_eq_getElem hk]
    rfl
  · rw [List.getElem?_eq_none (by rw [List.length_map]; omega), List.getElem?_eq_none (by rw [vec_length]; omega)]
theorem walk_nat {g : G} {sc : Scope} {N : List Str} {l : List Stmt} (hN : N.length = 12) (h : cWalk g N sc l = true) : NatBody g sc N l natWalk := by
  intro X cf G eN hp
  subst eN
  refine (okWalk G hp h).mono fun En σ H ⟨P, vs, ds, r, hf, es, da, ev, q⟩ => ?_
  unfold natWalk at ev
  split at ev
  · rename_i kd rd st far
    obtain ⟨ks, e1, ev⟩ := Option.bind_eq_some_iff.mp ev
    obtain ⟨rs, e2, ev⟩ := Option.bind_eq_some_iff.mp ev
    obtain ⟨L, e3, ev⟩ := Option.bind_eq_some_iff.mp ev
    split at ev
    · rename_i hc
      cases ev
      simp only [Bool.and_eq_true, decide_eq_true_eq] at hc
      obtain ⟨⟨⟨⟨c1, c2⟩, c3⟩, c4⟩, c5⟩ := hc
      have k1 := pStrs_of e1
      have k2 := (pRules_of e2).1
      have k3 := toInts_of e3
      subst k1 k2 k3
      obtain ⟨n, rfl⟩ : ∃ n : Nat, far = (n : Nat) := ⟨far.toNat, by omega⟩
      rw [Int.toNat_natCast] at c5
      rw [Int.toNat_natCast] at q
      rw [vec_of, c2] at da
      subst es
      have R0 := R.start (prog := X.prog) (w := X.w) (K := X.K) (fd := ⟨3, 12, .nil, none⟩) (N := X.N) (by show 12 = X.N.length; omega) hf da
      exact walk_body (s := fun j => L.getD j 0) (rsB_of c1) c5 (by omega) R0 G.hu fun v H' sm dv => q v H' sm dv
    · cases ev
  · cases ev
end Bw

/-! plain, part 3: the laws' own helpers: cells, draws, kinds. -/
namespace Bw
open PySem

section
variable {T : Nat → Option FD} {M k : Nat} {ks : List Str} {rs : List Rl}
theorem scr_get {ns : List Int} {j : Nat} (h : j < ns.length) : ∃ c, binF .idx (scrD ns) (.int (j : Nat)) = some (.int c) := by
  refine ⟨ns[j], ?_⟩
  unfold scrD
  rw [b_idxD, atI_nat, List.getElem?_map, List.getElem?_eq_getElem h]
  rfl
theorem call_cell (h6 : T 6 = some f_law_cell) (ns : List Int) (at_ : Nat) (ha : at_ ≤ 1000) : ∃ c, callF T M (k + 1) 6 [scrD ns, .int (at_ : Nat)] = some (.dat (.int c)) := by
  let ρ : Env := [some (.dat (scrD ns)), some (.dat (.int (at_ : Nat)))]
  have elen : ∀ {cf : Nat → List D → Option RV} {b : Bool}, evE cf (.un .len (.nm 0)) b ρ = some (.int (ns.length : Nat)) := fun {cf b} => un_run (nm_run rfl) (by unfold scrD; rw [u_lenD, List.length_map])
  by_cases h : at_ < ns.length
  · obtain ⟨c, hc⟩ := scr_get h
    refine ⟨c, call_run h6 rfl (ρ' := ρ) (ss_rt (ifs_t (c := .bin .lt (.nm 1) (.un .len (.nm 0))) ?_ (ss_rt (ret_run (bin_run (nm_run rfl) (nm_run rfl) hc)))))⟩
    exact bin_run (nm_run rfl) elen (by rw [b_lt]; congr 2; exact decide_eq_true (by omega))
  · have c1 : ∀ {cf : Nat → List D → Option RV}, evE cf (.bin .lt (.nm 1) (.un .len (.nm 0))) false ρ = some (.bool false) := fun {cf} => bin_run (nm_run rfl) elen (by rw [b_lt]; congr 2; exact decide_eq_false (by omega))
    by_cases h0 : ns.length = 0
    · have c2 : ∀ {cf : Nat → List D → Option RV}, evE cf (.bin .eq (.un .len (.nm 0)) (.cst (.int 0))) false ρ = some (.bool true) := fun {cf} => bin_run elen cst_run (by rw [h0]; rfl)
      exact ⟨_, call_run h6 rfl (ρ' := ρ) (ss_nx (ifs_f c1 ss_nil) (ss_rt (ifs_t c2 (ss_rt (ret_run (bin_run (bin_run cst_run (nm_run rfl) (mul_run (.inl (by decide)))) cst_run rfl))))))⟩
    · have c2 : ∀ {cf : Nat → List D → Option RV}, evE cf (.bin .eq (.un .len (.nm 0)) (.cst (.int 0))) false ρ = some (.bool false) := fun {cf} => bin_run elen cst_run (by
        show some (PyData.bool (((ns.length : Nat) : Int) == 0)) = _
        have : (((ns.length : Nat) : Int) == 0) = false := beq_eq_false_iff_ne.mpr (by omega)
        rw [this])
      have hm : at_ % ns.length < ns.length := Nat.mod_lt _ (by omega)
      obtain ⟨c, hc⟩ := scr_get hm
      have em : ((at_ : Nat) : Int) % ((ns.length : Nat) : Int) = ((at_ % ns.length : Nat) : Int) := by simp
      have hmod : binF .mod (.int (at_ : Nat)) (.int (ns.length : Nat)) = some (.int ((at_ % ns.length : Nat) : Int)) := by rw [mod_run (show (0 : Int) < (ns.length : Nat) from by omega), em]
      exact ⟨_, call_run h6 rfl (ρ' := ρ) (ss_nx (ifs_f c1 ss_nil) (ss_nx (ifs_f c2 ss_nil) (ss_rt (ret_run (bin_run (bin_run (bin_run (nm_run rfl) (bin_run (nm_run rfl) elen hmod) hc) cst_run (mod_run (by decide))) (bin_run cst_run (nm_run rfl) (mul_run (.inl (by decide)))) rfl)))))⟩
def primesD : List D := [.int 2147483647, .int 2147483629, .int 2147483587, .int 2147483579, .int 2147483563, .int 2147483549, .int 2147483543, .int 2147483497]
theorem prime_at (e : Nat) : ∃ p : Int, binF .idx (.tuple primesD) (.int ((e % 8 : Nat) : Int)) = some (.int p) ∧ 0 < p ∧ p < 2 ^ 31 := by
  have h : e % 8 < 8 := Nat.mod_lt _ (by decide)
  generalize e % 8 = j at h
  match j, h with
  | 0, _ => exact ⟨2147483647, rfl, by decide, by decide⟩
  | 1, _ => exact ⟨2147483629, rfl, by decide, by decide⟩
  | 2, _ => exact ⟨2147483587, rfl, by decide, by decide⟩
  | 3, _ => exact ⟨2147483579, rfl, by decide, by decide⟩
  | 4, _ => exact ⟨2147483563, rfl, by decide, by decide⟩
  | 5, _ => exact ⟨2147483549, rfl, by decide, by decide⟩
  | 6, _ => exact ⟨2147483543, rfl, by decide, by decide⟩
  | 7, _ => exact ⟨2147483497, rfl, by decide, by decide⟩
theorem mod8 (e : Nat) : ∀ {i : Int}, i = (e : Nat) → binF .mod (.int i) (.int 8) = some (.int ((e % 8 : Nat) : Int)) := fun {i} h => by
  subst h
  rw [mod_run (by decide)]
  simp
theorem small_mod {i p : Int} (h : 0 < p) (h2 : p < 2 ^ 31) : (i % p).natAbs < 2 ^ 64 := by
  have h1 := Int.emod_nonneg i (show p ≠ 0 by omega)
  have h3 := Int.emod_lt_of_pos i h
  omega
/-- many draws, each a whole number from 0 on, below 27720 -/
theorem call_draws (h6 : T 6 = some f_law_cell) (h7 : T 7 = some f_law_draws) (ns : List Int) (at_ : Nat) (ha : at_ ≤ 1000) (many : Nat) (hm : many ≤ 1000) :
    ∃ L : List Int, L.length = many ∧ (∀ x ∈ L, 0 ≤ x ∧ x < 27720) ∧ callF T M (k + 2) 7 [scrD ns, .int (at_ : Nat), .int (many : Nat), .int 27720] = some (.own (L.map .int)) := by
  obtain ⟨c, hc⟩ := call_cell (T := T) (M := M) (k := k) h6 ns at_ ha
  let I : Nat → Env → Prop := fun i ρ => ∃ (L : List Int) (rest : Int) (x8 x9 : Option SV), L.length = i ∧ (∀ x ∈ L, 0 ≤ x ∧ x < 27720) ∧
    ρ = [some (.dat (scrD ns)), some (.dat (.int (at_ : Nat))), some (.dat (.int (many : Nat))), some (.dat (.int 27720)), some (.dat (.tuple primesD)), some (.dat (.int c)), some (.dat (.int rest)), some (.own (L.map .int)), x8, x9]
  have loop := for_num (f := fun d ρ => (bindT (.n 8) d ρ).bind fun ρ' => evSs (callF T M (k + 1)) M (.cons (.asg 9 (.d (.bin .mul (.bin .mod (.nm 5) (.bin .idx (.nm 4) (.bin .mod (.nm 8) (.cst (.int 8))))) (.bin .add (.cst (.int 48271)) (.bin .mul (.bin .mul (.cst (.int 2)) (.nm 8)) (.nm 8)))))) (.cons (.asg 9 (.d (.bin .add (.bin .add (.nm 9) (.bin .mul (.bin .mul (.cst (.int 7919)) (.bin .add (.nm 8) (.cst (.int 1)))) (.bin .add (.nm 8) (.cst (.int 1))))) (.bin .mul (.cst (.int 104729)) (.nm 1))))) (.cons (.asg 9 (.d (.bin .mod (.nm 9) (.bin .idx (.nm 4) (.bin .mod (.bin .add (.bin .mul (.cst (.int 3)) (.nm 8)) (.nm 1)) (.cst (.int 8))))))) (.cons (.asg 9 (.d (.bin .mod (.bin .mul (.bin .mul (.nm 9) (.nm 9)) (.nm 9)) (.bin .idx (.nm 4) (.bin .mod (.bin .add (.nm 8) (.cst (.int 5))) (.cst (.int 8))))))) (.cons (.ifs (.bin .gt (.nm 6) (.cst (.int 0))) (.cons (.asg 9 (.d (.nm 6))) .nil) .nil) (.cons (.app 7 (.bin .mod (.nm 9) (.nm 3))) (.cons (.asg 6 (.d (.bin .fdiv (.nm 6) (.nm 3)))) .nil))))))) ρ')
    (fun i => .int (i : Nat)) I many (fun i ρ hi ⟨L, rest, x8, x9, hl, hr, e⟩ => by
      subst e
      obtain ⟨p1, e1, q1, r1⟩ := prime_at i
      obtain ⟨p2, e2, q2, r2⟩ := prime_at (3 * i + at_)
      obtain ⟨p3, e3, q3, r3⟩ := prime_at (i + 5)
      have s1 := small_mod (i := c) q1 r1
      generalize hm1 : c % p1 * (48271 + 2 * (i : Int) * (i : Int)) = m1
      generalize hm2 : m1 + 7919 * ((i : Int) + 1) * ((i : Int) + 1) + 104729 * (at_ : Int) = m2
      have s2 := small_mod (i := m2) q2 r2
      generalize hm3 : m2 % p2 = m3 at s2
      generalize hm4 : m3 * m3 * m3 % p3 = m4
      let ρ0 : Nat → Int → List D → Int → Int → Env := fun i rest row m _ => [some (.dat (scrD ns)), some (.dat (.int (at_ : Nat))), some (.dat (.int (many : Nat))), some (.dat (.int 27720)), some (.dat (.tuple primesD)), some (.dat (.int c)), some (.dat (.int rest)), some (.own row), some (.dat (.int (i : Nat))), some (.dat (.int m))]
      let m5 : Int := if 0 < rest then rest else m4
      refine ⟨ρ0 i (rest / 27720) (L.map PyData.int ++ [.int (m5 % 27720)]) m5 0, ?_, L ++ [m5 % 27720], rest / 27720, some (.dat (.int (i : Nat))), some (.dat (.int m5)), by simp [hl], fun x hx => ?_, by simp [ρ0]⟩
      · show evSs _ M _ [some (.dat (scrD ns)), some (.dat (.int (at_ : Nat))), some (.dat (.int (many : Nat))), some (.dat (.int 27720)), some (.dat (.tuple primesD)), some (.dat (.int c)), some (.dat (.int rest)), some (.own (L.map .int)), some (.dat (.int (i : Nat))), x9] = _
        refine ss_nx (ρ' := ρ0 i rest (L.map .int) m1 0) (asg_run (d := .int m1) (bin_run (bin_run (nm_run rfl) (bin_run (nm_run rfl) (bin_run (nm_run rfl) cst_run (mod8 i rfl)) e1) (mod_run q1)) (bin_run cst_run (bin_run (bin_run cst_run (nm_run rfl) (mul_run (.inl (by decide)))) (nm_run rfl) (mul_run (.inr (by omega)))) rfl) ?_)) ?_
        · rw [← hm1]
          exact mul_run (.inl s1)
        refine ss_nx (ρ' := ρ0 i rest (L.map .int) m2 0) (asg_run (d := .int m2) (bin_run (bin_run (nm_run rfl) (bin_run (bin_run cst_run (bin_run (nm_run rfl) cst_run rfl) (mul_run (.inl (by decide)))) (bin_run (nm_run rfl) cst_run rfl) (mul_run (.inr ?_))) rfl) (bin_run cst_run (nm_run rfl) (mul_run (.inl (by decide)))) ?_)) ?_
        · show (((i : Nat) : Int) + 1).natAbs < 2 ^ 64
          omega
        · rw [← hm2]; rfl
        have em2 : (3 * ((i : Nat) : Int) + ((at_ : Nat) : Int)) = ((3 * i + at_ : Nat) : Int) := by omega
        refine ss_nx (ρ' := ρ0 i rest (L.map .int) m3 0) (asg_run (d := .int m3) (bin_run (nm_run rfl) (bin_run (nm_run rfl) (bin_run (bin_run (bin_run cst_run (nm_run rfl) (mul_run (.inl (by decide)))) (nm_run rfl) rfl) cst_run (mod8 (3 * i + at_) em2)) e2) (by rw [← hm3]; exact mod_run q2))) ?_
        have em3 : (((i : Nat) : Int) + 5) = ((i + 5 : Nat) : Int) := by omega
        refine ss_nx (ρ' := ρ0 i rest (L.map .int) m4 0) (asg_run (d := .int m4) (bin_run (bin_run (bin_run (nm_run rfl) (nm_run rfl) (mul_run (.inl s2))) (nm_run rfl) (mul_run (.inr s2))) (bin_run (nm_run rfl) (bin_run (bin_run (nm_run rfl) cst_run rfl) cst_run (mod8 (i + 5) em3)) e3) (by rw [← hm4]; exact mod_run q3))) ?_
        refine ss_nx (ρ' := ρ0 i rest (L.map .int) m5 0) ?_ ?_
        · by_cases hr0 : 0 < rest
          · rw [show m5 = rest from if_pos hr0]
            exact ifs_t (bin_run (nm_run rfl) cst_run (by show some (PyData.bool (decide (0 < rest))) = _; rw [decide_eq_true hr0])) (ss_nx (asg_run (nm_run rfl)) ss_nil)
          · rw [show m5 = m4 from if_neg hr0]
            exact ifs_f (bin_run (nm_run rfl) cst_run (by show some (PyData.bool (decide (0 < rest))) = _; rw [decide_eq_false hr0])) ss_nil
        refine ss_nx (ρ' := ρ0 i rest (L.map PyData.int ++ [.int (m5 % 27720)]) m5 0) (app_run (bin_run (nm_run rfl) (nm_run rfl) (mod_run (by decide))) rfl (by rw [List.length_map]; omega)) ?_
        exact ss_nx (asg_run (bin_run (nm_run rfl) (nm_run rfl) (fdiv_run (by decide) (by decide)))) ss_nil
      · rcases List.mem_append.mp hx with hx | hx
        · exact hr x hx
        · rw [List.mem_singleton.mp hx]
          exact ⟨Int.emod_nonneg _ (by decide), Int.emod_lt_of_pos _ (by decide)⟩) many 0
  obtain ⟨rest, hrest⟩ : ∃ rest : Int, ∀ {cf : Nat → List D → Option RV}, evS cf M (.ifs (.bin .ge (.nm 5) (.bin .pow (.cst (.int 10)) (.cst (.int 18)))) (.cons (.asg 6 (.d (.nm 5))) .nil) .nil)
      [some (.dat (scrD ns)), some (.dat (.int (at_ : Nat))), some (.dat (.int (many : Nat))), some (.dat (.int 27720)), some (.dat (.tuple primesD)), some (.dat (.int c)), some (.dat (.int 0)), none, none, none] =
      some (.nx [some (.dat (scrD ns)), some (.dat (.int (at_ : Nat))), some (.dat (.int (many : Nat))), some (.dat (.int 27720)), some (.dat (.tuple primesD)), some (.dat (.int c)), some (.dat (.int rest)), none, none, none]) := by
    have ep : binF .pow (.int 10) (.int 18) = some (.int (10 ^ 18)) := by
      rw [b_pow, if_pos (by decide)]
      rfl
    by_cases hc0 : (10 ^ 18 : Int) ≤ c
    · exact ⟨c, fun {cf} => ifs_t (bin_run (nm_run rfl) (bin_run cst_run cst_run ep) (by rw [b_ge]; congr 2; exact decide_eq_true hc0)) (ss_nx (asg_run (nm_run rfl)) ss_nil)⟩
    · exact ⟨0, fun {cf} => ifs_f (bin_run (nm_run rfl) (bin_run cst_run cst_run ep) (by rw [b_ge]; congr 2; exact decide_eq_false hc0)) ss_nil⟩
  obtain ⟨ρ2, e2, L, rest2, x8, x9, hl, hr, e3⟩ := loop _ (by omega) (show I 0 [some (.dat (scrD ns)), some (.dat (.int (at_ : Nat))), some (.dat (.int (many : Nat))), some (.dat (.int 27720)), some (.dat (.tuple primesD)), some (.dat (.int c)), some (.dat (.int rest)), some (.own []), none, none] from ⟨[], rest, none, none, rfl, by simp, rfl⟩)
  subst e3
  rw [← List.range_eq_range'] at e2
  refine ⟨L, hl, hr, call_run h7 rfl (ρ' := [some (.dat (scrD ns)), some (.dat (.int (at_ : Nat))), some (.dat (.int (many : Nat))), some (.dat (.int 27720)), some (.dat (.tuple primesD)), some (.dat (.int c)), some (.dat (.int rest2)), some (.own (L.map .int)), x8, x9]) (ss_nx (asg_run (d := .tuple primesD) (tup_run (es_cons cst_run (es_cons cst_run (es_cons cst_run (es_cons cst_run (es_cons cst_run (es_cons cst_run (es_cons cst_run (es_cons cst_run es_nil)))))))) (by decide)))
    (ss_nx (asg_run (call_e (es_cons (nm_run rfl) (es_cons (nm_run rfl) es_nil)) hc rfl)) (ss_nx (asg_run cst_run) (ss_nx hrest (ss_nx (asgO_run (lst_run es_nil (by decide))) (ss_nx (fr_run (it_rng (nm_run rfl) (by omega)) e2) (ss_rt ?_)))))))⟩
  unfold evS
  rfl
end
end Bw

/-! plain, part 4: books by digits. -/
namespace Bw
open PySem

def names5 : List Str := ["ash", "bay", "cod", "dew", "elm"]
def kn (n : Nat) : List Str := names5.take n
theorem names_ok : ∀ x ∈ names5, PyData.strOk x = true := by decide +kernel
theorem names_nd : names5.Nodup := by decide +kernel
theorem kn_len {n : Nat} (h : n ≤ 5) : (kn n).length = n := by
  unfold kn
  rw [List.length_take]
  exact Nat.min_eq_left h
theorem kn_ok {n : Nat} : ∀ x ∈ kn n, PyData.strOk x = true := fun x hx => names_ok x (List.mem_of_mem_take hx)
theorem kn_nd {n : Nat} : (kn n).Nodup := (List.take_sublist n names5).nodup names_nd
structure Ky where
  a : Str
  t : Nat
  b : Str
  deriving DecidableEq
def Ky.d (k : Ky) : D := .tuple [.str k.a, .int k.t, .str k.b]
structure KyOk (ks : List Str) (k : Ky) : Prop where
  inA : k.a ∈ ks
  inB : k.b ∈ ks
  t1 : 1 ≤ k.t ∧ k.t ≤ 4
abbrev Found := List (Ky × Int)
def fD (E : Found) : List (D × D) := E.map fun e => (e.1.d, .int e.2)
theorem ky_eqv (k l : Ky) : PyData.eqv k.d l.d = decide (k = l) := by
  show ((k.a == l.a) && (((k.t : Int) == (l.t : Int)) && ((k.b == l.b) && true))) = _
  cases k with
  | mk a t b =>
    cases l with
    | mk a' t' b' =>
      simp only [Ky.mk.injEq, Bool.and_true]
      by_cases h1 : a = a' <;> by_cases h2 : t = t' <;> by_cases h3 : b = b' <;> simp [h1, h2, h3] <;> omega
theorem ky_fit (k : Ky) : keyFit true k.d = true := by
  simp [Ky.d, keyFit, keyOkAll, keyOk, PyData.depth, PyData.depthAll]
theorem look_f : ∀ {E : Found} {k : Ky}, k ∈ E.map (·.1) → ∃ m, (k, m) ∈ E ∧ dLook (fD E) k.d = some (.int m)
  | [], _, h => by cases h
  | e :: E, k, h => by
    by_cases hk : e.1 = k
    · refine ⟨e.2, by rw [← hk]; exact List.mem_cons_self, ?_⟩
      show (if PyData.eqv e.1.d k.d then some (PyData.int e.2) else _) = _
      rw [ky_eqv, decide_eq_true hk, if_pos rfl]
    · have hm : k ∈ E.map (·.1) := (List.mem_cons.mp h).resolve_left fun z => hk z.symm
      obtain ⟨m, h1, h2⟩ := look_f hm
      refine ⟨m, List.mem_cons_of_mem _ h1, ?_⟩
      show (if PyData.eqv e.1.d k.d then some (PyData.int e.2) else dLook (fD E) k.d) = _
      rw [ky_eqv, decide_eq_false hk, if_neg Bool.false_ne_true, h2]
def ePut : Found → Ky → Int → Found
  | [], k, m => [(k, m)]
  | e :: E, k, m => if e.1 = k then (e.1, m) :: E else e :: ePut E k m
theorem put_f : ∀ (E : Found) (k : Ky) (m : Int), dPut (fD E) k.d (.int m) = fD (ePut E k m)
  | [], k, m => rfl
  | e :: E, k, m => by
    show (if PyData.eqv e.1.d k.d then (e.1.d, PyData.int m) :: fD E else (e.1.d, PyData.int e.2) :: dPut (fD E) k.d (.int m)) = fD (if e.1 = k then (e.1, m) :: E else e :: ePut E k m)
    rw [ky_eqv, put_f E k m]
    by_cases hk : e.1 = k
    · rw [decide_eq_true hk, if_pos rfl, if_pos hk]; rfl
    · rw [decide_eq_false hk, if_neg Bool.false_ne_true, if_neg hk]; rfl
theorem put_mem : ∀ {E : Found} {k : Ky} {m : Int} {e : Ky × Int}, e ∈ ePut E k m → e ∈ E ∨ e = (k, m)
  | [], k, m, e, h => .inr (by simpa [ePut] using h)
  | x :: E, k, m, e, h => by
    unfold ePut at h
    split at h
    · rename_i hk
      rcases List.mem_cons.mp h with h | h
      · exact .inr (by rw [h, hk])
      · exact .inl (List.mem_cons_of_mem _ h)
    · rcases List.mem_cons.mp h with h | h
      · exact .inl (by rw [h]; exact List.mem_cons_self)
      · exact (put_mem h).imp_left (List.mem_cons_of_mem _)
theorem put_len : ∀ (E : Found) (k : Ky) (m : Int), (ePut E k m).length ≤ E.length + 1
  | [], _, _ => Nat.le_refl _
  | x :: E, k, m => by
    unfold ePut
    split
    · simp
    · have := put_len E k m
      simp only [List.length_cons]
      omega
theorem put_nd : ∀ {E : Found} {k : Ky} {m : Int}, (E.map (·.1)).Nodup → ((ePut E k m).map (·.1)).Nodup
  | [], k, m, _ => by simp [ePut]
  | x :: E, k, m, h => by
    rw [List.map_cons, List.nodup_cons] at h
    unfold ePut
    split
    · rw [List.map_cons, List.nodup_cons]; exact h
    · rename_i hk
      rw [List.map_cons, List.nodup_cons]
      refine ⟨fun z => ?_, put_nd h.2⟩
      obtain ⟨e, he, e1⟩ := List.mem_map.mp z
      rcases put_mem he with he | he
      · exact h.1 (by rw [← e1]; exact List.mem_map_of_mem he)
      · rw [he] at e1
        exact hk e1.symm
def eDrop : Found → Ky → Found
  | [], _ => []
  | e :: E, k => if e.1 = k then E else e :: eDrop E k
theorem drop_f : ∀ (E : Found) (k : Ky), dDrop (fD E) k.d = fD (eDrop E k)
  | [], k => rfl
  | e :: E, k => by
    show (if PyData.eqv e.1.d k.d then fD E else (e.1.d, PyData.int e.2) :: dDrop (fD E) k.d) = fD (if e.1 = k then E else e :: eDrop E k)
    rw [ky_eqv, drop_f E k]
    by_cases hk : e.1 = k
    · rw [decide_eq_true hk, if_pos rfl, if_pos hk]
    · rw [decide_eq_false hk, if_neg Bool.false_ne_true, if_neg hk]; rfl
theorem drop_sub : ∀ (E : Found) (k : Ky), (eDrop E k).Sublist E
  | [], _ => List.Sublist.refl _
  | e :: E, k => by
    unfold eDrop
    split
    · exact List.sublist_cons_self _ _
    · exact (drop_sub E k).cons₂ _
theorem drop_keep : ∀ {E : Found} {k l : Ky}, l ≠ k → l ∈ E.map (·.1) → l ∈ (eDrop E k).map (·.1)
  | [], _, _, _, h => by cases h
  | e :: E, k, l, hl, h => by
    unfold eDrop
    split
    · rename_i hk
      exact (List.mem_cons.mp h).resolve_left fun z => hl (z.trans hk)
    · rcases List.mem_cons.mp h with h | h
      · rw [List.map_cons, h]; exact List.mem_cons_self
      · rw [List.map_cons]; exact List.mem_cons_of_mem _ (drop_keep hl h)
/-! sorting the keys -/
def unKy : D → Ky
  | .tuple [.str a, .int t, .str b] => ⟨a, t.toNat, b⟩
  | _ => ⟨Str.empty, 0, Str.empty⟩
theorem un_ky (k : Ky) : unKy k.d = k := by
  cases k
  simp [unKy, Ky.d]
theorem ky_lay {ks : List Str} (hk : ∀ x ∈ ks, PyData.strOk x = true) {k : Ky} (h : KyOk ks k) : k.d.canLay0 = true := by
  simp [Ky.d, PyData.canLay0, PyData.canLayAll0, hk _ h.inA, hk _ h.inB]
theorem keys_lay : ∀ {Ks : List Ky}, (∀ k ∈ Ks, k.d.canLay0 = true) → PyData.canLayAll0 (Ks.map Ky.d) = true ∧ PyData.depthAll (Ks.map Ky.d) ≤ 1
  | [], _ => ⟨rfl, by simp [PyData.depthAll]⟩
  | k :: Ks, h => by
    obtain ⟨h1, h2⟩ := keys_lay (Ks := Ks) fun x hx => h x (List.mem_cons_of_mem _ hx)
    rw [List.map_cons]
    refine ⟨by simp only [PyData.canLayAll0, h k List.mem_cons_self, h1, Bool.and_self], ?_⟩
    show max k.d.depth (PyData.depthAll (Ks.map Ky.d)) ≤ 1
    have : k.d.depth = 1 := by simp [Ky.d, PyData.depth, PyData.depthAll]
    omega
theorem sort_keys {Ks : List Ky} (h : ∀ k ∈ Ks, k.d.canLay0 = true) : ∃ Ls : List Ky, Ls.Perm Ks ∧ unF .sorted (.list (Ks.map Ky.d)) = some (.list (Ls.map Ky.d)) := by
  obtain ⟨h1, h2⟩ := keys_lay h
  have pm : (sortD (Ks.map Ky.d)).Perm (Ks.map Ky.d) := List.mergeSort_perm _ _
  refine ⟨(sortD (Ks.map Ky.d)).map unKy, ?_, ?_⟩
  · have := pm.map unKy
    rw [List.map_map] at this
    have e : (unKy ∘ Ky.d) = id := by funext k; exact un_ky k
    rw [e, List.map_id] at this
    exact this
  · have back : ((sortD (Ks.map Ky.d)).map unKy).map Ky.d = sortD (Ks.map Ky.d) := by
      rw [List.map_map]
      refine (List.map_congr_left fun x hx => ?_).trans (List.map_id _)
      obtain ⟨k, _, rfl⟩ := List.mem_map.mp (pm.mem_iff.mp hx)
      show (unKy k.d).d = k.d
      rw [un_ky]
    rw [back]
    show (if alikeL (Ks.map Ky.d) && sortable (Ks.map Ky.d) && shp (.list (Ks.map Ky.d)) then _ else none) = _
    have a1 : alikeL (Ks.map Ky.d) = true := by
      unfold alikeL
      simp only [List.all_eq_true, List.mem_map]
      rintro _ ⟨k, _, rfl⟩ _ ⟨l, _, rfl⟩
      simp [Ky.d, W.alike, W.alikeAll]
    have a2 : sortable (Ks.map Ky.d) = true := by
      unfold sortable
      rw [Bool.or_eq_true]
      left
      simp only [List.all_eq_true, List.mem_map]
      rintro _ ⟨k, _, rfl⟩
      rfl
    have a3 : shp (.list (Ks.map Ky.d)) = true := by
      show (PyData.canLay0 (.list (Ks.map Ky.d)) && decide (PyData.depth (.list (Ks.map Ky.d)) ≤ 64)) = true
      rw [Bool.and_eq_true]
      refine ⟨h1, decide_eq_true ?_⟩
      show PyData.depthAll (Ks.map Ky.d) + 1 ≤ 64
      omega
    rw [a1, a2, a3]
    rfl
section
variable {T : Nat → Option FD} {M k : Nat}
theorem call_kinds (h16 : T 16 = some f_law_kinds) {n : Nat} (h1 : 1 ≤ n) (h5 : n ≤ 5) : callF T M (k + 1) 16 [.int (n : Nat)] = some (.dat (ksD (kn n))) := by
  refine call_run h16 rfl (ρ' := [some (.dat (.int (n : Nat)))]) (ss_rt (ret_run (slc_run (tup_run (es_cons cst_run (es_cons cst_run (es_cons cst_run (es_cons cst_run (es_cons cst_run es_nil))))) (by decide)) part_no (part_yes (nm_run rfl)) ?_)))
  match n, h1, h5 with
  | 1, _, _ => rfl
  | 2, _, _ => rfl
  | 3, _, _ => rfl
  | 4, _, _ => rfl
  | 5, _, _ => rfl
end
end Bw

/-! plain, part 5: books by digits, the walk. -/
namespace Bw
open PySem

def at0 (L : List Int) (j : Nat) : Int := L[j]?.getD 0
theorem at_map {L : List Int} {j : Nat} (h : j < L.length) : (L.map PyData.int)[j]? = some (.int (at0 L j)) := by
  unfold at0
  rw [List.getElem?_map, List.getElem?_eq_getElem h]
  rfl
theorem at_mem {L : List Int} {j : Nat} (h : j < L.length) : at0 L j ∈ L := by
  unfold at0
  rw [List.getElem?_eq_getElem h]
  exact List.getElem_mem h
theorem idxA {L : List Int} {j : Nat} {i : Int} (h : j < L.length) (e : i = (j : Nat)) : binF .idx (.list (L.map .int)) (.int i) = some (.int (at0 L j)) := by
  subst e
  exact idxL_run (at_map h)
theorem nat_of {i : Int} (h : 0 ≤ i) : ∃ n : Nat, i = (n : Nat) := ⟨i.toNat, by omega⟩
theorem mod_nat {i j : Int} {n : Nat} (hi : 0 ≤ i) (hj : j = (n : Nat)) (hn : 0 < n) : ∃ m : Nat, m < n ∧ i % j = (m : Nat) := by
  have h1 := Int.emod_nonneg i (show j ≠ 0 by omega)
  have h2 := Int.emod_lt_of_pos i (show 0 < j by omega)
  exact ⟨(i % j).toNat, by omega, by omega⟩
section
variable {T : Nat → Option FD} {M k : Nat}
/-- the slots of the walk -/
def bkE (dr so : D) (n : Nat) (E : Found) (x4 x5 x6 x7 x8 x9 x10 x11 : Option SV) : Env :=
  [some (.dat dr), some (.dat so), some (.dat (ksD (kn n))), some (.dct true (fD E)), x4, x5, x6, x7, x8, x9, x10, x11]
structure FOk (n : Nat) (E : Found) : Prop where
  ok : ∀ e ∈ E, KyOk (kn n) e.1 ∧ 1 ≤ e.2 ∧ e.2 ≤ 3
  nd : (E.map (·.1)).Nodup
  few : E.length ≤ 100
def bookB1 : Ss := (.cons (.asg 5 (.d (.bin .idx (.nm 0) (.bin .add (.cst (.int 2)) (.nm 4))))) (.cons (.par (.cons 9 (.d (.bin .mod (.nm 5) (.un .len (.nm 2)))) (.cons 10 (.d (.bin .mod (.bin .fdiv (.nm 5) (.cst (.int 5))) (.un .len (.nm 2)))) .nil))) (.cons (.ifs (.or (.cons (.and (.cons (.bin .eq (.nm 1) (.cst (.int 1))) (.cons (.bin .ge (.nm 9) (.nm 10)) .nil))) (.cons (.and (.cons (.bin .gt (.nm 1) (.cst (.int 1))) (.cons (.bin .gt (.nm 9) (.nm 10)) .nil))) .nil))) (.cons (.par (.cons 9 (.d (.bin .min2 (.nm 9) (.nm 10))) (.cons 10 (.d (.bin .max2 (.nm 9) (.nm 10))) .nil))) .nil) .nil) (.cons (.asg 6 (.d (.ife (.bin .lt (.nm 1) (.cst (.int 2))) (.bin .add (.cst (.int 1)) (.bin .mod (.bin .fdiv (.nm 5) (.cst (.int 100))) (.cst (.int 3)))) (.cst (.int 1))))) (.cons (.ifs (.or (.cons (.bin .ne (.nm 1) (.cst (.int 1))) (.cons (.bin .ne (.nm 9) (.nm 10)) .nil))) (.cons (.setD 3 (.tup (.cons (.bin .idx (.nm 2) (.nm 9)) (.cons (.bin .add (.cst (.int 1)) (.bin .mod (.bin .fdiv (.nm 5) (.cst (.int 25))) (.cst (.int 4)))) (.cons (.bin .idx (.nm 2) (.nm 10)) .nil)))) (.nm 6)) .nil) .nil) .nil)))))
theorem kn_at {n o : Nat} (h5 : n ≤ 5) (h : o < n) : ∃ x, x ∈ kn n ∧ binF .idx (ksD (kn n)) (.int (o : Nat)) = some (.str x) := by
  have hl : o < (kn n).length := by rw [kn_len h5]; exact h
  refine ⟨(kn n)[o], List.getElem_mem hl, idx_run ?_⟩
  rw [List.getElem?_map, List.getElem?_eq_getElem hl]
  rfl
theorem book_step {cf : Nat → List D → Option RV} {L : List Int} (hr : ∀ x ∈ L, 0 ≤ x ∧ x < 27720) {so : Int} {n : Nat} (h1 : 1 ≤ n) (h5 : n ≤ 5) {E : Found} (F : FOk n E) {i : Nat} (hi : i + 2 < L.length) {x5 x6 x9 x10 : Option SV} :
    ∃ E' y5 y6 y9 y10, evSs cf M bookB1 (bkE (.list (L.map .int)) (.int so) n E (some (.dat (.int (i : Nat)))) x5 x6 none none x9 x10 none) = some (.nx (bkE (.list (L.map .int)) (.int so) n E' (some (.dat (.int (i : Nat)))) y5 y6 none none y9 y10 none)) ∧
      (∀ e ∈ E', KyOk (kn n) e.1 ∧ 1 ≤ e.2 ∧ e.2 ≤ 3) ∧ (E'.map (·.1)).Nodup ∧ E'.length ≤ E.length + 1 := by
  obtain ⟨d, hd⟩ : ∃ d, d = at0 L (2 + i) := ⟨_, rfl⟩
  have hd0 := (hr _ (at_mem (L := L) (j := 2 + i) (by omega))).1
  rw [← hd] at hd0
  have ei : (2 : Int) + ((i : Nat) : Int) = ((2 + i : Nat) : Int) := by omega
  have hlen : (((ks : List Str) → ks.length = n → ((ks.map PyData.str).length : Int) = (n : Nat))) := fun ks e => by rw [List.length_map, e]
  have elen : ∀ {ρ : Env} {b : Bool}, ρ[2]? = some (some (.dat (ksD (kn n)))) → evE cf (.un .len (.nm 2)) b ρ = some (.int (n : Nat)) := fun {ρ b} e => un_run (nm_run e) (by unfold ksD; rw [u_lenT, List.length_map, kn_len h5])
  obtain ⟨o1, ho1, e1⟩ := mod_nat (i := d) (j := (n : Nat)) hd0 rfl h1
  obtain ⟨o2, ho2, e2⟩ := mod_nat (i := d / 5) (j := (n : Nat)) (by omega) rfl h1
  obtain ⟨m100, hm100, e100⟩ := mod_nat (i := d / 100) (j := 3) (n := 3) (by omega) rfl (by decide)
  obtain ⟨m25, hm25, e25⟩ := mod_nat (i := d / 25) (j := 4) (n := 4) (by omega) rfl (by decide)
  let en : Found → Int → Nat → Nat → Env := fun E m a b => bkE (.list (L.map .int)) (.int so) n E (some (.dat (.int (i : Nat)))) (some (.dat (.int d))) (some (.dat (.int m))) none none (some (.dat (.int (a : Nat)))) (some (.dat (.int (b : Nat)))) none
  let e6 : Nat → Nat → Env := fun a b => bkE (.list (L.map .int)) (.int so) n E (some (.dat (.int (i : Nat)))) (some (.dat (.int d))) x6 none none (some (.dat (.int (a : Nat)))) (some (.dat (.int (b : Nat)))) none
  -- the swap
  obtain ⟨p1, p2, hp1, hp2, esw⟩ : ∃ p1 p2 : Nat, p1 < n ∧ p2 < n ∧ evS cf M (.ifs (.or (.cons (.and (.cons (.bin .eq (.nm 1) (.cst (.int 1))) (.cons (.bin .ge (.nm 9) (.nm 10)) .nil))) (.cons (.and (.cons (.bin .gt (.nm 1) (.cst (.int 1))) (.cons (.bin .gt (.nm 9) (.nm 10)) .nil))) .nil))) (.cons (.par (.cons 9 (.d (.bin .min2 (.nm 9) (.nm 10))) (.cons 10 (.d (.bin .max2 (.nm 9) (.nm 10))) .nil))) .nil) .nil) (e6 o1 o2) = some (.nx (e6 p1 p2)) := by
    have c : ∃ p, evE cf (.or (.cons (.and (.cons (.bin .eq (.nm 1) (.cst (.int 1))) (.cons (.bin .ge (.nm 9) (.nm 10)) .nil))) (.cons (.and (.cons (.bin .gt (.nm 1) (.cst (.int 1))) (.cons (.bin .gt (.nm 9) (.nm 10)) .nil))) .nil))) false (e6 o1 o2) = some (.bool p) :=
      ⟨_, or_run (or_b (and_run (and_b (bin_run (nm_run rfl) cst_run b_eqI) (and_1 (bin_run (nm_run rfl) (nm_run rfl) b_ge)))) (or_1 (and_run (and_b (bin_run (nm_run rfl) cst_run b_gt) (and_1 (bin_run (nm_run rfl) (nm_run rfl) b_gt))))))⟩
    obtain ⟨p, c⟩ := c
    cases p with
    | false => exact ⟨o1, o2, ho1, ho2, ifs_f c ss_nil⟩
    | true =>
      by_cases h : o2 < o1
      · refine ⟨o2, o1, ho2, ho1, ifs_t c (ss_nx (par_run (rs_d (bin_run (nm_run rfl) (nm_run rfl) ?_) (rs_d (bin_run (nm_run rfl) (nm_run rfl) ?_) rs_nil))) ss_nil)⟩
        · rw [b_min2, if_pos (by omega)]
        · rw [b_max2, if_neg (by omega)]
      · by_cases h' : o1 < o2
        · refine ⟨o1, o2, ho1, ho2, ifs_t c (ss_nx (par_run (rs_d (bin_run (nm_run rfl) (nm_run rfl) ?_) (rs_d (bin_run (nm_run rfl) (nm_run rfl) ?_) rs_nil))) ss_nil)⟩
          · rw [b_min2, if_neg (by omega)]
          · rw [b_max2, if_pos (by omega)]
        · have : o1 = o2 := by omega
          subst this
          refine ⟨o1, o1, ho1, ho1, ifs_t c (ss_nx (par_run (rs_d (bin_run (nm_run rfl) (nm_run rfl) ?_) (rs_d (bin_run (nm_run rfl) (nm_run rfl) ?_) rs_nil))) ss_nil)⟩
          · rw [b_min2, if_neg (by omega)]
          · rw [b_max2, if_neg (by omega)]
  -- how many
  obtain ⟨m, hm1, hm3, em⟩ : ∃ m : Int, 1 ≤ m ∧ m ≤ 3 ∧ evE cf (.ife (.bin .lt (.nm 1) (.cst (.int 2))) (.bin .add (.cst (.int 1)) (.bin .mod (.bin .fdiv (.nm 5) (.cst (.int 100))) (.cst (.int 3)))) (.cst (.int 1))) false (e6 p1 p2) = some (.int m) := by
    by_cases hs : so < 2
    · refine ⟨1 + (m100 : Nat), by omega, by omega, ife_t (bin_run (nm_run rfl) cst_run ?_) (bin_run cst_run (bin_run (bin_run (nm_run rfl) cst_run (fdiv_run (by decide) (by decide))) cst_run (mod_run (by decide))) ?_)⟩
      · show some (PyData.bool (decide (so < 2))) = _
        rw [decide_eq_true hs]
      · show some (PyData.int (1 + d / 100 % 3)) = _
        rw [e100]
    · refine ⟨1, by omega, by omega, ife_f (bin_run (nm_run rfl) cst_run ?_) cst_run⟩
      show some (PyData.bool (decide (so < 2))) = _
      rw [decide_eq_false hs]
  obtain ⟨xa, ha, ea⟩ := kn_at h5 hp1
  obtain ⟨xb, hb, eb⟩ := kn_at h5 hp2
  let ky : Ky := ⟨xa, 1 + m25, xb⟩
  have ekey : ∀ {E : Found}, evE cf (.tup (.cons (.bin .idx (.nm 2) (.nm 9)) (.cons (.bin .add (.cst (.int 1)) (.bin .mod (.bin .fdiv (.nm 5) (.cst (.int 25))) (.cst (.int 4)))) (.cons (.bin .idx (.nm 2) (.nm 10)) .nil)))) false (en E m p1 p2) = some ky.d := fun {E} => by
    refine tup_run (es_cons (bin_run (nm_run rfl) (nm_run rfl) ea) (es_cons (bin_run cst_run (bin_run (bin_run (nm_run rfl) cst_run (fdiv_run (by decide) (by decide))) cst_run (mod_run (by decide))) ?_) (es_cons (bin_run (nm_run rfl) (nm_run rfl) eb) es_nil))) (by simp)
    show some (PyData.int (1 + d / 25 % 4)) = _
    rw [e25]
    show _ = some (PyData.int ((1 + m25 : Nat) : Int))
    rw [Int.natCast_add]
    rfl
  obtain ⟨E', eset, q1, q2, q3⟩ : ∃ E', evS cf M (.ifs (.or (.cons (.bin .ne (.nm 1) (.cst (.int 1))) (.cons (.bin .ne (.nm 9) (.nm 10)) .nil))) (.cons (.setD 3 (.tup (.cons (.bin .idx (.nm 2) (.nm 9)) (.cons (.bin .add (.cst (.int 1)) (.bin .mod (.bin .fdiv (.nm 5) (.cst (.int 25))) (.cst (.int 4)))) (.cons (.bin .idx (.nm 2) (.nm 10)) .nil)))) (.nm 6)) .nil) .nil) (en E m p1 p2) = some (.nx (en E' m p1 p2)) ∧
      (∀ e ∈ E', KyOk (kn n) e.1 ∧ 1 ≤ e.2 ∧ e.2 ≤ 3) ∧ (E'.map (·.1)).Nodup ∧ E'.length ≤ E.length + 1 := by
    have c : ∃ p, evE cf (.or (.cons (.bin .ne (.nm 1) (.cst (.int 1))) (.cons (.bin .ne (.nm 9) (.nm 10)) .nil))) false (en E m p1 p2) = some (.bool p) :=
      ⟨_, or_run (or_b (bin_run (nm_run rfl) cst_run b_neI) (or_1 (bin_run (nm_run rfl) (nm_run rfl) b_neI)))⟩
    obtain ⟨p, c⟩ := c
    cases p with
    | false => exact ⟨E, ifs_f c ss_nil, F.ok, F.nd, Nat.le_succ _⟩
    | true =>
      refine ⟨ePut E ky m, ifs_t c (ss_nx (ρ' := en (ePut E ky m) m p1 p2) ?_ ss_nil), fun e he => ?_, put_nd F.nd, put_len E ky m⟩
      · have := setD_run (cf := cf) (M := M) (i := 3) (ρ := en E m p1 p2) (v := .nm 6) (nm_run rfl) ekey rfl (ky_fit ky) (by have := F.few; simp only [fD, List.length_map]; omega)
        rw [this, put_f]
        rfl
      · rcases put_mem he with h | h
        · exact F.ok e h
        · rw [h]
          exact ⟨⟨ha, hb, by show 1 ≤ 1 + m25 ∧ 1 + m25 ≤ 4; omega⟩, hm1, hm3⟩
  refine ⟨E', some (.dat (.int d)), some (.dat (.int m)), some (.dat (.int (p1 : Nat))), some (.dat (.int (p2 : Nat))), ?_, q1, q2, q3⟩
  refine ss_nx (ρ' := bkE (.list (L.map .int)) (.int so) n E (some (.dat (.int (i : Nat)))) (some (.dat (.int d))) x6 none none x9 x10 none) (asg_run (bin_run (nm_run rfl) (bin_run cst_run (nm_run rfl) rfl) ?_)) ?_
  · rw [hd]
    exact idxA (by omega) ei
  refine ss_nx (ρ' := e6 o1 o2) (par_run (xs := [(9, .dat (.int (o1 : Nat))), (10, .dat (.int (o2 : Nat)))]) (rs_d (bin_run (nm_run rfl) (elen rfl) ?_) (rs_d (bin_run (bin_run (nm_run rfl) cst_run (fdiv_run (by decide) (by decide))) (elen rfl) ?_) rs_nil))) ?_
  · rw [mod_run (by omega), e1]
  · show binF .mod (.int (d / 5)) (.int (n : Nat)) = _
    rw [mod_run (by omega), e2]
  refine ss_nx esw ?_
  refine ss_nx (ρ' := en E m p1 p2) (asg_run em) ?_
  exact ss_nx eset ss_nil
end
end Bw

/-! plain, part 6: books by digits, to the end. -/
namespace Bw
open PySem

theorem ky_0 (k : Ky) : binF .idx k.d (.int 0) = some (.str k.a) := rfl
theorem ky_2 (k : Ky) : binF .idx k.d (.int 2) = some (.str k.b) := rfl
def bookB2 : Ss := (.cons (.asg 11 (.d (.lc [9] (.n 9) (.keys 3) (.yes (.chain .eq .eq (.bin .idx (.nm 9) (.cst (.int 0))) (.bin .idx (.nm 9) (.cst (.int 2))) (.bin .idx (.nm 8) (.cst (.int 0))))) (.cst (.int 1))))) (.cons (.ifs (.or (.cons (.bin .gt (.un .len (.nm 11)) (.cst (.int 1))) (.cons (.and (.cons (.bin .eq (.nm 1) (.cst (.int 3))) (.cons (.bin .gt (.bin .idx (.nm 8) (.cst (.int 0))) (.cst (.str "ash"))) .nil))) .nil))) (.cons (.popD 3 (.nm 8)) .nil) .nil) .nil))
section
variable {T : Nat → Option FD} {M k : Nat} {cf : Nat → List D → Option RV}
theorem keys_fD (E : Found) : (fD E).map (·.1) = (E.map (·.1)).map Ky.d := by
  unfold fD
  rw [List.map_map, List.map_map]
  rfl
theorem spot_step {dr : D} {so : Int} {n : Nat} {E : Found} (F : FOk n E) {s : Ky} (hs : s ∈ E.map (·.1)) {x4 x5 x6 x7 x9 x10 x11 : Option SV} :
    ∃ E' y11, evSs cf M bookB2 (bkE dr (.int so) n E x4 x5 x6 x7 (some (.dat s.d)) x9 x10 x11) = some (.nx (bkE dr (.int so) n E' x4 x5 x6 x7 (some (.dat s.d)) x9 x10 y11)) ∧
      FOk n E' ∧ ∀ l, l ≠ s → l ∈ E.map (·.1) → l ∈ E'.map (·.1) := by
  have hsk : KyOk (kn n) s := by
    obtain ⟨e, he, rfl⟩ := List.mem_map.mp hs
    exact (F.ok e he).1
  have okS : PyData.strOk s.a = true := kn_ok _ hsk.inA
  obtain ⟨out, e1⟩ : ∃ out, evE cf (.lc [9] (.n 9) (.keys 3) (.yes (.chain .eq .eq (.bin .idx (.nm 9) (.cst (.int 0))) (.bin .idx (.nm 9) (.cst (.int 2))) (.bin .idx (.nm 8) (.cst (.int 0))))) (.cst (.int 1))) false (bkE dr (.int so) n E x4 x5 x6 x7 (some (.dat s.d)) x9 x10 x11) = some (.list out) := by
    refine ⟨_, lc_nf (L := E.map (·.1)) (q := Ky.d) (p := fun k : Ky => (k.a == k.b) && (k.b == s.a)) (g := fun _ => .int 1) ?_ (fun k hk => ?_) fun k hk _ => cst_run⟩
    · rw [← keys_fD]
      exact it_keys rfl
    · obtain ⟨e, he, rfl⟩ := List.mem_map.mp hk
      exact cond_yes (chain_b (bin_run (nm_run rfl) cst_run (ky_0 _)) (bin_run (nm_run rfl) cst_run (ky_2 _)) (bin_run (nm_run rfl) cst_run (ky_0 _)) (b_eqS (kn_ok _ (F.ok e he).1.inA) (kn_ok _ (F.ok e he).1.inB)) (b_eqS (kn_ok _ (F.ok e he).1.inB) okS))
  have c : ∃ p, evE cf (.or (.cons (.bin .gt (.un .len (.nm 11)) (.cst (.int 1))) (.cons (.and (.cons (.bin .eq (.nm 1) (.cst (.int 3))) (.cons (.bin .gt (.bin .idx (.nm 8) (.cst (.int 0))) (.cst (.str "ash"))) .nil))) .nil))) false (bkE dr (.int so) n E x4 x5 x6 x7 (some (.dat s.d)) x9 x10 (some (.dat (.list out)))) = some (.bool p) :=
    ⟨_, or_run (or_b (bin_run (un_run (nm_run rfl) u_lenL) cst_run b_gt) (or_1 (and_run (and_b (bin_run (nm_run rfl) cst_run b_eqI) (and_1 (bin_run (bin_run (nm_run rfl) cst_run (ky_0 _)) cst_run b_gtS))))))⟩
  obtain ⟨p, c⟩ := c
  have s1 := asg_run (M := M) (i := 11) e1
  cases p with
  | false => exact ⟨E, some (.dat (.list out)), ss_nx s1 (ss_nx (ifs_f c ss_nil) ss_nil), F, fun l _ h => h⟩
  | true =>
    obtain ⟨m, _, hl⟩ := look_f hs
    have hp := popD_run (cf := cf) (M := M) (i := 3) (k := .nm 8) (ρ := bkE dr (.int so) n E x4 x5 x6 x7 (some (.dat s.d)) x9 x10 (some (.dat (.list out)))) (nm_run rfl) rfl (ky_fit s) (by have := F.few; simp only [fD, List.length_map]; omega) hl
    rw [drop_f] at hp
    have sub := drop_sub E s
    exact ⟨eDrop E s, some (.dat (.list out)), ss_nx s1 (ss_nx (ifs_t c (ss_nx hp ss_nil)) ss_nil), ⟨fun e he => F.ok e (sub.subset he), (sub.map _).nodup F.nd, Nat.le_trans sub.length_le F.few⟩, fun l hl h => drop_keep hl h⟩
theorem spots_loop {dr : D} {so : Int} {n : Nat} {x4 x5 x6 x7 x9 x10 : Option SV} : ∀ (Ls : List Ky) (E : Found) (x8 x11 : Option SV), FOk n E → Ls.Nodup → (∀ s ∈ Ls, s ∈ E.map (·.1)) →
    ∃ E' y8 y11, forF (fun d ρ => (bindT (.n 8) d ρ).bind fun ρ' => evSs cf M bookB2 ρ') (Ls.map Ky.d) (bkE dr (.int so) n E x4 x5 x6 x7 x8 x9 x10 x11) = some (.nx (bkE dr (.int so) n E' x4 x5 x6 x7 y8 x9 x10 y11)) ∧ FOk n E'
  | [], E, x8, x11, F, _, _ => ⟨E, x8, x11, rfl, F⟩
  | s :: Ls, E, x8, x11, F, nd, hs => by
    rw [List.nodup_cons] at nd
    obtain ⟨E1, y11, e1, F1, keep⟩ := spot_step (cf := cf) (M := M) (dr := dr) (so := so) (x4 := x4) (x5 := x5) (x6 := x6) (x7 := x7) (x9 := x9) (x10 := x10) (x11 := x11) F (hs s List.mem_cons_self)
    obtain ⟨E2, y8, z11, e2, F2⟩ := spots_loop (x4 := x4) (x5 := x5) (x6 := x6) (x7 := x7) (x9 := x9) (x10 := x10) (dr := dr) (so := so) Ls E1 (some (.dat s.d)) y11 F1 nd.2 fun l hl => keep l (fun z => nd.1 (by rw [← z]; exact hl)) (hs l (List.mem_cons_of_mem _ hl))
    refine ⟨E2, y8, z11, ?_, F2⟩
    rw [List.map_cons]
    unfold forF
    show (evSs cf M bookB2 (bkE dr (.int so) n E x4 x5 x6 x7 (some (.dat s.d)) x9 x10 x11)).bind _ = _
    rw [e1]
    exact e2
theorem sorted_fD {n : Nat} {E : Found} (F : FOk n E) : ∃ Ls : List Ky, Ls.Perm (E.map (·.1)) ∧ unF .sorted (.list ((fD E).map (·.1))) = some (.list (Ls.map Ky.d)) := by
  rw [keys_fD]
  refine sort_keys fun k hk => ?_
  obtain ⟨e, he, rfl⟩ := List.mem_map.mp hk
  exact ky_lay (fun x hx => kn_ok x hx) (F.ok e he).1
/-- a book by digits is a book -/
theorem call_book (h16 : T 16 = some f_law_kinds) (h17 : T 17 = some f_law_book) {L : List Int} (hL : 14 ≤ L.length) (hr : ∀ x ∈ L, 0 ≤ x ∧ x < 27720) (so : Int) :
    ∃ n rs, 1 ≤ n ∧ n ≤ 5 ∧ BookOk (kn n) rs ∧ (∀ r ∈ rs, 1 ≤ r.m ∧ r.m ≤ 3) ∧ callF T M (k + 2) 17 [.list (L.map .int), .int so] = some (.dat (bookD (kn n) rs)) := by
  have r0 := hr _ (at_mem (L := L) (j := 0) (by omega))
  have r1 := hr _ (at_mem (L := L) (j := 1) (by omega))
  obtain ⟨n0, hn0, en⟩ := mod_nat (i := at0 L 0) (j := 5) (n := 5) r0.1 rfl (by decide)
  obtain ⟨c, hc, ec⟩ := mod_nat (i := at0 L 1) (j := 13) (n := 13) r1.1 rfl (by decide)
  let n := 1 + n0
  have h1 : 1 ≤ n := by show 1 ≤ 1 + n0; omega
  have h5 : n ≤ 5 := by show 1 + n0 ≤ 5; omega
  let dr : D := .list (L.map .int)
  let I : Nat → Env → Prop := fun i ρ => ∃ E x4 x5 x6 x9 x10, ((∀ e ∈ E, KyOk (kn n) e.1 ∧ 1 ≤ e.2 ∧ e.2 ≤ 3) ∧ (E.map (·.1)).Nodup ∧ E.length ≤ i) ∧ ρ = bkE dr (.int so) n E x4 x5 x6 none none x9 x10 none
  have loop := for_num (f := fun d ρ => (bindT (.n 4) d ρ).bind fun ρ' => evSs (callF T M (k + 1)) M bookB1 ρ') (fun i => .int (i : Nat)) I c (fun i ρ hi ⟨E, x4, x5, x6, x9, x10, ⟨q1, q2, q3⟩, e⟩ => by
    subst e
    obtain ⟨E', y5, y6, y9, y10, e1, z1, z2, z3⟩ := book_step (cf := callF T M (k + 1)) (M := M) (so := so) (x5 := x5) (x6 := x6) (x9 := x9) (x10 := x10) hr h1 h5 (E := E) ⟨q1, q2, by omega⟩ (i := i) (by omega)
    exact ⟨_, e1, E', _, y5, y6, y9, y10, ⟨z1, z2, by omega⟩, rfl⟩) c 0
  obtain ⟨ρ2, e2, E, x4, x5, x6, x9, x10, ⟨q1, q2, q3⟩, rfl⟩ := loop (bkE dr (.int so) n [] none none none none none none none none) (by omega) ⟨[], none, none, none, none, none, ⟨by simp, by simp, Nat.le_refl _⟩, rfl⟩
  have F : FOk n E := ⟨q1, q2, by omega⟩
  rw [← List.range_eq_range'] at e2
  -- the pops
  obtain ⟨E2, x7, x8, x11, e3, F2, hlen2⟩ : ∃ E2 x7 x8 x11, evS (callF T M (k + 1)) M (.ifs (.bin .gt (.nm 1) (.cst (.int 1))) (.cons (.asg 7 (.d (.lc [8] (.n 8) (.ex (.dsorted 3)) (.yes (.bin .eq (.bin .idx (.nm 8) (.cst (.int 0))) (.bin .idx (.nm 8) (.cst (.int 2))))) (.nm 8)))) (.cons (.fr (.n 8) (.ex (.nm 7)) bookB2) .nil)) .nil) (bkE dr (.int so) n E x4 x5 x6 none none x9 x10 none) =
      some (.nx (bkE dr (.int so) n E2 x4 x5 x6 x7 x8 x9 x10 x11)) ∧ FOk n E2 ∧ True := by
    by_cases hs : (1 : Int) < so
    · obtain ⟨Ls, pm, es⟩ := sorted_fD F
      have elc : evE (callF T M (k + 1)) (.lc [8] (.n 8) (.ex (.dsorted 3)) (.yes (.bin .eq (.bin .idx (.nm 8) (.cst (.int 0))) (.bin .idx (.nm 8) (.cst (.int 2))))) (.nm 8)) false (bkE dr (.int so) n E x4 x5 x6 none none x9 x10 none) = some (.list ((Ls.filter fun k => k.a == k.b).map Ky.d)) := by
        refine lc_nf (it_ex (dsorted_run rfl es) t_L) (fun s hs => ?_) fun s hs _ => nm_run rfl
        obtain ⟨e, he, rfl⟩ := List.mem_map.mp (pm.mem_iff.mp hs)
        exact cond_yes (bin_run (bin_run (nm_run rfl) cst_run (ky_0 _)) (bin_run (nm_run rfl) cst_run (ky_2 _)) (b_eqS (kn_ok _ (F.ok e he).1.inA) (kn_ok _ (F.ok e he).1.inB)))
      have ndL : Ls.Nodup := pm.nodup_iff.mpr F.nd
      obtain ⟨E2, y8, y11, e4, F4⟩ := spots_loop (cf := callF T M (k + 1)) (M := M) (dr := dr) (so := so) (x4 := x4) (x5 := x5) (x6 := x6) (x7 := some (.dat (.list ((Ls.filter fun k => k.a == k.b).map Ky.d)))) (x9 := x9) (x10 := x10) (Ls.filter fun k => k.a == k.b) E none none F
        (List.filter_sublist.nodup ndL) fun s hs => pm.mem_iff.mp (List.mem_filter.mp hs).1
      refine ⟨E2, _, y8, y11, ifs_t (bin_run (nm_run rfl) cst_run ?_) (ss_nx (asg_run elc) (ss_nx (fr_run (it_ex (nm_run rfl) t_L) e4) ss_nil)), F4, trivial⟩
      show some (PyData.bool (decide (1 < so))) = _
      rw [decide_eq_true hs]
    · refine ⟨E, none, none, none, ifs_f (bin_run (nm_run rfl) cst_run ?_) ss_nil, F, trivial⟩
      show some (PyData.bool (decide (1 < so))) = _
      rw [decide_eq_false hs]
  obtain ⟨Ls, pm, es⟩ := sorted_fD F2
  let val : Ky → Int := fun k => match dLook (fD E2) k.d with | some (.int m) => m | _ => 0
  have hval : ∀ s ∈ Ls, (s, val s) ∈ E2 ∧ dLook (fD E2) s.d = some (.int (val s)) := fun s hs => by
    obtain ⟨m, h1, h2⟩ := look_f (pm.mem_iff.mp hs)
    have : val s = m := by show (match dLook (fD E2) s.d with | some (.int m) => m | _ => 0) = m; rw [h2]
    rw [this]
    exact ⟨h1, h2⟩
  let rl : Ky → Rl := fun s => ⟨s.a, s.t, s.b, val s⟩
  have elc : evE (callF T M (k + 1)) (.lc [8] (.n 8) (.ex (.dsorted 3)) .no (.bin .add (.nm 8) (.tup (.cons (.dget 3 (.nm 8)) .nil)))) true (bkE dr (.int so) n E2 x4 x5 x6 x7 x8 x9 x10 x11) = some (.list ((Ls.map rl).map Rl.d)) := by
    rw [List.map_map]
    refine lc_n (it_ex (dsorted_run rfl es) t_L) (fun s hs => cond_no) fun s hs => ?_
    obtain ⟨g1, g2⟩ := hval s hs
    refine bin_run (nm_run (d := s.d) rfl) (tup_run (es_cons (dget_run (nm_run (d := s.d) rfl) rfl (ky_fit s) g2) es_nil) (by simp)) ?_
    show binF .add (.tuple [.str s.a, .int s.t, .str s.b]) (.tuple [.int (val s)]) = _
    rw [b_addT, if_pos (fits_of (by simp))]
    rfl
  have hE2 : E2.length ≤ 100 := F2.few
  refine ⟨n, Ls.map rl, h1, h5, ⟨by rw [kn_len h5]; omega, by rw [kn_len h5]; exact h5, kn_nd, kn_ok, ?_, ?_, ?_, ?_, ?_⟩, ?_, ?_⟩
  · intro r hr
    obtain ⟨s, hs, rfl⟩ := List.mem_map.mp hr
    exact (F2.ok _ (hval s hs).1).1.inA
  · intro r hr
    obtain ⟨s, hs, rfl⟩ := List.mem_map.mp hr
    exact (F2.ok _ (hval s hs).1).1.inB
  · intro r hr
    obtain ⟨s, hs, rfl⟩ := List.mem_map.mp hr
    exact (F2.ok _ (hval s hs).1).1.t1
  · rw [List.length_map, pm.length_eq, List.length_map]
    omega
  · intro r hr
    obtain ⟨s, hs, rfl⟩ := List.mem_map.mp hr
    have := (F2.ok _ (hval s hs).1).2
    show (val s).natAbs < 2 ^ 64
    have h1 : 1 ≤ val s := this.1
    have h2 : val s ≤ 3 := this.2
    omega
  · intro r hr
    obtain ⟨s, hs, rfl⟩ := List.mem_map.mp hr
    exact (F2.ok _ (hval s hs).1).2
  · refine call_run h17 rfl (ρ' := bkE dr (.int so) n E2 x4 x5 x6 x7 x8 x9 x10 x11) ?_
    refine ss_nx (ρ' := [some (.dat dr), some (.dat (.int so)), some (.dat (ksD (kn n))), none, none, none, none, none, none, none, none, none]) (asg_run (call_e (r := .dat (ksD (kn n))) (es_cons (bin_run cst_run (bin_run (bin_run (nm_run rfl) cst_run (idxA (j := 0) (by omega) rfl)) cst_run (mod_run (by decide))) rfl) es_nil) ?_ rfl)) ?_
    · rw [show (1 : Int) + at0 L 0 % 5 = ((n : Nat) : Int) from by show _ = ((1 + n0 : Nat) : Int); rw [show at0 L 0 % 5 = (n0 : Int) from en]; omega]
      exact call_kinds h16 h1 h5
    refine ss_nx dnew_run ?_
    refine ss_nx (fr_run (it_rng (n := c) (bin_run (bin_run (nm_run rfl) cst_run (idxA (j := 1) (by omega) rfl)) cst_run ?_) (by omega)) e2) ?_
    · show binF .mod (.int (at0 L 1)) (.int 13) = _
      rw [mod_run (by decide), ec]
    refine ss_nx e3 ?_
    exact ss_rt (ret_run (tup_run (es_cons (nm_run rfl) (es_cons (un_run elc u_tupL) es_nil)) (by simp)))
end
end Bw

/-! plain, part 7: what is done adds up. -/
namespace Bw
open PySem

section
variable {ks : List Str} {rs : List Rl}
theorem nx_congr {w w' : Rows} {n : Nat} (hA : ∀ r ∈ rs, ks.idxOf r.a < n) (h : ∀ i j, j < n → w i j = w' i j) (j : Nat) : nx ks rs w j = nx ks rs w' j := by
  unfold nx
  congr 1
  refine List.map_congr_left fun r hr => ?_
  unfold term
  rw [h _ _ (hA r hr)]
theorem nx_add (w w' : Rows) (j : Nat) : ∀ rs : List Rl, nx ks rs (fun i j => w i j + w' i j) j = nx ks rs w j + nx ks rs w' j
  | [] => rfl
  | r :: rs => by
    have ih := nx_add w w' j rs
    unfold nx at ih ⊢
    rw [List.map_cons, List.sum_cons, ih, List.map_cons, List.sum_cons, List.map_cons, List.sum_cons]
    unfold term
    split
    · rw [Int.add_mul]; omega
    · omega
theorem nx_mul (c : Int) (w : Rows) (j : Nat) : ∀ rs : List Rl, nx ks rs (fun i j => c * w i j) j = c * nx ks rs w j
  | [] => by unfold nx; simp
  | r :: rs => by
    have ih := nx_mul c w j rs
    unfold nx at ih ⊢
    rw [List.map_cons, List.sum_cons, ih, List.map_cons, List.sum_cons, Int.mul_add]
    unfold term
    split
    · rw [Int.mul_assoc]
    · rw [Int.mul_zero]
theorem St_add (s s' : Nat → Int) : ∀ b i j, St ks rs (fun j => s j + s' j) b i j = St ks rs s b i j + St ks rs s' b i j
  | 0, i, j => by
    unfold St rows0
    dsimp only
    split <;> omega
  | b + 1, i, j => by
    unfold St rows1
    split
    · rw [← nx_add]
      congr 1
      funext i j
      exact St_add s s' b i j
    · exact St_add s s' b (i - 1) j
theorem St_mul (c : Int) (s : Nat → Int) : ∀ b i j, St ks rs (fun j => c * s j) b i j = c * St ks rs s b i j
  | 0, i, j => by
    unfold St rows0
    split
    · rfl
    · rw [Int.mul_zero]
  | b + 1, i, j => by
    unfold St rows1
    split
    · rw [← nx_mul]
      congr 1
      funext i j
      exact St_mul c s b i j
    · exact St_mul c s b (i - 1) j
theorem St_congr {n : Nat} (hA : ∀ r ∈ rs, ks.idxOf r.a < n) {s s' : Nat → Int} (h : ∀ j, j < n → s j = s' j) : ∀ b i j, j < n → St ks rs s b i j = St ks rs s' b i j
  | 0, i, j, hj => by
    unfold St rows0
    rw [h j hj]
  | b + 1, i, j, hj => by
    unfold St rows1
    rw [nx_congr hA (fun i j hj => St_congr hA h b i j hj), St_congr hA h b (i - 1) j hj]
theorem C_add (s s' : Nat → Int) (b j : Nat) : C ks rs (fun j => s j + s' j) b j = C ks rs s b j + C ks rs s' b j := St_add s s' b 0 j
theorem C_mul (c : Int) (s : Nat → Int) (b j : Nat) : C ks rs (fun j => c * s j) b j = c * C ks rs s b j := St_mul c s b 0 j
theorem C_congr {n : Nat} (hA : ∀ r ∈ rs, ks.idxOf r.a < n) {s s' : Nat → Int} (h : ∀ j, j < n → s j = s' j) (b j : Nat) (hj : j < n) : C ks rs s b j = C ks rs s' b j := St_congr hA h b 0 j hj
/-- one work alone -/
def unit (k : Nat) : Nat → Int := fun j => if j = k then 1 else 0
/-- of the first m kinds, each alone, so many times -/
def partsum (ks : List Str) (rs : List Rl) (s : Nat → Int) (b : Nat) : Nat → Nat → Int
  | 0, _ => 0
  | m + 1, j => partsum ks rs s b m j + s m * C ks rs (unit m) b j
theorem C_zero (b j : Nat) : C ks rs (fun _ => 0) b j = 0 := by
  have := C_mul (ks := ks) (rs := rs) 0 (fun _ => 0) b j
  simp only [Int.zero_mul] at this
  exact this
theorem C_parts (s : Nat → Int) (b j : Nat) : ∀ m, C ks rs (fun i => if i < m then s i else 0) b j = partsum ks rs s b m j
  | 0 => by
    have : (fun i : Nat => if i < 0 then s i else 0) = fun _ => 0 := by funext i; simp
    rw [this, C_zero]
    rfl
  | m + 1 => by
    have : (fun i : Nat => if i < m + 1 then s i else 0) = fun i => (if i < m then s i else 0) + s m * unit m i := by
      funext i
      unfold unit
      by_cases h : i < m
      · rw [if_pos (by omega), if_pos h, if_neg (by omega)]; omega
      · by_cases h2 : i = m
        · rw [if_pos (by omega), if_neg h, if_pos h2, h2]; omega
        · rw [if_neg (by omega), if_neg h, if_neg h2]; omega
    rw [this, C_add (fun i => if i < m then s i else 0) (fun i => s m * unit m i), C_mul, C_parts s b j m]
    rfl
theorem C_whole {n : Nat} (hA : ∀ r ∈ rs, ks.idxOf r.a < n) (s : Nat → Int) (b j : Nat) (hj : j < n) : partsum ks rs s b n j = C ks rs s b j := by
  rw [← C_parts]
  exact C_congr hA (fun i hi => if_pos hi) b j hj
theorem Sm_succ (s : Nat → Int) (b j : Nat) : Sm ks rs s (b + 1) j = Sm ks rs s b j + C ks rs s (b + 1) j := by
  unfold Sm
  rw [List.range_succ (n := b + 1), List.map_append, List.sum_append]
  simp
/-- where every rule leads one beat on, what comes later is what comes of what was done -/
theorem St_shift (h1 : ∀ r ∈ rs, r.t = 1) (s : Nat → Int) (c : Nat) : ∀ b j, St ks rs (C ks rs s c) b 0 j = St ks rs s (c + b) 0 j
  | 0, j => rfl
  | b + 1, j => by
    show nx ks rs (St ks rs (C ks rs s c) b) j = nx ks rs (St ks rs s (c + b)) j
    unfold nx
    congr 1
    refine List.map_congr_left fun r hr => ?_
    unfold term
    rw [h1 r hr]
    rw [St_shift h1 s c b]
end
section
variable {T : Nat → Option FD} {M k : Nat}
theorem zip_vec (n : Nat) (f g : Nat → Int) : zipL (vec n f) (vec n g) = (List.range n).map fun j => PyData.tuple [.int (f j), .int (g j)] := by
  unfold vec
  generalize List.range n = l
  induction l with
  | nil => rfl
  | cons a l ih =>
    rw [List.map_cons, List.map_cons, List.map_cons]
    unfold zipL
    rw [ih]
theorem call_plus (h30 : T 30 = some f_law_plus) (n : Nat) (f g : Nat → Int) : callF T M (k + 1) 30 [.tuple (vec n f), .tuple (vec n g)] = some (.dat (.tuple (vec n fun j => f j + g j))) := by
  refine call_run h30 rfl (ρ' := [some (.dat (.tuple (vec n f))), some (.dat (.tuple (vec n g))), none, none]) (ss_rt (ret_run (un_run (x := .list (vec n fun j => f j + g j)) ?_ u_tupL)))
  refine lc_t (L := List.range n) (q := fun j => .tuple [.int (f j), .int (g j)]) (g := fun j => .int (f j + g j)) (r := fun j => [some (.dat (.tuple (vec n f))), some (.dat (.tuple (vec n g))), some (.dat (.int (f j))), some (.dat (.int (g j)))]) ?_ (fun j _ => rfl) (fun j _ => cond_no) fun j _ => bin_run (nm_run rfl) (nm_run rfl) rfl
  unfold evI
  rw [nm_run (d := .tuple (vec n f)) rfl, Option.bind_some, nm_run (d := .tuple (vec n g)) rfl, Option.bind_some]
  show some (zipL (vec n f) (vec n g)) = _
  rw [zip_vec]
/-- so many draws in a row -/
theorem cut_ints {L : List Int} {a n : Nat} (h : a + n ≤ L.length) : cut (L.map PyData.int) (some (a : Nat)) (some ((a + n : Nat) : Int)) = (List.range n).map fun j => PyData.int (at0 L (a + j)) := by
  unfold cut
  rw [HT.sIx_nat, HT.sIx_nat, List.length_map]
  have e1 : min a L.length = a := by omega
  have e2 : min (a + n) L.length = a + n := by omega
  rw [e1, e2, Nat.add_sub_cancel_left]
  refine List.ext_getElem? fun j => ?_
  by_cases hj : j < n
  · rw [List.getElem?_take_of_lt hj, List.getElem?_drop, at_map (by omega), List.getElem?_map, List.getElem?_range hj]
    rfl
  · rw [List.getElem?_eq_none (by rw [List.length_take]; omega), List.getElem?_eq_none (by simp; omega)]
theorem max_vec {n : Nat} (h : 0 < n) (f : Nat → Int) : ∃ m : Int, unF .max (.tuple (vec n f)) = some (.int m) := by
  obtain ⟨x, xs, e, hx⟩ : ∃ x xs, vec n f = x :: xs ∧ ∀ y ∈ x :: xs, ∃ i : Int, y = .int i := by
    cases hv : vec n f with
    | nil => have := congrArg List.length hv; rw [vec_length] at this; simp at this; omega
    | cons x xs =>
      refine ⟨x, xs, rfl, fun y hy => ?_⟩
      rw [← hv] at hy
      obtain ⟨j, _, rfl⟩ := List.mem_map.mp hy
      exact ⟨_, rfl⟩
  have hc : comparable (x :: xs) = true := by
    unfold comparable
    rw [Bool.and_eq_true, Bool.and_eq_true]
    refine ⟨⟨?_, ?_⟩, ?_⟩
    · unfold alikeL
      simp only [List.all_eq_true]
      intro a ha b hb
      obtain ⟨i, rfl⟩ := hx a ha
      obtain ⟨j, rfl⟩ := hx b hb
      rfl
    · simp only [List.all_eq_true]
      intro a ha
      obtain ⟨i, rfl⟩ := hx a ha
      rfl
    · obtain ⟨h1, h2⟩ := flat_lay (L := x :: xs) (by
        simp only [List.all_eq_true]
        intro a ha
        obtain ⟨i, rfl⟩ := hx a ha
        rfl)
      show (PyData.canLay0 (.list (x :: xs)) && decide (PyData.depth (.list (x :: xs)) ≤ 64)) = true
      simp [PyData.canLay0, PyData.depth, h1, h2]
  obtain ⟨i, hi⟩ := hx _ (maxD_mem x xs)
  refine ⟨i, ?_⟩
  rw [e]
  show (if comparable (x :: xs) then some (W.maxD x xs) else none) = _
  rw [hc, if_pos rfl, hi]
end
end Bw

/-! plain, part 8: the walk over a table gives what is done at each beat. -/
namespace Bw
open PySem

def f_law_walk : FD := ⟨3, 12, .nil, some natWalk⟩
section
variable {ks : List Str} {rs : List Rl}
theorem St_back (s : Nat → Int) : ∀ (b i j : Nat), St ks rs s b i j = if i ≤ b then C ks rs s (b - i) j else 0
  | 0, i, j => by
    unfold St rows0
    by_cases h : i = 0
    · subst h
      rw [if_pos rfl, if_pos (Nat.le_refl _)]
      rfl
    · rw [if_neg h, if_neg (by omega)]
  | b + 1, i, j => by
    by_cases h : i = 0
    · subst h
      rw [if_pos (Nat.zero_le _)]
      rfl
    · show (if i = 0 then _ else St ks rs s b (i - 1) j) = _
      rw [if_neg h, St_back s b (i - 1) j]
      by_cases h2 : i ≤ b + 1
      · rw [if_pos h2, if_pos (by omega)]
        have : b - (i - 1) = b + 1 - i := by omega
        rw [this]
      · rw [if_neg h2, if_neg (by omega)]
/-- what the rules give at b out of beats before i -/
def part (ks : List Str) (s : Nat → Int) (Cc : Nat → Nat → Int) (rs : List Rl) (i b j : Nat) : Int := (rs.map fun r => if j = ks.idxOf r.b ∧ r.t ≤ b ∧ b - r.t < i then r.m * Cc (b - r.t) (ks.idxOf r.a) else 0).sum + (if b = 0 then s j else 0)
theorem C_part (ht : ∀ r ∈ rs, 1 ≤ r.t) (s : Nat → Int) (b i j : Nat) (h : b ≤ i) : part ks s (C ks rs s) rs i b j = C ks rs s b j := by
  unfold part
  cases b with
  | zero =>
    rw [if_pos rfl]
    have : (rs.map fun r => if j = ks.idxOf r.b ∧ r.t ≤ 0 ∧ 0 - r.t < i then r.m * C ks rs s (0 - r.t) (ks.idxOf r.a) else 0) = rs.map fun _ => 0 := by
      refine List.map_congr_left fun r hr => if_neg fun z => ?_
      have := ht r hr
      omega
    rw [this]
    have z : ∀ l : List Rl, (l.map fun _ => (0 : Int)).sum = 0 := fun l => by
      induction l with
      | nil => rfl
      | cons a l ih => rw [List.map_cons, List.sum_cons, ih]; rfl
    rw [z]
    show 0 + s j = rows0 s 0 j
    unfold rows0
    rw [if_pos rfl]
    omega
  | succ b =>
    rw [if_neg (by omega), Int.add_zero]
    show _ = nx ks rs (St ks rs s b) j
    unfold nx
    congr 1
    refine List.map_congr_left fun r hr => ?_
    have h1 := ht r hr
    unfold term
    rw [St_back]
    by_cases hj : j = ks.idxOf r.b
    · rw [if_pos hj]
      by_cases h2 : r.t ≤ b + 1
      · rw [if_pos ⟨hj, h2, by omega⟩, if_pos (by omega), Int.mul_comm]
        have : b + 1 - r.t = b - (r.t - 1) := by omega
        rw [this]
      · rw [if_neg (fun z => h2 z.2.1), if_neg (by omega), Int.zero_mul]
    · rw [if_neg (fun z => hj z.1), if_neg hj]
theorem push_row {b : Nat} (W : Nat → Nat → Int) (r : Rl) (h : 1 ≤ r.t) : push ks W b r b = W b := by
  funext j
  unfold push
  rw [if_neg (by omega)]
theorem pushAll_eq (b : Nat) : ∀ (l : List Rl) (W : Nat → Nat → Int), (∀ r ∈ l, 1 ≤ r.t) → ∀ c j, l.foldl (fun W r => push ks W b r) W c j = W c j + (l.map fun r => if j = ks.idxOf r.b ∧ c = b + r.t then r.m * W b (ks.idxOf r.a) else 0).sum
  | [], W, _, c, j => by simp
  | r :: l, W, h, c, j => by
    have h1 := h r List.mem_cons_self
    rw [List.foldl_cons, pushAll_eq b l (push ks W b r) (fun z hz => h z (List.mem_cons_of_mem _ hz)), push_row W r h1, List.map_cons, List.sum_cons]
    have : push ks W b r c j = W c j + (if j = ks.idxOf r.b ∧ c = b + r.t then r.m * W b (ks.idxOf r.a) else 0) := by
      unfold push
      by_cases hc : c = b + r.t
      · by_cases hj : j = ks.idxOf r.b
        · rw [if_pos hc, if_pos hj, if_pos ⟨hj, hc⟩]
        · rw [if_pos hc, if_neg hj, if_neg fun z => hj z.1]; omega
      · rw [if_neg hc, if_neg fun z => hc z.2]; omega
    rw [this]
    omega
theorem walk_part (ht : ∀ r ∈ rs, 1 ≤ r.t) (s : Nat → Int) : ∀ i b j, walkW ks rs s i b j = part ks s (C ks rs s) rs i b j
  | 0, b, j => by
    unfold walkW part
    have : (rs.map fun r => if j = ks.idxOf r.b ∧ r.t ≤ b ∧ b - r.t < 0 then r.m * C ks rs s (b - r.t) (ks.idxOf r.a) else 0) = rs.map fun _ => 0 :=
      List.map_congr_left fun r hr => if_neg fun z => by omega
    rw [this]
    have z : ∀ l : List Rl, (l.map fun _ => (0 : Int)).sum = 0 := fun l => by
      induction l with
      | nil => rfl
      | cons a l ih => rw [List.map_cons, List.sum_cons, ih]; rfl
    rw [z]
    omega
  | i + 1, b, j => by
    show rs.foldl (fun W r => push ks W i r) (walkW ks rs s i) b j = _
    rw [pushAll_eq i rs _ ht, walk_part ht s i b j]
    have row : ∀ x, walkW ks rs s i i x = C ks rs s i x := fun x => (walk_part ht s i i x).trans (C_part ht s i i x (Nat.le_refl _))
    unfold part
    have key : ∀ l : List Rl, (∀ r ∈ l, 1 ≤ r.t) → (l.map fun r => if j = ks.idxOf r.b ∧ r.t ≤ b ∧ b - r.t < i then r.m * C ks rs s (b - r.t) (ks.idxOf r.a) else 0).sum + (l.map fun r => if j = ks.idxOf r.b ∧ b = i + r.t then r.m * walkW ks rs s i i (ks.idxOf r.a) else 0).sum =
        (l.map fun r => if j = ks.idxOf r.b ∧ r.t ≤ b ∧ b - r.t < i + 1 then r.m * C ks rs s (b - r.t) (ks.idxOf r.a) else 0).sum := fun l => by
      induction l with
      | nil => intro _; rfl
      | cons r l ih =>
        intro h
        have ih := ih fun z hz => h z (List.mem_cons_of_mem _ hz)
        rw [List.map_cons, List.sum_cons, List.map_cons, List.sum_cons, List.map_cons, List.sum_cons, ← ih]
        have one : (if j = ks.idxOf r.b ∧ r.t ≤ b ∧ b - r.t < i + 1 then r.m * C ks rs s (b - r.t) (ks.idxOf r.a) else 0) =
            (if j = ks.idxOf r.b ∧ r.t ≤ b ∧ b - r.t < i then r.m * C ks rs s (b - r.t) (ks.idxOf r.a) else 0) + (if j = ks.idxOf r.b ∧ b = i + r.t then r.m * walkW ks rs s i i (ks.idxOf r.a) else 0) := by
          by_cases hj : j = ks.idxOf r.b
          · by_cases hb : b = i + r.t
            · rw [if_pos ⟨hj, by omega, by omega⟩, if_neg (fun z => by omega), if_pos ⟨hj, hb⟩, row]
              have : b - r.t = i := by omega
              rw [this]
              omega
            · by_cases h2 : r.t ≤ b ∧ b - r.t < i
              · rw [if_pos ⟨hj, h2.1, by omega⟩, if_pos ⟨hj, h2⟩, if_neg fun z => hb z.2]; omega
              · rw [if_neg (fun z => h2 ⟨z.2.1, by omega⟩), if_neg (fun z => h2 z.2), if_neg fun z => hb z.2]; rfl
          · rw [if_neg (fun z => hj z.1), if_neg (fun z => hj z.1), if_neg fun z => hj z.1]; rfl
        rw [one]
        omega
    have := key rs ht
    omega
/-- the walk's rows are what is done -/
theorem walk_C (ht : ∀ r ∈ rs, 1 ≤ r.t) (s : Nat → Int) {far b : Nat} (h : b ≤ far) (j : Nat) : walkW ks rs s (far + 1) b j = C ks rs s b j :=
  (walk_part ht s (far + 1) b j).trans (C_part ht s b (far + 1) j (by omega))
end
section
variable {T : Nat → Option FD} {M k : Nat} {ks : List Str} {rs : List Rl}
theorem natWalk_eq {kd rd st : List D} {far : Int} : natWalk [.tuple [.tuple kd, .tuple rd], .tuple st, .int far] = (pStrs kd).bind fun ks => (pRules rd).bind fun rs => (toInts st).bind fun L =>
    if rsB ks rs && decide (L.length = ks.length) && decide (0 ≤ far) && decide (far ≤ 100000) && decide ((far.toNat + 2) * (rs.length + 1) + 3000 < 1000000) then some (.dat (outD ks rs (fun j => L.getD j 0) far.toNat)) else none := rfl
theorem nat_run {f : Nat} {fd : FD} {g : List D → Option RV} {ds : List D} {r : RV} (hT : T f = some fd) (hn : ds.length = fd.np) (hg : fd.nat = some g) (h : g ds = some r) : callF T M (k + 1) f ds = some r := by
  unfold callF
  rw [hT, Option.bind_some, if_pos hn, hg]
  exact h
theorem call_walk (h28 : T 28 = some f_law_walk) (B : BookOk ks rs) (s : Nat → Int) {far : Nat} (hf : far ≤ 600) :
    callF T M (k + 1) 28 [bookD ks rs, .tuple (vec ks.length s), .int (far : Nat)] = some (.dat (.list ((List.range (far + 1)).map (cntD ks rs s)))) := by
  refine nat_run h28 rfl (g := natWalk) rfl ?_
  show natWalk [.tuple [.tuple (ks.map .str), .tuple (rs.map Rl.d)], .tuple (vec ks.length s), .int (far : Nat)] = _
  have few := B.few
  have hi : toInts (vec ks.length s) = some ((List.range ks.length).map s) := by
    have := toInts_map ((List.range ks.length).map s)
    rw [List.map_map] at this
    exact this
  rw [natWalk_eq, pStrs_map, Option.bind_some, pRules_map fun r hr => (B.t1 r hr).1, Option.bind_some, hi, Option.bind_some]
  have hb : rsB ks rs = true := by
    unfold rsB
    simp only [Bool.and_eq_true, List.all_eq_true, decide_eq_true_eq]
    exact ⟨⟨⟨B.ok, by omega⟩, B.many⟩, fun r hr => ⟨⟨⟨B.inA r hr, B.inB r hr⟩, B.small r hr⟩, (B.t1 r hr).1⟩⟩
  have hm : (far + 2) * (rs.length + 1) + 3000 < 1000000 := by
    have hr := B.many
    have : (far + 2) * (rs.length + 1) ≤ 602 * 1001 := Nat.mul_le_mul (by omega) (by omega)
    omega
  rw [hb, Int.toNat_natCast, if_pos (by
    simp only [Bool.true_and, Bool.and_eq_true, decide_eq_true_eq, List.length_map, List.length_range]
    exact ⟨⟨⟨trivial, by omega⟩, by omega⟩, hm⟩)]
  unfold outD
  congr 3
  refine List.map_congr_left fun b hb => ?_
  have hA : ∀ r ∈ rs, ks.idxOf r.a < ks.length := fun r hr => idx_lt (B.inA r hr)
  unfold cntD
  congr 1
  refine vec_congr fun j hj => ?_
  rw [walk_C (fun r hr => (B.t1 r hr).1) _ (by have := List.mem_range.mp hb; omega)]
  refine C_congr hA (fun i hi => ?_) b j hj
  simp [List.getD_eq_getElem?_getD, hi]
end
end Bw

/-! plain, part 9: beginnings by digits. -/
namespace Bw
open PySem

section
variable {T : Nat → Option FD} {M k : Nat} {ks : List Str} {rs : List Rl}
theorem cons_vec {n : Nat} (h : 0 < n) (x : Int) : [PyData.int x] ++ vec (n - 1) (fun _ => 0) = vec n fun j => if j = 0 then x else 0 := by
  refine List.ext_getElem? fun j => ?_
  by_cases hj : j < n
  · rw [vec_get hj]
    cases j with
    | zero => rfl
    | succ j =>
      rw [List.singleton_append, List.getElem?_cons_succ, vec_get (by omega), if_neg (by omega)]
  · rw [List.getElem?_eq_none (by rw [List.length_append, vec_length]; simp; omega), List.getElem?_eq_none (by rw [vec_length]; omega)]
/-- a beginning by digits: numbers from 0 to 9 -/
theorem call_start (h18 : T 18 = some f_law_start) (B : BookOk ks rs) {L : List Int} (hL : 6 ≤ L.length) (hr : ∀ x ∈ L, 0 ≤ x ∧ x < 27720) :
    ∃ s : Nat → Int, (∀ j, 0 ≤ s j ∧ s j < 10) ∧ callF T M (k + 1) 18 [bookD ks rs, .list (L.map .int)] = some (.dat (.tuple (vec ks.length s))) := by
  have few := B.few
  have pos := B.pos
  have r0 := hr _ (at_mem (L := L) (j := 0) (by omega))
  have r1 := hr _ (at_mem (L := L) (j := 1) (by omega))
  let ρ : Env := [some (.dat (bookD ks rs)), some (.dat (.list (L.map .int))), none]
  have elen : ∀ {b : Bool}, evE (callF T M k) (.un .len (.bin .idx (.nm 0) (.cst (.int 0)))) b ρ = some (.int (ks.length : Nat)) := fun {b} =>
    un_run (bin_run (x := bookD ks rs) (nm_run rfl) cst_run (show binF .idx (bookD ks rs) (.int 0) = some (ksD ks) from rfl)) (by unfold ksD; rw [u_lenT, List.length_map])
  obtain ⟨m, hm, em⟩ := mod_nat (i := at0 L 0) (j := 4) (n := 4) r0.1 rfl (by decide)
  have ec : evE (callF T M k) (.bin .eq (.bin .mod (.bin .idx (.nm 1) (.cst (.int 0))) (.cst (.int 4))) (.cst (.int 0))) false ρ = some (.bool (at0 L 0 % 4 == 0)) :=
    bin_run (bin_run (bin_run (nm_run rfl) cst_run (idxA (j := 0) (by omega) rfl)) cst_run (mod_run (by decide))) cst_run b_eqI
  by_cases h : at0 L 0 % 4 = 0
  · have ec' : evE (callF T M k) (.bin .eq (.bin .mod (.bin .idx (.nm 1) (.cst (.int 0))) (.cst (.int 4))) (.cst (.int 0))) false ρ = some (.bool true) := by rw [ec, h]; rfl
    refine ⟨fun j => if j = 0 then at0 L 1 % 10 else 0, fun j => ?_, call_run h18 rfl (ρ' := ρ) (ss_rt (ifs_t ec' (ss_rt (ret_run (un_run (x := .list (vec ks.length fun j => if j = 0 then at0 L 1 % 10 else 0)) ?_ u_tupL)))))⟩
    · dsimp only
      split
      · exact ⟨Int.emod_nonneg _ (by decide), Int.emod_lt_of_pos _ (by decide)⟩
      · exact ⟨by decide, by decide⟩
    · refine bin_run (x := .list [.int (at0 L 1 % 10)]) (y := .list (vec (ks.length - 1) fun _ => 0)) (lst_run (es_cons (bin_run (bin_run (nm_run rfl) cst_run (idxA (j := 1) (by omega) rfl)) cst_run (mod_run (by decide))) es_nil) (by simp)) ?_ ?_
      · refine bin_run (lst_run (es_cons cst_run es_nil) (by simp)) (bin_run elen cst_run (show binF .sub (.int (ks.length : Nat)) (.int 1) = some (.int ((ks.length - 1 : Nat) : Int)) from ?_)) (mul_rep (by omega))
        rw [b_sub]
        congr 2
        omega
      · rw [b_addL, if_pos (fits_of (by rw [List.length_append, vec_length]; simp; omega)), cons_vec pos]
  · have ec' : evE (callF T M k) (.bin .eq (.bin .mod (.bin .idx (.nm 1) (.cst (.int 0))) (.cst (.int 4))) (.cst (.int 0))) false ρ = some (.bool false) := by
      rw [ec, beq_eq_false_iff_ne.mpr h]
    obtain ⟨q, hq, eq'⟩ := mod_nat (i := at0 L 0 / 4) (j := 3) (n := 3) (by omega) rfl (by decide)
    obtain ⟨p, hp1, hp2, ep⟩ : ∃ p : Int, 0 < p ∧ p ≤ 10 ∧ binF .idx (.list [.int 10, .int 2, .int 4]) (.int (q : Nat)) = some (.int p) := by
      match q, hq with
      | 0, _ => exact ⟨10, by decide, by decide, rfl⟩
      | 1, _ => exact ⟨2, by decide, by decide, rfl⟩
      | 2, _ => exact ⟨4, by decide, by decide, rfl⟩
    refine ⟨fun j => at0 L (1 + j) % p, fun j => ⟨Int.emod_nonneg _ (by omega), Int.lt_of_lt_of_le (Int.emod_lt_of_pos _ hp1) hp2⟩, call_run h18 rfl (ρ' := ρ) (ss_nx (ifs_f ec' ss_nil) (ss_rt (ret_run (un_run (x := .list (vec ks.length fun j => at0 L (1 + j) % p)) ?_ u_tupL))))⟩
    refine lc_n (L := List.range ks.length) (q := fun j => .int (at0 L (1 + j))) (it_ex (slc_run (nm_run (d := .list (L.map .int)) rfl) (part_yes cst_run) (part_yes (i := ((1 + ks.length : Nat) : Int)) (bin_run cst_run elen (by rw [Int.natCast_add]; rfl))) s_L) ?_) (fun j _ => cond_no) fun j _ => bin_run (nm_run rfl) (bin_run (x := .list [.int 10, .int 2, .int 4]) (lst_run (es_cons cst_run (es_cons cst_run (es_cons cst_run es_nil))) (by simp)) (bin_run (bin_run (bin_run (nm_run rfl) cst_run (idxA (j := 0) (by omega) rfl)) cst_run (fdiv_run (by decide) (by decide))) cst_run (show binF .mod (.int (at0 L 0 / 4)) (.int 3) = some (.int (q : Nat)) from by rw [mod_run (by decide), eq'])) ep) (mod_run hp1)
    rw [t_L]
    exact congrArg some (cut_ints (a := 1) (n := ks.length) (by omega))
end
end Bw

/-! plain, part 10: the step from four beats to the next, by a square table. -/
namespace Bw
open PySem

/-! ### sums -/
def sumN : Nat → (Nat → Int) → Int
  | 0, _ => 0
  | n + 1, f => sumN n f + f n
theorem sumN_congr {f g : Nat → Int} : ∀ {n : Nat}, (∀ q, q < n → f q = g q) → sumN n f = sumN n g
  | 0, _ => rfl
  | n + 1, h => by
    unfold sumN
    rw [sumN_congr (n := n) (fun q hq => h q (by omega)), h n (by omega)]
theorem sumN_mod {f g : Nat → Int} {m : Int} : ∀ {n : Nat}, (∀ q, q < n → f q % m = g q % m) → sumN n f % m = sumN n g % m
  | 0, _ => rfl
  | n + 1, h => by
    unfold sumN
    rw [Int.add_emod, sumN_mod (n := n) (fun q hq => h q (by omega)), h n (by omega), ← Int.add_emod]
theorem sumN_add (f g : Nat → Int) : ∀ n, sumN n (fun q => f q + g q) = sumN n f + sumN n g
  | 0 => rfl
  | n + 1 => by
    unfold sumN
    rw [sumN_add f g n]
    dsimp only
    omega
theorem sumN_mul (c : Int) (f : Nat → Int) : ∀ n, sumN n (fun q => c * f q) = c * sumN n f
  | 0 => by unfold sumN; simp
  | n + 1 => by
    unfold sumN
    rw [sumN_mul c f n, Int.mul_add]
theorem sumN_zero : ∀ n, sumN n (fun _ => 0) = 0
  | 0 => rfl
  | n + 1 => by
    unfold sumN
    rw [sumN_zero n]
    rfl
theorem sumN_list (f : Nat → Int) : ∀ n, ((List.range n).map f).sum = sumN n f
  | 0 => rfl
  | n + 1 => by
    rw [List.range_succ, List.map_append, List.sum_append, sumN_list f n]
    simp [sumN]
theorem mul_mod_congr {a b c d m : Int} (h1 : a % m = c % m) (h2 : b % m = d % m) : (a * b) % m = (c * d) % m := by rw [Int.mul_emod, h1, h2, ← Int.mul_emod]

/-! ### so many beats -/
section
variable {ks : List Str} {rs : List Rl}
def It (ks : List Str) (rs : List Rl) : Nat → Rows → Rows
  | 0, w => w
  | m + 1, w => rows1 ks rs (It ks rs m w)
theorem It_St (s : Nat → Int) : ∀ b, It ks rs b (rows0 s) = St ks rs s b
  | 0 => rfl
  | b + 1 => by
    show rows1 ks rs (It ks rs b (rows0 s)) = rows1 ks rs (St ks rs s b)
    rw [It_St s b]
theorem It_plus (a b : Nat) (w : Rows) : It ks rs (a + b) w = It ks rs a (It ks rs b w) := by
  induction a with
  | zero => rw [Nat.zero_add]; rfl
  | succ a ih =>
    rw [Nat.succ_add]
    show rows1 ks rs (It ks rs (a + b) w) = rows1 ks rs (It ks rs a (It ks rs b w))
    rw [ih]
theorem It_add (w w' : Rows) : ∀ b i j, It ks rs b (fun i j => w i j + w' i j) i j = It ks rs b w i j + It ks rs b w' i j
  | 0, i, j => rfl
  | b + 1, i, j => by
    have e : (It ks rs b fun i j => w i j + w' i j) = fun i j => It ks rs b w i j + It ks rs b w' i j := by funext i j; exact It_add w w' b i j
    show rows1 ks rs (It ks rs b fun i j => w i j + w' i j) i j = rows1 ks rs (It ks rs b w) i j + rows1 ks rs (It ks rs b w') i j
    rw [e]
    unfold rows1
    split
    · exact nx_add _ _ j rs
    · rfl
theorem It_mul (c : Int) (w : Rows) : ∀ b i j, It ks rs b (fun i j => c * w i j) i j = c * It ks rs b w i j
  | 0, i, j => rfl
  | b + 1, i, j => by
    have e : (It ks rs b fun i j => c * w i j) = fun i j => c * It ks rs b w i j := by funext i j; exact It_mul c w b i j
    show rows1 ks rs (It ks rs b fun i j => c * w i j) i j = c * rows1 ks rs (It ks rs b w) i j
    rw [e]
    unfold rows1
    split
    · exact nx_mul c _ j rs
    · rfl
/-- what the walks ask of the rules -/
structure RlOk (ks : List Str) (rs : List Rl) : Prop where
  a : ∀ r ∈ rs, ks.idxOf r.a < ks.length
  t : ∀ r ∈ rs, 1 ≤ r.t ∧ r.t ≤ 4
theorem BookOk.rl (B : BookOk ks rs) : RlOk ks rs := ⟨fun r hr => idx_lt (B.inA r hr), B.t1⟩
theorem nx_mod (R : RlOk ks rs) {w w' : Rows} {m : Int} (h : ∀ i j, i < 4 → j < ks.length → w i j % m = w' i j % m) (j : Nat) : nx ks rs w j % m = nx ks rs w' j % m := by
  have key : ∀ l : List Rl, (∀ r ∈ l, r ∈ rs) → nx ks l w j % m = nx ks l w' j % m := by
    intro l
    induction l with
    | nil => intro _; rfl
    | cons r l ih =>
      intro hl
      have hr := hl r List.mem_cons_self
      have ih := ih fun x hx => hl x (List.mem_cons_of_mem _ hx)
      unfold nx at ih ⊢
      rw [List.map_cons, List.sum_cons, List.map_cons, List.sum_cons, Int.add_emod, ih]
      have ht := R.t r hr
      have e : term ks w j r % m = term ks w' j r % m := by
        unfold term
        split
        · exact mul_mod_congr (h _ _ (by omega) (R.a r hr)) rfl
        · rfl
      rw [e, ← Int.add_emod]
  exact key rs fun r hr => hr
theorem It_mod (R : RlOk ks rs) {w w' : Rows} {m : Int} (h : ∀ i j, i < 4 → j < ks.length → w i j % m = w' i j % m) : ∀ b i j, i < 4 → j < ks.length → It ks rs b w i j % m = It ks rs b w' i j % m
  | 0, i, j, hi, hj => h i j hi hj
  | b + 1, i, j, hi, hj => by
    show rows1 ks rs (It ks rs b w) i j % m = rows1 ks rs (It ks rs b w') i j % m
    unfold rows1
    split
    · exact nx_mod R (fun i j hi hj => It_mod R h b i j hi hj) j
    · exact It_mod R h b (i - 1) j (by omega) hj
theorem It_congr (R : RlOk ks rs) {w w' : Rows} (h : ∀ i j, i < 4 → j < ks.length → w i j = w' i j) (b i j : Nat) (hi : i < 4) (hj : j < ks.length) : It ks rs b w i j = It ks rs b w' i j := by
  have := It_mod R (w := w) (w' := w') (m := 0) (fun i j hi hj => by rw [h i j hi hj]) b i j hi hj
  rw [Int.emod_zero, Int.emod_zero] at this
  exact this
/-- a state with one work alone -/
def uR (n q : Nat) : Rows := fun i j => if n * i + j = q then 1 else 0
/-- after m beats, at the place p, of one work at the place q -/
def Pw (ks : List Str) (rs : List Rl) (m p q : Nat) : Int := It ks rs m (uR ks.length q) (p / ks.length) (p % ks.length)
theorem It_parts (w : Rows) (m i j : Nat) : ∀ k, It ks rs m (fun i j => if ks.length * i + j < k then w ((ks.length * i + j) / ks.length) ((ks.length * i + j) % ks.length) else 0) i j = sumN k fun q => w (q / ks.length) (q % ks.length) * It ks rs m (uR ks.length q) i j
  | 0 => by
    have e : (fun i j : Nat => if ks.length * i + j < 0 then w ((ks.length * i + j) / ks.length) ((ks.length * i + j) % ks.length) else 0) = fun i j => 0 * (fun _ _ => 0 : Rows) i j := by funext i j; simp
    rw [e, It_mul]
    unfold sumN
    simp
  | k + 1 => by
    have e : (fun i j : Nat => if ks.length * i + j < k + 1 then w ((ks.length * i + j) / ks.length) ((ks.length * i + j) % ks.length) else 0) =
        fun i j => (fun i j : Nat => if ks.length * i + j < k then w ((ks.length * i + j) / ks.length) ((ks.length * i + j) % ks.length) else 0) i j + (fun i j => w (k / ks.length) (k % ks.length) * uR ks.length k i j : Rows) i j := by
      funext i j
      unfold uR
      dsimp only
      by_cases h : ks.length * i + j < k
      · rw [if_pos (by omega), if_pos h, if_neg (by omega)]; omega
      · by_cases h2 : ks.length * i + j = k
        · rw [if_pos (by omega), if_neg h, if_pos h2, h2]; omega
        · rw [if_neg (by omega), if_neg h, if_neg h2]; omega
    rw [e, It_add, It_mul, It_parts w m i j k]
    rfl
theorem pl_div {n i j : Nat} (h : j < n) : (n * i + j) / n = i := by
  rw [Nat.mul_add_div (by omega), Nat.div_eq_of_lt h, Nat.add_zero]
theorem pl_mod {n i j : Nat} (h : j < n) : (n * i + j) % n = j := by
  rw [Nat.mul_add_mod, Nat.mod_eq_of_lt h]
theorem pl_lt {n p : Nat} (h : p < 4 * n) : p / n < 4 ∧ p % n < n := by
  have hn : 0 < n := by omega
  exact ⟨(Nat.div_lt_iff_lt_mul hn).mpr h, Nat.mod_lt _ hn⟩
theorem pl_of {n i j : Nat} (hi : i < 4) (hj : j < n) : n * i + j < 4 * n := by
  have : n * i ≤ n * 3 := Nat.mul_le_mul_left n (by omega)
  omega
/-- every state is made of single works -/
theorem It_whole (R : RlOk ks rs) (w : Rows) (m i j : Nat) (hi : i < 4) (hj : j < ks.length) : It ks rs m w i j = sumN (4 * ks.length) fun q => w (q / ks.length) (q % ks.length) * It ks rs m (uR ks.length q) i j := by
  rw [← It_parts]
  refine It_congr R (fun i j hi hj => ?_) m i j hi hj
  rw [if_pos (pl_of hi hj), pl_div hj, pl_mod hj]
theorem Pw_whole (R : RlOk ks rs) (w : Rows) (m : Nat) {p : Nat} (hp : p < 4 * ks.length) : It ks rs m w (p / ks.length) (p % ks.length) = sumN (4 * ks.length) fun q => w (q / ks.length) (q % ks.length) * Pw ks rs m p q :=
  It_whole R w m _ _ (pl_lt hp).1 (pl_lt hp).2
theorem Pw_plus (R : RlOk ks rs) (a b : Nat) {p : Nat} (hp : p < 4 * ks.length) (r : Nat) : Pw ks rs (a + b) p r = sumN (4 * ks.length) fun q => Pw ks rs a p q * Pw ks rs b q r := by
  show It ks rs (a + b) _ _ _ = _
  rw [It_plus, Pw_whole R _ a hp]
  refine sumN_congr fun q _ => ?_
  rw [Int.mul_comm]
  rfl
theorem uR_pl {n p q : Nat} (hp : p < 4 * n) : uR n q (p / n) (p % n) = if p = q then 1 else 0 := by
  unfold uR
  rw [Nat.div_add_mod]
theorem Pw_0 {p q : Nat} (hp : p < 4 * ks.length) : Pw ks rs 0 p q = if p = q then 1 else 0 := uR_pl hp
/-- one beat on -/
theorem Pw_1 {p q : Nat} (hp : p < 4 * ks.length) : Pw ks rs 1 p q = if p < ks.length then (rs.map fun r => if p = ks.idxOf r.b then (if ks.length * (r.t - 1) + ks.idxOf r.a = q then r.m else 0) else 0).sum else if p - ks.length = q then 1 else 0 := by
  show rows1 ks rs (uR ks.length q) (p / ks.length) (p % ks.length) = _
  unfold rows1
  by_cases h : p < ks.length
  · rw [if_pos (Nat.div_eq_of_lt h), if_pos h, Nat.mod_eq_of_lt h]
    unfold nx
    congr 1
    refine List.map_congr_left fun r _ => ?_
    unfold term uR
    by_cases h2 : p = ks.idxOf r.b
    · rw [if_pos h2, if_pos h2]
      split <;> simp
    · rw [if_neg h2, if_neg h2]
  · have hn : 0 < ks.length := by omega
    have h1 : p / ks.length ≠ 0 := fun z => h ((Nat.div_eq_zero_iff_lt hn).mp z)
    rw [if_neg h1, if_neg h]
    unfold uR
    have e : ks.length * (p / ks.length - 1) + p % ks.length = p - ks.length := by
      have h3 := Nat.div_add_mod p ks.length
      obtain ⟨c, hc⟩ : ∃ c, p / ks.length = c + 1 := ⟨p / ks.length - 1, (Nat.succ_pred_eq_of_ne_zero h1).symm⟩
      rw [hc] at h3 ⊢
      rw [Nat.add_sub_cancel]
      rw [Nat.mul_add, Nat.mul_one] at h3
      omega
    rw [e]
theorem sum_bound {α : Type} {f : α → Int} {c : Nat} : ∀ {l : List α}, (∀ a ∈ l, (f a).natAbs ≤ c) → ((l.map f).sum).natAbs ≤ c * l.length
  | [], _ => by simp
  | a :: l, h => by
    have h1 := h a List.mem_cons_self
    have h2 := sum_bound fun b hb => h b (List.mem_cons_of_mem _ hb)
    rw [List.map_cons, List.sum_cons, List.length_cons, Nat.mul_add, Nat.mul_one]
    omega
theorem Pw_1_small (B : BookOk ks rs) (hm : ∀ r ∈ rs, 1 ≤ r.m ∧ r.m ≤ 3) {p q : Nat} (hp : p < 4 * ks.length) : (Pw ks rs 1 p q).natAbs ≤ 3000 := by
  have hmany := B.many
  rw [Pw_1 hp]
  split
  · have := sum_bound (c := 3) (l := rs) (f := fun r => if p = ks.idxOf r.b then (if ks.length * (r.t - 1) + ks.idxOf r.a = q then r.m else 0) else 0) fun r hr => by
      have h := hm r hr
      split
      · split <;> omega
      · decide
    omega
  · split <;> decide
end
end Bw

/-! plain, part 11: tables as lists of lists; the program's rests. -/
namespace Bw
open PySem

def mt (N n : Nat) (f : Nat → Nat → Int) : List (List D) := (List.range N).map fun p => vec n (f p)
def matD (N n : Nat) (f : Nat → Nat → Int) : D := .list ((List.range N).map fun p => .list (vec n (f p)))
theorem mt_map (N n : Nat) (f : Nat → Nat → Int) : PyData.list ((mt N n f).map PyData.list) = matD N n f := by
  unfold mt matD
  rw [List.map_map]
  rfl
theorem mt_get {N n p : Nat} {f : Nat → Nat → Int} (h : p < N) : (mt N n f)[p]? = some (vec n (f p)) := by simp [mt, h]
theorem mt_len {N n : Nat} {f : Nat → Nat → Int} : (mt N n f).length = N := by simp [mt]
theorem mt_congr {N n : Nat} {f g : Nat → Nat → Int} (h : ∀ p q, p < N → q < n → f p q = g p q) : mt N n f = mt N n g := by
  refine List.map_congr_left fun p hp => vec_congr fun q hq => h p q (List.mem_range.mp hp) hq
theorem matD_congr {N n : Nat} {f g : Nat → Nat → Int} (h : ∀ p q, p < N → q < n → f p q = g p q) : matD N n f = matD N n g := by
  rw [← mt_map, ← mt_map, mt_congr h]
theorem mt_set {N n a b : Nat} {f : Nat → Nat → Int} {x : Int} (ha : a < N) : (mt N n f).set a ((vec n (f a)).set b (.int x)) = mt N n fun p q => if p = a ∧ q = b then x else f p q := by
  refine List.ext_getElem? fun k => ?_
  by_cases hk : k < N
  · rw [mt_get hk]
    by_cases h : a = k
    · subst h
      rw [List.getElem?_set_self (by rw [mt_len]; exact hk), vec_set]
      congr 1
      refine vec_congr fun q _ => ?_
      by_cases hq : q = b
      · rw [if_pos hq, if_pos ⟨rfl, hq⟩]
      · rw [if_neg hq, if_neg fun z => hq z.2]
    · rw [List.getElem?_set_ne h, mt_get hk]
      congr 1
      refine vec_congr fun q _ => ?_
      rw [if_neg fun z => h z.1.symm]
  · rw [List.getElem?_eq_none (by rw [List.length_set, mt_len]; omega), List.getElem?_eq_none (by rw [mt_len]; omega)]
theorem matD_idx {N n p : Nat} {f : Nat → Nat → Int} (h : p < N) : binF .idx (matD N n f) (.int (p : Nat)) = some (.list (vec n (f p))) := idxL_run (by simp [h])
theorem lists_of : ∀ dss : List (List D), lists (dss.map PyData.list) = some dss
  | [] => rfl
  | x :: xs => by
    rw [List.map_cons]
    unfold lists
    rw [lists_of xs]
    rfl
theorem sum_vec (n : Nat) (f : Nat → Int) : unF .sum (.list (vec n f)) = some (.int (sumN n f)) := by
  rw [u_sumL]
  have e : vec n f = ((List.range n).map f).map PyData.int := by unfold vec; rw [List.map_map]; rfl
  rw [e, toInts_map, Option.map_some, sumN_list]
section
variable {cf : Nat → List D → Option RV} {M : Nat} {ρ ρ' : Bw.Env}
theorem asgM_run {i N n : Nat} {e : E} {f : Nat → Nat → Int} (h : evE cf e false ρ = some (matD N n f)) : evS cf M (.asg i (.m e)) ρ = some (.nx (ρ.set i (some (.mat (mt N n f))))) := by
  unfold evS
  show ((evE cf e false ρ).bind _).map _ = _
  rw [h, ← mt_map]
  show ((lists _).map SV.mat).map _ = _
  rw [lists_of]
  rfl
theorem frz_run {i : Nat} {ds : List D} (h : ρ[i]? = some (some (.own ds))) : evS cf M (.frz i) ρ = some (.nx (ρ.set i (some (.dat (.list ds))))) := by
  unfold evS
  rw [h]
theorem frzM_run {i N n : Nat} {f : Nat → Nat → Int} (h : ρ[i]? = some (some (.mat (mt N n f)))) : evS cf M (.frz i) ρ = some (.nx (ρ.set i (some (.dat (matD N n f))))) := by
  unfold evS
  rw [h, ← mt_map]
theorem midx_run {i N n p q : Nat} {a b : E} {c : Bool} {f : Nat → Nat → Int} (h : ρ[i]? = some (some (.mat (mt N n f)))) (ha : evE cf a false ρ = some (.int (p : Nat))) (hb : evE cf b false ρ = some (.int (q : Nat))) (hp : p < N) (hq : q < n) : evE cf (.midx i a b) c ρ = some (.int (f p q)) := by
  unfold evE rdM
  rw [ha, Option.bind_some, hb, Option.bind_some, h]
  show (L2.atI (mt N n f) (p : Nat)).bind _ = _
  rw [atI_nat, mt_get hp, Option.bind_some, atI_nat, vec_get hq]
theorem setM_run {i N n p q : Nat} {a b v : E} {f : Nat → Nat → Int} {y : Int} (h : ρ[i]? = some (some (.mat (mt N n f)))) (hv : evE cf v false ρ = some (.int y)) (ha : evE cf a false ρ = some (.int (p : Nat))) (hb : evE cf b false ρ = some (.int (q : Nat))) (hp : p < N) (hq : q < n) :
    evS cf M (.setM i a b v) ρ = some (.nx (ρ.set i (some (.mat (mt N n fun p' q' => if p' = p ∧ q' = q then y else f p' q'))))) := by
  unfold evS rdM
  rw [hv, Option.bind_some, ha, Option.bind_some, hb, Option.bind_some, h]
  show (L2.ixN (mt N n f).length (p : Nat)).bind _ = _
  rw [mt_len, ixN_nat hp, Option.bind_some, mt_get hp, Option.bind_some, vec_length, ixN_nat hq, Option.map_some, mt_set hp]
theorem augM_run {i N n p q : Nat} {a b v : E} {f : Nat → Nat → Int} {y : Int} (h : ρ[i]? = some (some (.mat (mt N n f)))) (ha : evE cf a false ρ = some (.int (p : Nat))) (hb : evE cf b false ρ = some (.int (q : Nat))) (hp : p < N) (hq : q < n) (hv : evE cf v false ρ = some (.int y)) :
    evS cf M (.augM i .add a b v) ρ = some (.nx (ρ.set i (some (.mat (mt N n fun p' q' => if p' = p ∧ q' = q then f p q + y else f p' q'))))) := by
  unfold evS rdM
  rw [ha, Option.bind_some, hb, Option.bind_some, h]
  show (L2.ixN (mt N n f).length (p : Nat)).bind _ = _
  rw [mt_len, ixN_nat hp, Option.bind_some, mt_get hp, Option.bind_some, vec_length, ixN_nat hq, Option.bind_some, vec_get hq, Option.bind_some, hv, Option.bind_some]
  show (some (PyData.int _)).map _ = _
  rw [Option.map_some, mt_set hp]
theorem setO_run {i n q : Nat} {k v : E} {f : Nat → Int} {y : Int} (h : ρ[i]? = some (some (.own (vec n f)))) (hv : evE cf v false ρ = some (.int y)) (hk : evE cf k false ρ = some (.int (q : Nat))) (hq : q < n) :
    evS cf M (.setO i k v) ρ = some (.nx (ρ.set i (some (.own (vec n fun j => if j = q then y else f j))))) := by
  unfold evS rdO
  rw [hv, Option.bind_some, hk, Option.bind_some, h]
  show (L2.ixN (vec n f).length (q : Nat)).map _ = _
  rw [vec_length, ixN_nat hq, Option.map_some, vec_set]
theorem it_rng2 {e e2 : E} {b : Bool} {m n : Nat} (h : evE cf e false ρ = some (.int (m : Nat))) (h1 : evE cf e2 false ρ = some (.int ((m + n : Nat) : Int))) (h2 : m + n ≤ 1000000) : evI cf (.rng2 e e2) b ρ = some ((List.range n).map fun k => PyData.int ((m + k : Nat) : Int)) := by
  unfold evI
  rw [h, Option.bind_some, h1, Option.bind_some]
  show rngL (m : Nat) ((m + n : Nat) : Int) = _
  unfold rngL
  have hs := sl_eq
  have e : (((m + n : Nat) : Int) - (m : Nat)).toNat = n := by omega
  rw [e, if_pos (by omega)]
  simp
theorem zip_run {a c : E} {b : Bool} {n : Nat} {f g : Nat → Int} (h : evE cf a b ρ = some (.list (vec n f))) (h2 : evE cf c b ρ = some (.list (vec n g))) : evI cf (.zip a c) b ρ = some ((List.range n).map fun j => PyData.tuple [.int (f j), .int (g j)]) := by
  unfold evI
  rw [h, Option.bind_some, h2, Option.bind_some]
  show some (zipL (vec n f) (vec n g)) = _
  rw [zip_vec]
theorem unp_run {is : List Nat} {e : E} {ds : List D} (h : evE cf e false ρ = some (.tuple ds)) (h2 : setAll is ds ρ = some ρ') : evS cf M (.unp is e) ρ = some (.nx ρ') := by
  unfold evS
  rw [h]
  show (setAll is ds ρ).map _ = _
  rw [h2]
  rfl
/-- a row of so many, each told -/
theorem lc_vec {own : List Nat} {i n : Nat} {e elt : E} {b : Bool} {f : Nat → Int} (h : evE cf e false ρ = some (.int (n : Nat))) (hn : n ≤ 1000000) (h2 : ∀ j, j < n → evE cf elt false ((wipeE ρ own).set i (some (.dat (.int ((j : Nat) : Int))))) = some (.int (f j))) : evE cf (.lc own (.n i) (.rng e) .no elt) b ρ = some (.list (vec n f)) :=
  lc_n (L := List.range n) (q := fun j => .int ((j : Nat) : Int)) (g := fun j => .int (f j)) (it_rng h hn) (fun _ _ => cond_no) fun j hj => h2 j (List.mem_range.mp hj)
theorem lc_mat {own : List Nat} {i N n : Nat} {e elt : E} {b : Bool} {f : Nat → Nat → Int} (h : evE cf e false ρ = some (.int (N : Nat))) (hn : N ≤ 1000000) (h2 : ∀ j, j < N → evE cf elt false ((wipeE ρ own).set i (some (.dat (.int ((j : Nat) : Int))))) = some (.list (vec n (f j)))) : evE cf (.lc own (.n i) (.rng e) .no elt) b ρ = some (matD N n f) :=
  lc_n (L := List.range N) (q := fun j => .int ((j : Nat) : Int)) (g := fun j => .list (vec n (f j))) (it_rng h hn) (fun _ _ => cond_no) fun j hj => h2 j (List.mem_range.mp hj)
/-- over the rows of a table -/
theorem lc_rows {own : List Nat} {i N n : Nat} {e elt : E} {b : Bool} {f : Nat → Nat → Int} {g : Nat → D} (h : evE cf e true ρ = some (matD N n f)) (h2 : ∀ j, j < N → evE cf elt false ((wipeE ρ own).set i (some (.dat (.list (vec n (f j)))))) = some (g j)) : evE cf (.lc own (.n i) (.ex e) .no elt) b ρ = some (.list ((List.range N).map g)) :=
  lc_n (L := List.range N) (q := fun j => .list (vec n (f j))) (g := g) (it_ex h t_L) (fun _ _ => cond_no) fun j hj => h2 j (List.mem_range.mp hj)
end
section
variable {T : Nat → Option FD} {M k : Nat} {ks : List Str} {rs : List Rl}
/-- what a rule puts into the table -/
def tq (ks : List Str) (p q : Nat) (r : Rl) : Int := if p = ks.idxOf r.b then (if ks.length * (r.t - 1) + ks.idxOf r.a = q then r.m else 0) else 0
def tS (ks : List Str) (rs : List Rl) (p q : Nat) : Int := (rs.map (tq ks p q)).sum
theorem tS_out {p q : Nat} (B : BookOk ks rs) (h : ks.length ≤ p) : tS ks rs p q = 0 := by
  have : ∀ l : List Rl, (∀ r ∈ l, r ∈ rs) → tS ks l p q = 0 := by
    intro l
    induction l with
    | nil => intro _; rfl
    | cons r l ih =>
      intro hl
      have h1 := idx_lt (B.inB r (hl r List.mem_cons_self))
      have ih := ih fun x hx => hl x (List.mem_cons_of_mem _ hx)
      unfold tS at ih ⊢
      rw [List.map_cons, List.sum_cons, ih]
      unfold tq
      rw [if_neg (by omega)]
      rfl
  exact this rs fun r hr => hr
theorem book_len : binF .idx (bookD ks rs) (.int 0) = some (ksD ks) := rfl
theorem call_table (h32 : T 32 = some f_table_of) (B : BookOk ks rs) : callF T M (k + 1) 32 [bookD ks rs] = some (.dat (matD (4 * ks.length) (4 * ks.length) (Pw ks rs 1))) := by
  have few := B.few
  have pos := B.pos
  let N := 4 * ks.length
  have hN : N = 4 * ks.length := rfl
  let env : (Nat → Nat → Int) → Option SV → Option SV → Option SV → Option SV → Option SV → Bw.Env := fun f x3 x6 x7 x8 x9 =>
    [some (.dat (bookD ks rs)), some (.dat (.int (N : Nat))), some (.mat (mt N N f)), x3, some (.dat (ksD ks)), some (.dat (.tuple (rs.map Rl.d))), x6, x7, x8, x9]
  have elen : ∀ {b : Bool} {f x3 x6 x7 x8 x9}, evE (callF T M k) (.un .len (.nm 4)) b (env f x3 x6 x7 x8 x9) = some (.int (ks.length : Nat)) := fun {b f x3 x6 x7 x8 x9} => un_run (nm_run rfl) (by unfold ksD; rw [u_lenT, List.length_map])
  obtain ⟨ρ1, e1, x6, x7, x8, x9, i1⟩ := for_run (f := fun d ρ => (bindT (.t [6, 7, 8, 9]) d ρ).bind fun ρ' => evSs (callF T M k) M (.cons (.augM 2 .add (.bin .index (.nm 4) (.nm 8)) (.bin .add (.bin .mul (.bin .sub (.nm 7) (.cst (.int 1))) (.un .len (.nm 4))) (.bin .index (.nm 4) (.nm 6))) (.nm 9)) .nil) ρ') (q := Rl.d)
    (fun done ρ => ∃ x6 x7 x8 x9, ρ = env (tS ks done) none x6 x7 x8 x9) rs [] (env (fun _ _ => 0) none none none none none) ⟨none, none, none, none, rfl⟩ fun done r ρ _ hr ⟨x6, x7, x8, x9, e⟩ => by
      subst e
      have ha := B.inA r hr
      have hb := B.inB r hr
      have ht := B.t1 r hr
      have la := idx_lt ha
      have lb := idx_lt hb
      refine ⟨env (tS ks (done ++ [r])) none (some (.dat (.str r.a))) (some (.dat (.int r.t))) (some (.dat (.str r.b))) (some (.dat (.int r.m))), ?_, _, _, _, _, rfl⟩
      have eset : (fun p' q' => if p' = ks.idxOf r.b ∧ q' = ks.length * (r.t - 1) + ks.idxOf r.a then tS ks done (ks.idxOf r.b) (ks.length * (r.t - 1) + ks.idxOf r.a) + r.m else tS ks done p' q') = tS ks (done ++ [r]) := by
        funext p q
        have e2 : tS ks (done ++ [r]) p q = tS ks done p q + tq ks p q r := by
          unfold tS
          rw [List.map_append, List.sum_append]
          simp
        rw [e2]
        unfold tq
        by_cases h1 : p = ks.idxOf r.b
        · by_cases h2 : ks.length * (r.t - 1) + ks.idxOf r.a = q
          · rw [if_pos ⟨h1, h2.symm⟩, if_pos h1, if_pos h2, h1, h2]
          · rw [if_neg fun z => h2 z.2.symm, if_pos h1, if_neg h2, Int.add_zero]
        · rw [if_neg fun z => h1 z.1, if_neg h1, Int.add_zero]
      show evSs _ M _ (env (tS ks done) none (some (.dat (.str r.a))) (some (.dat (.int r.t))) (some (.dat (.str r.b))) (some (.dat (.int r.m)))) = _
      refine ss_nx (ρ' := env (tS ks (done ++ [r])) none (some (.dat (.str r.a))) (some (.dat (.int r.t))) (some (.dat (.str r.b))) (some (.dat (.int r.m)))) ?_ ss_nil
      have hq : ks.length * (r.t - 1) + ks.idxOf r.a < N := pl_of (by omega) la
      have em : (r.t - 1 : Int) * (ks.length : Nat) + (ks.idxOf r.a : Nat) = ((ks.length * (r.t - 1) + ks.idxOf r.a : Nat) : Int) := by
        rw [Int.natCast_add, Int.natCast_mul, Int.mul_comm, Int.natCast_sub ht.1]
        rfl
      have := augM_run (cf := callF T M k) (M := M) (ρ := env (tS ks done) none (some (.dat (.str r.a))) (some (.dat (.int r.t))) (some (.dat (.str r.b))) (some (.dat (.int r.m)))) (i := 2) (N := N) (n := N) (p := ks.idxOf r.b) (q := ks.length * (r.t - 1) + ks.idxOf r.a)
        (a := .bin .index (.nm 4) (.nm 8)) (b := .bin .add (.bin .mul (.bin .sub (.nm 7) (.cst (.int 1))) (.un .len (.nm 4))) (.bin .index (.nm 4) (.nm 6))) (v := .nm 9) (f := tS ks done) (y := r.m) rfl (bin_run (nm_run rfl) (nm_run rfl) (index_ks B.ok hb))
        (bin_run (x := .int ((r.t - 1 : Int) * (ks.length : Nat))) (bin_run (bin_run (nm_run rfl) cst_run b_sub) elen (mul_run (.inr (by omega)))) (bin_run (nm_run rfl) (nm_run rfl) (index_ks B.ok ha)) (by rw [b_addI, em])) (by omega) hq (nm_run rfl)
      rw [eset] at this
      exact this
  rw [List.nil_append] at i1
  let f2 : Nat → Nat → Nat → Int := fun i p q => if ks.length ≤ p ∧ p < ks.length + i ∧ q = p - ks.length then 1 else tS ks rs p q
  obtain ⟨ρ2, e2, y3, i2⟩ := for_num (f := fun d ρ => (bindT (.n 3) d ρ).bind fun ρ' => evSs (callF T M k) M (.cons (.setM 2 (.nm 3) (.bin .sub (.nm 3) (.un .len (.nm 4))) (.cst (.int 1))) .nil) ρ') (fun i => .int ((ks.length + i : Nat) : Int))
    (fun i ρ => ∃ x3, ρ = env (f2 i) x3 x6 x7 x8 x9) (3 * ks.length) (fun i ρ hi ⟨x3, e⟩ => by
      subst e
      refine ⟨env (f2 (i + 1)) (some (.dat (.int ((ks.length + i : Nat) : Int)))) x6 x7 x8 x9, ?_, _, rfl⟩
      show evSs _ M _ (env (f2 i) (some (.dat (.int ((ks.length + i : Nat) : Int)))) x6 x7 x8 x9) = _
      refine ss_nx (ρ' := env (f2 (i + 1)) (some (.dat (.int ((ks.length + i : Nat) : Int)))) x6 x7 x8 x9) ?_ ss_nil
      have eset : (fun p' q' => if p' = ks.length + i ∧ q' = i then 1 else f2 i p' q') = f2 (i + 1) := by
        funext p q
        show (if p = ks.length + i ∧ q = i then (1 : Int) else if ks.length ≤ p ∧ p < ks.length + i ∧ q = p - ks.length then 1 else tS ks rs p q) = if ks.length ≤ p ∧ p < ks.length + (i + 1) ∧ q = p - ks.length then 1 else tS ks rs p q
        by_cases h1 : p = ks.length + i
        · by_cases h2 : q = i
          · rw [if_pos ⟨h1, h2⟩, if_pos ⟨by omega, by omega, by omega⟩]
          · rw [if_neg fun z => h2 z.2, if_neg (by omega), if_neg (by omega)]
        · rw [if_neg fun z => h1 z.1]
          by_cases h3 : ks.length ≤ p ∧ p < ks.length + i ∧ q = p - ks.length
          · rw [if_pos h3, if_pos ⟨h3.1, by omega, h3.2.2⟩]
          · rw [if_neg h3, if_neg (by omega)]
      have := setM_run (cf := callF T M k) (M := M) (ρ := env (f2 i) (some (.dat (.int ((ks.length + i : Nat) : Int)))) x6 x7 x8 x9) (i := 2) (N := N) (n := N) (p := ks.length + i) (q := i) (a := .nm 3) (b := .bin .sub (.nm 3) (.un .len (.nm 4))) (v := .cst (.int 1)) (f := f2 i) (y := 1) rfl cst_run (nm_run rfl)
        (bin_run (nm_run rfl) elen (by rw [b_sub]; congr 2; omega)) (by omega) (by omega)
      rw [eset] at this
      exact this) (3 * ks.length) 0 ρ1 (by omega) ⟨none, by
        rw [i1]
        have : tS ks rs = f2 0 := by
          funext p q
          show _ = if ks.length ≤ p ∧ p < ks.length + 0 ∧ q = p - ks.length then (1 : Int) else tS ks rs p q
          rw [if_neg (by omega)]
        rw [this]⟩
  have efin : matD N N (f2 (3 * ks.length)) = matD N N (Pw ks rs 1) := by
    refine matD_congr fun p q hp hq => ?_
    rw [Pw_1 hp]
    show (if ks.length ≤ p ∧ p < ks.length + 3 * ks.length ∧ q = p - ks.length then (1 : Int) else tS ks rs p q) = _
    by_cases h : p < ks.length
    · rw [if_neg (by omega), if_pos h]
      rfl
    · rw [if_neg h]
      by_cases h2 : p - ks.length = q
      · rw [if_pos ⟨by omega, by omega, h2.symm⟩, if_pos h2]
      · rw [if_neg (by omega), if_neg h2, tS_out B (by omega)]
  rw [← hN, ← efin]
  refine call_run h32 rfl (ρ' := [some (.dat (bookD ks rs)), some (.dat (.int (N : Nat))), some (.dat (matD N N (f2 (3 * ks.length)))), y3, some (.dat (ksD ks)), some (.dat (.tuple (rs.map Rl.d))), x6, x7, x8, x9]) ?_
  let ρa : Bw.Env := [some (.dat (bookD ks rs)), none, none, none, some (.dat (ksD ks)), some (.dat (.tuple (rs.map Rl.d))), none, none, none, none]
  refine ss_nx (ρ' := ρa) (unp_run (ds := [ksD ks, .tuple (rs.map Rl.d)]) (nm_run rfl) rfl) ?_
  refine ss_nx (ρ' := [some (.dat (bookD ks rs)), some (.dat (.int (N : Nat))), none, none, some (.dat (ksD ks)), some (.dat (.tuple (rs.map Rl.d))), none, none, none, none]) (asg_run (i := 1) (d := .int (N : Nat)) (bin_run cst_run (un_run (nm_run (d := ksD ks) rfl) (show unF .len (ksD ks) = some (.int (ks.length : Nat)) from by unfold ksD; rw [u_lenT, List.length_map])) (by
    rw [show Lit.d (.int 4) = PyData.int 4 from rfl, mul_run (.inl (by decide))]
    congr 2))) ?_
  refine ss_nx (ρ' := env (fun _ _ => 0) none none none none none) (asgM_run (i := 2) (lc_mat (f := fun _ _ => 0) (nm_run rfl) (by omega) fun j hj => bin_run (lst_run (es_cons cst_run es_nil) (by simp)) (nm_run rfl) (mul_rep (by omega)))) ?_
  refine ss_nx (fr_run (it_ex (nm_run (d := .tuple (rs.map Rl.d)) rfl) t_T) e1) ?_
  refine ss_nx (fr_run (ds := (List.range' 0 (3 * ks.length)).map fun i => PyData.int ((ks.length + i : Nat) : Int)) ?_ e2) ?_
  · rw [i1, ← List.range_eq_range']
    exact it_rng2 elen (nm_run (d := .int ((ks.length + 3 * ks.length : Nat) : Int)) (by rw [show ks.length + 3 * ks.length = N from by omega]; rfl)) (by omega)
  subst i2
  refine ss_nx (frzM_run (i := 2) rfl) (ss_rt (ret_run (nm_run rfl)))
end
end Bw

/-! plain, part 12: tables multiplied; rests. -/
namespace Bw
open PySem

section
variable {T : Nat → Option FD} {M k : Nat} {ks : List Str} {rs : List Rl}
theorem call_mult (h33 : T 33 = some f_multiplied) {N : Nat} (hN : N ≤ 1000) (f g : Nat → Nat → Int) {m : Int} (hm : 0 < m) (hs : ∀ p q r, p < N → q < N → r < N → (f p r).natAbs < 2 ^ 64 ∨ (g r q).natAbs < 2 ^ 64) :
    callF T M (k + 1) 33 [matD N N f, matD N N g, .int m] = some (.dat (matD N N fun p q => (sumN N fun r => f p r * g r q) % m)) := by
  let ρ : Bw.Env := [some (.dat (matD N N f)), some (.dat (matD N N g)), some (.dat (.int m)), some (.dat (matD N N fun p q => g q p)), none, none, none, none, none]
  have el : unF .len (matD N N g) = some (.int (N : Nat)) := by
    unfold matD
    rw [u_lenL, List.length_map, List.length_range]
  refine call_run h33 rfl (ρ' := ρ) ?_
  refine ss_nx (ρ' := ρ) (asg_run (i := 3) (d := matD N N fun p q => g q p) (lc_mat (N := N) (n := N) (f := fun p q => g q p) (un_run (nm_run (d := matD N N g) rfl) el) (by omega) fun j hj => ?_)) ?_
  · exact lc_rows (N := N) (n := N) (f := g) (g := fun r => .int (g r j)) (nm_run rfl) fun r hr => bin_run (nm_run rfl) (nm_run rfl) (idxL_run (vec_get hj))
  refine ss_rt (ret_run (lc_rows (N := N) (n := N) (f := f) (g := fun p => .list (vec N fun q => (sumN N fun r => f p r * g r q) % m)) (nm_run rfl) fun p hp => ?_))
  refine lc_rows (N := N) (n := N) (f := fun p q => g q p) (g := fun q => .int ((sumN N fun r => f p r * g r q) % m)) (nm_run rfl) fun q hq => ?_
  refine bin_run (un_run (x := .list (vec N fun r => f p r * g r q)) ?_ (sum_vec N _)) (nm_run rfl) (mod_run hm)
  exact lc_t (L := List.range N) (q := fun r => .tuple [.int (f p r), .int (g r q)]) (g := fun r => .int (f p r * g r q)) (zip_run (nm_run rfl) (nm_run rfl)) (fun r _ => rfl) (fun _ _ => cond_no) fun r hr =>
    bin_run (nm_run rfl) (nm_run rfl) (mul_run (hs p q r hp hq (List.mem_range.mp hr)))
/-- the steps of a number's halving -/
theorem bits : ∀ (m b : Nat), b < 2 ^ m → ∃ n, n ≤ m ∧ (∀ i, i < n → 0 < b / 2 ^ i) ∧ b / 2 ^ n = 0
  | 0, b, h => ⟨0, Nat.le_refl _, fun i hi => by omega, by rw [Nat.pow_zero] at h; rw [show b = 0 from by omega]⟩
  | m + 1, b, h => by
    by_cases h0 : b = 0
    · exact ⟨0, by omega, fun i hi => by omega, by rw [h0]⟩
    · obtain ⟨n, h1, h2, h3⟩ := bits m (b / 2) (by rw [Nat.pow_succ] at h; omega)
      have e : ∀ i, b / 2 ^ (i + 1) = b / 2 / 2 ^ i := fun i => by rw [Nat.div_div_eq_div_mul, Nat.pow_succ, Nat.mul_comm]
      refine ⟨n + 1, by omega, fun i hi => ?_, by rw [e]; exact h3⟩
      cases i with
      | zero => rw [Nat.pow_zero, Nat.div_one]; omega
      | succ i => rw [e]; exact h2 i (by omega)
theorem mod_small {x m : Int} (h : 0 < m) (h2 : m < 2 ^ 62) : (x % m).natAbs < 2 ^ 64 := by
  have h1 := Int.emod_nonneg x (show m ≠ 0 by omega)
  have h3 := Int.emod_lt_of_pos x h
  omega
theorem half_b (b : Nat) : binF .fdiv (.int (b : Nat)) (.int 2) = some (.int ((b / 2 : Nat) : Int)) := by
  rw [fdiv_run (by decide) (by decide)]
  congr 2
theorem odd_b (b : Nat) : binF .mod (.int (b : Nat)) (.int 2) = some (.int ((b % 2 : Nat) : Int)) := by
  rw [mod_run (by decide)]
  congr 2
theorem halved (b i : Nat) : b / 2 ^ (i + 1) = b / 2 ^ i / 2 := by rw [Nat.div_div_eq_div_mul, Nat.pow_succ]
theorem rest_next (b i : Nat) : b % 2 ^ (i + 1) = if b / 2 ^ i % 2 = 1 then b % 2 ^ i + 2 ^ i else b % 2 ^ i := by
  rw [Nat.mod_pow_succ]
  rcases Nat.mod_two_eq_zero_or_one (b / 2 ^ i) with h | h
  · rw [h, Nat.mul_zero, Nat.add_zero, if_neg (by decide)]
  · rw [h, Nat.mul_one, if_pos rfl]
theorem emod_emod' (a m : Int) : a % m % m = a % m := Int.emod_emod_of_dvd a (Int.dvd_refl m)
theorem first_vec {n N : Nat} (h : n ≤ N) (s : Nat → Int) : vec n s ++ vec (N - n) (fun _ => 0) = vec N fun q => if q < n then s q else 0 := by
  refine List.ext_getElem? fun j => ?_
  by_cases h1 : j < n
  · rw [List.getElem?_append_left (by rw [vec_length]; exact h1), vec_get h1, vec_get (by omega), if_pos h1]
  · rw [List.getElem?_append_right (by rw [vec_length]; omega), vec_length]
    by_cases h2 : j < N
    · rw [vec_get (by omega), vec_get h2, if_neg h1]
    · rw [List.getElem?_eq_none (by rw [vec_length]; omega), List.getElem?_eq_none (by rw [vec_length]; omega)]
theorem C_sum (B : BookOk ks rs) (s : Nat → Int) (b : Nat) {j : Nat} (hj : j < ks.length) : C ks rs s b j = sumN (4 * ks.length) fun q => Pw ks rs b j q * (if q < ks.length then s q else 0) := by
  unfold C
  rw [← It_St]
  have h := It_whole B.rl (rows0 s) b 0 j (by omega) hj
  rw [h]
  refine sumN_congr fun q hq => ?_
  rw [Int.mul_comm]
  have e : (rows0 s) (q / ks.length) (q % ks.length) = if q < ks.length then s q else 0 := by
    have pos := B.pos
    unfold rows0
    by_cases h1 : q < ks.length
    · rw [if_pos (Nat.div_eq_of_lt h1), if_pos h1, Nat.mod_eq_of_lt h1]
    · rw [if_neg fun z => h1 ((Nat.div_eq_zero_iff_lt pos).mp z), if_neg h1]
  rw [e]
  congr 1
  unfold Pw
  rw [Nat.div_eq_of_lt hj, Nat.mod_eq_of_lt hj]
/-- the rests of what is done at a beat, however far -/
theorem call_rests (h32 : T 32 = some f_table_of) (h33 : T 33 = some f_multiplied) (h34 : T 34 = some f_rests) (B : BookOk ks rs) (hm3 : ∀ r ∈ rs, 1 ≤ r.m ∧ r.m ≤ 3) (s : Nat → Int) (hs : ∀ j, 0 ≤ s j ∧ s j < 10) {b m : Nat} (hm : 2 ≤ m) (hm2 : m < 2 ^ 31) {lg : Nat} (hb : b < 2 ^ lg) (hM : lg < M) :
    callF T M (k + 2) 34 [bookD ks rs, .tuple (vec ks.length s), .int (b : Nat), .int (m : Nat)] = some (.dat (.tuple (vec ks.length fun j => C ks rs s b j % (m : Nat)))) := by
  have few := B.few
  have pos := B.pos
  obtain ⟨n, n1, n2, n3⟩ := bits lg b hb
  let N := 4 * ks.length
  have hN : N = 4 * ks.length := rfl
  have hmp : (0 : Int) < (m : Nat) := by omega
  let tb : Nat → Nat → Nat → Int := fun i p q => if i = 0 then Pw ks rs 1 p q else Pw ks rs (2 ^ i) p q % (m : Nat)
  have tbm : ∀ i p q, tb i p q % (m : Nat) = Pw ks rs (2 ^ i) p q % (m : Nat) := fun i p q => by
    show (if i = 0 then Pw ks rs 1 p q else Pw ks rs (2 ^ i) p q % (m : Nat)) % (m : Nat) = _
    by_cases h : i = 0
    · rw [if_pos h, h, Nat.pow_zero]
    · rw [if_neg h, emod_emod']
  have tbs : ∀ i p q, p < N → (tb i p q).natAbs < 2 ^ 64 := fun i p q hp => by
    show (if i = 0 then Pw ks rs 1 p q else Pw ks rs (2 ^ i) p q % (m : Nat)).natAbs < 2 ^ 64
    by_cases h : i = 0
    · rw [if_pos h]
      have := Pw_1_small B hm3 (p := p) (q := q) hp
      omega
    · rw [if_neg h]
      exact mod_small hmp (by omega)
  let ma : Nat → Nat → Nat → Int := fun a p q => Pw ks rs a p q % (m : Nat)
  have mas : ∀ a p q, (ma a p q).natAbs < 2 ^ 64 := fun a p q => mod_small hmp (by omega)
  have prod : ∀ i p q, p < N → (sumN N fun r => tb i p r * tb i r q) % (m : Nat) = tb (i + 1) p q := fun i p q hp => by
    show _ = (if i + 1 = 0 then _ else Pw ks rs (2 ^ (i + 1)) p q % (m : Nat))
    rw [if_neg (by omega), show 2 ^ (i + 1) = 2 ^ i + 2 ^ i from by rw [Nat.pow_succ]; omega, Pw_plus B.rl _ _ hp]
    exact sumN_mod fun r _ => mul_mod_congr (tbm i p r) (tbm i r q)
  have prod2 : ∀ a i p q, p < N → (sumN N fun r => ma a p r * tb i r q) % (m : Nat) = ma (a + 2 ^ i) p q := fun a i p q hp => by
    show _ = Pw ks rs (a + 2 ^ i) p q % (m : Nat)
    rw [Pw_plus B.rl _ _ hp]
    exact sumN_mod fun r _ => mul_mod_congr (emod_emod' _ _) (tbm i r q)
  let env : Nat → Bw.Env := fun i => [some (.dat (bookD ks rs)), some (.dat (.tuple (vec ks.length s))), some (.dat (.int ((b / 2 ^ i : Nat) : Int))), some (.dat (.int (m : Nat))), some (.dat (.int (N : Nat))), some (.dat (matD N N (ma (b % 2 ^ i)))), some (.dat (matD N N (tb i))), none, none, none, none, none]
  let cf := callF T M (k + 1)
  have elen0 : ∀ {c : Bool} {ρ : Bw.Env}, ρ[0]? = some (some (.dat (bookD ks rs))) → evE cf (.un .len (.bin .idx (.nm 0) (.cst (.int 0)))) c ρ = some (.int (ks.length : Nat)) := fun {c ρ} h =>
    un_run (bin_run (nm_run h) cst_run book_len) (by unfold ksD; rw [u_lenT, List.length_map])
  have elenS : ∀ {c : Bool} {ρ : Bw.Env}, ρ[1]? = some (some (.dat (.tuple (vec ks.length s)))) → evE cf (.un .len (.nm 1)) c ρ = some (.int (ks.length : Nat)) := fun {c ρ} h =>
    un_run (nm_run h) (by rw [u_lenT, vec_length])
  let first : Nat → Int := fun q => if q < ks.length then s q else 0
  let ρe : Bw.Env := [some (.dat (bookD ks rs)), some (.dat (.tuple (vec ks.length s))), some (.dat (.int ((b / 2 ^ n : Nat) : Int))), some (.dat (.int (m : Nat))), some (.dat (.int (N : Nat))), some (.dat (matD N N (ma b))), some (.dat (matD N N (tb n))), some (.dat (.list (vec N first))), none, none, none, none]
  refine call_run h34 rfl (ρ' := ρe) ?_
  refine ss_nx (ρ' := [some (.dat (bookD ks rs)), some (.dat (.tuple (vec ks.length s))), some (.dat (.int (b : Nat))), some (.dat (.int (m : Nat))), some (.dat (.int (N : Nat))), none, none, none, none, none, none, none]) (asg_run (i := 4) (d := .int (N : Nat)) (bin_run cst_run (elen0 rfl) (by
    rw [show Lit.d (.int 4) = PyData.int 4 from rfl, mul_run (.inl (by decide))]
    congr 2))) ?_
  refine ss_nx (ρ' := [some (.dat (bookD ks rs)), some (.dat (.tuple (vec ks.length s))), some (.dat (.int (b : Nat))), some (.dat (.int (m : Nat))), some (.dat (.int (N : Nat))), some (.dat (matD N N (ma 0))), none, none, none, none, none, none]) (asg_run (i := 5) (d := matD N N (ma 0)) (lc_mat (nm_run rfl) (by omega) fun p hp => lc_vec (nm_run rfl) (by omega) fun q hq => ?_)) ?_
  · refine bin_run (x := .int (if p = q then 1 else 0)) (un_run (bin_run (nm_run rfl) (nm_run rfl) b_eqI) ?_) (nm_run rfl) ?_
    · rw [u_intB]
      by_cases h : p = q
      · rw [if_pos h, h]; simp
      · rw [if_neg h, beq_eq_false_iff_ne.mpr (by omega)]; rfl
    · rw [mod_run hmp]
      show _ = some (PyData.int (Pw ks rs 0 p q % (m : Nat)))
      rw [Pw_0 hp]
  have e0 : env 0 = [some (.dat (bookD ks rs)), some (.dat (.tuple (vec ks.length s))), some (.dat (.int (b : Nat))), some (.dat (.int (m : Nat))), some (.dat (.int (N : Nat))), some (.dat (matD N N (ma 0))), some (.dat (matD N N (tb 0))), none, none, none, none, none] := by
    show [_, _, some (SV.dat (.int ((b / 2 ^ 0 : Nat) : Int))), _, _, some (SV.dat (matD N N (ma (b % 2 ^ 0)))), _, _, _, _, _, _] = _
    rw [Nat.pow_zero, Nat.div_one, Nat.mod_one]
  refine ss_nx (ρ' := env 0) (by rw [e0]; exact asg_run (i := 6) (d := matD N N (tb 0)) (call_e (es_cons (nm_run rfl) es_nil) (call_table (k := k) h32 B) rfl)) ?_
  refine ss_nx (ρ' := env n) (whl_run' (whl_run env n (fun i hi => ?_) (fun i hi => ?_) ?_ n 0 M (by omega) (by omega))) ?_
  · refine bin_run (nm_run rfl) cst_run ?_
    have := n2 i hi
    rw [show Lit.d (.int 0) = PyData.int 0 from rfl, b_gt, decide_eq_true (by omega)]
  · let env2 : Bw.Env := [some (.dat (bookD ks rs)), some (.dat (.tuple (vec ks.length s))), some (.dat (.int ((b / 2 ^ i : Nat) : Int))), some (.dat (.int (m : Nat))), some (.dat (.int (N : Nat))), some (.dat (matD N N (ma (b % 2 ^ (i + 1))))), some (.dat (matD N N (tb i))), none, none, none, none, none]
    have eodd : evE cf (.bin .eq (.bin .mod (.nm 2) (.cst (.int 2))) (.cst (.int 1))) false (env i) = some (.bool (decide (b / 2 ^ i % 2 = 1))) := bin_run (bin_run (nm_run rfl) cst_run (odd_b _)) cst_run (by
      show some (PyData.bool (((b / 2 ^ i % 2 : Nat) : Int) == 1)) = _
      congr 2
      by_cases h : b / 2 ^ i % 2 = 1
      · rw [h, decide_eq_true rfl]; rfl
      · rw [decide_eq_false h]
        exact beq_eq_false_iff_ne.mpr (by omega))
    refine ss_nx (ρ' := env2) ?_ ?_
    · by_cases h : b / 2 ^ i % 2 = 1
      · rw [decide_eq_true h] at eodd
        refine ifs_t eodd (ss_nx (ρ' := env2) (asg_run (i := 5) (d := matD N N (ma (b % 2 ^ (i + 1)))) (call_e (es_cons (nm_run rfl) (es_cons (nm_run rfl) (es_cons (nm_run rfl) es_nil))) (call_mult (k := k) h33 (N := N) (by omega) (ma (b % 2 ^ i)) (tb i) hmp fun p q r _ _ _ => .inl (mas _ _ _)) (show some _ = some _ from congrArg some (matD_congr fun p q hp hq => ?_)))) ss_nil)
        rw [prod2 _ _ _ _ hp, rest_next, if_pos h]
      · rw [decide_eq_false h] at eodd
        have : env2 = env i := by
          show [_, _, _, _, _, some (SV.dat (matD N N (ma (b % 2 ^ (i + 1))))), _, _, _, _, _, _] = [_, _, _, _, _, some (SV.dat (matD N N (ma (b % 2 ^ i)))), _, _, _, _, _, _]
          rw [rest_next, if_neg h]
        rw [this]
        exact ifs_f eodd ss_nil
    refine ss_nx (ρ' := [some (.dat (bookD ks rs)), some (.dat (.tuple (vec ks.length s))), some (.dat (.int ((b / 2 ^ i : Nat) : Int))), some (.dat (.int (m : Nat))), some (.dat (.int (N : Nat))), some (.dat (matD N N (ma (b % 2 ^ (i + 1))))), some (.dat (matD N N (tb (i + 1)))), none, none, none, none, none])
      (asg_run (i := 6) (d := matD N N (tb (i + 1))) (call_e (es_cons (nm_run rfl) (es_cons (nm_run rfl) (es_cons (nm_run rfl) es_nil))) (call_mult (k := k) h33 (N := N) (by omega) (tb i) (tb i) hmp fun p q r hp _ _ => .inl (tbs _ _ _ hp)) (show some _ = some _ from congrArg some (matD_congr fun p q hp hq => prod _ _ _ hp)))) ?_
    refine ss_nx (ρ' := env (i + 1)) (asg_run (i := 2) (d := .int ((b / 2 ^ (i + 1) : Nat) : Int)) (bin_run (nm_run rfl) cst_run (by rw [halved]; exact half_b _))) ss_nil
  · refine bin_run (nm_run rfl) cst_run ?_
    rw [show Lit.d (.int 0) = PyData.int 0 from rfl, b_gt, n3]
    rfl
  have en : b % 2 ^ n = b := Nat.mod_eq_of_lt (Nat.lt_of_not_ge fun z => by
    have := Nat.div_pos z (Nat.pow_pos (by decide : 0 < 2))
    omega)
  have eenv : env n = [some (.dat (bookD ks rs)), some (.dat (.tuple (vec ks.length s))), some (.dat (.int ((b / 2 ^ n : Nat) : Int))), some (.dat (.int (m : Nat))), some (.dat (.int (N : Nat))), some (.dat (matD N N (ma b))), some (.dat (matD N N (tb n))), none, none, none, none, none] := by
    show [_, _, _, _, _, some (SV.dat (matD N N (ma (b % 2 ^ n)))), _, _, _, _, _, _] = _
    rw [en]
  rw [eenv]
  refine ss_nx (ρ' := ρe) (asg_run (i := 7) (d := .list (vec N first)) (bin_run (x := .list (vec ks.length s)) (y := .list (vec (N - ks.length) fun _ => 0)) (un_run (nm_run (d := .tuple (vec ks.length s)) rfl) u_lstT)
    (bin_run (lst_run (es_cons cst_run es_nil) (by simp)) (bin_run (nm_run rfl) (elenS rfl) (show _ = some (PyData.int ((N - ks.length : Nat) : Int)) from by rw [b_sub]; congr 2; omega)) (mul_rep (by omega))) (by rw [b_addL, if_pos (fits_of (by rw [List.length_append, vec_length, vec_length]; omega)), first_vec (by omega)]))) ?_
  refine ss_rt (ret_run (un_run (x := .list (vec ks.length fun j => C ks rs s b j % (m : Nat))) (lc_vec (elenS rfl) (by omega) fun j hj => ?_) u_tupL))
  refine bin_run (un_run (x := .list (vec N fun q => ma b j q * first q)) ?_ (sum_vec N _)) (nm_run rfl) ?_
  · exact lc_t (L := List.range N) (q := fun r => .tuple [.int (ma b j r), .int (first r)]) (g := fun r => .int (ma b j r * first r)) (zip_run (bin_run (nm_run rfl) (nm_run rfl) (matD_idx (by omega))) (nm_run rfl)) (fun r _ => rfl) (fun _ _ => cond_no) fun r hr =>
      bin_run (nm_run rfl) (nm_run rfl) (mul_run (.inl (mas _ _ _)))
  · rw [mod_run hmp, C_sum B s b hj]
    congr 2
    exact sumN_mod fun r _ => mul_mod_congr (emod_emod' _ _) rfl
end
end Bw

/-! plain, part 13: the law's own walk far away: steps doubled. -/
namespace Bw
open PySem

section
variable {T : Nat → Option FD} {M k : Nat} {ks : List Str} {rs : List Rl}
/-- four rows as lists, the last one first -/
def rowsL (n : Nat) (w : Rows) : D := matD 4 n fun i j => w i j
theorem rowsL_congr {n : Nat} {w w' : Rows} (h : ∀ i j, i < 4 → j < n → w i j = w' i j) : rowsL n w = rowsL n w' := matD_congr h
theorem rowsL_eq (n : Nat) (w : Rows) : rowsL n w = .list [.list (vec n (w 0)), .list (vec n (w 1)), .list (vec n (w 2)), .list (vec n (w 3))] := rfl
theorem rowsL_idx {n i : Nat} {w : Rows} (h : i < 4) : binF .idx (rowsL n w) (.int (i : Nat)) = some (.list (vec n (w i))) := matD_idx h
/-- one beat on, the last row by rests -/
def stepR (ks : List Str) (rs : List Rl) (w : Rows) (m : Int) : Rows := fun i j => if i = 0 then nx ks rs w j % m else w (i - 1) j
theorem call_step (h35 : T 35 = some f_law_step) (B : BookOk ks rs) (w : Rows) {m : Int} (hm : 0 < m) : callF T M (k + 1) 35 [bookD ks rs, rowsL ks.length w, .int m] = some (.dat (rowsL ks.length (stepR ks rs w m))) := by
  have few := B.few
  let env : (Nat → Int) → Option SV → Option SV → Option SV → Option SV → Option SV → Option SV → Bw.Env := fun f x4 x5 x6 x7 x8 x9 =>
    [some (.dat (bookD ks rs)), some (.dat (rowsL ks.length w)), some (.dat (.int m)), some (.own (vec ks.length f)), x4, x5, x6, x7, x8, x9]
  have ek : ∀ {c : Bool} {f x4 x5 x6 x7 x8 x9}, evE (callF T M k) (.bin .idx (.nm 0) (.cst (.int 0))) c (env f x4 x5 x6 x7 x8 x9) = some (ksD ks) := fun {c f x4 x5 x6 x7 x8 x9} => bin_run (nm_run rfl) cst_run book_len
  obtain ⟨ρ1, e1, x4, x5, x6, x7, x8, x9, i1⟩ := for_run (f := fun d ρ => (bindT (.t [4, 5, 6, 7]) d ρ).bind fun ρ' => evSs (callF T M k) M (.cons (.asg 8 (.d (.bin .index (.bin .idx (.nm 0) (.cst (.int 0))) (.nm 6)))) (.cons (.asg 9 (.d (.bin .idx (.bin .idx (.nm 1) (.bin .sub (.nm 5) (.cst (.int 1)))) (.bin .index (.bin .idx (.nm 0) (.cst (.int 0))) (.nm 4))))) (.cons (.setO 3 (.nm 8) (.bin .mod (.bin .add (.bin .idx (.pk 3) (.nm 8)) (.bin .mul (.nm 7) (.nm 9))) (.nm 2))) .nil))) ρ') (q := Rl.d)
    (fun done ρ => ∃ x4 x5 x6 x7 x8 x9, ρ = env (fun j => nx ks done w j % m) x4 x5 x6 x7 x8 x9) rs [] (env (fun _ => 0) none none none none none none) ⟨none, none, none, none, none, none, rfl⟩ fun done r ρ _ hr ⟨x4, x5, x6, x7, x8, x9, e⟩ => by
      subst e
      have ha := B.inA r hr
      have hb := B.inB r hr
      have ht := B.t1 r hr
      have la := idx_lt ha
      have lb := idx_lt hb
      let dn := w (r.t - 1) (ks.idxOf r.a)
      refine ⟨env (fun j => nx ks (done ++ [r]) w j % m) (some (.dat (.str r.a))) (some (.dat (.int r.t))) (some (.dat (.str r.b))) (some (.dat (.int r.m))) (some (.dat (.int (ks.idxOf r.b : Nat)))) (some (.dat (.int dn))), ?_, _, _, _, _, _, _, rfl⟩
      have enx : ∀ j, nx ks (done ++ [r]) w j = nx ks done w j + term ks w j r := fun j => by
        unfold nx
        rw [List.map_append, List.sum_append]
        simp
      have eset : (fun j => if j = ks.idxOf r.b then (nx ks done w (ks.idxOf r.b) % m + r.m * dn) % m else nx ks done w j % m) = fun j => nx ks (done ++ [r]) w j % m := by
        funext j
        rw [enx]
        unfold term
        by_cases h : j = ks.idxOf r.b
        · rw [if_pos h, if_pos h, h, Int.mul_comm r.m]
          show (nx ks done w (ks.idxOf r.b) % m + dn * r.m) % m = (nx ks done w (ks.idxOf r.b) + dn * r.m) % m
          rw [Int.emod_add_emod]
        · rw [if_neg h, if_neg h, Int.add_zero]
      show evSs _ M _ (env (fun j => nx ks done w j % m) (some (.dat (.str r.a))) (some (.dat (.int r.t))) (some (.dat (.str r.b))) (some (.dat (.int r.m))) x8 x9) = _
      refine ss_nx (ρ' := env (fun j => nx ks done w j % m) (some (.dat (.str r.a))) (some (.dat (.int r.t))) (some (.dat (.str r.b))) (some (.dat (.int r.m))) (some (.dat (.int (ks.idxOf r.b : Nat)))) x9) (asg_run (i := 8) (d := .int (ks.idxOf r.b : Nat)) (bin_run ek (nm_run rfl) (index_ks B.ok hb))) ?_
      refine ss_nx (ρ' := env (fun j => nx ks done w j % m) (some (.dat (.str r.a))) (some (.dat (.int r.t))) (some (.dat (.str r.b))) (some (.dat (.int r.m))) (some (.dat (.int (ks.idxOf r.b : Nat)))) (some (.dat (.int dn)))) (asg_run (i := 9) (d := .int dn) (bin_run (bin_run (nm_run rfl) (bin_run (nm_run rfl) cst_run (show _ = some (PyData.int ((r.t - 1 : Nat) : Int)) from by
        rw [show Lit.d (.int 1) = PyData.int 1 from rfl, b_sub]; congr 2; omega)) (rowsL_idx (by omega))) (bin_run ek (nm_run rfl) (index_ks B.ok ha)) (idxL_run (vec_get la)))) ?_
      refine ss_nx (ρ' := env (fun j => nx ks (done ++ [r]) w j % m) (some (.dat (.str r.a))) (some (.dat (.int r.t))) (some (.dat (.str r.b))) (some (.dat (.int r.m))) (some (.dat (.int (ks.idxOf r.b : Nat)))) (some (.dat (.int dn)))) ?_ ss_nil
      rw [← eset]
      exact setO_run (i := 3) (n := ks.length) (q := ks.idxOf r.b) (f := fun j => nx ks done w j % m) rfl (bin_run (bin_run (bin_run (pk_run rfl) (nm_run rfl) (idxL_run (vec_get lb))) (bin_run (nm_run rfl) (nm_run rfl) (mul_run (.inl (B.small r hr)))) b_addI) (nm_run rfl) (mod_run hm)) (nm_run rfl) lb
  rw [List.nil_append] at i1
  subst i1
  refine call_run h35 rfl (ρ' := [some (.dat (bookD ks rs)), some (.dat (rowsL ks.length w)), some (.dat (.int m)), some (.dat (.list (vec ks.length fun j => nx ks rs w j % m))), x4, x5, x6, x7, x8, x9]) ?_
  refine ss_nx (ρ' := env (fun _ => 0) none none none none none none) (asgO_run (i := 3) (ds := vec ks.length fun _ => 0) (bin_run (lst_run (es_cons cst_run es_nil) (by simp)) (un_run (x := ksD ks) (bin_run (nm_run (d := bookD ks rs) rfl) cst_run book_len) (by unfold ksD; rw [u_lenT])) (by rw [List.length_map]; exact mul_rep (by omega)))) ?_
  refine ss_nx (fr_run (it_ex (bin_run (x := bookD ks rs) (nm_run rfl) cst_run (show binF .idx (bookD ks rs) (.int 1) = some (.tuple (rs.map Rl.d)) from rfl)) t_T) e1) ?_
  refine ss_nx (frz_run (i := 3) rfl) (ss_rt (ret_run (bin_run (x := .list [.list (vec ks.length fun j => nx ks rs w j % m)]) (lst_run (es_cons (nm_run rfl) es_nil) (by simp)) (slc_run (nm_run (d := rowsL ks.length w) rfl) part_no (part_yes cst_run) (by rw [rowsL_eq]; exact s_L)) ?_)))
  rw [b_addL, if_pos (fits_of (by rw [List.length_append]; have := cut_len [PyData.list (vec ks.length (w 0)), .list (vec ks.length (w 1)), .list (vec ks.length (w 2)), .list (vec ks.length (w 3))] none (some 3); simp at this ⊢; omega))]
  rfl
def mixIn : S := (.fr (.n 7) (.rng (.bin .mul (.cst (.int 4)) (.nm 3))) (.cons (.par (.cons 9 (.d (.bin .fdiv (.nm 7) (.nm 3))) (.cons 10 (.d (.bin .mod (.nm 7) (.nm 3))) .nil))) (.cons (.asg 8 (.d (.bin .mul (.bin .idx (.bin .idx (.nm 1) (.nm 5)) (.nm 6)) (.bin .idx (.bin .idx (.bin .idx (.nm 0) (.bin .add (.bin .mul (.nm 3) (.nm 5)) (.nm 6))) (.nm 9)) (.nm 10))))) (.cons (.setM 4 (.nm 9) (.nm 10) (.bin .mod (.bin .add (.midx 4 (.nm 9) (.nm 10)) (.nm 8)) (.nm 2))) .nil))))
def mixMid : S := .fr (.n 6) (.rng (.nm 3)) (.cons mixIn .nil)
/-- what becomes of four rows, by what becomes of each work alone -/
def mixR (n : Nat) (im : Nat → Rows) (w : Rows) (m : Int) : Rows := fun i j => (sumN (4 * n) fun q => w (q / n) (q % n) * im q i j) % m
theorem call_mixed (h36 : T 36 = some f_law_mixed) {n : Nat} (hn : 0 < n) (hn2 : n ≤ 5) (im : Nat → Rows) (w : Rows) {m : Int} (hm : 0 < m) (hw : ∀ i j, (w i j).natAbs < 2 ^ 64) :
    callF T M (k + 1) 36 [.list ((List.range (4 * n)).map fun q => rowsL n (im q)), rowsL n w, .int m] = some (.dat (rowsL n (mixR n im w m))) := by
  let imD : D := .list ((List.range (4 * n)).map fun q => rowsL n (im q))
  let env : (Nat → Nat → Int) → Option SV → Option SV → Option SV → Option SV → Option SV → Option SV → Bw.Env := fun f x5 x6 x7 x8 x9 x10 =>
    [some (.dat imD), some (.dat (rowsL n w)), some (.dat (.int m)), some (.dat (.int (n : Nat))), some (.mat (mt 4 n f)), x5, x6, x7, x8, x9, x10]
  let Gs : Nat → Nat → Nat → Int := fun c i j => (sumN c fun q => w (q / n) (q % n) * im q i j) % m
  have Gsucc : ∀ c i j, (Gs c i j + w (c / n) (c % n) * im c i j) % m = Gs (c + 1) i j := fun c i j => by
    show ((sumN c _) % m + _) % m = (sumN c _ + _) % m
    rw [Int.emod_add_emod]
  -- the innermost turns
  have inner : ∀ kk j x7 x8 x9 x10, kk < 4 → j < n → ∃ x7' x8' x9' x10', evS (callF T M k) M mixIn
      (env (Gs (n * kk + j)) (some (.dat (.int (kk : Nat)))) (some (.dat (.int (j : Nat)))) x7 x8 x9 x10) = some (.nx (env (Gs (n * kk + j + 1)) (some (.dat (.int (kk : Nat)))) (some (.dat (.int (j : Nat)))) x7' x8' x9' x10')) := fun kk j x7 x8 x9 x10 hk hj => by
    let c := n * kk + j
    have hc : c < 4 * n := pl_of hk hj
    let F : Nat → Nat → Nat → Int := fun at_ i l => if n * i + l < at_ then Gs (c + 1) i l else Gs c i l
    obtain ⟨ρ', e, y7, y8, y9, y10, i1⟩ := for_num (f := fun d ρ => (bindT (.n 7) d ρ).bind fun ρ' => evSs (callF T M k) M (.cons (.par (.cons 9 (.d (.bin .fdiv (.nm 7) (.nm 3))) (.cons 10 (.d (.bin .mod (.nm 7) (.nm 3))) .nil))) (.cons (.asg 8 (.d (.bin .mul (.bin .idx (.bin .idx (.nm 1) (.nm 5)) (.nm 6)) (.bin .idx (.bin .idx (.bin .idx (.nm 0) (.bin .add (.bin .mul (.nm 3) (.nm 5)) (.nm 6))) (.nm 9)) (.nm 10))))) (.cons (.setM 4 (.nm 9) (.nm 10) (.bin .mod (.bin .add (.midx 4 (.nm 9) (.nm 10)) (.nm 8)) (.nm 2))) .nil))) ρ')
      (fun i => .int ((i : Nat) : Int)) (fun a ρ => ∃ x7 x8 x9 x10, ρ = env (F a) (some (.dat (.int (kk : Nat)))) (some (.dat (.int (j : Nat)))) x7 x8 x9 x10) (4 * n) (fun a ρ ha ⟨x7, x8, x9, x10, e⟩ => by
        subst e
        obtain ⟨l1, l2⟩ := pl_lt ha
        let part := w kk j * im c (a / n) (a % n)
        refine ⟨env (F (a + 1)) (some (.dat (.int (kk : Nat)))) (some (.dat (.int (j : Nat)))) (some (.dat (.int (a : Nat)))) (some (.dat (.int part))) (some (.dat (.int ((a / n : Nat) : Int)))) (some (.dat (.int ((a % n : Nat) : Int)))), ?_, _, _, _, _, rfl⟩
        show evSs _ M _ (env (F a) (some (.dat (.int (kk : Nat)))) (some (.dat (.int (j : Nat)))) (some (.dat (.int (a : Nat)))) x8 x9 x10) = _
        refine ss_nx (ρ' := env (F a) (some (.dat (.int (kk : Nat)))) (some (.dat (.int (j : Nat)))) (some (.dat (.int (a : Nat)))) x8 (some (.dat (.int ((a / n : Nat) : Int)))) (some (.dat (.int ((a % n : Nat) : Int))))) (par_run (rs_d (d := .int ((a / n : Nat) : Int)) (bin_run (nm_run rfl) (nm_run rfl) (by rw [fdiv_run (by omega) (by omega)]; congr 2)) (rs_d (d := .int ((a % n : Nat) : Int)) (bin_run (nm_run rfl) (nm_run rfl) (by rw [mod_run (by omega)]; congr 2)) rs_nil))) ?_
        refine ss_nx (ρ' := env (F a) (some (.dat (.int (kk : Nat)))) (some (.dat (.int (j : Nat)))) (some (.dat (.int (a : Nat)))) (some (.dat (.int part))) (some (.dat (.int ((a / n : Nat) : Int)))) (some (.dat (.int ((a % n : Nat) : Int))))) (asg_run (i := 8) (d := .int part) (bin_run (x := .int (w kk j)) (y := .int (im c (a / n) (a % n))) (bin_run (bin_run (nm_run rfl) (nm_run rfl) (rowsL_idx hk)) (nm_run rfl) (idxL_run (vec_get hj)))
          (bin_run (bin_run (bin_run (x := imD) (nm_run rfl) (bin_run (bin_run (nm_run rfl) (nm_run rfl) (mul_run (.inr (by omega)))) (nm_run rfl) (show _ = some (PyData.int ((c : Nat) : Int)) from by rw [b_addI, Int.natCast_add, Int.natCast_mul])) (idxL_run (show ((List.range (4 * n)).map fun q => rowsL n (im q))[c]? = some (rowsL n (im c)) from by simp [hc]))) (nm_run rfl) (rowsL_idx l1)) (nm_run rfl) (idxL_run (vec_get l2))) (mul_run (.inl (hw _ _))))) ?_
        refine ss_nx (ρ' := env (F (a + 1)) (some (.dat (.int (kk : Nat)))) (some (.dat (.int (j : Nat)))) (some (.dat (.int (a : Nat)))) (some (.dat (.int part))) (some (.dat (.int ((a / n : Nat) : Int)))) (some (.dat (.int ((a % n : Nat) : Int))))) ?_ ss_nil
        have hset := setM_run (cf := callF T M k) (M := M) (ρ := env (F a) (some (.dat (.int (kk : Nat)))) (some (.dat (.int (j : Nat)))) (some (.dat (.int (a : Nat)))) (some (.dat (.int part))) (some (.dat (.int ((a / n : Nat) : Int)))) (some (.dat (.int ((a % n : Nat) : Int))))) (i := 4) (N := 4) (n := n) (p := a / n) (q := a % n) (a := .nm 9) (b := .nm 10) (f := F a)
          (v := .bin .mod (.bin .add (.midx 4 (.nm 9) (.nm 10)) (.nm 8)) (.nm 2)) (y := (F a (a / n) (a % n) + part) % m) rfl (bin_run (bin_run (midx_run (i := 4) (f := F a) rfl (nm_run rfl) (nm_run rfl) l1 l2) (nm_run rfl) b_addI) (nm_run rfl) (mod_run hm)) (nm_run rfl) (nm_run rfl) l1 l2
        rw [hset]
        have e2 : mt 4 n (fun p' q' => if p' = a / n ∧ q' = a % n then (F a (a / n) (a % n) + part) % m else F a p' q') = mt 4 n (F (a + 1)) := by
          refine mt_congr fun i l hi hl => ?_
          have hda := Nat.div_add_mod a n
          by_cases h : i = a / n ∧ l = a % n
          · rw [if_pos h, h.1, h.2]
            show ((if n * (a / n) + a % n < a then Gs (c + 1) (a / n) (a % n) else Gs c (a / n) (a % n)) + part) % m = if n * (a / n) + a % n < a + 1 then Gs (c + 1) (a / n) (a % n) else Gs c (a / n) (a % n)
            rw [hda, if_neg (by omega), if_pos (by omega), ← Gsucc c]
            show (_ + w kk j * _) % m = (_ + w ((n * kk + j) / n) ((n * kk + j) % n) * _) % m
            rw [pl_div hj, pl_mod hj]
          · rw [if_neg h]
            show (if n * i + l < a then Gs (c + 1) i l else Gs c i l) = if n * i + l < a + 1 then Gs (c + 1) i l else Gs c i l
            have hne : n * i + l ≠ a := fun z => h (by rw [← z, pl_div hl, pl_mod hl]; exact ⟨rfl, rfl⟩)
            by_cases h2 : n * i + l < a
            · rw [if_pos h2, if_pos (by omega)]
            · rw [if_neg h2, if_neg (by omega)]
        rw [e2]
        rfl) (4 * n) 0 (env (Gs (n * kk + j)) (some (.dat (.int (kk : Nat)))) (some (.dat (.int (j : Nat)))) x7 x8 x9 x10) (by omega) ⟨x7, x8, x9, x10, by
          have : F 0 = Gs (n * kk + j) := by
            funext i l
            show (if n * i + l < 0 then _ else _) = _
            rw [if_neg (by omega)]
          rw [this]⟩
    refine ⟨y7, y8, y9, y10, fr_run (ds := (List.range' 0 (4 * n)).map fun i => PyData.int ((i : Nat) : Int)) ?_ ?_⟩
    · rw [← List.range_eq_range']
      refine it_rng (bin_run cst_run (nm_run rfl) ?_) (by omega)
      rw [show Lit.d (.int 4) = PyData.int 4 from rfl, mul_run (.inl (by decide))]
      congr 2
    · rw [e, i1]
      have : mt 4 n (F (4 * n)) = mt 4 n (Gs (n * kk + j + 1)) := mt_congr fun i l hi hl => by
        show (if n * i + l < 4 * n then _ else _) = _
        rw [if_pos (pl_of hi hl)]
      show some (Out.nx (env (F (4 * n)) _ _ _ _ _ _)) = _
      show some (Out.nx [_, _, _, _, some (SV.mat (mt 4 n (F (4 * n)))), _, _, _, _, _, _]) = _
      rw [this]
  have middle : ∀ kk x6 x7 x8 x9 x10, kk < 4 → ∃ x6' x7' x8' x9' x10', evS (callF T M k) M mixMid
      (env (Gs (n * kk)) (some (.dat (.int (kk : Nat)))) x6 x7 x8 x9 x10) = some (.nx (env (Gs (n * (kk + 1))) (some (.dat (.int (kk : Nat)))) x6' x7' x8' x9' x10')) := fun kk x6 x7 x8 x9 x10 hk => by
    obtain ⟨ρ', e, y6, y7, y8, y9, y10, i1⟩ := for_num (f := fun d ρ => (bindT (.n 6) d ρ).bind fun ρ' => evSs (callF T M k) M (.cons mixIn .nil) ρ')
      (fun i => .int ((i : Nat) : Int)) (fun a ρ => ∃ x6 x7 x8 x9 x10, ρ = env (Gs (n * kk + a)) (some (.dat (.int (kk : Nat)))) x6 x7 x8 x9 x10) n (fun a ρ ha ⟨x6, x7, x8, x9, x10, e⟩ => by
        subst e
        obtain ⟨y7, y8, y9, y10, e⟩ := inner kk a x7 x8 x9 x10 hk ha
        refine ⟨env (Gs (n * kk + a + 1)) (some (.dat (.int (kk : Nat)))) (some (.dat (.int (a : Nat)))) y7 y8 y9 y10, ?_, some (.dat (.int (a : Nat))), y7, y8, y9, y10, rfl⟩
        have h : evSs (callF T M k) M (.cons mixIn .nil) (env (Gs (n * kk + a)) (some (.dat (.int (kk : Nat)))) (some (.dat (.int (a : Nat)))) x7 x8 x9 x10) = some (.nx (env (Gs (n * kk + a + 1)) (some (.dat (.int (kk : Nat)))) (some (.dat (.int (a : Nat)))) y7 y8 y9 y10)) := ss_nx e ss_nil
        show (bindT (.n 6) (.int (a : Nat)) (env (Gs (n * kk + a)) (some (.dat (.int (kk : Nat)))) x6 x7 x8 x9 x10)).bind _ = _
        rw [show bindT (.n 6) (.int (a : Nat)) (env (Gs (n * kk + a)) (some (.dat (.int (kk : Nat)))) x6 x7 x8 x9 x10) = some (env (Gs (n * kk + a)) (some (.dat (.int (kk : Nat)))) (some (.dat (.int (a : Nat)))) x7 x8 x9 x10) from rfl, Option.bind_some]
        exact h) n 0 (env (Gs (n * kk)) (some (.dat (.int (kk : Nat)))) x6 x7 x8 x9 x10) (by omega) ⟨x6, x7, x8, x9, x10, rfl⟩
    refine ⟨y6, y7, y8, y9, y10, fr_run (ds := (List.range' 0 n).map fun i => PyData.int ((i : Nat) : Int)) ?_ ?_⟩
    · rw [← List.range_eq_range']
      exact it_rng (nm_run rfl) (by omega)
    · rw [e, i1, show n * (kk + 1) = n * kk + n from by rw [Nat.mul_add, Nat.mul_one]]
  obtain ⟨ρ', e, y5, y6, y7, y8, y9, y10, i1⟩ := for_num (f := fun d ρ => (bindT (.n 5) d ρ).bind fun ρ' => evSs (callF T M k) M (.cons mixMid .nil) ρ')
      (fun i => .int ((i : Nat) : Int)) (fun a ρ => ∃ x5 x6 x7 x8 x9 x10, ρ = env (Gs (n * a)) x5 x6 x7 x8 x9 x10) 4 (fun a ρ ha ⟨x5, x6, x7, x8, x9, x10, e⟩ => by
        subst e
        obtain ⟨y6, y7, y8, y9, y10, e⟩ := middle a x6 x7 x8 x9 x10 ha
        refine ⟨env (Gs (n * (a + 1))) (some (.dat (.int (a : Nat)))) y6 y7 y8 y9 y10, ?_, some (.dat (.int (a : Nat))), y6, y7, y8, y9, y10, rfl⟩
        have h : evSs (callF T M k) M (.cons mixMid .nil) (env (Gs (n * a)) (some (.dat (.int (a : Nat)))) x6 x7 x8 x9 x10) = some (.nx (env (Gs (n * (a + 1))) (some (.dat (.int (a : Nat)))) y6 y7 y8 y9 y10)) := ss_nx e ss_nil
        show (bindT (.n 5) (.int (a : Nat)) (env (Gs (n * a)) x5 x6 x7 x8 x9 x10)).bind _ = _
        rw [show bindT (.n 5) (.int (a : Nat)) (env (Gs (n * a)) x5 x6 x7 x8 x9 x10) = some (env (Gs (n * a)) (some (.dat (.int (a : Nat)))) x6 x7 x8 x9 x10) from rfl, Option.bind_some]
        exact h) 4 0 (env (fun _ _ => 0) none none none none none none) rfl ⟨none, none, none, none, none, none, by
          have : Gs (n * 0) = fun _ _ => 0 := by
            funext i l
            rw [Nat.mul_zero]
            exact Int.zero_emod m
          rw [this]⟩
  have ef : rowsL n (mixR n im w m) = matD 4 n (Gs (n * 4)) := by rw [Nat.mul_comm]; rfl
  rw [ef]
  subst i1
  refine call_run h36 rfl (ρ' := [some (.dat imD), some (.dat (rowsL n w)), some (.dat (.int m)), some (.dat (.int (n : Nat))), some (.dat (matD 4 n (Gs (n * 4)))), y5, y6, y7, y8, y9, y10]) ?_
  refine ss_nx (ρ' := [some (.dat imD), some (.dat (rowsL n w)), some (.dat (.int m)), some (.dat (.int (n : Nat))), none, none, none, none, none, none, none]) (asg_run (i := 3) (d := .int (n : Nat)) (un_run (bin_run (nm_run (d := rowsL n w) rfl) cst_run (rowsL_idx (i := 0) (by decide))) (by rw [u_lenL, vec_length]))) ?_
  refine ss_nx (ρ' := env (fun _ _ => 0) none none none none none none) (asgM_run (i := 4) (lc_mat (N := 4) (f := fun _ _ => 0) cst_run (by omega) fun j hj => bin_run (lst_run (es_cons cst_run es_nil) (by simp)) (nm_run rfl) (mul_rep (by omega)))) ?_
  refine ss_nx (fr_run (ds := (List.range' 0 4).map fun i => PyData.int ((i : Nat) : Int)) (by rw [← List.range_eq_range']; exact it_rng (n := 4) cst_run (by omega)) e) ?_
  refine ss_nx (frzM_run (i := 4) rfl) (ss_rt (ret_run (nm_run rfl)))
end
end Bw

/-! plain, part 14: far away by steps doubled. -/
namespace Bw
open PySem

section
variable {T : Nat → Option FD} {M k : Nat} {ks : List Str} {rs : List Rl}
theorem Pw_pl {m i j q : Nat} (hj : j < ks.length) : Pw ks rs m (ks.length * i + j) q = It ks rs m (uR ks.length q) i j := by
  unfold Pw
  rw [pl_div hj, pl_mod hj]
/-- after so many beats, rests alone -/
def farR (ks : List Str) (rs : List Rl) (s : Nat → Int) (m : Int) (a : Nat) : Rows := fun i j => It ks rs a (rows0 s) i j % m
/-- what comes of each work alone -/
def imgR (ks : List Str) (rs : List Rl) (m : Int) (a q : Nat) : Rows := fun i j => It ks rs a (uR ks.length q) i j % m
theorem mix_far (R : RlOk ks rs) (w : Rows) (m : Int) (a b i j : Nat) (hi : i < 4) (hj : j < ks.length) : mixR ks.length (imgR ks rs m a) (fun i j => It ks rs b w i j % m) m i j = It ks rs (b + a) w i j % m := by
  unfold mixR
  rw [Nat.add_comm, It_plus, It_whole R (It ks rs b w) a i j hi hj]
  exact sumN_mod fun q _ => mul_mod_congr (emod_emod' _ _) (emod_emod' _ _)
theorem img_1 (R : RlOk ks rs) {m : Nat} (hm : 2 ≤ m) (q i j : Nat) (hi : i < 4) (hj : j < ks.length) : stepR ks rs (uR ks.length q) (m : Nat) i j = imgR ks rs (m : Nat) 1 q i j := by
  unfold stepR imgR
  show _ = rows1 ks rs (uR ks.length q) i j % (m : Nat)
  unfold rows1
  by_cases h : i = 0
  · rw [if_pos h, if_pos h]
  · rw [if_neg h, if_neg h]
    unfold uR
    by_cases h2 : ks.length * (i - 1) + j = q
    · rw [if_pos h2, Int.emod_eq_of_lt (by omega) (by omega)]
    · rw [if_neg h2]
      rfl
theorem call_far (h35 : T 35 = some f_law_step) (h36 : T 36 = some f_law_mixed) (h37 : T 37 = some f_law_far) (B : BookOk ks rs) (s : Nat → Int) (hs : ∀ j, 0 ≤ s j ∧ s j < 10) {b m : Nat} (hm : 2 ≤ m) (hm2 : m < 2 ^ 31) {lg : Nat} (hb : b < 2 ^ lg) (hM : lg < M) :
    callF T M (k + 2) 37 [bookD ks rs, .tuple (vec ks.length s), .int (b : Nat), .int (m : Nat)] = some (.dat (rowsL ks.length (farR ks rs s (m : Nat) b))) := by
  have few := B.few
  have pos := B.pos
  obtain ⟨n, n1, n2, n3⟩ := bits lg b hb
  have hmp : (0 : Int) < (m : Nat) := by omega
  let N := 4 * ks.length
  have hN : N = 4 * ks.length := rfl
  let imD : Nat → D := fun i => .list ((List.range N).map fun q => rowsL ks.length (imgR ks rs (m : Nat) (2 ^ i) q))
  have ims : ∀ a q i j, (imgR ks rs (m : Nat) a q i j).natAbs < 2 ^ 64 := fun a q i j => mod_small hmp (by omega)
  have fas : ∀ a i j, (farR ks rs s (m : Nat) a i j).natAbs < 2 ^ 64 := fun a i j => mod_small hmp (by omega)
  let env : Nat → Option SV → Option SV → Option SV → Bw.Env := fun i x6 x8 x9 => [some (.dat (bookD ks rs)), some (.dat (.tuple (vec ks.length s))), some (.dat (.int ((b / 2 ^ i : Nat) : Int))), some (.dat (.int (m : Nat))), some (.dat (.int (ks.length : Nat))), some (.dat (imD i)), x6, some (.dat (rowsL ks.length (farR ks rs s (m : Nat) (b % 2 ^ i)))), x8, none, none, none, none]
  let cf := callF T M (k + 1)
  -- the images at first
  let pre : List D → Option SV → Option SV → Bw.Env := fun L x6 x8 => [some (.dat (bookD ks rs)), some (.dat (.tuple (vec ks.length s))), some (.dat (.int (b : Nat))), some (.dat (.int (m : Nat))), some (.dat (.int (ks.length : Nat))), some (.own L), x6, none, x8, none, none, none, none]
  let im1 : Nat → D := fun q => rowsL ks.length (imgR ks rs (m : Nat) 1 q)
  obtain ⟨ρ1, e1, x6, x8, i1⟩ := for_num (f := fun d ρ => (bindT (.n 6) d ρ).bind fun ρ' => evSs cf M (.cons (.asg 8 (.d (.lc [9] (.n 9) (.rng (.cst (.int 4))) .no (.lc [11] (.n 11) (.rng (.nm 4)) .no (.un .int (.bin .eq (.bin .add (.bin .mul (.nm 4) (.nm 9)) (.nm 11)) (.nm 6))))))) (.cons (.app 5 (.call 35 (.cons (.nm 0) (.cons (.nm 8) (.cons (.nm 3) .nil))))) .nil)) ρ')
    (fun i => .int ((i : Nat) : Int)) (fun i ρ => ∃ x6 x8, ρ = pre ((List.range i).map im1) x6 x8) N (fun q ρ hq ⟨x6, x8, e⟩ => by
      subst e
      refine ⟨pre ((List.range (q + 1)).map im1) (some (.dat (.int (q : Nat)))) (some (.dat (rowsL ks.length (uR ks.length q)))), ?_, _, _, rfl⟩
      show (bindT (.n 6) (.int (q : Nat)) (pre ((List.range q).map im1) x6 x8)).bind _ = _
      rw [show bindT (.n 6) (.int (q : Nat)) (pre ((List.range q).map im1) x6 x8) = some (pre ((List.range q).map im1) (some (.dat (.int (q : Nat)))) x8) from rfl, Option.bind_some]
      refine ss_nx (ρ' := pre ((List.range q).map im1) (some (.dat (.int (q : Nat)))) (some (.dat (rowsL ks.length (uR ks.length q))))) (asg_run (i := 8) (d := rowsL ks.length (uR ks.length q)) (lc_mat (N := 4) (f := fun i j => uR ks.length q i j) cst_run (by omega) fun i hi => lc_vec (nm_run rfl) (by omega) fun j hj => ?_)) ?_
      · refine un_run (bin_run (x := .int ((ks.length * i + j : Nat) : Int)) (bin_run (bin_run (nm_run rfl) (nm_run rfl) (mul_run (.inl (by omega)))) (nm_run rfl) (by rw [b_addI, Int.natCast_add, Int.natCast_mul])) (nm_run rfl) b_eqI) ?_
        rw [u_intB]
        unfold uR
        by_cases h : ks.length * i + j = q
        · rw [if_pos h, h]; simp
        · rw [if_neg h, beq_eq_false_iff_ne.mpr (by omega)]; rfl
      · refine ss_nx (ρ' := pre ((List.range (q + 1)).map im1) (some (.dat (.int (q : Nat)))) (some (.dat (rowsL ks.length (uR ks.length q))))) ?_ ss_nil
        rw [List.range_succ, List.map_append]
        refine app_run (i := 5) (d := im1 q) (ds := (List.range q).map im1) (call_e (es_cons (nm_run rfl) (es_cons (nm_run rfl) (es_cons (nm_run rfl) es_nil))) (call_step (k := k) h35 B (uR ks.length q) hmp) ?_) rfl (by rw [List.length_map, List.length_range]; omega)
        exact congrArg some (rowsL_congr fun i j hi hj => img_1 B.rl hm q i j hi hj)) N 0 (pre [] none none) (by omega) ⟨none, none, rfl⟩
  subst i1
  refine call_run h37 rfl (ρ' := env n x6 x8 none) ?_
  have elen : evE cf (.un .len (.bin .idx (.nm 0) (.cst (.int 0)))) false [some (.dat (bookD ks rs)), some (.dat (.tuple (vec ks.length s))), some (.dat (.int (b : Nat))), some (.dat (.int (m : Nat))), none, none, none, none, none, none, none, none, none] = some (.int (ks.length : Nat)) := un_run (bin_run (nm_run rfl) cst_run book_len) (by unfold ksD; rw [u_lenT, List.length_map])
  refine ss_nx (ρ' := [some (.dat (bookD ks rs)), some (.dat (.tuple (vec ks.length s))), some (.dat (.int (b : Nat))), some (.dat (.int (m : Nat))), some (.dat (.int (ks.length : Nat))), none, none, none, none, none, none, none, none]) (asg_run (i := 4) (d := .int (ks.length : Nat)) elen) ?_
  refine ss_nx (ρ' := pre [] none none) (asgO_run (i := 5) (lst_run es_nil (by simp))) ?_
  refine ss_nx (fr_run (ds := (List.range' 0 N).map fun i => PyData.int ((i : Nat) : Int)) ?_ e1) ?_
  · rw [← List.range_eq_range']
    refine it_rng (bin_run cst_run (nm_run rfl) ?_) (by omega)
    rw [show Lit.d (.int 4) = PyData.int 4 from rfl, mul_run (.inl (by decide))]
    congr 2
  let mid : Bw.Env := [some (.dat (bookD ks rs)), some (.dat (.tuple (vec ks.length s))), some (.dat (.int (b : Nat))), some (.dat (.int (m : Nat))), some (.dat (.int (ks.length : Nat))), some (.dat (imD 0)), x6, none, x8, none, none, none, none]
  refine ss_nx (ρ' := mid) (frz_run (i := 5) rfl) ?_
  have e0 : env 0 x6 x8 none = [some (.dat (bookD ks rs)), some (.dat (.tuple (vec ks.length s))), some (.dat (.int (b : Nat))), some (.dat (.int (m : Nat))), some (.dat (.int (ks.length : Nat))), some (.dat (imD 0)), x6, some (.dat (rowsL ks.length (farR ks rs s (m : Nat) 0))), x8, none, none, none, none] := by
    show [_, _, some (SV.dat (.int ((b / 2 ^ 0 : Nat) : Int))), _, _, _, _, some (SV.dat (rowsL ks.length (farR ks rs s (m : Nat) (b % 2 ^ 0)))), _, _, _, _, _] = _
    rw [Nat.pow_zero, Nat.div_one, Nat.mod_one]
  refine ss_nx (ρ' := env 0 x6 x8 none) (by
    rw [e0]
    refine asg_run (i := 7) (d := rowsL ks.length (farR ks rs s (m : Nat) 0)) (bin_run (x := .list [.list (vec ks.length fun j => s j % (m : Nat))]) (y := matD 3 ks.length fun _ _ => 0) (lst_run (es_cons (lc_n (L := List.range ks.length) (q := fun j => .int (s j)) (g := fun j => .int (s j % (m : Nat))) (it_ex (nm_run (d := .tuple (vec ks.length s)) rfl) t_T) (fun _ _ => cond_no) fun j hj => bin_run (nm_run rfl) (nm_run rfl) (mod_run hmp)) es_nil) (by simp))
      (lc_mat (N := 3) (f := fun _ _ => 0) cst_run (by omega) fun j hj => bin_run (lst_run (es_cons cst_run es_nil) (by simp)) (nm_run rfl) (mul_rep (by omega))) ?_)
    show binF .add (.list [.list (vec ks.length fun j => s j % (m : Nat))]) (.list [.list (vec ks.length fun _ => 0), .list (vec ks.length fun _ => 0), .list (vec ks.length fun _ => 0)]) = _
    rw [b_addL, if_pos (fits_of (by simp)), rowsL_eq]
    have ez : ∀ i, i ≠ 0 → vec ks.length (farR ks rs s (m : Nat) 0 i) = vec ks.length fun _ => 0 := fun i hi => vec_congr fun j _ => by
      show (if i = 0 then s j else 0) % (m : Int) = 0
      rw [if_neg hi]
      rfl
    rw [ez 1 (by decide), ez 2 (by decide), ez 3 (by decide)]
    rfl) ?_
  refine ss_nx (ρ' := env n x6 x8 none) (whl_run' (whl_run (fun i => env i x6 x8 none) n (fun i hi => ?_) (fun i hi => ?_) ?_ n 0 M (by omega) (by omega))) (ss_rt (ret_run ?_))
  · refine bin_run (nm_run rfl) cst_run ?_
    have := n2 i hi
    rw [show Lit.d (.int 0) = PyData.int 0 from rfl, b_gt, decide_eq_true (by omega)]
  · let env2 : Bw.Env := [some (.dat (bookD ks rs)), some (.dat (.tuple (vec ks.length s))), some (.dat (.int ((b / 2 ^ i : Nat) : Int))), some (.dat (.int (m : Nat))), some (.dat (.int (ks.length : Nat))), some (.dat (imD i)), x6, some (.dat (rowsL ks.length (farR ks rs s (m : Nat) (b % 2 ^ (i + 1))))), x8, none, none, none, none]
    have eodd : evE cf (.bin .eq (.bin .mod (.nm 2) (.cst (.int 2))) (.cst (.int 1))) false (env i x6 x8 none) = some (.bool (decide (b / 2 ^ i % 2 = 1))) := bin_run (bin_run (nm_run rfl) cst_run (odd_b _)) cst_run (by
      show some (PyData.bool (((b / 2 ^ i % 2 : Nat) : Int) == 1)) = _
      congr 2
      by_cases h : b / 2 ^ i % 2 = 1
      · rw [h, decide_eq_true rfl]; rfl
      · rw [decide_eq_false h]
        exact beq_eq_false_iff_ne.mpr (by omega))
    refine ss_nx (ρ' := env2) ?_ ?_
    · by_cases h : b / 2 ^ i % 2 = 1
      · rw [decide_eq_true h] at eodd
        refine ifs_t eodd (ss_nx (ρ' := env2) (asg_run (i := 7) (d := rowsL ks.length (farR ks rs s (m : Nat) (b % 2 ^ (i + 1)))) (call_e (es_cons (nm_run rfl) (es_cons (nm_run rfl) (es_cons (nm_run rfl) es_nil))) (call_mixed (k := k) h36 pos few (imgR ks rs (m : Nat) (2 ^ i)) (farR ks rs s (m : Nat) (b % 2 ^ i)) hmp (fas _)) (show some _ = some _ from congrArg some (rowsL_congr fun i' j' hi' hj' => ?_)))) ss_nil)
        rw [rest_next, if_pos h]
        exact mix_far B.rl (rows0 s) (m : Nat) (2 ^ i) (b % 2 ^ i) i' j' hi' hj'
      · rw [decide_eq_false h] at eodd
        have : env2 = env i x6 x8 none := by
          show [_, _, _, _, _, _, _, some (SV.dat (rowsL ks.length (farR ks rs s (m : Nat) (b % 2 ^ (i + 1))))), _, _, _, _, _] = [_, _, _, _, _, _, _, some (SV.dat (rowsL ks.length (farR ks rs s (m : Nat) (b % 2 ^ i)))), _, _, _, _, _]
          rw [rest_next, if_neg h]
        rw [this]
        exact ifs_f eodd ss_nil
    refine ss_nx (ρ' := [some (.dat (bookD ks rs)), some (.dat (.tuple (vec ks.length s))), some (.dat (.int ((b / 2 ^ i : Nat) : Int))), some (.dat (.int (m : Nat))), some (.dat (.int (ks.length : Nat))), some (.dat (imD (i + 1))), x6, some (.dat (rowsL ks.length (farR ks rs s (m : Nat) (b % 2 ^ (i + 1))))), x8, none, none, none, none]) (asg_run (i := 5) (d := imD (i + 1)) ?_) ?_
    · refine lc_n (L := List.range N) (q := fun q => rowsL ks.length (imgR ks rs (m : Nat) (2 ^ i) q)) (g := fun q => rowsL ks.length (imgR ks rs (m : Nat) (2 ^ (i + 1)) q)) (it_ex (nm_run (d := imD i) rfl) t_L) (fun _ _ => cond_no) fun q hq => ?_
      refine call_e (es_cons (nm_run rfl) (es_cons (nm_run rfl) (es_cons (nm_run rfl) es_nil))) (call_mixed (k := k) h36 pos few (imgR ks rs (m : Nat) (2 ^ i)) (imgR ks rs (m : Nat) (2 ^ i) q) hmp (ims _ _)) (show some _ = some _ from congrArg some (rowsL_congr fun i' j' hi' hj' => ?_))
      rw [Nat.pow_succ, show 2 ^ i * 2 = 2 ^ i + 2 ^ i from by omega]
      exact mix_far B.rl (uR ks.length q) (m : Nat) (2 ^ i) (2 ^ i) i' j' hi' hj'
    · refine ss_nx (ρ' := env (i + 1) x6 x8 none) (asg_run (i := 2) (d := .int ((b / 2 ^ (i + 1) : Nat) : Int)) (bin_run (nm_run rfl) cst_run (by rw [halved]; exact half_b _))) ss_nil
  · refine bin_run (nm_run rfl) cst_run ?_
    rw [show Lit.d (.int 0) = PyData.int 0 from rfl, b_gt, n3]
    rfl
  · have en : b % 2 ^ n = b := Nat.mod_eq_of_lt (Nat.lt_of_not_ge fun z => by
      have := Nat.div_pos z (Nat.pow_pos (by decide : 0 < 2))
      omega)
    refine nm_run ?_
    show some (some (SV.dat (rowsL ks.length (farR ks rs s (m : Nat) (b % 2 ^ n))))) = _
    rw [en]
end
end Bw

/-! plain, part 15: what the laws share. -/
namespace Bw
open PySem

abbrev sdd (d : D) : Option SV := some (.dat d)
theorem eq_self' {d : D} (h : shp d = true) : binF .eq d d = some (.bool true) := by
  have hc : d.canLay0 = true := (Bool.and_eq_true_iff.mp h).1
  show (if shp d && shp d then _ else none) = _
  rw [h]
  show some (PyData.bool (PyData.eqv d d)) = _
  rw [eqv_self d hc]
theorem for_inv {f : D → Bw.Env → Option Out} {α : Type} {q : α → D} (I : Bw.Env → Prop) : ∀ (L : List α) (ρ : Bw.Env), I ρ → (∀ a ∈ L, ∀ ρ, I ρ → ∃ ρ', f (q a) ρ = some (.nx ρ') ∧ I ρ') → ∃ ρ', forF f (L.map q) ρ = some (.nx ρ') ∧ I ρ'
  | [], ρ, h, _ => ⟨ρ, rfl, h⟩
  | a :: L, ρ, h, st => by
    obtain ⟨ρ1, e1, h1⟩ := st a List.mem_cons_self ρ h
    obtain ⟨ρ2, e2, h2⟩ := for_inv I L ρ1 h1 fun b hb => st b (List.mem_cons_of_mem _ hb)
    refine ⟨ρ2, ?_, h2⟩
    rw [List.map_cons]
    unfold forF
    rw [e1]
    exact e2
theorem cut_to {α : Type} {g : Nat → α} {n m : Nat} (h : m ≤ n) : cut ((List.range n).map g) none (some (m : Nat)) = (List.range m).map g := by
  unfold cut
  rw [HT.sIx_none, HT.sIx_nat, List.length_map, List.length_range, Nat.min_eq_left h, Nat.sub_zero, List.drop_zero, ← List.map_take, List.take_range, Nat.min_eq_left h]
theorem cut_from {L : List Int} {a : Nat} (h : a ≤ L.length) : cut (L.map PyData.int) (some (a : Nat)) none = (L.drop a).map PyData.int := by
  unfold cut
  rw [HT.sIx_none, HT.sIx_nat, List.length_map, Nat.min_eq_left h, ← List.map_drop]
  exact List.take_of_length_le (by simp)
section
variable {cf : Nat → List D → Option RV} {M : Nat} {ρ : Bw.Env}
theorem ne_vec {a c : E} {n : Nat} {f f' : Nat → Int} (h1 : evE cf a true ρ = some (.tuple (vec n f))) (h2 : evE cf c true ρ = some (.tuple (vec n f'))) (e : ∀ j, j < n → f j = f' j) : evE cf (.bin .ne a c) false ρ = some (.bool false) := by
  refine bin_run h1 h2 ?_
  rw [vec_congr e]
  exact ne_self (shp_vec n f')
theorem tup_vec {e : E} {b : Bool} {n : Nat} {f : Nat → Int} (h : evE cf e true ρ = some (.list (vec n f))) : evE cf (.un .tuple e) b ρ = some (.tuple (vec n f)) := un_run h u_tupL
end
end Bw

/-! plain, part 16: beginnings told from what is seen. -/
namespace Bw
open PySem

/-! ### the most of some -/
theorem foldmax_le : ∀ (ns : List Int) (n x : Int), x ≤ n ∨ x ∈ ns → x ≤ ns.foldl max n
  | [], n, x, h => by
    rcases h with h | h
    · exact h
    · cases h
  | k :: r, n, x, h => by
    rw [List.foldl_cons]
    refine foldmax_le r (max n k) x ?_
    rcases h with h | h
    · exact .inl (by omega)
    · rcases List.mem_cons.mp h with rfl | h
      · exact .inl (by omega)
      · exact .inr h
theorem foldmax_of : ∀ (ns : List Int) (n b : Int), n ≤ b → (∀ x ∈ ns, x ≤ b) → ns.foldl max n ≤ b
  | [], n, b, h, _ => h
  | k :: r, n, b, h, hr => by
    rw [List.foldl_cons]
    exact foldmax_of r (max n k) b (by have := hr k List.mem_cons_self; omega) fun x hx => hr x (List.mem_cons_of_mem _ hx)
theorem comparable_ints {L : List Int} : comparable (L.map PyData.int) = true := by
  have hx : ∀ y ∈ L.map PyData.int, ∃ i : Int, y = .int i := fun y hy => by
    obtain ⟨j, _, rfl⟩ := List.mem_map.mp hy
    exact ⟨_, rfl⟩
  unfold comparable
  rw [Bool.and_eq_true, Bool.and_eq_true]
  refine ⟨⟨?_, ?_⟩, ?_⟩
  · unfold alikeL
    simp only [List.all_eq_true]
    intro a ha b hb
    obtain ⟨i, rfl⟩ := hx a ha
    obtain ⟨j, rfl⟩ := hx b hb
    rfl
  · simp only [List.all_eq_true]
    intro a ha
    obtain ⟨i, rfl⟩ := hx a ha
    rfl
  · obtain ⟨h1, h2⟩ := flat_lay (L := L.map PyData.int) (by
      simp only [List.all_eq_true]
      intro a ha
      obtain ⟨i, rfl⟩ := hx a ha
      rfl)
    show (PyData.canLay0 (.list _) && decide (PyData.depth (.list _) ≤ 64)) = true
    simp [PyData.canLay0, PyData.depth, h1, h2]
theorem max_ints (n : Int) (ns : List Int) : unF .max (.list ((n :: ns).map PyData.int)) = some (.int (ns.foldl max n)) := by
  rw [List.map_cons]
  show (if comparable (PyData.int n :: ns.map PyData.int) then some (W.maxD (.int n) (ns.map .int)) else none) = _
  have := comparable_ints (L := n :: ns)
  rw [List.map_cons] at this
  rw [this, if_pos rfl, W.maxD_ints]
/-! ### lists of rows -/
theorem depthAll_le {L : List D} {c : Nat} : (∀ d ∈ L, d.depth ≤ c) → PyData.depthAll L ≤ c := by
  induction L with
  | nil => intro _; exact Nat.zero_le _
  | cons x L ih =>
    intro h
    have h1 := h x List.mem_cons_self
    have h2 := ih fun d hd => h d (List.mem_cons_of_mem _ hd)
    show max x.depth (PyData.depthAll L) ≤ c
    omega
theorem layAll_of {L : List D} : (∀ d ∈ L, d.canLay0 = true) → PyData.canLayAll0 L = true := by
  induction L with
  | nil => intro _; rfl
  | cons x L ih =>
    intro h
    show (x.canLay0 && PyData.canLayAll0 L) = true
    rw [h x List.mem_cons_self, ih fun d hd => h d (List.mem_cons_of_mem _ hd)]
    rfl
/-- a list of things of little depth -/
theorem shp_list {L : List D} {c : Nat} (hc : c ≤ 60) (h : ∀ d ∈ L, d.canLay0 = true ∧ d.depth ≤ c) : shp (.list L) = true := by
  have h1 := layAll_of fun d hd => (h d hd).1
  have h2 := depthAll_le fun d hd => (h d hd).2
  show (PyData.canLay0 (.list L) && decide (PyData.depth (.list L) ≤ 64)) = true
  have e1 : PyData.canLay0 (.list L) = PyData.canLayAll0 L := rfl
  have e2 : PyData.depth (.list L) = PyData.depthAll L + 1 := rfl
  rw [e1, e2, h1, decide_eq_true (by omega)]
  rfl
theorem shp_tup {L : List D} {c : Nat} (hc : c ≤ 60) (h : ∀ d ∈ L, d.canLay0 = true ∧ d.depth ≤ c) : shp (.tuple L) = true := shp_list hc h
theorem small_tup {L : List D} (h : (L.all flat) = true) : (PyData.tuple L).canLay0 = true ∧ (PyData.tuple L).depth ≤ 1 := by
  obtain ⟨h1, h2⟩ := flat_lay h
  have e1 : PyData.canLay0 (.tuple L) = PyData.canLayAll0 L := rfl
  have e2 : PyData.depth (.tuple L) = PyData.depthAll L + 1 := rfl
  rw [e1, e2, h1, h2]
  exact ⟨rfl, Nat.le_refl _⟩
def tupI (L : List Int) : D := .tuple (L.map .int)
theorem shp_rows (L : List (List Int)) : shp (.list (L.map tupI)) = true := shp_list (c := 1) (by decide) fun d hd => by
  obtain ⟨r, _, rfl⟩ := List.mem_map.mp hd
  refine small_tup ?_
  simp [flat]

/-- a loop that knows what is ahead -/
theorem for_pre {f : D → Bw.Env → Option Out} {α : Type} {q : α → D} (L : List α) (I : List α → Bw.Env → Prop) (st : ∀ done a rest ρ, L = done ++ a :: rest → I done ρ → ∃ ρ', f (q a) ρ = some (.nx ρ') ∧ I (done ++ [a]) ρ') :
    ∀ (rest done : List α) (ρ : Bw.Env), L = done ++ rest → I done ρ → ∃ ρ', forF f (rest.map q) ρ = some (.nx ρ') ∧ I L ρ'
  | [], done, ρ, e, h => ⟨ρ, rfl, by rw [e, List.append_nil]; exact h⟩
  | a :: rest, done, ρ, e, h => by
    obtain ⟨ρ1, e1, h1⟩ := st done a rest ρ e h
    obtain ⟨ρ2, e2, h2⟩ := for_pre L I st rest (done ++ [a]) ρ1 (by rw [e]; simp) h1
    refine ⟨ρ2, ?_, h2⟩
    rw [List.map_cons]
    unfold forF
    rw [e1]
    exact e2
/-! ### all beginnings -/
def allS (m : Nat) : Nat → List (List Int)
  | 0 => [[]]
  | k + 1 => (allS m k).flatMap fun s => (List.range (m + 1)).map fun c => s ++ [((c : Nat) : Int)]
theorem allS_len (m : Nat) : ∀ k, (allS m k).length = (m + 1) ^ k
  | 0 => rfl
  | k + 1 => by
    unfold allS
    rw [List.length_flatMap]
    have : (List.map (fun s => ((List.range (m + 1)).map fun c : Nat => s ++ [((c : Nat) : Int)]).length) (allS m k)) = (allS m k).map fun _ => m + 1 := List.map_congr_left fun s _ => by rw [List.length_map, List.length_range]
    rw [this, List.map_const', List.sum_replicate_nat, allS_len m k, Nat.pow_succ]
theorem allS_row (m : Nat) : ∀ k, ∀ s ∈ allS m k, s.length = k
  | 0, s, h => by
    rcases List.mem_singleton.mp h with rfl
    rfl
  | k + 1, s, h => by
    unfold allS at h
    obtain ⟨s', h1, h2⟩ := List.mem_flatMap.mp h
    obtain ⟨c, _, rfl⟩ := List.mem_map.mp h2
    rw [List.length_append, allS_row m k s' h1]
    rfl
theorem tupI_vec {s : List Int} : tupI s = .tuple (vec s.length (at0 s)) := by
  unfold tupI
  congr 1
  refine List.ext_getElem? fun j => ?_
  by_cases h : j < s.length
  · rw [at_map h, vec_get h]
  · rw [List.getElem?_eq_none (by rw [List.length_map]; omega), List.getElem?_eq_none (by rw [vec_length]; omega)]
theorem tupI_snoc (s : List Int) (c : Int) : binF .add (tupI s) (.tuple [.int c]) = if fits (s.map PyData.int ++ [PyData.int c]) then some (tupI (s ++ [c])) else none := by
  unfold tupI
  rw [b_addT, List.map_append]
  rfl
section
variable {T : Nat → Option FD} {M k : Nat} {ks : List Str} {rs : List Rl}
theorem call_unit (h88 : T 88 = some f_unit) (B : BookOk ks rs) (p : Nat) : callF T M (k + 1) 88 [bookD ks rs, .int (p : Nat)] = some (.dat (.tuple (vec ks.length (unit p)))) := by
  have few := B.few
  refine call_run h88 rfl (ρ' := [some (.dat (bookD ks rs)), some (.dat (.int (p : Nat))), none]) (ss_rt (ret_run (tup_vec (lc_vec (un_run (bin_run (nm_run (d := bookD ks rs) rfl) cst_run book_len) (by unfold ksD; rw [u_lenT, List.length_map])) (by omega) fun j hj => un_run (bin_run (nm_run rfl) (nm_run rfl) b_eqI) ?_))))
  rw [u_intB]
  unfold unit
  by_cases h : j = p
  · rw [if_pos h, h]; simp
  · rw [if_neg h, beq_eq_false_iff_ne.mpr (by omega)]; rfl
theorem row_small {s : List Int} {n : Nat} (h : s.length ≤ n) (hn : n ≤ 1000) (c : Int) : binF .add (tupI s) (.tuple [.int c]) = some (tupI (s ++ [c])) := by
  rw [tupI_snoc, if_pos (fits_of (by simp; omega))]
/-- the law's own list of all beginnings -/
theorem call_lawstarts (h90 : T 90 = some f_law_starts) {w m : Nat} (hw : w ≤ 5) (hc : (m + 1) ^ w ≤ 1000) (hm : m ≤ 10) : callF T M (k + 1) 90 [.int (w : Nat), .int (m : Nat)] = some (.dat (.list ((allS m w).map tupI))) := by
  have bnd : ∀ j, j ≤ w → (m + 1) ^ j ≤ 1000 := fun j hj => Nat.le_trans (Nat.pow_le_pow_right (by omega) hj) hc
  let env : Nat → Option SV → Option SV → Option SV → Option SV → Bw.Env := fun j x3 x4 x5 x6 => [some (.dat (.int (w : Nat))), some (.dat (.int (m : Nat))), some (.dat (.list ((allS m j).map tupI))), x3, x4, x5, x6]
  let inB : Ss := .cons (.asg 4 (.d (.bin .add (.nm 4) (.lc [6] (.n 6) (.rng (.bin .add (.nm 1) (.cst (.int 1)))) .no (.bin .add (.nm 5) (.tup (.cons (.nm 6) .nil))))))) .nil
  let grow : List (List Int) → List (List Int) := fun L => L.flatMap fun s => (List.range (m + 1)).map fun c => s ++ [((c : Nat) : Int)]
  have glen : ∀ L : List (List Int), (grow L).length = L.length * (m + 1) := fun L => by
    show (L.flatMap _).length = _
    rw [List.length_flatMap]
    have : (List.map (fun s => ((List.range (m + 1)).map fun c : Nat => s ++ [((c : Nat) : Int)]).length) L) = L.map fun _ => m + 1 := List.map_congr_left fun s _ => by rw [List.length_map, List.length_range]
    rw [this, List.map_const', List.sum_replicate_nat]
  obtain ⟨ρ', e, x3, x4, x5, x6, i1⟩ := for_num (f := fun d ρ => (bindT (.n 3) d ρ).bind fun ρ' => evSs (callF T M k) M (.cons (.asg 4 (.d (.lst .nil))) (.cons (.fr (.n 5) (.ex (.nm 2)) inB) (.cons (.asg 2 (.d (.nm 4))) .nil))) ρ') (fun i => .int ((i : Nat) : Int))
    (fun j ρ => ∃ x3 x4 x5 x6, ρ = env j x3 x4 x5 x6) w (fun j ρ hj ⟨x3, x4, x5, x6, e⟩ => by
      subst e
      have hlen := allS_len m j
      have hb1 := bnd (j + 1) (by omega)
      obtain ⟨ρ2, e2, y5, y6, i2⟩ := for_pre (f := fun d ρ => (bindT (.n 5) d ρ).bind fun ρ' => evSs (callF T M k) M inB ρ') (q := tupI) (allS m j) (fun done ρ => ∃ x5 x6, ρ = env j (some (.dat (.int (j : Nat)))) (some (.dat (.list ((grow done).map tupI)))) x5 x6) (fun done s rest ρ hd ⟨x5, x6, e⟩ => by
          subst e
          have hsl := allS_row m j s (by rw [hd]; simp)
          have hdl : (done.length + 1) * (m + 1) ≤ 1000 := by
            have h1 := congrArg List.length hd
            rw [hlen, List.length_append, List.length_cons] at h1
            have : (done.length + 1) * (m + 1) ≤ (m + 1) ^ j * (m + 1) := Nat.mul_le_mul_right _ (by omega)
            rw [← Nat.pow_succ] at this
            exact Nat.le_trans this hb1
          have gapp : grow (done ++ [s]) = grow done ++ (List.range (m + 1)).map fun c => s ++ [((c : Nat) : Int)] := by
            show (done ++ [s]).flatMap _ = _
            rw [List.flatMap_append, List.flatMap_singleton]
          refine ⟨env j (some (.dat (.int (j : Nat)))) (some (.dat (.list ((grow (done ++ [s])).map tupI)))) (some (.dat (tupI s))) x6, ?_, _, _, rfl⟩
          show (bindT (.n 5) (tupI s) (env j (some (.dat (.int (j : Nat)))) (some (.dat (.list ((grow done).map tupI)))) x5 x6)).bind _ = _
          rw [show bindT (.n 5) (tupI s) (env j (some (.dat (.int (j : Nat)))) (some (.dat (.list ((grow done).map tupI)))) x5 x6) = some (env j (some (.dat (.int (j : Nat)))) (some (.dat (.list ((grow done).map tupI)))) (some (.dat (tupI s))) x6) from rfl, Option.bind_some]
          refine ss_nx (asg_run (i := 4) (d := .list ((grow (done ++ [s])).map tupI)) (bin_run (x := .list ((grow done).map tupI)) (y := .list (((List.range (m + 1)).map fun c => s ++ [((c : Nat) : Int)]).map tupI)) (nm_run rfl) ?_ ?_)) ss_nil
          · rw [List.map_map]
            refine lc_n (L := List.range (m + 1)) (q := fun c => .int ((c : Nat) : Int)) (g := fun c => tupI (s ++ [((c : Nat) : Int)])) (it_rng (n := m + 1) (bin_run (nm_run rfl) cst_run (by rw [show Lit.d (.int 1) = PyData.int 1 from rfl, b_addI]; congr 2)) (by omega)) (fun _ _ => cond_no) fun c _ => bin_run (nm_run rfl) (tup_run (es_cons (nm_run rfl) es_nil) (by simp)) (row_small (n := 5) (by omega) (by decide) _)
          · rw [b_addL, if_pos (fits_of (by
              rw [List.length_append, List.length_map, List.length_map, List.length_map, List.length_range, glen]
              rw [Nat.add_mul] at hdl
              omega)), gapp, List.map_append]) (allS m j) [] (env j (some (.dat (.int (j : Nat)))) (some (.dat (.list []))) x5 x6) rfl ⟨x5, x6, rfl⟩
      subst i2
      refine ⟨env (j + 1) (some (.dat (.int (j : Nat)))) (some (.dat (.list ((grow (allS m j)).map tupI)))) y5 y6, ?_, _, _, _, _, rfl⟩
      show (bindT (.n 3) (.int (j : Nat)) (env j x3 x4 x5 x6)).bind _ = _
      rw [show bindT (.n 3) (.int (j : Nat)) (env j x3 x4 x5 x6) = some (env j (some (.dat (.int (j : Nat)))) x4 x5 x6) from rfl, Option.bind_some]
      refine ss_nx (ρ' := env j (some (.dat (.int (j : Nat)))) (some (.dat (.list []))) x5 x6) (asg_run (i := 4) (lst_run es_nil (by simp))) ?_
      refine ss_nx (fr_run (it_ex (nm_run rfl) t_L) e2) ?_
      exact ss_nx (asg_run (i := 2) (d := .list ((allS m (j + 1)).map tupI)) (nm_run rfl)) ss_nil) w 0 (env 0 none none none none) (by omega) ⟨none, none, none, none, rfl⟩
  subst i1
  refine call_run h90 rfl (ρ' := env w x3 x4 x5 x6) ?_
  refine ss_nx (ρ' := env 0 none none none none) (asg_run (i := 2) (lst_run (es_cons (tup_run es_nil (by simp)) es_nil) (by show 1 ≤ 1000000; decide))) ?_
  refine ss_nx (fr_run (ds := (List.range' 0 w).map fun i => PyData.int ((i : Nat) : Int)) (by rw [← List.range_eq_range']; exact it_rng (nm_run rfl) (by omega)) e) (ss_rt (ret_run (nm_run rfl)))
end
end Bw

/-! plain, part 17: starts_for. -/
namespace Bw
open PySem

section
variable {cf : Nat → List D → Option RV} {M : Nat} {ρ : Bw.Env}
theorem zipM_run {a c : E} {b : Bool} {n : Nat} {f g : Nat → Int} {x y : D} (h : evE cf a b ρ = some x) (h2 : evE cf c b ρ = some y) (h3 : zipD x y = some (vec n f, vec n g)) : evI cf (.zip a c) b ρ = some ((List.range n).map fun j => PyData.tuple [.int (f j), .int (g j)]) := by
  unfold evI
  rw [h, Option.bind_some, h2, Option.bind_some, h3]
  show some (zipL (vec n f) (vec n g)) = _
  rw [zip_vec]
theorem lcF2_of {α : Type} {f : D → Option (List D)} {q : α → D} {g : α → List D} : ∀ {L : List α}, (∀ a ∈ L, f (q a) = some (g a)) → lcF2 f (L.map q) = some (L.flatMap g)
  | [], _ => rfl
  | a :: L, h => by
    rw [List.map_cons]
    unfold lcF2
    rw [h a List.mem_cons_self, Option.bind_some, lcF2_of fun x hx => h x (List.mem_cons_of_mem _ hx)]
    rfl
/-- two clauses with one name each -/
theorem lc2_run {α β : Type} {own own1 : List Nat} {i j : Nat} {it it1 : I} {elt : E} {b : Bool} {L : List α} {L1 : α → List β} {q : α → D} {q1 : β → D} {g : α → β → D} (h : evI cf it true ρ = some (L.map q))
    (h1 : ∀ a ∈ L, evI cf it1 false ((wipeE ρ own).set i (some (.dat (q a)))) = some ((L1 a).map q1)) (h2 : ∀ a ∈ L, ∀ c ∈ L1 a, evE cf elt false ((wipeE ((wipeE ρ own).set i (some (.dat (q a)))) own1).set j (some (.dat (q1 c)))) = some (g a c))
    (hf : (L.flatMap fun a => (L1 a).map (g a)).length ≤ 1000000) : evE cf (.lc2 own own1 (.n i) it .no (.n j) it1 .no elt) b ρ = some (.list (L.flatMap fun a => (L1 a).map (g a))) := by
  unfold evE
  rw [h, Option.bind_some]
  have e : lcF2 (fun d => (bindT (.n i) d (wipeE ρ own)).bind fun ρ' => (evCond cf .no ρ').bind fun c =>
      if c then (evI cf it1 false ρ').bind fun es => lcF (fun e => (bindT (.n j) e (wipeE ρ' own1)).bind fun ρ2 => (evCond cf .no ρ2).bind fun c1 => if c1 then (evE cf elt false ρ2).map some else some none) es else some []) (L.map q) = some (L.flatMap fun a => (L1 a).map (g a)) := by
    refine lcF2_of fun a ha => ?_
    rw [show bindT (.n i) (q a) (wipeE ρ own) = some ((wipeE ρ own).set i (some (.dat (q a)))) from rfl, Option.bind_some, cond_no, Option.bind_some, if_pos rfl, h1 a ha, Option.bind_some]
    refine lcF_of fun c hc => ?_
    rw [show bindT (.n j) (q1 c) (wipeE ((wipeE ρ own).set i (some (.dat (q a)))) own1) = some ((wipeE ((wipeE ρ own).set i (some (.dat (q a)))) own1).set j (some (.dat (q1 c)))) from rfl, Option.bind_some, cond_no, Option.bind_some, if_pos rfl, h2 a ha c hc]
    rfl
  rw [e, Option.bind_some, if_pos (fits_of hf)]
theorem owC_run {i f : Nat} {es : Es} {ds xs : List D} (h : evEs cf es ρ = some ds) (h2 : cf f ds = some (.own xs)) : evS cf M (.asg i (.ow f es)) ρ = some (.nx (ρ.set i (some (.own xs)))) := by
  unfold evS
  show ((evEs cf es ρ).bind _).map _ = _
  rw [h, Option.bind_some, h2]
  rfl
theorem retO_run {i : Nat} {ds : List D} (h : ρ[i]? = some (some (.own ds))) : evS cf M (.retO i) ρ = some (.rt (.own ds) ρ) := by
  unfold evS
  rw [h]
end
/-- what was seen: a beat, a kind's place, how many -/
structure Sn where
  b : Nat
  i : Nat
  d : Int
def Sn.D (ks : List Str) (x : Sn) : Bw.D := .tuple [.int (x.b : Nat), .str (ks.getD x.i ⟨#[]⟩), .int x.d]
def seenOk (ks : List Str) (rs : List Rl) (s : List Int) (x : Sn) : Bool := decide (sumN ks.length (fun p => at0 s p * C ks rs (unit p) x.b x.i) = x.d)
section
variable {T : Nat → Option FD} {M k : Nat} {ks : List Str} {rs : List Rl}
theorem allS_small (m : Nat) : ∀ k, ∀ s ∈ allS m k, ∀ x ∈ s, 0 ≤ x ∧ x ≤ m
  | 0, s, h => by
    rcases List.mem_singleton.mp h with rfl
    intro x hx
    cases hx
  | k + 1, s, h => by
    unfold allS at h
    obtain ⟨s', h1, h2⟩ := List.mem_flatMap.mp h
    obtain ⟨c, hc, rfl⟩ := List.mem_map.mp h2
    have hc' := List.mem_range.mp hc
    intro x hx
    rcases List.mem_append.mp hx with hx | hx
    · exact allS_small m k s' h1 x hx
    · rw [List.mem_singleton.mp hx]
      omega
theorem getD_mem {i : Nat} (h : i < ks.length) : ks.getD i ⟨#[]⟩ ∈ ks := by
  rw [List.getD_eq_getElem?_getD, List.getElem?_eq_getElem h]
  exact List.getElem_mem h
theorem idx_getD (nd : ks.Nodup) {i : Nat} (h : i < ks.length) : ks.idxOf (ks.getD i ⟨#[]⟩) = i := by
  rw [List.getD_eq_getElem?_getD, List.getElem?_eq_getElem h]
  exact nd.idxOf_getElem i h
/-- all beginnings by which what was seen is seen -/
theorem call_startsfor (h23 : T 23 = some f_next_counts) (h24 : T 24 = some f_first_rows) (h25 : T 25 = some f_all_counts) (h88 : T 88 = some f_unit) (h89 : T 89 = some f_starts_for) (B : BookOk ks rs) {m : Nat} (hc : (m + 1) ^ ks.length ≤ 1000) (hm : m ≤ 10) (seen : List Sn) (hn : seen.length ≤ 1000) (hs : ∀ x ∈ seen, x.b ≤ 100 ∧ x.i < ks.length) (hM : 100 < M) :
    callF T M (k + 3) 89 [bookD ks rs, .int (m : Nat), .tuple (seen.map (Sn.D ks))] = some (.own (((allS m ks.length).filter fun s => seen.all (seenOk ks rs s)).map tupI)) := by
  have few := B.few
  have pos := B.pos
  let cf := callF T M (k + 2)
  have bnd : ∀ j, j ≤ ks.length → (m + 1) ^ j ≤ 1000 := fun j hj => Nat.le_trans (Nat.pow_le_pow_right (by omega) hj) hc
  -- how far
  obtain ⟨far, hfar, hfar2, efar⟩ : ∃ far : Nat, far ≤ 100 ∧ (∀ x ∈ seen, x.b ≤ far) ∧ unF .max (.list (seen.map (fun x => PyData.int (x.b : Nat)) ++ [.int 0])) = some (.int (far : Nat)) := by
    obtain ⟨n, ns, e⟩ : ∃ n ns, (seen.map (fun x => ((x.b : Nat) : Int)) ++ [0]) = n :: ns := by
      cases seen with
      | nil => exact ⟨0, [], rfl⟩
      | cons x r => exact ⟨_, _, rfl⟩
    have e2 : seen.map (fun x => PyData.int (x.b : Nat)) ++ [.int 0] = (n :: ns).map PyData.int := by
      rw [← e, List.map_append, List.map_map]
      rfl
    have hin : ∀ y ∈ n :: ns, 0 ≤ y ∧ y ≤ 100 := fun y hy => by
      rw [← e] at hy
      rcases List.mem_append.mp hy with hy | hy
      · obtain ⟨x, hx, rfl⟩ := List.mem_map.mp hy
        have := (hs x hx).1
        omega
      · rw [List.mem_singleton.mp hy]; omega
    have h1 := foldmax_le ns n n (.inl (Int.le_refl _))
    have h2 := foldmax_of ns n 100 (hin n List.mem_cons_self).2 fun y hy => (hin y (List.mem_cons_of_mem _ hy)).2
    have h3 := (hin n List.mem_cons_self).1
    refine ⟨(ns.foldl max n).toNat, by omega, fun x hx => ?_, ?_⟩
    · have : ((x.b : Nat) : Int) ∈ n :: ns := by rw [← e]; exact List.mem_append_left _ (List.mem_map_of_mem (f := fun x : Sn => ((x.b : Nat) : Int)) hx)
      have := foldmax_le ns n ((x.b : Nat) : Int) (by
        rcases List.mem_cons.mp this with h | h
        · exact .inl (by omega)
        · exact .inr h)
      omega
    · rw [e2, max_ints, Int.toNat_of_nonneg (by omega)]
  let seenD : D := .tuple (seen.map (Sn.D ks))
  let single : D := .list ((List.range ks.length).map fun p => .list ((List.range (far + 1)).map (cntD ks rs (unit p))))
  let env : List (List Int) → Option SV → Option SV → Option SV → Option SV → Option SV → Option SV → Bw.Env := fun L x6 x7 x8 x9 x10 x11 =>
    [some (.dat (bookD ks rs)), some (.dat (.int (m : Nat))), some (.dat seenD), some (.dat (.int (far : Nat))), some (.dat single), some (.own (L.map tupI)), x6, x7, x8, x9, x10, x11, none, none, none, none, none]
  have elen : ∀ {c : Bool} {ρ : Bw.Env}, ρ[0]? = some (some (.dat (bookD ks rs))) → evE cf (.un .len (.bin .idx (.nm 0) (.cst (.int 0)))) c ρ = some (.int (ks.length : Nat)) := fun {c ρ} h =>
    un_run (bin_run (nm_run h) cst_run book_len) (by unfold ksD; rw [u_lenT, List.length_map])
  -- all beginnings
  obtain ⟨ρ1, e1, y6, i1⟩ := for_num (f := fun d ρ => (bindT (.n 6) d ρ).bind fun ρ' => evSs cf M (.cons (.asg 5 (.o (.lc2 [12, 13] [13] (.n 12) (.ex (.pk 5)) .no (.n 13) (.rng (.bin .add (.nm 1) (.cst (.int 1)))) .no (.bin .add (.nm 12) (.tup (.cons (.nm 13) .nil)))))) .nil) ρ') (fun i => .int ((i : Nat) : Int))
    (fun j ρ => ∃ x6, ρ = env (allS m j) x6 none none none none none) ks.length (fun j ρ hj ⟨x6, e⟩ => by
      subst e
      have hb1 := bnd (j + 1) (by omega)
      have hl1 := allS_len m (j + 1)
      refine ⟨env (allS m (j + 1)) (some (.dat (.int (j : Nat)))) none none none none none, ?_, _, rfl⟩
      show (bindT (.n 6) (.int (j : Nat)) (env (allS m j) x6 none none none none none)).bind _ = _
      rw [show bindT (.n 6) (.int (j : Nat)) (env (allS m j) x6 none none none none none) = some (env (allS m j) (some (.dat (.int (j : Nat)))) none none none none none) from rfl, Option.bind_some]
      have emap : (allS m (j + 1)).map tupI = (allS m j).flatMap fun s => (List.range (m + 1)).map fun c => tupI (s ++ [((c : Nat) : Int)]) := by
        show ((allS m j).flatMap _).map tupI = _
        rw [List.map_flatMap]
        congr 1
        funext s
        rw [List.map_map]
        rfl
      refine ss_nx (ρ' := env (allS m (j + 1)) (some (.dat (.int (j : Nat)))) none none none none none) (asgO_run (i := 5) (ds := (allS m (j + 1)).map tupI) ?_) ss_nil
      rw [emap]
      refine lc2_run (L := allS m j) (L1 := fun _ => List.range (m + 1)) (q := tupI) (q1 := fun c => .int ((c : Nat) : Int)) (g := fun s c => tupI (s ++ [((c : Nat) : Int)])) (it_ex (pk_run rfl) t_L) (fun s hs => it_rng (n := m + 1) (bin_run (nm_run rfl) cst_run (by rw [show Lit.d (.int 1) = PyData.int 1 from rfl, b_addI]; congr 2)) (by omega))
        (fun s hs c hc => bin_run (nm_run rfl) (tup_run (es_cons (nm_run rfl) es_nil) (by simp)) (row_small (n := 5) (by have := allS_row m j s hs; omega) (by decide) _)) ?_
      rw [← emap, List.length_map]
      omega) ks.length 0 (env (allS m 0) none none none none none none) (by omega) ⟨none, rfl⟩
  -- what is seen, one by one
  obtain ⟨ρ2, e2, z7, z8, z9, z10, z11, i2⟩ := for_run (f := fun d ρ => (bindT (.t [7, 8, 9]) d ρ).bind fun ρ' => evSs cf M (.cons (.asg 10 (.d (.bin .index (.bin .idx (.nm 0) (.cst (.int 0))) (.nm 8)))) (.cons (.asg 11 (.d (.lc [14] (.n 14) (.ex (.nm 4)) .no (.bin .idx (.bin .idx (.nm 14) (.nm 7)) (.nm 10))))) (.cons (.asg 5 (.o (.lc [12] (.n 12) (.ex (.pk 5)) (.yes (.bin .eq (.un .sum (.lc [13, 16] (.t [13, 16]) (.zip (.nm 12) (.nm 11)) .no (.bin .mul (.nm 13) (.nm 16)))) (.nm 9))) (.nm 12)))) .nil))) ρ') (q := Sn.D ks)
    (fun done ρ => ∃ x7 x8 x9 x10 x11, ρ = env ((allS m ks.length).filter fun s => done.all (seenOk ks rs s)) y6 x7 x8 x9 x10 x11) seen [] ρ1 ⟨none, none, none, none, none, by rw [i1]; exact congrArg (fun L => env L y6 none none none none none) (List.filter_eq_self.mpr fun _ _ => rfl).symm⟩ fun done x ρ _ hx ⟨x7, x8, x9, x10, x11, e⟩ => by
      subst e
      obtain ⟨hxb, hxi⟩ := hs x hx
      have hxf := hfar2 x hx
      let L0 := (allS m ks.length).filter fun s => done.all (seenOk ks rs s)
      let eachD : D := .list (vec ks.length fun p => C ks rs (unit p) x.b x.i)
      let f7 : Option SV := some (.dat (.int (x.b : Nat)))
      let f8 : Option SV := some (.dat (.str (ks.getD x.i ⟨#[]⟩)))
      let f9 : Option SV := some (.dat (.int x.d))
      have efilt : (allS m ks.length).filter (fun s => (done ++ [x]).all (seenOk ks rs s)) = L0.filter fun s => seenOk ks rs s x := by
        show _ = ((allS m ks.length).filter fun s => done.all (seenOk ks rs s)).filter fun s => seenOk ks rs s x
        rw [List.filter_filter]
        congr 1
        funext s
        rw [List.all_append, Bool.and_comm]
        simp
      refine ⟨env ((allS m ks.length).filter fun s => (done ++ [x]).all (seenOk ks rs s)) y6 f7 f8 f9 (some (.dat (.int (x.i : Nat)))) (some (.dat eachD)), ?_, _, _, _, _, _, rfl⟩
      show (bindT (.t [7, 8, 9]) (Sn.D ks x) (env L0 y6 x7 x8 x9 x10 x11)).bind _ = _
      rw [show bindT (.t [7, 8, 9]) (Sn.D ks x) (env L0 y6 x7 x8 x9 x10 x11) = some (env L0 y6 f7 f8 f9 x10 x11) from rfl, Option.bind_some]
      have hix := index_ks B.ok (getD_mem hxi)
      rw [idx_getD B.nd hxi] at hix
      refine ss_nx (ρ' := env L0 y6 f7 f8 f9 (some (.dat (.int (x.i : Nat)))) x11) (asg_run (i := 10) (d := .int (x.i : Nat)) (bin_run (bin_run (nm_run rfl) cst_run book_len) (nm_run rfl) hix)) ?_
      refine ss_nx (ρ' := env L0 y6 f7 f8 f9 (some (.dat (.int (x.i : Nat)))) (some (.dat eachD))) (asg_run (i := 11) (d := eachD) (lc_n (L := List.range ks.length) (q := fun p => .list ((List.range (far + 1)).map (cntD ks rs (unit p)))) (g := fun p => .int (C ks rs (unit p) x.b x.i)) (it_ex (nm_run (d := single) rfl) t_L) (fun _ _ => cond_no)
        fun p hp => bin_run (x := cntD ks rs (unit p) x.b) (bin_run (nm_run rfl) (nm_run rfl) (idxL_run (by rw [List.getElem?_map, List.getElem?_range (by omega)]; rfl))) (nm_run rfl) (idx_run (vec_get hxi)))) ?_
      rw [efilt]
      refine ss_nx (ρ' := env (L0.filter fun s => seenOk ks rs s x) y6 f7 f8 f9 (some (.dat (.int (x.i : Nat)))) (some (.dat eachD))) (asgO_run (i := 5) (ds := (L0.filter fun s => seenOk ks rs s x).map tupI) ?_) ss_nil
      refine lc_nf (L := L0) (q := tupI) (g := tupI) (p := fun s => seenOk ks rs s x) (it_ex (pk_run rfl) t_L) (fun s hs => ?_) fun s hs _ => nm_run rfl
      have hsl := allS_row m ks.length s (List.mem_filter.mp hs).1
      have hst : tupI s = .tuple (vec ks.length (at0 s)) := by rw [tupI_vec, hsl]
      refine cond_yes (bin_run (x := .int (sumN ks.length fun p => at0 s p * C ks rs (unit p) x.b x.i)) (un_run (x := .list (vec ks.length fun p => at0 s p * C ks rs (unit p) x.b x.i)) ?_ (sum_vec _ _)) (nm_run (d := .int x.d) rfl) (by
        rw [b_eqI]
        rfl))
      refine lc_t (L := List.range ks.length) (q := fun p => .tuple [.int (at0 s p), .int (C ks rs (unit p) x.b x.i)]) (g := fun p => .int (at0 s p * C ks rs (unit p) x.b x.i)) (zipM_run (x := tupI s) (y := eachD) (nm_run rfl) (nm_run rfl) (by rw [hst]; rfl)) (fun r _ => rfl) (fun _ _ => cond_no) fun r hr =>
        bin_run (nm_run rfl) (nm_run rfl) (mul_run (.inl ?_))
      have hs0 := allS_small m ks.length s (List.mem_filter.mp hs).1
      unfold at0
      cases hg : s[r]? with
      | none => decide
      | some y =>
        have := hs0 y (List.mem_of_getElem? hg)
        show y.natAbs < 2 ^ 64
        omega
  subst i2
  refine call_run h89 rfl (ρ' := env ((allS m ks.length).filter fun s => seen.all (seenOk ks rs s)) y6 z7 z8 z9 z10 z11) ?_
  let ρa : Option SV → Option SV → Bw.Env := fun x3 x4 => [some (.dat (bookD ks rs)), some (.dat (.int (m : Nat))), some (.dat seenD), x3, x4, none, none, none, none, none, none, none, none, none, none, none, none]
  refine ss_nx (ρ' := ρa (some (.dat (.int (far : Nat)))) none) (asg_run (i := 3) (un_run (bin_run (x := .list (seen.map fun x => PyData.int (x.b : Nat))) (y := .list [.int 0]) (lc_n (L := seen) (q := Sn.D ks) (g := fun x => .int (x.b : Nat)) (it_ex (nm_run (d := seenD) rfl) t_T) (fun _ _ => cond_no) fun x _ => bin_run (nm_run rfl) cst_run rfl) (lst_run (es_cons cst_run es_nil) (by simp)) (by
    rw [b_addL, if_pos (fits_of (by rw [List.length_append, List.length_map]; simp; omega))])) efar)) ?_
  refine ss_nx (ρ' := ρa (some (.dat (.int (far : Nat)))) (some (.dat single))) (asg_run (i := 4) (d := single) (lc_n (L := List.range ks.length) (q := fun p => .int ((p : Nat) : Int)) (g := fun p => .list ((List.range (far + 1)).map (cntD ks rs (unit p)))) (it_rng (elen rfl) (by omega)) (fun _ _ => cond_no) fun p hp => call_e (es_cons (nm_run rfl) (es_cons (call_e (es_cons (nm_run rfl) (es_cons (nm_run rfl) es_nil)) (call_unit (k := k + 1) h88 B p) rfl) (es_cons (nm_run rfl) es_nil))) (call_all (k := k) h23 h24 h25 B (unit p) (by omega) (by omega)) rfl)) ?_
  refine ss_nx (ρ' := env (allS m 0) none none none none none none) (asgO_run (i := 5) (lst_run (es_cons (tup_run es_nil (by simp)) es_nil) (by show 1 ≤ 1000000; decide))) ?_
  refine ss_nx (fr_run (ds := (List.range' 0 ks.length).map fun i => PyData.int ((i : Nat) : Int)) (by rw [← List.range_eq_range']; exact it_rng (elen rfl) (by omega)) e1) ?_
  rw [i1]
  rw [i1] at e2
  exact ss_nx (fr_run (it_ex (nm_run (d := seenD) rfl) t_T) e2) (ss_rt (retO_run rfl))
end
end Bw

namespace BwK13
open PySem PySem.Spec PyProof.Rows L2 Bw
/-! ### the text in our own words -/
def top (i : Nat) : Stmt := PySem.Challenge.pw_breedworks_k13_beginnings_told_from_what.main.body.getD i (.Pass ⟨0, 0, 0, 0⟩)
def d_next_counts : DI := ⟨23, "next_counts", top 1, ["book", "rows", "found", "kinds", "rules", "kind", "after", "other", "many"], ["book", "rows"], f_next_counts⟩
def d_first_rows : DI := ⟨24, "first_rows", top 2, ["book", "start", "nothing"], ["book", "start"], f_first_rows⟩
def d_all_counts : DI := ⟨25, "all_counts", top 3, ["book", "start", "beat", "rows", "found"], ["book", "start", "beat"], f_all_counts⟩
def d_unit : DI := ⟨88, "unit", top 5, ["book", "place", "k"], ["book", "place"], f_unit⟩
def d_starts_for : DI := ⟨89, "starts_for", top 6, ["book", "most", "seen", "far", "single", "found", "place", "beat", "kind", "due", "spot", "each", "start", "many", "rows", "row", "one"], ["book", "most", "seen"], f_starts_for⟩
def d_law_cell : DI := ⟨6, "_law_cell", top 8, ["script", "k"], ["script", "k"], f_law_cell⟩
def d_law_draws : DI := ⟨7, "_law_draws", top 9, ["script", "k", "many", "base", "primes", "cell", "rest", "row", "j", "mash"], ["script", "k", "many", "base"], f_law_draws⟩
def d_law_kinds : DI := ⟨16, "_law_kinds", top 10, ["many"], ["many"], f_law_kinds⟩
def d_law_book : DI := ⟨17, "_law_book", top 11, ["draws", "sort", "kinds_so", "found", "k", "draw", "many", "loops", "spot", "one", "other", "again"], ["draws", "sort"], f_law_book⟩
def d_law_walk : DI := ⟨28, "_law_walk", top 12, ["book", "start", "far", "rows", "beat", "here", "kind", "after", "other", "many", "row", "place"], ["book", "start", "far"], f_law_walk⟩
def d_law_starts : DI := ⟨90, "_law_starts", top 13, ["wide", "most", "found", "k", "longer", "start", "many"], ["wide", "most"], f_law_starts⟩
def b_law : Ss := (.cons (.fr (.n 1) (.ex (.tup (.cons (.cst (.int 0)) (.cons (.cst (.int 2)) (.cons (.cst (.int 4)) (.cons (.cst (.int 6)) .nil)))))) (.cons (.asg 2 (.d (.call 7 (.cons (.nm 0) (.cons (.nm 1) (.cons (.cst (.int 60)) (.cons (.cst (.int 27720)) .nil))))))) (.cons (.asg 3 (.d (.call 17 (.cons (.nm 2) (.cons (.bin .fdiv (.nm 1) (.cst (.int 2))) .nil))))) (.cons (.asg 4 (.d (.ife (.bin .lt (.un .len (.bin .idx (.nm 3) (.cst (.int 0)))) (.cst (.int 5))) (.bin .idx (.lst (.cons (.cst (.int 1)) (.cons (.cst (.int 2)) (.cons (.cst (.int 1)) (.cons (.cst (.int 3)) .nil))))) (.bin .mod (.bin .idx (.nm 2) (.cst (.int 20))) (.cst (.int 4)))) (.bin .add (.cst (.int 1)) (.bin .mod (.bin .idx (.nm 2) (.cst (.int 20))) (.cst (.int 2))))))) (.cons (.asg 5 (.d (.un .tuple (.lc [23] (.n 23) (.ex (.slc (.nm 2) (.yes (.cst (.int 21))) (.yes (.bin .add (.cst (.int 21)) (.un .len (.bin .idx (.nm 3) (.cst (.int 0)))))))) .no (.bin .mod (.nm 23) (.bin .add (.nm 4) (.cst (.int 1)))))))) (.cons (.asg 6 (.d (.call 28 (.cons (.nm 3) (.cons (.nm 5) (.cons (.cst (.int 30)) .nil)))))) (.cons (.unp [13, 14] (.tup (.cons (.bin .idx (.lst (.cons (.cst (.int 31)) (.cons (.cst (.int 6)) .nil))) (.bin .mod (.bin .idx (.nm 2) (.cst (.int 27))) (.cst (.int 2)))) (.cons (.un .len (.bin .idx (.nm 3) (.cst (.int 0)))) .nil)))) (.cons (.asg 7 (.d (.un .ssort (.lc [23] (.n 23) (.ex (.slc (.nm 2) (.yes (.cst (.int 28))) (.yes (.bin .add (.cst (.int 28)) (.bin .mod (.bin .idx (.nm 2) (.cst (.int 26))) (.cst (.int 7))))))) .no (.tup (.cons (.bin .mod (.nm 23) (.nm 13)) (.cons (.bin .mod (.bin .fdiv (.nm 23) (.cst (.int 31))) (.nm 14)) .nil))))))) (.cons (.asg 8 (.o (.lst .nil))) (.cons (.fr (.t [15, 16]) (.ex (.nm 7)) (.cons (.asg 17 (.d (.un .int (.bin .eq (.bin .mod (.bin .idx (.nm 2) (.bin .add (.cst (.int 35)) (.un .len (.pk 8)))) (.cst (.int 9))) (.cst (.int 0)))))) (.cons (.app 8 (.tup (.cons (.nm 15) (.cons (.bin .idx (.bin .idx (.nm 3) (.cst (.int 0))) (.nm 16)) (.cons (.bin .add (.bin .idx (.bin .idx (.nm 6) (.nm 15)) (.nm 16)) (.nm 17)) .nil))))) .nil))) (.cons (.frz 8) (.cons (.asg 9 (.d (.lc [19] (.n 19) (.rng (.un .len (.nm 5))) .no (.call 28 (.cons (.nm 3) (.cons (.un .tuple (.lc [24] (.n 24) (.rng (.un .len (.nm 5))) .no (.un .int (.bin .eq (.nm 24) (.nm 19))))) (.cons (.cst (.int 30)) .nil))))))) (.cons (.asg 10 (.d (.lst .nil))) (.cons (.fr (.n 11) (.ex (.call 90 (.cons (.un .len (.nm 5)) (.cons (.nm 4) .nil)))) (.cons (.asg 18 (.d (.cst (.bl true)))) (.cons (.fr (.t [15, 20, 21]) (.ex (.nm 8)) (.cons (.asg 16 (.d (.bin .index (.bin .idx (.nm 3) (.cst (.int 0))) (.nm 20)))) (.cons (.asg 22 (.d (.un .sum (.lc [19, 25] (.t [19, 25]) (.enum (.nm 11)) .no (.bin .mul (.nm 25) (.bin .idx (.bin .idx (.bin .idx (.nm 9) (.nm 19)) (.nm 15)) (.nm 16))))))) (.cons (.asg 18 (.d (.and (.cons (.nm 18) (.cons (.bin .eq (.nm 22) (.nm 21)) .nil))))) .nil)))) (.cons (.asg 10 (.d (.bin .add (.nm 10) (.bin .mul (.lst (.cons (.nm 11) .nil)) (.un .int (.nm 18)))))) .nil)))) (.cons (.asg 12 (.ow 89 (.cons (.nm 3) (.cons (.nm 4) (.cons (.un .tuple (.nm 8)) .nil))))) (.cons (.ifs (.or (.cons (.bin .ne (.pk 12) (.nm 10)) (.cons (.un .not (.isi (.pk 12) [.list])) .nil))) (.cons (.ret (.cst (.bl false))) .nil) .nil) (.cons (.app 12 (.cst (.int 0))) (.cons (.ifs (.bin .ne (.call 89 (.cons (.nm 3) (.cons (.nm 4) (.cons (.un .tuple (.nm 8)) .nil)))) (.nm 10)) (.cons (.ret (.cst (.bl false))) .nil) .nil) .nil)))))))))))))))))) (.cons (.ret (.bin .eq (.call 89 (.cons (.tup (.cons (.tup (.cons (.cst (.str "a")) .nil)) (.cons (.tup .nil) .nil))) (.cons (.cst (.int 1)) (.cons (.tup .nil) .nil)))) (.lst (.cons (.tup (.cons (.cst (.int 0)) .nil)) (.cons (.tup (.cons (.cst (.int 1)) .nil)) .nil))))) .nil))
def f_law : FD := ⟨1, 26, b_law, none⟩
def d_law : DI := ⟨91, "law", top 14, ["script", "at", "draws", "book", "most", "start", "rows", "spots", "seen_so", "single", "due", "one", "told", "far", "wide", "beat", "place", "off", "good", "k", "kind", "many", "total", "draw", "j", "a"], ["script"], f_law⟩
def tab : List DI := [d_next_counts, d_first_rows, d_all_counts, d_unit, d_starts_for, d_law_cell, d_law_draws, d_law_kinds, d_law_book, d_law_walk, d_law_starts, d_law]
def bn : List Str := ["set", "len", "sum", "max", "min", "sorted", "tuple", "list", "int", "range", "zip", "enumerate", "isinstance"]
theorem k_next_counts : lookD tab bn d_next_counts = true := by decide +kernel
theorem k_first_rows : lookD tab bn d_first_rows = true := by decide +kernel
theorem k_all_counts : lookD tab bn d_all_counts = true := by decide +kernel
theorem k_unit : lookD tab bn d_unit = true := by decide +kernel
theorem k_starts_for : lookD tab bn d_starts_for = true := by decide +kernel
theorem k_law_cell : lookD tab bn d_law_cell = true := by decide +kernel
theorem k_law_draws : lookD tab bn d_law_draws = true := by decide +kernel
theorem k_law_kinds : lookD tab bn d_law_kinds = true := by decide +kernel
theorem k_law_book : lookD tab bn d_law_book = true := by decide +kernel
theorem k_law_walk : cWalk (gOf tab bn) d_law_walk.N (defScope d_law_walk.st) (defBody d_law_walk.st) = true := by decide +kernel
theorem k_law_starts : lookD tab bn d_law_starts = true := by decide +kernel
theorem k_law : lookD tab bn d_law = true := by decide +kernel
theorem o_next_counts : DOk tab bn d_next_counts := ⟨⟨rfl, rfl, rfl, by decide +kernel, rfl, by decide +kernel, by decide +kernel⟩, .look rfl k_next_counts, rfl, fun _ _ _ _ _ _ us hl => match us, hl with | [_, _], _ => rfl⟩
theorem o_first_rows : DOk tab bn d_first_rows := ⟨⟨rfl, rfl, rfl, by decide +kernel, rfl, by decide +kernel, by decide +kernel⟩, .look rfl k_first_rows, rfl, fun _ _ _ _ _ _ us hl => match us, hl with | [_, _], _ => rfl⟩
theorem o_all_counts : DOk tab bn d_all_counts := ⟨⟨rfl, rfl, rfl, by decide +kernel, rfl, by decide +kernel, by decide +kernel⟩, .look rfl k_all_counts, rfl, fun _ _ _ _ _ _ us hl => match us, hl with | [_, _, _], _ => rfl⟩
theorem o_unit : DOk tab bn d_unit := ⟨⟨rfl, rfl, rfl, by decide +kernel, rfl, by decide +kernel, by decide +kernel⟩, .look rfl k_unit, rfl, fun _ _ _ _ _ _ us hl => match us, hl with | [_, _], _ => rfl⟩
theorem o_starts_for : DOk tab bn d_starts_for := ⟨⟨rfl, rfl, rfl, by decide +kernel, rfl, by decide +kernel, by decide +kernel⟩, .look rfl k_starts_for, rfl, fun _ _ _ _ _ _ us hl => match us, hl with | [_, _, _], _ => rfl⟩
theorem o_law_cell : DOk tab bn d_law_cell := ⟨⟨rfl, rfl, rfl, by decide +kernel, rfl, by decide +kernel, by decide +kernel⟩, .look rfl k_law_cell, rfl, fun _ _ _ _ _ _ us hl => match us, hl with | [_, _], _ => rfl⟩
theorem o_law_draws : DOk tab bn d_law_draws := ⟨⟨rfl, rfl, rfl, by decide +kernel, rfl, by decide +kernel, by decide +kernel⟩, .look rfl k_law_draws, rfl, fun _ _ _ _ _ _ us hl => match us, hl with | [_, _, _, _], _ => rfl⟩
theorem o_law_kinds : DOk tab bn d_law_kinds := ⟨⟨rfl, rfl, rfl, by decide +kernel, rfl, by decide +kernel, by decide +kernel⟩, .look rfl k_law_kinds, rfl, fun _ _ _ _ _ _ us hl => match us, hl with | [_], _ => rfl⟩
theorem o_law_book : DOk tab bn d_law_book := ⟨⟨rfl, rfl, rfl, by decide +kernel, rfl, by decide +kernel, by decide +kernel⟩, .look rfl k_law_book, rfl, fun _ _ _ _ _ _ us hl => match us, hl with | [_, _], _ => rfl⟩
theorem o_law_walk : DOk tab bn d_law_walk := ⟨⟨rfl, rfl, rfl, by decide +kernel, rfl, by decide +kernel, by decide +kernel⟩, .hand natWalk rfl rfl (walk_nat rfl k_law_walk), rfl, fun _ _ _ _ _ _ us hl => match us, hl with | [_, _, _], _ => rfl⟩
theorem o_law_starts : DOk tab bn d_law_starts := ⟨⟨rfl, rfl, rfl, by decide +kernel, rfl, by decide +kernel, by decide +kernel⟩, .look rfl k_law_starts, rfl, fun _ _ _ _ _ _ us hl => match us, hl with | [_, _], _ => rfl⟩
theorem o_law : DOk tab bn d_law := ⟨⟨rfl, rfl, rfl, by decide +kernel, rfl, by decide +kernel, by decide +kernel⟩, .look rfl k_law, rfl, fun _ _ _ _ _ _ us hl => match us, hl with | [_], _ => rfl⟩
theorem oks : ∀ d ∈ tab, DOk tab bn d := by
  intro d hd
  simp only [tab, List.mem_cons, List.not_mem_nil, or_false] at hd
  rcases hd with rfl | rfl | rfl | rfl | rfl | rfl | rfl | rfl | rfl | rfl | rfl | rfl
  · exact o_next_counts
  · exact o_first_rows
  · exact o_all_counts
  · exact o_unit
  · exact o_starts_for
  · exact o_law_cell
  · exact o_law_draws
  · exact o_law_kinds
  · exact o_law_book
  · exact o_law_walk
  · exact o_law_starts
  · exact o_law
/-! ### the head -/
abbrev Rw : PySem.W.OpenRow := PySem.W.OpenLaw.row PySem.Challenge.rw_breedworks_k13_beginnings_told_from_what
abbrev hk : PySem.W.Hook := He.hookD 4 (fasOf tab bn) (tab.map defD)
def ob (s : PySem.W.SharedT) : He.AlD := He.obsDG 4 (fasOf tab bn) (tab.map defD) (HandSHeadRun.getT s)
theorem ob_eq (s : PySem.W.SharedT) : ob s = hk.obs s.abs := He.obsDG_eq (HandSHeadRun.getT_eq s)
def loose : List Str := ["next_counts", "first_rows", "all_counts", "unit", "starts_for", "_law_cell", "_law_draws", "_law_kinds", "_law_book", "_law_walk", "_law_starts"]
theorem run (w : World) : HandSHeadRun.RunEq Rw (PySem.W.view Rw.prog [14]) hk ob 1000 loose w := by
  intro os
  kernel_rfl
end BwK13
namespace BwK13
open PySem PySem.Spec PyProof.Rows L2 Bw
def fuel : Nat := 1000
section
theorem T6 : tabF tab 6 = some f_law_cell := rfl
theorem T7 : tabF tab 7 = some f_law_draws := rfl
theorem T16 : tabF tab 16 = some f_law_kinds := rfl
theorem T17 : tabF tab 17 = some f_law_book := rfl
theorem T23 : tabF tab 23 = some f_next_counts := rfl
theorem T24 : tabF tab 24 = some f_first_rows := rfl
theorem T25 : tabF tab 25 = some f_all_counts := rfl
theorem T28 : tabF tab 28 = some f_law_walk := rfl
theorem T88 : tabF tab 88 = some f_unit := rfl
theorem T89 : tabF tab 89 = some f_starts_for := rfl
theorem T90 : tabF tab 90 = some f_law_starts := rfl
abbrev cf : Nat → List D → Option RV := callF (tabF tab) fuel 14
abbrev sd (d : D) : Option SV := some (.dat d)
variable {ks : List Str} {rs : List Rl} {s : Nat → Int} {m : Nat}
theorem e_starts (B : BookOk ks rs) (hc : (m + 1) ^ ks.length ≤ 1000) (hm : m ≤ 10) (seen : List Sn) (hn : seen.length ≤ 1000) (hs : ∀ x ∈ seen, x.b ≤ 100 ∧ x.i < ks.length) :
    cf 89 [bookD ks rs, .int (m : Nat), .tuple (seen.map (Sn.D ks))] = some (.own (((allS m ks.length).filter fun s => seen.all (seenOk ks rs s)).map tupI)) :=
  call_startsfor (k := 11) T23 T24 T25 T88 T89 B hc hm seen hn hs (by decide)
def rowsW (ks : List Str) (rs : List Rl) (s : Nat → Int) : D := .list ((List.range 31).map (cntD ks rs s))
def env (sc dr : D) (x1 : Option SV) (ks : List Str) (rs : List Rl) (m : Nat) (s : Nat → Int) (x7 x8 x9 x10 x11 x12 x13 x14 x15 x16 x17 x18 x20 x21 x22 : Option SV) : Bw.Env :=
  [sd sc, x1, sd dr, sd (bookD ks rs), sd (.int (m : Nat)), sd (.tuple (vec ks.length s)), sd (rowsW ks rs s), x7, x8, x9, x10, x11, x12, x13, x14, x15, x16, x17, x18, none, x20, x21, x22, none, none, none]
def pairD (p : Int × Int) : D := .tuple [.int p.1, .int p.2]
theorem nodup_le {α : Type} [DecidableEq α] : ∀ (l L : List α), l.Nodup → (∀ x ∈ l, x ∈ L) → l.length ≤ L.length
  | [], _, _, _ => Nat.zero_le _
  | x :: l, L, hn, hs => by
    obtain ⟨h1, h2⟩ := List.nodup_cons.mp hn
    have hx := hs x List.mem_cons_self
    have ih := nodup_le l (L.erase x) h2 fun y hy => by
      have hne : y ≠ x := fun e => h1 (by rw [← e]; exact hy)
      exact (List.mem_erase_of_ne hne).2 (hs y (List.mem_cons_of_mem _ hy))
    have e := List.length_erase_of_mem hx
    have hp : 0 < L.length := List.length_pos_of_mem hx
    rw [List.length_cons]
    omega
theorem sortP_len (ps : List (Int × Int)) : (sortP ps).length ≤ ps.length := by
  refine nodup_le _ _ ?_ fun p hp => ?_
  · have h := sortP_rise ps
    have h2 := List.pairwise_map.mp h
    exact List.Pairwise.imp (fun {a b} h z => by rw [z] at h; omega) h2
  · unfold sortP at hp
    exact List.contains_iff_mem.mp (List.mem_filter.mp hp).2
theorem pairsD_map : ∀ {ps : List (Int × Int)}, (∀ p ∈ ps, 0 ≤ p.1 ∧ p.1 < 64 ∧ 0 ≤ p.2 ∧ p.2 < 64) → pairsD (ps.map pairD) = some ps
  | [], _ => rfl
  | p :: ps, h => by
    rw [List.map_cons]
    show (if 0 ≤ p.1 ∧ p.1 < 64 ∧ 0 ≤ p.2 ∧ p.2 < 64 then (pairsD (ps.map pairD)).map ((p.1, p.2) :: ·) else none) = _
    rw [if_pos (h p List.mem_cons_self), pairsD_map fun q hq => h q (List.mem_cons_of_mem _ hq)]
    rfl
/-- what is seen at the spots -/
def sB : Ss := (.cons (.asg 17 (.d (.un .int (.bin .eq (.bin .mod (.bin .idx (.nm 2) (.bin .add (.cst (.int 35)) (.un .len (.pk 8)))) (.cst (.int 9))) (.cst (.int 0)))))) (.cons (.app 8 (.tup (.cons (.nm 15) (.cons (.bin .idx (.bin .idx (.nm 3) (.cst (.int 0))) (.nm 16)) (.cons (.bin .add (.bin .idx (.bin .idx (.nm 6) (.nm 15)) (.nm 16)) (.nm 17)) .nil))))) .nil))
theorem s_step {sc : D} {L : List Int} {x1 x7 x9 x10 x11 x12 x13 x14 x17 x18 x20 x21 x22 : Option SV} (B : BookOk ks rs) (hl : L.length = 60) (seen : List Sn) (hn : seen.length ≤ 20) {b i : Nat} (hb : b ≤ 30) (hi : i < ks.length) :
    ∃ (d : Int) (y17 : Option SV), evSs cf fuel sB (env sc (.list (L.map .int)) x1 ks rs m s x7 (some (.own (seen.map (Sn.D ks)))) x9 x10 x11 x12 x13 x14 (sd (.int (b : Nat))) (sd (.int (i : Nat))) x17 x18 x20 x21 x22) =
      some (.nx (env sc (.list (L.map .int)) x1 ks rs m s x7 (some (.own ((seen ++ [(⟨b, i, d⟩ : Sn)]).map (Sn.D ks)))) x9 x10 x11 x12 x13 x14 (sd (.int (b : Nat))) (sd (.int (i : Nat))) y17 x18 x20 x21 x22)) := by
  have few := B.few
  let off : Int := if at0 L (35 + seen.length) % 9 = 0 then 1 else 0
  refine ⟨C ks rs s b i + off, sd (.int off), ?_⟩
  refine ss_nx (ρ' := env sc (.list (L.map .int)) x1 ks rs m s x7 (some (.own (seen.map (Sn.D ks)))) x9 x10 x11 x12 x13 x14 (sd (.int (b : Nat))) (sd (.int (i : Nat))) (sd (.int off)) x18 x20 x21 x22) (asg_run (i := 17) (d := .int off) (un_run (bin_run (bin_run (bin_run (nm_run (d := .list (L.map .int)) rfl) (bin_run cst_run (un_run (pk_run rfl) (by rw [u_lenL, List.length_map])) (show _ = some (PyData.int ((35 + seen.length : Nat) : Int)) from by
      rw [show Lit.d (.int 35) = PyData.int 35 from rfl, b_addI]; congr 2)) (idxA (j := 35 + seen.length) (by omega) rfl)) cst_run (mod_run (by decide))) cst_run b_eqI) (by
      rw [u_intB]
      show some (PyData.int (if (at0 L (35 + seen.length) % 9 == 0) = true then 1 else 0)) = some (PyData.int (if at0 L (35 + seen.length) % 9 = 0 then 1 else 0))
      simp))) ?_
  refine ss_nx ?_ ss_nil
  rw [List.map_append]
  refine app_run (i := 8) (d := Sn.D ks ⟨b, i, C ks rs s b i + off⟩) (ds := seen.map (Sn.D ks)) (tup_run (es_cons (nm_run rfl) (es_cons (bin_run (bin_run (nm_run (d := bookD ks rs) rfl) cst_run book_len) (nm_run rfl) (idx_run (xs := ks.map .str) ?_)) (es_cons (bin_run (bin_run (x := cntD ks rs s b) (bin_run (nm_run (d := rowsW ks rs s) rfl) (nm_run rfl) (idxL_run ?_)) (nm_run rfl) (idx_run (vec_get hi))) (nm_run rfl) b_addI) es_nil))) (by simp)) rfl (by rw [List.length_map]; omega)
  · rw [List.getElem?_map, List.getElem?_eq_getElem hi, List.getD_eq_getElem?_getD, List.getElem?_eq_getElem hi]
    rfl
  · rw [List.getElem?_map, List.getElem?_range (by omega)]
    rfl
/-- one beginning, looked at -/
def gB : Ss := (.cons (.asg 16 (.d (.bin .index (.bin .idx (.nm 3) (.cst (.int 0))) (.nm 20)))) (.cons (.asg 22 (.d (.un .sum (.lc [19, 25] (.t [19, 25]) (.enum (.nm 11)) .no (.bin .mul (.nm 25) (.bin .idx (.bin .idx (.bin .idx (.nm 9) (.nm 19)) (.nm 15)) (.nm 16))))))) (.cons (.asg 18 (.d (.and (.cons (.nm 18) (.cons (.bin .eq (.nm 22) (.nm 21)) .nil))))) .nil)))
def dB : Ss := (.cons (.asg 18 (.d (.cst (.bl true)))) (.cons (.fr (.t [15, 20, 21]) (.ex (.nm 8)) gB) (.cons (.asg 10 (.d (.bin .add (.nm 10) (.bin .mul (.lst (.cons (.nm 11) .nil)) (.un .int (.nm 18)))))) .nil)))
def singleD (ks : List Str) (rs : List Rl) : D := .list ((List.range ks.length).map fun p => rowsW ks rs (unit p))
theorem enum_vec (n : Nat) (f : Nat → Int) : enumL 0 (vec n f) = (List.range n).map fun j => PyData.tuple [.int ((j : Nat) : Int), .int (f j)] := by
  refine List.ext_getElem? fun j => ?_
  by_cases h : j < n
  · rw [enumL_get (vec_get h)]
    simp [h]
  · rw [List.getElem?_eq_none (by rw [enumL_len, vec_length]; omega), List.getElem?_eq_none (by simp; omega)]
theorem d_step {sc dr : D} {x1 x7 x12 x13 x14 x15 x16 x17 x18 x20 x21 x22 : Option SV} (B : BookOk ks rs) (hm : m ≤ 10) (seen : List Sn) (hs : ∀ x ∈ seen, x.b ≤ 30 ∧ x.i < ks.length) {one : List Int} (h1 : one ∈ allS m ks.length) (due : List (List Int)) (hd : due.length ≤ 2000) {x11 : Option SV} :
    ∃ y15 y16 y18 y20 y21 y22, evSs cf fuel dB (env sc dr x1 ks rs m s x7 (sd (.list (seen.map (Sn.D ks)))) (sd (singleD ks rs)) (sd (.list (due.map tupI))) (sd (tupI one)) x12 x13 x14 x15 x16 x17 x18 x20 x21 x22) =
      some (.nx (env sc dr x1 ks rs m s x7 (sd (.list (seen.map (Sn.D ks)))) (sd (singleD ks rs)) (sd (.list ((due ++ if seen.all (seenOk ks rs one) then [one] else []).map tupI))) (sd (tupI one)) x12 x13 x14 y15 y16 x17 y18 y20 y21 y22)) := by
  have few := B.few
  have hol := allS_row m ks.length one h1
  have hst : tupI one = .tuple (vec ks.length (at0 one)) := by rw [tupI_vec, hol]
  have sm : ∀ p, (at0 one p).natAbs < 2 ^ 64 := fun p => by
    have hs0 := allS_small m ks.length one h1
    unfold at0
    cases hg : one[p]? with
    | none => decide
    | some y =>
      have := hs0 y (List.mem_of_getElem? hg)
      show y.natAbs < 2 ^ 64
      omega
  let en := fun (x15 x16 x18 x20 x21 x22 : Option SV) => env sc dr x1 ks rs m s x7 (sd (.list (seen.map (Sn.D ks)))) (sd (singleD ks rs)) (sd (.list (due.map tupI))) (sd (tupI one)) x12 x13 x14 x15 x16 x17 x18 x20 x21 x22
  obtain ⟨ρ', e, y15, y16, y20, y21, y22, i1⟩ := for_run (f := fun d ρ => (bindT (.t [15, 20, 21]) d ρ).bind fun ρ' => evSs cf fuel gB ρ') (q := Sn.D ks) (fun done ρ => ∃ x15 x16 x20 x21 x22, ρ = en x15 x16 (sd (.bool (done.all (seenOk ks rs one)))) x20 x21 x22) seen [] (en x15 x16 (sd (.bool true)) x20 x21 x22) ⟨_, _, _, _, _, rfl⟩
    fun done x ρ _ hx ⟨x15, x16, x20, x21, x22, e⟩ => by
      subst e
      obtain ⟨hxb, hxi⟩ := hs x hx
      let good := done.all (seenOk ks rs one)
      let tot := sumN ks.length (fun p => at0 one p * C ks rs (unit p) x.b x.i)
      let f15 := sd (.int (x.b : Nat))
      let f20 := sd (.str (ks.getD x.i ⟨#[]⟩))
      let f21 := sd (.int x.d)
      have hix := index_ks B.ok (getD_mem hxi)
      rw [idx_getD B.nd hxi] at hix
      have eall : (done ++ [x]).all (seenOk ks rs one) = (good && decide (tot = x.d)) := by
        rw [List.all_append]
        simp [good, seenOk, tot]
      refine ⟨en f15 (sd (.int (x.i : Nat))) (sd (.bool ((done ++ [x]).all (seenOk ks rs one)))) f20 f21 (sd (.int tot)), ?_, _, _, _, _, _, rfl⟩
      show (bindT (.t [15, 20, 21]) (Sn.D ks x) (en x15 x16 (sd (.bool good)) x20 x21 x22)).bind _ = _
      rw [show bindT (.t [15, 20, 21]) (Sn.D ks x) (en x15 x16 (sd (.bool good)) x20 x21 x22) = some (en f15 x16 (sd (.bool good)) f20 f21 x22) from rfl, Option.bind_some, eall]
      refine ss_nx (ρ' := en f15 (sd (.int (x.i : Nat))) (sd (.bool good)) f20 f21 x22) (asg_run (i := 16) (d := .int (x.i : Nat)) (bin_run (bin_run (nm_run (d := bookD ks rs) rfl) cst_run book_len) (nm_run rfl) hix)) ?_
      refine ss_nx (ρ' := en f15 (sd (.int (x.i : Nat))) (sd (.bool good)) f20 f21 (sd (.int tot))) (asg_run (i := 22) (d := .int tot) (un_run (x := .list (vec ks.length fun p => at0 one p * C ks rs (unit p) x.b x.i)) ?_ (sum_vec _ _))) ?_
      · refine lc_t (L := List.range ks.length) (q := fun p => .tuple [.int ((p : Nat) : Int), .int (at0 one p)]) (g := fun p => .int (at0 one p * C ks rs (unit p) x.b x.i)) ?_ (fun r _ => rfl) (fun _ _ => cond_no) fun p hp => ?_
        · unfold evI
          rw [nm_run (d := tupI one) rfl, Option.bind_some, hst]
          show some (enumL 0 (vec ks.length (at0 one))) = _
          rw [enum_vec]
        · refine bin_run (nm_run rfl) (bin_run (x := cntD ks rs (unit p) x.b) (bin_run (x := rowsW ks rs (unit p)) (bin_run (nm_run (d := singleD ks rs) rfl) (nm_run rfl) (idxL_run (by simp [List.mem_range.mp hp]))) (nm_run rfl) (idxL_run (by rw [List.getElem?_map, List.getElem?_range (by omega)]; rfl))) (nm_run rfl) (idx_run (vec_get hxi))) (mul_run (.inl (sm p)))
      · exact ss_nx (asg_run (i := 18) (d := .bool (good && decide (tot = x.d))) (and_run (and_b (nm_run rfl) (and_1 (bin_run (nm_run rfl) (nm_run rfl) b_eqI))))) ss_nil
  rw [List.nil_append] at i1
  subst i1
  refine ⟨y15, y16, sd (.bool (seen.all (seenOk ks rs one))), y20, y21, y22, ?_⟩
  refine ss_nx (ρ' := en x15 x16 (sd (.bool true)) x20 x21 x22) (asg_run (i := 18) cst_run) ?_
  refine ss_nx (fr_run (it_ex (nm_run (d := .list (seen.map (Sn.D ks))) rfl) t_L) e) ?_
  refine ss_nx (asg_run (i := 10) (d := .list ((due ++ if seen.all (seenOk ks rs one) then [one] else []).map tupI)) (bin_run (x := .list (due.map tupI)) (y := .list ((if seen.all (seenOk ks rs one) then [one] else []).map tupI)) (nm_run rfl) (bin_run (x := .list [tupI one]) (y := .int (if seen.all (seenOk ks rs one) then 1 else 0)) (lst_run (es_cons (nm_run rfl) es_nil) (by simp)) (un_run (nm_run rfl) u_intB) ?_) ?_)) ss_nil
  · have hs := sl_eq
    rw [b_mulL]
    cases seen.all (seenOk ks rs one)
    · rw [if_pos (by simp)]; rfl
    · rw [if_pos (by simp; omega)]; rfl
  · rw [b_addL, List.map_append, if_pos (fits_of (by
      rw [List.length_append, List.length_map, List.length_map]
      split <;> simp <;> omega))]
def aB : Ss := (.cons (.asg 2 (.d (.call 7 (.cons (.nm 0) (.cons (.nm 1) (.cons (.cst (.int 60)) (.cons (.cst (.int 27720)) .nil))))))) (.cons (.asg 3 (.d (.call 17 (.cons (.nm 2) (.cons (.bin .fdiv (.nm 1) (.cst (.int 2))) .nil))))) (.cons (.asg 4 (.d (.ife (.bin .lt (.un .len (.bin .idx (.nm 3) (.cst (.int 0)))) (.cst (.int 5))) (.bin .idx (.lst (.cons (.cst (.int 1)) (.cons (.cst (.int 2)) (.cons (.cst (.int 1)) (.cons (.cst (.int 3)) .nil))))) (.bin .mod (.bin .idx (.nm 2) (.cst (.int 20))) (.cst (.int 4)))) (.bin .add (.cst (.int 1)) (.bin .mod (.bin .idx (.nm 2) (.cst (.int 20))) (.cst (.int 2))))))) (.cons (.asg 5 (.d (.un .tuple (.lc [23] (.n 23) (.ex (.slc (.nm 2) (.yes (.cst (.int 21))) (.yes (.bin .add (.cst (.int 21)) (.un .len (.bin .idx (.nm 3) (.cst (.int 0)))))))) .no (.bin .mod (.nm 23) (.bin .add (.nm 4) (.cst (.int 1)))))))) (.cons (.asg 6 (.d (.call 28 (.cons (.nm 3) (.cons (.nm 5) (.cons (.cst (.int 30)) .nil)))))) (.cons (.unp [13, 14] (.tup (.cons (.bin .idx (.lst (.cons (.cst (.int 31)) (.cons (.cst (.int 6)) .nil))) (.bin .mod (.bin .idx (.nm 2) (.cst (.int 27))) (.cst (.int 2)))) (.cons (.un .len (.bin .idx (.nm 3) (.cst (.int 0)))) .nil)))) (.cons (.asg 7 (.d (.un .ssort (.lc [23] (.n 23) (.ex (.slc (.nm 2) (.yes (.cst (.int 28))) (.yes (.bin .add (.cst (.int 28)) (.bin .mod (.bin .idx (.nm 2) (.cst (.int 26))) (.cst (.int 7))))))) .no (.tup (.cons (.bin .mod (.nm 23) (.nm 13)) (.cons (.bin .mod (.bin .fdiv (.nm 23) (.cst (.int 31))) (.nm 14)) .nil))))))) (.cons (.asg 8 (.o (.lst .nil))) (.cons (.fr (.t [15, 16]) (.ex (.nm 7)) sB) (.cons (.frz 8) (.cons (.asg 9 (.d (.lc [19] (.n 19) (.rng (.un .len (.nm 5))) .no (.call 28 (.cons (.nm 3) (.cons (.un .tuple (.lc [24] (.n 24) (.rng (.un .len (.nm 5))) .no (.un .int (.bin .eq (.nm 24) (.nm 19))))) (.cons (.cst (.int 30)) .nil))))))) (.cons (.asg 10 (.d (.lst .nil))) (.cons (.fr (.n 11) (.ex (.call 90 (.cons (.un .len (.nm 5)) (.cons (.nm 4) .nil)))) dB) (.cons (.asg 12 (.ow 89 (.cons (.nm 3) (.cons (.nm 4) (.cons (.un .tuple (.nm 8)) .nil))))) (.cons (.ifs (.or (.cons (.bin .ne (.pk 12) (.nm 10)) (.cons (.un .not (.isi (.pk 12) [.list])) .nil))) (.cons (.ret (.cst (.bl false))) .nil) .nil) (.cons (.app 12 (.cst (.int 0))) (.cons (.ifs (.bin .ne (.call 89 (.cons (.nm 3) (.cons (.nm 4) (.cons (.un .tuple (.nm 8)) .nil)))) (.nm 10)) (.cons (.ret (.cst (.bl false))) .nil) .nil) .nil)))))))))))))))))
theorem filter_fold {α : Type} (p : α → Bool) : ∀ (L acc : List α), L.foldl (fun a x => a ++ if p x then [x] else []) acc = acc ++ L.filter p
  | [], acc => by simp
  | x :: L, acc => by
    rw [List.foldl_cons, filter_fold p L, List.filter_cons]
    cases p x <;> simp
theorem a_step (ns : List Int) {a : Nat} (ha : a ≤ 1000) {ρ : Bw.Env} (hρ : ∃ x2 x3 x4 x5 x6 x7 x8 x9 x10 x11 x12 x13 x14 x15 x16 x17 x18 x20 x21 x22, ρ = [sd (scrD ns), sd (.int (a : Nat)), x2, x3, x4, x5, x6, x7, x8, x9, x10, x11, x12, x13, x14, x15, x16, x17, x18, none, x20, x21, x22, none, none, none]) :
    ∃ ρ', evSs cf fuel aB ρ = some (.nx ρ') ∧ ∃ x1 x2 x3 x4 x5 x6 x7 x8 x9 x10 x11 x12 x13 x14 x15 x16 x17 x18 x20 x21 x22, ρ' = [sd (scrD ns), x1, x2, x3, x4, x5, x6, x7, x8, x9, x10, x11, x12, x13, x14, x15, x16, x17, x18, none, x20, x21, x22, none, none, none] := by
  obtain ⟨x2, x3, x4, x5, x6, x7, x8, x9, x10, x11, x12, x13, x14, x15, x16, x17, x18, x20, x21, x22, rfl⟩ := hρ
  obtain ⟨L, hl, hr, ed⟩ := call_draws (T := tabF tab) (M := fuel) (k := 12) T6 T7 ns a ha 60 (by decide)
  obtain ⟨n, rs, h1, h5, B, hm3, eb⟩ := call_book (T := tabF tab) (M := fuel) (k := 12) T16 T17 (L := L) (by omega) hr ((a : Int) / 2)
  have hkl := kn_len h5
  have atr : ∀ j, j < 60 → 0 ≤ at0 L j ∧ at0 L j < 27720 := fun j hj => hr _ (at_mem (by omega))
  let dr : D := .list (L.map .int)
  have elen : ∀ {c : Bool} {ρ : Bw.Env}, ρ[3]? = some (some (.dat (bookD (kn n) rs))) → evE cf (.un .len (.bin .idx (.nm 3) (.cst (.int 0)))) c ρ = some (.int (n : Nat)) := fun {c ρ} h =>
    un_run (bin_run (nm_run h) cst_run book_len) (by unfold ksD; rw [u_lenT, List.length_map, hkl])
  -- the greatest number
  obtain ⟨m, hm, hc, em⟩ : ∃ m : Nat, m ≤ 10 ∧ (m + 1) ^ n ≤ 1000 ∧ ∀ {ρ : Bw.Env}, ρ[2]? = some (some (.dat dr)) → ρ[3]? = some (some (.dat (bookD (kn n) rs))) → evE cf (.ife (.bin .lt (.un .len (.bin .idx (.nm 3) (.cst (.int 0)))) (.cst (.int 5))) (.bin .idx (.lst (.cons (.cst (.int 1)) (.cons (.cst (.int 2)) (.cons (.cst (.int 1)) (.cons (.cst (.int 3)) .nil))))) (.bin .mod (.bin .idx (.nm 2) (.cst (.int 20))) (.cst (.int 4)))) (.bin .add (.cst (.int 1)) (.bin .mod (.bin .idx (.nm 2) (.cst (.int 20))) (.cst (.int 2))))) false ρ = some (.int (m : Nat)) := by
    obtain ⟨q, hq, eq⟩ := mod_nat (i := at0 L 20) (j := 4) (n := 4) (atr 20 (by decide)).1 rfl (by decide)
    obtain ⟨p, hp, ep⟩ := mod_nat (i := at0 L 20) (j := 2) (n := 2) (atr 20 (by decide)).1 rfl (by decide)
    by_cases hn : n < 5
    · have ec : ∀ {ρ : Bw.Env}, ρ[3]? = some (some (.dat (bookD (kn n) rs))) → evE cf (.bin .lt (.un .len (.bin .idx (.nm 3) (.cst (.int 0)))) (.cst (.int 5))) false ρ = some (.bool true) := fun {ρ} h => bin_run (elen h) cst_run (by rw [show Lit.d (.int 5) = PyData.int 5 from rfl, b_lt, decide_eq_true (by omega)])
      have el : ∀ {ρ : Bw.Env}, evE cf (.lst (.cons (.cst (.int 1)) (.cons (.cst (.int 2)) (.cons (.cst (.int 1)) (.cons (.cst (.int 3)) .nil))))) true ρ = some (.list [.int 1, .int 2, .int 1, .int 3]) := fun {ρ} => lst_run (es_cons cst_run (es_cons cst_run (es_cons cst_run (es_cons cst_run es_nil)))) (by simp)
      have ei : ∀ {ρ : Bw.Env}, ρ[2]? = some (some (.dat dr)) → evE cf (.bin .mod (.bin .idx (.nm 2) (.cst (.int 20))) (.cst (.int 4))) true ρ = some (.int (q : Nat)) := fun {ρ} h => bin_run (bin_run (nm_run h) cst_run (idxA (j := 20) (by omega) rfl)) cst_run (by rw [show Lit.d (.int 4) = PyData.int 4 from rfl, mod_run (by decide), eq])
      have pw : ∀ m, m ≤ 3 → (m + 1) ^ n ≤ 1000 := fun m hm => Nat.le_trans (Nat.le_trans (Nat.pow_le_pow_left (show m + 1 ≤ 4 by omega) n) (Nat.pow_le_pow_right (by decide) (show n ≤ 4 by omega))) (by decide)
      have h4 : q = 0 ∨ q = 1 ∨ q = 2 ∨ q = 3 := by omega
      rcases h4 with rfl | rfl | rfl | rfl
      · exact ⟨1, by decide, pw 1 (by decide), fun {ρ} h h3 => ife_t (ec h3) (bin_run el (ei h) rfl)⟩
      · exact ⟨2, by decide, pw 2 (by decide), fun {ρ} h h3 => ife_t (ec h3) (bin_run el (ei h) rfl)⟩
      · exact ⟨1, by decide, pw 1 (by decide), fun {ρ} h h3 => ife_t (ec h3) (bin_run el (ei h) rfl)⟩
      · exact ⟨3, by decide, pw 3 (by decide), fun {ρ} h h3 => ife_t (ec h3) (bin_run el (ei h) rfl)⟩
    · have ec : ∀ {ρ : Bw.Env}, ρ[3]? = some (some (.dat (bookD (kn n) rs))) → evE cf (.bin .lt (.un .len (.bin .idx (.nm 3) (.cst (.int 0)))) (.cst (.int 5))) false ρ = some (.bool false) := fun {ρ} h => bin_run (elen h) cst_run (by rw [show Lit.d (.int 5) = PyData.int 5 from rfl, b_lt, decide_eq_false (by omega)])
      refine ⟨1 + p, by omega, Nat.le_trans (Nat.le_trans (Nat.pow_le_pow_left (show 1 + p + 1 ≤ 3 by omega) n) (Nat.pow_le_pow_right (by decide) (show n ≤ 5 by omega))) (by decide), fun {ρ} h h3 => ife_f (ec h3) (bin_run cst_run (bin_run (bin_run (nm_run h) cst_run (idxA (j := 20) (by omega) rfl)) cst_run (by rw [show Lit.d (.int 2) = PyData.int 2 from rfl, mod_run (by decide), ep])) (by rw [show Lit.d (.int 1) = PyData.int 1 from rfl, b_addI]; congr 2))⟩
  have hmp : (0 : Int) < (m : Nat) + 1 := by omega
  let s : Nat → Int := fun j => at0 L (21 + j) % ((m : Nat) + 1)
  have ew := fun f => call_walk (T := tabF tab) (M := fuel) (k := 13) T28 B f (far := 30) (by decide)
  -- the spots
  obtain ⟨q27, hq27, eq27⟩ := mod_nat (i := at0 L 27) (j := 2) (n := 2) (atr 27 (by decide)).1 rfl (by decide)
  obtain ⟨far, hf1, hf2, ef⟩ : ∃ far : Nat, 0 < far ∧ far ≤ 31 ∧ binF .idx (.list [.int 31, .int 6]) (.int (q27 : Nat)) = some (.int (far : Nat)) := by
    have h2 : q27 = 0 ∨ q27 = 1 := by omega
    rcases h2 with rfl | rfl
    · exact ⟨31, by decide, by decide, rfl⟩
    · exact ⟨6, by decide, by decide, rfl⟩
  obtain ⟨c, hc7, ec7⟩ := mod_nat (i := at0 L 26) (j := 7) (n := 7) (atr 26 (by decide)).1 rfl (by decide)
  let ps : List (Int × Int) := (List.range c).map fun j => (at0 L (28 + j) % (far : Nat), at0 L (28 + j) / 31 % (n : Nat))
  have hps : ∀ p ∈ ps, (0 ≤ p.1 ∧ p.1 < (far : Nat)) ∧ 0 ≤ p.2 ∧ p.2 < (n : Nat) := fun p hp => by
    obtain ⟨j, _, rfl⟩ := List.mem_map.mp hp
    exact ⟨⟨Int.emod_nonneg _ (by omega), Int.emod_lt_of_pos _ (by omega)⟩, Int.emod_nonneg _ (by omega), Int.emod_lt_of_pos _ (by omega)⟩
  have hps64 : ∀ p ∈ ps, 0 ≤ p.1 ∧ p.1 < 64 ∧ 0 ≤ p.2 ∧ p.2 < 64 := fun p hp => by
    have := hps p hp
    omega
  have hpl : ps.length = c := by show ((List.range c).map _).length = c; simp
  have hsl := sortP_len ps
  have esort : unF .ssort (.list (ps.map pairD)) = some (.list ((sortP ps).map pairD)) := by
    show (pairsD (ps.map pairD)).bind _ = _
    rw [pairsD_map hps64, Option.bind_some, if_pos (by omega)]
    rfl
  let E := env (scrD ns) dr (sd (.int (a : Nat))) (kn n) rs m s
  let x7' := sd (.list ((sortP ps).map pairD))
  let f13 := sd (.int (far : Nat))
  let f14 := sd (.int (n : Nat))
  -- what is seen
  obtain ⟨ρs, es, seen, y15, y16, y17, is_, hsn, hsb⟩ := for_pre (f := fun d ρ => (bindT (.t [15, 16]) d ρ).bind fun ρ' => evSs cf fuel sB ρ') (q := pairD) (sortP ps) (fun done ρ => ∃ (seen : List Sn) (x15 x16 x17 : Option SV), ρ = E x7' (some (.own (seen.map (Sn.D (kn n))))) x9 x10 x11 x12 f13 f14 x15 x16 x17 x18 x20 x21 x22 ∧ seen.length = done.length ∧ ∀ x ∈ seen, x.b ≤ 30 ∧ x.i < n)
    (fun done p rest ρ hd ⟨seen, x15, x16, x17, e, e1, e2⟩ => by
      subst e
      have hp := hps p ((sortP_mem hps64 p).mp (by rw [hd]; simp))
      have hdl : done.length < 20 := by
        have := congrArg List.length hd
        rw [List.length_append, List.length_cons] at this
        omega
      obtain ⟨b, hb⟩ : ∃ b : Nat, p.1 = (b : Nat) := ⟨p.1.toNat, by omega⟩
      obtain ⟨i, hi⟩ : ∃ i : Nat, p.2 = (i : Nat) := ⟨p.2.toNat, by omega⟩
      obtain ⟨d, y17, hz⟩ := s_step (sc := scrD ns) (L := L) (s := s) (m := m) (x1 := sd (.int (a : Nat))) (x7 := x7') (x9 := x9) (x10 := x10) (x11 := x11) (x12 := x12) (x13 := f13) (x14 := f14) (x17 := x17) (x18 := x18) (x20 := x20) (x21 := x21) (x22 := x22) B hl seen (by omega) (b := b) (i := i) (by omega) (by omega)
      refine ⟨E x7' (some (.own ((seen ++ [(⟨b, i, d⟩ : Sn)]).map (Sn.D (kn n))))) x9 x10 x11 x12 f13 f14 (sd (.int (b : Nat))) (sd (.int (i : Nat))) y17 x18 x20 x21 x22, ?_, _, _, _, _, rfl, by simp [e1], fun x hx => ?_⟩
      · have g3 : bindT (.t [15, 16]) (pairD p) (E x7' (some (.own (seen.map (Sn.D (kn n))))) x9 x10 x11 x12 f13 f14 x15 x16 x17 x18 x20 x21 x22) = some (E x7' (some (.own (seen.map (Sn.D (kn n))))) x9 x10 x11 x12 f13 f14 (sd (.int (b : Nat))) (sd (.int (i : Nat))) x17 x18 x20 x21 x22) := by
          rw [show pairD p = .tuple [.int (b : Nat), .int (i : Nat)] from by unfold pairD; rw [hb, hi]]
          rfl
        rw [g3, Option.bind_some]
        exact hz
      · rcases List.mem_append.mp hx with hx | hx
        · exact e2 x hx
        · rw [List.mem_singleton.mp hx]
          exact ⟨by show b ≤ 30; omega, by show i < n; omega⟩) (sortP ps) [] (E x7' (some (.own [])) x9 x10 x11 x12 f13 f14 x15 x16 x17 x18 x20 x21 x22) rfl ⟨[], x15, x16, x17, rfl, rfl, fun x hx => by cases hx⟩
  subst is_
  have hsb' : ∀ x ∈ seen, x.b ≤ 30 ∧ x.i < (kn n).length := fun x hx => by rw [hkl]; exact hsb x hx
  have hsb'' : ∀ x ∈ seen, x.b ≤ 100 ∧ x.i < (kn n).length := fun x hx => ⟨Nat.le_trans (hsb' x hx).1 (by decide), (hsb' x hx).2⟩
  have hc' : (m + 1) ^ (kn n).length ≤ 1000 := by rw [hkl]; exact hc
  have hall := allS_len m (kn n).length
  let seenL := sd (.list (seen.map (Sn.D (kn n))))
  let sg := sd (singleD (kn n) rs)
  let okk := fun one : List Int => seen.all (seenOk (kn n) rs one)
  -- all of them looked at
  obtain ⟨ρd, eD, z11, z15, z16, z18, z20, z21, z22, id_⟩ := for_pre (f := fun d ρ => (bindT (.n 11) d ρ).bind fun ρ' => evSs cf fuel dB ρ') (q := tupI) (allS m (kn n).length) (fun done ρ => ∃ x11 x15 x16 x18 x20 x21 x22, ρ = E x7' seenL sg (sd (.list ((done.filter okk).map tupI))) x11 x12 f13 f14 x15 x16 y17 x18 x20 x21 x22)
    (fun done one rest ρ hd ⟨x11, x15, x16, x18, x20, x21, x22, e⟩ => by
      subst e
      have hdl : done.length ≤ 1000 := by
        have := congrArg List.length hd
        rw [List.length_append, List.length_cons, hall] at this
        omega
      have hfl : (done.filter okk).length ≤ done.length := List.length_filter_le _ _
      obtain ⟨y15, y16, y18, y20, y21, y22, hz⟩ := d_step (sc := scrD ns) (dr := dr) (s := s) (m := m) (x1 := sd (.int (a : Nat))) (x7 := x7') (x12 := x12) (x13 := f13) (x14 := f14) (x15 := x15) (x16 := x16) (x17 := y17) (x18 := x18) (x20 := x20) (x21 := x21) (x22 := x22) B hm seen hsb' (one := one) (by rw [hd]; simp) (done.filter okk) (by omega) (x11 := x11)
      have ef : (done.filter okk ++ if seen.all (seenOk (kn n) rs one) then [one] else []) = (done ++ [one]).filter okk := by
        rw [List.filter_append, List.filter_cons, List.filter_nil]
      rw [ef] at hz
      refine ⟨E x7' seenL sg (sd (.list (((done ++ [one]).filter okk).map tupI))) (sd (tupI one)) x12 f13 f14 y15 y16 y17 y18 y20 y21 y22, ?_, _, _, _, _, _, _, _, rfl⟩
      have g3 : bindT (.n 11) (tupI one) (E x7' seenL sg (sd (.list ((done.filter okk).map tupI))) x11 x12 f13 f14 x15 x16 y17 x18 x20 x21 x22) = some (E x7' seenL sg (sd (.list ((done.filter okk).map tupI))) (sd (tupI one)) x12 f13 f14 x15 x16 y17 x18 x20 x21 x22) := rfl
      rw [g3, Option.bind_some]
      exact hz) (allS m (kn n).length) [] (E x7' seenL sg (sd (.list [])) x11 x12 f13 f14 y15 y16 y17 x18 x20 x21 x22) rfl ⟨x11, y15, y16, x18, x20, x21, x22, rfl⟩
  subst id_
  let due := (allS m (kn n).length).filter okk
  let dueD : D := .list (due.map tupI)
  have hduel : due.length ≤ 1000 := Nat.le_trans (List.length_filter_le _ _) (by rw [hall]; exact hc')
  have est := e_starts B hc' hm seen (by omega) hsb''
  have etup : ∀ {ρ : Bw.Env}, ρ[8]? = some seenL → evE cf (.un .tuple (.nm 8)) false ρ = some (.tuple (seen.map (Sn.D (kn n)))) := fun {ρ} h => un_run (nm_run h) u_tupL
  refine ⟨E x7' seenL sg (sd dueD) z11 (some (.own (due.map tupI ++ [.int 0]))) f13 f14 z15 z16 y17 z18 z20 z21 z22, ?_, _, _, _, _, _, _, _, _, _, _, _, _, _, _, _, _, _, _, _, _, _, rfl⟩
  refine ss_nx (ρ' := [sd (scrD ns), sd (.int (a : Nat)), sd dr, x3, x4, x5, x6, x7, x8, x9, x10, x11, x12, x13, x14, x15, x16, x17, x18, none, x20, x21, x22, none, none, none]) (asg_run (call_e (es_cons (nm_run rfl) (es_cons (nm_run rfl) (es_cons cst_run (es_cons cst_run es_nil)))) ed rfl)) ?_
  refine ss_nx (ρ' := [sd (scrD ns), sd (.int (a : Nat)), sd dr, sd (bookD (kn n) rs), x4, x5, x6, x7, x8, x9, x10, x11, x12, x13, x14, x15, x16, x17, x18, none, x20, x21, x22, none, none, none]) (asg_run (call_e (es_cons (nm_run rfl) (es_cons (bin_run (nm_run rfl) cst_run (fdiv_run (by decide) (by decide))) es_nil)) eb rfl)) ?_
  refine ss_nx (ρ' := [sd (scrD ns), sd (.int (a : Nat)), sd dr, sd (bookD (kn n) rs), sd (.int (m : Nat)), x5, x6, x7, x8, x9, x10, x11, x12, x13, x14, x15, x16, x17, x18, none, x20, x21, x22, none, none, none]) (asg_run (i := 4) (d := .int (m : Nat)) (em rfl rfl)) ?_
  refine ss_nx (ρ' := [sd (scrD ns), sd (.int (a : Nat)), sd dr, sd (bookD (kn n) rs), sd (.int (m : Nat)), sd (.tuple (vec (kn n).length s)), x6, x7, x8, x9, x10, x11, x12, x13, x14, x15, x16, x17, x18, none, x20, x21, x22, none, none, none]) (asg_run (i := 5) (d := .tuple (vec (kn n).length s)) (tup_vec ?_)) ?_
  · rw [hkl]
    refine lc_n (L := List.range n) (q := fun j => .int (at0 L (21 + j))) (g := fun j => .int (s j)) (it_ex (slc_run (nm_run (d := dr) rfl) (part_yes cst_run) (part_yes (i := ((21 + n : Nat) : Int)) (bin_run cst_run (elen rfl) (by rw [show Lit.d (.int 21) = PyData.int 21 from rfl, b_addI]; congr 2))) s_L) ?_) (fun _ _ => cond_no) fun j _ => bin_run (nm_run rfl) (bin_run (nm_run rfl) cst_run b_addI) (mod_run hmp)
    rw [t_L]
    exact congrArg some (cut_ints (L := L) (a := 21) (n := n) (by omega))
  refine ss_nx (ρ' := E x7 x8 x9 x10 x11 x12 x13 x14 x15 x16 x17 x18 x20 x21 x22) (asg_run (i := 6) (d := rowsW (kn n) rs s) (call_e (es_cons (nm_run rfl) (es_cons (nm_run rfl) (es_cons cst_run es_nil))) (ew s) rfl)) ?_
  refine ss_nx (ρ' := E x7 x8 x9 x10 x11 x12 f13 f14 x15 x16 x17 x18 x20 x21 x22) (unp_run (ds := [.int (far : Nat), .int (n : Nat)]) (tup_run (es_cons (bin_run (x := .list [.int 31, .int 6]) (lst_run (es_cons cst_run (es_cons cst_run es_nil)) (by simp)) (bin_run (bin_run (nm_run (d := dr) rfl) cst_run (idxA (j := 27) (by omega) rfl)) cst_run (by rw [show Lit.d (.int 2) = PyData.int 2 from rfl, mod_run (by decide), eq27])) ef) (es_cons (elen rfl) es_nil)) (by simp)) rfl) ?_
  refine ss_nx (ρ' := E x7' x8 x9 x10 x11 x12 f13 f14 x15 x16 x17 x18 x20 x21 x22) (asg_run (i := 7) (d := .list ((sortP ps).map pairD)) (un_run (x := .list (ps.map pairD)) ?_ esort)) ?_
  · have e1 : ps.map pairD = (List.range c).map fun j => pairD (at0 L (28 + j) % (far : Nat), at0 L (28 + j) / 31 % (n : Nat)) := by
      show ((List.range c).map _).map pairD = _
      rw [List.map_map]
      rfl
    rw [e1]
    refine lc_n (L := List.range c) (q := fun j => .int (at0 L (28 + j))) (g := fun j => pairD (at0 L (28 + j) % (far : Nat), at0 L (28 + j) / 31 % (n : Nat))) (it_ex (slc_run (nm_run (d := dr) rfl) (part_yes cst_run) (part_yes (i := ((28 + c : Nat) : Int)) (bin_run cst_run (bin_run (bin_run (nm_run (d := dr) rfl) cst_run (idxA (j := 26) (by omega) rfl)) cst_run (by rw [show Lit.d (.int 7) = PyData.int 7 from rfl, mod_run (by decide), ec7])) (by rw [show Lit.d (.int 28) = PyData.int 28 from rfl, b_addI]; congr 2))) s_L) ?_) (fun _ _ => cond_no) fun j _ => tup_run (es_cons (bin_run (nm_run rfl) (nm_run rfl) (mod_run (by omega))) (es_cons (bin_run (bin_run (nm_run rfl) cst_run (fdiv_run (by decide) (by decide))) (nm_run rfl) (mod_run (by omega))) es_nil)) (by simp)
    rw [t_L]
    exact congrArg some (cut_ints (L := L) (a := 28) (n := c) (by omega))
  refine ss_nx (ρ' := E x7' (some (.own [])) x9 x10 x11 x12 f13 f14 x15 x16 x17 x18 x20 x21 x22) (asgO_run (i := 8) (lst_run es_nil (by simp))) ?_
  refine ss_nx (fr_run (it_ex (nm_run (d := .list ((sortP ps).map pairD)) rfl) t_L) es) ?_
  refine ss_nx (ρ' := E x7' seenL x9 x10 x11 x12 f13 f14 y15 y16 y17 x18 x20 x21 x22) (frz_run (i := 8) rfl) ?_
  have elS : ∀ {c : Bool} {ρ : Bw.Env}, ρ[5]? = some (some (.dat (.tuple (vec (kn n).length s)))) → evE cf (.un .len (.nm 5)) c ρ = some (.int ((kn n).length : Nat)) := fun {c ρ} h => un_run (nm_run h) (by rw [u_lenT, vec_length])
  refine ss_nx (ρ' := E x7' seenL sg x10 x11 x12 f13 f14 y15 y16 y17 x18 x20 x21 x22) (asg_run (i := 9) (d := singleD (kn n) rs) (lc_n (L := List.range (kn n).length) (q := fun p => .int ((p : Nat) : Int)) (g := fun p => rowsW (kn n) rs (unit p)) (it_rng (elS rfl) (by omega)) (fun _ _ => cond_no) fun p hp => call_e (es_cons (nm_run rfl) (es_cons (tup_vec (f := unit p) (lc_vec (elS rfl) (by omega) fun j hj => un_run (bin_run (nm_run rfl) (nm_run rfl) b_eqI) ?_)) (es_cons cst_run es_nil))) (ew (unit p)) rfl)) ?_
  · rw [u_intB]
    unfold unit
    by_cases h : j = p
    · rw [if_pos h, h]; simp
    · rw [if_neg h, beq_eq_false_iff_ne.mpr (by omega)]; rfl
  refine ss_nx (ρ' := E x7' seenL sg (sd (.list [])) x11 x12 f13 f14 y15 y16 y17 x18 x20 x21 x22) (asg_run (i := 10) (lst_run es_nil (by simp))) ?_
  refine ss_nx (fr_run (it_ex (call_e (es_cons (elS rfl) (es_cons (nm_run (d := .int (m : Nat)) rfl) es_nil)) (call_lawstarts (k := 13) T90 (w := (kn n).length) (m := m) (by omega) hc' hm) rfl) t_L) eD) ?_
  have eo : evEs cf (.cons (.nm 3) (.cons (.nm 4) (.cons (.un .tuple (.nm 8)) .nil))) (E x7' seenL sg (sd dueD) z11 x12 f13 f14 z15 z16 y17 z18 z20 z21 z22) = some [bookD (kn n) rs, .int (m : Nat), .tuple (seen.map (Sn.D (kn n)))] := es_cons (nm_run rfl) (es_cons (nm_run rfl) (es_cons (etup rfl) es_nil))
  refine ss_nx (ρ' := E x7' seenL sg (sd dueD) z11 (some (.own (due.map tupI))) f13 f14 z15 z16 y17 z18 z20 z21 z22) (owC_run (i := 12) eo est) ?_
  refine ss_nx (ρ' := E x7' seenL sg (sd dueD) z11 (some (.own (due.map tupI))) f13 f14 z15 z16 y17 z18 z20 z21 z22) (ifs_f (or_run (or_f (bin_run (pk_run rfl) (nm_run rfl) (ne_self (shp_rows due))) (or_1 (un_run (x := .bool true) ?_ u_not)))) ss_nil) ?_
  · unfold evE
    rw [pk_run (ds := due.map tupI) rfl]
    rfl
  refine ss_nx (ρ' := E x7' seenL sg (sd dueD) z11 (some (.own (due.map tupI ++ [.int 0]))) f13 f14 z15 z16 y17 z18 z20 z21 z22) (app_run (i := 12) (d := .int 0) (ds := due.map tupI) cst_run rfl (by rw [List.length_map]; omega)) ?_
  refine ss_nx (ifs_f (bin_run (call_e (es_cons (nm_run rfl) (es_cons (nm_run rfl) (es_cons (etup rfl) es_nil))) est rfl) (nm_run (d := dueD) rfl) (ne_self (shp_rows due))) ss_nil) ss_nil
def ksF : List Str := ["a"]
theorem B0 : BookOk ksF [] := ⟨by decide, by decide, by decide +kernel, by decide +kernel, by simp, by simp, by simp, by decide, by simp⟩
theorem plain : ∀ ns : List Int, ns.length ≤ 63 → callF (tabF tab) fuel 15 91 [scrD ns] = some (.dat (.bool true)) := fun ns _ => by
  obtain ⟨ρ2, e2, x1, x2, x3, x4, x5, x6, x7, x8, x9, x10, x11, x12, x13, x14, x15, x16, x17, x18, x20, x21, x22, rfl⟩ := for_inv (f := fun d ρ => (bindT (.n 1) d ρ).bind fun ρ' => evSs cf fuel aB ρ') (q := fun a : Nat => .int (a : Nat)) (fun ρ => ∃ x1 x2 x3 x4 x5 x6 x7 x8 x9 x10 x11 x12 x13 x14 x15 x16 x17 x18 x20 x21 x22, ρ = [sd (scrD ns), x1, x2, x3, x4, x5, x6, x7, x8, x9, x10, x11, x12, x13, x14, x15, x16, x17, x18, none, x20, x21, x22, none, none, none]) [0, 2, 4, 6]
    [sd (scrD ns), none, none, none, none, none, none, none, none, none, none, none, none, none, none, none, none, none, none, none, none, none, none, none, none, none] ⟨none, none, none, none, none, none, none, none, none, none, none, none, none, none, none, none, none, none, none, none, none, rfl⟩
    fun a ha ρ ⟨x1, x2, x3, x4, x5, x6, x7, x8, x9, x10, x11, x12, x13, x14, x15, x16, x17, x18, x20, x21, x22, h⟩ => by
      subst h
      have ha' : a ≤ 1000 := by
        simp only [List.mem_cons, List.not_mem_nil, or_false] at ha
        omega
      obtain ⟨ρ', h1, h2⟩ := a_step ns ha' (ρ := [sd (scrD ns), sd (.int (a : Nat)), x2, x3, x4, x5, x6, x7, x8, x9, x10, x11, x12, x13, x14, x15, x16, x17, x18, none, x20, x21, x22, none, none, none]) ⟨x2, x3, x4, x5, x6, x7, x8, x9, x10, x11, x12, x13, x14, x15, x16, x17, x18, x20, x21, x22, rfl⟩
      refine ⟨ρ', ?_, h2⟩
      have g3 : bindT (.n 1) (PyData.int (a : Nat)) [sd (scrD ns), x1, x2, x3, x4, x5, x6, x7, x8, x9, x10, x11, x12, x13, x14, x15, x16, x17, x18, none, x20, x21, x22, none, none, none] = some [sd (scrD ns), sd (.int (a : Nat)), x2, x3, x4, x5, x6, x7, x8, x9, x10, x11, x12, x13, x14, x15, x16, x17, x18, none, x20, x21, x22, none, none, none] := rfl
      rw [g3, Option.bind_some]
      exact h1
  let ρ3 : Bw.Env := [sd (scrD ns), x1, x2, x3, x4, x5, x6, x7, x8, x9, x10, x11, x12, x13, x14, x15, x16, x17, x18, none, x20, x21, x22, none, none, none]
  refine call_run (fd := f_law) rfl rfl (ρ' := ρ3) ?_
  refine ss_nx (fr_run (it_ex (tup_run (es_cons cst_run (es_cons cst_run (es_cons cst_run (es_cons cst_run es_nil)))) (by simp)) t_T) e2) ?_
  have est := e_starts (ks := ksF) (rs := []) (m := 1) B0 (by decide) (by decide) [] (by decide) (fun x hx => by cases hx)
  refine ss_rt (ret_run (bin_run (x := .list [.tuple [.int 0], .tuple [.int 1]]) (y := .list [.tuple [.int 0], .tuple [.int 1]]) (call_e (es_cons (tup_run (es_cons (tup_run (es_cons cst_run es_nil) (by first | (simp; done) | decide)) (es_cons (tup_run es_nil (by first | (simp; done) | decide)) es_nil)) (by first | (simp; done) | decide)) (es_cons cst_run (es_cons (tup_run es_nil (by simp)) es_nil))) est rfl) (lst_run (es_cons (tup_run (es_cons cst_run es_nil) (by simp)) (es_cons (tup_run (es_cons cst_run es_nil) (by simp)) es_nil)) (by simp)) rfl))
end
end BwK13
open PySem PySem.W PySem.Calls PyProof.Rows
theorem PySem.Challenge.cw_breedworks_k13_beginnings_told_from_what_holds : PySem.Challenge.rw_breedworks_k13_beginnings_told_from_what.Holds := by
  w_on; o_law
  refine HandSHeadRun.head_any (r := BwK13.Rw) (q := view BwK13.Rw.prog [14]) (H := BwK13.hk) (ob := BwK13.ob) (M := 1000) (loose := BwK13.loose) (d := HandSHeadRun.topDef BwK13.Rw.prog 14) (kwd := []) BwK13.ob_eq
    (by kernel_rfl) (fun s => by kernel_rfl) BwK13.run (by kernel_rfl) (by kernel_rfl) (by kernel_rfl) (by rfl) (by first | assumption | decide +kernel) (by decide +kernel) ⟨rfl, rfl, rfl, rfl, rfl, by decide +kernel⟩ ?hw ?hc
  case hw => w_witness2
  case hc =>
    refine L2.walk_ofE (l := PySem.Challenge.rw_breedworks_k13_beginnings_told_from_what) (n := 63) (k := 16) (x := "script") (CX := L2.CX0) rfl (by decide) (by kernel_rfl) ⟨rfl, by decide, by decide⟩ ?F (fun _ _ _ _ z => z)
    intro w mg fa h Y G hmg0
    obtain ⟨K, KX, c⟩ := Y
    have hmg : mg ("law" : PySem.Str) = some (.ref fa) := by
      have e : (HandSHeadRun.topDef BwK13.Rw.prog 14).name = ("law" : PySem.Str) := by kernel_rfl
      rw [← e]
      exact hmg0
    obtain ⟨fd, hb, hF⟩ := Bw.law_fn (prog := (PySem.Challenge.rw_breedworks_k13_beginnings_told_from_what).prog) (w := w) (d := BwK13.d_law) BwK13.fuel 15 BwK13.oks (by simp [BwK13.tab]) KX G hmg c (x := "script") rfl
    exact ⟨K, fd, _, KX, hb, fun H a ns hl hO hS => Bw.law_sp (n := 63) BwK13.plain H a ns hl hO hS, fun base _ _ => hF base⟩

