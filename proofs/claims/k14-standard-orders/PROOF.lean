import PyProof.Rows.All
import PyProof.P3Statements
import PyProof.EqLayable
import Wide.All
import OpenK.AllK
import Wide.FinOn
import HandS.ForMost
import HandS.ForExc
import HandS.TryMany
import HandS.IsInst
import HandS.Wide
import HandS.Deep
import HandS.TupAny
import HandS.TupMul
import HandS.Flow
import HandS.Walk
import HandS.Zip
import HandS.ExcIs
import HandS.Style
import HandS.Conv
import KE.GoesMore
import KE.SortData
import PyProof.TupleOfSeq
import PyProof.SeqIndex
import PyProof.TableCode
import PySem.Challenge.RW_additiveorders_k14_whole_standard_orders
set_option linter.all false
set_option maxRecDepth 100000
set_option maxHeartbeats 1000000
/-! The plain part: data, a small language of expressions and statements over data, its evaluator. -/
namespace Mp
open PySem
abbrev D := PyData
inductive R (α : Type) where
  | bad | exc (c : Str) | val (a : α)
def R.bnd {α β : Type} : R α → (α → R β) → R β
  | .bad, _ => .bad
  | .exc c, _ => .exc c
  | .val a, f => f a
@[simp] theorem R.bnd_val {α β : Type} (a : α) (f : α → R β) : (R.val a).bnd f = f a := rfl
@[simp] theorem R.bnd_bad {α β : Type} (f : α → R β) : (R.bad : R α).bnd f = .bad := rfl
@[simp] theorem R.bnd_exc {α β : Type} (c : Str) (f : α → R β) : (R.exc c : R α).bnd f = .exc c := rfl
def lim : Nat := 1000000
/-- a list that is given to be read alone -/
def scr (ds : List D) : D := .dict [(.none, .list ds)]
def ofO {α : Type} : Option α → R α
  | some a => .val a
  | none => .bad
@[simp] theorem ofO_some {α : Type} (a : α) : ofO (some a) = .val a := rfl
@[simp] theorem ofO_none {α : Type} : ofO (none : Option α) = .bad := rfl
def mkL (ds : List D) : Option D := if ds.length ≤ lim then some (.list ds) else none
def mkT (ds : List D) : Option D := if ds.length ≤ lim then some (.tuple ds) else none
theorem mkL_of {ds : List D} (h : ds.length ≤ lim) : mkL ds = some (.list ds) := if_pos h
theorem mkT_of {ds : List D} (h : ds.length ≤ lim) : mkT ds = some (.tuple ds) := if_pos h
def atX {α : Type} (xs : List α) (i : Int) : Option α := if 0 ≤ i then xs[i.toNat]? else if -(xs.length : Int) ≤ i then xs[(i + xs.length).toNat]? else none
def sX (n d : Nat) : Option Int → Nat
  | none => d
  | some v => if v < 0 then (v + (n : Int)).toNat else min v.toNat n
def cutX {α : Type} (xs : List α) (lo hi : Option Int) : List α := (xs.drop (sX xs.length 0 lo)).take (sX xs.length xs.length hi - sX xs.length 0 lo)
/-- the data by truth -/
def truth : D → Option Bool
  | .none => some false
  | .bool b => some b
  | .int i => some (i != 0)
  | .str x => if x.length ≤ lim then some ((x.length : Int) != 0) else none
  | .list xs => some (!xs.isEmpty)
  | .tuple xs => some (!xs.isEmpty)
  | .dict _ => none
def scalar : D → Bool
  | .none => true
  | .bool _ => true
  | .int _ => true
  | .str _ => true
  | _ => false
def flat : D → Bool
  | .none => true
  | .bool _ => true
  | .int _ => true
  | .str _ => true
  | _ => false
/-! ### operators -/
def mulOk (i j : Int) : Bool := decide ((-(2 ^ 64) < i ∧ i < 2 ^ 64) ∨ (-(2 ^ 64) < j ∧ j < 2 ^ 64)) || decide (i.natAbs.log2 + j.natAbs.log2 < 1000000)
inductive Bo where
  | add | sub | mul | fdiv | mod | pow
def addS : D → D → Option D
  | .int i, .int j => some (.int (i + j))
  | .list a, .list b => mkL (a ++ b)
  | .tuple a, .tuple b => mkT (a ++ b)
  | .str a, .str b => if a.length + b.length ≤ lim then some (.str (a ++ b)) else none
  | _, _ => none
def subS : D → D → Option D
  | .int i, .int j => some (.int (i - j))
  | _, _ => none
def repX {α : Type} (xs : List α) (k : Int) : List α := (List.replicate k.toNat xs).flatten
def mulS : D → D → Option D
  | .int i, .int j => if mulOk i j then some (.int (i * j)) else none
  | .list a, .int k => if k < 1000 ∧ a.length ≤ 1000 ∧ -1000 < k then some (.list (repX a k)) else none
  | .tuple a, .int k => if a ≠ [] ∧ -1000 ≤ k ∧ k ≤ 1000 ∧ a.length ≤ 1000 then some (.tuple (repX a k)) else none
  | _, _ => none
def fdivS : D → D → Option D
  | .int i, .int j => if 0 < j ∧ j.natAbs.log2 < 9000 then some (.int (i / j)) else none
  | _, _ => none
def modS : D → D → Option D
  | .int i, .int j => if 0 < j then some (.int (i % j)) else none
  | _, _ => none
def powS : D → D → Option D
  | .int i, .int j => if 0 ≤ j ∧ j ≤ 1000 ∧ i.natAbs < 2 ^ 64 then some (.int (i ^ j.toNat)) else none
  | _, _ => none
def boS : Bo → D → D → Option D
  | .add => addS
  | .sub => subS
  | .mul => mulS
  | .fdiv => fdivS
  | .mod => modS
  | .pow => powS
inductive Co where
  | lt | le | gt | ge | eq | ne | is | isnt | isin | notin
def eqS : D → D → Option Bool
  | .int i, .int j => some (i == j)
  | .str i, .str j => some (i == j)
  | a, b => if SeqAt.shaped a && SeqAt.shaped b then some (PyData.eqv a b) else none
def intsOf : List D → Option (List Int)
  | [] => some []
  | .int i :: r => (intsOf r).map (i :: ·)
  | _ :: _ => none
def lexLtX : List Int → List Int → Bool
  | [], [] => false
  | [], _ :: _ => true
  | _ :: _, [] => false
  | x :: xs, y :: ys => if x = y then lexLtX xs ys else decide (x < y)
def ltS : D → D → Option Bool
  | .int i, .int j => some (decide (i < j))
  | .tuple a, .tuple b => match intsOf a, intsOf b with
    | some x, some y => some (lexLtX x y)
    | _, _ => none
  | _, _ => none
def leS : D → D → Option Bool
  | .int i, .int j => some (decide (i ≤ j))
  | _, _ => none
def gtS : D → D → Option Bool
  | .int i, .int j => some (decide (j < i))
  | _, _ => none
def geS : D → D → Option Bool
  | .int i, .int j => some (decide (j ≤ i))
  | _, _ => none
def isNone : D → Bool
  | .none => true
  | _ => false
def isS : D → D → Option Bool
  | a, .none => some (isNone a)
  | _, _ => none
def inS : D → D → Option Bool
  | a, .list ds => if SeqAt.shaped a && SeqAt.shaped (.list ds) then some (ds.any fun y => PyData.eqv y a) else none
  | a, .tuple ds => if SeqAt.shaped a && SeqAt.shaped (.tuple ds) then some (ds.any fun y => PyData.eqv y a) else none
  | _, _ => none
def coB : Co → D → D → Option Bool
  | .lt => ltS
  | .le => leS
  | .gt => gtS
  | .ge => geS
  | .eq => eqS
  | .ne => fun a b => (eqS a b).map fun k => (!k)
  | .is => isS
  | .isnt => fun a b => (isS a b).map fun k => (!k)
  | .isin => inS
  | .notin => fun a b => (inS a b).map fun k => (!k)
def coS (o : Co) (a b : D) : Option D := (coB o a b).map fun k => .bool k
inductive Ty where
  | int | bool | tuple | list | str
def tyS : Ty → D → Option D
  | .int, .int _ => some (.bool true)
  | .int, .bool _ => some (.bool true)
  | .bool, .bool _ => some (.bool true)
  | .tuple, .tuple _ => some (.bool true)
  | .list, .list _ => some (.bool true)
  | .str, .str _ => some (.bool true)
  | _, .dict _ => none
  | _, _ => some (.bool false)
def negS : D → Option D
  | .int i => some (.int (-i))
  | _ => none
def ixS : D → D → Option D
  | .list ds, .int i => match atX ds i with
    | some d => some d
    | none => none
  | .tuple ds, .int i => match atX ds i with
    | some d => some d
    | none => none
  | .dict [(.none, .list ds)], .int i => match atX ds i with
    | some d => some d
    | none => none
  | _, _ => none
/-- a text of a dict of texts -/
def dgL : List (D × D) → Str → Option D
  | [], _ => none
  | (.str a, v) :: r, k => if a = k then some v else dgL r k
  | _ :: _, _ => none
def dgS : D → D → Option D
  | .dict kvs, .str k => dgL kvs k
  | _, _ => none
def slS : D → Option Int → Option Int → Option D
  | .list ds, lo, hi => some (.list (cutX ds lo hi))
  | .tuple ds, lo, hi => some (.tuple (cutX ds lo hi))
  | _, _, _ => none
inductive Bf where
  | len | abs | max | min | int | sum | tuple | list | isi (t : Ty)
def maxL : Int → List Int → Int
  | m, [] => m
  | m, x :: r => maxL (if m < x then x else m) r
def minL : Int → List Int → Int
  | m, [] => m
  | m, x :: r => minL (if x < m then x else m) r
def bfS : Bf → List D → Option D
  | .len, [.list ds] => some (.int ds.length)
  | .len, [.tuple ds] => some (.int ds.length)
  | .len, [.dict [(.none, .list ds)]] => some (.int ds.length)
  | .abs, [.int i] => some (.int (if i < 0 then -i else i))
  | .max, [.int i, .int j] => some (.int (if j > i then j else i))
  | .min, [.int i, .int j] => some (.int (if j < i then j else i))
  | .int, [.int i] => some (.int i)
  | .int, [.bool k] => some (.int (if k then 1 else 0))
  | .sum, [.list ds] => match intsOf ds with
    | some ns => some (.int ns.sum)
    | none => none
  | .tuple, [.list ds] => some (.tuple ds)
  | .tuple, [.tuple ds] => some (.tuple ds)
  | .list, [.list ds] => some (.list ds)
  | .list, [.tuple ds] => some (.list ds)
  | .isi t, [d] => tyS t d
  | _, _ => none
/-! ### sorting, and what else is asked of data -/
mutual
def ltD : D → D → Bool
  | .int a, .int b => decide (a < b)
  | .tuple xs, .tuple ys => ltDs xs ys
  | _, _ => false
def ltDs : List D → List D → Bool
  | [], [] => false
  | [], _ :: _ => true
  | _ :: _, [] => false
  | x :: xs, y :: ys => if PyData.eqv x y then ltDs xs ys else ltD x y
end
mutual
/-- ints and tuples of ints that can be compared -/
def alX : D → D → Bool
  | .int _, .int _ => true
  | .tuple xs, .tuple ys => alXs xs ys
  | _, _ => false
def alXs : List D → List D → Bool
  | x :: xs, y :: ys => alX x y && alXs xs ys
  | [], _ => true
  | _ :: _, [] => true
end
def isI : D → Bool
  | .int _ => true
  | _ => false
def isT1 : D → Bool
  | .tuple (_ :: _) => true
  | _ => false
def sortOk (ds : List D) : Bool := ds.all (fun d => ds.all (alX d)) && (ds.all isI || ds.all isT1) && ds.all (fun d => decide (d.depth ≤ 60)) && decide (ds.length ≤ lim)
def insG {α : Type} (lt : α → α → Bool) (x : α) : List α → List α
  | [] => [x]
  | y :: ys => if lt y x then y :: insG lt x ys else x :: y :: ys
def sortG {α : Type} (lt : α → α → Bool) : List α → List α
  | [] => []
  | x :: xs => insG lt x (sortG lt xs)
def idxX (d : D) : List D → Nat → Option Nat
  | [], _ => none
  | x :: xs, n => if PyData.eqv x d then some n else idxX d xs (n + 1)
def idxS (d : D) (ds : List D) (o : D) : Option D := if SeqAt.shaped d && SeqAt.shaped o then (idxX d ds 0).map fun n => .int (n : Int) else none
inductive Bg where
  | sorted | bool | maxs | mins | maxd | index | rev
def sortedS : List D → Option D
  | [.list ds] => if sortOk ds then some (.list (sortG ltD ds)) else none
  | [.tuple ds] => if sortOk ds then some (.list (sortG ltD ds)) else none
  | _ => none
def boolS : List D → Option D
  | [.int i] => some (.bool (i != 0))
  | [.bool k] => some (.bool k)
  | _ => none
def maxsS : List D → Option D
  | [.tuple ds] => match intsOf ds with
    | some (n :: ns) => some (.int (maxL n ns))
    | _ => none
  | _ => none
def minsS : List D → Option D
  | [.tuple ds] => match intsOf ds with
    | some (n :: ns) => some (.int (minL n ns))
    | _ => none
  | _ => none
def maxdS : List D → Option D
  | [.tuple ds, .int k] => match intsOf ds with
    | some [] => some (.int k)
    | some (n :: ns) => some (.int (maxL n ns))
    | none => none
  | _ => none
def indexS : List D → Option D
  | [.tuple ds, d] => idxS d ds (.tuple ds)
  | [.list ds, d] => idxS d ds (.list ds)
  | _ => none
def revS : List D → Option D
  | [.tuple ds] => some (.tuple ds.reverse)
  | [.list ds] => some (.list ds.reverse)
  | _ => none
def bgS : Bg → List D → Option D
  | .sorted => sortedS
  | .bool => boolS
  | .maxs => maxsS
  | .mins => minsS
  | .maxd => maxdS
  | .index => indexS
  | .rev => revS
/-! ### places -/
inductive Sl where
  | dat (d : D) | own (ds : List D)
abbrev Rho := List (Option Sl)
def wipeX (ρ : Rho) : List Nat → Rho
  | [] => ρ
  | v :: vs => (wipeX ρ vs).set v none
def frzS : Option Sl → Option Sl
  | some (.own ds) => some (.dat (.list ds))
  | s => s
def frzAll (ρ : Rho) : Rho := ρ.map frzS
def frzAt (ρ : Rho) : List Nat → Rho
  | [] => ρ
  | i :: is => match ρ[i]? with
    | some o => frzAt (ρ.set i (frzS o)) is
    | none => frzAt ρ is
mutual
inductive Tg where
  | nm (i : Nat) | tp (ts : Tgs)
inductive Tgs where
  | nil | cons (t : Tg) (ts : Tgs)
end
def Tgs.len : Tgs → Nat
  | .nil => 0
  | .cons _ ts => ts.len + 1
mutual
def asgT : Tg → D → Rho → Option Rho
  | .nm i, d, ρ => if i < ρ.length then some (ρ.set i (some (.dat d))) else none
  | .tp ts, .tuple ds, ρ => asgTs ts ds ρ
  | .tp _, _, _ => none
def asgTs : Tgs → List D → Rho → Option Rho
  | .nil, [], ρ => some ρ
  | .cons t ts, d :: ds, ρ => match asgT t d ρ with
    | some ρ1 => asgTs ts ds ρ1
    | none => none
  | _, _, _ => none
end
/-! ### expressions -/
mutual
inductive Ex where
  | var (i : Nat) | lit (d : D) | bin (o : Bo) (a b : Ex) | neg (a : Ex) | cmp (o : Co) (a b : Ex) | chain (o p : Co) (a b c : Ex)
  | and (a b : Ex) | or (a b : Ex) | not (a : Ex) | ite (c a b : Ex) | tup (es : Es) | lst (es : Es) | ix (a b : Ex) | sl (a : Ex) (lo hi : Eo)
  | call (f : Str) (es : Es) | blt (f : Bf) (es : Es) | lc (t : Tg) (i : It) (c : Eo) (e : Ex) (vs : List Nat)
  | lc2 (t : Tg) (i : It) (c : Eo) (t1 : Tg) (i1 : It) (c1 : Eo) (e : Ex) (vs vs1 : List Nat) | bor (e : Ex) | dget (a b : Ex) | blg (f : Bg) (es : Es)
inductive Es where
  | nil | cons (e : Ex) (es : Es)
inductive Eo where
  | non | som (e : Ex)
inductive It where
  | seq (e : Ex) | rng (a : Ex) | rng2 (a b : Ex) | zip (a b : Ex) | enum (a : Ex) | enumT (a : Ex)
end
def rngX (lo : Int) (n : Nat) : List D := (List.range n).map fun i => .int (lo + (i : Nat))
def smallI (i : Int) : Bool := decide (-(2 ^ 62) ≤ i ∧ i < 2 ^ 62)
def pairsX : List D → List D → List D
  | x :: xs, y :: ys => .tuple [x, y] :: pairsX xs ys
  | _, _ => []
def enumX : Nat → List D → List D
  | _, [] => []
  | n, x :: xs => .tuple [.int (n : Int), x] :: enumX (n + 1) xs
def seqS : D → Option (List D)
  | .list ds => some ds
  | .tuple ds => some ds
  | _ => none
def zipS : D → D → Option (List D)
  | .list a, .list b => some (pairsX a b)
  | .tuple a, .tuple b => some (pairsX a b)
  | _, _ => none
def rngS : D → Option (List D)
  | .int j => if smallI j then some (rngX 0 j.toNat) else none
  | _ => none
def rng2S : D → D → Option (List D)
  | .int i, .int j => if smallI i && smallI j then some (rngX i (j - i).toNat) else none
  | _, _ => none
def enumS : D → Option (List D)
  | .list ds => some (enumX 0 ds)
  | _ => none
def enumTS : D → Option (List D)
  | .tuple ds => some (enumX 0 ds)
  | _ => none
def optI : Option D → Option (Option Int)
  | none => some none
  | some (.int i) => some (some i)
  | _ => none
/-- a comprehension's turns: nothing may be raised within -/
def lcF (step : D → R (List D)) : List D → R (List D)
  | [] => .val []
  | x :: xs => match step x with
    | .val o => match lcF step xs with
      | .val ys => .val (o ++ ys)
      | _ => .bad
    | _ => .bad
def truR (r : R D) : R Bool := r.bnd fun d => ofO (truth d)
variable (cal : Str → List D → R D)
mutual
def ev : Ex → Rho → R D
  | .var i, ρ => match ρ[i]? with
    | some (some (.dat d)) => .val d
    | _ => .bad
  | .lit d, _ => .val d
  | .bin o a b, ρ => (ev a ρ).bnd fun x => (ev b ρ).bnd fun y => ofO (boS o x y)
  | .neg a, ρ => (ev a ρ).bnd fun x => ofO (negS x)
  | .cmp o a b, ρ => (ev a ρ).bnd fun x => (ev b ρ).bnd fun y => ofO (coS o x y)
  | .chain o p a b c, ρ => (ev a ρ).bnd fun x => (ev b ρ).bnd fun y => (ofO (coB o x y)).bnd fun k => match k with
    | true => (ev c ρ).bnd fun z => ofO (coS p y z)
    | false => .val (.bool false)
  | .and a b, ρ => (ev a ρ).bnd fun x => match x with
    | .bool true => ev b ρ
    | .bool false => .val (.bool false)
    | _ => .bad
  | .or a b, ρ => (ev a ρ).bnd fun x => match x with
    | .bool true => .val (.bool true)
    | .bool false => ev b ρ
    | _ => .bad
  | .not a, ρ => (truR (ev a ρ)).bnd fun k => .val (.bool (!k))
  | .ite c a b, ρ => (truR (ev c ρ)).bnd fun k => match k with
    | true => ev a ρ
    | false => ev b ρ
  | .tup es, ρ => (evs es ρ).bnd fun ds => ofO (mkT ds)
  | .lst es, ρ => (evs es ρ).bnd fun ds => ofO (mkL ds)
  | .ix a b, ρ => (ev a ρ).bnd fun x => (ev b ρ).bnd fun y => ofO (ixS x y)
  | .sl a lo hi, ρ => (ev a ρ).bnd fun x => (evo lo ρ).bnd fun l => (ofO (optI l)).bnd fun l => (evo hi ρ).bnd fun h => (ofO (optI h)).bnd fun h => ofO (slS x l h)
  | .call f es, ρ => (evs es ρ).bnd fun ds => cal f ds
  | .blt f es, ρ => (evs es ρ).bnd fun ds => ofO (bfS f ds)
  | .lc t it c e vs, ρ => (evi it ρ).bnd fun xs => (lcF (fun x => match asgT t x (wipeX ρ vs) with
    | some ρ1 => (evt c ρ1).bnd fun k => match k with
      | true => (ev e ρ1).bnd fun d => .val [d]
      | false => .val []
    | none => .bad) xs).bnd fun ds => ofO (mkL ds)
  | .lc2 t it c t1 it1 c1 e vs vs1, ρ => (evi it ρ).bnd fun xs => (lcF (fun x => match asgT t x (wipeX ρ vs) with
    | some ρ1 => (evt c ρ1).bnd fun k => match k with
      | true => (evi it1 ρ1).bnd fun xs1 => lcF (fun x1 => match asgT t1 x1 (wipeX ρ1 vs1) with
        | some ρ2 => (evt c1 ρ2).bnd fun k1 => match k1 with
          | true => (ev e ρ2).bnd fun d => .val [d]
          | false => .val []
        | none => .bad) xs1
      | false => .val []
    | none => .bad) xs).bnd fun ds => ofO (mkL ds)
  | .bor e, ρ => (ev e (frzAll ρ)).bnd fun d => if scalar d then .val d else .bad
  | .dget a b, ρ => (ev a ρ).bnd fun x => (ev b ρ).bnd fun y => ofO (dgS x y)
  | .blg f es, ρ => (evs es ρ).bnd fun ds => ofO (bgS f ds)
def evs : Es → Rho → R (List D)
  | .nil, _ => .val []
  | .cons e es, ρ => (ev e ρ).bnd fun d => (evs es ρ).bnd fun ds => .val (d :: ds)
def evo : Eo → Rho → R (Option D)
  | .non, _ => .val none
  | .som e, ρ => (ev e ρ).bnd fun d => .val (some d)
/-- a clause's test -/
def evt : Eo → Rho → R Bool
  | .non, _ => .val true
  | .som e, ρ => truR (ev e ρ)
def evi : It → Rho → R (List D)
  | .seq e, ρ => (ev e ρ).bnd fun x => ofO (seqS x)
  | .rng a, ρ => (ev a ρ).bnd fun x => ofO (rngS x)
  | .rng2 a b, ρ => (ev a ρ).bnd fun x => (ev b ρ).bnd fun y => ofO (rng2S x y)
  | .zip a b, ρ => (ev a ρ).bnd fun x => (ev b ρ).bnd fun y => ofO (zipS x y)
  | .enum a, ρ => (ev a ρ).bnd fun x => ofO (enumS x)
  | .enumT a, ρ => (ev a ρ).bnd fun x => ofO (enumTS x)
end
/-! ### statements -/
/-- what an except clause asks of the class -/
inductive Xc where
  | is (c : Str) | not (x : Xc) | and (x y : Xc) | or (x y : Xc)
/-- a clause: except c as e: return d1 if x else d2 -/
structure Hnd where
  c : Str
  x : Xc
  d1 : D
  d2 : D
variable (sub : Str → Str → Bool)
def Xc.ev (k : Str) : Xc → Bool
  | .is c => sub k c
  | .not x => !x.ev k
  | .and x y => x.ev k && y.ev k
  | .or x y => x.ev k || y.ev k
inductive S where
  | skip | asg (t : Tg) (e : Ex) | own (i : Nat) (e : Ex) | par (i j : Nat) (a b : Ex) | aug (i : Nat) (e : Ex) | app (i : Nat) (e : Ex) | ext (i : Nat) (e : Ex) | set (i : Nat) (k v : Ex) | drop (e : Ex)
  | ret (e : Ex) | rais (c : Str) | ite (c : Ex) (a b : S) | whl (c : Ex) (b : S) | for (t : Tg) (i : It) (b : S) | seq (a b : S) | brk | cnt | frz (fs : List Nat) (s : S)
  | tryy (b : S) (i : Nat) (ns : List Str) (hs : List Hnd) | never
inductive O where
  | bad | nxt (ρ : Rho) | ret (d : D) | exc (c : Str) (ρ : Rho) | brk (ρ : Rho) | cnt (ρ : Rho)
def forF (step : D → Rho → O) : List D → Rho → O
  | [], ρ => .nxt ρ
  | x :: xs, ρ => match step x ρ with
    | .nxt ρ1 => forF step xs ρ1
    | .cnt ρ1 => forF step xs ρ1
    | .brk ρ1 => .nxt ρ1
    | o => o
def whlF (test : Rho → R Bool) (body : Rho → O) : Nat → Rho → O
  | 0, _ => .bad
  | n + 1, ρ => match test ρ with
    | .val true => (match body ρ with
      | .nxt ρ1 => whlF test body n ρ1
      | .cnt ρ1 => whlF test body n ρ1
      | .brk ρ1 => .nxt ρ1
      | o => o)
    | .val false => .nxt ρ
    | _ => .bad
def R.out {α : Type} (r : R α) (ρ : Rho) (f : α → O) : O := match r with
  | .val a => f a
  | .exc c => .exc c ρ
  | .bad => .bad
@[simp] theorem R.out_val {α : Type} (a : α) (ρ : Rho) (f : α → O) : (R.val a).out ρ f = f a := rfl
@[simp] theorem R.out_bad {α : Type} (ρ : Rho) (f : α → O) : (R.bad : R α).out ρ f = .bad := rfl
@[simp] theorem R.out_exc {α : Type} (c : Str) (ρ : Rho) (f : α → O) : (R.exc c : R α).out ρ f = .exc c ρ := rfl
def ixX (n : Nat) (i : Int) : Option Nat := if 0 ≤ i then (if i < n then some i.toNat else none) else if -(n : Int) ≤ i then some (i + n).toNat else none
variable (wf : Nat)
def execH : List Hnd → Str → Rho → O
  | [], c, ρ => .exc c ρ
  | h :: hs, c, ρ => if sub c h.c then .ret (if h.x.ev sub c then h.d1 else h.d2) else execH hs c ρ
def exec : S → Rho → O
  | .skip, ρ => .nxt ρ
  | .never, _ => .bad
  | .asg t e, ρ => (ev cal e ρ).out ρ fun d => match asgT t d ρ with
    | some ρ1 => .nxt ρ1
    | none => .bad
  | .own i e, ρ => (ev cal e ρ).out ρ fun d => match d with
    | .list ds => if i < ρ.length then .nxt (ρ.set i (some (.own ds))) else .bad
    | _ => .bad
  | .par i j a b, ρ => (ev cal a ρ).out ρ fun x => (ev cal b ρ).out ρ fun y => if i < ρ.length ∧ j < ρ.length then .nxt ((ρ.set i (some (.dat x))).set j (some (.dat y))) else .bad
  | .aug i e, ρ => match ρ[i]? with
    | some (some (.dat (.int x))) => (ev cal e ρ).out ρ fun y => match y with
      | .int y => .nxt (ρ.set i (some (.dat (.int (x + y)))))
      | _ => .bad
    | _ => .bad
  | .app i e, ρ => match ρ[i]? with
    | some (some (.own ds)) => (ev cal e ρ).out ρ fun d => if ds.length < lim then .nxt (ρ.set i (some (.own (ds ++ [d])))) else .bad
    | _ => .bad
  | .ext i e, ρ => match ρ[i]? with
    | some (some (.own ds)) => (ev cal e ρ).out ρ fun d => match d with
      | .list es => if (ds ++ es).length ≤ lim then .nxt (ρ.set i (some (.own (ds ++ es)))) else .bad
      | _ => .bad
    | _ => .bad
  | .set i k v, ρ => match ρ[i]? with
    | some (some (.own ds)) => (ev cal v ρ).out ρ fun d => (ev cal k ρ).out ρ fun k => match k with
      | .int k => (match ixX ds.length k with
        | some j => .nxt (ρ.set i (some (.own (ds.set j d))))
        | none => .bad)
      | _ => .bad
    | _ => .bad
  | .drop e, ρ => (ev cal e ρ).out ρ fun _ => .nxt ρ
  | .ret e, ρ => (ev cal e ρ).out ρ fun d => .ret d
  | .rais c, ρ => .exc c ρ
  | .ite c a b, ρ => (truR (ev cal c ρ)).out ρ fun k => match k with
    | true => exec a ρ
    | false => exec b ρ
  | .whl c b, ρ => whlF (fun ρ => truR (ev cal c ρ)) (exec b) wf ρ
  | .for t it b, ρ => (evi cal it ρ).out ρ fun xs => forF (fun x ρ => match asgT t x ρ with
    | some ρ1 => exec b ρ1
    | none => .bad) xs ρ
  | .seq a b, ρ => match exec a ρ with
    | .nxt ρ1 => exec b ρ1
    | o => o
  | .brk, ρ => .brk ρ
  | .cnt, ρ => .cnt ρ
  | .frz fs s, ρ => exec s (frzAt ρ fs)
  | .tryy b i ns hs, ρ => match exec b ρ with
    | .exc c ρ1 => if i < ρ1.length ∧ c ∈ ns then execH sub hs c ρ1 else .bad
    | o => o
/-! ### defs -/
structure Df where
  n : Nat
  p : Nat
  b : S
def startX (n : Nat) (ds : List D) : Rho := ds.map (fun d => some (.dat d)) ++ List.replicate (n - ds.length) none
def O.res : O → R D
  | .ret d => .val d
  | .nxt _ => .val .none
  | .exc c _ => .exc c
  | _ => .bad
/-- a call, k deep -/
def call (sub : Str → Str → Bool) (wf : Nat) (tbl : Str → Option Df) : Nat → Str → List D → R D
  | 0, _, _ => .bad
  | k + 1, f, ds => match tbl f with
    | some df => if ds.length = df.p then (exec (call sub wf tbl k) sub wf df.b (startX df.n ds)).res else .bad
    | none => .bad
end Mp

set_option Elab.async false
set_option linter.all false
set_option maxRecDepth 100000
set_option maxHeartbeats 4000000
/-! ### data in the heap -/
namespace Mp
open PySem L2
/-- the written part -/
class KF where
  K : PySem.W.Frag
variable [KF]
def Ext (H H' : Hp) : Prop := ∀ a o, H a = some o → H' a = some o
theorem Ext.rfl' {H : Hp} : Ext H H := fun _ _ h => h
theorem Ext.trans {H H1 H2 : Hp} (a : Ext H H1) (b : Ext H1 H2) : Ext H H2 := fun x o h => b x o (a x o h)
theorem Ext.back {H H' : Hp} {p : Addr} (e : Ext H H') (h : H' p = none) : H p = none := by
  cases q : H p with
  | none => rfl
  | some o => rw [e p o q] at h; cases h
theorem Ext.new {H : Hp} {p : Addr} {o : HO} (h : H p = none) : Ext H (upd H p o) := fun a u e => by
  rw [upd_ne (ne_of_none e h)]; exact e
theorem Ext.upd2 {H H' : Hp} {p : Addr} {o : HO} (e : Ext H H') : Ext (upd H p o) (upd H' p o) := fun a u h => by
  by_cases ha : a = p
  · subst ha; rw [upd_same] at h ⊢; exact h
  · rw [upd_ne ha] at h ⊢; exact e a u h
mutual
def Da (H : Hp) : D → V → Prop
  | .none, v => v = .non
  | .bool b, v => v = .bl b
  | .int i, v => v = .int i
  | .str x, v => v = .str x
  | .list ds, v => ∃ a xs, v = .ref a ∧ H a = some (.lst xs) ∧ DaAll H ds xs
  | .tuple ds, v => ∃ a xs, v = .ref a ∧ H a = some (.tup xs) ∧ DaAll H ds xs
  | .dict kvs, v => (∃ a, ∃ ns : List Int, kvs = [(.none, .list (ns.map PyData.int))] ∧ v = .ref a ∧ SqL KF.K H a (ns.map V.int)) ∨ ∃ a, ∃ ks : List (Str × Str), kvs = ks.map (fun q => (.str q.1, .str q.2)) ∧ v = .ref a ∧ H a = some (.dK (ks.map fun q => (.inr q.1, .str q.2)))
def DaAll (H : Hp) : List D → List V → Prop
  | [], vs => vs = []
  | d :: ds, vs => ∃ v r, vs = v :: r ∧ Da H d v ∧ DaAll H ds r
end
theorem Rd.ext {H H' : Hp} {a : Addr} {u : HO} (e : Ext H H') (h : Rd H a u) : Rd H' a u := by
  rcases h with h | ⟨o, h⟩
  · exact Or.inl (e a _ h)
  · exact Or.inr ⟨o, e a _ h⟩
theorem SqL.ext {K : PySem.W.Frag} {H H' : Hp} {a : Addr} {xs : List V} (e : Ext H H') (h : SqL K H a xs) : SqL K H' a xs := by
  rcases h with h | h
  · exact Or.inl (Rd.ext e h)
  · exact Or.inr h
mutual
theorem Da.ext {H H' : Hp} (e : Ext H H') : ∀ (d : D) (v : V), Da H d v → Da H' d v
  | .none, v, h => by simpa only [Da] using h
  | .bool b, v, h => by simpa only [Da] using h
  | .int i, v, h => by simpa only [Da] using h
  | .str x, v, h => by simpa only [Da] using h
  | .list ds, v, h => by
    simp only [Da] at h ⊢
    obtain ⟨a, xs, h1, h2, h3⟩ := h
    exact ⟨a, xs, h1, e a _ h2, DaAll.ext e ds xs h3⟩
  | .tuple ds, v, h => by
    simp only [Da] at h ⊢
    obtain ⟨a, xs, h1, h2, h3⟩ := h
    exact ⟨a, xs, h1, e a _ h2, DaAll.ext e ds xs h3⟩
  | .dict kvs, v, h => by
    simp only [Da] at h ⊢
    rcases h with ⟨a, ns, h1, h2, h3⟩ | ⟨a, ks, h1, h2, h3⟩
    · exact .inl ⟨a, ns, h1, h2, SqL.ext e h3⟩
    · exact .inr ⟨a, ks, h1, h2, e a _ h3⟩
theorem DaAll.ext {H H' : Hp} (e : Ext H H') : ∀ (ds : List D) (vs : List V), DaAll H ds vs → DaAll H' ds vs
  | [], vs, h => by simpa only [DaAll] using h
  | d :: ds, vs, h => by
    simp only [DaAll] at h ⊢
    obtain ⟨v, r, h1, h2, h3⟩ := h
    exact ⟨v, r, h1, Da.ext e d v h2, DaAll.ext e ds r h3⟩
end
theorem DaAll.len {H : Hp} : ∀ {ds : List D} {vs : List V}, DaAll H ds vs → vs.length = ds.length
  | [], vs, h => by simp only [DaAll] at h; subst h; rfl
  | d :: ds, vs, h => by
    simp only [DaAll] at h
    obtain ⟨v, r, rfl, _, h3⟩ := h
    simp [DaAll.len h3]
theorem DaAll.get {H : Hp} : ∀ {ds : List D} {vs : List V} {i : Nat} {d : D}, DaAll H ds vs → ds[i]? = some d → ∃ v, vs[i]? = some v ∧ Da H d v
  | [], vs, i, d, h, e => by simp at e
  | d0 :: ds, vs, 0, d, h, e => by
    simp only [DaAll] at h
    obtain ⟨v, r, rfl, h2, _⟩ := h
    simp at e; subst e
    exact ⟨v, rfl, h2⟩
  | d0 :: ds, vs, i + 1, d, h, e => by
    simp only [DaAll] at h
    obtain ⟨v, r, rfl, _, h3⟩ := h
    obtain ⟨w, h4, h5⟩ := DaAll.get (i := i) (d := d) h3 (by simpa using e)
    exact ⟨w, by simpa using h4, h5⟩
theorem DaAll.get' {H : Hp} {ds : List D} {vs : List V} {i : Nat} {v : V} (h : DaAll H ds vs) (e : vs[i]? = some v) : ∃ d, ds[i]? = some d ∧ Da H d v := by
  have hl := h.len
  obtain ⟨hi, _⟩ := List.getElem?_eq_some_iff.mp e
  have hd : ds[i]? = some (ds[i]'(by omega)) := List.getElem?_eq_getElem (by omega)
  obtain ⟨w, h1, h2⟩ := h.get hd
  rw [e] at h1; cases h1
  exact ⟨_, hd, h2⟩
theorem DaAll.nil {H : Hp} : DaAll H [] [] := by simp only [DaAll]
theorem DaAll.cons {H : Hp} {d : D} {v : V} {ds : List D} {vs : List V} (h : Da H d v) (t : DaAll H ds vs) : DaAll H (d :: ds) (v :: vs) := by
  simp only [DaAll]; exact ⟨v, vs, rfl, h, t⟩
theorem DaAll.app {H : Hp} : ∀ {ds es : List D} {vs ws : List V}, DaAll H ds vs → DaAll H es ws → DaAll H (ds ++ es) (vs ++ ws)
  | [], es, vs, ws, h, t => by simp only [DaAll] at h; subst h; exact t
  | d :: ds, es, vs, ws, h, t => by
    simp only [DaAll] at h
    obtain ⟨v, r, rfl, h2, h3⟩ := h
    exact DaAll.cons h2 (DaAll.app h3 t)
theorem DaAll.take {H : Hp} : ∀ {ds : List D} {vs : List V} (n : Nat), DaAll H ds vs → DaAll H (ds.take n) (vs.take n)
  | _, _, 0, _ => by simp; exact DaAll.nil
  | [], vs, n + 1, h => by simp only [DaAll] at h; subst h; simp; exact DaAll.nil
  | d :: ds, vs, n + 1, h => by
    simp only [DaAll] at h
    obtain ⟨v, r, rfl, h2, h3⟩ := h
    exact DaAll.cons h2 (DaAll.take n h3)
theorem DaAll.drop {H : Hp} : ∀ {ds : List D} {vs : List V} (n : Nat), DaAll H ds vs → DaAll H (ds.drop n) (vs.drop n)
  | _, _, 0, h => by simpa using h
  | [], vs, n + 1, h => by simp only [DaAll] at h; subst h; simp; exact DaAll.nil
  | d :: ds, vs, n + 1, h => by
    simp only [DaAll] at h
    obtain ⟨v, r, rfl, h2, h3⟩ := h
    simpa using DaAll.drop n h3
theorem DaAll.set {H : Hp} {d : D} {v : V} (hd : Da H d v) : ∀ {ds : List D} {vs : List V} (n : Nat), DaAll H ds vs → DaAll H (ds.set n d) (vs.set n v)
  | [], vs, n, h => by simp only [DaAll] at h; subst h; simp; exact DaAll.nil
  | e :: ds, vs, 0, h => by
    simp only [DaAll] at h
    obtain ⟨w, r, rfl, h2, h3⟩ := h
    exact DaAll.cons hd h3
  | e :: ds, vs, n + 1, h => by
    simp only [DaAll] at h
    obtain ⟨w, r, rfl, h2, h3⟩ := h
    exact DaAll.cons h2 (DaAll.set hd n h3)
theorem DaAll.rep {H : Hp} {ds : List D} {vs : List V} (h : DaAll H ds vs) : ∀ k : Nat, DaAll H (List.replicate k ds).flatten (List.replicate k vs).flatten
  | 0 => by simp; exact DaAll.nil
  | k + 1 => by
    rw [List.replicate_succ, List.replicate_succ, List.flatten_cons, List.flatten_cons]
    exact h.app (DaAll.rep h k)
theorem DaAll.ints {H : Hp} : ∀ {ns : List Int} {vs : List V}, DaAll H (ns.map PyData.int) vs → vs = ns.map V.int
  | [], vs, h => by simpa only [List.map_nil, DaAll] using h
  | n :: ns, vs, h => by
    simp only [List.map_cons, DaAll, Da] at h
    obtain ⟨v, r, rfl, rfl, h3⟩ := h
    rw [DaAll.ints h3, List.map_cons]
theorem DaAll.of_ints {H : Hp} : ∀ (ns : List Int), DaAll H (ns.map PyData.int) (ns.map V.int)
  | [] => DaAll.nil
  | n :: ns => DaAll.cons (by simp only [Da]) (DaAll.of_ints ns)
theorem Da.scal {H H' : Hp} {d : D} {v : V} (h : Da H d v) (s : scalar d = true) : Da H' d v := by
  cases d <;> simp only [Da] at h ⊢ <;> first | exact h | (simp [scalar] at s)
/-- the step from one heap to the next: H all, Hd the data -/
structure Gr (H Hd H' Hd' : Hp) : Prop where
  a : Ext H H'
  d : Ext Hd Hd'
  i : Ext Hd' H'
  n : ∀ p, Hd p = none → H p ≠ none → Hd' p = none
theorem Gr.refl {H Hd : Hp} (e : Ext Hd H) : Gr H Hd H Hd := ⟨Ext.rfl', Ext.rfl', e, fun _ h _ => h⟩
theorem Gr.trans {H Hd H1 Hd1 H2 Hd2 : Hp} (a : Gr H Hd H1 Hd1) (b : Gr H1 Hd1 H2 Hd2) : Gr H Hd H2 Hd2 :=
  ⟨a.a.trans b.a, a.d.trans b.d, b.i, fun p h1 h2 => b.n p (a.n p h1 h2) fun z => h2 (a.a.back z)⟩
theorem Gr.new {H Hd : Hp} {p : Addr} {o : HO} (e : Ext Hd H) (h : H p = none) : Gr H Hd (upd H p o) (upd Hd p o) :=
  ⟨Ext.new h, Ext.new (e.back h), e.upd2, fun q h1 h2 => by
    by_cases hq : q = p
    · subst hq; exact absurd h h2
    · rw [upd_ne hq]; exact h1⟩
/-- a new object that stays out of the data -/
theorem Gr.newO {H Hd : Hp} {p : Addr} {o : HO} (e : Ext Hd H) (h : H p = none) : Gr H Hd (upd H p o) Hd :=
  ⟨Ext.new h, Ext.rfl', e.trans (Ext.new h), fun q h1 _ => h1⟩
theorem da_new_tup {H Hd : Hp} {p : Addr} {ds : List D} {vs : List V} (e : Ext Hd H) (h : H p = none) (a : DaAll Hd ds vs) : Da (upd Hd p (.tup vs)) (.tuple ds) (.ref p) := by
  simp only [Da]
  exact ⟨p, vs, rfl, upd_same, DaAll.ext (Ext.new (e.back h)) ds vs a⟩
theorem da_new_lst {H Hd : Hp} {p : Addr} {ds : List D} {vs : List V} (e : Ext Hd H) (h : H p = none) (a : DaAll Hd ds vs) : Da (upd Hd p (.lst vs)) (.list ds) (.ref p) := by
  simp only [Da]
  exact ⟨p, vs, rfl, upd_same, DaAll.ext (Ext.new (e.back h)) ds vs a⟩
/-! ### the places -/
def SlOk (H0 Hd H : Hp) : Sl → V → Prop
  | .dat d, v => Da Hd d v
  | .own ds, v => ∃ p vs, v = .ref p ∧ H0 p = none ∧ Hd p = none ∧ H p = some (.lst vs) ∧ DaAll Hd ds vs
/-- H0, Hd0: the heaps at the def's entry -/
structure Stt (H0 Hd0 Hd H : Hp) (σ : St) (ρ : Rho) : Prop where
  ex : Ext Hd H
  gr : Gr H0 Hd0 H Hd
  len : σ.length = ρ.length
  ok : ∀ (i : Nat) (s : Sl), ρ[i]? = some (some s) → ∃ v, σ[i]? = some (some v) ∧ SlOk H0 Hd H s v
  sep : ∀ (i j : Nat) (ds es : List D) (v : V), ρ[i]? = some (some (.own ds)) → ρ[j]? = some (some (.own es)) → σ[i]? = some (some v) → σ[j]? = some (some v) → i = j
theorem SlOk.grow {H0 Hd H Hd' H' : Hp} {s : Sl} {v : V} (g : Gr H Hd H' Hd') (h : SlOk H0 Hd H s v) : SlOk H0 Hd' H' s v := by
  cases s with
  | dat d => exact Da.ext g.d d v h
  | own ds =>
    obtain ⟨p, vs, h1, h2, h3, h4, h5⟩ := h
    exact ⟨p, vs, h1, h2, g.n p h3 (by rw [h4]; simp), g.a p _ h4, DaAll.ext g.d ds vs h5⟩
theorem Stt.grow {H0 Hd0 Hd H Hd' H' : Hp} {σ : St} {ρ : Rho} (S : Stt H0 Hd0 Hd H σ ρ) (g : Gr H Hd H' Hd') : Stt H0 Hd0 Hd' H' σ ρ :=
  ⟨g.i, S.gr.trans g, S.len, fun i s h => let ⟨v, h1, h2⟩ := S.ok i s h; ⟨v, h1, h2.grow g⟩, S.sep⟩
theorem Stt.dat {H0 Hd0 Hd H : Hp} {σ : St} {ρ : Rho} {i : Nat} {d : D} (S : Stt H0 Hd0 Hd H σ ρ) (h : ρ[i]? = some (some (.dat d))) : ∃ v, σ[i]? = some (some v) ∧ Da Hd d v := S.ok i _ h
theorem get_set_cases {α : Type} {l : List α} {i j : Nat} {x y : α} (h : (l.set i x)[j]? = some y) : (j = i ∧ y = x) ∨ (j ≠ i ∧ l[j]? = some y) := by
  by_cases hj : j = i
  · subst hj
    by_cases hl : j < l.length
    · rw [List.getElem?_set_self hl] at h; cases h; exact .inl ⟨rfl, rfl⟩
    · rw [List.getElem?_eq_none (by simpa using hl)] at h; cases h
  · rw [List.getElem?_set_ne (Ne.symm hj)] at h; exact .inr ⟨hj, h⟩
theorem Stt.set {H0 Hd0 Hd H : Hp} {σ : St} {ρ : Rho} {i : Nat} {d : D} {v : V} (S : Stt H0 Hd0 Hd H σ ρ) (h : Da Hd d v) (hi : i < ρ.length) : Stt H0 Hd0 Hd H (σ.set i (some v)) (ρ.set i (some (.dat d))) := by
  have hl := S.len
  refine ⟨S.ex, S.gr, by simp [hl], fun j s hj => ?_, fun j k ds es w h1 h2 h3 h4 => ?_⟩
  · rcases get_set_cases hj with ⟨rfl, e⟩ | ⟨hne, e⟩
    · cases e
      exact ⟨v, by rw [List.getElem?_set_self (by omega)], h⟩
    · obtain ⟨w, q1, q2⟩ := S.ok j s e
      exact ⟨w, by rw [List.getElem?_set_ne (Ne.symm hne)]; exact q1, q2⟩
  · rcases get_set_cases h1 with ⟨rfl, e⟩ | ⟨hne, e⟩
    · cases e
    · rcases get_set_cases h2 with ⟨rfl, e2⟩ | ⟨hne2, e2⟩
      · cases e2
      · rw [List.getElem?_set_ne (Ne.symm hne)] at h3
        rw [List.getElem?_set_ne (Ne.symm hne2)] at h4
        exact S.sep j k ds es w e e2 h3 h4
theorem Stt.unset {H0 Hd0 Hd H : Hp} {σ : St} {ρ : Rho} {i : Nat} (S : Stt H0 Hd0 Hd H σ ρ) : Stt H0 Hd0 Hd H (σ.set i none) (ρ.set i none) := by
  have hl := S.len
  refine ⟨S.ex, S.gr, by simp [hl], fun j s hj => ?_, fun j k ds es w h1 h2 h3 h4 => ?_⟩
  · rcases get_set_cases hj with ⟨rfl, e⟩ | ⟨hne, e⟩
    · cases e
    · obtain ⟨w, q1, q2⟩ := S.ok j s e
      exact ⟨w, by rw [List.getElem?_set_ne (Ne.symm hne)]; exact q1, q2⟩
  · rcases get_set_cases h1 with ⟨rfl, e⟩ | ⟨hne, e⟩
    · cases e
    · rcases get_set_cases h2 with ⟨rfl, e2⟩ | ⟨hne2, e2⟩
      · cases e2
      · rw [List.getElem?_set_ne (Ne.symm hne)] at h3
        rw [List.getElem?_set_ne (Ne.symm hne2)] at h4
        exact S.sep j k ds es w e e2 h3 h4
theorem Stt.wipe {H0 Hd0 Hd H : Hp} {σ : St} {ρ : Rho} (S : Stt H0 Hd0 Hd H σ ρ) : ∀ vs : List Nat, Stt H0 Hd0 Hd H (wipe σ vs) (wipeX ρ vs)
  | [] => S
  | v :: vs => by
    unfold L2.wipe wipeX
    exact (S.wipe vs).unset
end Mp

set_option Elab.async false
set_option linter.all false
set_option maxRecDepth 100000
set_option maxHeartbeats 4000000
namespace Mp
open PySem L2
variable [KF]
theorem lim_line : lim ≤ sizeLine := by rw [sizeLine_eq]; decide
theorem peI {X : Cx} {e : Expr} {t t' : TE} (h : PE X e t) (i : ∀ σ H Q, t' σ H Q → t σ H Q) : PE X e t' := ⟨fun pins s σ H Q I q => h.run pins s σ H Q I (i σ H Q q)⟩
theorem ptI {X : Cx} {e : Expr} {t t' : TT} (h : PT X e t) (i : ∀ σ H Q, t' σ H Q → t σ H Q) : PT X e t' := ⟨fun pins s σ H Q I q => h.run pins s σ H Q I (i σ H Q q)⟩
theorem pwI {X : Cx} {e : Expr} {t t' : TT} (h : PW X e t) (i : ∀ σ H Q, t' σ H Q → t σ H Q) : PW X e t' := ⟨fun w pins s σ H Q I q => h.run w pins s σ H Q I (i σ H Q q)⟩
theorem ptsI {X : Cx} {e : List Expr} {t t' : TT} (h : PTs X e t) (i : ∀ σ H Q, t' σ H Q → t σ H Q) : PTs X e t' := ⟨fun pins s σ H Q I q => h.run pins s σ H Q I (i σ H Q q)⟩
theorem paI {X : Cx} {e : List Expr} {t t' : TA} (h : PA X e t) (i : ∀ σ H Q, t' σ H Q → t σ H Q) : PA X e t' := ⟨fun pos pins s σ H Q I q => h.run pos pins s σ H Q I (i σ H Q q)⟩
theorem psI {X : Cx} {e : Stmt} {t t' : TS} (h : PS X e t) (i : ∀ D σ H, t' D σ H → t D σ H) : PS X e t' := ⟨fun pins s σ H D I q => h.run pins s σ H D I (i D σ H q)⟩
theorem pssI {X : Cx} {e : List Stmt} {t t' : TS} (h : PSs X e t) (i : ∀ D σ H, t' D σ H → t D σ H) : PSs X e t' := ⟨fun pins s σ H D I q => h.run pins s σ H D I (i D σ H q)⟩
theorem piI {X : Cx} {tg it : Expr} {t t' : TI} (h : PI X tg it t) (i : ∀ σ H R, t' σ H R → t σ H R) : PI X tg it t' := ⟨fun pins s σ H R I q => h.run pins s σ H R I (i σ H R q)⟩
def exv (mg : Str → Option Value) (c : Str) : Value := (mg c).getD .none
/-- what follows a result -/
def Ct {α β : Type} (rel : Hp → α → β → Prop) (mg : Str → Option Value) (W : WX) (σ : St) (H Hd : Hp) (r : R α) (Q : β → Hp → Prop) : Prop := match r with
  | .bad => False
  | .exc c => ∀ H' Hd', Gr H Hd H' Hd' → W (exv mg c) none σ H'
  | .val d => ∀ v H' Hd', Gr H Hd H' Hd' → rel Hd' d v → Q v H'
theorem Ct.grow {α β : Type} {rel : Hp → α → β → Prop} {mg : Str → Option Value} {W : WX} {σ : St} {H Hd H1 Hd1 : Hp} {r : R α} {Q : β → Hp → Prop} (g : Gr H Hd H1 Hd1) (h : Ct rel mg W σ H Hd r Q) : Ct rel mg W σ H1 Hd1 r Q := by
  cases r with
  | bad => exact h
  | exc c => exact fun H' Hd' g' => h H' Hd' (g.trans g')
  | val d => exact fun v H' Hd' g' => h v H' Hd' (g.trans g')
structure Pr where
  cal : Str → List D → R D
  sub : Str → Str → Bool
  mg : Str → Option Value
  W : WX
abbrev eqR {α : Type} : Hp → α → α → Prop := fun _ a b => a = b
def tR {α β : Type} (rel : Hp → α → β → Prop) (p : Pr) (f : Rho → R α) : St → Hp → (β → Hp → Prop) → Prop := fun σ H Q => ∃ H0 Hd0 ρ Hd, Stt H0 Hd0 Hd H σ ρ ∧ Ct rel p.mg p.W σ H Hd (f ρ) Q
abbrev tD (p : Pr) (e : Ex) : TE := tR Da p (ev p.cal e)
abbrev tDs (p : Pr) (es : Es) : TA := tR DaAll p (evs p.cal es)
abbrev tDt (p : Pr) (e : Ex) : TT := tR eqR p fun ρ => truR (ev p.cal e ρ)
abbrev tDc (p : Pr) (e : Eo) : TT := tR eqR p (evt p.cal e)
abbrev tDo (p : Pr) (e : Eo) : TO := tR eqR p fun ρ => (evo p.cal e ρ).bnd fun x => ofO (optI x)
/-- the first part of a composed evaluation -/
theorem tR_bnd {α β γ δ : Type} {rel : Hp → α → β → Prop} {rel' : Hp → γ → δ → Prop} {p : Pr} {f : Rho → R α} {g : α → R γ} {σ : St} {H0 Hd0 Hd H : Hp} {ρ : Rho} {Q : δ → Hp → Prop} {P : β → Hp → Prop}
    (S : Stt H0 Hd0 Hd H σ ρ) (h : Ct rel' p.mg p.W σ H Hd ((f ρ).bnd g) Q)
    (k : ∀ d v H1 Hd1, Stt H0 Hd0 Hd1 H1 σ ρ → Gr H Hd H1 Hd1 → rel Hd1 d v → f ρ = .val d → Ct rel' p.mg p.W σ H1 Hd1 (g d) Q → P v H1) : tR rel p f σ H P := by
  refine ⟨H0, Hd0, ρ, Hd, S, ?_⟩
  cases e : f ρ with
  | bad => rw [e] at h; exact h
  | exc c => rw [e] at h; exact h
  | val d =>
    rw [e] at h
    exact fun v H1 Hd1 gr hv => k d v H1 Hd1 (S.grow gr) gr hv e (Ct.grow gr h)
theorem Ct.here {α β : Type} {rel : Hp → α → β → Prop} {mg : Str → Option Value} {W : WX} {σ : St} {H Hd : Hp} {d : α} {v : β} {Q : β → Hp → Prop} (e : Ext Hd H) (h : Ct rel mg W σ H Hd (.val d) Q) (hv : rel Hd d v) : Q v H := h v H Hd (Gr.refl e) hv
theorem Ct.next {α β : Type} {rel : Hp → α → β → Prop} {mg : Str → Option Value} {W : WX} {σ : St} {H Hd H1 Hd1 : Hp} {d : α} {v : β} {Q : β → Hp → Prop} (h : Ct rel mg W σ H Hd (.val d) Q) (g : Gr H Hd H1 Hd1) (hv : rel Hd1 d v) : Q v H1 := h v H1 Hd1 g hv
/-! ### names, constants -/
section
variable {X : Cx} {p : Pr} {a b c : Expr} {ea eb ec : Ex} {pos : Pos}
theorem dE_var {i : Nat} {e : Expr} (h : PE X e (tVar i)) : PE X e (tD p (.var i)) := peI h fun σ H Q ⟨H0, Hd0, ρ, Hd, S, q⟩ => by
  simp only [ev] at q
  split at q
  · rename_i d hd
    obtain ⟨v, h1, h2⟩ := S.dat hd
    exact ⟨v, h1, q.here S.ex h2⟩
  · exact q.elim
theorem dE_lit {d : D} {v : V} {e : Expr} (h : PE X e (tC v)) (hv : ∀ H, Da H d v) : PE X e (tD p (.lit d)) := peI h fun σ H Q ⟨H0, Hd0, ρ, Hd, S, q⟩ => by
  simp only [ev] at q
  exact q.here S.ex (hv Hd)
theorem dE_int {i : Int} {j : Nat} : PE X (.Constant (.int i) j pos) (tD p (.lit (.int i))) := dE_lit pe_int fun H => by simp only [Da]
theorem dE_bl {i : Bool} {j : Nat} : PE X (.Constant (.bool i) j pos) (tD p (.lit (.bool i))) := dE_lit pe_bl fun H => by simp only [Da]
theorem dE_str {x : Str} {j : Nat} : PE X (.Constant (.str x) j pos) (tD p (.lit (.str x))) := dE_lit pe_str fun H => by simp only [Da]
theorem dE_non {j : Nat} : PE X (.Constant .none j pos) (tD p (.lit .none)) := dE_lit pe_non fun H => by simp only [Da]
theorem dE_gint {x : Str} {i : Int} (hg : Gl X x) (hm : ∃ t, X.mg x = some (.int i t)) (hd : (x == ("__debug__" : Str)) = false := by decide) : PE X (.Name x pos) (tD p (.lit (.int i))) :=
  let ⟨t, hm⟩ := hm
  dE_lit (v := .int i) (pe_glob hg hm ⟨t, rfl⟩ hd) fun H => by simp only [Da]
theorem dE_gstr {x y : Str} (hg : Gl X x) (hm : ∃ t, X.mg x = some (.str y t)) (hd : (x == ("__debug__" : Str)) = false := by decide) : PE X (.Name x pos) (tD p (.lit (.str y))) :=
  let ⟨t, hm⟩ := hm
  dE_lit (v := .str y) (pe_glob hg hm ⟨t, rfl⟩ hd) fun H => by simp only [Da]
/-! ### operators -/
def rB (f : D → D → Option D) : R2 := fun x y H Q => ∃ Hd d e z, Ext Hd H ∧ Da Hd d x ∧ Da Hd e y ∧ f d e = some z ∧ ∀ v H' Hd', Gr H Hd H' Hd' → Da Hd' z v → Q v H'
def rC (f : D → D → Option Bool) : R2 := rB fun x y => (f x y).map fun k => .bool k
/-- by a rule for each case -/
theorem opB_of {F : Value → Value → Sem Value} {f : D → D → Option D} (h : ∀ (d e z : D), f d e = some z → ∃ r : R2, OpR X F r ∧ ∀ x y H Hd Q, Ext Hd H → Da Hd d x → Da Hd e y → (∀ v H' Hd', Gr H Hd H' Hd' → Da Hd' z v → Q v H') → r x y H Q) : OpR X F (rB f) := by
  intro pins s σ H x y v u Q I rx ry ⟨Hd, d, e, z, ex, hd, he, hz, q⟩
  obtain ⟨r, o, k⟩ := h d e z hz
  exact o pins s σ H x y v u Q I rx ry (k x y H Hd Q ex hd he q)
theorem dE_bin {o : Bo} {op : Operator} (h : OpR X (binaryOp op) (rB (boS o))) (ha : PE X a (tD p ea)) (hb : PE X b (tD p eb)) : PE X (.BinOp a op b pos) (tD p (.bin o ea eb)) :=
  peI (pe_op h ha hb) fun σ H Q ⟨H0, Hd0, ρ, Hd, S, q⟩ => by
    simp only [ev] at q
    refine tR_bnd S q fun d v H1 Hd1 S1 g1 hd _ q1 => tR_bnd S1 q1 fun e w H2 Hd2 S2 g2 he _ q2 => ?_
    cases hz : boS o d e with
    | none => rw [hz] at q2; exact q2.elim
    | some z =>
      rw [hz] at q2
      exact ⟨Hd2, d, e, z, S2.ex, Da.ext g2.d _ _ hd, he, hz, fun v H' Hd' g h => q2 v H' Hd' g h⟩
theorem opB_add : OpR X (binaryOp .Add) (rB (boS .add)) := opB_of fun d e z hz => by
  simp only [boS] at hz
  cases d <;> cases e <;> simp only [addS] at hz <;> try (cases hz)
  · rename_i i j
    refine ⟨_, op_add, fun x y H Hd Q ex hd he q => ?_⟩
    simp only [Da] at hd he
    subst hd he
    exact ⟨i, j, rfl, rfl, q _ _ _ (Gr.refl ex) (by simp only [Da])⟩
  · rename_i i j
    split at hz
    · rename_i hl
      cases hz
      refine ⟨_, op_add_str, fun x y H Hd Q ex hd he q => ?_⟩
      simp only [Da] at hd he
      subst hd he
      exact ⟨i, j, rfl, rfl, Nat.le_trans hl lim_line, q _ _ _ (Gr.refl ex) (by simp only [Da])⟩
    · cases hz
  · rename_i as bs
    unfold mkL at hz
    split at hz
    · rename_i hl
      cases hz
      refine ⟨_, op_cat, fun x y H Hd Q ex hd he q => ?_⟩
      simp only [Da] at hd he
      obtain ⟨l, xs, rfl, h1, h2⟩ := hd
      obtain ⟨m, ys, rfl, h3, h4⟩ := he
      refine ⟨l, m, xs, ys, rfl, rfl, ex _ _ h1, ex _ _ h3, ?_, fun w hw => q _ _ _ (Gr.new ex hw) (da_new_lst ex hw (h2.app h4))⟩
      rw [List.length_append] at hl
      rw [h2.len, h4.len]
      exact Nat.le_trans hl lim_line
    · cases hz
  · rename_i as bs
    unfold mkT at hz
    split at hz
    · rename_i hl
      cases hz
      refine ⟨_, op_catA, fun x y H Hd Q ex hd he q => ?_⟩
      simp only [Da] at hd he
      obtain ⟨l, xs, rfl, h1, h2⟩ := hd
      obtain ⟨m, ys, rfl, h3, h4⟩ := he
      have l1 := h2.len
      have l2 := h4.len
      refine ⟨l, m, xs, ys, rfl, rfl, SqT.of (ex _ _ h1), SqT.of (ex _ _ h3), ?_, fun hx => ?_, fun hx hy => ?_, fun hx hy w hw => q _ _ _ (Gr.new ex hw) (da_new_tup ex hw (h2.app h4))⟩
      · rw [List.length_append] at hl
        rw [l1, l2]
        exact Nat.le_trans hl lim_line
      · subst hx
        have e0 : as = [] := List.eq_nil_of_length_eq_zero (by simpa using l1.symm)
        subst e0
        exact q _ _ _ (Gr.refl ex) (by simp only [Da]; exact ⟨m, ys, rfl, h3, h4⟩)
      · subst hy
        have e0 : bs = [] := List.eq_nil_of_length_eq_zero (by simpa using l2.symm)
        subst e0
        rw [List.append_nil] at q
        exact q _ _ _ (Gr.refl ex) (by simp only [Da]; exact ⟨l, xs, rfl, h1, h2⟩)
    · cases hz
/-- ints alone -/
theorem opB_int {F : Value → Value → Sem Value} {f : D → D → Option D} {C : Int → Int → Prop} {g : Int → Int → Int} (ho : OpR X F (rI C fun i j => .int (g i j))) (h : ∀ d e z, f d e = some z → ∃ i j, d = .int i ∧ e = .int j ∧ C i j ∧ z = .int (g i j)) : OpR X F (rB f) :=
  opB_of fun d e z hz => by
    obtain ⟨i, j, rfl, rfl, hc, rfl⟩ := h d e z hz
    refine ⟨_, ho, fun x y H Hd Q ex hd he q => ?_⟩
    simp only [Da] at hd he
    subst hd he
    exact ⟨i, j, rfl, rfl, hc, q _ _ _ (Gr.refl ex) (by simp only [Da])⟩
theorem opB_sub : OpR X (binaryOp .Sub) (rB (boS .sub)) := opB_of fun d e z hz => by
  simp only [boS] at hz
  cases d <;> cases e <;> simp only [subS] at hz <;> try (cases hz)
  rename_i i j
  refine ⟨_, op_sub, fun x y H Hd Q ex hd he q => ?_⟩
  simp only [Da] at hd he
  subst hd he
  exact ⟨i, j, rfl, rfl, q _ _ _ (Gr.refl ex) (by simp only [Da])⟩
theorem opB_fdiv : OpR X (binaryOp .FloorDiv) (rB (boS .fdiv)) := opB_int op_fdivW fun d e z hz => by
  simp only [boS] at hz
  cases d <;> cases e <;> simp only [fdivS] at hz <;> try (cases hz)
  rename_i i j
  split at hz
  · rename_i hc
    cases hz
    exact ⟨i, j, rfl, rfl, hc, rfl⟩
  · cases hz
theorem opB_mod : OpR X (binaryOp .Mod) (rB (boS .mod)) := opB_int op_mod fun d e z hz => by
  simp only [boS] at hz
  cases d <;> cases e <;> simp only [modS] at hz <;> try (cases hz)
  rename_i i j
  split at hz
  · rename_i hc
    cases hz
    exact ⟨i, j, rfl, rfl, hc, rfl⟩
  · cases hz
theorem opB_pow : OpR X (binaryOp .Pow) (rB (boS .pow)) := opB_int op_pow fun d e z hz => by
  simp only [boS] at hz
  cases d <;> cases e <;> simp only [powS] at hz <;> try (cases hz)
  rename_i i j
  split at hz
  · rename_i hc
    cases hz
    exact ⟨i, j, rfl, rfl, ⟨hc.1, by omega, hc.2.2⟩, rfl⟩
  · cases hz
end
end Mp

set_option Elab.async false
set_option linter.all false
set_option maxRecDepth 100000
set_option maxHeartbeats 4000000
namespace Mp
open PySem L2
open PyProof.Rows hiding St
variable [KF]
theorem repX_one {α : Type} (xs : List α) : repX xs 1 = xs := by simp [repX]
/-- t * 1 is t -/
theorem tuple_mul_one (l : Addr) (items : Array Value) (n : Nat) (dd : Option Addr) (sl : Array (Option Value)) (u : Tok) :
    Meets (Builtin.«tuple.__mul__» ⟨[.ref l, .int 1 u], []⟩) (fun _ R s => s.heap.get? l = some { cls := .type "tuple", dict := dd, data := .seq items n, slots := sl } ∧ R (.ok (.ret (Value.ref l))) s) :=
  .of_wp fun prog w A R s h => by
    obtain ⟨hp, g, d, tk, os⟩ := s
    obtain ⟨hl, h⟩ := h
    have f1 := AutoSeq1.idx_int
    wp_walk using wpAny_loadPart' hl
    exact ⟨_, rfl, h⟩
theorem tuple_mul_none (l : Addr) (items : Array Value) (n : Nat) (dd : Option Addr) (sl : Array (Option Value)) (x : Int) (u : Tok) (c0 : (decide (x < -(2 ^ 63)) || decide (x ≥ 2 ^ 63)) = false) (c1 : (items.isEmpty || x == 1) = false) (c2 : (decide (x ≤ 0) || items.isEmpty) = true) :
    Meets (Builtin.«tuple.__mul__» ⟨[.ref l, .int x u], []⟩) (fun _ R s => s.heap.get? l = some { cls := .type "tuple", dict := dd, data := .seq items n, slots := sl } ∧
      R (.ok (.ret (Value.ref s.heap.objs.size))) { s with heap := s.heap.push { cls := Value.type "tuple", data := Data.seq #[] }, toks := s.toks }) :=
  .of_wp fun prog w A R s h => by
    obtain ⟨hp, g, d, tk, os⟩ := s
    obtain ⟨hl, h⟩ := h
    have f1 := AutoSeq1.idx_int
    wp_walk using wpAny_loadPart' hl
    repeat (first
      | (refine wpAny_ite_false (decide_eq_false (by rw [c0]; exact Bool.false_ne_true)) ?_; wp_walk using wpAny_loadPart' hl)
      | (refine wpAny_ite_false (decide_eq_false (by rw [c1]; exact Bool.false_ne_true)) ?_; wp_walk using wpAny_loadPart' hl)
      | (refine wpAny_ite_true (decide_eq_true c2) ?_; wp_walk using wpAny_loadPart' hl))
    exact ⟨_, rfl, h⟩
section
variable {X : Cx} {p : Pr} {a b c : Expr} {ea eb ec : Ex} {pos : Pos}
def rRepU (K : PySem.W.Frag) : R2 := fun x y H Q => ∃ l k xs, x = .ref l ∧ y = .int k ∧ SqT K H l xs ∧ xs ≠ [] ∧ -1000 ≤ k ∧ k ≤ 1 ∧ (k = 1 → Q (.ref l) H) ∧ (k ≤ 0 → ∀ p, H p = none → Q (.ref p) (upd H p (.tup [])))
theorem op_repU : OpR X (binaryOp .Mult) (rRepU X.K) := by
  intro pins s σ H x y v u Q I rx ry h
  obtain ⟨l, k, xs, rfl, rfl, hT, hne, h1, h2, q1, q0⟩ := h
  cases rx
  obtain ⟨t, rfl⟩ := ry
  obtain ⟨its, r, ⟨⟨cls, dd, data, sl⟩, ho, hc, n, hd⟩, hs⟩ := I.tuple hT
  simp only at hc hd
  subst hc hd
  have hle : its.length = xs.length := r.length.symm
  have hi : its.toArray.isEmpty = false := by
    cases its with
    | nil =>
      simp at hle
      exact absurd (List.eq_nil_of_length_eq_zero hle.symm) hne
    | cons a b => rfl
  by_cases hk : k = 1
  · subst hk
    exact wpAny_binaryOp_repeat_ref (T := "tuple") (U := "int") (by decide) ⟨_, ho, rfl⟩ (fun s' => typeIs_int s' 1 t) noFill_tuple_mul F.fills_int_mul F.slot_int_rmul repeat_tuple F.slot_int_index.lookup
      (call_meets F.slot_int_rmul (typeIs_int s 1 t) F.entry_int_rmul (F.args_int_rmul_2 _ _) (int_rmul_tuple 1 t l its.toArray n dd sl)
        ⟨ho, rfl, ⟨_, ho, rfl⟩, call_meets F.slot_tuple_mul ⟨_, ho, rfl⟩ F.entry_tuple_mul (F.args_tuple_mul_2 _ _) (tuple_mul_one l its.toArray n dd sl t) ⟨ho, ⟨.ref l, H, I, rfl, q1 rfl⟩⟩⟩)
  · have c0 : (decide (k < -(2 ^ 63)) || decide (k ≥ 2 ^ 63)) = false := by
      rw [decide_eq_false (by omega), decide_eq_false (by omega)]; rfl
    have c1 : (its.toArray.isEmpty || k == 1) = false := by
      rw [hi, Bool.false_or]; exact beq_eq_false_iff_ne.mpr hk
    have c2 : (decide (k ≤ 0) || its.toArray.isEmpty) = true := by
      rw [hi, Bool.or_false]; exact decide_eq_true (by omega)
    refine wpAny_binaryOp_repeat_ref (T := "tuple") (U := "int") (by decide) ⟨_, ho, rfl⟩ (fun s' => typeIs_int s' k t) noFill_tuple_mul F.fills_int_mul F.slot_int_rmul repeat_tuple F.slot_int_index.lookup
      (call_meets F.slot_int_rmul (typeIs_int s k t) F.entry_int_rmul (F.args_int_rmul_2 _ _) (int_rmul_tuple k t l its.toArray n dd sl)
        ⟨ho, rfl, ⟨_, ho, rfl⟩, call_meets F.slot_tuple_mul ⟨_, ho, rfl⟩ F.entry_tuple_mul (F.args_tuple_mul_2 _ _) (tuple_mul_none l its.toArray n dd sl k t c0 c1 c2) ⟨ho, ?_⟩⟩)
    exact ⟨.ref s.heap.objs.size, _, I.laid (t' := s.toks) (o := .tup []) (fun b ob q => Heap.get?_push_of_some _ q) (Nat.le_refl _) ⟨Nat.zero_le _, [], .nil, IsTup.new _ _⟩, rfl, q0 (by omega) _ (I.hok.fresh (Nat.le_refl _))⟩
theorem opB_mul : OpR X (binaryOp .Mult) (rB (boS .mul)) := opB_of fun d e z hz => by
  simp only [boS] at hz
  cases d <;> cases e <;> simp only [mulS] at hz <;> try (cases hz)
  · rename_i i j
    split at hz
    · rename_i hc
      cases hz
      unfold mulOk at hc
      rw [Bool.or_eq_true] at hc
      rcases hc with hc | hc <;> have hc := of_decide_eq_true hc
      · refine ⟨_, op_mul, fun x y H Hd Q ex hd he q => ?_⟩
        simp only [Da] at hd he
        subst hd he
        exact ⟨i, j, rfl, rfl, hc, q _ _ _ (Gr.refl ex) (by simp only [Da])⟩
      · refine ⟨_, op_mulW, fun x y H Hd Q ex hd he q => ?_⟩
        simp only [Da] at hd he
        subst hd he
        exact ⟨i, j, rfl, rfl, hc, q _ _ _ (Gr.refl ex) (by simp only [Da])⟩
    · cases hz
  · rename_i as k
    split at hz
    · rename_i hc
      cases hz
      refine ⟨_, op_rep, fun x y H Hd Q ex hd he q => ?_⟩
      simp only [Da] at hd he
      obtain ⟨l, xs, rfl, h1, h2⟩ := hd
      subst he
      have hle := h2.len
      refine ⟨l, k, xs, rfl, rfl, ex _ _ h1, by omega, by omega, ?_, fun w hw => q _ _ _ (Gr.new ex hw) (da_new_lst ex hw (h2.rep k.toNat))⟩
      rw [sizeLine_eq, hle]
      have a1 : as.length * k.toNat ≤ 1000 * 1000 := Nat.mul_le_mul (by omega) (by omega)
      omega
    · cases hz
  · rename_i as k
    split at hz
    · rename_i hc
      cases hz
      obtain ⟨hne, hlo, hhi, hl⟩ := hc
      have nn : ∀ {Hd : Hp} {xs : List V}, DaAll Hd as xs → xs ≠ [] := fun {Hd xs} h2 hx => by
        have hle := h2.len
        subst hx
        exact hne (List.eq_nil_of_length_eq_zero (by simpa using hle.symm))
      by_cases h2k : 2 ≤ k
      · refine ⟨_, op_repT, fun x y H Hd Q ex hd he q => ?_⟩
        simp only [Da] at hd he
        obtain ⟨l, xs, rfl, h1, h2⟩ := hd
        subst he
        have hle := h2.len
        exact ⟨l, k, xs, rfl, rfl, SqT.of (ex _ _ h1), nn h2, h2k, hhi, by omega, fun w hw => q _ _ _ (Gr.new ex hw) (da_new_tup ex hw (h2.rep k.toNat))⟩
      · refine ⟨_, op_repU, fun x y H Hd Q ex hd he q => ?_⟩
        simp only [Da] at hd he
        obtain ⟨l, xs, rfl, h1, h2⟩ := hd
        subst he
        refine ⟨l, k, xs, rfl, rfl, SqT.of (ex _ _ h1), nn h2, by omega, by omega, fun hk => ?_, fun hk w hw => q _ _ _ (Gr.new ex hw) ?_⟩
        · subst hk
          rw [repX_one] at q
          exact q _ _ _ (Gr.refl ex) (by simp only [Da]; exact ⟨l, xs, rfl, h1, h2⟩)
        · have e0 : repX as k = [] := by
            unfold repX
            rw [show k.toNat = 0 by omega]; rfl
          rw [e0]
          exact da_new_tup ex hw DaAll.nil
    · cases hz
/-! ### comparisons -/
mutual
theorem Da.dp {K : PySem.W.Frag} {H : Hp} : ∀ (d : D) (v : V), d.canLay0 = true → Da H d v → Dp K H v d
  | .none, v, _, h => by simp only [Da] at h; subst h; exact .non
  | .bool b, v, _, h => by simp only [Da] at h; subst h; exact .bl b
  | .int i, v, _, h => by simp only [Da] at h; subst h; exact .int i
  | .str x, v, _, h => by simp only [Da] at h; subst h; exact .str x
  | .list ds, v, c, h => by
    simp only [Da] at h
    obtain ⟨a, xs, rfl, h2, h3⟩ := h
    exact .lst (SqL.of h2) (DaAll.dp ds xs (by simpa only [PyData.canLay0] using c) h3)
  | .tuple ds, v, c, h => by
    simp only [Da] at h
    obtain ⟨a, xs, rfl, h2, h3⟩ := h
    exact .tup (SqT.of h2) (DaAll.dp ds xs (by simpa only [PyData.canLay0] using c) h3)
  | .dict kvs, v, c, h => by simp [PyData.canLay0] at c
theorem DaAll.dp {K : PySem.W.Frag} {H : Hp} : ∀ (ds : List D) (vs : List V), PyData.canLayAll0 ds = true → DaAll H ds vs → DpAll K H vs ds
  | [], vs, _, h => by simp only [DaAll] at h; subst h; exact .nil
  | d :: ds, vs, c, h => by
    simp only [DaAll] at h
    obtain ⟨v, r, rfl, h2, h3⟩ := h
    simp only [PyData.canLayAll0, Bool.and_eq_true] at c
    exact .cons (Da.dp d v c.1 h2) (DaAll.dp ds r c.2 h3)
end
/-- a comparison that gives k -/
theorem opC_of {F : Value → Value → Sem Value} {f : D → D → Option Bool} (h : ∀ (d e : D) (k : Bool), f d e = some k → ∃ r : R2, OpR X F r ∧ ∀ x y H Q, Da H d x → Da H e y → Q (.bl k) H → r x y H Q) : OpR X F (rC f) :=
  opB_of fun d e z hz => by
    cases hk : f d e with
    | none => rw [hk] at hz; cases hz
    | some k =>
      rw [hk] at hz
      cases hz
      obtain ⟨r, o, g⟩ := h d e k hk
      exact ⟨r, o, fun x y H Hd Q ex hd he q => g x y H Q (Da.ext ex _ _ hd) (Da.ext ex _ _ he) (q _ _ _ (Gr.refl ex) (by simp only [Da]))⟩
theorem opC_int {F : Value → Value → Sem Value} {f : D → D → Option Bool} {g : Int → Int → Bool} (ho : OpR X F (rI0 fun i j => .bl (g i j))) (h : ∀ d e k, f d e = some k → ∃ i j, d = .int i ∧ e = .int j ∧ k = g i j) : OpR X F (rC f) :=
  opC_of fun d e k hk => by
    obtain ⟨i, j, rfl, rfl, rfl⟩ := h d e k hk
    refine ⟨_, ho, fun x y H Q hd he q => ?_⟩
    simp only [Da] at hd he
    subst hd he
    exact ⟨i, j, rfl, rfl, q⟩
theorem opC_le : OpR X (compareOp .LtE) (rC (coB .le)) := opC_int op_le fun d e k hk => by
  simp only [coB] at hk
  cases d <;> cases e <;> simp only [leS] at hk <;> cases hk
  exact ⟨_, _, rfl, rfl, rfl⟩
theorem opC_gt : OpR X (compareOp .Gt) (rC (coB .gt)) := opC_int op_gt fun d e k hk => by
  simp only [coB] at hk
  cases d <;> cases e <;> simp only [gtS] at hk <;> cases hk
  exact ⟨_, _, rfl, rfl, rfl⟩
theorem opC_ge : OpR X (compareOp .GtE) (rC (coB .ge)) := opC_int op_ge fun d e k hk => by
  simp only [coB] at hk
  cases d <;> cases e <;> simp only [geS] at hk <;> cases hk
  exact ⟨_, _, rfl, rfl, rfl⟩
theorem intsOf_eq : ∀ {ds : List D} {ns : List Int}, intsOf ds = some ns → ds = ns.map PyData.int
  | [], ns, h => by simp only [intsOf] at h; cases h; rfl
  | d :: ds, ns, h => by
    cases d <;> simp only [intsOf] at h <;> try (cases h)
    rename_i i
    cases e : intsOf ds with
    | none => rw [e] at h; cases h
    | some ms =>
      rw [e] at h
      cases h
      rw [intsOf_eq e]; rfl
theorem lexLtX_eq : ∀ (a b : List Int), lexLtX a b = HT.lexLt a b
  | [], [] => rfl
  | [], _ :: _ => rfl
  | _ :: _, [] => rfl
  | x :: xs, y :: ys => by rw [HT.lexLt_cons, ← lexLtX_eq xs ys]; rfl
theorem opC_lt (hu : X.A.units + 65 < cLine) : OpR X (compareOp .Lt) (rC (coB .lt)) := opC_of fun d e k hk => by
  simp only [coB] at hk
  cases d <;> cases e <;> simp only [ltS] at hk <;> try (cases hk)
  · rename_i i j
    refine ⟨_, op_lt, fun x y H Q hd he q => ?_⟩
    simp only [Da] at hd he
    subst hd he
    exact ⟨i, j, rfl, rfl, q⟩
  · rename_i as bs
    split at hk
    · rename_i ns ms e1 e2
      cases hk
      refine ⟨_, op_ltT (by omega), fun x y H Q hd he q => ?_⟩
      have e1 := intsOf_eq e1
      have e2 := intsOf_eq e2
      subst e1 e2
      simp only [Da] at hd he
      obtain ⟨l, xs, rfl, h1, h2⟩ := hd
      obtain ⟨m, ys, rfl, h3, h4⟩ := he
      have := h2.ints; have := h4.ints
      subst_vars
      exact ⟨l, m, ns, ms, rfl, rfl, SqT.of h1, SqT.of h3, by rw [← lexLtX_eq]; exact q⟩
    · cases hk
theorem eqS_cases {d e : D} {k : Bool} (h : eqS d e = some k) : (∃ i j, d = .int i ∧ e = .int j ∧ k = (i == j)) ∨ (∃ i j, d = .str i ∧ e = .str j ∧ k = (i == j)) ∨ (SeqAt.shaped d = true ∧ SeqAt.shaped e = true ∧ k = PyData.eqv d e) := by
  unfold eqS at h
  split at h
  · cases h; exact .inl ⟨_, _, rfl, rfl, rfl⟩
  · cases h; exact .inr (.inl ⟨_, _, rfl, rfl, rfl⟩)
  · split at h
    · rename_i hs
      cases h
      rw [Bool.and_eq_true] at hs
      exact .inr (.inr ⟨hs.1, hs.2, rfl⟩)
    · cases h
theorem opC_eq (hu : X.A.units + 65 < cLine) : OpR X (compareOp .Eq) (rC (coB .eq)) := opC_of fun d e k hk => by
  rcases eqS_cases hk with ⟨i, j, rfl, rfl, rfl⟩ | ⟨i, j, rfl, rfl, rfl⟩ | ⟨s1, s2, rfl⟩
  · refine ⟨_, op_eq, fun x y H Q hd he q => ?_⟩
    simp only [Da] at hd he
    subst hd he
    exact ⟨rfl, by rw [dec_int]; exact q⟩
  · refine ⟨_, op_eq, fun x y H Q hd he q => ?_⟩
    simp only [Da] at hd he
    subst hd he
    exact ⟨rfl, by rw [dec_str]; exact q⟩
  · exact ⟨_, op_eqD (by omega), fun x y H Q hd he q => ⟨d, e, Da.dp _ _ (SeqAt.canLay_of_shaped s1) hd, Da.dp _ _ (SeqAt.canLay_of_shaped s2) he, s1, s2, q⟩⟩
theorem opC_ne (hu : X.A.units + 65 < cLine) : OpR X (compareOp .NotEq) (rC (coB .ne)) := opC_of fun d e k hk => by
  simp only [coB] at hk
  cases hq : eqS d e with
  | none => rw [hq] at hk; cases hk
  | some k' =>
    rw [hq] at hk
    cases hk
    rcases eqS_cases hq with ⟨i, j, rfl, rfl, rfl⟩ | ⟨i, j, rfl, rfl, rfl⟩ | ⟨s1, s2, rfl⟩
    · refine ⟨_, op_ne, fun x y H Q hd he q => ?_⟩
      simp only [Da] at hd he
      subst hd he
      exact ⟨rfl, by rw [dec_int]; exact q⟩
    · refine ⟨_, op_ne, fun x y H Q hd he q => ?_⟩
      simp only [Da] at hd he
      subst hd he
      exact ⟨rfl, by rw [dec_str]; exact q⟩
    · exact ⟨_, op_neD (by omega), fun x y H Q hd he q => ⟨d, e, Da.dp _ _ (SeqAt.canLay_of_shaped s1) hd, Da.dp _ _ (SeqAt.canLay_of_shaped s2) he, s1, s2, q⟩⟩
theorem isNone_eq {H : Hp} {d : D} {v : V} (h : Da H d v) : decide (v = .non) = isNone d := by
  cases d <;> simp only [Da] at h
  · subst h; rfl
  · subst h; rfl
  · subst h; rfl
  · subst h; rfl
  · obtain ⟨a, xs, rfl, _⟩ := h; rfl
  · obtain ⟨a, xs, rfl, _⟩ := h; rfl
  · rcases h with ⟨a, ns, _, rfl, _⟩ | ⟨a, ks, _, rfl, _⟩ <;> rfl
theorem opC_is : OpR X (compareOp .Is) (rC (coB .is)) := opC_of fun d e k hk => by
  simp only [coB] at hk
  cases e <;> simp only [isS] at hk <;> cases hk
  refine ⟨_, op_isN, fun x y H Q hd he q => ?_⟩
  have hx := isNone_eq hd
  simp only [Da] at he
  subst he
  exact ⟨rfl, by rw [hx]; exact q⟩
theorem opC_isnt : OpR X (compareOp .IsNot) (rC (coB .isnt)) := opC_of fun d e k hk => by
  simp only [coB] at hk
  cases e <;> simp only [isS] at hk <;> cases hk
  refine ⟨_, op_notN, fun x y H Q hd he q => ?_⟩
  have hx := isNone_eq hd
  simp only [Da] at he
  subst he
  exact ⟨rfl, by rw [hx]; exact q⟩
def rInU (K : PySem.W.Frag) : R2 := fun x y H Q => ∃ d ds, Dp K H x d ∧ Dp K H y (.tuple ds) ∧ SeqAt.shaped d = true ∧ SeqAt.shaped (.tuple ds) = true ∧ Q (.bl (ds.any fun z => PyData.eqv z d)) H
def rNotInU (K : PySem.W.Frag) : R2 := fun x y H Q => ∃ d ds, Dp K H x d ∧ Dp K H y (.tuple ds) ∧ SeqAt.shaped d = true ∧ SeqAt.shaped (.tuple ds) = true ∧ Q (.bl (!ds.any fun z => PyData.eqv z d)) H
theorem op_inU (hu : X.A.units + 65 < cLine) : OpR X (compareOp .In) (rInU X.K) := by
  intro pins s σ H x y v u Q I rx ry ⟨d, ds, hd, he, sd, se, q⟩
  obtain ⟨as, r1⟩ := Dp.reads I d x v hd rx
  obtain ⟨bs, r2⟩ := Dp.reads I (.tuple ds) y u he ry
  refine SeqAt.in_tuple_reads r2 r1 (SeqAt.canLay_of_shaped se) (SeqAt.canLay_of_shaped sd) (PyProof.Rows.room_in_shaped sd hu) ⟨.bl _, H, I, rfl, q⟩
theorem op_notInU (hu : X.A.units + 65 < cLine) : OpR X (compareOp .NotIn) (rNotInU X.K) := by
  intro pins s σ H x y v u Q I rx ry ⟨d, ds, hd, he, sd, se, q⟩
  obtain ⟨as, r1⟩ := Dp.reads I d x v hd rx
  obtain ⟨bs, r2⟩ := Dp.reads I (.tuple ds) y u he ry
  refine SeqAt.notIn_tuple_reads r2 r1 (SeqAt.canLay_of_shaped se) (SeqAt.canLay_of_shaped sd) (PyProof.Rows.room_in_shaped sd hu) ⟨.bl _, H, I, rfl, q⟩
theorem inS_cases {d e : D} {k : Bool} (h : inS d e = some k) : (∃ ds, e = .list ds ∧ SeqAt.shaped d = true ∧ SeqAt.shaped (.list ds) = true ∧ k = (ds.any fun y => PyData.eqv y d)) ∨ (∃ ds, e = .tuple ds ∧ SeqAt.shaped d = true ∧ SeqAt.shaped (.tuple ds) = true ∧ k = (ds.any fun y => PyData.eqv y d)) := by
  cases e <;> simp only [inS] at h <;> try (cases h)
  · split at h
    · rename_i hs
      cases h
      rw [Bool.and_eq_true] at hs
      exact .inl ⟨_, rfl, hs.1, hs.2, rfl⟩
    · cases h
  · split at h
    · rename_i hs
      cases h
      rw [Bool.and_eq_true] at hs
      exact .inr ⟨_, rfl, hs.1, hs.2, rfl⟩
    · cases h
theorem opC_in (hu : X.A.units + 65 < cLine) : OpR X (compareOp .In) (rC (coB .isin)) := opC_of fun d e k hk => by
  rcases inS_cases hk with ⟨ds, rfl, s1, s2, rfl⟩ | ⟨ds, rfl, s1, s2, rfl⟩
  · exact ⟨_, op_inD hu, fun x y H Q hd he q => ⟨d, ds, Da.dp _ _ (SeqAt.canLay_of_shaped s1) hd, Da.dp _ _ (SeqAt.canLay_of_shaped s2) he, s1, s2, q⟩⟩
  · exact ⟨_, op_inU hu, fun x y H Q hd he q => ⟨d, ds, Da.dp _ _ (SeqAt.canLay_of_shaped s1) hd, Da.dp _ _ (SeqAt.canLay_of_shaped s2) he, s1, s2, q⟩⟩
theorem opC_notin (hu : X.A.units + 65 < cLine) : OpR X (compareOp .NotIn) (rC (coB .notin)) := opC_of fun d e k hk => by
  simp only [coB] at hk
  cases hq : inS d e with
  | none => rw [hq] at hk; cases hk
  | some k' =>
    rw [hq] at hk
    cases hk
    rcases inS_cases hq with ⟨ds, rfl, s1, s2, rfl⟩ | ⟨ds, rfl, s1, s2, rfl⟩
    · exact ⟨_, op_notInD hu, fun x y H Q hd he q => ⟨d, ds, Da.dp _ _ (SeqAt.canLay_of_shaped s1) hd, Da.dp _ _ (SeqAt.canLay_of_shaped s2) he, s1, s2, q⟩⟩
    · exact ⟨_, op_notInU hu, fun x y H Q hd he q => ⟨d, ds, Da.dp _ _ (SeqAt.canLay_of_shaped s1) hd, Da.dp _ _ (SeqAt.canLay_of_shaped s2) he, s1, s2, q⟩⟩
end
end Mp

set_option Elab.async false
set_option linter.all false
set_option maxRecDepth 100000
set_option maxHeartbeats 4000000
namespace Mp
open PySem L2
open PyProof.Rows hiding St
variable [KF]
theorem R.assoc {α β γ : Type} (r : R α) (f : α → R β) (g : β → R γ) : (r.bnd f).bnd g = r.bnd fun x => (f x).bnd g := by cases r <;> rfl
theorem truV_of {K : PySem.W.Frag} {H : Hp} {d : D} {v : V} {k : Bool} (h : Da H d v) (t : truth d = some k) : TruV K v H k := by
  cases d <;> simp only [Da] at h <;> simp only [truth] at t
  · subst h; cases t; rfl
  · subst h; cases t; rfl
  · subst h; cases t; rfl
  · subst h
    split at t
    · rename_i hl
      cases t
      exact ⟨Nat.le_trans hl lim_line, rfl⟩
    · cases t
  · obtain ⟨a, xs, rfl, h1, h2⟩ := h
    cases t
    refine .inl ⟨xs, SqL.of h1, ?_⟩
    have := h2.len
    cases xs <;> cases ‹List PyData› <;> simp_all
  · obtain ⟨a, xs, rfl, h1, h2⟩ := h
    cases t
    refine .inr (.inl ⟨xs, SqT.of h1, ?_⟩)
    have := h2.len
    cases xs <;> cases ‹List PyData› <;> simp_all
  · cases t
section
variable {X : Cx} {p : Pr} {a b c : Expr} {ea eb ec : Ex} {pos : Pos} {rest : List Expr}
theorem Ct.ofO {α β γ : Type} {rel : Hp → γ → β → Prop} {mg : Str → Option Value} {W : WX} {σ : St} {H Hd : Hp} {o : Option α} {g : α → R γ} {Q : β → Hp → Prop} (h : Ct rel mg W σ H Hd ((Mp.ofO o).bnd g) Q) : ∃ a, o = some a ∧ Ct rel mg W σ H Hd (g a) Q := by
  cases o with
  | none => exact h.elim
  | some a => exact ⟨a, rfl, h⟩
theorem Ct.ofO' {α β : Type} {rel : Hp → α → β → Prop} {mg : Str → Option Value} {W : WX} {σ : St} {H Hd : Hp} {o : Option α} {Q : β → Hp → Prop} (h : Ct rel mg W σ H Hd (Mp.ofO o) Q) : ∃ a, o = some a ∧ Ct rel mg W σ H Hd (.val a) Q := by
  cases o with
  | none => exact h.elim
  | some a => exact ⟨a, rfl, h⟩
theorem dE_cmp {o : Co} {op : CmpOp} (h : OpR X (compareOp op) (rC (coB o))) (ha : PE X a (tD p ea)) (hb : PE X b (tD p eb)) (hm : behindInMarks op b = false) : PE X (.Compare a [op] [b] pos) (tD p (.cmp o ea eb)) :=
  peI (pe_cmpR h ha hb hm) fun σ H Q ⟨H0, Hd0, ρ, Hd, S, q⟩ => by
    simp only [ev] at q
    refine tR_bnd S q fun d v H1 Hd1 S1 g1 hd _ q1 => tR_bnd S1 q1 fun e w H2 Hd2 S2 g2 he _ q2 => ?_
    obtain ⟨z, hz, q3⟩ := q2.ofO'
    exact ⟨Hd2, d, e, z, S2.ex, Da.ext g2.d _ _ hd, he, hz, fun v H' Hd' g h => q3 v H' Hd' g h⟩
theorem dT_cmp {o : Co} {op : CmpOp} (h : OpR X (compareOp op) (rC (coB o))) (ha : PE X a (tD p ea)) (hb : PE X b (tD p eb)) (hm : behindInMarks op b = false) : PT X (.Compare a [op] [b] pos) (tDt p (.cmp o ea eb)) :=
  ptI (pt_cmpR h ha hb hm) fun σ H Q ⟨H0, Hd0, ρ, Hd, S, q⟩ => by
    simp only [ev, truR, R.assoc] at q
    refine tR_bnd S q fun d v H1 Hd1 S1 g1 hd _ q1 => tR_bnd S1 q1 fun e w H2 Hd2 S2 g2 he _ q2 => ?_
    obtain ⟨z, hz, q3⟩ := q2.ofO
    refine ⟨Hd2, d, e, z, S2.ex, Da.ext g2.d _ _ hd, he, hz, fun v H' Hd' g h => ?_⟩
    unfold coS at hz
    cases hk : coB o d e with
    | none => rw [hk] at hz; cases hz
    | some k =>
      rw [hk] at hz
      cases hz
      simp only [Da] at h
      exact ⟨k, h, q3 k H' Hd' g rfl⟩
theorem dE_chain {o o' : Co} {op op' : CmpOp} (h : OpR X (compareOp op) (rC (coB o))) (h' : OpR X (compareOp op') (rC (coB o'))) (ha : PE X a (tD p ea)) (hb : PE X b (tD p eb)) (hc : PE X c (tD p ec)) (hm : lastMarks [op, op'] [b, c] = false := by with_unfolding_all rfl) :
    PE X (.Compare a [op, op'] [b, c] pos) (tD p (.chain o o' ea eb ec)) :=
  peI (pe_chain h h' ha hb hc hm) fun σ H Q ⟨H0, Hd0, ρ, Hd, S, q⟩ => by
    simp only [ev] at q
    refine tR_bnd S q fun d v H1 Hd1 S1 g1 hd _ q1 => tR_bnd S1 q1 fun e w H2 Hd2 S2 g2 he _ q2 => ?_
    obtain ⟨k, hk, q3⟩ := q2.ofO
    have hz : (coB o d e).map (fun k => PyData.bool k) = some (.bool k) := by rw [hk]; rfl
    refine ⟨Hd2, d, e, .bool k, S2.ex, Da.ext g2.d _ _ hd, he, hz, fun v3 H3 Hd3 g3 h3 => ?_⟩
    simp only [Da] at h3
    refine ⟨k, h3, ?_⟩
    cases k with
    | false =>
      exact q3 _ H3 Hd3 g3 (by simp only [Da])
    | true =>
      rw [if_pos rfl]
      refine tR_bnd (S2.grow g3) (Ct.grow g3 q3) fun f u H4 Hd4 S4 g4 hf _ q4 => ?_
      obtain ⟨z, hz', q5⟩ := q4.ofO'
      exact ⟨Hd4, e, f, z, S4.ex, Da.ext (g3.trans g4).d _ _ he, hf, hz', fun v H' Hd' g h => q5 v H' Hd' g h⟩
/-! ### truth -/
theorem dT_val (h : PE X a (tD p ea)) (he : ∀ whole, isTrue a X.env whole = (do let v ← whole; standAt a.pos; holding [v] (truthy v)) := by intro _; rfl) : PT X a (tDt p ea) :=
  ptI (pt_truth h he) fun σ H Q ⟨H0, Hd0, ρ, Hd, S, q⟩ => by
    simp only [truR] at q
    refine tR_bnd S q fun d v H1 Hd1 S1 g1 hd _ q1 => ?_
    obtain ⟨k, hk, q2⟩ := q1.ofO'
    exact ⟨k, truV_of (Da.ext S1.ex _ _ hd) hk, q2.here S1.ex rfl⟩
theorem dT_not (h : PT X a (tDt p ea)) : PT X (.UnaryOp .Not a pos) (tDt p (.not ea)) :=
  ptI (pt_not h) fun σ H Q ⟨H0, Hd0, ρ, Hd, S, q⟩ => by
    simp only [ev, truR, R.assoc] at q
    have q' : Ct eqR p.mg p.W σ H Hd ((truR (ev p.cal ea ρ)).bnd fun k => R.val (!k)) Q := by
      simp only [truR, R.assoc]
      exact q
    exact tR_bnd S q' fun k k' H1 Hd1 S1 g1 hk _ q1 => by
      cases hk
      exact q1.here S1.ex rfl
theorem dE_not (h : PE X a (tD p ea)) : PE X (.UnaryOp .Not a pos) (tD p (.not ea)) :=
  peI (pe_notT h) fun σ H Q ⟨H0, Hd0, ρ, Hd, S, q⟩ => by
    simp only [ev, truR, R.assoc] at q
    refine tR_bnd S q fun d v H1 Hd1 S1 g1 hd _ q1 => ?_
    obtain ⟨k, hk, q2⟩ := q1.ofO
    exact ⟨k, truV_of (Da.ext S1.ex _ _ hd) hk, q2.here S1.ex (by simp only [Da])⟩
theorem dE_one {op : BoolOp} (h : PE X a (tD p ea)) : PE X (.BoolOp op [a] pos) (tD p ea) := pe_one h
theorem dE_and (ha : PE X a (tD p ea)) (hb : PE X (.BoolOp .And (b :: rest) pos) (tD p eb)) : PE X (.BoolOp .And (a :: b :: rest) pos) (tD p (.and ea eb)) :=
  peI (pe_and ha hb) fun σ H Q ⟨H0, Hd0, ρ, Hd, S, q⟩ => by
    simp only [ev] at q
    refine tR_bnd S q fun d v H1 Hd1 S1 g1 hd _ q1 => ?_
    split at q1
    · simp only [Da] at hd
      refine ⟨true, hd, ?_⟩
      rw [if_pos rfl]
      exact ⟨H0, Hd0, ρ, Hd1, S1, q1⟩
    · simp only [Da] at hd
      exact ⟨false, hd, q1.here S1.ex (by simp only [Da])⟩
    · exact q1.elim
theorem dE_or (ha : PE X a (tD p ea)) (hb : PE X (.BoolOp .Or (b :: rest) pos) (tD p eb)) : PE X (.BoolOp .Or (a :: b :: rest) pos) (tD p (.or ea eb)) :=
  peI (pe_or ha hb) fun σ H Q ⟨H0, Hd0, ρ, Hd, S, q⟩ => by
    simp only [ev] at q
    refine tR_bnd S q fun d v H1 Hd1 S1 g1 hd _ q1 => ?_
    split at q1
    · simp only [Da] at hd
      exact ⟨true, hd, q1.here S1.ex (by simp only [Da])⟩
    · simp only [Da] at hd
      refine ⟨false, hd, ?_⟩
      rw [if_neg Bool.false_ne_true]
      exact ⟨H0, Hd0, ρ, Hd1, S1, q1⟩
    · exact q1.elim
theorem dW_and1 (h : PT X a (tDt p ea)) : PW X (.BoolOp .And [a] pos) (tDt p ea) := pw_and1 h
theorem dW_or1 (h : PT X a (tDt p ea)) : PW X (.BoolOp .Or [a] pos) (tDt p ea) := pw_or1 h
theorem dW_and (ha : PT X a (tDt p ea)) (hb : PW X (.BoolOp .And (b :: rest) pos) (tDt p eb)) : PW X (.BoolOp .And (a :: b :: rest) pos) (tDt p (.and ea eb)) :=
  pwI (pw_and ha hb) fun σ H Q ⟨H0, Hd0, ρ, Hd, S, q⟩ => by
    simp only [ev, truR, R.assoc] at q
    refine ⟨H0, Hd0, ρ, Hd, S, ?_⟩
    show Ct eqR p.mg p.W σ H Hd (truR (ev p.cal ea ρ)) _
    cases e : ev p.cal ea ρ with
    | bad => rw [e] at q; exact q
    | exc c => rw [e] at q; exact q
    | val d =>
      rw [e] at q
      simp only [R.bnd_val] at q
      split at q
      · intro k H1 Hd1 g1 hk
        cases hk
        rw [if_pos rfl]
        exact ⟨H0, Hd0, ρ, Hd1, S.grow g1, Ct.grow g1 q⟩
      · intro k H1 Hd1 g1 hk
        cases hk
        rw [if_neg Bool.false_ne_true]
        exact q _ H1 Hd1 g1 rfl
      · exact q.elim
theorem dW_or (ha : PT X a (tDt p ea)) (hb : PW X (.BoolOp .Or (b :: rest) pos) (tDt p eb)) : PW X (.BoolOp .Or (a :: b :: rest) pos) (tDt p (.or ea eb)) :=
  pwI (pw_or ha hb) fun σ H Q ⟨H0, Hd0, ρ, Hd, S, q⟩ => by
    simp only [ev, truR, R.assoc] at q
    refine ⟨H0, Hd0, ρ, Hd, S, ?_⟩
    show Ct eqR p.mg p.W σ H Hd (truR (ev p.cal ea ρ)) _
    cases e : ev p.cal ea ρ with
    | bad => rw [e] at q; exact q
    | exc c => rw [e] at q; exact q
    | val d =>
      rw [e] at q
      simp only [R.bnd_val] at q
      split at q
      · intro k H1 Hd1 g1 hk
        cases hk
        rw [if_pos rfl]
        exact q _ H1 Hd1 g1 rfl
      · intro k H1 Hd1 g1 hk
        cases hk
        rw [if_neg Bool.false_ne_true]
        exact ⟨H0, Hd0, ρ, Hd1, S.grow g1, Ct.grow g1 q⟩
      · exact q.elim
theorem dE_ite (hc : PT X c (tDt p ec)) (ha : PE X a (tD p ea)) (hb : PE X b (tD p eb)) : PE X (.IfExp c a b pos) (tD p (.ite ec ea eb)) :=
  peI (pe_ifExp hc ha hb) fun σ H Q ⟨H0, Hd0, ρ, Hd, S, q⟩ => by
    simp only [ev] at q
    refine tR_bnd (rel := eqR) (f := fun ρ => truR (ev p.cal ec ρ)) S q fun k k' H1 Hd1 S1 g1 hk _ q1 => ?_
    cases hk
    cases k with
    | true =>
      rw [if_pos rfl]
      exact ⟨H0, Hd0, ρ, Hd1, S1, q1⟩
    | false =>
      rw [if_neg Bool.false_ne_true]
      exact ⟨H0, Hd0, ρ, Hd1, S1, q1⟩
/-! ### arguments, tuples, lists -/
theorem dA_nil : PA X [] (tDs p .nil) := paI pa_nil fun σ H Q ⟨H0, Hd0, ρ, Hd, S, q⟩ => by
  simp only [evs] at q
  exact q.here S.ex DaAll.nil
theorem dA_cons {es : List Expr} {xs : Es} (ha : PE X a (tD p ea)) (hr : PA X es (tDs p xs)) (hs : starEach (a :: es) X.env = (false, eval a X.env) :: starEach es X.env := by rfl) : PA X (a :: es) (tDs p (.cons ea xs)) :=
  paI (pa_cons ha hr hs) fun σ H Q ⟨H0, Hd0, ρ, Hd, S, q⟩ => by
    simp only [evs] at q
    exact tR_bnd S q fun d v H1 Hd1 S1 g1 hd _ q1 => tR_bnd S1 q1 fun ds vs H2 Hd2 S2 g2 hds _ q2 => q2.here S2.ex (DaAll.cons (Da.ext g2.d _ _ hd) hds)
theorem dE_tup {es : List Expr} {xs : Es} {k : Nat} (h : PA X es (tDs p xs)) : PE X (.Tuple es k pos) (tD p (.tup xs)) :=
  peI (pe_tup h) fun σ H Q ⟨H0, Hd0, ρ, Hd, S, q⟩ => by
    simp only [ev] at q
    refine tR_bnd S q fun ds vs H1 Hd1 S1 g1 hd _ q1 => ?_
    obtain ⟨z, hz, q2⟩ := q1.ofO'
    unfold mkT at hz
    split at hz
    · rename_i hl
      cases hz
      refine ⟨?_, fun w hw => q2.next (Gr.new S1.ex hw) (da_new_tup S1.ex hw hd)⟩
      rw [hd.len]
      exact Nat.le_trans hl lim_line
    · cases hz
theorem dE_lst {es : List Expr} {xs : Es} (h : PA X es (tDs p xs)) : PE X (.List es pos) (tD p (.lst xs)) :=
  peI (pe_lst h) fun σ H Q ⟨H0, Hd0, ρ, Hd, S, q⟩ => by
    simp only [ev] at q
    refine tR_bnd S q fun ds vs H1 Hd1 S1 g1 hd _ q1 => ?_
    obtain ⟨z, hz, q2⟩ := q1.ofO'
    unfold mkL at hz
    split at hz
    · rename_i hl
      cases hz
      refine ⟨?_, fun w hw => q2.next (Gr.new S1.ex hw) (da_new_lst S1.ex hw hd)⟩
      rw [hd.len]
      exact Nat.le_trans hl lim_line
    · cases hz
/-! ### places -/
theorem atX_eq {α : Type} (xs : List α) (i : Int) : atX xs i = atI xs i := by
  unfold atX atI ixN
  by_cases h : 0 ≤ i
  · rw [if_pos h, if_pos h]
    by_cases h2 : i < xs.length
    · rw [if_pos h2]; rfl
    · rw [if_neg h2, List.getElem?_eq_none (by omega)]; rfl
  · rw [if_neg h, if_neg h]
    by_cases h2 : -(xs.length : Int) ≤ i
    · rw [if_pos h2, if_pos h2]; rfl
    · rw [if_neg h2, if_neg h2]; rfl
theorem atX_get {α : Type} {xs : List α} {i : Int} {x : α} (h : atX xs i = some x) : ∃ j : Nat, xs[j]? = some x ∧ ∀ {β : Type} (ys : List β), ys.length = xs.length → atX ys i = ys[j]? := by
  unfold atX at h ⊢
  by_cases h0 : 0 ≤ i
  · rw [if_pos h0] at h
    exact ⟨i.toNat, h, fun ys _ => by rw [if_pos h0]⟩
  · rw [if_neg h0] at h
    by_cases h1 : -(xs.length : Int) ≤ i
    · rw [if_pos h1] at h
      exact ⟨(i + xs.length).toNat, h, fun ys hy => by rw [if_neg h0, hy, if_pos h1]⟩
    · rw [if_neg h1] at h; cases h
theorem DaAll.atX {H : Hp} {ds : List D} {vs : List V} {i : Int} {d : D} (h : DaAll H ds vs) (e : Mp.atX ds i = some d) : ∃ v, atI vs i = some v ∧ Da H d v := by
  obtain ⟨j, h1, h2⟩ := atX_get e
  obtain ⟨v, h3, h4⟩ := h.get h1
  refine ⟨v, ?_, h4⟩
  rw [← atX_eq, h2 vs h.len]
  exact h3
def rIxA (K : PySem.W.Frag) : R2 := fun x y H Q => rIxL K x y H Q ∨ rIxT K x y H Q
theorem ix_A : IxR X (rIxA X.K) := ix_list.or ix_tup
theorem da_scr {H : Hp} {ds : List D} {v : V} (h : (∃ a, ∃ ns : List Int, [((.none : D), (.list ds : D))] = [(.none, .list (ns.map PyData.int))] ∧ v = .ref a ∧ SqL KF.K H a (ns.map V.int)) ∨ ∃ a, ∃ ks : List (Str × Str), [((.none : D), (.list ds : D))] = ks.map (fun q => (.str q.1, .str q.2)) ∧ v = .ref a ∧ H a = some (.dK (ks.map fun q => (.inr q.1, .str q.2)))) : ∃ a, ∃ ns : List Int, [((.none : D), (.list ds : D))] = [(.none, .list (ns.map PyData.int))] ∧ v = .ref a ∧ SqL KF.K H a (ns.map V.int) := by
  rcases h with h | ⟨a, ks, e, _⟩
  · exact h
  · cases ks with
    | nil => cases e
    | cons k ks => simp at e
theorem ixS_cases {d e z : D} (h : ixS d e = some z) : ∃ (ds : List D) (i : Int), e = .int i ∧ Mp.atX ds i = some z ∧ (d = .list ds ∨ d = .tuple ds ∨ d = .dict [(.none, .list ds)]) := by
  unfold ixS at h
  split at h
  · rename_i ds i
    cases hx : Mp.atX ds i with
    | none => rw [hx] at h; cases h
    | some x => rw [hx] at h; cases h; exact ⟨ds, i, rfl, hx, .inl rfl⟩
  · rename_i ds i
    cases hx : Mp.atX ds i with
    | none => rw [hx] at h; cases h
    | some x => rw [hx] at h; cases h; exact ⟨ds, i, rfl, hx, .inr (.inl rfl)⟩
  · rename_i ds i
    cases hx : Mp.atX ds i with
    | none => rw [hx] at h; cases h
    | some x => rw [hx] at h; cases h; exact ⟨ds, i, rfl, hx, .inr (.inr rfl)⟩
  · cases h
theorem dE_ix (ha : PE X a (tD p ea)) (hb : PE X b (tD p eb)) (hK : X.K = KF.K := by rfl) (hs : PlainIx b := by exact fun _ _ => rfl) : PE X (.Subscript a b pos) (tD p (.ix ea eb)) :=
  peI (pe_ix ix_A ha hb hs) fun σ H Q ⟨H0, Hd0, ρ, Hd, S, q⟩ => by
    simp only [ev] at q
    refine tR_bnd S q fun d v H1 Hd1 S1 g1 hd _ q1 => tR_bnd S1 q1 fun e w H2 Hd2 S2 g2 he _ q2 => ?_
    obtain ⟨z, hz, q3⟩ := q2.ofO'
    have hd2 := Da.ext g2.d _ _ hd
    obtain ⟨ds, i, rfl, hx, rfl | rfl | rfl⟩ := ixS_cases hz
    · simp only [Da] at hd2 he
      obtain ⟨l, xs, rfl, h1, h2⟩ := hd2
      subst he
      obtain ⟨u, hu, hu2⟩ := h2.atX hx
      exact .inl ⟨l, xs, i, u, rfl, rfl, SqL.of (S2.ex _ _ h1), hu, q3.here S2.ex hu2⟩
    · simp only [Da] at hd2 he
      obtain ⟨l, xs, rfl, h1, h2⟩ := hd2
      subst he
      obtain ⟨u, hu, hu2⟩ := h2.atX hx
      exact .inr ⟨l, xs, i, u, rfl, rfl, SqT.of (S2.ex _ _ h1), hu, q3.here S2.ex hu2⟩
    · simp only [Da] at hd2 he
      obtain ⟨l, ns, e0, rfl, h1⟩ := da_scr hd2
      have e0 : ds = ns.map PyData.int := by simpa using e0
      subst e0
      subst he
      obtain ⟨u, hu, hu2⟩ := (DaAll.of_ints (H := Hd2) ns).atX hx
      exact .inl ⟨l, ns.map V.int, i, u, rfl, rfl, by rw [hK]; exact SqL.ext S2.ex h1, hu, q3.here S2.ex hu2⟩
theorem sX_eq (n d : Nat) (o : Option Int) : sX n d o = HT.sIx n d o := by cases o <;> rfl
theorem DaAll.cut {H : Hp} {ds : List D} {vs : List V} (h : DaAll H ds vs) (lo hi : Option Int) : DaAll H (cutX ds lo hi) (cutV vs lo hi) := by
  unfold cutX cutV
  rw [sX_eq, sX_eq, h.len]
  exact (h.drop _).take _
theorem dO_non : PO X none (tDo p .non) := by
  refine ⟨fun pins s σ H Q I ⟨H0, Hd0, ρ, Hd, S, q⟩ => po_none.run pins s σ H Q I ?_⟩
  simp only [evo] at q
  exact q.here S.ex rfl
theorem dO_som (h : PE X a (tD p ea)) : PO X (some a) (tDo p (.som ea)) := by
  refine ⟨fun pins s σ H Q I ⟨H0, Hd0, ρ, Hd, S, q⟩ => (po_some h).run pins s σ H Q I ?_⟩
  simp only [evo, R.assoc] at q
  refine tR_bnd S q fun d v H1 Hd1 S1 g1 hd _ q1 => ?_
  obtain ⟨o, ho, q2⟩ := (show Ct eqR p.mg p.W σ H1 Hd1 (ofO (optI (some d))) Q from q1).ofO'
  cases d <;> simp only [optI] at ho <;> cases ho
  simp only [Da] at hd
  exact ⟨_, hd, q2.here S1.ex rfl⟩
def rSlD (K : PySem.W.Frag) : V → Option Int → Option Int → Hp → VK → Prop := fun x lo hi H Q => rSlL K x lo hi H Q ∨ rSlA K x lo hi H Q
theorem sl_D : SlR X (rSlD X.K) := sl_list.or sl_tupA
theorem cutX_all {α : Type} {xs : List α} {lo hi : Option Int} (h : HT.sIx xs.length 0 lo = 0 ∧ HT.sIx xs.length xs.length hi = xs.length) : cutX xs lo hi = xs := by
  unfold cutX
  rw [sX_eq, sX_eq, h.1, h.2]
  simp
theorem dE_sl {lo hi : Option Expr} {el eh : Eo} {p2 : Pos} (ha : PE X a (tD p ea)) (hl : PO X lo (tDo p el)) (hh : PO X hi (tDo p eh)) : PE X (.Subscript a (.Slice lo hi none p2) pos) (tD p (.sl ea el eh)) :=
  peI (pe_slice sl_D ha hl hh) fun σ H Q ⟨H0, Hd0, ρ, Hd, S, q⟩ => by
    simp only [ev] at q
    refine tR_bnd S q fun d v H1 Hd1 S1 g1 hd _ q1 => ?_
    rw [← R.assoc] at q1
    refine tR_bnd (rel := eqR) (f := fun ρ => (evo p.cal el ρ).bnd fun x => ofO (optI x)) S1 q1 fun l l' H2 Hd2 S2 g2 hll _ q2 => ?_
    cases hll
    rw [← R.assoc] at q2
    refine tR_bnd (rel := eqR) (f := fun ρ => (evo p.cal eh ρ).bnd fun x => ofO (optI x)) S2 q2 fun u u' H3 Hd3 S3 g3 huu _ q3 => ?_
    cases huu
    obtain ⟨z, hz, q4⟩ := q3.ofO'
    have hd3 := Da.ext (g2.trans g3).d _ _ hd
    cases d <;> simp only [slS] at hz <;> cases hz
    · simp only [Da] at hd3
      obtain ⟨m, xs, rfl, h1, h2⟩ := hd3
      exact .inl ⟨m, xs, rfl, SqL.of (S3.ex _ _ h1), fun w hw => q4.next (Gr.new S3.ex hw) (da_new_lst S3.ex hw (h2.cut l u))⟩
    · simp only [Da] at hd3
      obtain ⟨m, xs, rfl, h1, h2⟩ := hd3
      refine .inr ⟨m, xs, rfl, SqT.of (S3.ex _ _ h1), fun hw => ?_, fun _ w hw => q4.next (Gr.new S3.ex hw) (da_new_tup S3.ex hw (h2.cut l u))⟩
      rw [h2.len] at hw
      rw [cutX_all hw] at q4
      exact q4.here S3.ex (by simp only [Da]; exact ⟨m, xs, rfl, h1, h2⟩)
end
end Mp

set_option Elab.async false
set_option linter.all false
set_option maxRecDepth 100000
set_option maxHeartbeats 4000000
namespace Mp
open PySem L2
open PyProof.Rows hiding St
variable [KF]
/-! ### built-in functions -/
def rF (f : List D → Option D) : List V → Hp → VK → Prop := fun vs H Q => ∃ Hd ds z, Ext Hd H ∧ DaAll Hd ds vs ∧ f ds = some z ∧ ∀ v H' Hd', Gr H Hd H' Hd' → Da Hd' z v → Q v H'
theorem DaAll.one {H : Hp} {d : D} {vs : List V} (h : DaAll H [d] vs) : ∃ v, vs = [v] ∧ Da H d v := by
  simp only [DaAll] at h
  obtain ⟨v, r, rfl, h2, rfl⟩ := h
  exact ⟨v, rfl, h2⟩
theorem DaAll.two {H : Hp} {d e : D} {vs : List V} (h : DaAll H [d, e] vs) : ∃ v w, vs = [v, w] ∧ Da H d v ∧ Da H e w := by
  simp only [DaAll] at h
  obtain ⟨v, r, rfl, h2, w, r2, rfl, h3, rfl⟩ := h
  exact ⟨v, w, rfl, h2, h3⟩
section
variable {X : Cx} {p : Pr} {a b c e : Expr} {ea eb ec : Ex} {pos pp : Pos} {es : List Expr} {xs : Es}
theorem callF_of {F : Value} {f : List D → Option D} (h : ∀ (ds : List D) (z : D), f ds = some z → ∃ r : List V → Hp → VK → Prop, CallR X F r ∧ ∀ vs H Hd Q, Ext Hd H → DaAll Hd ds vs → (∀ v H' Hd', Gr H Hd H' Hd' → Da Hd' z v → Q v H') → r vs H Q) : CallR X F (rF f) := by
  intro pins s σ H vs us Q I rv ⟨Hd, ds, z, ex, hd, hz, q⟩
  obtain ⟨r, o, k⟩ := h ds z hz
  exact o pins s σ H vs us Q I rv (k vs H Hd Q ex hd q)
theorem bf_cases {f : Bf} {ds : List D} {z : D} (h : bfS f ds = some z) :
    (f = .len ∧ ∃ es, (ds = [.list es] ∨ ds = [.tuple es] ∨ ds = [scr es]) ∧ z = .int es.length) ∨ (f = .abs ∧ ∃ i, ds = [.int i] ∧ z = .int (if i < 0 then -i else i)) ∨ (f = .max ∧ ∃ i j, ds = [.int i, .int j] ∧ z = .int (if j > i then j else i)) ∨
    (f = .min ∧ ∃ i j, ds = [.int i, .int j] ∧ z = .int (if j < i then j else i)) ∨ (f = .int ∧ ((∃ i, ds = [.int i] ∧ z = .int i) ∨ ∃ k, ds = [.bool k] ∧ z = .int (if k then 1 else 0))) ∨
    (f = .sum ∧ ∃ ns : List Int, ds = [.list (ns.map PyData.int)] ∧ z = .int ns.sum) ∨ (f = .tuple ∧ ∃ es, (ds = [.list es] ∨ ds = [.tuple es]) ∧ z = .tuple es) ∨ (f = .list ∧ ∃ es, (ds = [.list es] ∨ ds = [.tuple es]) ∧ z = .list es) ∨
    (∃ t d, f = .isi t ∧ ds = [d] ∧ tyS t d = some z) := by
  unfold bfS at h
  split at h
  · cases h; exact .inl ⟨rfl, _, .inl rfl, rfl⟩
  · cases h; exact .inl ⟨rfl, _, .inr (.inl rfl), rfl⟩
  · cases h; exact .inl ⟨rfl, _, .inr (.inr rfl), rfl⟩
  · cases h; exact .inr (.inl ⟨rfl, _, rfl, rfl⟩)
  · cases h; exact .inr (.inr (.inl ⟨rfl, _, _, rfl, rfl⟩))
  · cases h; exact .inr (.inr (.inr (.inl ⟨rfl, _, _, rfl, rfl⟩)))
  · cases h; exact .inr (.inr (.inr (.inr (.inl ⟨rfl, .inl ⟨_, rfl, rfl⟩⟩))))
  · cases h; exact .inr (.inr (.inr (.inr (.inl ⟨rfl, .inr ⟨_, rfl, rfl⟩⟩))))
  · split at h
    · rename_i ns hn
      cases h
      have := intsOf_eq hn
      subst this
      exact .inr (.inr (.inr (.inr (.inr (.inl ⟨rfl, ns, rfl, rfl⟩)))))
    · cases h
  · cases h; exact .inr (.inr (.inr (.inr (.inr (.inr (.inl ⟨rfl, _, .inl rfl, rfl⟩))))))
  · cases h; exact .inr (.inr (.inr (.inr (.inr (.inr (.inl ⟨rfl, _, .inr rfl, rfl⟩))))))
  · cases h; exact .inr (.inr (.inr (.inr (.inr (.inr (.inr (.inl ⟨rfl, _, .inl rfl, rfl⟩)))))))
  · cases h; exact .inr (.inr (.inr (.inr (.inr (.inr (.inr (.inl ⟨rfl, _, .inr rfl, rfl⟩)))))))
  · exact .inr (.inr (.inr (.inr (.inr (.inr (.inr (.inr ⟨_, _, rfl, rfl, h⟩)))))))
  · cases h
theorem callF_len (hK : X.K = KF.K := by rfl) : CallR X (.builtin "len") (rF (bfS .len)) := callF_of fun ds z hz => by
  rcases bf_cases hz with ⟨_, es, rfl | rfl | rfl, rfl⟩ | ⟨h, _⟩ | ⟨h, _⟩ | ⟨h, _⟩ | ⟨h, _⟩ | ⟨h, _⟩ | ⟨h, _⟩ | ⟨h, _⟩ | ⟨_, _, h, _⟩ <;> try (cases h)
  · exact ⟨_, call_len, fun vs H Hd Q ex hd q => by
      obtain ⟨v, rfl, h1⟩ := hd.one
      simp only [Da] at h1
      obtain ⟨l, ys, rfl, h2, h3⟩ := h1
      exact ⟨_, es.length, rfl, .inl ⟨ys, SqL.of (ex _ _ h2), h3.len.symm⟩, q _ _ _ (Gr.refl ex) (by simp only [Da])⟩⟩
  · exact ⟨_, call_len, fun vs H Hd Q ex hd q => by
      obtain ⟨v, rfl, h1⟩ := hd.one
      simp only [Da] at h1
      obtain ⟨l, ys, rfl, h2, h3⟩ := h1
      exact ⟨_, es.length, rfl, .inr ⟨ys, SqT.of (ex _ _ h2), h3.len.symm⟩, q _ _ _ (Gr.refl ex) (by simp only [Da])⟩⟩
  · exact ⟨_, call_len, fun vs H Hd Q ex hd q => by
        obtain ⟨v, rfl, h1⟩ := hd.one
        simp only [Da, scr] at h1
        obtain ⟨l, ns, e0, rfl, h2⟩ := da_scr h1
        have e0 : es = ns.map PyData.int := by simpa using e0
        subst e0
        exact ⟨_, (ns.map PyData.int).length, rfl, .inl ⟨_, by rw [hK]; exact SqL.ext ex h2, by simp⟩, q _ _ _ (Gr.refl ex) (by simp only [Da])⟩⟩
theorem callF_abs : CallR X (.builtin "abs") (rF (bfS .abs)) := callF_of fun ds z hz => by
  rcases bf_cases hz with ⟨h, _⟩ | ⟨_, i, rfl, rfl⟩ | ⟨h, _⟩ | ⟨h, _⟩ | ⟨h, _⟩ | ⟨h, _⟩ | ⟨h, _⟩ | ⟨h, _⟩ | ⟨_, _, h, _⟩ <;> try (cases h)
  exact ⟨_, call_abs, fun vs H Hd Q ex hd q => by
    obtain ⟨v, rfl, h1⟩ := hd.one
    simp only [Da] at h1
    subst h1
    exact ⟨i, rfl, q _ _ _ (Gr.refl ex) (by simp only [Da])⟩⟩
theorem callF_max (hc : X.calm = true) : CallR X (.builtin "max") (rF (bfS .max)) := callF_of fun ds z hz => by
  rcases bf_cases hz with ⟨h, _⟩ | ⟨h, _⟩ | ⟨_, i, j, rfl, rfl⟩ | ⟨h, _⟩ | ⟨h, _⟩ | ⟨h, _⟩ | ⟨h, _⟩ | ⟨h, _⟩ | ⟨_, _, h, _⟩ <;> try (cases h)
  exact ⟨_, call_max2 hc, fun vs H Hd Q ex hd q => by
    obtain ⟨v, w, rfl, h1, h2⟩ := hd.two
    simp only [Da] at h1 h2
    subst h1 h2
    exact ⟨i, j, rfl, q _ _ _ (Gr.refl ex) (by simp only [Da])⟩⟩
theorem callF_min (hc : X.calm = true) : CallR X (.builtin "min") (rF (bfS .min)) := callF_of fun ds z hz => by
  rcases bf_cases hz with ⟨h, _⟩ | ⟨h, _⟩ | ⟨h, _⟩ | ⟨_, i, j, rfl, rfl⟩ | ⟨h, _⟩ | ⟨h, _⟩ | ⟨h, _⟩ | ⟨h, _⟩ | ⟨_, _, h, _⟩ <;> try (cases h)
  exact ⟨_, call_min2 hc, fun vs H Hd Q ex hd q => by
    obtain ⟨v, w, rfl, h1, h2⟩ := hd.two
    simp only [Da] at h1 h2
    subst h1 h2
    exact ⟨i, j, rfl, q _ _ _ (Gr.refl ex) (by simp only [Da])⟩⟩
theorem callF_int : CallR X (.type "int") (rF (bfS .int)) := callF_of fun ds z hz => by
  rcases bf_cases hz with ⟨h, _⟩ | ⟨h, _⟩ | ⟨h, _⟩ | ⟨h, _⟩ | ⟨_, ⟨i, rfl, rfl⟩ | ⟨k, rfl, rfl⟩⟩ | ⟨h, _⟩ | ⟨h, _⟩ | ⟨h, _⟩ | ⟨_, _, h, _⟩ <;> try (cases h)
  · exact ⟨_, call_int1, fun vs H Hd Q ex hd q => by
      obtain ⟨v, rfl, h1⟩ := hd.one
      simp only [Da] at h1
      subst h1
      exact .inl ⟨i, rfl, q _ _ _ (Gr.refl ex) (by simp only [Da])⟩⟩
  · exact ⟨_, call_int1, fun vs H Hd Q ex hd q => by
      obtain ⟨v, rfl, h1⟩ := hd.one
      simp only [Da] at h1
      subst h1
      exact .inr ⟨k, rfl, q _ _ _ (Gr.refl ex) (by simp only [Da])⟩⟩
theorem callF_sum (hc : X.calm = true) : CallR X (.builtin "sum") (rF (bfS .sum)) := callF_of fun ds z hz => by
  rcases bf_cases hz with ⟨h, _⟩ | ⟨h, _⟩ | ⟨h, _⟩ | ⟨h, _⟩ | ⟨h, _⟩ | ⟨_, ns, rfl, rfl⟩ | ⟨h, _⟩ | ⟨h, _⟩ | ⟨_, _, h, _⟩ <;> try (cases h)
  exact ⟨_, cr_sum hc, fun vs H Hd Q ex hd q => by
    obtain ⟨v, rfl, h1⟩ := hd.one
    simp only [Da] at h1
    obtain ⟨l, ys, rfl, h2, h3⟩ := h1
    have := h3.ints
    subst this
    exact ⟨l, ns, rfl, SqL.of (ex _ _ h2), q _ _ _ (Gr.refl ex) (by simp only [Da])⟩⟩
theorem callF_tuple : CallR X (.type "tuple") (rF (bfS .tuple)) := callF_of fun ds z hz => by
  rcases bf_cases hz with ⟨h, _⟩ | ⟨h, _⟩ | ⟨h, _⟩ | ⟨h, _⟩ | ⟨h, _⟩ | ⟨h, _⟩ | ⟨_, es, rfl | rfl, rfl⟩ | ⟨h, _⟩ | ⟨_, _, h, _⟩ <;> try (cases h)
  · exact ⟨_, call_tuple_of, fun vs H Hd Q ex hd q => by
      obtain ⟨v, rfl, h1⟩ := hd.one
      simp only [Da] at h1
      obtain ⟨l, ys, rfl, h2, h3⟩ := h1
      exact ⟨l, ys, rfl, .inl ⟨SqL.of (ex _ _ h2), fun w hw => q _ _ _ (Gr.new ex hw) (da_new_tup ex hw h3)⟩⟩⟩
  · exact ⟨_, call_tuple_of, fun vs H Hd Q ex hd q => by
      obtain ⟨v, rfl, h1⟩ := hd.one
      have h1' := h1
      simp only [Da] at h1
      obtain ⟨l, ys, rfl, h2, h3⟩ := h1
      exact ⟨l, ys, rfl, .inr ⟨SqT.of (ex _ _ h2), q _ _ _ (Gr.refl ex) h1'⟩⟩⟩
theorem callF_list : CallR X (.type "list") (rF (bfS .list)) := callF_of fun ds z hz => by
  rcases bf_cases hz with ⟨h, _⟩ | ⟨h, _⟩ | ⟨h, _⟩ | ⟨h, _⟩ | ⟨h, _⟩ | ⟨h, _⟩ | ⟨h, _⟩ | ⟨_, es, rfl | rfl, rfl⟩ | ⟨_, _, h, _⟩ <;> try (cases h)
  · exact ⟨_, call_list_of, fun vs H Hd Q ex hd q => by
      obtain ⟨v, rfl, h1⟩ := hd.one
      simp only [Da] at h1
      obtain ⟨l, ys, rfl, h2, h3⟩ := h1
      exact ⟨l, ys, rfl, .inl (SqL.of (ex _ _ h2)), fun w hw => q _ _ _ (Gr.new ex hw) (da_new_lst ex hw h3)⟩⟩
  · exact ⟨_, call_list_of, fun vs H Hd Q ex hd q => by
      obtain ⟨v, rfl, h1⟩ := hd.one
      simp only [Da] at h1
      obtain ⟨l, ys, rfl, h2, h3⟩ := h1
      exact ⟨l, ys, rfl, .inr (SqT.of (ex _ _ h2)), fun w hw => q _ _ _ (Gr.new ex hw) (da_new_lst ex hw h3)⟩⟩
theorem tF_of {f : Bf} {σ : St} {H : Hp} {Q : VK} (h : tD p (.blt f xs) σ H Q) : tCB (rF (bfS f)) (tDs p xs) σ H Q := by
  obtain ⟨H0, Hd0, ρ, Hd, S, q⟩ := h
  simp only [ev] at q
  refine tR_bnd S q fun ds vs H1 Hd1 S1 g1 hd _ q1 => ?_
  obtain ⟨z, hz, q2⟩ := q1.ofO'
  exact ⟨Hd1, ds, z, S1.ex, hd, hz, fun v H' Hd' g h => q2 v H' Hd' g h⟩
theorem dE_bltB {f : Bf} {x : Str} {id : String} (h : CallR X (.builtin id) (rF (bfS f))) (hg : Gl X x) (hm : X.mg x = none) (hv : bootBuiltins x = some (.builtin id)) (ha : PA X (e :: es) (tDs p xs)) (hn : x ≠ "__name__" := by decide) (hdb : (x == ("__debug__" : Str)) = false := by decide)
    (he : starEach (e :: es) X.env = (false, eval e X.env) :: starEach es X.env := by rfl) (hpl : (backTo pos (starEach es X.env)).any (·.1) = false := by rfl) : PE X (.Call (.Name x pp) (e :: es) [] pos) (tD p (.blt f xs)) :=
  peI (pe_callB h hg hm hv ha hn hdb he hpl) fun _ _ _ q => tF_of q
theorem dE_bltT {f : Bf} {x : Str} {id : String} (h : CallR X (.type id) (rF (bfS f))) (hg : Gl X x) (hm : X.mg x = none) (hv : bootBuiltins x = some (.type id)) (ha : PA X (e :: es) (tDs p xs)) (hn : x ≠ "__name__" := by decide) (hdb : (x == ("__debug__" : Str)) = false := by decide)
    (he : starEach (e :: es) X.env = (false, eval e X.env) :: starEach es X.env := by rfl) (hpl : (backTo pos (starEach es X.env)).any (·.1) = false := by rfl) : PE X (.Call (.Name x pp) (e :: es) [] pos) (tD p (.blt f xs)) :=
  peI (pe_callTy h hg hm hv ha hn hdb he hpl) fun _ _ _ q => tF_of q
/-! isinstance(x, T) -/
def Ty.nm : Ty → String
  | .int => "int"
  | .bool => "bool"
  | .tuple => "tuple"
  | .list => "list"
  | .str => "str"
def tyN : D → String
  | .none => "NoneType"
  | .bool _ => "bool"
  | .int _ => "int"
  | .str _ => "str"
  | .list _ => "list"
  | .tuple _ => "tuple"
  | .dict _ => "dict"
theorem tyS_kit {t : Ty} {d z : D} (h : tyS t d = some z) : ∃ k, z = .bool k ∧ kitB (tyN d) t.nm = some k := by
  cases t <;> cases d <;> simp only [tyS] at h <;> cases h <;> exact ⟨_, rfl, by dsimp only [tyN, Ty.nm]; decide +kernel⟩
theorem tyX_of {K : PySem.W.Frag} {H : Hp} {t : Ty} {d z : D} {v : V} (h : Da H d v) (ht : tyS t d = some z) : TyX K H v (.type (tyN d)) := by
  cases d <;> simp only [Da] at h
  · subst h; exact .base .non
  · subst h; exact .base (.bl _)
  · subst h; exact .base (.int _)
  · subst h; exact .base (.str _)
  · obtain ⟨a, xs, rfl, h1, _⟩ := h; exact .base (.lst h1)
  · obtain ⟨a, xs, rfl, h1, _⟩ := h; exact .base (.tup h1)
  · cases t <;> simp only [tyS] at ht <;> cases ht
theorem dE_isi {t : Ty} {y : Str} {p2 : Pos} (hg : Gl X "isinstance") (hm : X.mg "isinstance" = none) (hg2 : Gl X y) (hm2 : X.mg y = none) (hy : bootBuiltins y = some (.type t.nm)) (ha : PE X e (tD p ea)) (hny : y ≠ "__name__" := by decide) (hdy : (y == ("__debug__" : Str)) = false := by decide)
    (he2 : starEach [.Name y p2] X.env = [(false, eval (.Name y p2) X.env)] := by rfl) (he : starEach [e, .Name y p2] X.env = (false, eval e X.env) :: starEach [.Name y p2] X.env := by rfl) (hpl : (backTo pos (starEach [.Name y p2] X.env)).any (·.1) = false := by rfl) :
    PE X (.Call (.Name "isinstance" pp) [e, .Name y p2] [] pos) (tD p (.blt (.isi t) (.cons ea .nil))) :=
  peI (pe_callB call_isi hg hm (by decide +kernel) (pa_cons ha (pa_cons (pe_bltn (v := .ty t.nm) hg2 hm2 hy rfl hny hdy) pa_nil he2) he) (by decide) (by decide) he hpl) fun σ H Q ⟨H0, Hd0, ρ, Hd, S, q⟩ => by
    simp only [ev, evs, R.assoc] at q
    refine tR_bnd S q fun d v H1 Hd1 S1 g1 hd _ q1 => ?_
    obtain ⟨z, hz, q2⟩ := (show Ct Da p.mg p.W σ H1 Hd1 (ofO (bfS (.isi t) [d])) Q from q1).ofO'
    have hz : tyS t d = some z := by
      cases t <;> exact hz
    obtain ⟨k, rfl, hk⟩ := tyS_kit hz
    exact ⟨v, .ty t.nm, .type (tyN d), .type t.nm, k, rfl, .ty _, tyX_of (Da.ext S1.ex _ _ hd) hz, kit_ty hk, q2.here S1.ex (by simp only [Da])⟩
/-! ### own defs -/
def spD (cal : Str → List D → R D) (mg : Str → Option Value) (f : Str) (n : Nat) : Sp := fun vs H Q E => vs.length = n ∧ ∃ Hd ds, Ext Hd H ∧ DaAll Hd ds vs ∧ match cal f ds with
  | .bad => False
  | .exc c => ∀ H', Ext H H' → E (exv mg c) none H'
  | .val d => ∀ v H' Hd', Gr H Hd H' Hd' → Da Hd' d v → Q v H'
/-- the def f is there and keeps its promise, k deep -/
def Fn (P : Program) (w : World) (K : PySem.W.Frag) (mg : Str → Option Value) (base : Heap) (cal : Str → List D → R D) (k : Nat) (f : Str) (n : Nat) : Prop :=
  ∃ fa fd ps, FnOk P w K mg base (L2.CX P w) k fa fd ps (spD cal mg f n) ∧ mg f = some (.ref fa) ∧ PySem.W.keepIn K (.ref fa) = true ∧ Binds K fd ps []
def Es.len : Es → Nat
  | .nil => 0
  | .cons _ r => r.len + 1
theorem evs_len {cal : Str → List D → R D} : ∀ {xs : Es} {ρ : Rho} {ds : List D}, evs cal xs ρ = .val ds → ds.length = xs.len
  | .nil, ρ, ds, h => by simp only [evs] at h; cases h; rfl
  | .cons e r, ρ, ds, h => by
    simp only [evs] at h
    cases h1 : ev cal e ρ with
    | bad => rw [h1] at h; cases h
    | exc c => rw [h1] at h; cases h
    | val d =>
      rw [h1] at h
      simp only [R.bnd_val] at h
      cases h2 : evs cal r ρ with
      | bad => rw [h2] at h; cases h
      | exc c => rw [h2] at h; cases h
      | val es =>
        rw [h2] at h
        cases h
        simp [Es.len, evs_len h2]
theorem Gr.keep {H Hd H' : Hp} (ex : Ext Hd H) (e : Ext H H') : Gr H Hd H' Hd := ⟨e, Ext.rfl', ex.trans e, fun _ h _ => h⟩
theorem dE_call {f : Str} {k n : Nat} (hF : Fn X.prog X.w X.K X.mg X.base p.cal k f n) (hpm : p.mg = X.mg) (hr : Room k X.A) (tk : Takes X p.W) (hg : Gl X f) (ha : PA X (e :: es) (tDs p xs)) (hn : xs.len = n := by rfl) (hdb : (f == ("__debug__" : Str)) = false := by decide)
    (he : starEach (e :: es) X.env = (false, eval e X.env) :: starEach es X.env := by rfl) (hpl : (backTo pos (starEach es X.env)).any (·.1) = false := by rfl) : PE X (.Call (.Name f pp) (e :: es) [] pos) (tD p (.call f xs)) := by
  obtain ⟨fa, fd, ps, F, hm, hk, hb⟩ := hF
  refine peI (pe_callS (E := WE p.W) F hr hg hm hk hb (fun σ => passAt tk σ) ha hdb he hpl) fun σ H Q ⟨H0, Hd0, ρ, Hd, S, q⟩ => ?_
  simp only [ev] at q
  refine tR_bnd S q fun ds vs H1 Hd1 S1 g1 hd hev q1 => ?_
  refine ⟨by rw [hd.len, evs_len hev]; exact hn, Hd1, ds, S1.ex, hd, ?_⟩
  rw [hpm] at q1
  cases hc : p.cal f ds with
  | bad => rw [hc] at q1; exact q1
  | exc c =>
    rw [hc] at q1
    exact fun H' ex => q1 H' Hd1 (Gr.keep S1.ex ex)
  | val d =>
    rw [hc] at q1
    exact q1
theorem dE_neg (ha : PE X a (tD p ea)) : PE X (.UnaryOp .USub a pos) (tD p (.neg ea)) := peI (pe_un un_neg ha) fun σ H Q ⟨H0, Hd0, ρ, Hd, S, q⟩ => by
  simp only [ev] at q
  refine tR_bnd S q fun d v H1 Hd1 S1 g1 hd _ q1 => ?_
  obtain ⟨z, hz, q2⟩ := q1.ofO'
  cases d <;> simp only [negS] at hz <;> cases hz
  simp only [Da] at hd
  exact ⟨_, hd, q2.here S1.ex (by simp only [Da])⟩
end
/-! ### borrowed lists -/
/-- the data with the own lists -/
def owned (σ : St) (ρ : Rho) (a : Addr) : Prop := ∃ (i : Nat) (ds : List D), ρ[i]? = some (some (.own ds)) ∧ σ[i]? = some (some (.ref a))
open Classical in
noncomputable def Hdp (Hd H : Hp) (P : Addr → Prop) : Hp := fun a => if P a then H a else Hd a
theorem Stt.frz {H0 Hd0 Hd H : Hp} {σ : St} {ρ : Rho} (S : Stt H0 Hd0 Hd H σ ρ) : Stt H0 Hd0 (Hdp Hd H (owned σ ρ)) H σ (frzAll ρ) ∧ Ext Hd (Hdp Hd H (owned σ ρ)) := by
  have e1 : Ext Hd (Hdp Hd H (owned σ ρ)) := fun a o h => by
    unfold Hdp
    by_cases hp : owned σ ρ a
    · rw [if_pos hp]; exact S.ex a o h
    · rw [if_neg hp]; exact h
  have e2 : Ext (Hdp Hd H (owned σ ρ)) H := fun a o h => by
    unfold Hdp at h
    by_cases hp : owned σ ρ a
    · rw [if_pos hp] at h; exact h
    · rw [if_neg hp] at h; exact S.ex a o h
  refine ⟨⟨e2, ⟨S.gr.a, S.gr.d.trans e1, e2, fun q h1 h2 => ?_⟩, ?_, fun i s h => ?_, fun i j ds es v h1 => ?_⟩, e1⟩
  · unfold Hdp
    by_cases hp : owned σ ρ q
    · obtain ⟨i, ds, h3, h4⟩ := hp
      obtain ⟨v, h5, p, vs, h6, h7, _⟩ := S.ok i _ h3
      rw [h4] at h5
      cases h5
      cases h6
      exact absurd h7 h2
    · rw [if_neg hp]; exact S.gr.n q h1 h2
  · unfold frzAll; rw [List.length_map]; exact S.len
  · unfold frzAll at h
    rw [List.getElem?_map] at h
    cases hr : ρ[i]? with
    | none => rw [hr] at h; cases h
    | some o =>
      rw [hr] at h
      have h : frzS o = some s := by simpa using h
      cases o with
      | none => cases h
      | some t =>
        obtain ⟨v, h1, h2⟩ := S.ok i t hr
        refine ⟨v, h1, ?_⟩
        cases t with
        | dat d => cases h; exact Da.ext e1 d v h2
        | own ds =>
          cases h
          obtain ⟨p, vs, rfl, h4, h5, h6, h7⟩ := h2
          show Da _ (.list ds) _
          simp only [Da]
          refine ⟨p, vs, rfl, ?_, DaAll.ext e1 ds vs h7⟩
          unfold Hdp
          rw [if_pos ⟨i, ds, hr, h1⟩]
          exact h6
  · unfold frzAll at h1
    rw [List.getElem?_map] at h1
    cases hr : ρ[i]? with
    | none => rw [hr] at h1; cases h1
    | some o =>
      rw [hr] at h1
      have h : frzS o = some (.own ds) := by simpa using h1
      cases o with
      | none => cases h
      | some t => cases t <;> cases h
theorem dE_bor {X : Cx} {p : Pr} {e : Expr} {ex : Ex} (h : PE X e (tD p ex)) : PE X e (tD p (.bor ex)) := peI h fun σ H Q ⟨H0, Hd0, ρ, Hd, S, q⟩ => by
  simp only [ev] at q
  obtain ⟨S', e1⟩ := S.frz
  refine ⟨H0, Hd0, frzAll ρ, _, S', ?_⟩
  cases hx : ev p.cal ex (frzAll ρ) with
  | bad => rw [hx] at q; exact q
  | exc c =>
    rw [hx] at q
    exact fun H' Hd' g => q H' Hd (Gr.keep S.ex g.a)
  | val d =>
    rw [hx] at q
    simp only [R.bnd_val] at q
    split at q
    · rename_i hs
      exact fun v H' Hd' g hv => q v H' Hd (Gr.keep S.ex g.a) (Da.scal hv hs)
    · exact q.elim
end Mp

set_option Elab.async false
set_option linter.all false
set_option maxRecDepth 100000
set_option maxHeartbeats 4000000
namespace Mp
open PySem L2
open PyProof.Rows hiding St
variable [KF]
/-! ### what is walked -/
/-- J walks the data xs while the data Hd stand -/
structure Wk (Hd : Hp) (xs : List D) (J : L2.It) : Prop where
  go : ∀ i H, i < xs.length → Ext Hd H → J.go i H
  stop : ∀ H, Ext Hd H → J.stop xs.length H
  yld : ∀ i H x H' Hc, i < xs.length → Ext Hd Hc → Ext Hc H → J.yld i H x H' → ∃ d Hc', xs[i]? = some d ∧ Gr H Hc H' Hc' ∧ Da Hc' d x
abbrev tDi (p : Pr) (it : It) : TI := tR Wk p (evi p.cal it)
theorem wk_list {K : PySem.W.Frag} {Hd : Hp} {ds : List D} {xs : List V} {a : Addr} (h : Hd a = some (.lst xs)) (hd : DaAll Hd ds xs) : Wk Hd ds (Itl K a) := by
  have hl := hd.len
  refine ⟨fun i H hi e => ⟨xs, xs[i]'(by omega), SqL.of (e _ _ h), List.getElem?_eq_getElem (by omega)⟩, fun H e => ⟨xs, SqL.of (e _ _ h), by omega⟩, fun i H x H' Hc hi e1 e2 ⟨q1, q2⟩ => ?_⟩
  subst q1
  have hx := q2 xs (SqL.of (e2 _ _ (e1 _ _ h)))
  obtain ⟨d, hd1, hd2⟩ := hd.get' hx
  exact ⟨d, Hc, hd1, Gr.refl e2, Da.ext e1 _ _ hd2⟩
theorem wk_tup {K : PySem.W.Frag} {Hd : Hp} {ds : List D} {xs : List V} {a : Addr} (h : Hd a = some (.tup xs)) (hd : DaAll Hd ds xs) : Wk Hd ds (Itt K a) := by
  have hl := hd.len
  refine ⟨fun i H hi e => ⟨xs, xs[i]'(by omega), SqT.of (e _ _ h), List.getElem?_eq_getElem (by omega)⟩, fun H e => ⟨xs, SqT.of (e _ _ h), by omega⟩, fun i H x H' Hc hi e1 e2 ⟨q1, q2⟩ => ?_⟩
  subst q1
  have hx := q2 xs (SqT.of (e2 _ _ (e1 _ _ h)))
  obtain ⟨d, hd1, hd2⟩ := hd.get' hx
  exact ⟨d, Hc, hd1, Gr.refl e2, Da.ext e1 _ _ hd2⟩
theorem wk_rng {Hd : Hp} {lo : Int} {n : Nat} : Wk Hd (rngX lo n) (Itr lo n) := by
  have hl : (rngX lo n).length = n := by simp [rngX]
  refine ⟨fun i H hi e => by rw [hl] at hi; exact hi, fun H e => Nat.le_of_eq hl.symm, fun i H x H' Hc hi e1 e2 ⟨q1, q2⟩ => ?_⟩
  subst q1 q2
  rw [hl] at hi
  exact ⟨.int (lo + i), Hc, by simp [rngX, hi], Gr.refl e2, by simp only [Da]⟩
theorem pairsX_get : ∀ {xs ys : List D} {i : Nat} {x y : D}, xs[i]? = some x → ys[i]? = some y → (pairsX xs ys)[i]? = some (.tuple [x, y])
  | x0 :: xs, y0 :: ys, 0, x, y, h1, h2 => by simp at h1 h2; subst h1 h2; rfl
  | x0 :: xs, y0 :: ys, i + 1, x, y, h1, h2 => by
    show (pairsX xs ys)[i]? = _
    exact pairsX_get (by simpa using h1) (by simpa using h2)
  | [], _, _, _, _, h1, _ => by simp at h1
  | _ :: _, [], _, _, _, _, h2 => by simp at h2
theorem pairsX_len : ∀ (xs ys : List D), (pairsX xs ys).length = min xs.length ys.length
  | x :: xs, y :: ys => by simp [pairsX, pairsX_len xs ys]
  | [], _ => by simp [pairsX]
  | _ :: _, [] => by simp [pairsX]
theorem wk_zip {K : PySem.W.Frag} {Hd : Hp} {ds es : List D} {xs ys : List V} {a b : Addr} (h1 : Hd a = some (.lst xs)) (h2 : Hd b = some (.lst ys)) (hd : DaAll Hd ds xs) (he : DaAll Hd es ys) : Wk Hd (pairsX ds es) (Itz K a b) := by
  have l1 := hd.len
  have l2 := he.len
  have l3 := pairsX_len ds es
  refine ⟨fun i H hi e => ⟨xs, ys, xs[i]'(by omega), ys[i]'(by omega), SqL.of (e _ _ h1), SqL.of (e _ _ h2), List.getElem?_eq_getElem (by omega), List.getElem?_eq_getElem (by omega)⟩, fun H e => ⟨xs, ys, SqL.of (e _ _ h1), SqL.of (e _ _ h2), by omega⟩, fun i H v H' Hc hi e1 e2 ⟨T, x, y, q1, q2, q3, q4, q5⟩ => ?_⟩
  obtain ⟨d, hd1, hd2⟩ := hd.get' (q4 xs (SqL.of (e2 _ _ (e1 _ _ h1))))
  obtain ⟨e, he1, he2⟩ := he.get' (q5 ys (SqL.of (e2 _ _ (e1 _ _ h2))))
  subst q1 q3
  exact ⟨.tuple [d, e], _, pairsX_get hd1 he1, Gr.new e2 q2, da_new_tup e2 q2 (DaAll.cons (Da.ext e1 _ _ hd2) (DaAll.cons (Da.ext e1 _ _ he2) DaAll.nil))⟩
theorem wk_zipT {K : PySem.W.Frag} {Hd : Hp} {ds es : List D} {xs ys : List V} {a b : Addr} (h1 : Hd a = some (.tup xs)) (h2 : Hd b = some (.tup ys)) (hd : DaAll Hd ds xs) (he : DaAll Hd es ys) : Wk Hd (pairsX ds es) (RZ.ItzT K a b) := by
  have l1 := hd.len
  have l2 := he.len
  have l3 := pairsX_len ds es
  refine ⟨fun i H hi e => ⟨xs, ys, xs[i]'(by omega), ys[i]'(by omega), SqT.of (e _ _ h1), SqT.of (e _ _ h2), List.getElem?_eq_getElem (by omega), List.getElem?_eq_getElem (by omega)⟩, fun H e => ⟨xs, ys, SqT.of (e _ _ h1), SqT.of (e _ _ h2), by omega⟩, fun i H v H' Hc hi e1 e2 ⟨T, x, y, q1, q2, q3, q4, q5⟩ => ?_⟩
  obtain ⟨d, hd1, hd2⟩ := hd.get' (q4 xs (SqT.of (e2 _ _ (e1 _ _ h1))))
  obtain ⟨e, he1, he2⟩ := he.get' (q5 ys (SqT.of (e2 _ _ (e1 _ _ h2))))
  subst q1 q3
  exact ⟨.tuple [d, e], _, pairsX_get hd1 he1, Gr.new e2 q2, da_new_tup e2 q2 (DaAll.cons (Da.ext e1 _ _ hd2) (DaAll.cons (Da.ext e1 _ _ he2) DaAll.nil))⟩
theorem enumX_get : ∀ {xs : List D} {n i : Nat} {x : D}, xs[i]? = some x → (enumX n xs)[i]? = some (.tuple [.int ((n + i : Nat) : Int), x])
  | x0 :: xs, n, 0, x, h => by simp at h; subst h; rfl
  | x0 :: xs, n, i + 1, x, h => by
    show (enumX (n + 1) xs)[i]? = _
    rw [enumX_get (n := n + 1) (by simpa using h), show n + 1 + i = n + (i + 1) by omega]
  | [], _, _, _, h => by simp at h
theorem enumX_len : ∀ (n : Nat) (xs : List D), (enumX n xs).length = xs.length
  | _, [] => rfl
  | n, x :: xs => by simp [enumX, enumX_len (n + 1) xs]
theorem wk_enum {K : PySem.W.Frag} {Hd : Hp} {ds : List D} {xs : List V} {a : Addr} (h : Hd a = some (.lst xs)) (hd : DaAll Hd ds xs) : Wk Hd (enumX 0 ds) (Ite K a) := by
  have l1 := hd.len
  have l2 := enumX_len 0 ds
  refine ⟨fun i H hi e => ⟨xs, xs[i]'(by omega), SqL.of (e _ _ h), List.getElem?_eq_getElem (by omega)⟩, fun H e => ⟨xs, SqL.of (e _ _ h), by omega⟩, fun i H v H' Hc hi e1 e2 ⟨T, x, q1, q2, q3, q4⟩ => ?_⟩
  obtain ⟨d, hd1, hd2⟩ := hd.get' (q4 xs (SqL.of (e2 _ _ (e1 _ _ h))))
  subst q1 q3
  refine ⟨.tuple [.int ((0 + i : Nat) : Int), d], _, enumX_get hd1, Gr.new e2 q2, ?_⟩
  rw [Nat.zero_add]
  exact da_new_tup e2 q2 (DaAll.cons (by simp only [Da]) (DaAll.cons (Da.ext e1 _ _ hd2) DaAll.nil))
section
variable {X : Cx} {p : Pr} {a b l tg : Expr} {ea eb : Ex} {pos pp tpos : Pos} {elts : List Expr} {kk : Nat}
/-- a list or a tuple -/
def iSeqA (K : PySem.W.Frag) (tl : TE) : TI := fun σ H R => tl σ H fun x H1 => ∃ a xs, x = .ref a ∧ ((SqL K H1 a xs ∧ R (Itl K a) H1) ∨ (SqT K H1 a xs ∧ R (Itt K a) H1))
theorem pi_seqA {tl : TE} (hl : PE X l tl) : PI X tg l (iSeqA X.K tl) := by
  refine ⟨fun pins s σ H R I h => thn (hl.run pins s σ H _ I h) fun v s1 ⟨x, H1, I1, r1, c, xs, e, q⟩ => ?_⟩
  subst e
  cases r1
  have new : ∀ d, d ∈ [s1.heap.objs.size] → FpOk X pins H1 d := fun d hb => by
    have e : d = s1.heap.objs.size := by simpa using hb
    subst e
    exact I1.fpOk (Nat.le_refl _) (I1.hok.fresh (Nat.le_refl _))
  rcases q with ⟨hq, q⟩ | ⟨hq, q⟩
  · obtain ⟨its, rv, pl, hz⟩ := I1.list hq
    exact wpAny_pyIter_list pl.isList ⟨s1.heap.objs.size, [s1.heap.objs.size], _, _, H1, rfl, I1.kept (t' := s1.toks) fun b o e => Heap.get?_push_of_some _ e, turn_list c _, ⟨_, Heap.get?_push_size _ rfl, rfl, rfl⟩, new, q⟩
  · obtain ⟨its, rv, pl, hz⟩ := I1.tuple hq
    exact wpAny_pyIter_tuple (show s1.heap.IsTuple c its.toArray from pl) ⟨s1.heap.objs.size, [s1.heap.objs.size], _, _, H1, rfl, I1.kept (t' := s1.toks) fun b o e => Heap.get?_push_of_some _ e, turn_tuple c _, ⟨_, Heap.get?_push_size _ rfl, rfl, rfl⟩, new, q⟩
theorem dI_seq (h : PE X l (tD p ea)) : PI X tg l (tDi p (.seq ea)) := piI (pi_seqA h) fun σ H R ⟨H0, Hd0, ρ, Hd, S, q⟩ => by
  simp only [evi] at q
  refine tR_bnd S q fun d v H1 Hd1 S1 g1 hd _ q1 => ?_
  obtain ⟨z, hz, q2⟩ := q1.ofO'
  cases d <;> simp only [seqS] at hz <;> cases hz
  · simp only [Da] at hd
    obtain ⟨c, xs, rfl, h1, h2⟩ := hd
    exact ⟨c, xs, rfl, .inl ⟨SqL.of (S1.ex _ _ h1), q2.here S1.ex (wk_list h1 h2)⟩⟩
  · simp only [Da] at hd
    obtain ⟨c, xs, rfl, h1, h2⟩ := hd
    exact ⟨c, xs, rfl, .inr ⟨SqT.of (S1.ex _ _ h1), q2.here S1.ex (wk_tup h1 h2)⟩⟩
theorem dI_rng (hg : Gl X "range") (hm : X.mg "range" = none) (ha : PE X a (tD p ea)) (hs : starEach [a] X.env = [(false, eval a X.env)] := by rfl) : PI X tg (.Call (.Name "range" pp) [a] [] pos) (tDi p (.rng ea)) :=
  piI (pi_range1 hg hm (pa_cons ha pa_nil hs) hs) fun σ H R ⟨H0, Hd0, ρ, Hd, S, q⟩ => by
    simp only [evi] at q
    refine tR_bnd S q fun d v H1 Hd1 S1 g1 hd _ q1 => ?_
    obtain ⟨z, hz, q2⟩ := q1.ofO'
    cases d <;> simp only [rngS] at hz <;> try (cases hz)
    split at hz
    · rename_i hj
      cases hz
      have hj := of_decide_eq_true hj
      simp only [Da] at hd
      subst hd
      exact ⟨_, rfl, hj.1, hj.2, q2.here S1.ex wk_rng⟩
    · cases hz
theorem dI_rng2 (hg : Gl X "range") (hm : X.mg "range" = none) (ha : PE X a (tD p ea)) (hb : PE X b (tD p eb)) (hs : starEach [a, b] X.env = [(false, eval a X.env), (false, eval b X.env)] := by rfl) (hs2 : starEach [b] X.env = [(false, eval b X.env)] := by rfl) :
    PI X tg (.Call (.Name "range" pp) [a, b] [] pos) (tDi p (.rng2 ea eb)) :=
  piI (pi_range2 hg hm (pa_cons ha (pa_cons hb pa_nil hs2) (by rw [hs, hs2])) hs hs2) fun σ H R ⟨H0, Hd0, ρ, Hd, S, q⟩ => by
    simp only [evi] at q
    refine tR_bnd S q fun d v H1 Hd1 S1 g1 hd _ q1 => tR_bnd S1 q1 fun e w H2 Hd2 S2 g2 he _ q2 => ?_
    obtain ⟨z, hz, q3⟩ := q2.ofO'
    cases d <;> cases e <;> simp only [rng2S] at hz <;> try (cases hz)
    split at hz
    · rename_i hj
      cases hz
      rw [Bool.and_eq_true] at hj
      have h1 := of_decide_eq_true hj.1
      have h2 := of_decide_eq_true hj.2
      simp only [Da] at hd he
      subst hd he
      exact ⟨_, _, rfl, ⟨h1.1, h1.2, h2.1, h2.2⟩, q3.here S2.ex wk_rng⟩
    · cases hz
theorem dI_zip (hg : Gl X "zip") (hm : X.mg "zip" = none) (ha : PE X a (tD p ea)) (hb : PE X b (tD p eb)) (hs : starEach [a, b] X.env = (false, eval a X.env) :: starEach [b] X.env := by rfl) (hs2 : starEach [b] X.env = [(false, eval b X.env)] := by rfl)
    (hpl : (backTo pos (starEach [b] X.env)).any (·.1) = false := by rfl) : PI X (.Tuple elts kk tpos) (.Call (.Name "zip" pp) [a, b] [] pos) (tDi p (.zip ea eb)) :=
  piI (RZ.pi_zipA hg hm (pa_cons ha (pa_cons hb pa_nil hs2) hs) hs hpl) fun σ H R ⟨H0, Hd0, ρ, Hd, S, q⟩ => by
    simp only [evi] at q
    refine tR_bnd S q fun d v H1 Hd1 S1 g1 hd _ q1 => tR_bnd S1 q1 fun e w H2 Hd2 S2 g2 he _ q2 => ?_
    obtain ⟨z, hz, q3⟩ := q2.ofO'
    have hd := Da.ext g2.d _ _ hd
    cases d <;> cases e <;> simp only [zipS] at hz <;> cases hz
    · simp only [Da] at hd he
      obtain ⟨l, xs, rfl, h1, h2⟩ := hd
      obtain ⟨m, ys, rfl, h3, h4⟩ := he
      exact ⟨l, m, xs, ys, rfl, .inl ⟨SqL.of (S2.ex _ _ h1), SqL.of (S2.ex _ _ h3), q3.here S2.ex (wk_zip h1 h3 h2 h4)⟩⟩
    · simp only [Da] at hd he
      obtain ⟨l, xs, rfl, h1, h2⟩ := hd
      obtain ⟨m, ys, rfl, h3, h4⟩ := he
      exact ⟨l, m, xs, ys, rfl, .inr ⟨SqT.of (S2.ex _ _ h1), SqT.of (S2.ex _ _ h3), q3.here S2.ex (wk_zipT h1 h3 h2 h4)⟩⟩
theorem dI_enum (hg : Gl X "enumerate") (hm : X.mg "enumerate" = none) (ha : PE X a (tD p ea)) (hs : starEach [a] X.env = [(false, eval a X.env)] := by rfl) : PI X (.Tuple elts kk tpos) (.Call (.Name "enumerate" pp) [a] [] pos) (tDi p (.enum ea)) :=
  piI (pi_enum hg hm (pa_cons ha pa_nil hs) hs) fun σ H R ⟨H0, Hd0, ρ, Hd, S, q⟩ => by
    simp only [evi] at q
    refine tR_bnd S q fun d v H1 Hd1 S1 g1 hd _ q1 => ?_
    obtain ⟨z, hz, q2⟩ := q1.ofO'
    cases d <;> simp only [enumS] at hz <;> cases hz
    simp only [Da] at hd
    obtain ⟨c, xs, rfl, h1, h2⟩ := hd
    exact ⟨c, xs, rfl, SqL.of (S1.ex _ _ h1), q2.here S1.ex (wk_enum h1 h2)⟩
end
/-! ### targets -/
mutual
def Tg.sl : Tg → List Nat
  | .nm i => [i]
  | .tp ts => ts.sl
def Tgs.sl : Tgs → List Nat
  | .nil => []
  | .cons t ts => t.sl ++ ts.sl
end
def tG (t : Tg) : TG := fun v σ H Q => ∃ H0 Hd0 ρ Hd d ρ', Stt H0 Hd0 Hd H σ ρ ∧ Da Hd d v ∧ asgT t d ρ = some ρ' ∧ ∀ σ', Stt H0 Hd0 Hd H σ' ρ' → (∀ i, i ∉ t.sl → σ'[i]? = σ[i]?) → Q σ' H
def tGs (t : Tgs) : TGs := fun vs σ H Q => ∃ H0 Hd0 ρ Hd ds ρ', Stt H0 Hd0 Hd H σ ρ ∧ DaAll Hd ds vs ∧ asgTs t ds ρ = some ρ' ∧ ∀ σ', Stt H0 Hd0 Hd H σ' ρ' → (∀ i, i ∉ t.sl → σ'[i]? = σ[i]?) → Q σ' H
section
variable {X : Cx} {e : Expr} {es : List Expr} {pos : Pos} {t : Tg} {ts : Tgs}
theorem pgI {t t' : TG} (h : PG X e t) (i : ∀ v σ H Q, t' v σ H Q → t v σ H Q) : PG X e t' := ⟨fun pins s σ H v u Q I r q => h.run pins s σ H v u Q I r (i v σ H Q q)⟩
theorem pgsI {t t' : TGs} (h : PGs X es t) (i : ∀ v σ H Q, t' v σ H Q → t v σ H Q) : PGs X es t' := ⟨fun pins s σ H v u Q I r q => h.run pins s σ H v u Q I r (i v σ H Q q)⟩
theorem dG_nm {i : Nat} (h : PG X e (gName i)) : PG X e (tG (.nm i)) := pgI h fun v σ H Q ⟨H0, Hd0, ρ, Hd, d, ρ', S, hd, ha, q⟩ => by
  simp only [asgT] at ha
  split at ha
  · rename_i hi
    cases ha
    refine q _ (S.set hd hi) fun j hj => ?_
    rw [List.getElem?_set_ne (fun z => hj (by simp [Tg.sl, z]))]
  · cases ha
theorem asgTs_len : ∀ {ts : Tgs} {ds : List D} {ρ ρ' : Rho}, asgTs ts ds ρ = some ρ' → ds.length = ts.len
  | .nil, [], _, _, _ => rfl
  | .cons t ts, d :: ds, ρ, ρ', h => by
    simp only [asgTs] at h
    split at h
    · simp [Tgs.len, asgTs_len h]
    · cases h
  | .nil, _ :: _, _, _, h => by simp [asgTs] at h
  | .cons _ _, [], _, _, h => by simp [asgTs] at h
theorem dG_tp {k n : Nat} (hc : X.calm = true) (h : PGs X es (tGs ts)) (hl : ts.len = n := by rfl) (hn : (assignEach es X.env).length = n := by rfl) (hst : (assignEach es X.env).findIdx? (·.1) = none := by rfl) : PG X (.Tuple es k pos) (tG (.tp ts)) :=
  pgI (pg_tup hc h hn hst) fun v σ H Q ⟨H0, Hd0, ρ, Hd, d, ρ', S, hd, ha, q⟩ => by
    cases d <;> simp only [asgT] at ha <;> try (cases ha)
    rename_i ds
    simp only [Da] at hd
    obtain ⟨a, xs, rfl, h1, h2⟩ := hd
    exact ⟨a, xs, rfl, SqT.of (S.ex _ _ h1), by rw [h2.len, asgTs_len ha]; exact hl, H0, Hd0, ρ, Hd, ds, ρ', S, h2, ha, q⟩
theorem dGs_nil : PGs X [] (tGs .nil) := pgsI pgs_nil fun v σ H Q ⟨H0, Hd0, ρ, Hd, ds, ρ', S, hd, ha, q⟩ => by
  cases ds with
  | cons d ds => simp [asgTs] at ha
  | nil =>
    simp only [asgTs] at ha
    cases ha
    simp only [DaAll] at hd
    exact ⟨hd, q σ S fun _ _ => rfl⟩
theorem dGs_cons (h1 : PG X e (tG t)) (h2 : PGs X es (tGs ts)) (hs : (assignEach (e :: es) X.env).map (·.2) = assign e X.env :: (assignEach es X.env).map (·.2) := by rfl) : PGs X (e :: es) (tGs (.cons t ts)) :=
  pgsI (pgs_cons h1 h2 hs) fun v σ H Q ⟨H0, Hd0, ρ, Hd, ds, ρ', S, hd, ha, q⟩ => by
    cases ds with
    | nil => simp [asgTs] at ha
    | cons d ds =>
      simp only [asgTs] at ha
      split at ha
      · rename_i ρ1 h3
        simp only [DaAll] at hd
        obtain ⟨w, r, rfl, h4, h5⟩ := hd
        refine ⟨w, r, rfl, H0, Hd0, ρ, Hd, d, ρ1, S, h4, h3, fun σ1 S1 o1 => ⟨H0, Hd0, ρ1, Hd, ds, ρ', S1, h5, ha, fun σ2 S2 o2 => q σ2 S2 fun i hi => ?_⟩⟩
        simp only [Tgs.sl, List.mem_append, not_or] at hi
        rw [o2 i hi.2, o1 i hi.1]
      · cases ha
end
end Mp

set_option Elab.async false
set_option linter.all false
set_option maxRecDepth 100000
set_option maxHeartbeats 4000000
namespace Mp
open PySem L2
open PyProof.Rows hiding St
variable [KF]
/-! ### comprehensions -/
abbrev Pr.nox (p : Pr) : Pr := { p with W := fun _ _ _ _ => False }
theorem wipe_eq {σ σ2 : St} (hl : σ2.length = σ.length) : ∀ {vs : List Nat}, (∀ i, i ∉ vs → σ2[i]? = σ[i]?) → wipe σ2 vs = wipe σ vs := by
  intro vs h
  apply List.ext_getElem?
  intro i
  by_cases hi : i ∈ vs
  · by_cases hn : i < σ.length
    · have out : ∀ (σ : St) (vs : List Nat), i ∈ vs → i < σ.length → (wipe σ vs)[i]? = some none := by
        intro σ vs
        induction vs with
        | nil => intro h; simp at h
        | cons v vs ih =>
          intro hm hn
          unfold wipe
          by_cases hv : v = i
          · subst hv
            rw [List.getElem?_set_self (by rw [wipe_length]; exact hn)]
          · rw [List.getElem?_set_ne hv]
            refine ih ?_ hn
            rcases List.mem_cons.mp hm with z | z
            · exact absurd z.symm hv
            · exact z
      rw [out σ vs hi hn, out σ2 vs hi (by omega)]
    · rw [List.getElem?_eq_none (by rw [wipe_length]; omega), List.getElem?_eq_none (by rw [wipe_length]; omega)]
  · rw [wipe_out hi, wipe_out hi, h i hi]
theorem Gr.mut {H Hd H' Hd' : Hp} {q : Addr} {o : HO} (g : Gr H Hd H' Hd') (h : H q = none) (hd : Hd' q = none) : Gr H Hd (upd H' q o) Hd' :=
  ⟨fun a u ha => by rw [upd_ne (ne_of_none ha h)]; exact g.a a u ha, g.d, fun a u ha => by rw [upd_ne (ne_of_none ha hd)]; exact g.i a u ha, g.n⟩
theorem Gr.seal {H Hd H' Hd' : Hp} {q : Addr} {o : HO} (g : Gr H Hd H' Hd') (h : H q = none) (hd : Hd' q = none) (ho : H' q = some o) : Gr H Hd H' (upd Hd' q o) :=
  ⟨g.a, g.d.trans (Ext.new hd), fun a u ha => by
    by_cases hq : a = q
    · subst hq; rw [upd_same] at ha; cases ha; exact ho
    · rw [upd_ne hq] at ha; exact g.i a u ha, fun a h1 h2 => by
    rw [upd_ne (fun z => h2 (by rw [z]; exact h))]
    exact g.n a h1 h2⟩
theorem lcF_val {step : D → R (List D)} : ∀ {xs ys : List D}, lcF step xs = .val ys → ∀ i, i ≤ xs.length → ∃ r, lcF step (xs.drop i) = .val r
  | xs, ys, h, 0, _ => ⟨ys, by simpa using h⟩
  | [], ys, h, i + 1, hi => by simp at hi
  | x :: xs, ys, h, i + 1, hi => by
    simp only [lcF] at h
    cases hs : step x with
    | bad => rw [hs] at h; cases h
    | exc c => rw [hs] at h; cases h
    | val o =>
      rw [hs] at h
      simp only at h
      cases hr : lcF step xs with
      | bad => rw [hr] at h; cases h
      | exc c => rw [hr] at h; cases h
      | val r =>
        obtain ⟨r', h'⟩ := lcF_val hr i (by simpa using hi)
        exact ⟨r', by simpa using h'⟩
theorem lcF_cons {step : D → R (List D)} {x : D} {xs ys : List D} (h : lcF step (x :: xs) = .val ys) : ∃ o r, step x = .val o ∧ lcF step xs = .val r ∧ ys = o ++ r := by
  simp only [lcF] at h
  cases hs : step x with
  | bad => rw [hs] at h; cases h
  | exc c => rw [hs] at h; cases h
  | val o =>
    rw [hs] at h
    simp only at h
    cases hr : lcF step xs with
    | bad => rw [hr] at h; cases h
    | exc c => rw [hr] at h; cases h
    | val r =>
      rw [hr] at h
      cases h
      exact ⟨o, r, rfl, rfl, rfl⟩
mutual
theorem asgT_len : ∀ {t : Tg} {d : D} {ρ ρ' : Rho}, asgT t d ρ = some ρ' → ρ'.length = ρ.length
  | .nm i, d, ρ, ρ', h => by
    simp only [asgT] at h
    split at h
    · cases h; simp
    · cases h
  | .tp ts, d, ρ, ρ', h => by
    cases d <;> simp only [asgT] at h <;> try (cases h)
    exact asgTs_len2 h
theorem asgTs_len2 : ∀ {ts : Tgs} {ds : List D} {ρ ρ' : Rho}, asgTs ts ds ρ = some ρ' → ρ'.length = ρ.length
  | .nil, [], ρ, ρ', h => by simp only [asgTs] at h; cases h; rfl
  | .cons t ts, d :: ds, ρ, ρ', h => by
    simp only [asgTs] at h
    split at h
    · rename_i ρ1 h1
      rw [asgTs_len2 h, asgT_len h1]
    · cases h
  | .nil, _ :: _, _, _, h => by simp [asgTs] at h
  | .cons _ _, [], _, _, h => by simp [asgTs] at h
end
/-- a list that is being made at Dl -/
structure Mk1 (H1 Hd1 : Hp) (Dl : Addr) (zs : List D) (H : Hp) (Hd : Hp) : Prop where
  g : Gr H1 Hd1 H Hd
  n : Hd Dl = none
  v : ∃ vs, H Dl = some (.lst vs) ∧ DaAll Hd zs vs
theorem Mk1.grow {H1 Hd1 H Hd H' Hd' : Hp} {Dl : Addr} {zs : List D} (m : Mk1 H1 Hd1 Dl zs H Hd) (g : Gr H Hd H' Hd') : Mk1 H1 Hd1 Dl zs H' Hd' := by
  obtain ⟨vs, h1, h2⟩ := m.v
  exact ⟨m.g.trans g, g.n Dl m.n (by rw [h1]; simp), vs, g.a _ _ h1, DaAll.ext g.d _ _ h2⟩
theorem Mk1.push {H1 Hd1 H Hd : Hp} {Dl : Addr} {zs : List D} {d : D} {y : V} (m : Mk1 H1 Hd1 Dl zs H Hd) (hD : H1 Dl = none) (hy : Da Hd d y) (hl : (zs ++ [d]).length ≤ lim) : ∃ acc, H Dl = some (.lst acc) ∧ acc.length < sizeLine ∧ Mk1 H1 Hd1 Dl (zs ++ [d]) (upd H Dl (.lst (acc ++ [y]))) Hd := by
  obtain ⟨vs, h1, h2⟩ := m.v
  refine ⟨vs, h1, ?_, m.g.mut hD m.n, m.n, vs ++ [y], upd_same, h2.app (DaAll.cons hy DaAll.nil)⟩
  rw [h2.len]
  have := lim_line
  simp at hl
  omega
section
variable {X : Cx} {p : Pr} {elt tg iter : Expr} {ifs : List Expr} {scope : Scope} {own : List (Str × Nat)} {pos : Pos} {t : Tg} {it : It} {c : Eo} {e : Ex}
def lcStep (cal : Str → List D → R D) (t : Tg) (c : Eo) (e : Ex) (ρ : Rho) : D → R (List D) := fun x => match asgT t x ρ with
  | some ρ1 => (evt cal c ρ1).bnd fun k => match k with
    | true => (ev cal e ρ1).bnd fun d => .val [d]
    | false => .val []
  | none => .bad
theorem ev_lc {cal : Str → List D → R D} {vs : List Nat} {ρ : Rho} : ev cal (.lc t it c e vs) ρ = (evi cal it ρ).bnd fun xs => (lcF (lcStep cal t c e (wipeX ρ vs)) xs).bnd fun ds => ofO (mkL ds) := by
  simp only [ev]; rfl
theorem lcStep_val {cal : Str → List D → R D} {ρ : Rho} {x : D} {o : List D} (h : lcStep cal t c e ρ x = .val o) : ∃ ρ1 k, asgT t x ρ = some ρ1 ∧ evt cal c ρ1 = .val k ∧ (k = true → ∃ d, ev cal e ρ1 = .val d ∧ o = [d]) ∧ (k = false → o = []) := by
  unfold lcStep at h
  split at h
  · rename_i ρ1 h1
    cases hk : evt cal c ρ1 with
    | bad => rw [hk] at h; cases h
    | exc c => rw [hk] at h; cases h
    | val k =>
      rw [hk] at h
      simp only [R.bnd_val] at h
      refine ⟨ρ1, k, h1, hk, fun z => ?_, fun z => ?_⟩
      · subst z
        cases hd : ev cal e ρ1 with
        | bad => rw [hd] at h; cases h
        | exc c => rw [hd] at h; cases h
        | val d => rw [hd] at h; cases h; exact ⟨d, rfl, rfl⟩
      · subst z; cases h; rfl
  · cases h
/-- the turns, from the data; Qd what is wanted of the new list -/
theorem lc_turns {g : TG} {tt : TT} {te : TE} {vs : List Nat} {σ : St} {H0 Hd0 H1 Hd1 : Hp} {ρ : Rho} {J : L2.It} {xs ys : List D} {Q : VK} (hg : g = tG t) (htt : tt = tDc p.nox c) (hte : te = tD p.nox e) (ht : ∀ i ∈ t.sl, i ∈ vs)
    (S : Stt H0 Hd0 Hd1 H1 σ ρ) (wk : Wk Hd1 xs J) (hy : lcF (lcStep p.cal t c e (wipeX ρ vs)) xs = .val ys) (hl : ys.length ≤ lim) (q : ∀ Dl H Hd, H1 Dl = none → Mk1 H1 Hd1 Dl ys H Hd → Q (.ref Dl) H) :
    ∀ D, H1 D = none → ∃ W : Nat → Nat → Hp → Prop, (∃ m, W 0 m (upd H1 D (.lst []))) ∧ ∀ i m H, W i m H →
      (J.stop i H ∧ Q (.ref D) H) ∨ (J.go i H ∧ ∃ Nx : Hp → Prop, (∀ H', Nx H' → ∃ m', m' < m ∧ W (i + 1) m' H') ∧ ∀ x H', J.yld i H x H' → g x (wipe σ vs) H' fun σ2 H2 => wipe σ2 vs = wipe σ vs ∧ tt σ2 H2 fun b H3 =>
        if b = true then te σ2 H3 fun y H4 => ∃ acc, H4 D = some (.lst acc) ∧ acc.length < sizeLine ∧ Nx (upd H4 D (.lst (acc ++ [y]))) else Nx H3) := by
  subst hg htt hte
  intro D hD
  refine ⟨fun i m H => m = xs.length - i ∧ i ≤ xs.length ∧ ∃ Hd zs r, Mk1 H1 Hd1 D zs H Hd ∧ lcF (lcStep p.cal t c e (wipeX ρ vs)) (xs.drop i) = .val r ∧ ys = zs ++ r, ⟨xs.length, by simp, by simp, Hd1, [], ys, ⟨Gr.newO S.ex hD, S.ex.back hD, [], upd_same, DaAll.nil⟩, by simpa using hy, rfl⟩, ?_⟩
  rintro i m H ⟨rfl, hi, Hd, zs, r, M, hr, e1⟩
  by_cases hlt : i < xs.length
  · refine .inr ⟨wk.go i H hlt (M.g.d.trans M.g.i), fun H' => ∃ Hd' zs' r', Mk1 H1 Hd1 D zs' H' Hd' ∧ lcF (lcStep p.cal t c e (wipeX ρ vs)) (xs.drop (i + 1)) = .val r' ∧ ys = zs' ++ r', fun H' h' => ⟨xs.length - (i + 1), by omega, rfl, hlt, h'⟩, fun x H' hy' => ?_⟩
    obtain ⟨d, Hd', hd1, hd2, hd3⟩ := wk.yld i H x H' Hd hlt M.g.d M.g.i hy'
    have hdrop : xs.drop i = d :: xs.drop (i + 1) := by
      obtain ⟨hh, he⟩ := List.getElem?_eq_some_iff.mp hd1
      rw [List.drop_eq_getElem_cons hh, he]
    rw [hdrop] at hr
    obtain ⟨o, r', h1, h2, h3⟩ := lcF_cons hr
    obtain ⟨ρ1, k, h4, h5, h6, h7⟩ := lcStep_val h1
    have M1 := M.grow hd2
    have S1 : Stt H0 Hd0 Hd' H' (wipe σ vs) (wipeX ρ vs) := (S.grow M1.g).wipe vs
    refine ⟨H0, Hd0, wipeX ρ vs, Hd', d, ρ1, S1, hd3, h4, fun σ2 S2 off => ⟨?_, H0, Hd0, ρ1, Hd', S2, ?_⟩⟩
    · have l1 := S2.len
      have off2 : ∀ j, j ∉ vs → σ2[j]? = (wipe σ vs)[j]? := fun j hj => off j fun hz => hj (ht j hz)
      have w1 : wipe σ2 vs = wipe (wipe σ vs) vs := wipe_eq (by
        have a1 := S2.len
        have a2 := S1.len
        have a3 : ρ1.length = (wipeX ρ vs).length := by
          exact asgT_len h4
        omega) off2
      rw [w1]
      exact wipe_eq (wipe_length _ _) fun j hj => wipe_out hj
    · show Ct eqR p.nox.mg p.nox.W σ2 H' Hd' (evt p.cal c ρ1) _
      rw [h5]
      intro b H3 Hd3 g3 hb
      cases hb
      cases k with
      | true =>
        rw [if_pos rfl]
        obtain ⟨d2, h8, h9⟩ := h6 rfl
        refine ⟨H0, Hd0, ρ1, Hd3, S2.grow g3, ?_⟩
        show Ct Da p.nox.mg p.nox.W σ2 H3 Hd3 (ev p.cal e ρ1) _
        rw [h8]
        intro y H4 Hd4 g4 hy4
        have M4 := (M1.grow g3).grow g4
        subst h9
        have hlen : (zs ++ [d2]).length ≤ lim := by
          have : ys.length = (zs ++ ([d2] ++ r')).length := by rw [e1, h3]
          simp at this ⊢
          omega
        obtain ⟨acc, a1, a2, a3⟩ := M4.push hD hy4 hlen
        exact ⟨acc, a1, a2, Hd4, _, r', a3, h2, by rw [e1, h3]; simp⟩
      | false =>
        rw [if_neg Bool.false_ne_true]
        have h9 := h7 rfl
        subst h9
        exact ⟨Hd3, zs, r', M1.grow g3, h2, by rw [e1, h3]; simp⟩
  · have e0 : i = xs.length := by omega
    subst e0
    have hr' : r = [] := by
      rw [List.drop_length] at hr
      simp only [lcF] at hr
      cases hr; rfl
    subst hr'
    rw [List.append_nil] at e1
    subst e1
    exact .inl ⟨wk.stop H (M.g.d.trans M.g.i), q D H Hd hD M⟩
end
end Mp

set_option Elab.async false
set_option linter.all false
set_option maxRecDepth 100000
set_option maxHeartbeats 4000000
namespace Mp
open PySem L2
open PyProof.Rows hiding St
variable [KF]
/-! ### new lists, kept apart from the data -/
def Cn (mg : Str → Option Value) (W : WX) (σ : St) (H Hd : Hp) (r : R D) (Q : VK) : Prop := match r with
  | .val (.list ds) => ∀ q vs H' Hd', Gr H Hd H' Hd' → H q = none → Hd' q = none → H' q = some (.lst vs) → DaAll Hd' ds vs → Q (.ref q) H'
  | .exc c => ∀ H' Hd', Gr H Hd H' Hd' → W (exv mg c) none σ H'
  | _ => False
def tN (p : Pr) (e : Ex) : TE := fun σ H Q => ∃ H0 Hd0 ρ Hd, Stt H0 Hd0 Hd H σ ρ ∧ Cn p.mg p.W σ H Hd (ev p.cal e ρ) Q
section
variable {X : Cx} {p : Pr} {a b elt tg iter : Expr} {ea eb : Ex} {ifs : List Expr} {scope : Scope} {own : List (Str × Nat)} {pos : Pos} {t : Tg} {it : It} {c : Eo} {e : Ex}
theorem tLc_of {vs : List Nat} {σ : St} {H : Hp} {Q : VK} (ht : ∀ i ∈ t.sl, i ∈ vs) (h : tD p (.lc t it c e vs) σ H Q) : tLc (tDi p it) (tG t) (tDc p.nox c) (tD p.nox e) vs σ H Q := by
  obtain ⟨H0, Hd0, ρ, Hd, S, q⟩ := h
  have q : Ct Da p.mg p.W σ H Hd (ev p.cal (.lc t it c e vs) ρ) Q := q
  rw [ev_lc] at q
  refine tR_bnd S q fun xs J H1 Hd1 S1 g1 wk _ q1 => ?_
  cases hy : lcF (lcStep p.cal t c e (wipeX ρ vs)) xs with
  | bad => rw [hy] at q1; exact q1.elim
  | exc k =>
    exfalso
    cases xs with
    | nil => simp [lcF] at hy
    | cons x xs =>
      simp only [lcF] at hy
      split at hy
      · split at hy <;> cases hy
      · cases hy
  | val ys =>
    rw [hy] at q1
    obtain ⟨z, hz, q2⟩ := (show Ct Da p.mg p.W σ H1 Hd1 (ofO (mkL ys)) Q from q1).ofO'
    unfold mkL at hz
    split at hz
    · rename_i hl
      cases hz
      refine lc_turns (p := p) rfl rfl rfl ht S1 wk hy hl fun Dl H2 Hd2 hD M => ?_
      obtain ⟨vs', h1, h2⟩ := M.v
      exact q2.next (M.g.seal hD M.n h1) (by simp only [Da]; exact ⟨Dl, vs', rfl, upd_same, DaAll.ext (Ext.new M.n) _ _ h2⟩)
    · cases hz
theorem tLc_ofN {vs : List Nat} {σ : St} {H : Hp} {Q : VK} (ht : ∀ i ∈ t.sl, i ∈ vs) (h : tN p (.lc t it c e vs) σ H Q) : tLc (tDi p it) (tG t) (tDc p.nox c) (tD p.nox e) vs σ H Q := by
  obtain ⟨H0, Hd0, ρ, Hd, S, q⟩ := h
  rw [ev_lc] at q
  refine ⟨H0, Hd0, ρ, Hd, S, ?_⟩
  cases hx : evi p.cal it ρ with
  | bad => rw [hx] at q; exact q.elim
  | exc k => rw [hx] at q; exact q
  | val xs =>
    rw [hx] at q
    simp only [R.bnd_val] at q
    intro J H1 Hd1 g1 wk
    cases hy : lcF (lcStep p.cal t c e (wipeX ρ vs)) xs with
    | bad => rw [hy] at q; exact q.elim
    | exc k =>
      exfalso
      cases xs with
      | nil => simp [lcF] at hy
      | cons x xs =>
        simp only [lcF] at hy
        split at hy
        · split at hy <;> cases hy
        · cases hy
    | val ys =>
      rw [hy] at q
      simp only [R.bnd_val] at q
      unfold mkL at q
      split at q
      · rename_i hl
        refine lc_turns (p := p) rfl rfl rfl ht (S.grow g1) wk hy hl fun Dl H2 Hd2 hD M => ?_
        obtain ⟨vs', h1, h2⟩ := M.v
        exact q Dl vs' H2 Hd2 (g1.trans M.g) (g1.a.back hD) M.n h1 h2
      · exact q.elim
theorem dT_non : PTs X [] (tDc p .non) := ptsI pts_nil fun σ H Q ⟨H0, Hd0, ρ, Hd, S, q⟩ => by
  have q : Ct eqR p.mg p.W σ H Hd (evt p.cal .non ρ) Q := q
  simp only [evt] at q
  exact q.here S.ex rfl
theorem dT_som (h : PT X a (tDt p ea)) : PTs X [a] (tDc p (.som ea)) := ptsI (pts_one h) fun σ H Q ⟨H0, Hd0, ρ, Hd, S, q⟩ => by
  have q : Ct eqR p.mg p.W σ H Hd (evt p.cal (.som ea) ρ) Q := q
  simp only [evt] at q
  exact ⟨H0, Hd0, ρ, Hd, S, q⟩
theorem dE_lc {vs : List Nat} (hc : X.calm = true) (hN : X.N.Nodup) (hi : PI X tg iter (tDi p it)) (ok : BlkOk X.N X.env.scope scope own)
    (hg : ∀ (s : Shared) (H : Hp) (C : Addr) (cl : List (Str × Addr)) (fp : List Addr), PG (X.blk s H scope (compEnvC scope cl C X.env) fp) tg (tG t)) (ht : ∀ (s : Shared) (H : Hp) (C : Addr) (cl : List (Str × Addr)) (fp : List Addr), PTs (X.blk s H scope (compEnvC scope cl C X.env) fp) ifs (tDc p.nox c))
    (he : ∀ (s : Shared) (H : Hp) (C : Addr) (cl : List (Str × Addr)) (fp : List Addr), PE (X.blk s H scope (compEnvC scope cl C X.env) fp) elt (tD p.nox e)) (hv : own.map (·.2) = vs := by rfl) (hsl : ∀ i ∈ t.sl, i ∈ vs := by decide) (hs : ∀ x, foldedSetIterable iter X.env x = pure x := by intro _; rfl) :
    PE X (.ListComp elt [⟨tg, iter, ifs, 0⟩] scope pos) (tD p (.lc t it c e vs)) := by
  subst hv
  exact peI (pe_lc hc hN hi ok hg ht he hs) fun σ H Q q => tLc_of hsl q
theorem dN_lc {vs : List Nat} (hc : X.calm = true) (hN : X.N.Nodup) (hi : PI X tg iter (tDi p it)) (ok : BlkOk X.N X.env.scope scope own)
    (hg : ∀ (s : Shared) (H : Hp) (C : Addr) (cl : List (Str × Addr)) (fp : List Addr), PG (X.blk s H scope (compEnvC scope cl C X.env) fp) tg (tG t)) (ht : ∀ (s : Shared) (H : Hp) (C : Addr) (cl : List (Str × Addr)) (fp : List Addr), PTs (X.blk s H scope (compEnvC scope cl C X.env) fp) ifs (tDc p.nox c))
    (he : ∀ (s : Shared) (H : Hp) (C : Addr) (cl : List (Str × Addr)) (fp : List Addr), PE (X.blk s H scope (compEnvC scope cl C X.env) fp) elt (tD p.nox e)) (hv : own.map (·.2) = vs := by rfl) (hsl : ∀ i ∈ t.sl, i ∈ vs := by decide) (hs : ∀ x, foldedSetIterable iter X.env x = pure x := by intro _; rfl) :
    PE X (.ListComp elt [⟨tg, iter, ifs, 0⟩] scope pos) (tN p (.lc t it c e vs)) := by
  subst hv
  exact peI (pe_lc hc hN hi ok hg ht he hs) fun σ H Q q => tLc_ofN hsl q
theorem dN_lst {es : List Expr} {xs : Es} (h : PA X es (tDs p xs)) : PE X (.List es pos) (tN p (.lst xs)) :=
  peI (pe_lst h) fun σ H Q ⟨H0, Hd0, ρ, Hd, S, q⟩ => by
    simp only [ev] at q
    refine ⟨H0, Hd0, ρ, Hd, S, ?_⟩
    show Ct DaAll p.mg p.W σ H Hd (evs p.cal xs ρ) _
    cases hx : evs p.cal xs ρ with
    | bad => rw [hx] at q; exact q.elim
    | exc k => rw [hx] at q; exact q
    | val ds =>
      rw [hx] at q
      intro vs H1 Hd1 g1 hd
      simp only [R.bnd_val] at q
      unfold mkL at q
      split at q
      · rename_i hl
        refine ⟨by rw [hd.len]; exact Nat.le_trans hl lim_line, fun w hw => q w vs _ Hd1 (g1.trans (Gr.newO g1.i hw)) (g1.a.back hw) (g1.i.back hw) upd_same hd⟩
      · exact q.elim
theorem dN_rep (ha : PE X a (tD p ea)) (hb : PE X b (tD p eb)) : PE X (.BinOp a .Mult b pos) (tN p (.bin .mul ea eb)) :=
  peI (pe_op op_rep ha hb) fun σ H Q ⟨H0, Hd0, ρ, Hd, S, q⟩ => by
    simp only [ev] at q
    refine ⟨H0, Hd0, ρ, Hd, S, ?_⟩
    show Ct Da p.mg p.W σ H Hd (ev p.cal ea ρ) _
    cases hx : ev p.cal ea ρ with
    | bad => rw [hx] at q; exact q.elim
    | exc k => rw [hx] at q; exact q
    | val d =>
      rw [hx] at q
      intro v H1 Hd1 g1 hd
      simp only [R.bnd_val] at q
      refine ⟨H0, Hd0, ρ, Hd1, S.grow g1, ?_⟩
      show Ct Da p.mg p.W σ H1 Hd1 (ev p.cal eb ρ) _
      cases hx2 : ev p.cal eb ρ with
      | bad => rw [hx2] at q; exact q.elim
      | exc k => rw [hx2] at q; exact fun H' Hd' g => q H' Hd' (g1.trans g)
      | val f =>
        rw [hx2] at q
        intro w H2 Hd2 g2 hf
        simp only [R.bnd_val, boS] at q
        cases d <;> cases f <;> simp only [mulS] at q <;> try exact q.elim
        all_goals try (exfalso; revert q; split <;> exact fun q => q.elim)
        split at q
        · rename_i hc
          have hd := Da.ext g2.d _ _ hd
          simp only [Da] at hd hf
          obtain ⟨l, xs, rfl, h1, h2⟩ := hd
          subst hf
          have hle := h2.len
          refine ⟨l, _, xs, rfl, rfl, g2.i _ _ h1, by omega, by omega, ?_, fun u hu => q u _ _ Hd2 ((g1.trans g2).trans (Gr.newO g2.i hu)) ((g1.trans g2).a.back hu) (g2.i.back hu) upd_same (h2.rep _)⟩
          rw [sizeLine_eq, hle]
          obtain ⟨c1, c2, c3⟩ := hc
          exact Nat.le_trans (Nat.mul_le_mul c2 (Int.toNat_le.mpr (show _ ≤ ((1000 : Nat) : Int) by omega))) (by decide)
        · exact q.elim
theorem dN_cat (ha : PE X a (tD p ea)) (hb : PE X b (tD p eb)) : PE X (.BinOp a .Add b pos) (tN p (.bin .add ea eb)) :=
  peI (pe_op op_cat ha hb) fun σ H Q ⟨H0, Hd0, ρ, Hd, S, q⟩ => by
    simp only [ev] at q
    refine ⟨H0, Hd0, ρ, Hd, S, ?_⟩
    show Ct Da p.mg p.W σ H Hd (ev p.cal ea ρ) _
    cases hx : ev p.cal ea ρ with
    | bad => rw [hx] at q; exact q.elim
    | exc k => rw [hx] at q; exact q
    | val d =>
      rw [hx] at q
      intro v H1 Hd1 g1 hd
      simp only [R.bnd_val] at q
      refine ⟨H0, Hd0, ρ, Hd1, S.grow g1, ?_⟩
      show Ct Da p.mg p.W σ H1 Hd1 (ev p.cal eb ρ) _
      cases hx2 : ev p.cal eb ρ with
      | bad => rw [hx2] at q; exact q.elim
      | exc k => rw [hx2] at q; exact fun H' Hd' g => q H' Hd' (g1.trans g)
      | val f =>
        rw [hx2] at q
        intro w H2 Hd2 g2 hf
        simp only [R.bnd_val, boS] at q
        cases d <;> cases f <;> simp only [addS] at q <;> try exact q.elim
        all_goals try (exfalso; revert q; split <;> exact fun q => q.elim)
        all_goals try (exfalso; revert q; unfold mkT; split <;> exact fun q => q.elim)
        unfold mkL at q
        split at q
        · rename_i hc
          have hd := Da.ext g2.d _ _ hd
          simp only [Da] at hd hf
          obtain ⟨l, xs, rfl, h1, h2⟩ := hd
          obtain ⟨m, ys, rfl, h3, h4⟩ := hf
          refine ⟨l, m, xs, ys, rfl, rfl, g2.i _ _ h1, g2.i _ _ h3, ?_, fun u hu => q u _ _ Hd2 ((g1.trans g2).trans (Gr.newO g2.i hu)) ((g1.trans g2).a.back hu) (g2.i.back hu) upd_same (h2.app h4)⟩
          rw [h2.len, h4.len]
          rw [List.length_append] at hc
          exact Nat.le_trans hc lim_line
        · exact q.elim
end
end Mp

set_option Elab.async false
set_option linter.all false
set_option maxRecDepth 100000
set_option maxHeartbeats 4000000
namespace Mp
open PySem L2
open PyProof.Rows hiding St
variable [KF]
/-! ### own lists: made, changed, sealed -/
theorem Stt.own {H0 Hd0 Hd H : Hp} {σ : St} {ρ : Rho} {i : Nat} {ds : List D} {q : Addr} {vs : List V} (S : Stt H0 Hd0 Hd H σ ρ) (hi : i < ρ.length) (h0 : H0 q = none) (hd : Hd q = none) (h : H q = some (.lst vs)) (ha : DaAll Hd ds vs)
    (hne : ∀ j es, ρ[j]? = some (some (.own es)) → j ≠ i → σ[j]? ≠ some (some (.ref q))) : Stt H0 Hd0 Hd H (σ.set i (some (.ref q))) (ρ.set i (some (.own ds))) := by
  have hl := S.len
  refine ⟨S.ex, S.gr, by simp [hl], fun j s hj => ?_, fun j k es fs w h1 h2 h3 h4 => ?_⟩
  · rcases get_set_cases hj with ⟨rfl, e⟩ | ⟨hn, e⟩
    · cases e
      exact ⟨.ref q, by rw [List.getElem?_set_self (by omega)], q, vs, rfl, h0, hd, h, ha⟩
    · obtain ⟨w, q1, q2⟩ := S.ok j s e
      exact ⟨w, by rw [List.getElem?_set_ne (Ne.symm hn)]; exact q1, q2⟩
  · rcases get_set_cases h1 with ⟨rfl, e⟩ | ⟨hn, e⟩
    · rcases get_set_cases h2 with ⟨rfl, e2⟩ | ⟨hn2, e2⟩
      · rfl
      · rw [List.getElem?_set_self (by omega)] at h3
        cases h3
        rw [List.getElem?_set_ne (Ne.symm hn2)] at h4
        exact absurd h4 (hne k fs e2 hn2)
    · rcases get_set_cases h2 with ⟨rfl, e2⟩ | ⟨hn2, e2⟩
      · rw [List.getElem?_set_self (by omega)] at h4
        cases h4
        rw [List.getElem?_set_ne (Ne.symm hn)] at h3
        exact absurd h3 (hne j es e hn)
      · rw [List.getElem?_set_ne (Ne.symm hn)] at h3
        rw [List.getElem?_set_ne (Ne.symm hn2)] at h4
        exact S.sep j k es fs w e e2 h3 h4
/-- a new list goes to slot i -/
theorem Stt.ownNew {H0 Hd0 Hd H Hd' H' : Hp} {σ : St} {ρ : Rho} {i : Nat} {ds : List D} {q : Addr} {vs : List V} (S : Stt H0 Hd0 Hd H σ ρ) (g : Gr H Hd H' Hd') (hi : i < ρ.length) (hq : H q = none) (hd : Hd' q = none) (h : H' q = some (.lst vs)) (ha : DaAll Hd' ds vs) : Stt H0 Hd0 Hd' H' (σ.set i (some (.ref q))) (ρ.set i (some (.own ds))) :=
  (S.grow g).own hi (S.gr.a.back hq) hd h ha fun j es h1 hn h2 => by
    obtain ⟨v, h3, p, ws, h4, h5, h6, h7, _⟩ := S.ok j _ h1
    rw [h2] at h3
    cases h3
    cases h4
    rw [hq] at h7
    cases h7
/-- an own list is changed -/
theorem Stt.ownMut {H0 Hd0 Hd H : Hp} {σ : St} {ρ : Rho} {i : Nat} {ds es : List D} {q : Addr} {vs : List V} (S : Stt H0 Hd0 Hd H σ ρ) (hr : ρ[i]? = some (some (.own ds))) (hs : σ[i]? = some (some (.ref q))) (ha : DaAll Hd es vs) :
    Stt H0 Hd0 Hd (upd H q (.lst vs)) σ (ρ.set i (some (.own es))) := by
  obtain ⟨v, h3, p, ws, h4, h5, h6, h7, h8⟩ := S.ok i _ hr
  rw [hs] at h3
  cases h3
  cases h4
  have hl := S.len
  have hi : i < ρ.length := (List.getElem?_eq_some_iff.mp hr).1
  refine ⟨fun a u h => by rw [upd_ne (ne_of_none h h6)]; exact S.ex a u h, S.gr.mut h5 h6, by simp [hl], fun j s hj => ?_, fun j k fs gs w h1 h2 h3 h4 => ?_⟩
  · rcases get_set_cases hj with ⟨rfl, e⟩ | ⟨hn, e⟩
    · cases e
      exact ⟨.ref q, hs, q, vs, rfl, h5, h6, upd_same, ha⟩
    · obtain ⟨w, q1, q2⟩ := S.ok j s e
      refine ⟨w, q1, ?_⟩
      cases s with
      | dat d => exact q2
      | own fs =>
        obtain ⟨p', ws', rfl, a1, a2, a3, a4⟩ := q2
        refine ⟨p', ws', rfl, a1, a2, ?_, a4⟩
        rw [upd_ne (fun z => hn (by subst z; exact S.sep j i fs ds _ e hr q1 hs))]
        exact a3
  · rcases get_set_cases h1 with ⟨rfl, e⟩ | ⟨hn, e⟩
    · rcases get_set_cases h2 with ⟨rfl, e2⟩ | ⟨hn2, e2⟩
      · rfl
      · exact S.sep j k ds gs w hr e2 h3 h4
    · rcases get_set_cases h2 with ⟨rfl, e2⟩ | ⟨hn2, e2⟩
      · exact S.sep j k fs ds w e hr h3 h4
      · exact S.sep j k fs gs w e e2 h3 h4
theorem Stt.frz1 {H0 Hd0 Hd H : Hp} {σ : St} {ρ : Rho} {i : Nat} {o : Option Sl} (S : Stt H0 Hd0 Hd H σ ρ) (hr : ρ[i]? = some o) : ∃ Hd', Ext Hd Hd' ∧ Stt H0 Hd0 Hd' H σ (ρ.set i (frzS o)) := by
  have same : frzS o = o → ∃ Hd', Ext Hd Hd' ∧ Stt H0 Hd0 Hd' H σ (ρ.set i (frzS o)) := fun e => by
    rw [e]
    refine ⟨Hd, Ext.rfl', ?_⟩
    have : ρ.set i o = ρ := by
      obtain ⟨hi, he⟩ := List.getElem?_eq_some_iff.mp hr
      rw [← he]; exact List.set_getElem_self hi
    rw [this]; exact S
  cases o with
  | none => exact same rfl
  | some s =>
    cases s with
    | dat d => exact same rfl
    | own ds =>
      obtain ⟨v, h3, p, ws, h4, h5, h6, h7, h8⟩ := S.ok i _ hr
      subst h4
      have hi : i < ρ.length := (List.getElem?_eq_some_iff.mp hr).1
      have hl := S.len
      refine ⟨upd Hd p (.lst ws), Ext.new h6, fun a u h => ?_, S.gr.seal h5 h6 h7, by simp [hl], fun j s hj => ?_, fun j k fs gs w h1 h2 h3 h4 => ?_⟩
      · by_cases ha : a = p
        · subst ha; rw [upd_same] at h; cases h; exact h7
        · rw [upd_ne ha] at h; exact S.ex a u h
      · rcases get_set_cases hj with ⟨rfl, e⟩ | ⟨hn, e⟩
        · cases e
          refine ⟨.ref p, h3, ?_⟩
          show Da _ (.list ds) _
          simp only [Da]
          exact ⟨p, ws, rfl, upd_same, DaAll.ext (Ext.new h6) _ _ h8⟩
        · obtain ⟨w, q1, q2⟩ := S.ok j s e
          refine ⟨w, q1, ?_⟩
          cases s with
          | dat d => exact Da.ext (Ext.new h6) _ _ q2
          | own fs =>
            obtain ⟨p', ws', rfl, a1, a2, a3, a4⟩ := q2
            refine ⟨p', ws', rfl, a1, ?_, a3, DaAll.ext (Ext.new h6) _ _ a4⟩
            rw [upd_ne (fun z => hn (by subst z; exact S.sep j i fs ds _ e hr q1 h3))]
            exact a2
      · rcases get_set_cases h1 with ⟨rfl, e⟩ | ⟨hn, e⟩
        · cases e
        · rcases get_set_cases h2 with ⟨rfl, e2⟩ | ⟨hn2, e2⟩
          · cases e2
          · exact S.sep j k fs gs w e e2 h3 h4
theorem Stt.frzAt {H0 Hd0 H : Hp} {σ : St} : ∀ {fs : List Nat} {Hd : Hp} {ρ : Rho}, Stt H0 Hd0 Hd H σ ρ → ∃ Hd', Ext Hd Hd' ∧ Stt H0 Hd0 Hd' H σ (frzAt ρ fs)
  | [], Hd, ρ, S => ⟨Hd, Ext.rfl', S⟩
  | i :: is, Hd, ρ, S => by
    unfold Mp.frzAt
    cases hr : ρ[i]? with
    | none => exact Stt.frzAt S
    | some o =>
      obtain ⟨Hd1, e1, S1⟩ := S.frz1 hr
      obtain ⟨Hd2, e2, S2⟩ := Stt.frzAt (fs := is) S1
      exact ⟨Hd2, e1.trans e2, S2⟩
/-! ### statements -/
def Cs (p : Pr) (H0 Hd0 Hd : Hp) (D : Ends) (o : O) : Prop := match o with
  | .bad => False
  | .nxt ρ' => ∀ σ' H' Hd', Ext Hd Hd' → Stt H0 Hd0 Hd' H' σ' ρ' → D.nx σ' H'
  | .ret d => ∀ v H' Hd', Gr H0 Hd0 H' Hd' → Da Hd' d v → D.rt v H'
  | .exc c ρ' => ∀ σ' H' Hd', Ext Hd Hd' → Stt H0 Hd0 Hd' H' σ' ρ' → p.W (exv p.mg c) none σ' H'
  | .brk ρ' => ∀ σ' H' Hd', Ext Hd Hd' → Stt H0 Hd0 Hd' H' σ' ρ' → D.bk σ' H'
  | .cnt ρ' => ∀ σ' H' Hd', Ext Hd Hd' → Stt H0 Hd0 Hd' H' σ' ρ' → D.ct σ' H'
theorem Cs.grow {p : Pr} {H0 Hd0 Hd Hd1 : Hp} {D : Ends} {o : O} (e : Ext Hd Hd1) (h : Cs p H0 Hd0 Hd D o) : Cs p H0 Hd0 Hd1 D o := by
  cases o with
  | bad => exact h
  | nxt ρ => exact fun σ' H' Hd' e' => h σ' H' Hd' (e.trans e')
  | ret d => exact h
  | exc c ρ => exact fun σ' H' Hd' e' => h σ' H' Hd' (e.trans e')
  | brk ρ => exact fun σ' H' Hd' e' => h σ' H' Hd' (e.trans e')
  | cnt ρ => exact fun σ' H' Hd' e' => h σ' H' Hd' (e.trans e')
def tS (p : Pr) (wf : Nat) (s : S) : TS := fun D σ H => ∃ H0 Hd0 ρ Hd, Stt H0 Hd0 Hd H σ ρ ∧ Cs p H0 Hd0 Hd D (exec p.cal p.sub wf s ρ)
/-- an evaluation ahead of the rest of a statement -/
theorem tR_out {α β : Type} {rel : Hp → α → β → Prop} {p : Pr} {f : Rho → R α} {g : α → O} {σ : St} {H0 Hd0 Hd H : Hp} {ρ : Rho} {D : Ends} {P : β → Hp → Prop}
    (S : Stt H0 Hd0 Hd H σ ρ) (h : Cs p H0 Hd0 Hd D ((f ρ).out ρ g))
    (k : ∀ d v H1 Hd1, Stt H0 Hd0 Hd1 H1 σ ρ → Gr H Hd H1 Hd1 → rel Hd1 d v → f ρ = .val d → Cs p H0 Hd0 Hd1 D (g d) → P v H1) : tR rel p f σ H P := by
  refine ⟨H0, Hd0, ρ, Hd, S, ?_⟩
  cases e : f ρ with
  | bad => rw [e] at h; exact h
  | exc c =>
    rw [e] at h
    exact fun H' Hd' g => h σ H' Hd' g.d (S.grow g)
  | val d =>
    rw [e] at h
    exact fun v H1 Hd1 gr hv => k d v H1 Hd1 (S.grow gr) gr hv e (Cs.grow gr.d h)
section
variable {X : Cx} {p : Pr} {wf : Nat} {a b c e tg : Expr} {ea eb ec : Ex} {pos : Pos} {st : Stmt} {rest : List Stmt} {s r : S} {t : Tg}
theorem dSs_one (h : PS X st (tS p wf s)) : PSs X [st] (tS p wf s) := pss_one h
theorem dSs_cons (h : PS X st (tS p wf s)) (hr : PSs X rest (tS p wf r)) : PSs X (st :: rest) (tS p wf (.seq s r)) :=
  pssI (pss_cons h hr) fun D σ H ⟨H0, Hd0, ρ, Hd, S, q⟩ => by
    simp only [exec] at q
    refine ⟨H0, Hd0, ρ, Hd, S, ?_⟩
    cases hx : exec p.cal p.sub wf s ρ with
    | nxt ρ1 =>
      rw [hx] at q
      exact fun σ' H' Hd' e' S' => ⟨H0, Hd0, ρ1, Hd', S', Cs.grow e' q⟩
    | bad => rw [hx] at q; exact q
    | ret d => rw [hx] at q; exact q
    | exc c ρ => rw [hx] at q; exact q
    | brk ρ => rw [hx] at q; exact q
    | cnt ρ => rw [hx] at q; exact q
theorem dSs_nil : PSs X [] (tS p wf .skip) := pssI pss_nil fun D σ H ⟨H0, Hd0, ρ, Hd, S, q⟩ => by
  simp only [exec] at q
  exact q σ H Hd Ext.rfl' S
theorem dS_never : PS X st (tS p wf .never) := psI ps_never fun D σ H ⟨H0, Hd0, ρ, Hd, S, q⟩ => by simp only [exec] at q; exact q
theorem dSs_never : PSs X rest (tS p wf .never) := pssI pss_never fun D σ H ⟨H0, Hd0, ρ, Hd, S, q⟩ => by simp only [exec] at q; exact q
theorem dS_pass : PS X (.Pass pos) (tS p wf .skip) := psI ps_pass fun D σ H ⟨H0, Hd0, ρ, Hd, S, q⟩ => by
  simp only [exec] at q
  exact q σ H Hd Ext.rfl' S
theorem dS_asg (he : PE X e (tD p ea)) (hg : PG X tg (tG t)) (hs : swapsWithSole [tg] e pos.line X.env = pure false := by rfl) (hw : swappedStores [tg] e X.env = pure none := by rfl) (h1 : (assignEach [tg] X.env).map (·.2) = [assign tg X.env] := by rfl) :
    PS X (.Assign [tg] e pos) (tS p wf (.asg t ea)) := psI (ps_asg he hg hs hw h1) fun D σ H ⟨H0, Hd0, ρ, Hd, S, q⟩ => by
  simp only [exec] at q
  refine tR_out S q fun d v H1 Hd1 S1 g1 hd _ q1 => ?_
  split at q1
  · rename_i ρ1 h2
    exact ⟨H0, Hd0, ρ, Hd1, d, ρ1, S1, hd, h2, fun σ' S' _ => q1 σ' H1 Hd1 Ext.rfl' S'⟩
  · exact q1.elim
theorem dS_set {i : Nat} {x : Str} {pos' : Pos} (hN : X.N.Nodup) (hi : X.N[i]? = some x) (hx : Loc X.env.scope x) (he : PE X e (tD p ea)) (hs : swapsWith e (some (.Name x pos')) pos.line X.env = pure false := by rfl) (hf : X.fn x = true ∨ X.env.scope.names.lookup x = some .local := by first | exact .inl rfl | exact .inr rfl | assumption) :
    PS X (.Assign [.Name x pos'] e pos) (tS p wf (.asg (.nm i) ea)) := psI (ps_set hN hi hx he hs hf) fun D σ H ⟨H0, Hd0, ρ, Hd, S, q⟩ => by
  simp only [exec] at q
  refine tR_out S q fun d v H1 Hd1 S1 g1 hd _ q1 => ?_
  simp only [asgT] at q1
  split at q1
  · rename_i ρ1 h2
    split at h2
    · rename_i hi
      cases h2
      exact q1 _ H1 Hd1 Ext.rfl' (S1.set hd hi)
    · cases h2
  · exact q1.elim
theorem tN_asg {i : Nat} {σ : St} {H : Hp} {D : Ends} (h : tS p wf (.own i ea) D σ H) : tAsg (tN p ea) (gName i) D σ H := by
  obtain ⟨H0, Hd0, ρ, Hd, S, q⟩ := h
  simp only [exec] at q
  refine ⟨H0, Hd0, ρ, Hd, S, ?_⟩
  cases hx : ev p.cal ea ρ with
  | bad => rw [hx] at q; exact q.elim
  | exc c => rw [hx] at q; exact fun H' Hd' g => q σ H' Hd' g.d (S.grow g)
  | val d =>
    rw [hx] at q
    simp only [R.out_val] at q
    cases d <;> simp only at q <;> try exact q.elim
    split at q
    · rename_i hi
      exact fun w vs H' Hd' g h1 h2 h3 h4 => q _ H' Hd' g.d (S.ownNew g hi h1 h2 h3 h4)
    · exact q.elim
theorem dS_own {i : Nat} {x : Str} {pos' : Pos} (hN : X.N.Nodup) (hi : X.N[i]? = some x) (hx : Loc X.env.scope x) (he : PE X e (tN p ea)) (hs : swapsWith e (some (.Name x pos')) pos.line X.env = pure false := by rfl) (hf : X.fn x = true ∨ X.env.scope.names.lookup x = some .local := by first | exact .inl rfl | exact .inr rfl | assumption) :
    PS X (.Assign [.Name x pos'] e pos) (tS p wf (.own i ea)) := psI (ps_set hN hi hx he hs hf) fun D σ H q => tN_asg q
theorem dS_par {i j : Nat} {x y : Str} {px py pt : Pos} {kt k2 : Nat} {pt2 : Pos} (hc : X.calm = true) (hN : X.N.Nodup) (hi : X.N[i]? = some x) (hj : X.N[j]? = some y) (hij : i ≠ j) (hx : X.env.scope.names.lookup x = some .local) (hy : X.env.scope.names.lookup y = some .local)
    (ha : PE X a (tD p ea)) (hb : PE X b (tD p eb)) (hw : swappedStores [.Tuple [.Name x px, .Name y py] kt pt] (.Tuple [a, b] k2 pt2) X.env = pure (some [x, y])) (hs : swapsWithSole [.Tuple [.Name x px, .Name y py] kt pt] (.Tuple [a, b] k2 pt2) pos.line X.env = pure false := by rfl)
    (hs1 : starEach [a, b] X.env = (false, eval a X.env) :: starEach [b] X.env := by rfl) (hs2 : starEach [b] X.env = [(false, eval b X.env)] := by rfl) :
    PS X (.Assign [.Tuple [.Name x px, .Name y py] kt pt] (.Tuple [a, b] k2 pt2) pos) (tS p wf (.par i j ea eb)) := psI (ps_par hc hN hi hj hij hx hy (pa_cons ha (pa_cons hb pa_nil hs2) hs1) hw hs) fun D σ H ⟨H0, Hd0, ρ, Hd, S, q⟩ => by
  simp only [exec] at q
  refine tR_out S q fun d v H1 Hd1 S1 g1 hd _ q1 => tR_out S1 q1 fun f w H2 Hd2 S2 g2 hf _ q2 => ?_
  split at q2
  · rename_i hl
    refine ⟨v, w, rfl, q2 _ H2 Hd2 Ext.rfl' ((S2.set (Da.ext g2.d _ _ hd) hl.1).set hf ?_)⟩
    rw [List.length_set]; exact hl.2
  · exact q2.elim
theorem dS_aug {i : Nat} {x : Str} {pos' : Pos} (hN : X.N.Nodup) (hi : X.N[i]? = some x) (hx : Loc X.env.scope x) (he : PE X e (tD p ea)) (hf : X.fn x = true ∨ X.env.scope.names.lookup x = some .local := by first | exact .inl rfl | exact .inr rfl | assumption) :
    PS X (.AugAssign (.Name x pos') .Add e pos) (tS p wf (.aug i ea)) := psI (ps_aug hN hi hx he ip_add hf) fun D σ H ⟨H0, Hd0, ρ, Hd, S, q⟩ => by
  simp only [exec] at q
  split at q
  · rename_i m hm
    obtain ⟨v, h1, h2⟩ := S.dat hm
    simp only [Da] at h2
    subst h2
    refine ⟨_, h1, tR_out S q fun d v H1 Hd1 S1 g1 hd _ q1 => ?_⟩
    cases d <;> simp only at q1 <;> try exact q1.elim
    simp only [Da] at hd
    subst hd
    exact ⟨_, _, rfl, rfl, q1 _ H1 Hd1 Ext.rfl' (S1.set (by simp only [Da]) (List.getElem?_eq_some_iff.mp hm).1)⟩
  · exact q.elim
theorem dS_app {i : Nat} {o : Expr} {apos cpos : Pos} (hv : PE X o (tVar i)) (he : PE X e (tD p ea)) (hs1 : starEach [e] X.env = [(false, eval e X.env)] := by rfl) (hbase : attributeBase o "append" X.env (eval o X.env) = eval o X.env := by rfl)
    (hfew : ((backTo cpos (starEach [e] X.env)).all (fun x => !x.1) && (backToKw cpos (keywordEach [] X.env)).all (fun x => x.1.isSome) && decide ([e].length + ([] : List Keyword).length + (if ([] : List Keyword).isEmpty then 0 else 1) < 30)) = true := by rfl)
    (hline : (apos.endLine == cpos.line) = true := by rfl) (hplain : (backTo cpos (starEach ([] : List Expr) X.env)).any (·.1) = false := by rfl) (hsw : swapsWith (.Call (.Attribute o "append" apos) [e] [] cpos) none pos.line X.env = pure false := by rfl) :
    PS X (.Expr (.Call (.Attribute o "append" apos) [e] [] cpos) pos) (tS p wf (.app i ea)) :=
  psI (ps_expr (pe_bm PySem.F.plainAttrs_list PySem.F.slot_list_append PySem.F.type_list_append mt_append hv (pa_cons he pa_nil hs1) hbase hfew hline (by rw [hs1]; rfl) hplain) hsw) fun D σ H ⟨H0, Hd0, ρ, Hd, S, q⟩ => by
    simp only [exec] at q
    split at q
    · rename_i ds hr
      obtain ⟨v, h1, w, vs, rfl, h2, h3, h4, h5⟩ := S.ok i _ hr
      refine ⟨_, h1, .inl ⟨rfl, vs, SqL.of h4⟩, tR_out S q fun d y H1 Hd1 S1 g1 hd _ q1 => ?_⟩
      split at q1
      · rename_i hl
        refine ⟨w, vs, y, rfl, rfl, g1.a _ _ h4, ?_, q1 _ _ Hd1 Ext.rfl' (S1.ownMut hr h1 ((DaAll.ext g1.d _ _ h5).app (DaAll.cons hd DaAll.nil)))⟩
        have := lim_line
        rw [h5.len]
        omega
      · exact q1.elim
    · exact q.elim
theorem dS_sub {i : Nat} {o k : Expr} {ek : Ex} {spos : Pos} (ho : PE X o (tVar i)) (hk : PE X k (tD p ek)) (he : PE X e (tD p ea))
    (ha : ∀ v, assign (.Subscript o k spos) X.env v = (do
      let ov ← holding [v] (eval o X.env)
      let iv ← holding [v, ov] (eval k X.env)
      standAt spos
      holding [v, ov, iv] (setItem ov iv v)
      release [v, ov, iv] []) := by intro _; rfl)
    (hs : swapsWithSole [.Subscript o k spos] e pos.line X.env = pure false := by rfl) (hw : swappedStores [.Subscript o k spos] e X.env = pure none := by rfl) (h1 : (assignEach [.Subscript o k spos] X.env).map (·.2) = [assign (.Subscript o k spos) X.env] := by rfl) :
    PS X (.Assign [.Subscript o k spos] e pos) (tS p wf (.set i ek ea)) := psI (ps_asg he (pg_sub ho hk set_list ha) hs hw h1) fun D σ H ⟨H0, Hd0, ρ, Hd, S, q⟩ => by
  simp only [exec] at q
  split at q
  · rename_i ds hr
    obtain ⟨v, h1, w, vs, rfl, h2, h3, h4, h5⟩ := S.ok i _ hr
    refine tR_out S q fun d y H1 Hd1 S1 g1 hd _ q1 => ⟨_, h1, tR_out S1 q1 fun f z H2 Hd2 S2 g2 hf _ q2 => ?_⟩
    cases f <;> simp only at q2 <;> try exact q2.elim
    split at q2
    · rename_i j hj
      simp only [Da] at hf
      subst hf
      have g := g1.trans g2
      refine ⟨w, vs, _, j, rfl, rfl, g.a _ _ h4, ?_, q2 _ _ Hd2 Ext.rfl' (S2.ownMut hr h1 ((DaAll.ext g.d _ _ h5).set (Da.ext g2.d _ _ hd) j))⟩
      rw [h5.len]
      exact hj
    · exact q2.elim
  · exact q.elim
theorem dS_drop (he : PE X e (tD p ea)) (hs : swapsWith e none pos.line X.env = pure false := by rfl) : PS X (.Expr e pos) (tS p wf (.drop ea)) := psI (ps_expr he hs) fun D σ H ⟨H0, Hd0, ρ, Hd, S, q⟩ => by
  simp only [exec] at q
  exact tR_out S q fun d v H1 Hd1 S1 g1 hd _ q1 => q1 σ H1 Hd1 Ext.rfl' S1
theorem dS_ret (he : PE X e (tD p ea)) : PS X (.Return (some e) pos) (tS p wf (.ret ea)) := psI (ps_ret he) fun D σ H ⟨H0, Hd0, ρ, Hd, S, q⟩ => by
  simp only [exec] at q
  exact tR_out S q fun d v H1 Hd1 S1 g1 hd _ q1 => q1 v H1 Hd1 S1.gr hd
theorem dS_if {u v : List Stmt} (hc : PT X c (tDt p ec)) (hu : PSs X u (tS p wf s)) (hv : PSs X v (tS p wf r)) : PS X (.If c u v pos) (tS p wf (.ite ec s r)) := psI (ps_if hc hu hv) fun D σ H ⟨H0, Hd0, ρ, Hd, S, q⟩ => by
  simp only [exec] at q
  refine tR_out (rel := eqR) (f := fun ρ => truR (ev p.cal ec ρ)) S q fun k k' H1 Hd1 S1 g1 hk _ q1 => ?_
  cases hk
  cases k with
  | true =>
    rw [if_pos rfl]
    exact ⟨H0, Hd0, ρ, Hd1, S1, q1⟩
  | false =>
    rw [if_neg Bool.false_ne_true]
    exact ⟨H0, Hd0, ρ, Hd1, S1, q1⟩
theorem dS_frz {fs : List Nat} (h : PS X st (tS p wf s)) : PS X st (tS p wf (.frz fs s)) := psI h fun D σ H ⟨H0, Hd0, ρ, Hd, S, q⟩ => by
  simp only [exec] at q
  obtain ⟨Hd1, e1, S1⟩ := S.frzAt (fs := fs)
  exact ⟨H0, Hd0, frzAt ρ fs, Hd1, S1, Cs.grow e1 q⟩
theorem dS_brk : PS X (.Break pos) (tS p wf .brk) := psI ps_break fun D σ H ⟨H0, Hd0, ρ, Hd, S, q⟩ => by
  simp only [exec] at q
  exact q σ H Hd Ext.rfl' S
theorem dS_cnt : PS X (.Continue pos) (tS p wf .cnt) := psI ps_continue fun D σ H ⟨H0, Hd0, ρ, Hd, S, q⟩ => by
  simp only [exec] at q
  exact q σ H Hd Ext.rfl' S
theorem dS_rais {x : Str} (h : PS X st (fun _ σ H => p.W (exv p.mg x) none σ H)) : PS X st (tS p wf (.rais x)) := psI h fun D σ H ⟨H0, Hd0, ρ, Hd, S, q⟩ => by
  simp only [exec] at q
  exact q σ H Hd Ext.rfl' S
theorem dS_whl {body : List Stmt} (hp : PassesOwn (model X.prog X.w) X.A X.env X.xe) (hc : PT X c (tDt p ec)) (hb : PSs X body (tS p wf s)) : PS X (.While c body [] pos) (tS p wf (.whl ec s)) := psI (ps_while hp hc hb) fun D σ H ⟨H0, Hd0, ρ, Hd, S, q⟩ => by
  simp only [exec] at q
  refine ⟨fun m σ H => ∃ ρ Hd, Stt H0 Hd0 Hd H σ ρ ∧ Cs p H0 Hd0 Hd D (whlF (fun ρ => truR (ev p.cal ec ρ)) (exec p.cal p.sub wf s) m ρ), ⟨wf, ρ, Hd, S, q⟩, ?_⟩
  rintro m σ H ⟨ρ, Hd, S, q⟩
  cases m with
  | zero => simp only [whlF] at q; exact q.elim
  | succ m =>
    simp only [whlF] at q
    refine ⟨H0, Hd0, ρ, Hd, S, ?_⟩
    show Ct eqR p.mg p.W σ H Hd (truR (ev p.cal ec ρ)) _
    cases hx : truR (ev p.cal ec ρ) with
    | bad => rw [hx] at q; exact q.elim
    | exc c => rw [hx] at q; exact q.elim
    | val k =>
      rw [hx] at q
      intro k' H1 Hd1 g1 hk
      cases hk
      cases k with
      | false =>
        rw [if_neg Bool.false_ne_true]
        exact q σ H1 Hd1 g1.d (S.grow g1)
      | true =>
        rw [if_pos rfl]
        refine ⟨fun σ H => ∃ ρ Hd, Stt H0 Hd0 Hd H σ ρ ∧ Cs p H0 Hd0 Hd D (whlF (fun ρ => truR (ev p.cal ec ρ)) (exec p.cal p.sub wf s) m ρ), fun σ' H' h' => ⟨m, Nat.lt_succ_self m, h'⟩, H0, Hd0, ρ, Hd1, S.grow g1, ?_⟩
        simp only at q
        cases hb' : exec p.cal p.sub wf s ρ with
        | bad => rw [hb'] at q; exact q.elim
        | nxt ρ1 => rw [hb'] at q; exact fun σ' H' Hd' e' S' => ⟨ρ1, Hd', S', Cs.grow (g1.d.trans e') q⟩
        | cnt ρ1 => rw [hb'] at q; exact fun σ' H' Hd' e' S' => ⟨ρ1, Hd', S', Cs.grow (g1.d.trans e') q⟩
        | brk ρ1 => rw [hb'] at q; exact fun σ' H' Hd' e' S' => q σ' H' Hd' (g1.d.trans e') S'
        | ret d => rw [hb'] at q; exact q
        | exc c ρ1 => rw [hb'] at q; exact fun σ' H' Hd' e' S' => q σ' H' Hd' (g1.d.trans e') S'
theorem dS_for {iter : Expr} {body : List Stmt} {it : It} (hp : PassesOwn (model X.prog X.w) X.A X.env X.xe) (hc : X.calm = true) (hi : PI X tg iter (tDi p it)) (hg : PG X tg (tG t)) (hb : PSs X body (tS p wf s)) (hs : ∀ x, foldedSetIterable iter X.env x = pure x := by intro _; rfl) :
    PS X (.For tg iter body [] pos) (tS p wf (.for t it s)) := psI (ps_for hp hc hi hg hb hs) fun D σ H ⟨H0, Hd0, ρ, Hd, S, q⟩ => by
  simp only [exec] at q
  refine tR_out S q fun xs J H1 Hd1 S1 g1 wk _ q1 => ?_
  refine ⟨fun i m σ H => m = xs.length - i ∧ i ≤ xs.length ∧ ∃ ρ Hd, Stt H0 Hd0 Hd H σ ρ ∧ Ext Hd1 Hd ∧ Cs p H0 Hd0 Hd D (forF (fun x ρ => match asgT t x ρ with | some ρ1 => exec p.cal p.sub wf s ρ1 | none => .bad) (xs.drop i) ρ), ⟨xs.length, by simp, by simp, ρ, Hd1, S1, Ext.rfl', by rw [List.drop_zero]; exact q1⟩, ?_⟩
  rintro i m σ H ⟨rfl, hi, ρ, Hd, S, ex, q⟩
  by_cases hlt : i < xs.length
  · refine .inr ⟨wk.go i H hlt (ex.trans S.ex), fun σ H => ∃ ρ Hd, Stt H0 Hd0 Hd H σ ρ ∧ Ext Hd1 Hd ∧ Cs p H0 Hd0 Hd D (forF (fun x ρ => match asgT t x ρ with | some ρ1 => exec p.cal p.sub wf s ρ1 | none => .bad) (xs.drop (i + 1)) ρ), fun σ' H' h' => ⟨xs.length - (i + 1), by omega, rfl, hlt, h'⟩, fun x H' hy => ?_⟩
    obtain ⟨d, Hd2, hd1, hd2, hd3⟩ := wk.yld i H x H' Hd hlt ex S.ex hy
    have hdrop : xs.drop i = d :: xs.drop (i + 1) := by
      obtain ⟨hh, he⟩ := List.getElem?_eq_some_iff.mp hd1
      rw [List.drop_eq_getElem_cons hh, he]
    rw [hdrop] at q
    simp only [forF] at q
    cases ha : asgT t d ρ with
    | none => rw [ha] at q; exact q.elim
    | some ρ1 =>
      rw [ha] at q
      simp only at q
      refine ⟨H0, Hd0, ρ, Hd2, d, ρ1, S.grow hd2, hd3, ha, fun σ2 S2 _ => ⟨H0, Hd0, ρ1, Hd2, S2, ?_⟩⟩
      cases hb' : exec p.cal p.sub wf s ρ1 with
      | bad => rw [hb'] at q; exact q.elim
      | nxt ρ2 => rw [hb'] at q; exact fun σ' H' Hd' e' S' => ⟨ρ2, Hd', S', ex.trans (hd2.d.trans e'), Cs.grow (hd2.d.trans e') q⟩
      | cnt ρ2 => rw [hb'] at q; exact fun σ' H' Hd' e' S' => ⟨ρ2, Hd', S', ex.trans (hd2.d.trans e'), Cs.grow (hd2.d.trans e') q⟩
      | brk ρ2 => rw [hb'] at q; exact fun σ' H' Hd' e' S' => q σ' H' Hd' (hd2.d.trans e') S'
      | ret d => rw [hb'] at q; exact q
      | exc c ρ2 => rw [hb'] at q; exact fun σ' H' Hd' e' S' => q σ' H' Hd' (hd2.d.trans e') S'
  · have e0 : i = xs.length := by omega
    subst e0
    rw [List.drop_length] at q
    simp only [forF] at q
    exact .inl ⟨wk.stop H (ex.trans S.ex), q σ H Hd Ext.rfl' S⟩
end
end Mp

set_option Elab.async false
set_option linter.all false
set_option maxRecDepth 100000
set_option maxHeartbeats 4000000
namespace Mp
open PySem L2
open PyProof.Rows hiding St
variable [KF]
/-! ### several clauses «except X as n» -/
abbrev ClT := Addr → Value → Option Addr → TS
def wClauses (K : PySem.W.Frag) (i : Nat) (out : WX) (D : Ends) : List (Value × ClT) → WX
  | [] => out
  | (cv, ts) :: more => fun cls d σ H => ∃ k, PySem.W.exmOne K cls cv = some k ∧
      (k = true → ∀ a, H a = none → ts a cls d ⟨fun τ G => D.nx (τ.set i none) G, D.rt, fun τ G => D.bk (τ.set i none) G, fun τ G => D.ct (τ.set i none) G⟩ (σ.set i (some (.ref a))) H) ∧
      (k = false → wClauses K i out D more cls d σ H)
inductive ClausesOk (X : Cx) (n : Str) : List ExceptHandler → List (Value × ClT) → Prop
  | nil : ClausesOk X n [] []
  | cons {x : Str} {cv : Value} {ts : ClT} {st : Stmt} {sts : List Stmt} {q1 q2 : Pos} {hs : List ExceptHandler} {l : List (Value × ClT)} (nm : Names X x cv)
      (su : ∀ (a : Addr) (o : Obj) (cls : Value) (d : Option Addr) (pn : List (Addr × Obj)), Zc cls d o → (∃ vs, o.data = .fields vs) → PSs (X.suite a ((a, o) :: pn)) (st :: sts) (ts a cls d)) (more : ClausesOk X n hs l) :
      ClausesOk X n (.ExceptHandler (some (.Name x q1)) (some n) (st :: sts) q2 :: hs) ((cv, ts) :: l)
theorem ps_clauses {X : Cx} {n : Str} {i : Nat} {body : List Stmt} {h1 : ExceptHandler} {hs : List ExceptHandler} {l : List (Value × ClT)} {pos : Pos} {tb : WX → TS} {out : WX} (hstk : X.stack = X.env :: X.outer) (hfr : X.env.frame = some X.env.locals) (hN : X.N.Nodup) (hi : X.N[i]? = some n)
    (hln : X.env.kindOf n = some .local) (tk : Takes X out) (hb : ∀ (W : WX) (pn : List (Addr × Obj)) (xe : Value → Shared → Prop), Takes (X.tr pn xe) W → PassesOwn (model X.prog X.w) X.A X.env xe → PSs (X.tr pn xe) body (tb W)) (hc : ClausesOk X n (h1 :: hs) l) :
    PS X (.Try body (h1 :: hs) [] [] pos) (fun D σ H => tb (wClauses X.K i out D l) D σ H) := by
  refine ⟨fun pins s σ H D I hyp => ?_⟩
  have okX := I.ok
  have frs1 : X.A.frames = some (X.env :: X.outer) := by rw [okX.frames, hstk]
  have locn : Loc X.env.scope n := .inl hln
  refine wpAny_Try_except (wpAny_mono ((hb (wClauses X.K i out D l) (X.pn ++ pins) (fun ex t1 => wpAny (model X.prog X.w) X.A (noteFrame ex X.env) (fun _ t2 => wpAny (model X.prog X.w) X.A (setFlight ex none)
    (fun _ t3 => wpAny (model X.prog X.w) X.A (handleBy ex X.env (h1 :: hs)) (SP X pins D) X.xe t3) X.xe t2) X.xe t1) (fun u s' air => ?_) PassesOwn.looking).run [] s σ H D (I.toTry _) hyp) (fun f s1 hsp => ?_) (fun _ _ he => he))
  · obtain ⟨a, B, sI, pins', τ, G, cls, d, rfl, J', nb, up, sky, na, os, ag, wish⟩ := air
    have J : Inv X pins τ G sI := J'.ofTry okX
    have sky2 : Sky B (X.env :: X.outer) a (Zc cls d) X.env.locals s'.heap := by
      rw [← hstk]; exact sky
    show wpAny (model X.prog X.w) X.A (noteFrame (.ref a) X.env) _ _ _
    refine Sky.land Zc.steady frs1 hfr sky2 fun g3 fl up3 => ?_
    have J3 : Inv X pins τ G { s' with heap := g3 } := J.landed nb fl.1 (up.trans up3) os ag
    obtain ⟨o3, f3, get3, z3, dat3⟩ := fl.there
    have off : a ∉ frs (X.env :: X.outer) := fun hm => by
      obtain ⟨_, o', get', hnf⟩ := fl.2.2.1.mem hm
      rw [get3] at get'; cases get'
      exact hnf _ dat3
    have off1 : a ≠ X.env.locals := fun z => off (List.mem_filterMap.mpr ⟨X.env, List.mem_cons_self, by rw [hfr, z]⟩)
    have off2 : a ∉ X.fs := fun hm => by
      obtain ⟨en, hen, q⟩ := List.mem_filterMap.mp hm
      exact off (List.mem_filterMap.mpr ⟨en, List.mem_cons_of_mem _ hen, q⟩)
    have Su3 := J3.suite get3 dat3 na off1 off2
    have walk : ∀ {hs' : List ExceptHandler} {l' : List (Value × ClT)}, ClausesOk X n hs' l' → wClauses X.K i out D l' cls d τ G →
        wpAny (model X.prog X.w) X.A (handleBy (.ref a) X.env hs') (SP X pins D) X.xe { s' with heap := g3 } := by
      intro hs' l' ok'
      induction ok' with
      | nil =>
        intro w
        refine wpAny_handleBy_nil ?_
        obtain ⟨_, _, _, o, vs, T, oT, tl, get, _, dat, at1, _⟩ := id fl
        unfold PySem.passOn
        refine wpAny_bind (wpAny_field get dat at1 ?_)
        rw [if_neg (show ¬ ((Value.ref T == Value.none) = true) by simp)]
        have last : wpAny (model X.prog X.w) X.A (setFlight (.ref a) X.env.frame) (fun _ t => wpAny (model X.prog X.w) X.A (throw (.ref a) : Sem Flow) (SP X pins D) X.xe t) X.xe { s' with heap := g3 } := by
          rw [hfr]
          exact HandSPX.setFlight_upZ fl fun g4 held up4 => wpAny_throw (tk _ _ ⟨a, B, sI, pins, τ, G, cls, d, rfl, J, nb, (up.trans up3).trans up4, .inr (.inr (by rw [hstk]; exact held)), na, os, ag, w⟩)
        first
          | exact wpAny_bind (wpAny_pure (wpAny_bind last))
          | exact wpAny_bind last
      | @cons x cv ts st sts q1 q2 hs2 l2 nm su more ih =>
        rintro ⟨k, hk, yes, no⟩
        refine wpAny_handleBy_cons (codeAny_handlers_test ?_) (by intro q; cases q)
        have ty : PySem.W.Looks (model X.prog X.w) g3 (typeOf (.ref a)) cls := fun A Q E t kp q => wpAny_typeOf_ref (kp _ _ get3) (by rw [z3.1]; exact q)
        have mt := PySem.W.exm_one (M := model X.prog X.w) (J3.kIn) ty hk
        have named : ∀ {Q : Value → Shared → Prop} {E : Value → Shared → Prop}, Q cv { s' with heap := g3 } → wpAny (model X.prog X.w) (X.A.mark (some (.ref a))) (eval (.Name x q1) X.env) Q E { s' with heap := g3 } := fun {Q E} q => by
          obtain ⟨g, db, m | ⟨m, v, ne⟩⟩ := nm
          · exact ld_glob (X := X.suite a ((a, o3) :: (X.pn ++ pins))) Su3 g m q db
          · exact ld_blt (X := X.suite a ((a, o3) :: (X.pn ++ pins))) Su3 g m v q ne db
        refine named (mt.here ?_)
        cases k with
        | false =>
          show wpAny _ X.A (handleBy (.ref a) X.env hs2) _ _ _
          exact ih (no rfl)
        | true =>
          refine codeAny_handlers_suite_as (HandSPX.lands_againZ fl fun g4 fl4 up4 => ?_)
          have J4 : Inv X pins τ G { s' with heap := g4 } := J.landed nb fl4.1 ((up.trans up3).trans up4) os ag
          obtain ⟨o4, f4, get4, z4, dat4⟩ := fl4.there
          have Su4 := J4.suite get4 dat4 na off1 off2
          refine store_ok (X := X.suite a ((a, o4) :: (X.pn ++ pins))) (v := .ref a) Su4 hN hi locn rfl (fun t5 Su5 => ?_) (.inr hln)
          refine wpAny_mono ((su a o4 cls d (X.pn ++ pins) z4 ⟨_, dat4⟩).run [] t5 _ G _ Su5 (yes rfl a na)) (fun f t6 hsp => ?_) (fun _ _ z => False.elim z)
          have done : ∀ {τ6 : St} {G6 : Hp} {Q : Shared → Prop}, Inv (X.suite a ((a, o4) :: (X.pn ++ pins))) [] τ6 G6 t6 → (∀ t7, Inv X pins (τ6.set i none) G6 t7 → Q t7) →
              wpAny (model X.prog X.w) X.A (do bindName X.env n .none; unbindBehindTheSuite X.env n q2) (fun _ t7 => Q t7) X.xe t6 := fun {τ6 G6 Q} Su6 hq => gone_ok (Su6.unsuite okX) hN hi hln hq
          cases f with
          | ret u =>
            obtain ⟨v6, τ6, G6, Su6, r6, q6⟩ := hsp
            exact done Su6 fun t7 J7 => ⟨_, _, _, J7, r6, q6⟩
          | next =>
            obtain ⟨τ6, G6, Su6, q6⟩ := hsp
            exact done Su6 fun t7 J7 => ⟨_, _, J7, q6⟩
          | brk =>
            obtain ⟨τ6, G6, Su6, q6⟩ := hsp
            exact done Su6 fun t7 J7 => ⟨_, _, J7, q6⟩
          | cont =>
            obtain ⟨τ6, G6, Su6, q6⟩ := hsp
            exact done Su6 fun t7 J7 => ⟨_, _, J7, q6⟩
    exact walk hc wish
  · cases f with
    | ret u =>
      obtain ⟨v, τ, G, J', r, q⟩ := hsp
      exact ⟨v, τ, G, J'.ofTry okX, r, q⟩
    | next =>
      obtain ⟨τ, G, J', q⟩ := hsp
      exact wpAny_execs_nil ⟨τ, G, J'.ofTry okX, q⟩
    | brk =>
      obtain ⟨τ, G, J', q⟩ := hsp
      exact ⟨τ, G, J'.ofTry okX, q⟩
    | cont =>
      obtain ⟨τ, G, J', q⟩ := hsp
      exact ⟨τ, G, J'.ofTry okX, q⟩
/-! ### own exception classes -/
def veTail : List Value := [.type "ValueError", .type "Exception", .type "BaseException", .type "object"]
/-- what is known of the class c: it can be raised; ks: the classes that it may be asked for -/
structure XcOk (K : PySem.W.Frag) (mg : Str → Option Value) (sub : Str → Str → Bool) (ks : List Str) (c : Str) (C : Addr) : Prop where
  g : mg c = some (.ref C)
  x : PySem.W.excIn K C veTail "ValueError.__new__" = true
  k : PySem.W.keepIn K (.ref C) = true
  b : PySem.W.subIn K (.ref C) (.type "BaseException") = some true
  t : PySem.W.typeIn K (.ref C) = some (.type "type")
  e : ExcC K C
  s : ∀ d ∈ ks, ∃ E, mg d = some (.ref E) ∧ PySem.W.exmOne K (.ref C) (.ref E) = some (sub c d) ∧ PySem.W.kitOne K (.ref C) (.ref E) = some (sub c d)
section
variable {X : Cx} {p : Pr} {wf : Nat} {pos pp p2 pos2 : Pos} {ks : List Str} {C : Addr}
theorem exv_of {mg : Str → Option Value} {c : Str} {v : Value} (h : mg c = some v) : exv mg c = v := by unfold exv; rw [h]; rfl
theorem dS_raise {x m : Str} {j : Nat} (hE : ∃ C, XcOk X.K X.mg p.sub ks x C) (hpm : p.mg = X.mg) (hc : X.calm = true) (tk : Takes X p.W) (hg : Gl X x) (hdb : (x == ("__debug__" : Str)) = false := by decide) :
    PS X (.Raise (some (.Call (.Name x pp) [.Constant (.str m) j p2] [] pos)) none pos2) (tS p wf (.rais x)) :=
  let ⟨C, E⟩ := hE
  dS_rais (psI (ps_raise hc tk (pmk_own PySem.F.excBase_ValueError E.x E.g E.k (raises_own E.b E.t) hg hdb)) fun D σ H q => by
    rw [hpm, exv_of E.g] at q
    exact q)
/-! in a clause's suite: what is asked of the class -/
def tX (i : Nat) (a : Addr) (f : Bool) : TT := fun σ H Q => σ[i]? = some (some (.ref a)) ∧ Q f H
variable {a : Addr} {o : Obj} {pn : List (Addr × Obj)} {i : Nat} {k : Str} {f f' : Bool} {e e' : Expr} {rest : List Expr} {sub : Str → Str → Bool}
theorem dX_is {c n : Str} {pe pc : Pos} (E : XcOk X.K X.mg sub ks k C) (hz : Zc (.ref C) none o) (hf : ∃ vs, o.data = .fields vs) (hk : c ∈ ks) (hg : Gl X "isinstance") (hm : X.mg "isinstance" = none) (hgc : Gl X c) (hv : PE (X.suite a ((a, o) :: pn)) (.Name n pe) (tVar i))
    (hdb : (c == ("__debug__" : Str)) = false := by decide) (he2 : starEach [.Name c pc] X.env = [(false, eval (.Name c pc) X.env)] := by rfl) (he : starEach [.Name n pe, .Name c pc] X.env = (false, eval (.Name n pe) X.env) :: starEach [.Name c pc] X.env := by rfl)
    (hpl : (backTo pos (starEach [.Name c pc] X.env)).any (·.1) = false := by rfl) (hit : ∀ whole, isTrue (.Call (.Name "isinstance" pp) [.Name n pe, .Name c pc] [] pos) X.env whole = (do let v ← whole; standAt pos; holding [v] (truthy v)) := by intro _; rfl) :
    PT (X.suite a ((a, o) :: pn)) (.Call (.Name "isinstance" pp) [.Name n pe, .Name c pc] [] pos) (tX i a (sub k c)) := by
  obtain ⟨Ea, h1, h2, h3⟩ := E.s c hk
  have hc : PE (X.suite a ((a, o) :: pn)) (.Name c pc) (tC (.ref Ea)) := pe_glob (X := X.suite a ((a, o) :: pn)) hgc h1 rfl hdb
  refine ptI (pt_val (pe_callB (X := X.suite a ((a, o) :: pn)) (call_isE E.e hz hf) hg hm (by decide +kernel) (pa_cons hv (pa_cons hc pa_nil he2) he) (by decide) (by decide) he hpl) hit) fun σ H Q ⟨q1, q2⟩ => ?_
  exact ⟨_, q1, .ref Ea, .ref Ea, sub k c, rfl, fun u hu => hu, h3, _, rfl, q2⟩
theorem dX_not (h : PT X e (tX i a f)) : PT X (.UnaryOp .Not e pos) (tX i a (!f)) := ptI (pt_not h) fun σ H Q q => q
theorem dX_and1 (h : PT X e (tX i a f)) : PW X (.BoolOp .And [e] pos) (tX i a f) := pw_and1 h
theorem dX_and (h : PT X e (tX i a f)) (h' : PW X (.BoolOp .And (e' :: rest) pos) (tX i a f')) : PW X (.BoolOp .And (e :: e' :: rest) pos) (tX i a (f && f')) := pwI (pw_and h h') fun σ H Q q => by
  refine ⟨q.1, ?_⟩
  cases f with
  | true => rw [if_pos rfl]; exact q
  | false => rw [if_neg Bool.false_ne_true]; exact q.2
theorem dX_or1 (h : PT X e (tX i a f)) : PW X (.BoolOp .Or [e] pos) (tX i a f) := pw_or1 h
theorem dX_or (h : PT X e (tX i a f)) (h' : PW X (.BoolOp .Or (e' :: rest) pos) (tX i a f')) : PW X (.BoolOp .Or (e :: e' :: rest) pos) (tX i a (f || f')) := pwI (pw_or h h') fun σ H Q q => by
  refine ⟨q.1, ?_⟩
  cases f with
  | true => rw [if_pos rfl]; exact q.2
  | false => rw [if_neg Bool.false_ne_true]; exact q
/-- what a clause's suite is to do -/
def tsX (mg : Str → Option Value) (sub : Str → Str → Bool) (names : List Str) (i : Nat) (x : Xc) (s1 s2 : Str) : ClT := fun a cls d D σ H => ∃ k ∈ names, cls = exv mg k ∧ d = none ∧ σ[i]? = some (some (.ref a)) ∧ D.rt (.str (if x.ev sub k then s1 else s2)) H
theorem dX_suite {names : List Str} {x : Xc} {s1 s2 : Str} {T : Expr} {j1 j2 : Nat} {q1 q2 q3 q4 : Pos} {cls : Value} {d : Option Addr} (hz : Zc cls d o) (hf : ∃ vs, o.data = .fields vs) (hE : ∀ k ∈ names, ∃ C, XcOk X.K X.mg sub ks k C)
    (hT : ∀ k C, XcOk X.K X.mg sub ks k C → Zc (.ref C) none o → PT (X.suite a ((a, o) :: pn)) T (tX i a (x.ev sub k))) :
    PSs (X.suite a ((a, o) :: pn)) [.Return (some (.IfExp T (.Constant (.str s1) j1 q1) (.Constant (.str s2) j2 q2) q3)) q4] (tsX X.mg sub names i x s1 s2 a cls d) := by
  refine ⟨fun pins s σ H D I ⟨k, hk, hc, hd, h1, h2⟩ => ?_⟩
  obtain ⟨C, E⟩ := hE k hk
  rw [exv_of E.g] at hc
  subst hc hd
  refine (pss_one (ps_ret (pe_ifExp (hT k C E hz) pe_str pe_str))).run pins s σ H D I ⟨h1, ?_⟩
  cases hx : x.ev sub k with
  | true => rw [if_pos rfl]; rw [hx] at h2; exact h2
  | false => rw [if_neg Bool.false_ne_true]; rw [hx] at h2; exact h2
/-- the clauses' list by the handlers -/
inductive HsOk (mg : Str → Option Value) (sub : Str → Str → Bool) (names : List Str) (i : Nat) : List Hnd → List (Value × ClT) → Prop
  | nil : HsOk mg sub names i [] []
  | cons {h : Hnd} {hs : List Hnd} {l : List (Value × ClT)} {s1 s2 : Str} (e1 : h.d1 = .str s1) (e2 : h.d2 = .str s2) (more : HsOk mg sub names i hs l) : HsOk mg sub names i (h :: hs) ((exv mg h.c, tsX mg sub names i h.x s1 s2) :: l)
theorem execH_clauses {names : List Str} {D : Ends} {H0 Hd0 Hd : Hp} {ρ : Rho} {c : Str} (hc : c ∈ names) (hsub : ∀ h ∈ ks, ∃ b, PySem.W.exmOne X.K (exv p.mg c) (exv p.mg h) = some b ∧ b = p.sub c h) :
    ∀ {hs : List Hnd} {l : List (Value × ClT)}, HsOk p.mg p.sub names i hs l → (∀ h ∈ hs, h.c ∈ ks) → Cs p H0 Hd0 Hd D (execH p.sub hs c ρ) → ∀ σ H Hd', i < σ.length → Ext Hd Hd' → Stt H0 Hd0 Hd' H σ ρ → wClauses X.K i p.W D l (exv p.mg c) none σ H := by
  intro hs l hk
  induction hk with
  | nil =>
    intro _ q σ H Hd' _ ex S
    exact q σ H Hd' ex S
  | @cons h hs l s1 s2 e1 e2 more ih =>
    intro hin q σ H Hd' hi ex S
    obtain ⟨b, hb, hb2⟩ := hsub h.c (hin h (by simp))
    refine ⟨b, hb, fun hbt a ha => ?_, fun hbf => ?_⟩
    · simp only [execH] at q
      rw [hb2] at hbt
      rw [if_pos hbt, e1, e2] at q
      refine ⟨c, hc, rfl, rfl, by rw [List.getElem?_set_self hi], ?_⟩
      split at q
      · rename_i hx
        rw [if_pos hx]
        exact q _ H Hd' S.gr (by simp only [Da])
      · rename_i hx
        rw [if_neg hx]
        exact q _ H Hd' S.gr (by simp only [Da])
    · simp only [execH] at q
      rw [hb2] at hbf
      rw [if_neg (by rw [hbf]; exact Bool.false_ne_true)] at q
      exact ih (fun g hg => hin g (List.mem_cons_of_mem _ hg)) q σ H Hd' hi ex S
theorem dS_try {n : Str} {s : S} {hl : List Hnd} {names : List Str} {l : List (Value × ClT)} {body : List Stmt} {h1 : ExceptHandler} {hs : List ExceptHandler} (hpm : p.mg = X.mg) (hstk : X.stack = X.env :: X.outer) (hfr : X.env.frame = some X.env.locals) (hN : X.N.Nodup) (hi : X.N[i]? = some n)
    (hln : X.env.kindOf n = some .local) (tk : Takes X p.W) (hb : ∀ (W : WX) (pn : List (Addr × Obj)) (xe : Value → Shared → Prop), Takes (X.tr pn xe) W → PassesOwn (model X.prog X.w) X.A X.env xe → PSs (X.tr pn xe) body (tS { p with W := W } wf s)) (hc : ClausesOk X n (h1 :: hs) l)
    (hk : HsOk p.mg p.sub names i hl l) (hE : ∀ k ∈ names, ∃ C, XcOk X.K X.mg p.sub ks k C) (hin : ∀ h ∈ hl, h.c ∈ ks) : PS X (.Try body (h1 :: hs) [] [] pos) (tS p wf (.tryy s i names hl)) :=
  psI (ps_clauses (tb := fun W => tS { p with W := W } wf s) hstk hfr hN hi hln tk hb hc) fun D σ H ⟨H0, Hd0, ρ, Hd, S, q⟩ => by
    simp only [exec] at q
    refine ⟨H0, Hd0, ρ, Hd, S, ?_⟩
    show Cs { p with W := _ } H0 Hd0 Hd D (exec p.cal p.sub wf s ρ)
    cases hx : exec p.cal p.sub wf s ρ with
    | bad => rw [hx] at q; exact q
    | nxt ρ1 => rw [hx] at q; exact q
    | ret d => rw [hx] at q; exact q
    | brk ρ1 => rw [hx] at q; exact q
    | cnt ρ1 => rw [hx] at q; exact q
    | exc c ρ1 =>
      rw [hx] at q
      simp only at q
      split at q
      · rename_i hcn
        intro σ' H' Hd' ex S'
        obtain ⟨C, E⟩ := hE c hcn.2
        refine execH_clauses (X := X) (p := p) (ks := ks) hcn.2 (fun h hh => ?_) hk hin q σ' H' Hd' (by rw [S'.len]; exact hcn.1) ex S'
        obtain ⟨Ea, g1, g2, _⟩ := E.s h hh
        refine ⟨p.sub c h, ?_, rfl⟩
        rw [hpm, exv_of E.g, exv_of g1]
        exact g2
      · exact q.elim
/-! ### x = [..], on one line, x a local -/
variable {elt tg iter : Expr} {ifs : List Expr} {scope : Scope} {own : List (Str × Nat)} {t : Tg} {it : It} {c : Eo} {ex : Ex}
theorem dS_setLc {i : Nat} {y : Str} {py spos : Pos} {vs : List Nat} (hc : X.calm = true) (hN : X.N.Nodup) (hy : X.N[i]? = some y) (hyl : X.env.scope.names.lookup y = some .local)
    (hsw : swapsWith (.ListComp elt [⟨tg, iter, ifs, 0⟩] scope pos) (some (.Name y py)) spos.line X.env = pure true) (hi : PI X tg iter (tDi p it)) (ok : BlkOk X.N X.env.scope scope own)
    (hg : ∀ (s : Shared) (H : Hp) (C : Addr) (cl : List (Str × Addr)) (fp : List Addr), PG (X.blk s H scope (compEnvC scope cl C X.env) fp) tg (tG t)) (ht : ∀ (s : Shared) (H : Hp) (C : Addr) (cl : List (Str × Addr)) (fp : List Addr), PTs (X.blk s H scope (compEnvC scope cl C X.env) fp) ifs (tDc p.nox c))
    (he : ∀ (s : Shared) (H : Hp) (C : Addr) (cl : List (Str × Addr)) (fp : List Addr), PE (X.blk s H scope (compEnvC scope cl C X.env) fp) elt (tD p.nox ex)) (hv : own.map (·.2) = vs := by rfl) (hsl : ∀ i ∈ t.sl, i ∈ vs := by decide) (hs : ∀ x, foldedSetIterable iter X.env x = pure x := by intro _; rfl) :
    PS X (.Assign [.Name y py] (.ListComp elt [⟨tg, iter, ifs, 0⟩] scope pos) spos) (tS p wf (.asg (.nm i) (.lc t it c ex vs))) := by
  subst hv
  refine psI (ps_setLc hc hN hy hyl hsw hi ok hg ht he hs) fun D σ H ⟨H0, Hd0, ρ, Hd, S, q⟩ => ?_
  simp only [exec] at q
  refine tLc_of hsl (tR_out S q fun d v H1 Hd1 S1 g1 hd _ q1 => ?_)
  simp only [asgT] at q1
  split at q1
  · rename_i ρ1 h2
    split at h2
    · rename_i hi
      cases h2
      exact q1 _ H1 Hd1 Ext.rfl' (S1.set hd hi)
    · cases h2
  · exact q1.elim
theorem dS_ownLc {i : Nat} {y : Str} {py spos : Pos} {vs : List Nat} (hc : X.calm = true) (hN : X.N.Nodup) (hy : X.N[i]? = some y) (hyl : X.env.scope.names.lookup y = some .local)
    (hsw : swapsWith (.ListComp elt [⟨tg, iter, ifs, 0⟩] scope pos) (some (.Name y py)) spos.line X.env = pure true) (hi : PI X tg iter (tDi p it)) (ok : BlkOk X.N X.env.scope scope own)
    (hg : ∀ (s : Shared) (H : Hp) (C : Addr) (cl : List (Str × Addr)) (fp : List Addr), PG (X.blk s H scope (compEnvC scope cl C X.env) fp) tg (tG t)) (ht : ∀ (s : Shared) (H : Hp) (C : Addr) (cl : List (Str × Addr)) (fp : List Addr), PTs (X.blk s H scope (compEnvC scope cl C X.env) fp) ifs (tDc p.nox c))
    (he : ∀ (s : Shared) (H : Hp) (C : Addr) (cl : List (Str × Addr)) (fp : List Addr), PE (X.blk s H scope (compEnvC scope cl C X.env) fp) elt (tD p.nox ex)) (hv : own.map (·.2) = vs := by rfl) (hsl : ∀ i ∈ t.sl, i ∈ vs := by decide) (hs : ∀ x, foldedSetIterable iter X.env x = pure x := by intro _; rfl) :
    PS X (.Assign [.Name y py] (.ListComp elt [⟨tg, iter, ifs, 0⟩] scope pos) spos) (tS p wf (.own i (.lc t it c ex vs))) := by
  subst hv
  exact psI (ps_setLc hc hN hy hyl hsw hi ok hg ht he hs) fun D σ H q => tLc_ofN hsl (tN_asg q)
end
/-! ### room -/
theorem hu65 {A : Around} {k : Nat} (hr : Room k A) : A.units + 65 < cLine := by have := hr.un; omega
/-! ### a def -/
section
variable {P : Program} {w : World} {K : PySem.W.Frag} {mg : Str → Option Value} {base : Heap}
theorem start_stt {H Hd : Hp} {N : List Str} {vs : List V} {ds : List D} (ex : Ext Hd H) (h : DaAll Hd ds vs) (hl : vs.length ≤ N.length) : Stt H Hd Hd H (start N vs) (startX N.length ds) := by
  have hlen := h.len
  refine ⟨ex, Gr.refl ex, by unfold L2.start startX; simp; omega, fun i s hs => ?_, fun i j es fs v h1 => ?_⟩
  · unfold startX at hs
    unfold L2.start
    by_cases hi : i < ds.length
    · rw [List.getElem?_append_left (by simpa using hi)] at hs
      rw [List.getElem?_append_left (by simp; omega)]
      rw [List.getElem?_map] at hs ⊢
      cases hd : ds[i]? with
      | none => rw [hd] at hs; cases hs
      | some d =>
        rw [hd] at hs
        cases hs
        obtain ⟨v, h1, h2⟩ := h.get hd
        exact ⟨v, by rw [h1]; rfl, h2⟩
    · rw [List.getElem?_append_right (by simpa using hi)] at hs
      have := List.mem_of_getElem? hs
      have := List.eq_of_mem_replicate this
      cases this
  · unfold startX at h1
    by_cases hi : i < ds.length
    · rw [List.getElem?_append_left (by simpa using hi), List.getElem?_map] at h1
      cases hd : ds[i]? with
      | none => rw [hd] at h1; cases h1
      | some d => rw [hd] at h1; cases h1
    · rw [List.getElem?_append_right (by simpa using hi)] at h1
      have := List.mem_of_getElem? h1
      have := List.eq_of_mem_replicate this
      cases this
/-- a def keeps its promise one level up, from its body's derivation -/
theorem fn_body {sub : Str → Str → Bool} {wf : Nat} {tbl : Str → Option Df} {k : Nat} {x : Str} {st : Stmt} {f : Addr} {fd : FuncData} {N ps : List Str} {s : S} (F : L2.Fun K x x st f fd) (sc : FnScope N ps (defScope st)) (ht : tbl x = some ⟨N.length, ps.length, s⟩) (hps : ps.length ≤ N.length)
    (hb : ∀ (cdv : Value) (A : Around) (outer : List Env) (sh : Shared) (H : Hp) (E : XK), Room k (A.deeper (envOfC x (defScope st) sh.heap.objs.size f cdv)) →
      PSs (cxOf (L2.CX P w) P w K mg base N x (defScope st) f cdv A outer sh H E) (defBody st) (tS ⟨call sub wf tbl k, sub, mg, fun cls d _ H => E cls d H⟩ wf s)) :
    FnOk P w K mg base (L2.CX P w) (k + 1) f fd ps (spD (call sub wf tbl (k + 1)) mg x ps.length) := by
  refine F.okX sc (fun vs H Q E h => h.1) (fun cdv A outer sh H vs Q E hr h => ⟨_, hb cdv A outer sh H E hr, ?_⟩)
  obtain ⟨hl, Hd, ds, ex, hd, q⟩ := h
  have hlen := hd.len
  refine ⟨H, Hd, startX N.length ds, Hd, start_stt ex hd (by omega), ?_⟩
  simp only [call, ht] at q
  rw [if_pos (by omega)] at q
  show Cs _ H Hd Hd _ (exec (call sub wf tbl k) sub wf s (startX N.length ds))
  cases hx : exec (call sub wf tbl k) sub wf s (startX N.length ds) with
  | bad => rw [hx] at q; exact q
  | brk ρ => rw [hx] at q; exact q.elim
  | cnt ρ => rw [hx] at q; exact q.elim
  | nxt ρ =>
    rw [hx] at q
    exact fun σ' H' Hd' e' S' => q _ H' Hd' S'.gr (by simp only [Da])
  | ret d =>
    rw [hx] at q
    exact q
  | exc c ρ =>
    rw [hx] at q
    exact fun σ' H' Hd' e' S' => q H' S'.gr.a
theorem fn_zero {sub : Str → Str → Bool} {wf : Nat} {tbl : Str → Option Df} {x : Str} {f : Addr} {fd : FuncData} {ps : List Str} {CX : CXT} : FnOk P w K mg base CX 0 f fd ps (spD (call sub wf tbl 0) mg x ps.length) :=
  ⟨fun vs H Q E h => h.1, fun A outer s H args us vs Q E _ _ _ _ h => by
    obtain ⟨_, Hd, ds, _, _, q⟩ := h
    simp only [call] at q⟩
/-- the def x stands in the text as st, with the parameters ps -/
def At (K : PySem.W.Frag) (mg : Str → Option Value) (x : Str) (st : Stmt) (ps : List Str) : Prop := ∃ fa fd, L2.Fun K x x st fa fd ∧ mg x = some (.ref fa) ∧ PySem.W.keepIn K (.ref fa) = true ∧ Binds K fd ps []
theorem at_mk {h : Heap} {x : Str} {st : Stmt} {ps : List Str} {f : Addr} {oc kV doc pm cdv ct : Value} {od an : Option Addr} {osl : Array (Option Value)} (hX : K.In h) (G : h.Ns mainGlobals mg) (a : PySem.W.nsIn K mainGlobals x = some (some (.ref f)))
    (l : K.lookup f = some ⟨oc, od, .func (PySem.W.fnOf x x (defArgs st) (defBody st) (defScope st) .none kV doc pm an cdv ct), osl⟩) (c : PySem.W.codeIn K cdv x = true) (k : PySem.W.keepIn K (.ref f) = true)
    (b : ∀ {fd : FuncData}, L2.Fun K x x st f fd → Binds K fd ps []) : At K mg x st ps :=
  let F := fun_mk (st := st) l c k
  ⟨f, _, F, PySem.W.mg_of hX G a, k, b F⟩
theorem At.zero {sub : Str → Str → Bool} {wf : Nat} {tbl : Str → Option Df} {x : Str} {st : Stmt} {ps : List Str} (a : At K mg x st ps) : Fn P w K mg base (call sub wf tbl 0) 0 x ps.length :=
  let ⟨fa, fd, F, h1, h2, h3⟩ := a
  ⟨fa, fd, ps, fn_zero, h1, h2, h3⟩
theorem At.succ {sub : Str → Str → Bool} {wf : Nat} {tbl : Str → Option Df} {x : Str} {st : Stmt} {N ps : List Str} {s : S} {k : Nat} (a : At K mg x st ps) (sc : FnScope N ps (defScope st)) (ht : tbl x = some ⟨N.length, ps.length, s⟩) (hps : ps.length ≤ N.length)
    (hb : ∀ (f : Addr) (cdv : Value) (A : Around) (outer : List Env) (sh : Shared) (H : Hp) (E : XK), Room k (A.deeper (envOfC x (defScope st) sh.heap.objs.size f cdv)) →
      PSs (cxOf (L2.CX P w) P w K mg base N x (defScope st) f cdv A outer sh H E) (defBody st) (tS ⟨call sub wf tbl k, sub, mg, fun cls d _ H => E cls d H⟩ wf s)) : Fn P w K mg base (call sub wf tbl (k + 1)) (k + 1) x ps.length :=
  let ⟨fa, fd, F, h1, h2, h3⟩ := a
  ⟨fa, fd, ps, fn_body F sc ht hps (hb fa), h1, h2, h3⟩
/-- the law's promise -/
def spL (K : PySem.W.Frag) : Sp := fun vs H Q _ => ∃ (a : Addr) (ns : List Int), vs = [.ref a] ∧ SqL K H a (ns.map V.int) ∧ ns.length ≤ 63 ∧ ∀ H', Q (.bl true) H'
theorem law_fn {cal : Str → List D → R D} {x : Str} {fa : Addr} {fd : FuncData} {ps : List Str} {k : Nat} (hps : ps.length = 1) (F : FnOk P w KF.K mg base (L2.CX P w) k fa fd ps (spD cal mg x 1)) (hL : ∀ ns : List Int, ns.length ≤ 63 → cal x [scr (ns.map PyData.int)] = .val (.bool true)) :
    FnOk P w KF.K mg base (L2.CX P w) k fa fd ps (spL KF.K) := F.imp fun vs H Q E ⟨a, ns, h1, h2, h3, q⟩ => by
  subst h1
  refine ⟨rfl, H, [scr (ns.map PyData.int)], Ext.rfl', DaAll.cons (by simp only [scr, Da]; exact .inl ⟨a, ns, rfl, rfl, h2⟩) DaAll.nil, ?_⟩
  rw [hL ns h3]
  intro v H' Hd' g hv
  simp only [Da] at hv
  subst hv
  exact q H'
end
theorem exm_mk {K : PySem.W.Frag} {A B : Addr} {b : Bool} (h1 : PySem.W.subIn K (.ref B) (.type "BaseException") = some true) (h2 : PySem.W.hasDictIn K B = true) (h3 : PySem.W.typeIn K (.ref B) = some (.type "type")) (h4 : PySem.W.subIn K (.ref A) (.ref B) = some b) : PySem.W.exmOne K (.ref A) (.ref B) = some b :=
  PySem.W.exm_ref h1 h2 h3 h4
end Mp
namespace Mp
open PySem L2
open PyProof.Rows hiding St
/-! ### what is read off the head -/
abbrev DefF (K : PySem.W.Frag) (x : Str) (st : Stmt) : Prop := ∃ (f : Addr) (oc : Value) (od : Option Addr) (kV doc pm : Value) (an : Option Addr) (cdv ct : Value) (osl : Array (Option Value)), PySem.W.nsIn K mainGlobals x = some (some (.ref f)) ∧
  K.lookup f = some ⟨oc, od, .func (PySem.W.fnOf x x (defArgs st) (defBody st) (defScope st) .none kV doc pm an cdv ct), osl⟩ ∧ PySem.W.codeIn K cdv x = true ∧ PySem.W.keepIn K (.ref f) = true
abbrev ExcF (K : PySem.W.Frag) (x : Str) : Prop := ∃ C : Addr, PySem.W.nsIn K mainGlobals x = some (some (.ref C)) ∧ PySem.W.excIn K C veTail "ValueError.__new__" = true ∧ PySem.W.keepIn K (.ref C) = true ∧ PySem.W.subIn K (.ref C) (.type "BaseException") = some true ∧
  PySem.W.typeIn K (.ref C) = some (.type "type") ∧ PySem.W.findIn K (.ref C) "__getattribute__" = some (some (.builtin "BaseException.__getattribute__")) ∧ PySem.W.findIn K (.ref C) "__getattr__" = some none ∧ PySem.W.hasDictIn K C = true ∧
  PySem.W.findIn K (.ref C) "__class__" = some (some (.builtin "object.__class__")) ∧ PySem.W.mroIn K C (.type "object") = some true ∧ PySem.W.isClsIn K C = true ∧ PySem.W.subIn K (.ref C) (.ref C) = some true
abbrev ExcG (K : PySem.W.Frag) : Prop := PySem.W.specialIn K (.builtin "object.__class__") "__get__" = some (some (.builtin "getset_descriptor.__get__")) ∧ PySem.W.takesIn K (.builtin "object.__class__") = some true
abbrev ExcP (K : PySem.W.Frag) (x y : Str) (b : Bool) : Prop := ∃ C E : Addr, PySem.W.nsIn K mainGlobals x = some (some (.ref C)) ∧ PySem.W.nsIn K mainGlobals y = some (some (.ref E)) ∧ PySem.W.subIn K (.ref C) (.ref E) = some b
abbrev StrF (K : PySem.W.Frag) (x y : Str) : Prop := ∃ t : Tok, PySem.W.nsIn K mainGlobals x = some (some (.str y t))
abbrev IntF (K : PySem.W.Frag) (x : Str) (i : Int) : Prop := ∃ t : Tok, PySem.W.nsIn K mainGlobals x = some (some (.int i t))
section
variable {K : PySem.W.Frag} {x y : Str}
theorem StrF.mk {t : Tok} (a : PySem.W.nsIn K mainGlobals x = some (some (.str y t))) : StrF K x y := ⟨t, a⟩
theorem IntF.mk {i : Int} {t : Tok} (a : PySem.W.nsIn K mainGlobals x = some (some (.int i t))) : IntF K x i := ⟨t, a⟩
theorem DefF.mk {st : Stmt} {f : Addr} {oc : Value} {od : Option Addr} {kV doc pm : Value} {an : Option Addr} {cdv ct : Value} {osl : Array (Option Value)} (a : PySem.W.nsIn K mainGlobals x = some (some (.ref f)))
    (l : K.lookup f = some ⟨oc, od, .func (PySem.W.fnOf x x (defArgs st) (defBody st) (defScope st) .none kV doc pm an cdv ct), osl⟩) (c : PySem.W.codeIn K cdv x = true) (k : PySem.W.keepIn K (.ref f) = true) : DefF K x st := ⟨_, _, _, _, _, _, _, _, _, _, a, l, c, k⟩
theorem ExcF.mk {C : Addr} (a : PySem.W.nsIn K mainGlobals x = some (some (.ref C))) (e1 : PySem.W.excIn K C veTail "ValueError.__new__" = true) (e2 : PySem.W.keepIn K (.ref C) = true) (e3 : PySem.W.subIn K (.ref C) (.type "BaseException") = some true) (e4 : PySem.W.typeIn K (.ref C) = some (.type "type"))
    (e5 : PySem.W.findIn K (.ref C) "__getattribute__" = some (some (.builtin "BaseException.__getattribute__"))) (e6 : PySem.W.findIn K (.ref C) "__getattr__" = some none) (e7 : PySem.W.hasDictIn K C = true) (e8 : PySem.W.findIn K (.ref C) "__class__" = some (some (.builtin "object.__class__"))) (e9 : PySem.W.mroIn K C (.type "object") = some true)
    (e10 : PySem.W.isClsIn K C = true) (e11 : PySem.W.subIn K (.ref C) (.ref C) = some true) : ExcF K x := ⟨_, a, e1, e2, e3, e4, e5, e6, e7, e8, e9, e10, e11⟩
theorem ExcP.mk {C E : Addr} {b : Bool} (a : PySem.W.nsIn K mainGlobals x = some (some (.ref C))) (a2 : PySem.W.nsIn K mainGlobals y = some (some (.ref E))) (a3 : PySem.W.subIn K (.ref C) (.ref E) = some b) : ExcP K x y b := ⟨_, _, a, a2, a3⟩
end
section
variable [KF]
theorem DefF.at {K : PySem.W.Frag} {mg : Str → Option Value} {h : Heap} {x : Str} {st : Stmt} {ps : List Str} (hX : K.In h) (G : h.Ns mainGlobals mg) (d : DefF K x st) (b : ∀ {f : Addr} {fd : FuncData}, L2.Fun K x x st f fd → Binds K fd ps []) : At K mg x st ps :=
  let ⟨_, _, _, _, _, _, _, _, _, _, a, l, c, k⟩ := d
  at_mk hX G a l c k b
theorem exc_pair {K : PySem.W.Frag} {C E : Addr} {b : Bool} (h0 : PySem.W.subIn K (.ref C) (.ref C) = some true) (h1 : PySem.W.subIn K (.ref E) (.type "BaseException") = some true) (h2 : PySem.W.isClsIn K E = true) (h3 : PySem.W.typeIn K (.ref E) = some (.type "type")) (h4 : PySem.W.subIn K (.ref C) (.ref E) = some b) :
    PySem.W.exmOne K (.ref C) (.ref E) = some b ∧ PySem.W.kitOne K (.ref C) (.ref E) = some b := by
  have e2 : ((PySem.W.clsIn K E).isSome && PySem.W.typeIn K (.ref E) == some (.type "type")) = true := by
    have h2' : (PySem.W.clsIn K E).isSome = true := h2
    rw [h2', h3]; rfl
  have kc : PySem.W.kitCls K (.ref C) (.ref E) = some b := by
    unfold PySem.W.kitCls
    show (if ((PySem.W.clsIn K E).isSome && PySem.W.typeIn K (.ref E) == some (.type "type")) = true then PySem.W.subIn K (.ref C) (.ref E) else none) = some b
    rw [if_pos e2]; exact h4
  refine ⟨?_, ?_⟩
  · unfold PySem.W.exmOne
    rw [if_pos (by rw [h1]; rfl)]; exact kc
  · unfold PySem.W.kitOne
    split
    · rename_i he
      have he : (Value.ref C) = Value.ref E := by simpa using he
      cases he
      rw [h0] at h4; exact h4
    · exact kc
theorem ExcF.ok {K : PySem.W.Frag} {mg : Str → Option Value} {h : Heap} {sub : Str → Str → Bool} {ks : List Str} {x : Str} (hX : K.In h) (G : h.Ns mainGlobals mg) (g : ExcG K) (e : ExcF K x) (hp : ∀ d ∈ ks, ExcP K x d (sub x d)) (hE : ∀ d ∈ ks, ExcF K d) : ∃ C, XcOk K mg sub ks x C := by
  obtain ⟨C, a, e1, e2, e3, e4, e5, e6, e7, e8, e9, e10, e11⟩ := e
  refine ⟨C, PySem.W.mg_of hX G a, e1, e2, e3, e4, ⟨e5, e6, e3, e7, e8, g.1, g.2, e9⟩, fun d hd => ?_⟩
  obtain ⟨C', E, a1, a2, a3⟩ := hp d hd
  obtain ⟨E', b, _, _, f3, f4, _, _, _, _, _, f10, _⟩ := hE d hd
  rw [a] at a1
  cases a1
  rw [a2] at b
  cases b
  exact ⟨E, PySem.W.mg_of hX G a2, exc_pair e11 f3 f10 f4 a3⟩
theorem ExcF.mg {K : PySem.W.Frag} {mg : Str → Option Value} {h : Heap} {x : Str} (hX : K.In h) (G : h.Ns mainGlobals mg) (e : ExcF K x) : mg x = some (exv mg x) := by
  obtain ⟨C, a, _⟩ := e
  have := PySem.W.mg_of hX G a
  rw [this, exv_of this]
theorem StrF.mg {K : PySem.W.Frag} {mg : Str → Option Value} {h : Heap} {x y : Str} (hX : K.In h) (G : h.Ns mainGlobals mg) (e : StrF K x y) : ∃ t, mg x = some (.str y t) := let ⟨t, a⟩ := e; ⟨t, PySem.W.mg_of hX G a⟩
theorem IntF.mg {K : PySem.W.Frag} {mg : Str → Option Value} {h : Heap} {x : Str} {i : Int} (hX : K.In h) (G : h.Ns mainGlobals mg) (e : IntF K x i) : ∃ t, mg x = some (.int i t) := let ⟨t, a⟩ := e; ⟨t, PySem.W.mg_of hX G a⟩
end
end Mp

set_option Elab.async false
set_option linter.all false
set_option maxRecDepth 100000
set_option maxHeartbeats 4000000
/-! enumerate over a tuple -/
namespace Mp
open PySem L2
open PyProof.Rows hiding St
open AutoSeq1 (wpAny_loadPart')
variable [KF]
def tIt (t : Addr) : Obj := { cls := .type "tuple_iterator", data := .fields #[.ref t, .int 0 0] }
def eOb (i : Addr) : Obj := { cls := .type "enumerate", data := .fields #[.none, .bool false, .ref i, rawInt 0, .none, .none] }
omit [KF] in
theorem en_new (t : Addr) (vs : Array Value) (n : Nat) (dc : Option Addr) (so : Array (Option Value)) : Meets (Builtin.«enumerate.__new__» ⟨[.type "enumerate", .ref t], []⟩) (fun _ R s => s.heap.get? t = some { cls := .type "tuple", dict := dc, data := .seq vs n, slots := so } ∧ R (.ok (.ret (.ref (s.heap.push (tIt t)).objs.size))) { s with heap := (s.heap.push (tIt t)).push (eOb s.heap.objs.size) }) :=
  .of_wp fun P w A R s q => by
    obtain ⟨hp, g, dd, tk, os⟩ := s
    obtain ⟨ht, q⟩ := q
    have hsub := sub_enumerate
    have hT : Heap.IsTuple (Shared.heap ⟨hp, g, dd, tk, os⟩) t vs := ⟨_, ht, rfl, n, rfl⟩
    wp_walk using wpAny_loadPart' ht
    refine wpAny_stack_any fun st => wpAny_pure ?_
    split
    · rename_i k _ _ _ _ _
      cases (k == Value.type "enumerate") <;> (wp_walk using wpAny_loadPart' ht, wpAny_pyIter_tuple hT; exact ⟨_, rfl, q⟩)
    · wp_walk using wpAny_loadPart' ht, wpAny_pyIter_tuple hT
      exact ⟨_, rfl, q⟩
omit [KF] in
theorem en_call {P : Program} {w : World} {A : Around} {E : Value → Shared → Prop} {s : Shared} {t : Addr} {vs : Array Value} {Q : Value → Shared → Prop} (hT : s.heap.IsTuple t vs)
    (q : ∀ h', IsEnum h' (s.heap.objs.size + 1) s.heap.objs.size 0 .none → h'.IsTupleIter s.heap.objs.size t 0 → (∀ b o, s.heap.get? b = some o → h'.get? b = some o) → Q (.ref (s.heap.objs.size + 1)) { s with heap := h' }) : wpAny (model P w) A (PySem.call (.type "enumerate") [.ref t]) Q E s := by
  obtain ⟨⟨c, dc, dt, so⟩, ht, hc, n, hd⟩ := hT
  replace hc : c = .type "tuple" := hc
  replace hd : dt = .seq vs n := hd
  subst hc hd
  refine callType_new F.called_enumerate (by decide) (F.typeCall_enumerate_1 _) (F.newCall_enumerate_1 _) (fun ob => F.args_object_init_2 ob _) F.entry_enumerate_new (en_new t vs n dc so) ⟨ht, ?_⟩
  have hz : (s.heap.push (tIt t)).objs.size = s.heap.objs.size + 1 := Heap.size_push ..
  show _ ∧ _
  rw [hz]
  have he : IsEnum ((s.heap.push (tIt t)).push (eOb s.heap.objs.size)) (s.heap.objs.size + 1) s.heap.objs.size 0 .none := by
    have a := Heap.get?_push_size (s.heap.push (tIt t)) (o := eOb s.heap.objs.size) rfl
    rw [hz] at a
    exact a
  exact ⟨⟨_, he, rfl⟩, q _ he ⟨_, Heap.get?_push_of_some _ (Heap.get?_push_size _ rfl), rfl, rfl⟩ fun b o x => Heap.get?_push_of_some _ (Heap.get?_push_of_some _ x)⟩
/-- the tuple at a, each item in a new pair -/
def Itn (K : PySem.W.Frag) (a : Addr) : L2.It where
  go := fun i H => ∃ (xs : List V) (x : V), SqT K H a xs ∧ xs[i]? = some x
  yld := fun i H v H' => ∃ T x, v = .ref T ∧ H T = none ∧ H' = upd H T (.tup [.int (i : Nat), x]) ∧ ∀ xs, SqT K H a xs → xs[i]? = some x
  stop := fun i H => ∃ xs : List V, SqT K H a xs ∧ xs.length = i
omit [KF] in
theorem turn_n {P : Program} {w : World} {K : PySem.W.Frag} {es : List Expr} {kk : Nat} {tp : Pos} (a e it : Addr) : Turn P w K (.Tuple es kk tp) (Itn K a) [e, it] e (fun i h => (∃ old, IsEnum h e it ((i : Nat) : Int) old) ∧ h.IsTupleIter it a i ∧ e ≠ it) where
  mem := by simp
  obj := fun i h st b hb => by
    obtain ⟨⟨old, he⟩, ⟨o, ho, _, hd⟩, _⟩ := st
    rcases (show b = e ∨ b = it by simpa using hb) with z | z
    · rw [z]; exact ⟨_, he, fun v q => nomatch q⟩
    · rw [z]; exact ⟨o, ho, fun v q => by rw [hd] at q; cases q⟩
  keep := fun i h h' st k => let ⟨⟨old, he⟩, hi, hne⟩ := st; ⟨⟨old, k e (by simp) _ he⟩, hi.at fun o q => k it (by simp) o q, hne⟩
  item := by
    intro X hP hw hK hc i pins s σ H E I hf st hg
    subst hP hw hK
    obtain ⟨⟨old, he⟩, hit, hne⟩ := st
    obtain ⟨xs, x, hq, hx⟩ := hg
    obtain ⟨its, rv, p, hz⟩ := I.tuple hq
    obtain ⟨u, hu, ru⟩ := rv.get hx
    have hel : e < s.heap.objs.size := Heap.lt_size he
    have hil : it < s.heap.objs.size := by obtain ⟨_, q, _⟩ := hit; exact Heap.lt_size q
    have hTp : s.heap.IsTuple a its.toArray := p
    have hai : a ≠ it := fun z => by
      obtain ⟨o1, g1, c1, _⟩ := hTp
      obtain ⟨o2, g2, c2, _⟩ := hit
      rw [z, g2] at g1
      cases g1
      rw [c1] at c2
      exact absurd c2 (by decide)
    have hea : e ≠ a := fun z => by
      obtain ⟨o1, g1, c1, _⟩ := hTp
      rw [← z, he] at g1
      cases g1
      exact absurd (show Value.type "enumerate" = Value.type "tuple" from c1) (by decide)
    have D := Draws.tuple (prog := X.prog) (w := X.w) (A := X.A.in1) (show X.A.in1.handled = none from I.ok.hd hc) it a hai its.toArray
    have hlt : i < its.toArray.size := by
      have := (List.getElem?_eq_some_iff.mp hu).1
      simpa using this
    refine wpAny_pyNext_enum_itemD D he ⟨hit, hTp⟩ hlt hne (by simp [hne, hea]) fun y h' tk hy ho hst hT hsz hk => ?_
    have hyu : y = u := by
      have : its[i]? = some y := by simpa using hy
      rw [hu] at this
      exact (Option.some.inj this).symm
    subst hyu
    refine ⟨_, rfl, wpAny_letOwnedTupleGo_enum (s := { s with heap := h', toks := tk + 1 }) ho fun h2 he2 sb => ?_⟩
    have hT2 : h2.get? s.heap.objs.size = some { cls := .type "tuple", data := .seq #[.int i tk, y] } := (sb.2 _ (Nat.ne_of_gt hel)).trans hT
    have new : ObjOk X.prog X.w (upd H s.heap.objs.size (.tup [.int (i : Nat), x])) h2 s.heap.objs.size (.tup [.int (i : Nat), x]) := ⟨by show 2 ≤ sizeLine; decide, [.int i tk, y], .cons ⟨_, rfl⟩ (.cons ru .nil), ⟨_, hT2, rfl, _, rfl⟩⟩
    have I1 : Inv X pins σ (upd H s.heap.objs.size (.tup [.int (i : Nat), x])) { s with heap := h2, toks := tk + 1 } := I.turnedNew (t' := tk + 1) (ch := [e, it]) (fun b ob hb q => (sb.2 b (fun z => hb (by simp [z]))).trans (hk b ob (fun z => hb (by simp [z])) (fun z => hb (by simp [z])) q)) hf (Nat.le_refl _) new
    refine ⟨.ref s.heap.objs.size, _, I1, rfl, ⟨_, x, rfl, I.hok.fresh (Nat.le_refl _), rfl, fun ys hy => by rw [I.tuple_inj hy hq]; exact hx⟩, ⟨⟨y, ?_⟩, hst.1.at fun o q => (sb.2 it (Ne.symm hne)).trans q, hne⟩, fun b hb => ?_⟩
    · have e1 : ((i + 1 : Nat) : Int) = (i : Int) + 1 := by omega
      rw [e1]; exact he2
    · have hb' : b < s.heap.objs.size := by
        rcases (show b = e ∨ b = it by simpa using hb) with z | z
        · rw [z]; exact hel
        · rw [z]; exact hil
      rw [upd_ne (Nat.ne_of_lt hb')]
      exact (hf b hb).1
  done := by
    intro X hP hw hK hc i pins s σ H E I hf st hg
    subst hP hw hK
    obtain ⟨⟨old, he⟩, hit, hne⟩ := st
    obtain ⟨xs, hq, hx⟩ := hg
    obtain ⟨its, rv, p, hz⟩ := I.tuple hq
    obtain ⟨f0, f1, f2, f3, f4, f5⟩ := hf it (by simp)
    have hl := rv.length
    have hTp : s.heap.IsTuple a its.toArray := p
    have hai : a ≠ it := fun z => by
      obtain ⟨o1, g1, c1, _⟩ := hTp
      obtain ⟨o2, g2, c2, _⟩ := hit
      rw [z, g2] at g1
      cases g1
      rw [c1] at c2
      exact absurd c2 (by decide)
    have D := Draws.tuple (prog := X.prog) (w := X.w) (A := X.A.in1) (show X.A.in1.handled = none from I.ok.hd hc) it a hai its.toArray
    have hn : its.toArray.size = i := by simp; omega
    exact wpAny_pyNext_enum_endD D he ⟨by rw [hn]; exact hit, hTp⟩ fun h' eb => ⟨rfl, I.turned (t' := s.toks) (fun b o hb q => eb b o hb q) f0 f1 f3 f4 f5⟩
  self := fun A i s Q E st h => let ⟨⟨_, he⟩, _⟩ := st; wpAny_pyIter_enum he h
def iEnT (K : PySem.W.Frag) (ta : TA) : TI := fun σ H R => ta σ H fun vs H1 => ∃ a xs, vs = [.ref a] ∧ SqT K H1 a xs ∧ R (Itn K a) H1
omit [KF] in
theorem pi_enT {X : Cx} {e : Expr} {ta : TA} {pp pos tp : Pos} {es : List Expr} {kk : Nat} (hg : Gl X "enumerate") (hm : X.mg "enumerate" = none) (ha : PA X [e] ta) (hs : starEach [e] X.env = [(false, eval e X.env)] := by rfl) : PI X (.Tuple es kk tp) (.Call (.Name "enumerate" pp) [e] [] pos) (iEnT X.K ta) := by
  refine ⟨fun pins s σ H R I h => Call_ (ld_blt I hg hm boot_enumerate (callWith_type1 (thn (ha.run pos pins s σ H _ I h) fun us s1 ⟨vs, H1, I1, r1, q1⟩ => ?_) hs rfl))⟩
  obtain ⟨a, xs, ex, hq, q⟩ := q1
  subst ex
  cases r1 with
  | cons r rr =>
    cases rr
    cases r
    obtain ⟨its, rv, p', hz⟩ := I1.tuple hq
    refine en_call (show s1.heap.IsTuple a its.toArray from p') fun h' he hit hk => wpAny_pyIter_enum he ?_
    refine ⟨s1.heap.objs.size + 1, [s1.heap.objs.size + 1, s1.heap.objs.size], _, _, H1, rfl, I1.kept (t' := s1.toks) hk, turn_n a (s1.heap.objs.size + 1) s1.heap.objs.size, ⟨⟨.none, he⟩, hit, Nat.succ_ne_self _⟩, fun b hb => ?_, q⟩
    have hle : s1.heap.objs.size ≤ b := by
      rcases (show b = s1.heap.objs.size + 1 ∨ b = s1.heap.objs.size by simpa using hb) with z | z
      · rw [z]; exact Nat.le_add_right _ _
      · rw [z]; exact Nat.le_refl _
    exact I1.fpOk hle (I1.hok.fresh hle)
theorem wk_enumT {K : PySem.W.Frag} {Hd : Hp} {ds : List D} {xs : List V} {a : Addr} (h : Hd a = some (.tup xs)) (hd : DaAll Hd ds xs) : Wk Hd (enumX 0 ds) (Itn K a) := by
  have l1 := hd.len
  have l2 := enumX_len 0 ds
  refine ⟨fun i H hi e => ⟨xs, xs[i]'(by omega), SqT.of (e _ _ h), List.getElem?_eq_getElem (by omega)⟩, fun H e => ⟨xs, SqT.of (e _ _ h), by omega⟩, fun i H v H' Hc hi e1 e2 ⟨T, x, q1, q2, q3, q4⟩ => ?_⟩
  obtain ⟨d, hd1, hd2⟩ := hd.get' (q4 xs (SqT.of (e2 _ _ (e1 _ _ h))))
  subst q1 q3
  refine ⟨.tuple [.int ((0 + i : Nat) : Int), d], _, enumX_get hd1, Gr.new e2 q2, ?_⟩
  rw [Nat.zero_add]
  exact da_new_tup e2 q2 (DaAll.cons (by simp only [Da]) (DaAll.cons (Da.ext e1 _ _ hd2) DaAll.nil))
section
variable {X : Cx} {p : Pr} {a : Expr} {ea : Ex} {pos pp tpos : Pos} {elts : List Expr} {kk : Nat}
theorem dI_enumT (hg : Gl X "enumerate") (hm : X.mg "enumerate" = none) (ha : PE X a (tD p ea)) (hs : starEach [a] X.env = [(false, eval a X.env)] := by rfl) : PI X (.Tuple elts kk tpos) (.Call (.Name "enumerate" pp) [a] [] pos) (tDi p (.enumT ea)) :=
  piI (pi_enT hg hm (pa_cons ha pa_nil hs) hs) fun σ H R ⟨H0, Hd0, ρ, Hd, S, q⟩ => by
    simp only [evi] at q
    refine tR_bnd S q fun d v H1 Hd1 S1 g1 hd _ q1 => ?_
    obtain ⟨z, hz, q2⟩ := q1.ofO'
    cases d <;> simp only [enumTS] at hz <;> cases hz
    simp only [Da] at hd
    obtain ⟨c, xs, rfl, h1, h2⟩ := hd
    exact ⟨c, xs, rfl, SqT.of (S1.ex _ _ h1), q2.here S1.ex (wk_enumT h1 h2)⟩
end
theorem dT_bor {X : Cx} {p : Pr} {e : Expr} {ex : Ex} (h : PT X e (tDt p ex)) : PT X e (tDt p (.bor ex)) := ptI h fun σ H Q ⟨H0, Hd0, ρ, Hd, S, q⟩ => by
  simp only [ev] at q
  obtain ⟨S', e1⟩ := S.frz
  refine ⟨H0, Hd0, frzAll ρ, _, S', ?_⟩
  show Ct eqR p.mg p.W σ H _ (truR (ev p.cal ex (frzAll ρ))) Q
  cases hx : ev p.cal ex (frzAll ρ) with
  | bad => rw [hx] at q; exact q
  | exc c =>
    rw [hx] at q
    intro H' Hd' g
    exact q H' Hd (Gr.keep S.ex g.a)
  | val d =>
    rw [hx] at q
    simp only [truR, R.bnd_val] at q ⊢
    split at q
    · simp only [R.bnd_val] at q
      cases ht : truth d with
      | none => rw [ht] at q; exact q
      | some k =>
        rw [ht] at q
        intro v H' Hd' g hv
        exact q v H' Hd (Gr.keep S.ex g.a) hv
    · exact q.elim
end Mp

set_option Elab.async false
set_option linter.all false
set_option maxRecDepth 100000
set_option maxHeartbeats 4000000
/-! comprehensions with two fors -/
namespace Mp
open PySem L2
open PyProof.Rows hiding St
variable [KF]
section
variable {X : Cx} {p : Pr} {t t1 : Tg} {it it1 : It} {c c1 : Eo} {e : Ex}
def lcStep2 (cal : Str → List D → R D) (t : Tg) (c : Eo) (t1 : Tg) (it1 : It) (c1 : Eo) (e : Ex) (vs1 : List Nat) (ρ : Rho) : D → R (List D) := fun x => match asgT t x ρ with
  | some ρ1 => (evt cal c ρ1).bnd fun k => match k with
    | true => (evi cal it1 ρ1).bnd fun xs1 => lcF (lcStep cal t1 c1 e (wipeX ρ1 vs1)) xs1
    | false => .val []
  | none => .bad
theorem ev_lc2 {cal : Str → List D → R D} {vs vs1 : List Nat} {ρ : Rho} : ev cal (.lc2 t it c t1 it1 c1 e vs vs1) ρ = (evi cal it ρ).bnd fun xs => (lcF (lcStep2 cal t c t1 it1 c1 e vs1 (wipeX ρ vs)) xs).bnd fun ds => ofO (mkL ds) := by
  simp only [ev]; rfl
theorem lcStep2_val {cal : Str → List D → R D} {vs1 : List Nat} {ρ : Rho} {x : D} {o : List D} (h : lcStep2 cal t c t1 it1 c1 e vs1 ρ x = .val o) : ∃ ρ1 k, asgT t x ρ = some ρ1 ∧ evt cal c ρ1 = .val k ∧ (k = true → ∃ xs1, evi cal it1 ρ1 = .val xs1 ∧ lcF (lcStep cal t1 c1 e (wipeX ρ1 vs1)) xs1 = .val o) ∧ (k = false → o = []) := by
  unfold lcStep2 at h
  split at h
  · rename_i ρ1 h1
    cases hk : evt cal c ρ1 with
    | bad => rw [hk] at h; cases h
    | exc c => rw [hk] at h; cases h
    | val k =>
      rw [hk] at h
      simp only [R.bnd_val] at h
      refine ⟨ρ1, k, h1, hk, fun z => ?_, fun z => ?_⟩
      · subst z
        cases hd : evi cal it1 ρ1 with
        | bad => rw [hd] at h; cases h
        | exc c => rw [hd] at h; cases h
        | val xs1 => rw [hd] at h; exact ⟨xs1, rfl, h⟩
      · subst z; cases h; rfl
  · cases h
theorem Stt.mutD {H0 Hd0 Hd H : Hp} {σ : St} {ρ : Rho} {q : Addr} {o : HO} (S : Stt H0 Hd0 Hd H σ ρ) (h0 : H0 q = none) (hd : Hd q = none) (no : ∀ (i : Nat) (ds : List D) (a : Addr), ρ[i]? = some (some (.own ds)) → σ[i]? = some (some (.ref a)) → a ≠ q) : Stt H0 Hd0 Hd (upd H q o) σ ρ := by
  have ex : Ext Hd (upd H q o) := fun a u h => by
    have : a ≠ q := fun z => by rw [z, hd] at h; cases h
    rw [upd_ne this]; exact S.ex a u h
  refine ⟨ex, S.gr.mut h0 hd, S.len, fun i s h => ?_, S.sep⟩
  obtain ⟨v, h1, h2⟩ := S.ok i s h
  refine ⟨v, h1, ?_⟩
  cases s with
  | dat d => exact h2
  | own ds =>
    obtain ⟨a, vs, e, g1, g2, g3, g4⟩ := h2
    subst e
    exact ⟨a, vs, rfl, g1, g2, by rw [upd_ne (no i ds a h h1)]; exact g3, g4⟩
mutual
theorem asgT_own : ∀ {t : Tg} {d : D} {ρ ρ' : Rho}, asgT t d ρ = some ρ' → ∀ (i : Nat) (ds : List D), ρ'[i]? = some (some (.own ds)) → i ∉ t.sl ∧ ρ[i]? = some (some (.own ds))
  | .nm k, d, ρ, ρ', h, i, ds, ho => by
    simp only [asgT] at h
    split at h
    · rename_i hk
      cases h
      by_cases e : k = i
      · subst e
        rw [List.getElem?_set_self hk] at ho
        cases ho
      · rw [List.getElem?_set_ne e] at ho
        exact ⟨by simp only [Tg.sl, List.mem_singleton]; exact fun z => e z.symm, ho⟩
    · cases h
  | .tp ts, .tuple es, ρ, ρ', h, i, ds, ho => by
    simp only [asgT] at h
    exact asgTs_own h i ds ho
  | .tp ts, .none, ρ, ρ', h, i, ds, ho => by simp [asgT] at h
  | .tp ts, .bool _, ρ, ρ', h, i, ds, ho => by simp [asgT] at h
  | .tp ts, .int _, ρ, ρ', h, i, ds, ho => by simp [asgT] at h
  | .tp ts, .str _, ρ, ρ', h, i, ds, ho => by simp [asgT] at h
  | .tp ts, .list _, ρ, ρ', h, i, ds, ho => by simp [asgT] at h
  | .tp ts, .dict _, ρ, ρ', h, i, ds, ho => by simp [asgT] at h
theorem asgTs_own : ∀ {ts : Tgs} {es : List D} {ρ ρ' : Rho}, asgTs ts es ρ = some ρ' → ∀ (i : Nat) (ds : List D), ρ'[i]? = some (some (.own ds)) → i ∉ ts.sl ∧ ρ[i]? = some (some (.own ds))
  | .nil, [], ρ, ρ', h, i, ds, ho => by
    simp only [asgTs] at h
    cases h
    exact ⟨by simp [Tgs.sl], ho⟩
  | .cons t ts, e :: es, ρ, ρ', h, i, ds, ho => by
    simp only [asgTs] at h
    split at h
    · rename_i ρ1 h1
      obtain ⟨a, b⟩ := asgTs_own h i ds ho
      obtain ⟨c, d⟩ := asgT_own h1 i ds b
      exact ⟨by simp only [Tgs.sl, List.mem_append, not_or]; exact ⟨c, a⟩, d⟩
    · cases h
  | .nil, _ :: _, ρ, ρ', h, i, ds, ho => by simp [asgTs] at h
  | .cons _ _, [], ρ, ρ', h, i, ds, ho => by simp [asgTs] at h
end
/-- the turns of the second for -/
theorem lc2_in {vs1 : List Nat} {σ : St} {H0 Hd0 H1 Hd1 H4 Hd4 : Hp} {ρ : Rho} {J : L2.It} {xs ys zs : List D} {Dl : Addr} {Nx : Hp → Prop} (ht : ∀ i ∈ t1.sl, i ∈ vs1) (hD : H1 Dl = none) (h0 : H0 Dl = none) (no : ∀ (i : Nat) (ds : List D) (a : Addr), ρ[i]? = some (some (.own ds)) → σ[i]? = some (some (.ref a)) → a ≠ Dl) (S0 : Stt H0 Hd0 Hd4 H4 σ ρ) (M0 : Mk1 H1 Hd1 Dl zs H4 Hd4) (wk : Wk Hd4 xs J) (hy : lcF (lcStep p.cal t1 c1 e (wipeX ρ vs1)) xs = .val ys) (hl : (zs ++ ys).length ≤ lim) (q : ∀ H Hd, Mk1 H1 Hd1 Dl (zs ++ ys) H Hd → Nx H) :
    ∃ W1 : Nat → Nat → Hp → Prop, (∃ m, W1 0 m H4) ∧ ∀ j k H, W1 j k H →
      (J.stop j H ∧ Nx H) ∨ (J.go j H ∧ ∃ Nx1 : Hp → Prop, (∀ H', Nx1 H' → ∃ k', k' < k ∧ W1 (j + 1) k' H') ∧ ∀ x H', J.yld j H x H' → tG t1 x (wipe σ vs1) H' fun σ3 H5 => wipe σ3 vs1 = wipe σ vs1 ∧ tDc p.nox c1 σ3 H5 fun b H6 =>
        if b = true then tD p.nox e σ3 H6 fun y H7 => ∃ acc, H7 Dl = some (.lst acc) ∧ acc.length < sizeLine ∧ Nx1 (upd H7 Dl (.lst (acc ++ [y]))) else Nx1 H6) := by
  refine ⟨fun i m H => m = xs.length - i ∧ i ≤ xs.length ∧ ∃ Hd zs' r, Mk1 H1 Hd1 Dl zs' H Hd ∧ Stt H0 Hd0 Hd H σ ρ ∧ Ext Hd4 Hd ∧ lcF (lcStep p.cal t1 c1 e (wipeX ρ vs1)) (xs.drop i) = .val r ∧ zs ++ ys = zs' ++ r, ⟨xs.length, by simp, by simp, Hd4, zs, ys, M0, S0, Ext.rfl', by simpa using hy, rfl⟩, ?_⟩
  rintro i m H ⟨rfl, hi, Hd, zs', r, M, S, ex4, hr, e1⟩
  by_cases hlt : i < xs.length
  · refine .inr ⟨wk.go i H hlt (ex4.trans S.ex), fun H' => ∃ Hd' zs2 r', Mk1 H1 Hd1 Dl zs2 H' Hd' ∧ Stt H0 Hd0 Hd' H' σ ρ ∧ Ext Hd4 Hd' ∧ lcF (lcStep p.cal t1 c1 e (wipeX ρ vs1)) (xs.drop (i + 1)) = .val r' ∧ zs ++ ys = zs2 ++ r', fun H' h' => ⟨xs.length - (i + 1), by omega, rfl, hlt, h'⟩, fun x H' hy' => ?_⟩
    obtain ⟨d, Hd', hd1, hd2, hd3⟩ := wk.yld i H x H' Hd hlt ex4 S.ex hy'
    have hdrop : xs.drop i = d :: xs.drop (i + 1) := by
      obtain ⟨hh, he⟩ := List.getElem?_eq_some_iff.mp hd1
      rw [List.drop_eq_getElem_cons hh, he]
    rw [hdrop] at hr
    obtain ⟨o, r', g1, g2, g3⟩ := lcF_cons hr
    obtain ⟨ρ1, k, h4, h5, h6, h7⟩ := lcStep_val g1
    have M1 := M.grow hd2
    have S1' := S.grow hd2
    have S1 : Stt H0 Hd0 Hd' H' (wipe σ vs1) (wipeX ρ vs1) := S1'.wipe vs1
    refine ⟨H0, Hd0, wipeX ρ vs1, Hd', d, ρ1, S1, hd3, h4, fun σ2 S2 off => ⟨?_, H0, Hd0, ρ1, Hd', S2, ?_⟩⟩
    · have off2 : ∀ j, j ∉ vs1 → σ2[j]? = (wipe σ vs1)[j]? := fun j hj => off j fun hz => hj (ht j hz)
      have w1 : wipe σ2 vs1 = wipe (wipe σ vs1) vs1 := wipe_eq (by
        have a1 := S2.len
        have a2 := S1.len
        have a3 : ρ1.length = (wipeX ρ vs1).length := asgT_len h4
        omega) off2
      rw [w1]
      exact wipe_eq (wipe_length _ _) fun j hj => wipe_out hj
    · show Ct eqR p.nox.mg p.nox.W σ2 H' Hd' (evt p.cal c1 ρ1) _
      rw [h5]
      intro b H3 Hd3 g4 hb
      cases hb
      cases k with
      | true =>
        rw [if_pos rfl]
        obtain ⟨d2, h8, h9⟩ := h6 rfl
        refine ⟨H0, Hd0, ρ1, Hd3, S2.grow g4, ?_⟩
        show Ct Da p.nox.mg p.nox.W σ2 H3 Hd3 (ev p.cal e ρ1) _
        rw [h8]
        intro y H4' Hd4' g5 hy4
        have M4 := (M1.grow g4).grow g5
        subst h9
        have hlen : (zs' ++ [d2]).length ≤ lim := by
          have : (zs ++ ys).length = (zs' ++ ([d2] ++ r')).length := by rw [e1, g3]
          simp at this hl ⊢
          omega
        obtain ⟨acc, a1, a2, a3⟩ := M4.push hD hy4 hlen
        refine ⟨acc, a1, a2, Hd4', _, r', a3, ((S1'.grow g4).grow g5).mutD h0 M4.n no, ex4.trans (hd2.d.trans (g4.d.trans g5.d)), g2, by rw [e1, g3]; simp⟩
      | false =>
        rw [if_neg Bool.false_ne_true]
        have h9 := h7 rfl
        subst h9
        exact ⟨Hd3, zs', r', M1.grow g4, S1'.grow g4, ex4.trans (hd2.d.trans g4.d), g2, by rw [e1, g3]; simp⟩
  · have e0 : i = xs.length := by omega
    subst e0
    have hr' : r = [] := by
      rw [List.drop_length] at hr
      simp only [lcF] at hr
      cases hr; rfl
    subst hr'
    rw [List.append_nil] at e1
    rw [← e1] at M
    exact .inl ⟨wk.stop H (ex4.trans S.ex), q H Hd M⟩
theorem lc2_turns {vs vs1 : List Nat} {σ : St} {H0 Hd0 H1 Hd1 : Hp} {ρ : Rho} {J : L2.It} {xs ys : List D} {Q : VK} (ht : ∀ i ∈ t.sl, i ∈ vs) (ht1 : ∀ i ∈ t1.sl, i ∈ vs1)
    (S : Stt H0 Hd0 Hd1 H1 σ ρ) (wk : Wk Hd1 xs J) (hy : lcF (lcStep2 p.cal t c t1 it1 c1 e vs1 (wipeX ρ vs)) xs = .val ys) (hl : ys.length ≤ lim) (q : ∀ Dl H Hd, H1 Dl = none → Mk1 H1 Hd1 Dl ys H Hd → Q (.ref Dl) H) :
    ∀ Dq, H1 Dq = none → ∃ W : Nat → Nat → Hp → Prop, (∃ m, W 0 m (upd H1 Dq (.lst []))) ∧ ∀ i m H, W i m H →
      (J.stop i H ∧ Q (.ref Dq) H) ∨ (J.go i H ∧ ∃ Nx : Hp → Prop, (∀ H', Nx H' → ∃ m', m' < m ∧ W (i + 1) m' H') ∧ ∀ x H', J.yld i H x H' → tG t x (wipe σ vs) H' fun σ2 H2 => wipe σ2 vs = wipe σ vs ∧ tDc p.nox c σ2 H2 fun b H3 =>
        if b = true then tDi p.nox it1 σ2 H3 fun J1 H4 => ∃ W1 : Nat → Nat → Hp → Prop, (∃ m, W1 0 m H4) ∧ ∀ j k H, W1 j k H →
          (J1.stop j H ∧ Nx H) ∨ (J1.go j H ∧ ∃ Nx1 : Hp → Prop, (∀ H', Nx1 H' → ∃ k', k' < k ∧ W1 (j + 1) k' H') ∧ ∀ x H', J1.yld j H x H' → tG t1 x (wipe σ2 vs1) H' fun σ3 H5 => wipe σ3 vs1 = wipe σ2 vs1 ∧ tDc p.nox c1 σ3 H5 fun b H6 =>
            if b = true then tD p.nox e σ3 H6 fun y H7 => ∃ acc, H7 Dq = some (.lst acc) ∧ acc.length < sizeLine ∧ Nx1 (upd H7 Dq (.lst (acc ++ [y]))) else Nx1 H6)
        else Nx H3) := by
  intro Dq hD
  refine ⟨fun i m H => m = xs.length - i ∧ i ≤ xs.length ∧ ∃ Hd zs r, Mk1 H1 Hd1 Dq zs H Hd ∧ lcF (lcStep2 p.cal t c t1 it1 c1 e vs1 (wipeX ρ vs)) (xs.drop i) = .val r ∧ ys = zs ++ r, ⟨xs.length, by simp, by simp, Hd1, [], ys, ⟨Gr.newO S.ex hD, S.ex.back hD, [], upd_same, DaAll.nil⟩, by simpa using hy, rfl⟩, ?_⟩
  rintro i m H ⟨rfl, hi, Hd, zs, r, M, hr, e1⟩
  by_cases hlt : i < xs.length
  · refine .inr ⟨wk.go i H hlt (M.g.d.trans M.g.i), fun H' => ∃ Hd' zs' r', Mk1 H1 Hd1 Dq zs' H' Hd' ∧ lcF (lcStep2 p.cal t c t1 it1 c1 e vs1 (wipeX ρ vs)) (xs.drop (i + 1)) = .val r' ∧ ys = zs' ++ r', fun H' h' => ⟨xs.length - (i + 1), by omega, rfl, hlt, h'⟩, fun x H' hy' => ?_⟩
    obtain ⟨d, Hd', hd1, hd2, hd3⟩ := wk.yld i H x H' Hd hlt M.g.d M.g.i hy'
    have hdrop : xs.drop i = d :: xs.drop (i + 1) := by
      obtain ⟨hh, he⟩ := List.getElem?_eq_some_iff.mp hd1
      rw [List.drop_eq_getElem_cons hh, he]
    rw [hdrop] at hr
    obtain ⟨o, r', g1, g2, g3⟩ := lcF_cons hr
    obtain ⟨ρ1, k, h4, h5, h6, h7⟩ := lcStep2_val g1
    have M1 := M.grow hd2
    have S1 : Stt H0 Hd0 Hd' H' (wipe σ vs) (wipeX ρ vs) := (S.grow M1.g).wipe vs
    refine ⟨H0, Hd0, wipeX ρ vs, Hd', d, ρ1, S1, hd3, h4, fun σ2 S2 off => ⟨?_, H0, Hd0, ρ1, Hd', S2, ?_⟩⟩
    · have off2 : ∀ j, j ∉ vs → σ2[j]? = (wipe σ vs)[j]? := fun j hj => off j fun hz => hj (ht j hz)
      have w1 : wipe σ2 vs = wipe (wipe σ vs) vs := wipe_eq (by
        have a1 := S2.len
        have a2 := S1.len
        have a3 : ρ1.length = (wipeX ρ vs).length := asgT_len h4
        omega) off2
      rw [w1]
      exact wipe_eq (wipe_length _ _) fun j hj => wipe_out hj
    · show Ct eqR p.nox.mg p.nox.W σ2 H' Hd' (evt p.cal c ρ1) _
      rw [h5]
      intro b H3 Hd3 g4 hb
      cases hb
      cases k with
      | true =>
        rw [if_pos rfl]
        obtain ⟨xs1, h8, h9⟩ := h6 rfl
        refine ⟨H0, Hd0, ρ1, Hd3, S2.grow g4, ?_⟩
        show Ct Wk p.nox.mg p.nox.W σ2 H3 Hd3 (evi p.cal it1 ρ1) _
        rw [h8]
        intro J1 H4 Hd4 g5 wk1
        have no : ∀ (i : Nat) (ds : List D) (a : Addr), ρ1[i]? = some (some (.own ds)) → σ2[i]? = some (some (.ref a)) → a ≠ Dq := fun j ds a hj hs => by
          obtain ⟨n1, n2⟩ := asgT_own h4 j ds hj
          rw [off j n1] at hs
          obtain ⟨v, v1, v2⟩ := (S.wipe vs).ok j _ n2
          rw [hs] at v1
          cases v1
          obtain ⟨a', vs', z1, _, _, z2, _⟩ := v2
          cases z1
          intro z
          rw [z, hD] at z2
          cases z2
        have hlen : (zs ++ o).length ≤ lim := by
          have : ys.length = (zs ++ (o ++ r')).length := by rw [e1, g3]
          simp at this ⊢
          omega
        exact lc2_in ht1 hD (S.gr.a.back hD) no ((S2.grow g4).grow g5) ((M1.grow g4).grow g5) wk1 h9 hlen fun H2 Hd2 M2 => ⟨Hd2, zs ++ o, r', M2, g2, by rw [e1, g3]; simp⟩
      | false =>
        rw [if_neg Bool.false_ne_true]
        have h9 := h7 rfl
        subst h9
        exact ⟨Hd3, zs, r', M1.grow g4, g2, by rw [e1, g3]; simp⟩
  · have e0 : i = xs.length := by omega
    subst e0
    have hr' : r = [] := by
      rw [List.drop_length] at hr
      simp only [lcF] at hr
      cases hr; rfl
    subst hr'
    rw [List.append_nil] at e1
    subst e1
    exact .inl ⟨wk.stop H (M.g.d.trans M.g.i), q Dq H Hd hD M⟩
theorem tLc2_of {vs vs1 : List Nat} {σ : St} {H : Hp} {Q : VK} (ht : ∀ i ∈ t.sl, i ∈ vs) (ht1 : ∀ i ∈ t1.sl, i ∈ vs1) (h : tD p (.lc2 t it c t1 it1 c1 e vs vs1) σ H Q) : tLc2 (tDi p it) (tG t) (tDc p.nox c) (tDi p.nox it1) (tG t1) (tDc p.nox c1) (tD p.nox e) vs vs1 σ H Q := by
  obtain ⟨H0, Hd0, ρ, Hd, S, q⟩ := h
  have q : Ct Da p.mg p.W σ H Hd (ev p.cal (.lc2 t it c t1 it1 c1 e vs vs1) ρ) Q := q
  rw [ev_lc2] at q
  refine tR_bnd S q fun xs J H1 Hd1 S1 g1 wk _ q1 => ?_
  cases hy : lcF (lcStep2 p.cal t c t1 it1 c1 e vs1 (wipeX ρ vs)) xs with
  | bad => rw [hy] at q1; exact q1.elim
  | exc k =>
    exfalso
    cases xs with
    | nil => simp [lcF] at hy
    | cons x xs =>
      simp only [lcF] at hy
      split at hy
      · split at hy <;> cases hy
      · cases hy
  | val ys =>
    rw [hy] at q1
    obtain ⟨z, hz, q2⟩ := (show Ct Da p.mg p.W σ H1 Hd1 (ofO (mkL ys)) Q from q1).ofO'
    unfold mkL at hz
    split at hz
    · rename_i hl
      cases hz
      refine lc2_turns (p := p) ht ht1 S1 wk hy hl fun Dl H2 Hd2 hD M => ?_
      obtain ⟨vs', h1, h2⟩ := M.v
      exact q2.next (M.g.seal hD M.n h1) (by simp only [Da]; exact ⟨Dl, vs', rfl, upd_same, DaAll.ext (Ext.new M.n) _ _ h2⟩)
    · cases hz
theorem dE_lc2 {elt tg iter tg1 iter1 : Expr} {ifs ifs1 : List Expr} {scope : Scope} {own : List (Str × Nat)} {pos : Pos} {vs vs1 : List Nat} (hc : X.calm = true) (hN : X.N.Nodup) (hi : PI X tg iter (tDi p it)) (ok : BlkOk X.N X.env.scope scope own)
    (hg : ∀ (s : Shared) (H : Hp) (C : Addr) (cl : List (Str × Addr)) (fp : List Addr), PG (X.blk s H scope (compEnvC scope cl C X.env) fp) tg (tG t)) (ht : ∀ (s : Shared) (H : Hp) (C : Addr) (cl : List (Str × Addr)) (fp : List Addr), PTs (X.blk s H scope (compEnvC scope cl C X.env) fp) ifs (tDc p.nox c))
    (hi1 : ∀ (s : Shared) (H : Hp) (C : Addr) (cl : List (Str × Addr)) (fp : List Addr), PI (X.blk s H scope (compEnvC scope cl C X.env) fp) tg1 iter1 (tDi p.nox it1))
    (hg1 : ∀ (s : Shared) (H : Hp) (C : Addr) (cl : List (Str × Addr)) (fp : List Addr), PG (X.blk s H scope (compEnvC scope cl C X.env) fp) tg1 (tG t1)) (ht1 : ∀ (s : Shared) (H : Hp) (C : Addr) (cl : List (Str × Addr)) (fp : List Addr), PTs (X.blk s H scope (compEnvC scope cl C X.env) fp) ifs1 (tDc p.nox c1))
    (he : ∀ (s : Shared) (H : Hp) (C : Addr) (cl : List (Str × Addr)) (fp : List Addr), PE (X.blk s H scope (compEnvC scope cl C X.env) fp) elt (tD p.nox e)) (hv : own.map (·.2) = vs := by rfl) (hsl : ∀ i ∈ t.sl, i ∈ vs := by decide) (hsl1 : ∀ i ∈ t1.sl, i ∈ vs1 := by decide) (hvv : ∀ i ∈ vs1, i ∈ vs := by decide) (hs : ∀ x, foldedSetIterable iter X.env x = pure x := by intro _; rfl) (hs1 : ∀ env x, foldedSetIterable iter1 env x = pure x := by intro _ _; rfl) :
    PE X (.ListComp elt [⟨tg, iter, ifs, 0⟩, ⟨tg1, iter1, ifs1, 0⟩] scope pos) (tD p (.lc2 t it c t1 it1 c1 e vs vs1)) := by
  subst hv
  exact peI (pe_lc2 hc hN hi ok hvv hg ht hi1 hg1 ht1 he hs hs1) fun σ H Q q => tLc2_of hsl hsl1 q
end
end Mp

set_option Elab.async false
set_option linter.all false
set_option maxRecDepth 100000
set_option maxHeartbeats 4000000
/-! dicts of texts: a display, and d[k] -/
namespace Mp
open PySem L2
open PyProof.Rows hiding St
variable [KF]
def kvP (ks : List (Str × Str)) : List (Key × V) := ks.map fun q => (.inr q.1, .str q.2)
def kvD (ks : List (Str × Str)) : D := .dict (ks.map fun q => (.str q.1, .str q.2))
/-- the trees of a display of texts -/
def tTx (ks : List (Str × Str)) : List (TE × TE) := ks.map fun q => (tC (.str q.1), tC (.str q.2))
theorem tPairs_tx {σ : St} : ∀ {ks : List (Str × Str)} {H : Hp} {Q : List (V × V) → Hp → Prop}, Q (ks.map fun q => (.str q.1, .str q.2)) H → tPairs (tTx ks) σ H Q
  | [], H, Q, h => h
  | q :: ks, H, Q, h => by
    show tPairs (tTx ks) σ H fun ps H3 => Q ((.str q.1, .str q.2) :: ps) H3
    exact tPairs_tx h
theorem dE_disp {X : Cx} {p : Pr} {pos : Pos} {keys : List (Option Expr)} {values : List Expr} {ks : List (Str × Str)} (h : PPs X pos keys values (tTx ks)) (hm : mergeK [] (kvP ks) = kvP ks) (hall : keys.all (·.isSome) = true := by rfl) (hl : keys.length = values.length := by rfl) (h0 : keys ≠ [] := by simp) (h15 : keys.length ≤ 15 := by decide) (hk : ks.length ≤ 15 := by decide) : PE X (.Dict keys values pos) (tD p (.lit (kvD ks))) :=
  peI (pe_disp h hall hl h0 h15) fun σ H Q ⟨H0, Hd0, ρ, Hd, S, q⟩ => by
    simp only [ev] at q
    intro a ha
    refine tPairs_tx ⟨upd_same, kvP ks, ?_, by simp [kvP]; exact hk, ?_⟩
    · unfold kvP
      rw [List.map_map]
      rfl
    · rw [hm]
      have e : upd (upd H a (.dK [])) a (.dK (kvP ks)) = upd H a (.dK (kvP ks)) := by
        funext b
        unfold upd
        by_cases z : b = a <;> simp [z]
      rw [e]
      refine q _ _ _ (Gr.new S.ex ha) ?_
      unfold kvD
      simp only [Da]
      exact .inr ⟨a, ks, rfl, rfl, upd_same⟩
theorem dgL_val : ∀ {ks : List (Str × Str)} {k : Str} {d : D}, dgL (ks.map fun q => (.str q.1, .str q.2)) k = some d → ∃ x, d = .str x ∧ valV (kvP ks) (.inr k) = some (.str x)
  | [], k, d, h => by simp [dgL] at h
  | q :: ks, k, d, h => by
    simp only [List.map_cons, dgL] at h
    split at h
    · rename_i e
      cases h
      refine ⟨q.2, rfl, ?_⟩
      show valV ((Sum.inr q.1, V.str q.2) :: kvP ks) _ = _
      rw [valV_pos (by rw [e])]
    · rename_i e
      obtain ⟨x, h1, h2⟩ := dgL_val h
      refine ⟨x, h1, ?_⟩
      show valV ((Sum.inr q.1, V.str q.2) :: kvP ks) _ = _
      rw [valV_neg (by intro z; cases z; exact e rfl)]
      exact h2
theorem dE_dget {X : Cx} {p : Pr} {a b : Expr} {ea eb : Ex} {pos : Pos} (hu : X.A.units + 65 < cLine) (ha : PE X a (tD p ea)) (hb : PE X b (tD p eb)) (hs : NoSl b := by exact fun _ _ => rfl) : PE X (.Subscript a b pos) (tD p (.dget ea eb)) :=
  peI (pe_dget (by omega) ha hb hs) fun σ H Q ⟨H0, Hd0, ρ, Hd, S, q⟩ => by
    simp only [ev] at q
    refine tR_bnd S q fun d v H1 Hd1 S1 g1 hd _ q1 => tR_bnd S1 q1 fun e w H2 Hd2 S2 g2 he _ q2 => ?_
    obtain ⟨z, hz, q3⟩ := q2.ofO'
    have hd2 := Da.ext g2.d _ _ hd
    cases d <;> simp only [dgS] at hz <;> try (cases hz)
    cases e <;> simp only [dgS] at hz <;> try (cases hz)
    rename_i k hk
    simp only [Da] at hd2 he
    subst he
    rcases hd2 with ⟨c, ns, e0, _, _⟩ | ⟨c, ks, e0, rfl, h1⟩
    · subst e0
      simp [dgL] at hz
    · subst e0
      obtain ⟨x, rfl, h2⟩ := dgL_val hz
      refine ⟨c, .str x, rfl, ?_, q3.here S2.ex (by simp only [Da])⟩
      rw [← h2]
      exact DGet.k (k := .inr k) (S2.ex _ _ h1)
end Mp

set_option Elab.async false
set_option linter.all false
set_option maxRecDepth 100000
set_option maxHeartbeats 4000000
/-! a clause with two statements; an instance whose __init__ raises -/
namespace Mp
open PySem L2
open PyProof.Rows hiding St
variable [KF]
section
variable {X : Cx} {p : Pr} {wf : Nat} {pos pp p2 pos2 : Pos} {ks : List Str} {C : Addr}
variable {a : Addr} {o : Obj} {pn : List (Addr × Obj)} {i : Nat} {k : Str} {f f' : Bool} {e e' : Expr} {rest : List Expr} {sub : Str → Str → Bool}
def tXv (i : Nat) (a : Addr) (f : Bool) : TE := fun σ H Q => σ[i]? = some (some (.ref a)) ∧ Q (.bl f) H
theorem dV_is {c n : Str} {pe pc : Pos} (E : XcOk X.K X.mg sub ks k C) (hz : Zc (.ref C) none o) (hf : ∃ vs, o.data = .fields vs) (hk : c ∈ ks) (hg : Gl X "isinstance") (hm : X.mg "isinstance" = none) (hgc : Gl X c) (hv : PE (X.suite a ((a, o) :: pn)) (.Name n pe) (tVar i))
    (hdb : (c == ("__debug__" : Str)) = false := by decide) (he2 : starEach [.Name c pc] X.env = [(false, eval (.Name c pc) X.env)] := by rfl) (he : starEach [.Name n pe, .Name c pc] X.env = (false, eval (.Name n pe) X.env) :: starEach [.Name c pc] X.env := by rfl)
    (hpl : (backTo pos (starEach [.Name c pc] X.env)).any (·.1) = false := by rfl) :
    PE (X.suite a ((a, o) :: pn)) (.Call (.Name "isinstance" pp) [.Name n pe, .Name c pc] [] pos) (tXv i a (sub k c)) := by
  obtain ⟨Ea, h1, h2, h3⟩ := E.s c hk
  have hc : PE (X.suite a ((a, o) :: pn)) (.Name c pc) (tC (.ref Ea)) := pe_glob (X := X.suite a ((a, o) :: pn)) hgc h1 rfl hdb
  refine peI (pe_callB (X := X.suite a ((a, o) :: pn)) (call_isE E.e hz hf) hg hm (by decide +kernel) (pa_cons hv (pa_cons hc pa_nil he2) he) (by decide) (by decide) he hpl) fun σ H Q ⟨q1, q2⟩ => ?_
  exact ⟨_, q1, .ref Ea, .ref Ea, sub k c, rfl, fun u hu => hu, h3, q2⟩
theorem dV_one (h : PE X e (tXv i a f)) : PE X (.BoolOp .Or [e] pos) (tXv i a f) := pe_one h
theorem dV_or (h : PE X e (tXv i a f)) (h' : PE X (.BoolOp .Or (e' :: rest) pos) (tXv i a f')) : PE X (.BoolOp .Or (e :: e' :: rest) pos) (tXv i a (f || f')) := peI (pe_or h h') fun σ H Q q => by
  refine ⟨q.1, f, rfl, ?_⟩
  cases f with
  | true => rw [if_pos rfl]; exact q.2
  | false => rw [if_neg Bool.false_ne_true]; exact q
def tX2 (i : Nat) (a : Addr) (j : Nat) (g f : Bool) : TT := fun σ H Q => σ[i]? = some (some (.ref a)) ∧ σ[j]? = some (some (.bl g)) ∧ Q f H
theorem dX2_and {j : Nat} {g : Bool} {y : Str} {py p3 : Pos} (h : PT X e (tX i a f)) (hv : PE X (.Name y py) (tVar j)) : PT X (.BoolOp .And [e, .UnaryOp .Not (.Name y py) p3] pos) (tX2 i a j g (f && !g)) :=
  PW.pt (pwI (pw_and h (pw_and1 (pt_not (pt_val hv)))) fun σ H Q q => by
    refine ⟨q.1, ?_⟩
    cases f with
    | true =>
      rw [if_pos rfl]
      exact ⟨.bl g, q.2.1, g, rfl, q.2.2⟩
    | false => rw [if_neg Bool.false_ne_true]; exact q.2.2)
theorem dX_suite2 {names : List Str} {x1 : Xc} {c y : Str} {j : Nat} {s1 s2 : Str} {T1 Tc : Expr} {j1 j2 : Nat} {q1 q2 q3 q4 q5 q6 q7 py qy : Pos} {cls : Value} {d : Option Addr} (hz : Zc cls d o) (hf : ∃ vs, o.data = .fields vs) (hE : ∀ k ∈ names, ∃ C, XcOk X.K X.mg sub ks k C)
    (hN : X.N.Nodup) (hj : X.N[j]? = some y) (hy : Loc X.env.scope y) (hij : i ≠ j) (hv : PE (X.suite a ((a, o) :: pn)) (.Name y qy) (tVar j))
    (hT1 : ∀ k C, XcOk X.K X.mg sub ks k C → Zc (.ref C) none o → PE (X.suite a ((a, o) :: pn)) T1 (tXv i a (x1.ev sub k)))
    (hTc : ∀ k C, XcOk X.K X.mg sub ks k C → Zc (.ref C) none o → PT (X.suite a ((a, o) :: pn)) Tc (tX i a (sub k c)))
    (hs : swapsWith T1 (some (.Name y py)) q5.line X.env = pure false := by rfl) (hfn : X.fn y = true ∨ X.env.scope.names.lookup y = some .local := by first | exact .inl rfl | exact .inr rfl) :
    PSs (X.suite a ((a, o) :: pn)) [.Assign [.Name y py] T1 q5, .Return (some (.IfExp (.BoolOp .And [Tc, .UnaryOp .Not (.Name y qy) q7] q6) (.Constant (.str s1) j1 q1) (.Constant (.str s2) j2 q2) q3)) q4] (tsX X.mg sub names i (.and (.is c) (.not x1)) s1 s2 a cls d) := by
  refine ⟨fun pins s σ H D I ⟨k, hk, hc, hd, h1, h2⟩ => ?_⟩
  obtain ⟨C, E⟩ := hE k hk
  rw [exv_of E.g] at hc
  subst hc hd
  have hlen : j < σ.length := by
    have h0 : σ.length = X.N.length := I.len
    have := (List.getElem?_eq_some_iff.mp hj).1
    omega
  refine (pss_cons (ps_set (X := X.suite a ((a, o) :: pn)) hN hj hy (hT1 k C E hz) hs hfn) (pss_one (ps_ret (pe_ifExp (dX2_and (g := x1.ev sub k) (hTc k C E hz) hv) pe_str pe_str)))).run pins s σ H D I ⟨h1, ?_⟩
  refine ⟨by rw [List.getElem?_set_ne (Ne.symm hij)]; exact h1, by rw [List.getElem?_set_self hlen], ?_⟩
  have e : (Xc.and (.is c) (.not x1)).ev sub k = (sub k c && !x1.ev sub k) := rfl
  rw [e] at h2
  cases hx : (sub k c && !x1.ev sub k) with
  | true => rw [hx, if_pos rfl] at h2; exact h2
  | false => rw [hx, if_neg Bool.false_ne_true] at h2; exact h2
end
/-! ### C(e), where __init__ raises -/
def spM (cal : Str → List D → R D) (mg : Str → Option Value) (f : Str) : Sp := fun vs H Q E => ∃ Hd d v a, vs = [.ref a, v] ∧ Ext Hd H ∧ Da Hd d v ∧ match cal f [.none, d] with
  | .exc c => ∀ H', Ext H H' → E (exv mg c) none H'
  | _ => False
def FnM (P : Program) (w : World) (K : PySem.W.Frag) (mg : Str → Option Value) (base : Heap) (cal : Str → List D → R D) (k : Nat) (f : Str) : Prop :=
  ∃ C, mg f = some (.ref C) ∧ PySem.W.keepIn K (.ref C) = true ∧ ((∀ ds, cal f ds = .bad) ∨ ∃ j fa fd ps, k = j + 1 ∧ (∀ ds z, cal f ds ≠ .val z) ∧ Mk K C fa ∧ FnOk P w K mg base (L2.CX P w) j fa fd ps (spM cal mg f) ∧ Binds K fd ps [])
section
variable {X : Cx} {CX : CXT} {k : Nat} {f C : Addr} {fd : FuncData} {ps : List Str} {sp : Sp} {E : St → XK} {x : Str} {pp pos : Pos} {e : Expr} {es : List Expr} {t : TA}
theorem run_makeS {pins : List (Addr × Obj)} {σ : St} {H : Hp} {s : Shared} {Q : VK} {us : List Value} {vs : List V} (M : Mk X.K C f) (F : FnOk X.prog X.w X.K X.mg X.base CX k f fd ps sp) (hr : Room (k + 1) X.A) (hb : Binds X.K fd ps [])
    (hx : PassesAt CX X σ (E σ)) (I : Inv X pins σ H s) (r : Vals vs us)
    (h : ∀ x dx, H x = none → H dx = none → dx ≠ x → sp (.ref x :: vs) (upd (upd H dx (.own x)) x (.ins C dx [])) (fun v H2 => v = .non ∧ Q (.ref x) H2) (E σ)) :
    wpAny (model X.prog X.w) X.A (PySem.call (.ref C) us) (EP X pins σ Q) X.xe s := by
  have hq := h (s.heap.objs.size + 1) s.heap.objs.size (I.hok.fresh (Nat.le_succ _)) (I.hok.fresh (Nat.le_refl _)) (Nat.ne_of_lt (Nat.lt_succ_self _))
  have I2 := Inv.made (C := C) I
  have r2 : Vals (V.ref (s.heap.objs.size + 1) :: vs) (Value.ref (s.heap.objs.size + 1) :: us) := .cons rfl r
  have hl : ((Value.ref (s.heap.objs.size + 1) :: us) ++ []).length = ps.length := by
    rw [List.append_nil, ← F.len _ _ _ _ hq]
    exact r2.length.symm
  have hb2 := hb _ (Value.ref (s.heap.objs.size + 1) :: us) I2.kIn hl
  rw [List.append_nil] at hb2
  refine wpAny_call (make_map (f := f) I.kIn M.makes M.init (beq_iff_eq.mp M.fn) (codeAny_mono (F.run _ X.stack _ _ ⟨Value.ref (s.heap.objs.size + 1) :: us, []⟩ (Value.ref (s.heap.objs.size + 1) :: us) _ _ (E σ) (hr.make C us [])
    (I2.env0.make C us []) hb2 r2 hq) fun r s' hq' => ?_))
  cases r with
  | error e => exact hx pins _ _ e s' I2 hq'
  | ok fl =>
    cases fl with
    | ret u =>
      obtain ⟨v, H', I3, rv, ev, q3⟩ := I2.after hq'
      subst ev
      exact ⟨rv, ⟨V.ref (s.heap.objs.size + 1), H', I3, rfl, q3⟩⟩
    | next => exact False.elim hq'
    | brk => exact False.elim hq'
    | cont => exact False.elim hq'
def tMakeS (C : Addr) (sp : Sp) (E : St → XK) (t : TA) : TE := fun σ H Q => t σ H fun vs H1 => ∀ x dx, H1 x = none → H1 dx = none → dx ≠ x →
  sp (.ref x :: vs) (upd (upd H1 dx (.own x)) x (.ins C dx [])) (fun v H2 => v = .non ∧ Q (.ref x) H2) (E σ)
theorem pe_makeS (M : Mk X.K C f) (F : FnOk X.prog X.w X.K X.mg X.base CX k f fd ps sp) (hr : Room (k + 1) X.A) (hg : Gl X x) (hm : X.mg x = some (.ref C)) (hb : Binds X.K fd ps []) (hx : ∀ σ, PassesAt CX X σ (E σ))
    (ha : PA X (e :: es) t) (hdb : (x == ("__debug__" : Str)) = false := by decide) (he : starEach (e :: es) X.env = (false, eval e X.env) :: starEach es X.env := by rfl) (hpl : (backTo pos (starEach es X.env)).any (·.1) = false := by rfl) :
    PE X (.Call (.Name x pp) (e :: es) [] pos) (tMakeS C sp E t) := by
  refine ⟨fun pins s σ H Q I h => ?_⟩
  refine wpAny_Call_Name_kw (ld_glob I hg hm ?_ hdb)
  refine PySem.W.callWith_K (h₀ := X.base) I.ok.mod.kin M.kp (thn (ha.run pos pins s σ H _ I h) fun us s1 ⟨vs, H1, I1, r, q⟩ => ⟨I1.kIn, ?_⟩) he hpl
  exact run_makeS M F hr hb (hx σ) I1 r q
end
section
variable {X : Cx} {p : Pr} {k : Nat} {e : Expr} {ee : Ex} {pp pos : Pos}
theorem dE_make {f : Str} (hF : FnM X.prog X.w X.K X.mg X.base p.cal k f) (hpm : p.mg = X.mg) (hr : Room k X.A) (tk : Takes X p.W) (hg : Gl X f) (ha : PA X [e] (tDs p (.cons ee .nil))) (hdb : (f == ("__debug__" : Str)) = false := by decide)
    (he : starEach [e] X.env = (false, eval e X.env) :: starEach [] X.env := by rfl) (hpl : (backTo pos (starEach [] X.env)).any (·.1) = false := by rfl) : PE X (.Call (.Name f pp) [e] [] pos) (tD p (.call f (.cons (.lit .none) (.cons ee .nil)))) := by
  obtain ⟨C, hm, hkp, hF⟩ := hF
  have e1 : ∀ ρ, ((evs p.cal (.cons ee .nil) ρ).bnd fun ds => p.cal f (.none :: ds)) = ev p.cal (.call f (.cons (.lit .none) (.cons ee .nil))) ρ := fun ρ => by
    simp only [ev, evs, R.bnd_val]
    cases ev p.cal ee ρ <;> rfl
  rcases hF with hbad | ⟨j, fa, fd, ps, hk, hnv, M, F, hb⟩
  · refine ⟨fun pins s σ H Q I h => ?_⟩
    refine wpAny_Call_Name_kw (ld_glob I hg hm ?_ hdb)
    refine PySem.W.callWith_K (h₀ := X.base) I.ok.mod.kin hkp (thn (ha.run pos pins s σ H (fun _ _ => False) I ?_) fun us s1 ⟨vs, H1, I1, r, q⟩ => q.elim) he hpl
    obtain ⟨H0, Hd0, ρ, Hd, S, q⟩ := h
    rw [← e1] at q
    refine tR_bnd S q fun ds vs H1 Hd1 S1 g1 hd hev q1 => ?_
    rw [hbad] at q1
    exact q1
  · subst hk
    refine peI (pe_makeS (E := WE p.W) M F hr hg hm hb (fun σ => passAt tk σ) ha hdb he hpl) fun σ H Q ⟨H0, Hd0, ρ, Hd, S, q⟩ => ?_
    rw [← e1] at q
    refine tR_bnd S q fun ds vs H1 Hd1 S1 g1 hd hev q1 => ?_
    intro y dy hy hdy hne
    have hl : ds.length = 1 := evs_len hev
    match ds, hl, hd, q1 with
    | [d], _, hd, q1 =>
      simp only [DaAll] at hd
      obtain ⟨v, r, rfl, hdv, rfl⟩ := hd
      have e0 : Ext H1 (upd (upd H1 dy (.own y)) y (.ins C dy [])) := (Ext.new hdy).trans (Ext.new (by rw [upd_ne hne.symm]; exact hy))
      refine ⟨Hd1, d, v, y, rfl, S1.ex.trans e0, hdv, ?_⟩
      rw [hpm] at q1
      cases hc : p.cal f [.none, d] with
      | bad => rw [hc] at q1; exact q1
      | exc c =>
        rw [hc] at q1
        exact fun H' ex => q1 H' Hd1 (Gr.keep S1.ex (e0.trans ex))
      | val z => exact absurd hc (hnv _ _)
end
/-! the data level: Notebook(size) -/
def initB (g : Str) : S := .seq (.drop (.call g (.cons (.var 1) .nil))) .never
def initW (f' : Str) : S := .drop (.call f' (.cons (.var 0) (.cons (.var 1) .nil)))
section
variable {P : Program} {w : World} {K : PySem.W.Frag} {mg : Str → Option Value} {base : Heap} {sub : Str → Str → Bool} {wf : Nat} {tbl : Str → Option Df} {k : Nat} {f f' g : Str}
omit [KF] in
theorem nb_low (h : tbl f = some ⟨2, 2, initW f'⟩) (ds : List D) : call sub wf tbl 1 f ds = .bad := by
  simp only [call, h]
  split
  · rename_i hl
    match ds, hl with
    | [a, b], _ => rfl
  · rfl
omit [KF] in
theorem callE {df : Df} {ds : List D} (h : tbl f = some df) (hl : ds.length = df.p) : call sub wf tbl (k + 1) f ds = (exec (call sub wf tbl k) sub wf df.b (startX df.n ds)).res := by
  simp only [call, h]
  rw [if_pos hl]
omit [KF] in
theorem nb_call (h : tbl f = some ⟨2, 2, initW f'⟩) (h' : tbl f' = some ⟨2, 2, initB g⟩) (a d : D) : call sub wf tbl (k + 2) f [a, d] = match call sub wf tbl k g [d] with
    | .exc c => .exc c
    | _ => .bad := by
  have e1 : call sub wf tbl (k + 1) f' [a, d] = match call sub wf tbl k g [d] with
    | .exc c => .exc c
    | _ => .bad := by
    rw [callE h' rfl]
    unfold initB
    simp only [exec, ev, evs, startX, List.map, List.append, List.getElem?_cons_succ, List.getElem?_cons_zero, R.bnd_val, List.cons_append, List.nil_append]
    cases call sub wf tbl k g [d] <;> rfl
  rw [callE h rfl]
  unfold initW
  simp only [exec, ev, evs, startX, List.map, List.append, List.getElem?_cons_succ, List.getElem?_cons_zero, R.bnd_val, List.cons_append, List.nil_append, e1]
  cases call sub wf tbl k g [d] <;> rfl
omit [KF] in
theorem nb_noval (h : tbl f = some ⟨2, 2, initW f'⟩) (h' : tbl f' = some ⟨2, 2, initB g⟩) (ds : List D) (z : D) : call sub wf tbl (k + 2) f ds ≠ .val z := fun e => by
  by_cases hl : ds.length = 2
  · match ds, hl with
    | [a, b], _ =>
      rw [nb_call h h'] at e
      cases hc : call sub wf tbl k g [b] <;> rw [hc] at e <;> cases e
  · simp only [call, h] at e
    rw [if_neg hl] at e
    cases e
def AtM (K : PySem.W.Frag) (mg : Str → Option Value) (f qual : Str) (st : Stmt) (ps : List Str) : Prop := ∃ C fa fd, Mk K C fa ∧ L2.Fun K "__init__" qual st fa fd ∧ mg f = some (.ref C) ∧ Binds K fd ps []
theorem AtM.zero {qual : Str} {st : Stmt} {ps : List Str} (a : AtM K mg f qual st ps) : FnM P w K mg base (call sub wf tbl 0) 0 f :=
  let ⟨C, _, _, M, _, h, _⟩ := a
  ⟨C, h, M.kp, .inl fun _ => rfl⟩
theorem AtM.one {qual : Str} {st : Stmt} {ps : List Str} (a : AtM K mg f qual st ps) (h : tbl f = some ⟨2, 2, initW f'⟩) : FnM P w K mg base (call sub wf tbl 1) 1 f :=
  let ⟨C, _, _, M, _, hm, _⟩ := a
  ⟨C, hm, M.kp, .inl fun ds => nb_low h ds⟩
theorem AtM.two {qual x y : Str} {st : Stmt} (a : AtM K mg f qual st [x, y]) (sc : FnScope [x, y] [x, y] (defScope st)) (h : tbl f = some ⟨2, 2, initW f'⟩) (h' : tbl f' = some ⟨2, 2, initB g⟩)
    (hb : ∀ (fa : Addr) (cdv : Value) (A : Around) (outer : List Env) (sh : Shared) (H : Hp) (E : XK), Room k (A.deeper (envOfC qual (defScope st) sh.heap.objs.size fa cdv)) →
      PSs (cxOf (L2.CX P w) P w K mg base [x, y] qual (defScope st) fa cdv A outer sh H E) (defBody st) (tS ⟨call sub wf tbl k, sub, mg, fun cls d _ H => E cls d H⟩ wf (initB g))) : FnM P w K mg base (call sub wf tbl (k + 2)) (k + 2) f := by
  obtain ⟨C, fa, fd, M, F, hm, hbi⟩ := a
  refine ⟨C, hm, M.kp, .inr ⟨k + 1, fa, fd, [x, y], rfl, nb_noval h h', M, ?_, hbi⟩⟩
  refine F.okX sc (fun vs H Q E ⟨_, _, _, _, e, _⟩ => by rw [e]; rfl) (fun cdv A outer sh H vs Q E hr hh => ⟨_, hb fa cdv A outer sh H E hr, ?_⟩)
  obtain ⟨Hd, d, v, a, rfl, ex, hd, q⟩ := hh
  refine ⟨H, Hd, [none, some (.dat d)], Hd, ⟨ex, Gr.refl ex, rfl, fun i s hs => ?_, fun i j es fs v h1 => ?_⟩, ?_⟩
  · match i, hs with
    | 0, hs => cases hs
    | 1, hs => cases hs; exact ⟨v, rfl, hd⟩
    | n + 2, hs => cases hs
  · match i, h1 with
    | 0, h1 => cases h1
    | 1, h1 => cases h1
    | n + 2, h1 => cases h1
  · rw [nb_call h h'] at q
    show Cs _ H Hd Hd _ (exec (call sub wf tbl k) sub wf (initB g) [none, some (.dat d)])
    unfold initB
    simp only [exec, ev, evs, List.getElem?_cons_succ, List.getElem?_cons_zero, R.bnd_val]
    cases hc : call sub wf tbl k g [d] with
    | bad => rw [hc] at q; exact q.elim
    | val z => rw [hc] at q; exact q.elim
    | exc c =>
      rw [hc] at q
      exact fun σ' H' Hd' e' S' => q H' S'.gr.a
end
/-! what is read off the head -/
def clsS (s : Stmt) (i : Nat) : Stmt := match s with
  | .ClassDef _ _ _ b _ _ _ _ _ _ _ => b.getD i (.Pass ⟨0, 0, 0, 0⟩)
  | _ => .Pass ⟨0, 0, 0, 0⟩
abbrev MakF (K : PySem.W.Frag) (x qual : Str) (st : Stmt) : Prop := ∃ (C f : Addr) (oc : Value) (od : Option Addr) (kV doc pm : Value) (an : Option Addr) (cdv ct : Value) (osl : Array (Option Value)), PySem.W.nsIn K mainGlobals x = some (some (.ref C)) ∧ PySem.W.makesIn K C = true ∧ PySem.W.findIn K (.ref C) "__init__" = some (some (.ref f)) ∧ PySem.W.isFn K (.ref f) = true ∧ PySem.W.keepIn K (.ref C) = true ∧
  K.lookup f = some ⟨oc, od, .func (PySem.W.fnOf "__init__" qual (defArgs st) (defBody st) (defScope st) .none kV doc pm an cdv ct), osl⟩ ∧ PySem.W.codeIn K cdv qual = true ∧ PySem.W.keepIn K (.ref f) = true
section
variable {K : PySem.W.Frag} {x qual : Str} {st : Stmt}
omit [KF]
theorem MakF.mk {C f : Addr} {oc : Value} {od : Option Addr} {kV doc pm : Value} {an : Option Addr} {cdv ct : Value} {osl : Array (Option Value)} (a : PySem.W.nsIn K mainGlobals x = some (some (.ref C))) (b : PySem.W.makesIn K C = true) (c : PySem.W.findIn K (.ref C) "__init__" = some (some (.ref f))) (d : PySem.W.isFn K (.ref f) = true) (e : PySem.W.keepIn K (.ref C) = true)
    (l : K.lookup f = some ⟨oc, od, .func (PySem.W.fnOf "__init__" qual (defArgs st) (defBody st) (defScope st) .none kV doc pm an cdv ct), osl⟩) (g : PySem.W.codeIn K cdv qual = true) (k : PySem.W.keepIn K (.ref f) = true) : MakF K x qual st := ⟨_, _, _, _, _, _, _, _, _, _, _, a, b, c, d, e, l, g, k⟩
end
theorem MakF.at {K : PySem.W.Frag} {mg : Str → Option Value} {h : Heap} {x qual : Str} {st : Stmt} {ps : List Str} (hX : K.In h) (G : h.Ns mainGlobals mg) (m : MakF K x qual st) (b : ∀ {f : Addr} {fd : FuncData}, L2.Fun K "__init__" qual st f fd → Binds K fd ps []) : AtM K mg x qual st ps :=
  let ⟨_, _, _, _, _, _, _, _, _, _, _, a, m1, m2, m3, m4, l, c, k⟩ := m
  let F := fun_mk (st := st) l c k
  ⟨_, _, _, ⟨m1, m2, m3, m4⟩, F, PySem.W.mg_of hX G a, b F⟩
end Mp

set_option Elab.async false
set_option linter.all false
set_option maxRecDepth 100000
set_option maxHeartbeats 4000000
/-! sorted, index, [::-1], bool(), extend -/
namespace Mp
open PySem L2
open PyProof.Rows hiding St
/-! ### the order of data -/
mutual
theorem alX_al : ∀ (x y : D), alX x y = true → PySem.W.alike x y = true
  | .int _, y, h => by cases y <;> simp_all [alX, PySem.W.alike]
  | .tuple xs, y, h => by
    cases y <;> simp only [alX] at h <;> try (cases h)
    simp only [PySem.W.alike]
    exact alXs_al xs _ h
  | .none, y, h => by cases y <;> simp [alX] at h
  | .bool _, y, h => by cases y <;> simp [alX] at h
  | .str _, y, h => by cases y <;> simp [alX] at h
  | .list _, y, h => by cases y <;> simp [alX] at h
  | .dict _, y, h => by cases y <;> simp [alX] at h
theorem alXs_al : ∀ (x y : List D), alXs x y = true → PySem.W.alikeAll x y = true
  | [], _, _ => by simp [PySem.W.alikeAll]
  | _ :: _, [], _ => by simp [PySem.W.alikeAll]
  | x :: xs, y :: ys, h => by
    simp only [alXs, Bool.and_eq_true] at h
    rw [PySem.W.alikeAll, alX_al x y h.1, alXs_al xs ys h.2]; rfl
end
mutual
theorem ltD_eq : ∀ (x y : D), alX x y = true → ltD x y = PySem.W.dataLt x y
  | .int a, y, h => by
    cases y <;> simp only [alX] at h <;> try (cases h)
    rw [PySem.W.dataLt_int, ltD]
  | .tuple xs, y, h => by
    cases y <;> simp only [alX] at h <;> try (cases h)
    rw [PySem.W.dataLt_tuple, ltD]
    exact ltDs_eq xs _ h
  | .none, y, h => by cases y <;> simp [alX] at h
  | .bool _, y, h => by cases y <;> simp [alX] at h
  | .str _, y, h => by cases y <;> simp [alX] at h
  | .list _, y, h => by cases y <;> simp [alX] at h
  | .dict _, y, h => by cases y <;> simp [alX] at h
theorem ltDs_eq : ∀ (x y : List D), alXs x y = true → ltDs x y = PyProof.Rows.lexLt itemOrd (PySem.W.keyToksAll x) (PySem.W.keyToksAll y)
  | [], [], _ => by rw [ltDs]; exact (lex_irrefl _).symm
  | [], y :: ys, _ => by
    rw [ltDs]
    simp only [PySem.W.keyToksAll]
    rw [lex_diff (O := itemOrd) (by simp)]
    rfl
  | x :: xs, [], _ => by
    rw [ltDs]
    simp only [PySem.W.keyToksAll]
    rw [lex_diff (O := itemOrd) (by simp)]
    rfl
  | x :: xs, y :: ys, h => by
    simp only [alXs, Bool.and_eq_true] at h
    rw [PySem.W.dataLt_cons (alX_al x y h.1), ltDs, ltDs_eq xs ys h.2, ltD_eq x y h.1]
end
section
variable {α : Type} {lt lt' : α → α → Bool}
theorem insG_mem {x z : α} : ∀ {l : List α}, z ∈ insG lt x l ↔ z = x ∨ z ∈ l
  | [] => by simp [insG]
  | y :: ys => by
    simp only [insG]
    split
    · simp only [List.mem_cons, insG_mem (l := ys)]
      constructor <;> (rintro (h | h | h) <;> simp [h])
    · simp
theorem sortG_mem {z : α} : ∀ {l : List α}, z ∈ sortG lt l ↔ z ∈ l
  | [] => by simp [sortG]
  | x :: xs => by simp [sortG, insG_mem, sortG_mem (l := xs)]
theorem insG_congr {x : α} : ∀ {l : List α}, (∀ y ∈ l, lt y x = lt' y x) → insG lt x l = insG lt' x l
  | [], _ => rfl
  | y :: ys, h => by
    simp only [insG, h y (by simp), insG_congr (l := ys) fun z hz => h z (by simp [hz])]
theorem sortG_congr : ∀ {l : List α}, (∀ a ∈ l, ∀ b ∈ l, lt a b = lt' a b) → sortG lt l = sortG lt' l
  | [], _ => rfl
  | x :: xs, h => by
    simp only [sortG, sortG_congr (l := xs) fun a ha b hb => h a (by simp [ha]) b (by simp [hb])]
    exact insG_congr fun y hy => h y (by simp [sortG_mem.mp hy]) x (by simp)
theorem insG_perm {x : α} : ∀ {l : List α}, (insG lt x l).Perm (x :: l)
  | [] => .refl _
  | y :: ys => by
    simp only [insG]
    split
    · exact ((insG_perm (l := ys)).cons y).trans (.swap x y ys)
    · exact .refl _
theorem sortG_perm : ∀ {l : List α}, (sortG lt l).Perm l
  | [] => .refl _
  | x :: xs => insG_perm.trans ((sortG_perm (l := xs)).cons x)
theorem insG_sorted {x : α} (le : α → α → Bool) (hle : ∀ a b, le a b = !lt b a) (T : PySem.W.TotalLe le) : ∀ {l : List α}, l.Pairwise (fun a b => le a b = true) → (insG lt x l).Pairwise (fun a b => le a b = true)
  | [], _ => by simp [insG]
  | y :: ys, h => by
    simp only [insG]
    have h' := List.pairwise_cons.mp h
    by_cases hy : lt y x = true
    · rw [if_pos hy]
      refine List.pairwise_cons.mpr ⟨fun z hz => ?_, insG_sorted le hle T h'.2⟩
      rcases insG_mem.mp hz with rfl | hz
      · rcases T.total y z with q | q
        · exact q
        · rw [hle, hy] at q; cases q
      · exact h'.1 z hz
    · rw [if_neg hy]
      have hxy : le x y = true := by rw [hle]; simpa using hy
      refine List.pairwise_cons.mpr ⟨fun z hz => ?_, h⟩
      rcases List.mem_cons.mp hz with rfl | hz
      · exact hxy
      · exact T.trans _ _ _ hxy (h'.1 z hz)
theorem insG_filter {x c : α} (le : α → α → Bool) (hle : ∀ a b, le a b = !lt b a) (T : PySem.W.TotalLe le) : ∀ {l : List α}, (insG lt x l).filter (PySem.W.sameRank le c) = (x :: l).filter (PySem.W.sameRank le c)
  | [] => rfl
  | y :: ys => by
    simp only [insG]
    by_cases hy : lt y x = true
    · rw [if_pos hy, List.filter_cons, insG_filter le hle T (l := ys)]
      cases hcx : PySem.W.sameRank le c x with
      | false => simp [List.filter_cons, hcx]
      | true =>
        have : PySem.W.sameRank le c y = false := by
          cases hcy : PySem.W.sameRank le c y with
          | false => rfl
          | true =>
            unfold PySem.W.sameRank at hcx hcy
            rw [Bool.and_eq_true] at hcx hcy
            have : le x y = true := T.trans _ _ _ hcx.2 hcy.1
            rw [hle, hy] at this
            cases this
        simp [List.filter_cons, hcx, this]
    · rw [if_neg hy]
theorem sortG_merge (le : α → α → Bool) (hle : ∀ a b, le a b = !lt b a) (T : PySem.W.TotalLe le) (l : List α) : sortG lt l = l.mergeSort le := by
  refine PySem.W.sort_unique T ?_ fun c => ?_
  · induction l with
    | nil => simp [sortG]
    | cons x xs ih => exact insG_sorted le hle T ih
  · induction l with
    | nil => rfl
    | cons x xs ih =>
      rw [sortG, insG_filter le hle T, List.filter_cons, List.filter_cons, ih]
end
theorem sortG_data {ds : List D} (h : ∀ d ∈ ds, ∀ e ∈ ds, alX d e = true) : sortG ltD ds = ds.mergeSort (PySem.W.dataLe false id) := by
  rw [sortG_congr (lt' := PySem.W.dataLt) fun a ha b hb => ltD_eq a b (h a ha b hb)]
  exact sortG_merge (PySem.W.dataLe false id) (fun a b => rfl) (PySem.W.sortLe_total _ _ _) ds
/-! ### sorted -/
section
variable {prog : Program} {w : World} {A : Around} {E : Value → Shared → Prop} {s : Shared} {β : Type} {vs : List Value} {bs : List β} {enc : β → PyData} {R : Value → β → Prop}
open PySem.W PySem.Calls
theorem sorted_seq {l : Addr} {T : String} {o : Obj} {n : Nat} {Q : Value → Shared → Prop} (hT : T = "list" ∨ T = "tuple") (ho : s.heap.get? l = some o) (hc : o.cls = .type T) (hd : o.data = .seq vs.toArray n)
    (e : EachIs R vs bs) (er : EachIs (fun v b => ∃ as, Reads s.heap v (enc b) as) vs bs) (hal : AllAlike (bs.map enc)) (hk : Sortable (bs.map enc)) (hL : bs.length ≤ sizeLine) (hu : ∀ b, b ∈ bs → A.units + 2 + (enc b).depth < cLine)
    (h : ∀ h1 : Heap, (∀ b o', s.heap.get? b = some o' → h1.get? b = some o') → ∀ (h' : Heap) (out : List Value), (∀ b o', h1.get? b = some o' → h'.get? b = some o') → (∃ n, h'.get? h1.objs.size = some (seqObj "list" out.toArray n)) → out.length = bs.length → EachIs R out (bs.mergeSort (dataLe false enc)) → Q (.ref h1.objs.size) { s with heap := h' }) :
    wpAny (model prog w) A (PySem.call (.builtin "sorted") [.ref l]) Q E s := by
  have hLv : vs.length ≤ sizeLine := by rw [e.length]; exact hL
  refine Calls.call_function_entry kind_sorted plain_sorted entry_sorted (args_sorted1 _) ?_
  unfold Builtin.«sorted»
  refine wpAny_bind (m := checkCount "sorted" 1 1 _) (wpAny_pure ?_)
  refine wpAny_bind (wpAny_collect_seq l hT ho hc hd (fun h1 kp => ?_) (by simpa using hLv))
  refine wpAny_bind (wpAny_newList ?_ (by simpa using hLv))
  have at1 : (h1.push (seqObj "list" vs.toArray 0)).get? h1.objs.size = some (seqObj "list" vs.toArray 0) := Heap.get?_push_size _ rfl
  have keep1 : ∀ b o', h1.get? b = some o' → (h1.push (seqObj "list" vs.toArray 0)).get? b = some o' := fun b o' q => Heap.get?_push_of_some _ q
  have ne1 : ∀ b o', h1.get? b = some o' → b ≠ h1.objs.size := fun b o' q => Nat.ne_of_lt (Heap.lt_size q)
  have er' : EachIs (fun v b => ∃ as, Reads (sortingHeap (h1.push (seqObj "list" vs.toArray 0)) h1.objs.size vs) v (enc b) as) vs bs := er.mono fun _ _ ⟨as, r⟩ => ⟨as, PyProof.Rows.Reads.keeps (fun b o' q => sortingHeap_old (ne1 b o' (kp b o' q)) (keep1 b o' (kp b o' q))) r⟩
  show wpAny _ _ _ _ _ { s with heap := h1.push (seqObj "list" vs.toArray 0) }
  refine wpAny_bind (wpAny_holding (wpAny_call_entry slot_list_sort ⟨_, at1, rfl⟩ entry_list_sort (list_sort_vals (s := { s with heap := h1.push (seqObj "list" vs.toArray 0) }) (κ := dataKind (sortingHeap (h1.push (seqObj "list" vs.toArray 0)) h1.objs.size vs) (bs.map enc)) at1
    (SortsAt.data (s := { s with heap := sortingHeap (h1.push (seqObj "list" vs.toArray 0)) h1.objs.size vs }) (each_map (R := fun v d => ∃ as, Reads (sortingHeap (h1.push (seqObj "list" vs.toArray 0)) h1.objs.size vs) v d as) enc er') hal hk (bound_map (A := A.in1.in1) hu)) hLv ⟨_, rfl, ?_⟩) (args_list_sort _)))
  refine wpAny_pure ⟨_, rfl, h h1 kp _ _ (fun b o' q => ?_) (PyProof.Rows.sortedHeap_at (vs := vs) at1) (by rw [sortVals_length false rfl]; exact e.length) (sortVals_data false e er' hal)⟩
  rw [PyProof.Rows.sortedHeap_old (ne1 b o' q) (Heap.lt_size (keep1 b o' q))]
  exact keep1 b o' q
end
variable [KF]
theorem bg_sorted {ds : List D} {z : D} (h : bgS .sorted ds = some z) : ∃ es, (ds = [.list es] ∨ ds = [.tuple es]) ∧ sortOk es = true ∧ z = .list (sortG ltD es) := by
  have h : sortedS ds = some z := h
  unfold sortedS at h
  split at h
  · split at h
    · rename_i hs
      cases h
      exact ⟨_, .inl rfl, hs, rfl⟩
    · cases h
  · split at h
    · rename_i hs
      cases h
      exact ⟨_, .inr rfl, hs, rfl⟩
    · cases h
  · cases h
/-- values with data -/
def relS (Hd : Hp) : Value → V × D → Prop := fun u b => RelV b.1 u ∧ Da Hd b.2 b.1
theorem each_zip {Hd : Hp} : ∀ {ds : List D} {vs : List V} {us : List Value}, DaAll Hd ds vs → Vals vs us → PySem.W.EachIs (relS Hd) us (vs.zip ds)
  | [], vs, us, h, r => by
    simp only [DaAll] at h
    subst h
    cases r
    exact .nil
  | d :: ds, vs, us, h, r => by
    simp only [DaAll] at h
    obtain ⟨v, w, rfl, h1, h2⟩ := h
    cases r with
    | cons r1 r2 => exact .cons ⟨r1, h1⟩ (each_zip h2 r2)
theorem zip_snd {α β : Type} : ∀ {xs : List α} {ys : List β}, xs.length = ys.length → (xs.zip ys).map (·.2) = ys
  | [], [], _ => rfl
  | [], _ :: _, h => by simp at h
  | _ :: _, [], h => by simp at h
  | x :: xs, y :: ys, h => by simp [zip_snd (xs := xs) (ys := ys) (by simpa using h)]
theorem each_vals {Hd : Hp} : ∀ {us : List Value} {bs : List (V × D)}, PySem.W.EachIs (relS Hd) us bs → Vals (bs.map (·.1)) us ∧ DaAll Hd (bs.map (·.2)) (bs.map (·.1))
  | _, _, .nil => ⟨.nil, DaAll.nil⟩
  | _, _, .cons ⟨h1, h2⟩ t => ⟨.cons h1 (each_vals t).1, DaAll.cons h2 (each_vals t).2⟩
theorem sortOk_al {ds : List D} (h : sortOk ds = true) : ∀ d ∈ ds, ∀ e ∈ ds, alX d e = true := by
  unfold sortOk at h
  simp only [Bool.and_eq_true, List.all_eq_true] at h
  exact h.1.1.1
section
variable {X : Cx}
theorem Da.tup_at {Hd : Hp} {es : List D} {v : V} (h : Da Hd (.tuple es) v) : ∃ a xs, v = .ref a ∧ Hd a = some (.tup xs) ∧ DaAll Hd es xs := by simpa only [Da] using h
theorem Da.lst_at {Hd : Hp} {es : List D} {v : V} (h : Da Hd (.list es) v) : ∃ a xs, v = .ref a ∧ Hd a = some (.lst xs) ∧ DaAll Hd es xs := by simpa only [Da] using h
mutual
theorem canLay_al : ∀ (d : D), alX d d = true → d.canLay0 = true
  | .int _, _ => by simp [PyData.canLay0]
  | .tuple xs, h => by
    simp only [alX] at h
    simp only [PyData.canLay0]
    exact canLays_al xs h
  | .none, h => by simp [alX] at h
  | .bool _, h => by simp [alX] at h
  | .str _, h => by simp [alX] at h
  | .list _, h => by simp [alX] at h
  | .dict _, h => by simp [alX] at h
theorem canLays_al : ∀ (d : List D), alXs d d = true → PyData.canLayAll0 d = true
  | [], _ => by simp [PyData.canLayAll0]
  | x :: xs, h => by
    simp only [alXs, Bool.and_eq_true] at h
    simp only [PyData.canLayAll0, Bool.and_eq_true]
    exact ⟨canLay_al x h.1, canLays_al xs h.2⟩
end
theorem callG_sorted (hu : X.A.units + 65 < cLine) : CallR X (.builtin "sorted") (rF (bgS .sorted)) := by
  intro pins s σ H vs us Q I rv ⟨Hd, ds, z, ex, hd, hz, q⟩
  obtain ⟨es, hes, ok, rfl⟩ := bg_sorted hz
  have hal := sortOk_al ok
  have ok' := ok
  unfold sortOk at ok'
  simp only [Bool.and_eq_true, List.all_eq_true, Bool.or_eq_true] at ok'
  obtain ⟨⟨⟨_, hkind⟩, hdep⟩, hlen⟩ := ok'
  have hlen : es.length ≤ lim := of_decide_eq_true hlen
  have key : ∀ (a : Addr) (xs : List V) (its : List Value) (T : String) (o : Obj) (n : Nat), us = [.ref a] → DaAll Hd es xs → Vals xs its → (T = "list" ∨ T = "tuple") → s.heap.get? a = some o → o.cls = .type T → o.data = .seq its.toArray n →
      wpAny (model X.prog X.w) X.A (PySem.call (.builtin "sorted") us) (EP X pins σ Q) X.xe s := by
    intro a xs its T o n eu hxs hvs hT ho hc hd
    subst eu
    have hl := hxs.len
    have em : (xs.zip es).map (·.2) = es := zip_snd hl
    have e := each_zip hxs hvs
    have er : PySem.W.EachIs (fun v (b : V × D) => ∃ as, Reads s.heap v b.2 as) its (xs.zip es) := (PySem.W.each_mem e).mono fun u b ⟨⟨h1, h2⟩, hb⟩ => by
      have hm : b.2 ∈ es := by rw [← em]; exact List.mem_map.mpr ⟨b, hb, rfl⟩
      exact Dp.reads I b.2 b.1 u (Da.dp _ _ (canLay_al _ (hal _ hm _ hm)) (Da.ext ex _ _ h2)) h1
    refine sorted_seq (bs := xs.zip es) (enc := (·.2)) (R := relS Hd) hT ho hc hd e er ?_ ?_ ?_ ?_ fun h1 k1 h' out k2 hat hlo hout => ?_
    · rw [em]
      exact fun d hd e he => alX_al _ _ (hal d hd e he)
    · rw [em]
      rcases hkind with hk | hk
      · refine .inr fun d hd => ?_
        have := hk d hd
        cases d <;> simp_all [isI]
      · refine .inl fun d hd => ?_
        have := hk d hd
        cases d <;> simp only [isT1] at this <;> try (cases this)
        rename_i l
        cases l with
        | nil => cases this
        | cons x r => exact ⟨x, r, rfl⟩
    · rw [List.length_zip]
      have := lim_line
      omega
    · intro b hb
      have hm : b.2 ∈ es := by rw [← em]; exact List.mem_map.mpr ⟨b, hb, rfl⟩
      have := of_decide_eq_true (hdep _ hm)
      omega
    · obtain ⟨n', hat⟩ := hat
      have I1 : Inv X pins σ H { s with heap := h1 } := I.kept (t' := s.toks) k1
      obtain ⟨v1, v2⟩ := each_vals hout
      have es2 : ((xs.zip es).mergeSort (PySem.W.dataLe false (·.2))).map (·.2) = sortG ltD es := by
        rw [PySem.W.sort_maps (r := PySem.W.dataLe false fun x : V × D => x.2) (s := PySem.W.dataLe false id) (fun x : V × D => x.2) fun a _ b _ => rfl, em, sortG_data hal]
      rw [es2] at v2
      have I2 : Inv X pins σ (upd H h1.objs.size (.lst (((xs.zip es).mergeSort (PySem.W.dataLe false (·.2))).map (·.1)))) { s with heap := h' } :=
        I1.laid (t' := s.toks) k2 (Nat.le_refl _) (show ObjOk X.prog X.w _ h' _ (.lst _) from ⟨by
          rw [List.length_map, (List.mergeSort_perm ..).length_eq, List.length_zip]
          have := lim_line
          omega, out, n', v1, hat⟩)
      have hn := I1.hok.fresh (Nat.le_refl _)
      exact ⟨.ref h1.objs.size, _, I2, rfl, q _ _ _ (Gr.new ex hn) (da_new_lst ex hn v2)⟩
  rcases hes with rfl | rfl
  · obtain ⟨v, rfl, h1⟩ := hd.one
    obtain ⟨a, xs, rfl, h2, h3⟩ := h1.lst_at
    obtain ⟨its, r, hl, hz'⟩ := I.list (SqL.of (ex _ _ h2))
    obtain ⟨u, rfl, ru⟩ := vals1 rv
    cases ru
    obtain ⟨o, ho, hc, n, hd'⟩ := hl.isList
    exact key a xs its "list" o n rfl h3 r (.inl rfl) ho hc hd'
  · obtain ⟨v, rfl, h1⟩ := hd.one
    obtain ⟨a, xs, rfl, h2, h3⟩ := h1.tup_at
    obtain ⟨its, r, hl, hz'⟩ := I.tuple (SqT.of (ex _ _ h2))
    obtain ⟨u, rfl, ru⟩ := vals1 rv
    cases ru
    obtain ⟨o, ho, hc, n, hd'⟩ := hl
    exact key a xs its "tuple" o n rfl h3 r (.inr rfl) ho hc hd'
end
end Mp

set_option Elab.async false
set_option linter.all false
set_option maxRecDepth 100000
set_option maxHeartbeats 4000000
namespace Mp
open PySem L2
open PyProof.Rows hiding St
/-! ### t[::-1] -/
section
variable {prog : Program} {w : World} {A : Around} {E : Value → Shared → Prop} {s : Shared}
theorem adjust_rev (n : Nat) : Builtin.Slice.sliceAdjust none none (-1) (n : Int) = ((n : Int) - 1, -1) := by
  unfold Builtin.Slice.sliceAdjust
  rfl
theorem places_rev (n : Nat) : Builtin.Slice.slicePlaces ((n : Int) - 1) (-1) (-1) = n := by
  unfold Builtin.Slice.slicePlaces
  rw [if_neg (by decide)]
  by_cases h : n = 0
  · subst h; rfl
  · rw [if_pos (by omega)]
    simp only [Int.neg_neg, Int.ediv_one]
    omega
theorem sliceApplied_rev {sl : Addr} {vl vu vs : Value} {n : Nat} {Q : Int × Int × Nat → Shared → Prop} (hs : s.heap.IsSliceOf sl vl vu vs) (pl : IsPart vl none) (pu : IsPart vu none) (ps : IsPart vs (some (-1)))
    (h : Q ((n : Int) - 1, -1, n) s) : wpAny (model prog w) A (Builtin.Slice.sliceApplied (.ref sl) (pure (n : Int))) Q E s := by
  obtain ⟨os, hos, hcs, hds⟩ := id hs
  unfold Builtin.Slice.sliceApplied Builtin.Slice.sliceFields
  refine wpAny_bind (wpAny_bind (wpAny_field hos hds (x := vl) rfl (wpAny_bind (wpAny_field hos hds (x := vu) rfl (wpAny_bind (wpAny_field hos hds (x := vs) rfl (wpAny_pure ?_)))))))
  refine wpAny_bind (HT.slicePart_ ps ?_)
  show wpAny _ _ (if ((-1 : Int) == 0) = true then _ else _) _ _ s
  rw [if_neg (by decide)]
  refine wpAny_bind (HT.slicePart_ pl (wpAny_bind (HT.slicePart_ pu (wpAny_bind (wpAny_pure ?_)))))
  show wpAny _ _ (match Builtin.Slice.sliceAdjust none none (-1) (n : Int) with | (lo, hi) => pure (lo, (-1 : Int), Builtin.Slice.slicePlaces lo hi (-1))) _ _ s
  rw [adjust_rev n]
  show wpAny _ _ (pure ((n : Int) - 1, (-1 : Int), Builtin.Slice.slicePlaces ((n : Int) - 1) (-1) (-1))) _ _ s
  rw [places_rev]
  exact wpAny_pure h
theorem fm_congr {α β : Type} {f : α → Option β} {g : α → β} : ∀ {l : List α}, (∀ m ∈ l, f m = some (g m)) → l.filterMap f = l.map g
  | [], _ => rfl
  | x :: xs, h => by rw [List.filterMap_cons, h x (by simp), List.map_cons, fm_congr fun m hm => h m (by simp [hm])]
theorem pick_rev (xs : Array Value) : ((List.range xs.size).filterMap fun (m : Nat) => xs[(((xs.size : Int) - 1) + (m : Int) * (-1)).toNat]?).toArray = xs.toList.reverse.toArray := by
  congr 1
  have e : ∀ m ∈ List.range xs.size, xs[(((xs.size : Int) - 1) + (m : Int) * (-1)).toNat]? = some (xs.toList.reverse.getD m .none) := by
    intro m hm
    have hm : m < xs.size := List.mem_range.mp hm
    have : (((xs.size : Int) - 1) + (m : Int) * (-1)).toNat = xs.size - 1 - m := by omega
    rw [this, List.getD_eq_getElem?_getD, List.getElem?_reverse (by simpa using hm)]
    simp only [Array.length_toList, Array.getElem?_toList]
    rw [Array.getElem?_eq_getElem (by omega)]
    rfl
  rw [fm_congr e]
  apply List.ext_getElem
  · simp
  · intro i h1 h2
    simp at h1
    simp [List.getD_eq_getElem?_getD, h1]
theorem getItem_tuple_rev {t sl : Addr} {items : Array Value} {vl vu vs : Value} {Q : Value → Shared → Prop} (ht : IsTup s.heap t items) (hs : s.heap.IsSliceOf sl vl vu vs) (pl : IsPart vl none) (pu : IsPart vu none) (ps : IsPart vs (some (-1)))
    (h : Q (.ref s.heap.objs.size) { s with heap := s.heap.push { cls := .type "tuple", data := .seq items.toList.reverse.toArray } }) (hsz : items.size ≤ sizeLine) : wpAny (model prog w) A (getItem (.ref t) (.ref sl)) Q E s := by
  have htake : sizeOk (.seq items.toList.reverse.toArray) := by
    show items.toList.reverse.toArray.size ≤ sizeLine
    simpa using hsz
  obtain ⟨os, hos, hcs, hds⟩ := id hs
  have hTs : s.TypeIs (.ref sl) "slice" := ⟨os, hos, hcs⟩
  unfold getItem
  try with_reducible refine wpAny_holding ?_
  first | refine wpAny_bind (wpAny_pure ?_) | skip
  refine wpAny_bind (wpAny_sequenceKey ht.typeIs (by decide) ?_)
  refine wpAny_bind (wpAny_callSpecial?_slot (name := Str.ofString "__getitem__") ht.typeIs PyProof.Rows.slot_tuple_getitem
    (wpAny_call_entry PyProof.Rows.slot_tuple_getitem ht.typeIs entry_tuple_getitem ?_ (args_tuple_getitem _ _)))
  show wpAny _ _ (Builtin.Tuple.tupleItemsOf (.ref t) >>= _) _ _ s
  refine wpAny_bind (tupleItemsOf_ ht ?_)
  refine wpAny_bind (wpAny_typeOf hTs ?_)
  rw [if_pos (by decide)]
  refine wpAny_bind (sliceApplied_rev hs pl pu ps ?_)
  have hno : ¬ ((((items.size : Int) - 1) == 0 && (-1 : Int) == 1 && items.size == items.size) = true) := by
    intro q
    rw [Bool.and_eq_true, Bool.and_eq_true] at q
    exact absurd q.1.2 (by decide)
  show wpAny _ _ (if ((((items.size : Int) - 1) == 0 && (-1 : Int) == 1 && items.size == items.size) = true) then _ else _) _ _ s
  rw [if_neg hno, pick_rev]
  first
    | exact wpAny_bind (m := Builtin.Tuple.tupleExact _) (wpAny_newObj_type (wpAny_pure ⟨_, rfl, wpAny_pure h⟩) htake)
    | exact wpAny_bind (m := Builtin.Tuple.tupleExact _) (wpAny_newObj_type (wpAny_bind (wpAny_pure (wpAny_pure ⟨_, rfl, wpAny_pure h⟩))) htake)
    | exact wpAny_bind (wpAny_bind (m := Builtin.Tuple.tupleExact _) (wpAny_newObj_type (wpAny_pure (wpAny_pure ⟨_, rfl, wpAny_pure h⟩)) htake))
    | exact wpAny_bind (wpAny_bind (m := Builtin.Tuple.tupleExact _) (wpAny_newObj_type (wpAny_pure ⟨_, rfl, wpAny_pure h⟩) htake))
end
section
variable {X : Cx}
def tRevT (K : PySem.W.Frag) (te : TE) : TE := fun σ H Q => te σ H fun x H1 => ∃ a xs, x = .ref a ∧ ((SqL K H1 a xs ∧ ∀ p, H1 p = none → Q (.ref p) (upd H1 p (.lst xs.reverse))) ∨ (SqT K H1 a xs ∧ ∀ p, H1 p = none → Q (.ref p) (upd H1 p (.tup xs.reverse))))
theorem pe_rev {e : Expr} {te : TE} {k : Nat} {p1 p2 p3 pos : Pos} (he : PE X e te) : PE X (.Subscript e (.Slice none none (some (.UnaryOp .USub (.Constant (.int 1) k p1) p2)) p3) pos) (tRevT X.K te) := by
  refine ⟨fun pins s σ H Q I h => ?_⟩
  refine Subscript_ (thn (he.run pins s σ H _ I h) fun v s1 ⟨x, H1, I1, r1, q1⟩ => ?_)
  obtain ⟨a, xs, ex, hx⟩ := q1
  subst ex
  cases r1
  have hst : PO X (some (.UnaryOp .USub (.Constant (.int 1) k p1) p2)) (tPart (tUn (rU fun i => .int (-i)) (tC (.int 1)))) := po_some (pe_un un_neg pe_int)
  refine wpAny_Slice (thn (po_none.run pins s1 σ H1 (fun o H2 => o = none ∧ H2 = H1) I1 ⟨rfl, rfl⟩) fun vl s2 ⟨l, H2, I2, pl, el, e2⟩ => ?_)
  subst el e2
  refine thn (po_none.run pins s2 σ H2 (fun o H3 => o = none ∧ H3 = H2) I2 ⟨rfl, rfl⟩) fun vu s3 ⟨u, H3, I3, pu, eu, e3⟩ => ?_
  subst eu e3
  refine thn (hst.run pins s3 σ H3 (fun o H4 => o = some (-1) ∧ H4 = H3) I3 ⟨1, rfl, -1, rfl, rfl, rfl⟩) fun vs s4 ⟨o, H4, I4, ps, eo, e4⟩ => ?_
  subst eo e4
  have I5 : Inv X pins σ H4 { s4 with heap := s4.heap.push { cls := .type "slice", data := .fields #[vl, vu, vs] } } := I4.kept (t' := s4.toks) fun b ob q => Heap.get?_push_of_some _ q
  show wpAny (model X.prog X.w) X.A (subscriptTail e (.Slice none none (some (.UnaryOp .USub (.Constant (.int 1) k p1) p2)) p3) (.ref a) (.ref s4.heap.objs.size)) (EP X pins σ Q) X.xe { s4 with heap := s4.heap.push { cls := .type "slice", data := .fields #[vl, vu, vs] } }
  rcases hx with ⟨hx, q⟩ | ⟨hx, q⟩
  · obtain ⟨its, r, ht, hz⟩ := I5.list hx
    have hlen := r.length
    refine tail_any (ops := [.ref a, .ref s4.heap.objs.size]) ht.isList.typeIs (PySem.slot_list_getitem.lookup) ?_ (by with_unfolding_all rfl)
    refine wpAny_getItem_list_slice ht.isList (Heap.IsSliceOf.new _ vl vu vs) pl pu ps (by decide) ?_ (by rw [List.size_toArray]; omega)
    rw [PySem.W.krv_pick]
    refine ⟨.ref _, _, I5.laid (t' := s4.toks) (o := .lst xs.reverse) (fun b ob q => Heap.get?_push_of_some _ q) (Nat.le_refl _) ?_, rfl, q _ (I5.hok.fresh (Nat.le_refl _))⟩
    exact ⟨by rw [List.length_reverse]; exact hz, _, 0, r.reverse, Heap.get?_push_size _ rfl⟩
  · obtain ⟨its, r, ht, hz⟩ := I5.tuple hx
    have hlen := r.length
    refine tail_any (ops := [.ref a, .ref s4.heap.objs.size]) ht.typeIs (PyProof.Rows.slot_tuple_getitem.lookup) ?_ (by with_unfolding_all rfl)
    refine getItem_tuple_rev ht (Heap.IsSliceOf.new _ vl vu vs) pl pu ps ?_ (by rw [List.size_toArray]; omega)
    refine ⟨.ref _, _, I5.laid (t' := s4.toks) (o := .tup xs.reverse) (fun b ob q => Heap.get?_push_of_some _ q) (Nat.le_refl _) ?_, rfl, q _ (I5.hok.fresh (Nat.le_refl _))⟩
    exact ⟨by rw [List.length_reverse]; exact hz, _, r.reverse, IsTup.new _ _⟩
end
variable [KF]
theorem DaAll.rev {H : Hp} : ∀ {ds : List D} {vs : List V}, DaAll H ds vs → DaAll H ds.reverse vs.reverse
  | [], vs, h => by simp only [DaAll] at h; subst h; exact DaAll.nil
  | d :: ds, vs, h => by
    simp only [DaAll] at h
    obtain ⟨v, r, rfl, h1, h2⟩ := h
    rw [List.reverse_cons, List.reverse_cons]
    exact (DaAll.rev h2).app (DaAll.cons h1 DaAll.nil)
section
variable {X : Cx} {p : Pr} {a b c e : Expr} {ea eb ec : Ex} {pos pp : Pos} {es : List Expr} {xs : Es} {wf : Nat}
theorem dE_rev {k : Nat} {p1 p2 p3 : Pos} (ha : PE X a (tD p ea)) : PE X (.Subscript a (.Slice none none (some (.UnaryOp .USub (.Constant (.int 1) k p1) p2)) p3) pos) (tD p (.blg .rev (.cons ea .nil))) :=
  peI (pe_rev ha) fun σ H Q ⟨H0, Hd0, ρ, Hd, S, q⟩ => by
    simp only [ev, evs, R.assoc] at q
    refine tR_bnd S q fun d v H1 Hd1 S1 g1 hd _ q1 => ?_
    obtain ⟨z, hz, q2⟩ := (show Ct Da p.mg p.W σ H1 Hd1 (ofO (revS [d])) Q from q1).ofO'
    cases d <;> simp only [revS] at hz <;> cases hz
    · obtain ⟨m, ys, rfl, h1, h2⟩ := hd.lst_at
      exact ⟨m, ys, rfl, .inl ⟨SqL.of (S1.ex _ _ h1), fun w hw => q2.next (Gr.new S1.ex hw) (da_new_lst S1.ex hw h2.rev)⟩⟩
    · obtain ⟨m, ys, rfl, h1, h2⟩ := hd.tup_at
      exact ⟨m, ys, rfl, .inr ⟨SqT.of (S1.ex _ _ h1), fun w hw => q2.next (Gr.new S1.ex hw) (da_new_tup S1.ex hw h2.rev)⟩⟩
theorem tG_of {f : Bg} {σ : St} {H : Hp} {Q : VK} (h : tD p (.blg f xs) σ H Q) : tCB (rF (bgS f)) (tDs p xs) σ H Q := by
  obtain ⟨H0, Hd0, ρ, Hd, S, q⟩ := h
  simp only [ev] at q
  refine tR_bnd S q fun ds vs H1 Hd1 S1 g1 hd _ q1 => ?_
  obtain ⟨z, hz, q2⟩ := q1.ofO'
  exact ⟨Hd1, ds, z, S1.ex, hd, hz, fun v H' Hd' g h => q2 v H' Hd' g h⟩
theorem dE_blgB {f : Bg} {x : Str} {id : String} (h : CallR X (.builtin id) (rF (bgS f))) (hg : Gl X x) (hm : X.mg x = none) (hv : bootBuiltins x = some (.builtin id)) (ha : PA X (e :: es) (tDs p xs)) (hn : x ≠ "__name__" := by decide) (hdb : (x == ("__debug__" : Str)) = false := by decide)
    (he : starEach (e :: es) X.env = (false, eval e X.env) :: starEach es X.env := by rfl) (hpl : (backTo pos (starEach es X.env)).any (·.1) = false := by rfl) : PE X (.Call (.Name x pp) (e :: es) [] pos) (tD p (.blg f xs)) :=
  peI (pe_callB h hg hm hv ha hn hdb he hpl) fun _ _ _ q => tG_of q
theorem dE_blgT {f : Bg} {x : Str} {id : String} (h : CallR X (.type id) (rF (bgS f))) (hg : Gl X x) (hm : X.mg x = none) (hv : bootBuiltins x = some (.type id)) (ha : PA X (e :: es) (tDs p xs)) (hn : x ≠ "__name__" := by decide) (hdb : (x == ("__debug__" : Str)) = false := by decide)
    (he : starEach (e :: es) X.env = (false, eval e X.env) :: starEach es X.env := by rfl) (hpl : (backTo pos (starEach es X.env)).any (·.1) = false := by rfl) : PE X (.Call (.Name x pp) (e :: es) [] pos) (tD p (.blg f xs)) :=
  peI (pe_callTy h hg hm hv ha hn hdb he hpl) fun _ _ _ q => tG_of q
theorem callG_bool : CallR X (.type "bool") (rF (bgS .bool)) := callF_of fun ds z hz => by
  have hz : boolS ds = some z := hz
  unfold boolS at hz
  split at hz <;> cases hz
  · rename_i i
    exact ⟨_, call_bool1, fun vs H Hd Q ex hd q => by
      obtain ⟨v, rfl, h1⟩ := hd.one
      simp only [Da] at h1
      subst h1
      exact .inl ⟨i, rfl, q _ _ _ (Gr.refl ex) (by simp only [Da])⟩⟩
  · rename_i k
    exact ⟨_, call_bool1, fun vs H Hd Q ex hd q => by
      obtain ⟨v, rfl, h1⟩ := hd.one
      simp only [Da] at h1
      subst h1
      exact .inr ⟨k, rfl, q _ _ _ (Gr.refl ex) (by simp only [Da])⟩⟩
/-! ### xs.extend(ys) -/
theorem dS_ext {i : Nat} {o : Expr} {apos cpos : Pos} (hv : PE X o (tVar i)) (he : PE X e (tD p ea)) (hs1 : starEach [e] X.env = [(false, eval e X.env)] := by rfl) (hbase : attributeBase o "extend" X.env (eval o X.env) = eval o X.env := by rfl)
    (hfew : ((backTo cpos (starEach [e] X.env)).all (fun x => !x.1) && (backToKw cpos (keywordEach [] X.env)).all (fun x => x.1.isSome) && decide ([e].length + ([] : List Keyword).length + (if ([] : List Keyword).isEmpty then 0 else 1) < 30)) = true := by rfl)
    (hline : (apos.endLine == cpos.line) = true := by rfl) (hplain : (backTo cpos (starEach ([] : List Expr) X.env)).any (·.1) = false := by rfl) (hsw : swapsWith (.Call (.Attribute o "extend" apos) [e] [] cpos) none pos.line X.env = pure false := by rfl) :
    PS X (.Expr (.Call (.Attribute o "extend" apos) [e] [] cpos) pos) (tS p wf (.ext i ea)) :=
  psI (ps_expr (pe_bm PySem.F.plainAttrs_list PySem.F.slot_list_extend PySem.F.type_list_extend mt_extend hv (pa_cons he pa_nil hs1) hbase hfew hline (by rw [hs1]; rfl) hplain) hsw) fun D σ H ⟨H0, Hd0, ρ, Hd, S, q⟩ => by
    simp only [exec] at q
    split at q
    · rename_i ds hr
      obtain ⟨v, h1, w, vs, rfl, h2, h3, h4, h5⟩ := S.ok i _ hr
      refine ⟨_, h1, .inl ⟨rfl, vs, SqL.of h4⟩, tR_out S q fun d y H1 Hd1 S1 g1 hd _ q1 => ?_⟩
      cases d <;> simp only at q1 <;> try exact q1.elim
      rename_i es'
      split at q1
      · rename_i hl
        obtain ⟨m, ys, rfl, h6, h7⟩ := hd.lst_at
        refine ⟨w, m, vs, ys, rfl, rfl, g1.a _ _ h4, S1.ex _ _ h6, ?_, q1 _ _ Hd1 Ext.rfl' (S1.ownMut hr h1 ((DaAll.ext g1.d _ _ h5).app h7))⟩
        have := lim_line
        rw [h5.len, h7.len]
        rw [List.length_append] at hl
        omega
      · exact q1.elim
    · exact q.elim
end
end Mp

set_option Elab.async false
set_option linter.all false
set_option maxRecDepth 100000
set_option maxHeartbeats 4000000
namespace Pg
open PySem Mp
def sub : Str → Str → Bool := fun a b => a == b || b == "AdditiveError"
def p__law_cell : S := (.seq (.ite (.cmp .lt (.var 1) (.blt .len (.cons (.var 0) .nil))) (.ret (.ix (.var 0) (.var 1))) .skip) (.ret (.lit (.int 0))))
def p__law_row : S := (.seq (.asg (.nm 2) (.call "_law_cell" (.cons (.var 0) (.cons (.var 1) .nil)))) (.seq (.own 3 (.lst .nil)) (.seq (.for (.nm 4) (.rng (.lit (.int 60))) (.ite (.cmp .lt (.call "_law_cell" (.cons (.var 0) (.cons (.var 1) .nil))) (.bin .pow (.lit (.int 10)) (.lit (.int 18)))) (.seq (.asg (.nm 2) (.bin .mod (.bin .add (.bin .add (.bin .add (.bin .mul (.var 2) (.lit (.int 48271))) (.bin .mul (.lit (.int 131)) (.var 4))) (.lit (.int 7))) (.call "_law_cell" (.cons (.var 0) (.cons (.bin .mod (.bin .add (.bin .add (.var 1) (.lit (.int 1))) (.var 4)) (.lit (.int 20))) .nil)))) (.lit (.int 2147483647)))) (.app 3 (.bin .mod (.bin .fdiv (.var 2) (.lit (.int 11))) (.lit (.int 1000))))) (.seq (.app 3 (.bin .mod (.var 2) (.lit (.int 1000)))) (.asg (.nm 2) (.bin .fdiv (.var 2) (.lit (.int 1000))))))) (.frz [3] (.ret (.var 3))))))
def p__law_whole : S := (.ret (.and (.blt (.isi .int) (.cons (.var 0) .nil)) (.not (.blt (.isi .bool) (.cons (.var 0) .nil)))))
def p__law_in : S := (.ret (.and (.call "_law_whole" (.cons (.var 0) .nil)) (.chain .le .le (.var 1) (.var 0) (.var 2))))
def p_in_range : S := (.ret (.and (.blt (.isi .int) (.cons (.var 0) .nil)) (.and (.not (.blt (.isi .bool) (.cons (.var 0) .nil))) (.chain .le .le (.var 1) (.var 0) (.var 2)))))
def p_is_pair : S := (.ret (.and (.blt (.isi .tuple) (.cons (.var 0) .nil)) (.and (.cmp .eq (.blt .len (.cons (.var 0) .nil)) (.lit (.int 2))) (.and (.call "in_range" (.cons (.ix (.var 0) (.lit (.int 0))) (.cons (.lit (.int 0)) (.cons (.var 1) .nil)))) (.call "in_range" (.cons (.ix (.var 0) (.lit (.int 1))) (.cons (.lit (.int 0)) (.cons (.var 2) .nil))))))))
def p_is_size : S := (.ret (.and (.call "is_pair" (.cons (.var 0) (.cons (.lit (.int 4)) (.cons (.lit (.int 4)) .nil)))) (.and (.cmp .gt (.ix (.var 0) (.lit (.int 0))) (.lit (.int 0))) (.cmp .gt (.ix (.var 0) (.lit (.int 1))) (.lit (.int 0))))))
def p_check_size : S := (.ite (.not (.call "is_size" (.cons (.var 0) .nil))) (.rais "InvalidSize") .skip)
def p_is_cell : S := (.ret (.call "is_pair" (.cons (.var 1) (.cons (.bin .sub (.ix (.var 0) (.lit (.int 0))) (.lit (.int 1))) (.cons (.bin .sub (.ix (.var 0) (.lit (.int 1))) (.lit (.int 1))) .nil)))))
def p_is_comparison : S := (.seq (.ite (.or (.not (.blt (.isi .tuple) (.cons (.var 1) .nil))) (.or (.cmp .ne (.blt .len (.cons (.var 1) .nil)) (.lit (.int 3))) (.cmp .notin (.ix (.var 1) (.lit (.int 1))) (.tup (.cons (.lit (.str "above")) (.cons (.lit (.str "at least")) (.cons (.lit (.str "equal")) .nil))))))) (.ret (.lit (.bool false))) .skip) (.ret (.and (.call "is_cell" (.cons (.var 0) (.cons (.ix (.var 1) (.lit (.int 0))) .nil))) (.and (.call "is_cell" (.cons (.var 0) (.cons (.ix (.var 1) (.lit (.int 2))) .nil))) (.cmp .ne (.ix (.var 1) (.lit (.int 0))) (.ix (.var 1) (.lit (.int 2))))))))
def p_are_comparisons : S := (.seq (.ite (.or (.not (.blt (.isi .tuple) (.cons (.var 1) .nil))) (.cmp .gt (.blt .len (.cons (.var 1) .nil)) (.lit (.int 12)))) (.ret (.lit (.bool false))) .skip) (.ret (.not (.lc (.nm 2) (.seq (.var 1)) (.som (.not (.call "is_comparison" (.cons (.var 0) (.cons (.var 2) .nil))))) (.var 2) [2]))))
def p_check_comparisons : S := (.seq (.drop (.call "check_size" (.cons (.var 0) .nil))) (.ite (.not (.call "are_comparisons" (.cons (.var 0) (.cons (.var 1) .nil)))) (.rais "InvalidComparisons") .skip))
def p_are_values : S := (.seq (.ite (.or (.not (.blt (.isi .tuple) (.cons (.var 1) .nil))) (.cmp .ne (.blt .len (.cons (.var 1) .nil)) (.lit (.int 2)))) (.ret (.lit (.bool false))) .skip) (.seq (.for (.tp (.cons (.nm 2) (.cons (.nm 3) .nil))) (.zip (.var 0) (.var 1)) (.seq (.ite (.or (.not (.blt (.isi .tuple) (.cons (.var 3) .nil))) (.cmp .ne (.blt .len (.cons (.var 3) .nil)) (.var 2))) (.ret (.lit (.bool false))) .skip) (.ite (.lc (.nm 4) (.seq (.var 3)) (.som (.or (.not (.blt (.isi .int) (.cons (.var 4) .nil))) (.blt (.isi .bool) (.cons (.var 4) .nil)))) (.var 4) [4]) (.ret (.lit (.bool false))) .skip))) (.ret (.lit (.bool true)))))
def p_cell_value : S := (.ret (.bin .add (.ix (.ix (.var 0) (.lit (.int 0))) (.ix (.var 1) (.lit (.int 0)))) (.ix (.ix (.var 0) (.lit (.int 1))) (.ix (.var 1) (.lit (.int 1))))))
def p_holds : S := (.seq (.asg (.nm 2) (.bin .sub (.call "cell_value" (.cons (.var 0) (.cons (.ix (.var 1) (.lit (.int 0))) .nil))) (.call "cell_value" (.cons (.var 0) (.cons (.ix (.var 1) (.lit (.int 2))) .nil))))) (.seq (.ite (.cmp .eq (.ix (.var 1) (.lit (.int 1))) (.lit (.str "equal"))) (.ret (.cmp .eq (.var 2) (.lit (.int 0)))) .skip) (.ret (.ite (.cmp .eq (.ix (.var 1) (.lit (.int 1))) (.lit (.str "above"))) (.cmp .gt (.var 2) (.lit (.int 0))) (.cmp .ge (.var 2) (.lit (.int 0)))))))
def p_agrees : S := (.seq (.drop (.call "check_comparisons" (.cons (.var 0) (.cons (.var 1) .nil)))) (.ret (.and (.call "are_values" (.cons (.var 0) (.cons (.var 2) .nil))) (.not (.lc (.nm 3) (.seq (.var 1)) (.som (.not (.call "holds" (.cons (.var 2) (.cons (.var 3) .nil))))) (.var 3) [3])))))
def p_difference : S := (.seq (.asg (.nm 3) (.lc (.nm 4) (.rng (.ix (.var 0) (.lit (.int 0)))) .non (.bin .sub (.blt .int (.cons (.cmp .eq (.var 4) (.ix (.var 1) (.lit (.int 0)))) .nil)) (.blt .int (.cons (.cmp .eq (.var 4) (.ix (.var 2) (.lit (.int 0)))) .nil))) [4])) (.ret (.bin .add (.var 3) (.lc (.nm 5) (.rng (.ix (.var 0) (.lit (.int 1)))) .non (.bin .sub (.blt .int (.cons (.cmp .eq (.var 5) (.ix (.var 1) (.lit (.int 1)))) .nil)) (.blt .int (.cons (.cmp .eq (.var 5) (.ix (.var 2) (.lit (.int 1)))) .nil))) [5]))))
def p_equation_of : S := (.seq (.asg (.tp (.cons (.nm 3) (.cons (.nm 4) (.cons (.nm 5) .nil)))) (.ix (.var 1) (.var 2))) (.seq (.asg (.nm 6) (.lc (.nm 7) (.rng (.blt .len (.cons (.var 1) .nil))) .non (.neg (.blt .int (.cons (.and (.cmp .eq (.var 2) (.var 7)) (.cmp .ne (.var 4) (.lit (.str "equal")))) .nil))) [7])) (.ret (.bin .add (.bin .add (.call "difference" (.cons (.var 0) (.cons (.var 3) (.cons (.var 5) .nil)))) (.var 6)) (.lst (.cons (.blt .int (.cons (.cmp .eq (.var 4) (.lit (.str "above"))) .nil)) .nil))))))
def p_pick_column : S := (.seq (.for (.nm 2) (.rng (.var 1)) (.ite (.cmp .gt (.ix (.ix (.var 0) (.neg (.lit (.int 1)))) (.var 2)) (.lit (.int 0))) (.ret (.var 2)) .skip)) (.ret (.lit .none)))
def p_pick_row : S := (.seq (.asg (.nm 3) (.lit .none)) (.seq (.for (.nm 4) (.rng (.bin .sub (.blt .len (.cons (.var 0) .nil)) (.lit (.int 1)))) (.ite (.cmp .gt (.ix (.ix (.var 0) (.var 4)) (.var 2)) (.lit (.int 0))) (.ite (.cmp .is (.var 3) (.lit .none)) (.asg (.nm 3) (.var 4)) (.seq (.asg (.nm 5) (.bin .mul (.ix (.ix (.var 0) (.var 4)) (.neg (.lit (.int 1)))) (.ix (.ix (.var 0) (.var 3)) (.var 2)))) (.seq (.asg (.nm 6) (.bin .mul (.ix (.ix (.var 0) (.var 3)) (.neg (.lit (.int 1)))) (.ix (.ix (.var 0) (.var 4)) (.var 2)))) (.ite (.or (.cmp .lt (.var 5) (.var 6)) (.and (.cmp .eq (.var 5) (.var 6)) (.cmp .lt (.ix (.var 1) (.var 4)) (.ix (.var 1) (.var 3))))) (.asg (.nm 3) (.var 4)) .skip)))) .skip)) (.ret (.var 3))))
def p_exchange : S := (.seq (.asg (.nm 4) (.ix (.var 0) (.var 1))) (.seq (.own 5 (.lst .nil)) (.seq (.for (.tp (.cons (.nm 6) (.cons (.nm 7) .nil))) (.enum (.var 0)) (.ite (.cmp .eq (.var 6) (.var 1)) (.app 5 (.var 7)) (.seq (.asg (.nm 8) (.ix (.var 7) (.var 2))) (.app 5 (.lc (.tp (.cons (.nm 9) (.cons (.nm 10) .nil))) (.zip (.var 7) (.var 4)) .non (.bin .fdiv (.bin .sub (.bin .mul (.var 9) (.ix (.var 4) (.var 2))) (.bin .mul (.var 10) (.var 8))) (.var 3)) [9, 10]))))) (.frz [5] (.ret (.var 5))))))
def p_solve : S := (.seq (.asg (.nm 2) (.blt .len (.cons (.var 0) .nil))) (.seq (.own 3 (.lst .nil)) (.seq (.for (.tp (.cons (.nm 4) (.cons (.nm 5) .nil))) (.enum (.var 0)) (.app 3 (.bin .add (.bin .add (.sl (.var 5) .non (.som (.neg (.lit (.int 1))))) (.lc (.nm 6) (.rng (.var 2)) .non (.blt .int (.cons (.cmp .eq (.var 4) (.var 6)) .nil)) [6])) (.sl (.var 5) (.som (.neg (.lit (.int 1)))) .non)))) (.seq (.asg (.nm 7) (.lc (.nm 9) (.rng (.var 1)) .non (.bor (.blt .sum (.cons (.lc (.nm 8) (.seq (.var 3)) .non (.ix (.var 8) (.var 9)) [8]) .nil))) [9])) (.seq (.app 3 (.bin .add (.bin .add (.var 7) (.bin .mul (.lst (.cons (.lit (.int 0)) .nil)) (.var 2))) (.lst (.cons (.bor (.blt .sum (.cons (.lc (.nm 8) (.seq (.var 3)) .non (.ix (.var 8) (.neg (.lit (.int 1)))) [8]) .nil))) .nil)))) (.seq (.own 10 (.lc (.nm 4) (.rng (.var 2)) .non (.bin .add (.var 1) (.var 4)) [4])) (.seq (.asg (.nm 11) (.lit (.int 1))) (.seq (.asg (.nm 9) (.bor (.call "pick_column" (.cons (.var 3) (.cons (.var 1) .nil))))) (.seq (.whl (.cmp .isnt (.var 9) (.lit .none)) (.seq (.asg (.nm 12) (.bor (.call "pick_row" (.cons (.var 3) (.cons (.var 10) (.cons (.var 9) .nil)))))) (.seq (.asg (.nm 13) (.bor (.ix (.ix (.var 3) (.var 12)) (.var 9)))) (.seq (.frz [3] (.asg (.nm 3) (.call "exchange" (.cons (.var 3) (.cons (.var 12) (.cons (.var 9) (.cons (.var 11) .nil))))))) (.seq (.asg (.nm 11) (.var 13)) (.seq (.set 10 (.var 12) (.var 9)) (.asg (.nm 9) (.bor (.call "pick_column" (.cons (.var 3) (.cons (.var 1) .nil))))))))))) (.seq (.ite (.cmp .ne (.bor (.ix (.ix (.var 3) (.neg (.lit (.int 1)))) (.neg (.lit (.int 1))))) (.lit (.int 0))) (.frz [3] (.ret (.tup (.cons (.lit .none) (.cons (.lc (.nm 4) (.rng (.var 2)) .non (.bin .add (.ix (.ix (.var 3) (.neg (.lit (.int 1)))) (.bin .add (.var 1) (.var 4))) (.var 11)) [4]) .nil))))) .skip) (.seq (.own 14 (.bin .mul (.lst (.cons (.lit (.int 0)) .nil)) (.var 1))) (.seq (.frz [10] (.for (.tp (.cons (.nm 12) (.cons (.nm 15) .nil))) (.enum (.var 10)) (.ite (.cmp .lt (.var 15) (.var 1)) (.set 14 (.var 15) (.bor (.ix (.ix (.var 3) (.var 12)) (.neg (.lit (.int 1)))))) .skip))) (.frz [14] (.ret (.tup (.cons (.tup (.cons (.var 14) (.cons (.var 11) .nil))) (.cons (.lit .none) .nil)))))))))))))))))
def p_greatest_divisor : S := (.seq (.asg (.nm 1) (.lit (.int 0))) (.seq (.for (.nm 2) (.seq (.var 0)) (.seq (.asg (.nm 3) (.blt .abs (.cons (.var 2) .nil))) (.whl (.var 3) (.par 1 3 (.var 3) (.bin .mod (.var 1) (.var 3)))))) (.ret (.blt .max (.cons (.var 1) (.cons (.lit (.int 1)) .nil))))))
def p_shortened : S := (.seq (.asg (.nm 1) (.call "greatest_divisor" (.cons (.var 0) .nil))) (.ret (.lc (.nm 2) (.seq (.var 0)) .non (.bin .fdiv (.var 2) (.var 1)) [2])))
def p_settle : S := (.seq (.asg (.nm 2) (.lc (.nm 3) (.rng (.blt .len (.cons (.var 1) .nil))) .non (.call "equation_of" (.cons (.var 0) (.cons (.var 1) (.cons (.var 3) .nil)))) [3])) (.seq (.asg (.tp (.cons (.nm 4) (.cons (.nm 5) .nil))) (.call "solve" (.cons (.var 2) (.cons (.bin .add (.bin .add (.ix (.var 0) (.lit (.int 0))) (.ix (.var 0) (.lit (.int 1)))) (.blt .len (.cons (.var 1) .nil))) .nil)))) (.seq (.ite (.cmp .is (.var 4) (.lit .none)) (.ret (.tup (.cons (.lit .none) (.cons (.blt .tuple (.cons (.call "shortened" (.cons (.var 5) .nil)) .nil)) .nil)))) .skip) (.seq (.asg (.nm 6) (.call "shortened" (.cons (.sl (.ix (.var 4) (.lit (.int 0))) .non (.som (.bin .add (.ix (.var 0) (.lit (.int 0))) (.ix (.var 0) (.lit (.int 1)))))) .nil))) (.ret (.tup (.cons (.tup (.cons (.blt .tuple (.cons (.sl (.var 6) .non (.som (.ix (.var 0) (.lit (.int 0))))) .nil)) (.cons (.blt .tuple (.cons (.sl (.var 6) (.som (.ix (.var 0) (.lit (.int 0)))) .non) .nil)) .nil))) (.cons (.lit .none) .nil))))))))
def p_is_consistent : S := (.seq (.drop (.call "check_comparisons" (.cons (.var 0) (.cons (.var 1) .nil)))) (.ret (.cmp .isnt (.ix (.call "settle" (.cons (.var 0) (.cons (.var 1) .nil))) (.lit (.int 0))) (.lit .none))))
def p_are_multipliers : S := (.seq (.ite (.or (.not (.blt (.isi .tuple) (.cons (.var 1) .nil))) (.cmp .ne (.blt .len (.cons (.var 1) .nil)) (.blt .len (.cons (.var 0) .nil)))) (.ret (.lit (.bool false))) .skip) (.seq (.ite (.lc (.nm 2) (.seq (.var 1)) (.som (.or (.not (.blt (.isi .int) (.cons (.var 2) .nil))) (.blt (.isi .bool) (.cons (.var 2) .nil)))) (.var 2) [2]) (.ret (.lit (.bool false))) .skip) (.ret (.not (.lc (.tp (.cons (.nm 2) (.cons (.nm 3) .nil))) (.zip (.var 0) (.var 1)) (.som (.and (.cmp .ne (.ix (.var 2) (.lit (.int 1))) (.lit (.str "equal"))) (.cmp .lt (.var 3) (.lit (.int 0))))) (.lit (.int 1)) [2, 3])))))
def p_total_difference : S := (.seq (.asg (.nm 3) (.bin .mul (.lst (.cons (.lit (.int 0)) .nil)) (.bin .add (.ix (.var 0) (.lit (.int 0))) (.ix (.var 0) (.lit (.int 1)))))) (.seq (.for (.tp (.cons (.tp (.cons (.nm 4) (.cons (.nm 5) (.cons (.nm 6) .nil)))) (.cons (.nm 7) .nil))) (.zip (.var 1) (.var 2)) (.asg (.nm 3) (.lc (.tp (.cons (.nm 8) (.cons (.nm 9) .nil))) (.zip (.var 3) (.call "difference" (.cons (.var 0) (.cons (.var 4) (.cons (.var 6) .nil))))) .non (.bin .add (.var 8) (.bin .mul (.var 7) (.var 9))) [8, 9]))) (.ret (.var 3))))
def p_is_cancelling : S := (.seq (.drop (.call "check_comparisons" (.cons (.var 0) (.cons (.var 1) .nil)))) (.seq (.ite (.not (.call "are_multipliers" (.cons (.var 1) (.cons (.var 2) .nil)))) (.ret (.lit (.bool false))) .skip) (.seq (.ite (.not (.lc (.tp (.cons (.nm 3) (.cons (.nm 4) .nil))) (.zip (.var 1) (.var 2)) (.som (.and (.cmp .eq (.ix (.var 3) (.lit (.int 1))) (.lit (.str "above"))) (.cmp .gt (.var 4) (.lit (.int 0))))) (.lit (.int 1)) [3, 4])) (.ret (.lit (.bool false))) .skip) (.ret (.not (.lc (.nm 3) (.seq (.call "total_difference" (.cons (.var 0) (.cons (.var 1) (.cons (.var 2) .nil))))) (.som (.cmp .ne (.var 3) (.lit (.int 0)))) (.var 3) [3]))))))
def p_check_consistent : S := (.seq (.drop (.call "check_comparisons" (.cons (.var 0) (.cons (.var 1) .nil)))) (.ite (.cmp .is (.ix (.call "settle" (.cons (.var 0) (.cons (.var 1) .nil))) (.lit (.int 0))) (.lit .none)) (.rais "Inconsistent") .skip))
def p_check_cell : S := (.ite (.not (.call "is_cell" (.cons (.var 0) (.cons (.var 1) .nil)))) (.rais "InvalidCell") .skip)
def p_follows : S := (.seq (.asg (.tp (.cons (.nm 3) (.cons (.nm 4) (.cons (.nm 5) .nil)))) (.var 2)) (.seq (.asg (.nm 6) (.tup (.cons (.var 5) (.cons (.ite (.cmp .eq (.var 4) (.lit (.str "above"))) (.lit (.str "at least")) (.lit (.str "above"))) (.cons (.var 3) .nil))))) (.ret (.cmp .is (.ix (.call "settle" (.cons (.var 0) (.cons (.bin .add (.var 1) (.tup (.cons (.var 6) .nil))) .nil))) (.lit (.int 0))) (.lit .none)))))
def p_implied : S := (.seq (.asg (.tp (.cons (.nm 3) (.cons (.nm 4) (.cons (.nm 5) .nil)))) (.var 2)) (.seq (.ite (.cmp .eq (.var 4) (.lit (.str "equal"))) (.seq (.asg (.nm 6) (.tup (.cons (.tup (.cons (.var 3) (.cons (.lit (.str "at least")) (.cons (.var 5) .nil)))) (.cons (.tup (.cons (.var 5) (.cons (.lit (.str "at least")) (.cons (.var 3) .nil)))) .nil)))) (.ret (.not (.lc (.nm 7) (.seq (.var 6)) (.som (.not (.call "follows" (.cons (.var 0) (.cons (.var 1) (.cons (.var 7) .nil)))))) (.var 7) [7])))) .skip) (.ret (.call "follows" (.cons (.var 0) (.cons (.var 1) (.cons (.var 2) .nil)))))))
def p_relation : S := (.seq (.drop (.call "check_consistent" (.cons (.var 0) (.cons (.var 1) .nil)))) (.seq (.drop (.call "check_cell" (.cons (.var 0) (.cons (.var 2) .nil)))) (.seq (.drop (.call "check_cell" (.cons (.var 0) (.cons (.var 3) .nil)))) (.seq (.ite (.or (.cmp .eq (.var 2) (.var 3)) (.call "implied" (.cons (.var 0) (.cons (.var 1) (.cons (.tup (.cons (.var 2) (.cons (.lit (.str "equal")) (.cons (.var 3) .nil)))) .nil))))) (.ret (.lit (.str "equal"))) .skip) (.seq (.ite (.call "follows" (.cons (.var 0) (.cons (.var 1) (.cons (.tup (.cons (.var 2) (.cons (.lit (.str "above")) (.cons (.var 3) .nil)))) .nil)))) (.ret (.lit (.str "above"))) .skip) (.ret (.ite (.call "follows" (.cons (.var 0) (.cons (.var 1) (.cons (.tup (.cons (.var 3) (.cons (.lit (.str "above")) (.cons (.var 2) .nil)))) .nil)))) (.lit (.str "below")) (.lit (.str "open")))))))))
def p_subsets : S := (.seq (.ite (.cmp .eq (.var 1) (.lit (.int 0))) (.ret (.lst (.cons (.tup .nil) .nil))) .skip) (.ret (.lc2 (.nm 2) (.seq (.call "subsets" (.cons (.var 0) (.cons (.bin .sub (.var 1) (.lit (.int 1))) .nil)))) .non (.nm 3) (.rng2 (.ite (.var 2) (.bin .add (.ix (.var 2) (.neg (.lit (.int 1)))) (.lit (.int 1))) (.lit (.int 0))) (.var 0)) .non (.bin .add (.var 2) (.tup (.cons (.var 3) .nil))) [2, 3] [3])))
def p_without : S := (.ret (.blt .tuple (.cons (.lc (.tp (.cons (.nm 2) (.cons (.nm 3) .nil))) (.enumT (.var 0)) (.som (.cmp .notin (.var 2) (.var 1))) (.var 3) [2, 3]) .nil)))
def p_fewest_drops : S := (.seq (.drop (.call "check_comparisons" (.cons (.var 0) (.cons (.var 1) .nil)))) (.seq (.ite (.cmp .gt (.blt .len (.cons (.var 1) .nil)) (.lit (.int 10))) (.rais "TooMany") .skip) (.seq (.asg (.nm 2) (.lst .nil)) (.seq (.asg (.nm 3) (.lit (.int 0))) (.seq (.whl (.not (.var 2)) (.seq (.asg (.nm 4) (.call "subsets" (.cons (.blt .len (.cons (.var 1) .nil)) (.cons (.var 3) .nil)))) (.seq (.asg (.nm 2) (.lc (.nm 5) (.seq (.var 4)) (.som (.cmp .isnt (.ix (.call "settle" (.cons (.var 0) (.cons (.call "without" (.cons (.var 1) (.cons (.var 5) .nil))) .nil))) (.lit (.int 0))) (.lit .none))) (.var 5) [5])) (.aug 3 (.lit (.int 1)))))) (.ret (.ix (.var 2) (.lit (.int 0)))))))))
def p_all_cells : S := (.ret (.lc2 (.nm 1) (.rng (.ix (.var 0) (.lit (.int 0)))) .non (.nm 2) (.rng (.ix (.var 0) (.lit (.int 1)))) .non (.tup (.cons (.var 1) (.cons (.var 2) .nil))) [1, 2] [2]))
def p_is_same : S := (.ret (.and (.blt (.isi .tuple) (.cons (.var 0) .nil)) (.and (.cmp .eq (.var 0) (.var 1)) (.not (.lc (.nm 2) (.seq (.var 0)) (.som (.blt (.isi .bool) (.cons (.var 2) .nil))) (.var 2) [2])))))
def p_is_order : S := (.seq (.drop (.call "check_size" (.cons (.var 0) .nil))) (.seq (.ite (.or (.not (.blt (.isi .tuple) (.cons (.var 1) .nil))) (.cmp .ne (.blt .len (.cons (.var 1) .nil)) (.bin .mul (.ix (.var 0) (.lit (.int 0))) (.ix (.var 0) (.lit (.int 1)))))) (.ret (.lit (.bool false))) .skip) (.ret (.not (.lc (.nm 2) (.seq (.call "all_cells" (.cons (.var 0) .nil))) (.som (.cmp .eq (.lc (.nm 3) (.seq (.var 1)) (.som (.call "is_same" (.cons (.var 3) (.cons (.var 2) .nil)))) (.var 3) [3]) (.lst .nil))) (.var 2) [2])))))
def p_check_small : S := (.seq (.drop (.call "check_size" (.cons (.var 0) .nil))) (.ite (.cmp .gt (.bin .mul (.ix (.var 0) (.lit (.int 0))) (.ix (.var 0) (.lit (.int 1)))) (.lit (.int 9))) (.rais "TooLarge") .skip))
def p_ascending_starts : S := (.seq (.asg (.nm 1) (.lst (.cons (.lst .nil) .nil))) (.seq (.for (.nm 2) (.rng (.bin .mul (.ix (.var 0) (.lit (.int 0))) (.ix (.var 0) (.lit (.int 1))))) (.seq (.own 3 (.lst .nil)) (.seq (.for (.nm 4) (.seq (.var 1)) (.seq (.asg (.nm 5) (.lc (.nm 7) (.rng (.ix (.var 0) (.lit (.int 0)))) .non (.blt .len (.cons (.lc (.nm 6) (.seq (.var 4)) (.som (.cmp .eq (.ix (.var 6) (.lit (.int 0))) (.var 7))) (.var 6) [6]) .nil)) [7])) (.for (.nm 7) (.rng (.ix (.var 0) (.lit (.int 0)))) (.ite (.and (.cmp .lt (.ix (.var 5) (.var 7)) (.ix (.var 0) (.lit (.int 1)))) (.or (.cmp .eq (.var 7) (.lit (.int 0))) (.cmp .gt (.ix (.var 5) (.bin .sub (.var 7) (.lit (.int 1)))) (.ix (.var 5) (.var 7))))) (.app 3 (.bin .add (.var 4) (.lst (.cons (.tup (.cons (.var 7) (.cons (.ix (.var 5) (.var 7)) .nil))) .nil)))) .skip)))) (.frz [3] (.asg (.nm 1) (.var 3)))))) (.ret (.lc (.nm 4) (.seq (.var 1)) .non (.blt .tuple (.cons (.var 4) .nil)) [4]))))
def p_chain : S := (.ret (.blt .tuple (.cons (.lc (.tp (.cons (.nm 1) (.cons (.nm 2) .nil))) (.zip (.var 0) (.sl (.var 0) (.som (.lit (.int 1))) .non)) .non (.tup (.cons (.var 2) (.cons (.lit (.str "above")) (.cons (.var 1) .nil)))) [1, 2]) .nil)))
def p_standard_orders : S := (.seq (.drop (.call "check_small" (.cons (.var 0) .nil))) (.ret (.blg .sorted (.cons (.lc (.nm 1) (.seq (.call "ascending_starts" (.cons (.var 0) .nil))) (.som (.cmp .isnt (.ix (.call "settle" (.cons (.var 0) (.cons (.call "chain" (.cons (.var 1) .nil)) .nil))) (.lit (.int 0))) (.lit .none))) (.var 1) [1]) .nil))))
def p_permutations : S := (.seq (.asg (.nm 1) (.lst (.cons (.tup .nil) .nil))) (.seq (.for (.nm 2) (.rng (.var 0)) (.seq (.own 3 (.lst .nil)) (.seq (.for (.nm 4) (.seq (.var 1)) (.ext 3 (.lc (.nm 5) (.rng (.var 0)) (.som (.cmp .notin (.var 5) (.var 4))) (.bin .add (.var 4) (.tup (.cons (.var 5) .nil))) [5]))) (.frz [3] (.asg (.nm 1) (.var 3)))))) (.ret (.var 1))))
def p_count_orders : S := (.ret (.bin .mul (.bin .mul (.blt .len (.cons (.call "standard_orders" (.cons (.var 0) .nil)) .nil)) (.blt .len (.cons (.call "permutations" (.cons (.ix (.var 0) (.lit (.int 0))) .nil)) .nil))) (.blt .len (.cons (.call "permutations" (.cons (.ix (.var 0) (.lit (.int 1))) .nil)) .nil))))
def p_check_order : S := (.ite (.not (.call "is_order" (.cons (.var 0) (.cons (.var 1) .nil)))) (.rais "InvalidOrder") .skip)
def p_check_additive : S := (.seq (.drop (.call "check_order" (.cons (.var 0) (.cons (.var 1) .nil)))) (.ite (.cmp .is (.ix (.call "settle" (.cons (.var 0) (.cons (.call "chain" (.cons (.var 1) .nil)) .nil))) (.lit (.int 0))) (.lit .none)) (.rais "NotAdditive") .skip))
def p_distance : S := (.seq (.drop (.call "check_additive" (.cons (.var 0) (.cons (.var 1) .nil)))) (.seq (.drop (.call "check_additive" (.cons (.var 0) (.cons (.var 2) .nil)))) (.ret (.blt .len (.cons (.call "separating" (.cons (.var 1) (.cons (.var 2) .nil))) .nil)))))
def p_every_order : S := (.seq (.asg (.nm 1) (.call "standard_orders" (.cons (.var 0) .nil))) (.seq (.own 2 (.lst .nil)) (.seq (.for (.nm 3) (.seq (.call "permutations" (.cons (.ix (.var 0) (.lit (.int 0))) .nil))) (.for (.nm 4) (.seq (.call "permutations" (.cons (.ix (.var 0) (.lit (.int 1))) .nil))) (.ext 2 (.lc (.nm 7) (.seq (.var 1)) .non (.blt .tuple (.cons (.lc (.tp (.cons (.nm 5) (.cons (.nm 6) .nil))) (.seq (.var 7)) .non (.tup (.cons (.ix (.var 3) (.var 5)) (.cons (.ix (.var 4) (.var 6)) .nil))) [5, 6]) .nil)) [7])))) (.frz [2] (.ret (.blg .sorted (.cons (.var 2) .nil)))))))
def p_agreeing_orders : S := (.seq (.drop (.call "check_small" (.cons (.var 0) .nil))) (.seq (.ite (.not (.call "are_comparisons" (.cons (.var 0) (.cons (.var 1) .nil)))) (.rais "InvalidComparisons") .skip) (.ret (.lc (.nm 2) (.seq (.call "every_order" (.cons (.var 0) .nil))) (.som (.call "fits" (.cons (.var 2) (.cons (.var 1) .nil)))) (.var 2) [2]))))
def p__law_size : S := (.seq (.asg (.nm 3) (.call "_law_row" (.cons (.var 0) (.cons (.var 1) .nil)))) (.seq (.own 4 (.lst .nil)) (.seq (.for (.nm 5) (.rng2 (.lit (.int 1)) (.lit (.int 5))) (.for (.nm 6) (.rng2 (.lit (.int 1)) (.lit (.int 5))) (.ite (.cmp .le (.bin .mul (.var 5) (.var 6)) (.var 2)) (.app 4 (.tup (.cons (.var 5) (.cons (.var 6) .nil)))) .skip))) (.frz [4] (.ret (.ix (.var 4) (.bin .mod (.ix (.var 3) (.lit (.int 0))) (.blt .len (.cons (.var 4) .nil)))))))))
def p__law_given : S := (.seq (.asg (.nm 3) (.call "_law_row" (.cons (.var 0) (.cons (.var 1) .nil)))) (.seq (.asg (.nm 4) (.lc (.nm 5) (.rng (.ix (.var 2) (.lit (.int 0)))) .non (.bin .mod (.ix (.var 3) (.var 5)) (.lit (.int 6))) [5])) (.ret (.tup (.cons (.blt .tuple (.cons (.var 4) .nil)) (.cons (.blt .tuple (.cons (.lc (.nm 5) (.rng (.ix (.var 2) (.lit (.int 1)))) .non (.bin .mod (.ix (.var 3) (.bin .add (.lit (.int 10)) (.var 5))) (.lit (.int 6))) [5]) .nil)) .nil))))))
def p__law_cells : S := (.seq (.own 1 (.lst .nil)) (.seq (.for (.nm 2) (.rng (.ix (.var 0) (.lit (.int 0)))) (.for (.nm 3) (.rng (.ix (.var 0) (.lit (.int 1)))) (.app 1 (.tup (.cons (.var 2) (.cons (.var 3) .nil)))))) (.frz [1] (.ret (.var 1)))))
def p__law_value : S := (.ret (.bin .add (.ix (.ix (.var 0) (.lit (.int 0))) (.ix (.var 1) (.lit (.int 0)))) (.ix (.ix (.var 0) (.lit (.int 1))) (.ix (.var 1) (.lit (.int 1))))))
def p__law_holds : S := (.seq (.asg (.nm 2) (.bin .sub (.call "_law_value" (.cons (.var 0) (.cons (.ix (.var 1) (.lit (.int 0))) .nil))) (.call "_law_value" (.cons (.var 0) (.cons (.ix (.var 1) (.lit (.int 2))) .nil))))) (.ret (.ite (.cmp .eq (.ix (.var 1) (.lit (.int 1))) (.lit (.str "equal"))) (.cmp .eq (.var 2) (.lit (.int 0))) (.or (.cmp .gt (.var 2) (.lit (.int 0))) (.and (.cmp .eq (.var 2) (.lit (.int 0))) (.cmp .eq (.ix (.var 1) (.lit (.int 1))) (.lit (.str "at least"))))))))
def p__law_comparisons : S := (.seq (.asg (.nm 4) (.call "_law_row" (.cons (.var 0) (.cons (.var 1) .nil)))) (.seq (.asg (.nm 5) (.call "_law_given" (.cons (.var 0) (.cons (.var 1) (.cons (.var 2) .nil))))) (.seq (.asg (.nm 6) (.call "_law_cells" (.cons (.var 2) .nil))) (.seq (.own 7 (.lst .nil)) (.seq (.ite (.cmp .gt (.blt .len (.cons (.var 6) .nil)) (.lit (.int 1))) (.for (.nm 8) (.rng (.bin .mod (.ix (.var 4) (.lit (.int 20))) (.bin .add (.var 3) (.lit (.int 1))))) (.seq (.asg (.nm 9) (.ix (.var 6) (.bin .mod (.ix (.var 4) (.bin .add (.lit (.int 21)) (.bin .mul (.lit (.int 3)) (.var 8)))) (.blt .len (.cons (.var 6) .nil))))) (.seq (.asg (.nm 10) (.lc (.nm 11) (.seq (.var 6)) (.som (.cmp .ne (.var 11) (.var 9))) (.var 11) [11])) (.seq (.asg (.nm 12) (.ix (.var 10) (.bin .mod (.ix (.var 4) (.bin .add (.lit (.int 22)) (.bin .mul (.lit (.int 3)) (.var 8)))) (.blt .len (.cons (.var 10) .nil))))) (.seq (.asg (.nm 13) (.ix (.lst (.cons (.lit (.str "above")) (.cons (.lit (.str "above")) (.cons (.lit (.str "at least")) (.cons (.lit (.str "equal")) .nil))))) (.bin .mod (.ix (.var 4) (.bin .add (.lit (.int 23)) (.bin .mul (.lit (.int 3)) (.var 8)))) (.lit (.int 4))))) (.seq (.ite (.and (.cmp .gt (.bin .mod (.ix (.var 4) (.lit (.int 19))) (.lit (.int 3))) (.lit (.int 0))) (.not (.call "_law_holds" (.cons (.var 5) (.cons (.tup (.cons (.var 9) (.cons (.var 13) (.cons (.var 12) .nil)))) .nil))))) (.seq (.asg (.tp (.cons (.nm 9) (.cons (.nm 12) .nil))) (.tup (.cons (.var 12) (.cons (.var 9) .nil)))) (.asg (.nm 13) (.ite (.call "_law_holds" (.cons (.var 5) (.cons (.tup (.cons (.var 9) (.cons (.var 13) (.cons (.var 12) .nil)))) .nil))) (.var 13) (.lit (.str "at least"))))) .skip) (.app 7 (.tup (.cons (.var 9) (.cons (.var 13) (.cons (.var 12) .nil))))))))))) .skip) (.frz [7] (.ret (.blt .tuple (.cons (.var 7) .nil)))))))))
def p__law_are_given : S := (.seq (.ite (.or (.not (.blt (.isi .tuple) (.cons (.var 1) .nil))) (.cmp .ne (.blt .len (.cons (.var 1) .nil)) (.lit (.int 2)))) (.ret (.lit (.bool false))) .skip) (.seq (.for (.nm 2) (.rng (.lit (.int 2))) (.seq (.ite (.or (.not (.blt (.isi .tuple) (.cons (.ix (.var 1) (.var 2)) .nil))) (.cmp .ne (.blt .len (.cons (.ix (.var 1) (.var 2)) .nil)) (.ix (.var 0) (.var 2)))) (.ret (.lit (.bool false))) .skip) (.for (.nm 3) (.seq (.ix (.var 1) (.var 2))) (.ite (.or (.not (.blt (.isi .int) (.cons (.var 3) .nil))) (.blt (.isi .bool) (.cons (.var 3) .nil))) (.ret (.lit (.bool false))) .skip)))) (.ret (.lit (.bool true)))))
def p__law_agree : S := (.seq (.ite (.not (.call "_law_are_given" (.cons (.var 0) (.cons (.var 2) .nil)))) (.ret (.lit (.bool false))) .skip) (.seq (.for (.nm 3) (.seq (.var 1)) (.ite (.not (.call "_law_holds" (.cons (.var 2) (.cons (.var 3) .nil)))) (.ret (.lit (.bool false))) .skip)) (.ret (.lit (.bool true)))))
def p_values : S := (.seq (.drop (.call "check_comparisons" (.cons (.var 0) (.cons (.var 1) .nil)))) (.seq (.asg (.nm 2) (.ix (.call "settle" (.cons (.var 0) (.cons (.var 1) .nil))) (.lit (.int 0)))) (.seq (.ite (.cmp .is (.var 2) (.lit .none)) (.rais "Inconsistent") .skip) (.ret (.var 2)))))
def p_cancelling : S := (.seq (.drop (.call "check_comparisons" (.cons (.var 0) (.cons (.var 1) .nil)))) (.seq (.asg (.nm 2) (.ix (.call "settle" (.cons (.var 0) (.cons (.var 1) .nil))) (.lit (.int 1)))) (.seq (.ite (.cmp .is (.var 2) (.lit .none)) (.rais "Consistent") .skip) (.ret (.var 2)))))
def p__law_values : S := (.tryy (.ret (.ite (.cmp .eq (.var 0) (.lit (.int 0))) (.call "values" (.cons (.var 1) (.cons (.var 2) .nil))) (.call "cancelling" (.cons (.var 1) (.cons (.var 2) .nil))))) 3 ["Consistent", "Inconsistent", "InvalidComparisons", "InvalidSize"] [⟨"Inconsistent", (.and (.is "AdditiveError") (.not (.is "Consistent"))), .str "inconsistent", .str "other"⟩, ⟨"Consistent", (.and (.is "AdditiveError") (.not (.is "Inconsistent"))), .str "consistent", .str "other"⟩, ⟨"InvalidComparisons", (.and (.is "AdditiveError") (.not (.is "InvalidSize"))), .str "comparisons", .str "other"⟩])
def p__law_are_multipliers : S := (.seq (.ite (.or (.not (.blt (.isi .tuple) (.cons (.var 1) .nil))) (.cmp .ne (.blt .len (.cons (.var 1) .nil)) (.blt .len (.cons (.var 0) .nil)))) (.ret (.lit (.bool false))) .skip) (.seq (.for (.nm 2) (.rng (.blt .len (.cons (.var 1) .nil))) (.seq (.ite (.or (.not (.blt (.isi .int) (.cons (.ix (.var 1) (.var 2)) .nil))) (.blt (.isi .bool) (.cons (.ix (.var 1) (.var 2)) .nil))) (.ret (.lit (.bool false))) .skip) (.ite (.and (.cmp .lt (.ix (.var 1) (.var 2)) (.lit (.int 0))) (.cmp .ne (.ix (.ix (.var 0) (.var 2)) (.lit (.int 1))) (.lit (.str "equal")))) (.ret (.lit (.bool false))) .skip))) (.ret (.lit (.bool true)))))
def p__law_strict : S := (.seq (.for (.nm 2) (.rng (.blt .len (.cons (.var 0) .nil))) (.ite (.and (.cmp .eq (.ix (.ix (.var 0) (.var 2)) (.lit (.int 1))) (.lit (.str "above"))) (.cmp .gt (.ix (.var 1) (.var 2)) (.lit (.int 0)))) (.ret (.lit (.bool true))) .skip)) (.ret (.lit (.bool false))))
def p__law_total : S := (.seq (.own 3 (.bin .mul (.lst (.cons (.lit (.int 0)) .nil)) (.bin .add (.ix (.var 0) (.lit (.int 0))) (.ix (.var 0) (.lit (.int 1)))))) (.seq (.for (.nm 4) (.rng (.blt .len (.cons (.var 1) .nil))) (.seq (.asg (.tp (.cons (.nm 5) (.cons (.nm 6) (.cons (.nm 7) .nil)))) (.ix (.var 1) (.var 4))) (.seq (.for (.nm 8) (.seq (.tup (.cons (.ix (.var 5) (.lit (.int 0))) (.cons (.bin .add (.ix (.var 0) (.lit (.int 0))) (.ix (.var 5) (.lit (.int 1)))) .nil)))) (.set 3 (.var 8) (.bin .add (.bor (.ix (.var 3) (.var 8))) (.ix (.var 2) (.var 4))))) (.for (.nm 8) (.seq (.tup (.cons (.ix (.var 7) (.lit (.int 0))) (.cons (.bin .add (.ix (.var 0) (.lit (.int 0))) (.ix (.var 7) (.lit (.int 1)))) .nil)))) (.set 3 (.var 8) (.bin .sub (.bor (.ix (.var 3) (.var 8))) (.ix (.var 2) (.var 4)))))))) (.frz [3] (.ret (.var 3)))))
def p__law_is_cancelling : S := (.seq (.ite (.or (.not (.call "_law_are_multipliers" (.cons (.var 1) (.cons (.var 2) .nil)))) (.not (.call "_law_strict" (.cons (.var 1) (.cons (.var 2) .nil))))) (.ret (.lit (.bool false))) .skip) (.ret (.cmp .eq (.call "_law_total" (.cons (.var 0) (.cons (.var 1) (.cons (.var 2) .nil)))) (.bin .mul (.lst (.cons (.lit (.int 0)) .nil)) (.bin .add (.ix (.var 0) (.lit (.int 0))) (.ix (.var 0) (.lit (.int 1))))))))
def p__law_one : S := (.seq (.asg (.nm 3) (.call "_law_row" (.cons (.var 0) (.cons (.var 1) .nil)))) (.seq (.asg (.nm 4) (.call "_law_cells" (.cons (.var 2) .nil))) (.seq (.asg (.nm 5) (.ix (.var 4) (.bin .mod (.ix (.var 3) (.lit (.int 0))) (.blt .len (.cons (.var 4) .nil))))) (.seq (.asg (.nm 6) (.lc (.nm 7) (.seq (.var 4)) (.som (.cmp .ne (.var 7) (.var 5))) (.var 7) [7])) (.ret (.tup (.cons (.var 5) (.cons (.ix (.lst (.cons (.lit (.str "above")) (.cons (.lit (.str "at least")) (.cons (.lit (.str "equal")) .nil)))) (.bin .mod (.ix (.var 3) (.lit (.int 1))) (.lit (.int 3)))) (.cons (.ix (.var 6) (.bin .mod (.ix (.var 3) (.lit (.int 2))) (.blt .len (.cons (.var 6) .nil)))) .nil)))))))))
def p_is_implied : S := (.seq (.drop (.call "check_consistent" (.cons (.var 0) (.cons (.var 1) .nil)))) (.seq (.ite (.not (.call "is_comparison" (.cons (.var 0) (.cons (.var 2) .nil)))) (.rais "InvalidComparisons") .skip) (.ret (.call "implied" (.cons (.var 0) (.cons (.var 1) (.cons (.var 2) .nil)))))))
def p_derivation : S := (.seq (.drop (.call "check_consistent" (.cons (.var 0) (.cons (.var 1) .nil)))) (.seq (.ite (.or (.not (.call "is_comparison" (.cons (.var 0) (.cons (.var 2) .nil)))) (.cmp .eq (.ix (.var 2) (.lit (.int 1))) (.lit (.str "equal")))) (.rais "InvalidComparisons") .skip) (.seq (.asg (.tp (.cons (.nm 3) (.cons (.nm 4) (.cons (.nm 5) .nil)))) (.var 2)) (.seq (.asg (.nm 6) (.tup (.cons (.var 5) (.cons (.ite (.cmp .eq (.var 4) (.lit (.str "above"))) (.lit (.str "at least")) (.lit (.str "above"))) (.cons (.var 3) .nil))))) (.seq (.asg (.nm 7) (.ix (.call "settle" (.cons (.var 0) (.cons (.bin .add (.var 1) (.tup (.cons (.var 6) .nil))) .nil))) (.lit (.int 1)))) (.seq (.ite (.cmp .is (.var 7) (.lit .none)) (.rais "NotImplied") .skip) (.ret (.tup (.cons (.ix (.var 7) (.neg (.lit (.int 1)))) (.cons (.sl (.var 7) .non (.som (.neg (.lit (.int 1))))) .nil))))))))))
def p__law_derived : S := (.tryy (.ret (.ite (.cmp .eq (.var 0) (.lit (.int 0))) (.call "is_implied" (.cons (.var 1) (.cons (.var 2) (.cons (.var 3) .nil)))) (.call "derivation" (.cons (.var 1) (.cons (.var 2) (.cons (.var 3) .nil)))))) 4 ["Inconsistent", "InvalidComparisons", "InvalidSize", "NotImplied"] [⟨"Inconsistent", (.and (.is "AdditiveError") (.not (.is "NotImplied"))), .str "inconsistent", .str "other"⟩, ⟨"NotImplied", (.and (.is "AdditiveError") (.not (.is "Inconsistent"))), .str "not implied", .str "other"⟩, ⟨"InvalidComparisons", (.and (.is "AdditiveError") (.not (.is "NotImplied"))), .str "comparisons", .str "other"⟩])
def p__law_opposite : S := (.ret (.tup (.cons (.ix (.var 0) (.lit (.int 2))) (.cons (.ite (.cmp .eq (.ix (.var 0) (.lit (.int 1))) (.lit (.str "above"))) (.lit (.str "at least")) (.lit (.str "above"))) (.cons (.ix (.var 0) (.lit (.int 0))) .nil)))))
def p__law_implied : S := (.seq (.ite (.cmp .eq (.ix (.var 2) (.lit (.int 1))) (.lit (.str "equal"))) (.seq (.ite (.not (.call "_law_implied" (.cons (.var 0) (.cons (.var 1) (.cons (.tup (.cons (.ix (.var 2) (.lit (.int 0))) (.cons (.lit (.str "at least")) (.cons (.ix (.var 2) (.lit (.int 2))) .nil)))) .nil))))) (.ret (.lit (.bool false))) .skip) (.ret (.call "_law_implied" (.cons (.var 0) (.cons (.var 1) (.cons (.tup (.cons (.ix (.var 2) (.lit (.int 2))) (.cons (.lit (.str "at least")) (.cons (.ix (.var 2) (.lit (.int 0))) .nil)))) .nil)))))) .skip) (.ret (.cmp .eq (.call "_law_values" (.cons (.lit (.int 0)) (.cons (.var 0) (.cons (.sl (.bin .add (.var 1) (.tup (.cons (.call "_law_opposite" (.cons (.var 2) .nil)) .nil))) (.som (.neg (.lit (.int 12)))) .non) .nil)))) (.lit (.str "inconsistent")))))
def p__law_is_derivation : S := (.seq (.ite (.or (.not (.blt (.isi .tuple) (.cons (.var 3) .nil))) (.or (.cmp .ne (.blt .len (.cons (.var 3) .nil)) (.lit (.int 2))) (.not (.call "_law_are_multipliers" (.cons (.var 1) (.cons (.ix (.var 3) (.lit (.int 1))) .nil)))))) (.ret (.lit (.bool false))) .skip) (.seq (.ite (.or (.not (.blt (.isi .int) (.cons (.ix (.var 3) (.lit (.int 0))) .nil))) (.or (.blt (.isi .bool) (.cons (.ix (.var 3) (.lit (.int 0))) .nil)) (.cmp .lt (.ix (.var 3) (.lit (.int 0))) (.lit (.int 1))))) (.ret (.lit (.bool false))) .skip) (.seq (.ite (.and (.cmp .eq (.ix (.var 2) (.lit (.int 1))) (.lit (.str "above"))) (.not (.call "_law_strict" (.cons (.var 1) (.cons (.ix (.var 3) (.lit (.int 1))) .nil))))) (.ret (.lit (.bool false))) .skip) (.ret (.cmp .eq (.call "_law_total" (.cons (.var 0) (.cons (.var 1) (.cons (.ix (.var 3) (.lit (.int 1))) .nil)))) (.call "_law_total" (.cons (.var 0) (.cons (.tup (.cons (.var 2) .nil)) (.cons (.tup (.cons (.ix (.var 3) (.lit (.int 0))) .nil)) .nil)))))))))
def p_is_derivation : S := (.seq (.drop (.call "check_comparisons" (.cons (.var 0) (.cons (.var 1) .nil)))) (.seq (.ite (.or (.not (.call "is_comparison" (.cons (.var 0) (.cons (.var 2) .nil)))) (.cmp .eq (.ix (.var 2) (.lit (.int 1))) (.lit (.str "equal")))) (.rais "InvalidComparisons") .skip) (.seq (.ite (.or (.not (.blt (.isi .tuple) (.cons (.var 3) .nil))) (.or (.cmp .ne (.blt .len (.cons (.var 3) .nil)) (.lit (.int 2))) (.not (.call "are_multipliers" (.cons (.var 1) (.cons (.ix (.var 3) (.lit (.int 1))) .nil)))))) (.ret (.lit (.bool false))) .skip) (.seq (.ite (.or (.not (.blt (.isi .int) (.cons (.ix (.var 3) (.lit (.int 0))) .nil))) (.or (.blt (.isi .bool) (.cons (.ix (.var 3) (.lit (.int 0))) .nil)) (.cmp .lt (.ix (.var 3) (.lit (.int 0))) (.lit (.int 1))))) (.ret (.lit (.bool false))) .skip) (.seq (.asg (.nm 4) (.lc (.tp (.cons (.nm 5) (.cons (.nm 6) .nil))) (.zip (.var 1) (.ix (.var 3) (.lit (.int 1)))) (.som (.and (.cmp .eq (.ix (.var 5) (.lit (.int 1))) (.lit (.str "above"))) (.cmp .gt (.var 6) (.lit (.int 0))))) (.lit (.int 1)) [5, 6])) (.seq (.ite (.and (.cmp .eq (.ix (.var 2) (.lit (.int 1))) (.lit (.str "above"))) (.not (.var 4))) (.ret (.lit (.bool false))) .skip) (.seq (.asg (.nm 7) (.lc (.nm 5) (.seq (.call "difference" (.cons (.var 0) (.cons (.ix (.var 2) (.lit (.int 0))) (.cons (.ix (.var 2) (.lit (.int 2))) .nil))))) .non (.bin .mul (.ix (.var 3) (.lit (.int 0))) (.var 5)) [5])) (.ret (.cmp .eq (.call "total_difference" (.cons (.var 0) (.cons (.var 1) (.cons (.ix (.var 3) (.lit (.int 1))) .nil)))) (.var 7))))))))))
def p__law_checked : S := (.tryy (.ret (.call "is_derivation" (.cons (.var 0) (.cons (.var 1) (.cons (.var 2) (.cons (.var 3) .nil)))))) 4 ["InvalidComparisons", "InvalidSize"] [⟨"InvalidComparisons", (.and (.is "AdditiveError") (.not (.is "InvalidSize"))), .str "comparisons", .str "other"⟩])
def p__law_related : S := (.tryy (.ret (.call "relation" (.cons (.var 0) (.cons (.var 1) (.cons (.var 2) (.cons (.var 3) .nil)))))) 4 ["Inconsistent", "InvalidCell", "InvalidComparisons", "InvalidSize"] [⟨"InvalidCell", (.and (.is "AdditiveError") (.not (.is "Inconsistent"))), .str "cell", .str "other"⟩, ⟨"Inconsistent", (.and (.is "AdditiveError") (.not (.is "InvalidCell"))), .str "inconsistent", .str "other"⟩])
def p_needless : S := (.seq (.drop (.call "check_consistent" (.cons (.var 0) (.cons (.var 1) .nil)))) (.seq (.own 2 (.lst .nil)) (.seq (.for (.tp (.cons (.nm 3) (.cons (.nm 4) .nil))) (.enumT (.var 1)) (.ite (.call "implied" (.cons (.var 0) (.cons (.bin .add (.sl (.var 1) .non (.som (.var 3))) (.sl (.var 1) (.som (.bin .add (.var 3) (.lit (.int 1)))) .non)) (.cons (.var 4) .nil)))) (.app 2 (.var 3)) .skip)) (.frz [2] (.ret (.var 2))))))
def p__law_needless : S := (.tryy (.ret (.call "needless" (.cons (.var 0) (.cons (.var 1) .nil)))) 2 ["Inconsistent", "InvalidComparisons", "InvalidSize"] [⟨"Inconsistent", (.and (.is "AdditiveError") (.not (.is "InvalidComparisons"))), .str "inconsistent", .str "other"⟩])
def p__law_subsets : S := (.seq (.asg (.nm 1) (.lst (.cons (.tup .nil) .nil))) (.seq (.asg (.nm 2) (.lst (.cons (.tup .nil) .nil))) (.seq (.for (.nm 3) (.rng (.var 0)) (.seq (.own 4 (.lst .nil)) (.seq (.for (.nm 5) (.seq (.var 2)) (.for (.nm 6) (.rng2 (.ite (.cmp .ne (.var 5) (.tup .nil)) (.bin .add (.ix (.var 5) (.neg (.lit (.int 1)))) (.lit (.int 1))) (.lit (.int 0))) (.var 0)) (.app 4 (.bin .add (.var 5) (.tup (.cons (.var 6) .nil)))))) (.seq (.frz [4] (.asg (.nm 1) (.bin .add (.var 1) (.var 4)))) (.frz [4] (.asg (.nm 2) (.var 4))))))) (.ret (.var 1)))))
def p_smallest_conflict : S := (.seq (.drop (.call "check_comparisons" (.cons (.var 0) (.cons (.var 1) .nil)))) (.seq (.ite (.cmp .gt (.blt .len (.cons (.var 1) .nil)) (.lit (.int 10))) (.rais "TooMany") .skip) (.seq (.ite (.cmp .isnt (.ix (.call "settle" (.cons (.var 0) (.cons (.var 1) .nil))) (.lit (.int 0))) (.lit .none)) (.ret (.lit .none)) .skip) (.seq (.asg (.nm 2) (.lst .nil)) (.seq (.asg (.nm 3) (.lit (.int 1))) (.seq (.whl (.not (.var 2)) (.seq (.asg (.nm 4) (.call "subsets" (.cons (.blt .len (.cons (.var 1) .nil)) (.cons (.var 3) .nil)))) (.seq (.asg (.nm 2) (.lc (.nm 5) (.seq (.var 4)) (.som (.cmp .is (.ix (.call "settle" (.cons (.var 0) (.cons (.blt .tuple (.cons (.lc (.nm 6) (.seq (.var 5)) .non (.ix (.var 1) (.var 6)) [6]) .nil)) .nil))) (.lit (.int 0))) (.lit .none))) (.var 5) [5])) (.aug 3 (.lit (.int 1)))))) (.ret (.ix (.var 2) (.lit (.int 0))))))))))
def p__law_dropped : S := (.tryy (.ret (.ite (.cmp .eq (.var 0) (.lit (.int 0))) (.call "fewest_drops" (.cons (.var 1) (.cons (.var 2) .nil))) (.call "smallest_conflict" (.cons (.var 1) (.cons (.var 2) .nil))))) 3 ["InvalidComparisons", "InvalidSize", "TooMany"] [⟨"TooMany", (.and (.is "AdditiveError") (.not (.is "InvalidComparisons"))), .str "many", .str "other"⟩])
def p__law_order : S := (.seq (.asg (.nm 3) (.call "_law_row" (.cons (.var 0) (.cons (.var 1) .nil)))) (.seq (.asg (.nm 4) (.call "_law_given" (.cons (.var 0) (.cons (.var 1) (.cons (.var 2) .nil))))) (.seq (.asg (.nm 5) (.tup (.cons (.blt .tuple (.cons (.lc (.nm 6) (.seq (.ix (.var 4) (.lit (.int 0)))) .non (.bin .add (.bin .mul (.lit (.int 7)) (.var 6)) (.lit (.int 3))) [6]) .nil)) (.cons (.blt .tuple (.cons (.lc (.nm 6) (.seq (.ix (.var 4) (.lit (.int 1)))) .non (.bin .add (.bin .mul (.lit (.int 5)) (.var 6)) (.bin .mod (.ix (.var 3) (.lit (.int 30))) (.lit (.int 3)))) [6]) .nil)) .nil)))) (.seq (.asg (.nm 7) (.lc (.nm 8) (.seq (.call "_law_cells" (.cons (.var 2) .nil))) .non (.tup (.cons (.call "_law_value" (.cons (.var 5) (.cons (.var 8) .nil))) (.cons (.var 8) .nil))) [8])) (.seq (.ite (.cmp .eq (.bin .mod (.ix (.var 3) (.lit (.int 31))) (.lit (.int 3))) (.lit (.int 0))) (.asg (.nm 7) (.lc (.nm 9) (.rng (.blt .len (.cons (.var 7) .nil))) .non (.tup (.cons (.bin .mod (.ix (.var 3) (.bin .add (.lit (.int 32)) (.var 9))) (.lit (.int 50))) (.cons (.ix (.ix (.var 7) (.var 9)) (.lit (.int 1))) .nil))) [9])) .skip) (.seq (.asg (.nm 10) (.lc (.tp (.cons (.nm 11) (.cons (.nm 8) .nil))) (.seq (.blg .sorted (.cons (.var 7) .nil))) .non (.var 8) [11, 8])) (.seq (.ite (.and (.cmp .eq (.bin .mod (.ix (.var 3) (.lit (.int 31))) (.lit (.int 3))) (.lit (.int 1))) (.cmp .gt (.blt .len (.cons (.var 10) .nil)) (.lit (.int 1)))) (.seq (.asg (.nm 9) (.bin .mod (.ix (.var 3) (.lit (.int 29))) (.bin .sub (.blt .len (.cons (.var 10) .nil)) (.lit (.int 1))))) (.asg (.nm 10) (.bin .add (.bin .add (.sl (.var 10) .non (.som (.var 9))) (.lst (.cons (.ix (.var 10) (.bin .add (.var 9) (.lit (.int 1)))) (.cons (.ix (.var 10) (.var 9)) .nil)))) (.sl (.var 10) (.som (.bin .add (.var 9) (.lit (.int 2)))) .non)))) .skip) (.ret (.blt .tuple (.cons (.var 10) .nil))))))))))
def p_is_additive : S := (.seq (.drop (.call "check_order" (.cons (.var 0) (.cons (.var 1) .nil)))) (.ret (.cmp .isnt (.ix (.call "settle" (.cons (.var 0) (.cons (.call "chain" (.cons (.var 1) .nil)) .nil))) (.lit (.int 0))) (.lit .none))))
def p_order_values : S := (.seq (.drop (.call "check_order" (.cons (.var 0) (.cons (.var 1) .nil)))) (.seq (.asg (.nm 2) (.ix (.call "settle" (.cons (.var 0) (.cons (.call "chain" (.cons (.var 1) .nil)) .nil))) (.lit (.int 0)))) (.seq (.ite (.cmp .is (.var 2) (.lit .none)) (.rais "NotAdditive") .skip) (.ret (.var 2)))))
def p_multisets : S := (.seq (.ite (.cmp .eq (.var 1) (.lit (.int 0))) (.ret (.lst (.cons (.tup .nil) .nil))) .skip) (.ret (.lc2 (.nm 2) (.seq (.call "multisets" (.cons (.var 0) (.cons (.bin .sub (.var 1) (.lit (.int 1))) .nil)))) .non (.nm 3) (.rng2 (.ite (.var 2) (.ix (.var 2) (.neg (.lit (.int 1)))) (.lit (.int 0))) (.var 0)) .non (.bin .add (.var 2) (.tup (.cons (.var 3) .nil))) [2, 3] [3])))
def p_cancelling_pairs : S := (.seq (.drop (.call "check_order" (.cons (.var 0) (.cons (.var 1) .nil)))) (.seq (.ite (.cmp .gt (.blt .len (.cons (.var 1) .nil)) (.lit (.int 9))) (.rais "TooLarge") .skip) (.seq (.ite (.cmp .isnt (.ix (.call "settle" (.cons (.var 0) (.cons (.call "chain" (.cons (.var 1) .nil)) .nil))) (.lit (.int 0))) (.lit .none)) (.ret (.lit .none)) .skip) (.seq (.asg (.nm 2) (.lit (.int 2))) (.seq (.asg (.nm 3) (.call "short_cancelling" (.cons (.var 1) (.cons (.var 2) .nil)))) (.seq (.whl (.cmp .is (.var 3) (.lit .none)) (.seq (.aug 2 (.lit (.int 1))) (.asg (.nm 3) (.call "short_cancelling" (.cons (.var 1) (.cons (.var 2) .nil)))))) (.ret (.var 3))))))))
def p_wall_of : S := (.seq (.asg (.tp (.cons (.nm 2) (.cons (.nm 3) .nil))) (.blg .sorted (.cons (.lst (.cons (.var 0) (.cons (.var 1) .nil))) .nil))) (.seq (.ite (.cmp .eq (.ix (.var 2) (.lit (.int 0))) (.ix (.var 3) (.lit (.int 0)))) (.ret (.tup (.cons (.lit (.str "columns")) (.cons (.blt .min (.cons (.ix (.var 2) (.lit (.int 1))) (.cons (.ix (.var 3) (.lit (.int 1))) .nil))) (.cons (.blt .max (.cons (.ix (.var 2) (.lit (.int 1))) (.cons (.ix (.var 3) (.lit (.int 1))) .nil))) .nil))))) .skip) (.ret (.ite (.cmp .eq (.ix (.var 2) (.lit (.int 1))) (.ix (.var 3) (.lit (.int 1)))) (.tup (.cons (.lit (.str "rows")) (.cons (.ix (.var 2) (.lit (.int 0))) (.cons (.ix (.var 3) (.lit (.int 0))) .nil)))) (.tup (.cons (.lit (.str "cells")) (.cons (.var 2) (.cons (.var 3) .nil))))))))
def p_neighbors : S := (.seq (.drop (.call "check_additive" (.cons (.var 0) (.cons (.var 1) .nil)))) (.ret (.lc (.tp (.cons (.nm 2) (.cons (.nm 3) .nil))) (.seq (.call "walls_around" (.cons (.var 0) (.cons (.var 1) .nil)))) .non (.var 3) [2, 3])))
def p__law_ordered : S := (.tryy (.seq (.ite (.cmp .eq (.var 0) (.lit (.int 0))) (.ret (.call "is_additive" (.cons (.var 1) (.cons (.var 2) .nil)))) .skip) (.seq (.ite (.cmp .eq (.var 0) (.lit (.int 1))) (.ret (.call "order_values" (.cons (.var 1) (.cons (.var 2) .nil)))) .skip) (.ret (.ite (.cmp .eq (.var 0) (.lit (.int 2))) (.call "cancelling_pairs" (.cons (.var 1) (.cons (.var 2) .nil))) (.call "neighbors" (.cons (.var 1) (.cons (.var 2) .nil))))))) 3 ["InvalidOrder", "InvalidSize", "NotAdditive", "TooLarge"] [⟨"InvalidOrder", (.and (.is "AdditiveError") (.not (.is "InvalidSize"))), .str "order", .str "other"⟩, ⟨"NotAdditive", (.and (.is "AdditiveError") (.not (.is "InvalidOrder"))), .str "not additive", .str "other"⟩, ⟨"TooLarge", (.and (.is "AdditiveError") (.not (.is "InvalidOrder"))), .str "large", .str "other"⟩])
def p__law_ascends : S := (.seq (.for (.nm 2) (.rng (.bin .sub (.blt .len (.cons (.var 1) .nil)) (.lit (.int 1)))) (.ite (.cmp .ge (.call "_law_value" (.cons (.var 0) (.cons (.ix (.var 1) (.var 2)) .nil))) (.call "_law_value" (.cons (.var 0) (.cons (.ix (.var 1) (.bin .add (.var 2) (.lit (.int 1)))) .nil)))) (.ret (.lit (.bool false))) .skip)) (.ret (.lit (.bool true))))
def p__law_two_pairs : S := (.seq (.own 1 (.lst .nil)) (.seq (.for (.nm 2) (.seq (.var 0)) (.for (.nm 3) (.seq (.var 0)) (.ite (.and (.cmp .lt (.ix (.var 2) (.lit (.int 0))) (.ix (.var 3) (.lit (.int 0)))) (.cmp .ne (.ix (.var 2) (.lit (.int 1))) (.ix (.var 3) (.lit (.int 1))))) (.seq (.par 4 5 (.tup (.cons (.ix (.var 2) (.lit (.int 0))) (.cons (.ix (.var 3) (.lit (.int 1))) .nil))) (.tup (.cons (.ix (.var 3) (.lit (.int 0))) (.cons (.ix (.var 2) (.lit (.int 1))) .nil)))) (.seq (.app 1 (.tup (.cons (.tup (.cons (.var 2) (.cons (.var 4) .nil))) (.cons (.tup (.cons (.var 3) (.cons (.var 5) .nil))) .nil)))) (.seq (.app 1 (.tup (.cons (.tup (.cons (.var 2) (.cons (.var 5) .nil))) (.cons (.tup (.cons (.var 3) (.cons (.var 4) .nil))) .nil)))) (.seq (.app 1 (.tup (.cons (.tup (.cons (.var 4) (.cons (.var 2) .nil))) (.cons (.tup (.cons (.var 5) (.cons (.var 3) .nil))) .nil)))) (.app 1 (.tup (.cons (.tup (.cons (.var 4) (.cons (.var 3) .nil))) (.cons (.tup (.cons (.var 5) (.cons (.var 2) .nil))) .nil)))))))) .skip))) (.frz [1] (.ret (.var 1)))))
def p_in_order : S := (.ret (.cmp .ne (.lc (.nm 2) (.seq (.var 0)) (.som (.call "is_same" (.cons (.var 1) (.cons (.var 2) .nil)))) (.var 2) [2]) (.lst .nil)))
def p_found_orders : S := (.seq (.asg (.nm 2) (.call "agreeing_orders" (.cons (.var 0) (.cons (.var 1) .nil)))) (.seq (.ite (.not (.var 2)) (.rais "Inconsistent") .skip) (.ret (.var 2))))
def p_best_question : S := (.seq (.asg (.tp (.cons (.nm 2) (.cons (.nm 3) .nil))) (.call "counts_above" (.cons (.var 0) (.cons (.var 1) .nil)))) (.seq (.asg (.nm 4) (.lit .none)) (.seq (.for (.nm 5) (.seq (.blg .sorted (.cons (.var 2) .nil))) (.seq (.asg (.nm 6) (.blt .max (.cons (.ix (.var 2) (.var 5)) (.cons (.bin .sub (.var 3) (.ix (.var 2) (.var 5))) .nil)))) (.ite (.and (.cmp .lt (.var 6) (.var 3)) (.or (.cmp .is (.var 4) (.lit .none)) (.cmp .lt (.var 6) (.ix (.var 4) (.lit (.int 0)))))) (.asg (.nm 4) (.tup (.cons (.var 6) (.cons (.var 5) .nil)))) .skip))) (.ret (.ite (.cmp .is (.var 4) (.lit .none)) (.lit .none) (.ix (.var 4) (.lit (.int 1))))))))
def p__law_counted : S := (.tryy (.seq (.ite (.cmp .eq (.var 0) (.lit (.int 0))) (.ret (.call "standard_orders" (.cons (.var 1) .nil))) .skip) (.seq (.ite (.cmp .eq (.var 0) (.lit (.int 1))) (.ret (.call "count_orders" (.cons (.var 1) .nil))) .skip) (.ret (.ite (.cmp .eq (.var 0) (.lit (.int 2))) (.call "agreeing_orders" (.cons (.var 1) (.cons (.tup .nil) .nil))) (.call "best_question" (.cons (.var 1) (.cons (.tup .nil) .nil))))))) 2 ["Inconsistent", "InvalidComparisons", "InvalidSize", "TooLarge"] [⟨"TooLarge", (.and (.is "AdditiveError") (.not (.is "InvalidSize"))), .str "large", .str "other"⟩])
def p__law_asked : S := (.tryy (.ret (.call "best_question" (.cons (.var 0) (.cons (.var 1) .nil)))) 2 ["Inconsistent", "InvalidComparisons", "InvalidSize", "TooLarge"] [⟨"Inconsistent", (.and (.is "AdditiveError") (.not (.is "InvalidComparisons"))), .str "inconsistent", .str "other"⟩])
def p__law_turned : S := (.ret (.tup (.cons (.ix (.var 0) (.lit (.int 1))) (.cons (.ix (.var 0) (.lit (.int 0))) .nil))))
def p_least_values : S := (.seq (.drop (.call "check_order" (.cons (.var 0) (.cons (.var 1) .nil)))) (.seq (.ite (.cmp .gt (.blt .len (.cons (.var 1) .nil)) (.lit (.int 9))) (.rais "TooLarge") .skip) (.seq (.ite (.cmp .is (.ix (.call "settle" (.cons (.var 0) (.cons (.call "chain" (.cons (.var 1) .nil)) .nil))) (.lit (.int 0))) (.lit .none)) (.rais "NotAdditive") .skip) (.seq (.asg (.nm 2) (.bin .sub (.blt .len (.cons (.var 1) .nil)) (.lit (.int 1)))) (.seq (.asg (.nm 3) (.call "bounded_values" (.cons (.var 0) (.cons (.var 1) (.cons (.tup .nil) (.cons (.tup .nil) (.cons (.var 2) .nil))))))) (.seq (.whl (.cmp .is (.var 3) (.lit .none)) (.seq (.aug 2 (.lit (.int 1))) (.asg (.nm 3) (.call "bounded_values" (.cons (.var 0) (.cons (.var 1) (.cons (.tup .nil) (.cons (.tup .nil) (.cons (.var 2) .nil))))))))) (.ret (.var 3))))))))
def p__law_least : S := (.tryy (.ret (.call "least_values" (.cons (.var 0) (.cons (.var 1) .nil)))) 2 ["InvalidOrder", "InvalidSize", "NotAdditive", "TooLarge"] [⟨"NotAdditive", (.and (.is "AdditiveError") (.not (.is "TooLarge"))), .str "not additive", .str "other"⟩, ⟨"TooLarge", (.and (.is "AdditiveError") (.not (.is "NotAdditive"))), .str "large", .str "other"⟩])
def p__law_longer : S := (.seq (.own 2 (.lst .nil)) (.seq (.for (.nm 3) (.seq (.var 0)) (.for (.nm 4) (.rng (.var 1)) (.app 2 (.bin .add (.var 3) (.tup (.cons (.var 4) .nil)))))) (.frz [2] (.ret (.var 2)))))
def p__law_rises : S := (.seq (.asg (.nm 3) (.neg (.lit (.int 1)))) (.seq (.for (.tp (.cons (.nm 4) (.cons (.nm 5) .nil))) (.seq (.var 2)) (.ite (.cmp .lt (.var 5) (.blt .len (.cons (.var 1) .nil))) (.seq (.ite (.cmp .le (.bin .add (.ix (.var 0) (.var 4)) (.ix (.var 1) (.var 5))) (.var 3)) (.ret (.lit (.bool false))) .skip) (.asg (.nm 3) (.bin .add (.ix (.var 0) (.var 4)) (.ix (.var 1) (.var 5))))) .skip)) (.ret (.lit (.bool true)))))
def p__law_needed : S := (.tryy (.ret (.call "questions_needed" (.cons (.var 0) (.cons (.var 1) .nil)))) 2 ["Inconsistent", "InvalidComparisons", "InvalidSize", "TooLarge"] [⟨"Inconsistent", (.and (.is "AdditiveError") (.not (.is "TooLarge"))), .str "inconsistent", .str "other"⟩, ⟨"TooLarge", (.and (.is "AdditiveError") (.not (.is "Inconsistent"))), .str "large", .str "other"⟩])
def tblL : List (Str × Df) := [(("_law_cell" : Str), (⟨2, 2, p__law_cell⟩ : Df)), (("_law_row" : Str), (⟨5, 2, p__law_row⟩ : Df)), (("_law_whole" : Str), (⟨1, 1, p__law_whole⟩ : Df)), (("_law_in" : Str), (⟨3, 3, p__law_in⟩ : Df)), (("in_range" : Str), (⟨3, 3, p_in_range⟩ : Df)), (("is_pair" : Str), (⟨3, 3, p_is_pair⟩ : Df)), (("is_size" : Str), (⟨1, 1, p_is_size⟩ : Df)), (("check_size" : Str), (⟨1, 1, p_check_size⟩ : Df)), (("is_cell" : Str), (⟨2, 2, p_is_cell⟩ : Df)), (("is_comparison" : Str), (⟨2, 2, p_is_comparison⟩ : Df)), (("are_comparisons" : Str), (⟨3, 2, p_are_comparisons⟩ : Df)), (("check_comparisons" : Str), (⟨2, 2, p_check_comparisons⟩ : Df)), (("are_values" : Str), (⟨5, 2, p_are_values⟩ : Df)), (("cell_value" : Str), (⟨2, 2, p_cell_value⟩ : Df)), (("holds" : Str), (⟨3, 2, p_holds⟩ : Df)), (("agrees" : Str), (⟨4, 3, p_agrees⟩ : Df)), (("difference" : Str), (⟨6, 3, p_difference⟩ : Df)), (("equation_of" : Str), (⟨8, 3, p_equation_of⟩ : Df)), (("pick_column" : Str), (⟨3, 2, p_pick_column⟩ : Df)), (("pick_row" : Str), (⟨7, 3, p_pick_row⟩ : Df)), (("exchange" : Str), (⟨11, 4, p_exchange⟩ : Df)), (("solve" : Str), (⟨16, 2, p_solve⟩ : Df)), (("greatest_divisor" : Str), (⟨4, 1, p_greatest_divisor⟩ : Df)), (("shortened" : Str), (⟨3, 1, p_shortened⟩ : Df)), (("settle" : Str), (⟨7, 2, p_settle⟩ : Df)), (("is_consistent" : Str), (⟨2, 2, p_is_consistent⟩ : Df)), (("are_multipliers" : Str), (⟨4, 2, p_are_multipliers⟩ : Df)), (("total_difference" : Str), (⟨10, 3, p_total_difference⟩ : Df)), (("is_cancelling" : Str), (⟨5, 3, p_is_cancelling⟩ : Df)), (("check_consistent" : Str), (⟨2, 2, p_check_consistent⟩ : Df)), (("check_cell" : Str), (⟨2, 2, p_check_cell⟩ : Df)), (("follows" : Str), (⟨7, 3, p_follows⟩ : Df)), (("implied" : Str), (⟨8, 3, p_implied⟩ : Df)), (("relation" : Str), (⟨4, 4, p_relation⟩ : Df)), (("subsets" : Str), (⟨4, 2, p_subsets⟩ : Df)), (("without" : Str), (⟨4, 2, p_without⟩ : Df)), (("fewest_drops" : Str), (⟨6, 2, p_fewest_drops⟩ : Df)), (("all_cells" : Str), (⟨3, 1, p_all_cells⟩ : Df)), (("is_same" : Str), (⟨3, 2, p_is_same⟩ : Df)), (("is_order" : Str), (⟨4, 2, p_is_order⟩ : Df)), (("check_small" : Str), (⟨1, 1, p_check_small⟩ : Df)), (("ascending_starts" : Str), (⟨8, 1, p_ascending_starts⟩ : Df)), (("chain" : Str), (⟨3, 1, p_chain⟩ : Df)), (("standard_orders" : Str), (⟨2, 1, p_standard_orders⟩ : Df)), (("permutations" : Str), (⟨6, 1, p_permutations⟩ : Df)), (("count_orders" : Str), (⟨1, 1, p_count_orders⟩ : Df)), (("check_order" : Str), (⟨2, 2, p_check_order⟩ : Df)), (("check_additive" : Str), (⟨2, 2, p_check_additive⟩ : Df)), (("distance" : Str), (⟨3, 3, p_distance⟩ : Df)), (("every_order" : Str), (⟨8, 1, p_every_order⟩ : Df)), (("agreeing_orders" : Str), (⟨3, 2, p_agreeing_orders⟩ : Df)), (("_law_size" : Str), (⟨7, 3, p__law_size⟩ : Df)), (("_law_given" : Str), (⟨6, 3, p__law_given⟩ : Df)), (("_law_cells" : Str), (⟨4, 1, p__law_cells⟩ : Df)), (("_law_value" : Str), (⟨2, 2, p__law_value⟩ : Df)), (("_law_holds" : Str), (⟨3, 2, p__law_holds⟩ : Df)), (("_law_comparisons" : Str), (⟨14, 4, p__law_comparisons⟩ : Df)), (("_law_are_given" : Str), (⟨4, 2, p__law_are_given⟩ : Df)), (("_law_agree" : Str), (⟨4, 3, p__law_agree⟩ : Df)), (("values" : Str), (⟨3, 2, p_values⟩ : Df)), (("cancelling" : Str), (⟨3, 2, p_cancelling⟩ : Df)), (("_law_values" : Str), (⟨4, 3, p__law_values⟩ : Df)), (("_law_are_multipliers" : Str), (⟨3, 2, p__law_are_multipliers⟩ : Df)), (("_law_strict" : Str), (⟨3, 2, p__law_strict⟩ : Df)), (("_law_total" : Str), (⟨9, 3, p__law_total⟩ : Df)), (("_law_is_cancelling" : Str), (⟨3, 3, p__law_is_cancelling⟩ : Df)), (("_law_one" : Str), (⟨8, 3, p__law_one⟩ : Df)), (("is_implied" : Str), (⟨3, 3, p_is_implied⟩ : Df)), (("derivation" : Str), (⟨8, 3, p_derivation⟩ : Df)), (("_law_derived" : Str), (⟨5, 4, p__law_derived⟩ : Df)), (("_law_opposite" : Str), (⟨1, 1, p__law_opposite⟩ : Df)), (("_law_implied" : Str), (⟨3, 3, p__law_implied⟩ : Df)), (("_law_is_derivation" : Str), (⟨4, 4, p__law_is_derivation⟩ : Df)), (("is_derivation" : Str), (⟨8, 4, p_is_derivation⟩ : Df)), (("_law_checked" : Str), (⟨5, 4, p__law_checked⟩ : Df)), (("_law_related" : Str), (⟨5, 4, p__law_related⟩ : Df)), (("needless" : Str), (⟨5, 2, p_needless⟩ : Df)), (("_law_needless" : Str), (⟨3, 2, p__law_needless⟩ : Df)), (("_law_subsets" : Str), (⟨7, 1, p__law_subsets⟩ : Df)), (("smallest_conflict" : Str), (⟨7, 2, p_smallest_conflict⟩ : Df)), (("_law_dropped" : Str), (⟨4, 3, p__law_dropped⟩ : Df)), (("_law_order" : Str), (⟨12, 3, p__law_order⟩ : Df)), (("is_additive" : Str), (⟨2, 2, p_is_additive⟩ : Df)), (("order_values" : Str), (⟨3, 2, p_order_values⟩ : Df)), (("multisets" : Str), (⟨4, 2, p_multisets⟩ : Df)), (("cancelling_pairs" : Str), (⟨4, 2, p_cancelling_pairs⟩ : Df)), (("wall_of" : Str), (⟨4, 2, p_wall_of⟩ : Df)), (("neighbors" : Str), (⟨4, 2, p_neighbors⟩ : Df)), (("_law_ordered" : Str), (⟨4, 3, p__law_ordered⟩ : Df)), (("_law_ascends" : Str), (⟨3, 2, p__law_ascends⟩ : Df)), (("_law_two_pairs" : Str), (⟨6, 1, p__law_two_pairs⟩ : Df)), (("in_order" : Str), (⟨3, 2, p_in_order⟩ : Df)), (("found_orders" : Str), (⟨3, 2, p_found_orders⟩ : Df)), (("best_question" : Str), (⟨7, 2, p_best_question⟩ : Df)), (("_law_counted" : Str), (⟨3, 2, p__law_counted⟩ : Df)), (("_law_asked" : Str), (⟨3, 2, p__law_asked⟩ : Df)), (("_law_turned" : Str), (⟨1, 1, p__law_turned⟩ : Df)), (("least_values" : Str), (⟨4, 2, p_least_values⟩ : Df)), (("_law_least" : Str), (⟨3, 2, p__law_least⟩ : Df)), (("_law_longer" : Str), (⟨5, 2, p__law_longer⟩ : Df)), (("_law_rises" : Str), (⟨6, 3, p__law_rises⟩ : Df)), (("_law_needed" : Str), (⟨3, 2, p__law_needed⟩ : Df))]
def wf : Nat := 2 ^ 100
/-- a table in which all these defs stand -/
def Std (tbl : Str → Option Df) : Prop := ∀ x d, tblL.lookup x = some d → tbl x = some d
section
variable {tbl : Str → Option Df} (h : Std tbl)
include h
theorem Std.t__law_cell : tbl "_law_cell" = some ⟨2, 2, p__law_cell⟩ := h _ _ (by kernel_rfl)
theorem Std.t__law_row : tbl "_law_row" = some ⟨5, 2, p__law_row⟩ := h _ _ (by kernel_rfl)
theorem Std.t__law_whole : tbl "_law_whole" = some ⟨1, 1, p__law_whole⟩ := h _ _ (by kernel_rfl)
theorem Std.t__law_in : tbl "_law_in" = some ⟨3, 3, p__law_in⟩ := h _ _ (by kernel_rfl)
theorem Std.t_in_range : tbl "in_range" = some ⟨3, 3, p_in_range⟩ := h _ _ (by kernel_rfl)
theorem Std.t_is_pair : tbl "is_pair" = some ⟨3, 3, p_is_pair⟩ := h _ _ (by kernel_rfl)
theorem Std.t_is_size : tbl "is_size" = some ⟨1, 1, p_is_size⟩ := h _ _ (by kernel_rfl)
theorem Std.t_check_size : tbl "check_size" = some ⟨1, 1, p_check_size⟩ := h _ _ (by kernel_rfl)
theorem Std.t_is_cell : tbl "is_cell" = some ⟨2, 2, p_is_cell⟩ := h _ _ (by kernel_rfl)
theorem Std.t_is_comparison : tbl "is_comparison" = some ⟨2, 2, p_is_comparison⟩ := h _ _ (by kernel_rfl)
theorem Std.t_are_comparisons : tbl "are_comparisons" = some ⟨3, 2, p_are_comparisons⟩ := h _ _ (by kernel_rfl)
theorem Std.t_check_comparisons : tbl "check_comparisons" = some ⟨2, 2, p_check_comparisons⟩ := h _ _ (by kernel_rfl)
theorem Std.t_are_values : tbl "are_values" = some ⟨5, 2, p_are_values⟩ := h _ _ (by kernel_rfl)
theorem Std.t_cell_value : tbl "cell_value" = some ⟨2, 2, p_cell_value⟩ := h _ _ (by kernel_rfl)
theorem Std.t_holds : tbl "holds" = some ⟨3, 2, p_holds⟩ := h _ _ (by kernel_rfl)
theorem Std.t_agrees : tbl "agrees" = some ⟨4, 3, p_agrees⟩ := h _ _ (by kernel_rfl)
theorem Std.t_difference : tbl "difference" = some ⟨6, 3, p_difference⟩ := h _ _ (by kernel_rfl)
theorem Std.t_equation_of : tbl "equation_of" = some ⟨8, 3, p_equation_of⟩ := h _ _ (by kernel_rfl)
theorem Std.t_pick_column : tbl "pick_column" = some ⟨3, 2, p_pick_column⟩ := h _ _ (by kernel_rfl)
theorem Std.t_pick_row : tbl "pick_row" = some ⟨7, 3, p_pick_row⟩ := h _ _ (by kernel_rfl)
theorem Std.t_exchange : tbl "exchange" = some ⟨11, 4, p_exchange⟩ := h _ _ (by kernel_rfl)
theorem Std.t_solve : tbl "solve" = some ⟨16, 2, p_solve⟩ := h _ _ (by kernel_rfl)
theorem Std.t_greatest_divisor : tbl "greatest_divisor" = some ⟨4, 1, p_greatest_divisor⟩ := h _ _ (by kernel_rfl)
theorem Std.t_shortened : tbl "shortened" = some ⟨3, 1, p_shortened⟩ := h _ _ (by kernel_rfl)
theorem Std.t_settle : tbl "settle" = some ⟨7, 2, p_settle⟩ := h _ _ (by kernel_rfl)
theorem Std.t_is_consistent : tbl "is_consistent" = some ⟨2, 2, p_is_consistent⟩ := h _ _ (by kernel_rfl)
theorem Std.t_are_multipliers : tbl "are_multipliers" = some ⟨4, 2, p_are_multipliers⟩ := h _ _ (by kernel_rfl)
theorem Std.t_total_difference : tbl "total_difference" = some ⟨10, 3, p_total_difference⟩ := h _ _ (by kernel_rfl)
theorem Std.t_is_cancelling : tbl "is_cancelling" = some ⟨5, 3, p_is_cancelling⟩ := h _ _ (by kernel_rfl)
theorem Std.t_check_consistent : tbl "check_consistent" = some ⟨2, 2, p_check_consistent⟩ := h _ _ (by kernel_rfl)
theorem Std.t_check_cell : tbl "check_cell" = some ⟨2, 2, p_check_cell⟩ := h _ _ (by kernel_rfl)
theorem Std.t_follows : tbl "follows" = some ⟨7, 3, p_follows⟩ := h _ _ (by kernel_rfl)
theorem Std.t_implied : tbl "implied" = some ⟨8, 3, p_implied⟩ := h _ _ (by kernel_rfl)
theorem Std.t_relation : tbl "relation" = some ⟨4, 4, p_relation⟩ := h _ _ (by kernel_rfl)
theorem Std.t_subsets : tbl "subsets" = some ⟨4, 2, p_subsets⟩ := h _ _ (by kernel_rfl)
theorem Std.t_without : tbl "without" = some ⟨4, 2, p_without⟩ := h _ _ (by kernel_rfl)
theorem Std.t_fewest_drops : tbl "fewest_drops" = some ⟨6, 2, p_fewest_drops⟩ := h _ _ (by kernel_rfl)
theorem Std.t_all_cells : tbl "all_cells" = some ⟨3, 1, p_all_cells⟩ := h _ _ (by kernel_rfl)
theorem Std.t_is_same : tbl "is_same" = some ⟨3, 2, p_is_same⟩ := h _ _ (by kernel_rfl)
theorem Std.t_is_order : tbl "is_order" = some ⟨4, 2, p_is_order⟩ := h _ _ (by kernel_rfl)
theorem Std.t_check_small : tbl "check_small" = some ⟨1, 1, p_check_small⟩ := h _ _ (by kernel_rfl)
theorem Std.t_ascending_starts : tbl "ascending_starts" = some ⟨8, 1, p_ascending_starts⟩ := h _ _ (by kernel_rfl)
theorem Std.t_chain : tbl "chain" = some ⟨3, 1, p_chain⟩ := h _ _ (by kernel_rfl)
theorem Std.t_standard_orders : tbl "standard_orders" = some ⟨2, 1, p_standard_orders⟩ := h _ _ (by kernel_rfl)
theorem Std.t_permutations : tbl "permutations" = some ⟨6, 1, p_permutations⟩ := h _ _ (by kernel_rfl)
theorem Std.t_count_orders : tbl "count_orders" = some ⟨1, 1, p_count_orders⟩ := h _ _ (by kernel_rfl)
theorem Std.t_check_order : tbl "check_order" = some ⟨2, 2, p_check_order⟩ := h _ _ (by kernel_rfl)
theorem Std.t_check_additive : tbl "check_additive" = some ⟨2, 2, p_check_additive⟩ := h _ _ (by kernel_rfl)
theorem Std.t_distance : tbl "distance" = some ⟨3, 3, p_distance⟩ := h _ _ (by kernel_rfl)
theorem Std.t_every_order : tbl "every_order" = some ⟨8, 1, p_every_order⟩ := h _ _ (by kernel_rfl)
theorem Std.t_agreeing_orders : tbl "agreeing_orders" = some ⟨3, 2, p_agreeing_orders⟩ := h _ _ (by kernel_rfl)
theorem Std.t__law_size : tbl "_law_size" = some ⟨7, 3, p__law_size⟩ := h _ _ (by kernel_rfl)
theorem Std.t__law_given : tbl "_law_given" = some ⟨6, 3, p__law_given⟩ := h _ _ (by kernel_rfl)
theorem Std.t__law_cells : tbl "_law_cells" = some ⟨4, 1, p__law_cells⟩ := h _ _ (by kernel_rfl)
theorem Std.t__law_value : tbl "_law_value" = some ⟨2, 2, p__law_value⟩ := h _ _ (by kernel_rfl)
theorem Std.t__law_holds : tbl "_law_holds" = some ⟨3, 2, p__law_holds⟩ := h _ _ (by kernel_rfl)
theorem Std.t__law_comparisons : tbl "_law_comparisons" = some ⟨14, 4, p__law_comparisons⟩ := h _ _ (by kernel_rfl)
theorem Std.t__law_are_given : tbl "_law_are_given" = some ⟨4, 2, p__law_are_given⟩ := h _ _ (by kernel_rfl)
theorem Std.t__law_agree : tbl "_law_agree" = some ⟨4, 3, p__law_agree⟩ := h _ _ (by kernel_rfl)
theorem Std.t_values : tbl "values" = some ⟨3, 2, p_values⟩ := h _ _ (by kernel_rfl)
theorem Std.t_cancelling : tbl "cancelling" = some ⟨3, 2, p_cancelling⟩ := h _ _ (by kernel_rfl)
theorem Std.t__law_values : tbl "_law_values" = some ⟨4, 3, p__law_values⟩ := h _ _ (by kernel_rfl)
theorem Std.t__law_are_multipliers : tbl "_law_are_multipliers" = some ⟨3, 2, p__law_are_multipliers⟩ := h _ _ (by kernel_rfl)
theorem Std.t__law_strict : tbl "_law_strict" = some ⟨3, 2, p__law_strict⟩ := h _ _ (by kernel_rfl)
theorem Std.t__law_total : tbl "_law_total" = some ⟨9, 3, p__law_total⟩ := h _ _ (by kernel_rfl)
theorem Std.t__law_is_cancelling : tbl "_law_is_cancelling" = some ⟨3, 3, p__law_is_cancelling⟩ := h _ _ (by kernel_rfl)
theorem Std.t__law_one : tbl "_law_one" = some ⟨8, 3, p__law_one⟩ := h _ _ (by kernel_rfl)
theorem Std.t_is_implied : tbl "is_implied" = some ⟨3, 3, p_is_implied⟩ := h _ _ (by kernel_rfl)
theorem Std.t_derivation : tbl "derivation" = some ⟨8, 3, p_derivation⟩ := h _ _ (by kernel_rfl)
theorem Std.t__law_derived : tbl "_law_derived" = some ⟨5, 4, p__law_derived⟩ := h _ _ (by kernel_rfl)
theorem Std.t__law_opposite : tbl "_law_opposite" = some ⟨1, 1, p__law_opposite⟩ := h _ _ (by kernel_rfl)
theorem Std.t__law_implied : tbl "_law_implied" = some ⟨3, 3, p__law_implied⟩ := h _ _ (by kernel_rfl)
theorem Std.t__law_is_derivation : tbl "_law_is_derivation" = some ⟨4, 4, p__law_is_derivation⟩ := h _ _ (by kernel_rfl)
theorem Std.t_is_derivation : tbl "is_derivation" = some ⟨8, 4, p_is_derivation⟩ := h _ _ (by kernel_rfl)
theorem Std.t__law_checked : tbl "_law_checked" = some ⟨5, 4, p__law_checked⟩ := h _ _ (by kernel_rfl)
theorem Std.t__law_related : tbl "_law_related" = some ⟨5, 4, p__law_related⟩ := h _ _ (by kernel_rfl)
theorem Std.t_needless : tbl "needless" = some ⟨5, 2, p_needless⟩ := h _ _ (by kernel_rfl)
theorem Std.t__law_needless : tbl "_law_needless" = some ⟨3, 2, p__law_needless⟩ := h _ _ (by kernel_rfl)
theorem Std.t__law_subsets : tbl "_law_subsets" = some ⟨7, 1, p__law_subsets⟩ := h _ _ (by kernel_rfl)
theorem Std.t_smallest_conflict : tbl "smallest_conflict" = some ⟨7, 2, p_smallest_conflict⟩ := h _ _ (by kernel_rfl)
theorem Std.t__law_dropped : tbl "_law_dropped" = some ⟨4, 3, p__law_dropped⟩ := h _ _ (by kernel_rfl)
theorem Std.t__law_order : tbl "_law_order" = some ⟨12, 3, p__law_order⟩ := h _ _ (by kernel_rfl)
theorem Std.t_is_additive : tbl "is_additive" = some ⟨2, 2, p_is_additive⟩ := h _ _ (by kernel_rfl)
theorem Std.t_order_values : tbl "order_values" = some ⟨3, 2, p_order_values⟩ := h _ _ (by kernel_rfl)
theorem Std.t_multisets : tbl "multisets" = some ⟨4, 2, p_multisets⟩ := h _ _ (by kernel_rfl)
theorem Std.t_cancelling_pairs : tbl "cancelling_pairs" = some ⟨4, 2, p_cancelling_pairs⟩ := h _ _ (by kernel_rfl)
theorem Std.t_wall_of : tbl "wall_of" = some ⟨4, 2, p_wall_of⟩ := h _ _ (by kernel_rfl)
theorem Std.t_neighbors : tbl "neighbors" = some ⟨4, 2, p_neighbors⟩ := h _ _ (by kernel_rfl)
theorem Std.t__law_ordered : tbl "_law_ordered" = some ⟨4, 3, p__law_ordered⟩ := h _ _ (by kernel_rfl)
theorem Std.t__law_ascends : tbl "_law_ascends" = some ⟨3, 2, p__law_ascends⟩ := h _ _ (by kernel_rfl)
theorem Std.t__law_two_pairs : tbl "_law_two_pairs" = some ⟨6, 1, p__law_two_pairs⟩ := h _ _ (by kernel_rfl)
theorem Std.t_in_order : tbl "in_order" = some ⟨3, 2, p_in_order⟩ := h _ _ (by kernel_rfl)
theorem Std.t_found_orders : tbl "found_orders" = some ⟨3, 2, p_found_orders⟩ := h _ _ (by kernel_rfl)
theorem Std.t_best_question : tbl "best_question" = some ⟨7, 2, p_best_question⟩ := h _ _ (by kernel_rfl)
theorem Std.t__law_counted : tbl "_law_counted" = some ⟨3, 2, p__law_counted⟩ := h _ _ (by kernel_rfl)
theorem Std.t__law_asked : tbl "_law_asked" = some ⟨3, 2, p__law_asked⟩ := h _ _ (by kernel_rfl)
theorem Std.t__law_turned : tbl "_law_turned" = some ⟨1, 1, p__law_turned⟩ := h _ _ (by kernel_rfl)
theorem Std.t_least_values : tbl "least_values" = some ⟨4, 2, p_least_values⟩ := h _ _ (by kernel_rfl)
theorem Std.t__law_least : tbl "_law_least" = some ⟨3, 2, p__law_least⟩ := h _ _ (by kernel_rfl)
theorem Std.t__law_longer : tbl "_law_longer" = some ⟨5, 2, p__law_longer⟩ := h _ _ (by kernel_rfl)
theorem Std.t__law_rises : tbl "_law_rises" = some ⟨6, 3, p__law_rises⟩ := h _ _ (by kernel_rfl)
theorem Std.t__law_needed : tbl "_law_needed" = some ⟨3, 2, p__law_needed⟩ := h _ _ (by kernel_rfl)
end
theorem std_cons {l : List (Str × Df)} {tbl : Str → Option Df} (ht : tbl = fun x => (l ++ tblL).lookup x) (hl : ∀ y ∈ tblL, l.lookup y.1 = none) : Std tbl := fun x d h => by
  subst ht
  have hm : ∃ y ∈ tblL, y.1 = x := by
    have : ∀ (m : List (Str × Df)), m.lookup x = some d → ∃ y ∈ m, y.1 = x := by
      intro m
      induction m with
      | nil => intro h; cases h
      | cons a m ih =>
        intro h
        obtain ⟨k, v⟩ := a
        by_cases hk : x = k
        · exact ⟨(k, v), by simp, hk.symm⟩
        · rw [List.lookup_cons] at h
          have : (x == k) = false := by simpa using hk
          rw [this] at h
          obtain ⟨y, h1, h2⟩ := ih h
          exact ⟨y, List.mem_cons_of_mem _ h1, h2⟩
    exact this _ h
  obtain ⟨y, h1, rfl⟩ := hm
  show (l ++ tblL).lookup y.1 = some d
  rw [List.lookup_append, hl y h1]
  exact h
end Pg

set_option linter.all false
set_option maxRecDepth 100000
set_option maxHeartbeats 4000000
namespace Pg
open PySem hiding call exec
open Mp
theorem call_eq {tbl : Str → Option Df} {k : Nat} {f : Str} {ds : List D} {n m : Nat} {s : S} (ht : tbl f = some ⟨n, m, s⟩) (hl : ds.length = m) : call sub wf tbl (k + 1) f ds = (exec (call sub wf tbl k) sub wf s (startX n ds)).res := by
  simp only [call, ht, hl, if_true]
abbrev intz (ns : List Int) : List D := ns.map PyData.int
section
variable {cal : Str → List D → R D} {s : Str → Str → Bool} {w : Nat} {a b : S} {ρ ρ1 : Rho}
theorem ex_seq (h : exec cal s w a ρ = .nxt ρ1) : exec cal s w (.seq a b) ρ = exec cal s w b ρ1 := by simp only [exec, h]
theorem ex_seq_ret {d : D} (h : exec cal s w a ρ = .ret d) : exec cal s w (.seq a b) ρ = .ret d := by simp only [exec, h]
theorem ex_seq_exc {c : Str} (h : exec cal s w a ρ = .exc c ρ1) : exec cal s w (.seq a b) ρ = .exc c ρ1 := by simp only [exec, h]
def forStep (cal : Str → List D → R D) (s : Str → Str → Bool) (w : Nat) (t : Tg) (b : S) : D → Rho → O := fun x ρ => match asgT t x ρ with
  | some ρ1 => exec cal s w b ρ1
  | none => .bad
theorem ex_for {t : Tg} {it : It} {xs : List D} (h : evi cal it ρ = .val xs) : exec cal s w (.for t it b) ρ = forF (forStep cal s w t b) xs ρ := by
  simp only [exec, h]; rfl
theorem ex_ite {c : Ex} {d : D} {k : Bool} (h : ev cal c ρ = .val d) (hk : truth d = some k) : exec cal s w (.ite c a b) ρ = if k then exec cal s w a ρ else exec cal s w b ρ := by
  simp only [exec, h, truR, R.bnd_val, hk, ofO_some, R.out_val]
  cases k <;> rfl
theorem fs_nm {i : Nat} {x : D} (hi : i < ρ.length) : forStep cal s w (.nm i) b x ρ = exec cal s w b (ρ.set i (some (.dat x))) := by
  simp only [forStep, asgT, hi, if_true]
end
theorem forF_inv {step : D → Rho → O} {xs : List D} (I : Nat → Rho → Prop) {ρ : Rho} (h0 : I 0 ρ) (hs : ∀ i x ρ, xs[i]? = some x → I i ρ → ∃ ρ', step x ρ = .nxt ρ' ∧ I (i + 1) ρ') : ∃ ρ', forF step xs ρ = .nxt ρ' ∧ I xs.length ρ' := by
  induction xs generalizing I ρ with
  | nil => exact ⟨ρ, rfl, h0⟩
  | cons x xs ih =>
    obtain ⟨ρ1, h1, h2⟩ := hs 0 x ρ rfl h0
    obtain ⟨ρ2, h3, h4⟩ := ih (fun i => I (i + 1)) h2 (fun i y ρ hy hi => hs (i + 1) y ρ (by simpa using hy) hi)
    exact ⟨ρ2, by simp only [forF, h1]; exact h3, h4⟩
/-- a search: some turn gives an answer, or none does -/
theorem forF_find {step : D → Rho → O} {xs : List D} (p : D → Bool) (o : O) (ho : ∀ ρ, o ≠ .nxt ρ ∧ o ≠ .cnt ρ ∧ o ≠ .brk ρ) (I : Rho → Prop) {ρ : Rho} (h0 : I ρ) (hs : ∀ x ρ, x ∈ xs → I ρ → (p x = true → step x ρ = o) ∧ (p x = false → ∃ ρ', step x ρ = .nxt ρ' ∧ I ρ')) :
    (xs.any p = true → forF step xs ρ = o) ∧ (xs.any p = false → ∃ ρ', forF step xs ρ = .nxt ρ' ∧ I ρ') := by
  induction xs generalizing ρ with
  | nil => exact ⟨fun h => by simp at h, fun _ => ⟨ρ, rfl, h0⟩⟩
  | cons x xs ih =>
    have hx := hs x ρ (by simp) h0
    cases hp : p x with
    | true =>
      refine ⟨fun _ => ?_, fun h => by simp [hp] at h⟩
      simp only [forF, hx.1 hp]
      cases o with
      | nxt r => exact absurd rfl (ho r).1
      | cnt r => exact absurd rfl (ho r).2.1
      | brk r => exact absurd rfl (ho r).2.2
      | bad => rfl
      | ret d => rfl
      | exc c r => rfl
    | false =>
      obtain ⟨ρ1, h1, h2⟩ := hx.2 hp
      have := ih h2 (fun y ρ hy hi => hs y ρ (by simp [hy]) hi)
      simp only [List.any_cons, hp, Bool.false_or, forF, h1]
      exact this
theorem lcF_map {step : D → R (List D)} (f : D → List D) : ∀ {xs : List D}, (∀ x ∈ xs, step x = .val (f x)) → lcF step xs = .val (xs.flatMap f)
  | [], _ => rfl
  | x :: xs, h => by
    have ih := lcF_map f (xs := xs) (fun y hy => h y (List.mem_cons_of_mem _ hy))
    simp only [lcF, h x List.mem_cons_self, ih]
    rfl
/-- the evaluation of a comprehension -/
def lcS (cal : Str → List D → R D) (t : Tg) (c : Eo) (e : Ex) (ρ : Rho) : D → R (List D) := fun x => match asgT t x ρ with
  | some ρ1 => (evt cal c ρ1).bnd fun k => match k with
    | true => (ev cal e ρ1).bnd fun d => .val [d]
    | false => .val []
  | none => .bad
theorem ev_lcS {cal : Str → List D → R D} {t : Tg} {it : It} {c : Eo} {e : Ex} {vs : List Nat} {ρ : Rho} {xs ys : List D} (h : evi cal it ρ = .val xs) (h2 : lcF (lcS cal t c e (wipeX ρ vs)) xs = .val ys) (hl : ys.length ≤ lim) : ev cal (.lc t it c e vs) ρ = .val (.list ys) := by
  have : ev cal (.lc t it c e vs) ρ = (evi cal it ρ).bnd fun xs => (lcF (lcS cal t c e (wipeX ρ vs)) xs).bnd fun ds => ofO (mkL ds) := by simp only [ev]; rfl
  rw [this, h, R.bnd_val, h2, R.bnd_val, mkL_of hl, ofO_some]
end Pg

set_option linter.all false
set_option maxRecDepth 100000
set_option maxHeartbeats 4000000
namespace Pg
open PySem hiding call exec
open Mp
def cv (ns : List Int) (i : Int) : Int := ns.getD i.toNat 0
section
variable {tbl : Str → Option Df} (h : Std tbl) {k : Nat}
include h
theorem law_cell (ns : List Int) {i : Int} (hi : 0 ≤ i) : call sub wf tbl (k + 1) "_law_cell" [scr (intz ns), .int i] = .val (.int (cv ns i)) := by
  rw [call_eq h.t__law_cell rfl]
  by_cases hl : i < (ns.length : Int)
  · have e1 : ns[i.toNat]? = some (ns[i.toNat]'(by omega)) := List.getElem?_eq_getElem (by omega)
    have e2 : atX (intz ns) i = some (.int (cv ns i)) := by
      simp [atX, hi, intz, e1, cv]
    simp [p__law_cell, exec, ev, evs, evo, evt, evi, startX, coS, coB, ltS, leS, gtS, geS, eqS, isS, isNone, bfS, tyS, ixS, boS, addS, subS, mulS, modS, fdivS, powS, negS, truth, truR, O.res, asgT, asgTs, mkT, mkL, optI, slS, frzAt, frzS, R.out, seqS, rngS, rng2S, zipS, enumS, scr, hl, e2]
  · have e1 : ns[i.toNat]? = none := List.getElem?_eq_none (by omega)
    simp [p__law_cell, exec, ev, evs, evo, evt, evi, startX, coS, coB, ltS, leS, gtS, geS, eqS, isS, isNone, bfS, tyS, ixS, boS, addS, subS, mulS, modS, fdivS, powS, negS, truth, truR, O.res, asgT, asgTs, mkT, mkL, optI, slS, frzAt, frzS, R.out, seqS, rngS, rng2S, zipS, enumS, scr, hl, cv, e1]
/-- the step of _law_row -/
def rowStep : S := .ite (.cmp .lt (.call "_law_cell" (.cons (.var 0) (.cons (.var 1) .nil))) (.bin .pow (.lit (.int 10)) (.lit (.int 18)))) (.seq (.asg (.nm 2) (.bin .mod (.bin .add (.bin .add (.bin .add (.bin .mul (.var 2) (.lit (.int 48271))) (.bin .mul (.lit (.int 131)) (.var 4))) (.lit (.int 7))) (.call "_law_cell" (.cons (.var 0) (.cons (.bin .mod (.bin .add (.bin .add (.var 1) (.lit (.int 1))) (.var 4)) (.lit (.int 20))) .nil)))) (.lit (.int 2147483647)))) (.app 3 (.bin .mod (.bin .fdiv (.var 2) (.lit (.int 11))) (.lit (.int 1000))))) (.seq (.app 3 (.bin .mod (.var 2) (.lit (.int 1000)))) (.asg (.nm 2) (.bin .fdiv (.var 2) (.lit (.int 1000)))))
omit h in
theorem row_is : p__law_row = (.seq (.asg (.nm 2) (.call "_law_cell" (.cons (.var 0) (.cons (.var 1) .nil)))) (.seq (.own 3 (.lst .nil)) (.seq (.for (.nm 4) (.rng (.lit (.int 60))) rowStep) (.frz [3] (.ret (.var 3)))))) := rfl
def rowRho (ns : List Int) (a c : Int) (ds : List Int) (o : Option Sl) : Rho := [some (.dat (scr (intz ns))), some (.dat (.int a)), some (.dat (.int c)), some (.own (intz ds)), o]
theorem row_turn (ns : List Int) {a : Int} (ha : 0 ≤ a) (c : Int) (ds : List Int) (hd : ds.length ≤ 1000) {t : Int} (ht : 0 ≤ t) (hT : t ≤ 100) : ∃ c' d, 0 ≤ d ∧ d < 1000 ∧ exec (call sub wf tbl (k + 1)) sub wf rowStep (rowRho ns a c ds (some (.dat (.int t)))) = .nxt (rowRho ns a c' (ds ++ [d]) (some (.dat (.int t)))) := by
  have m1 : 0 ≤ (a + 1 + t) % 20 := Int.emod_nonneg _ (by decide)
  have c0 := law_cell h (k := k) ns ha
  have c1 := law_cell h (k := k) ns m1
  have hl : ds.length < lim := by simp [lim]; omega
  have pw : (10 : Int) ^ (18 : Nat) = 1000000000000000000 := by decide
  have mo1 : ∀ x : Int, mulOk x 48271 = true := fun x => by
    unfold mulOk; rw [Bool.or_eq_true]; left; exact decide_eq_true (.inr (by decide))
  have mo2 : ∀ x : Int, mulOk 131 x = true := fun x => by
    unfold mulOk; rw [Bool.or_eq_true]; left; exact decide_eq_true (.inl (by decide))
  have lg1 : (1000 : Nat).log2 < 9000 := by decide
  have lg2 : (11 : Nat).log2 < 9000 := by decide
  by_cases hc : cv ns a < 1000000000000000000
  · refine ⟨(c * 48271 + 131 * t + 7 + cv ns ((a + 1 + t) % 20)) % 2147483647, (c * 48271 + 131 * t + 7 + cv ns ((a + 1 + t) % 20)) % 2147483647 / 11 % 1000, Int.emod_nonneg _ (by decide), Int.emod_lt_of_pos _ (by decide), ?_⟩
    simp [rowStep, rowRho, exec, ev, evs, evo, evt, evi, startX, coS, coB, ltS, leS, gtS, geS, eqS, isS, isNone, bfS, tyS, ixS, boS, addS, subS, mulS, modS, fdivS, powS, negS, truth, truR, O.res, asgT, asgTs, mkT, mkL, optI, slS, frzAt, frzS, R.out, seqS, rngS, rng2S, zipS, enumS, c0, c1, pw, mo1, mo2, hc, hl, lg2, intz]
  · refine ⟨c / 1000, c % 1000, Int.emod_nonneg _ (by decide), Int.emod_lt_of_pos _ (by decide), ?_⟩
    simp [rowStep, rowRho, exec, ev, evs, evo, evt, evi, startX, coS, coB, ltS, leS, gtS, geS, eqS, isS, isNone, bfS, tyS, ixS, boS, addS, subS, mulS, modS, fdivS, powS, negS, truth, truR, O.res, asgT, asgTs, mkT, mkL, optI, slS, frzAt, frzS, R.out, seqS, rngS, rng2S, zipS, enumS, c0, c1, pw, mo1, mo2, hc, hl, lg1, intz]
/-- sixty numbers below 1000 -/
theorem law_row (ns : List Int) {a : Int} (ha : 0 ≤ a) : ∃ ds : List Int, ds.length = 60 ∧ (∀ d ∈ ds, 0 ≤ d ∧ d < 1000) ∧ call sub wf tbl (k + 2) "_law_row" [scr (intz ns), .int a] = .val (.list (intz ds)) := by
  have c0 := law_cell h (k := k) ns ha
  obtain ⟨ρ', h1, c', es, o', h2, h3, h4⟩ := forF_inv (step := forStep (call sub wf tbl (k + 1)) sub wf (.nm 4) rowStep) (xs := rngX 0 60) (fun i ρ => ∃ c es o, ρ = rowRho ns a c es o ∧ es.length = i ∧ ∀ d ∈ es, 0 ≤ d ∧ d < 1000)
    (ρ := rowRho ns a (cv ns a) [] none) ⟨_, _, _, rfl, rfl, by simp⟩ (fun i x ρ hx hI => by
      obtain ⟨c, es, o, rfl, h2, h3⟩ := hI
      have hi : i < 60 := by simpa [rngX] using (List.getElem?_eq_some_iff.mp hx).1
      have hx : x = .int (i : Int) := by
        have : (rngX 0 60)[i]? = some (.int (0 + (i : Int))) := by simp [rngX, hi]
        rw [this] at hx; cases hx; simp
      subst hx
      obtain ⟨c1, d, h4, h5, h6⟩ := row_turn h (k := k) ns ha c es (by omega) (t := (i : Int)) (by omega) (by omega)
      refine ⟨_, (fs_nm (by simp [rowRho])).trans h6, c1, es ++ [d], _, rfl, by simp [h2], fun y hy => ?_⟩
      rcases List.mem_append.mp hy with hy | hy
      · exact h3 y hy
      · simp at hy; subst hy; exact ⟨h4, h5⟩)
  refine ⟨es, by simpa [rngX] using h3, h4, ?_⟩
  subst h2
  rw [call_eq h.t__law_row rfl, row_is]
  have s1 : exec (call sub wf tbl (k + 1)) sub wf (.asg (.nm 2) (.call "_law_cell" (.cons (.var 0) (.cons (.var 1) .nil)))) (startX 5 [scr (intz ns), .int a]) = .nxt [some (.dat (scr (intz ns))), some (.dat (.int a)), some (.dat (.int (cv ns a))), none, none] := by
    simp [exec, ev, evs, evo, evt, evi, startX, coS, coB, ltS, leS, gtS, geS, eqS, isS, isNone, bfS, tyS, ixS, boS, addS, subS, mulS, modS, fdivS, powS, negS, truth, truR, O.res, asgT, asgTs, mkT, mkL, optI, slS, frzAt, frzS, R.out, seqS, rngS, rng2S, zipS, enumS, c0, List.replicate]
  rw [ex_seq s1]
  have l0 : (0 : Nat) ≤ lim := by decide
  have s2 : exec (call sub wf tbl (k + 1)) sub wf (.own 3 (.lst .nil)) [some (.dat (scr (intz ns))), some (.dat (.int a)), some (.dat (.int (cv ns a))), none, none] = .nxt (rowRho ns a (cv ns a) [] none) := by
    simp [exec, ev, evs, evo, evt, evi, startX, coS, coB, ltS, leS, gtS, geS, eqS, isS, isNone, bfS, tyS, ixS, boS, addS, subS, mulS, modS, fdivS, powS, negS, truth, truR, O.res, asgT, asgTs, mkT, mkL, optI, slS, frzAt, frzS, R.out, seqS, rngS, rng2S, zipS, enumS, rowRho, l0]
  rw [ex_seq s2]
  have s3 : evi (call sub wf tbl (k + 1)) (.rng (.lit (.int 60))) (rowRho ns a (cv ns a) [] none) = .val (rngX 0 60) := by
    simp [exec, ev, evs, evo, evt, evi, startX, coS, coB, ltS, leS, gtS, geS, eqS, isS, isNone, bfS, tyS, ixS, boS, addS, subS, mulS, modS, fdivS, powS, negS, truth, truR, O.res, asgT, asgTs, mkT, mkL, optI, slS, frzAt, frzS, R.out, seqS, rngS, rng2S, zipS, enumS, show smallI 60 = true by decide]
  rw [ex_seq ((ex_for s3).trans h1)]
  simp [exec, ev, evs, evo, evt, evi, startX, coS, coB, ltS, leS, gtS, geS, eqS, isS, isNone, bfS, tyS, ixS, boS, addS, subS, mulS, modS, fdivS, powS, negS, truth, truR, O.res, asgT, asgTs, mkT, mkL, optI, slS, frzAt, frzS, R.out, seqS, rngS, rng2S, zipS, enumS, rowRho]
/-! ### sizes -/
def sz (r c : Nat) : D := .tuple [.int r, .int c]
end
end Pg

set_option linter.all false
set_option maxRecDepth 100000
set_option maxHeartbeats 4000000
namespace Pg
open PySem hiding call exec
open Mp
def szFor : S := (.for (.nm 5) (.rng2 (.lit (.int 1)) (.lit (.int 5))) (.for (.nm 6) (.rng2 (.lit (.int 1)) (.lit (.int 5))) (.ite (.cmp .le (.bin .mul (.var 5) (.var 6)) (.var 2)) (.app 4 (.tup (.cons (.var 5) (.cons (.var 6) .nil)))) .skip)))
theorem size_is : p__law_size = (.seq (.asg (.nm 3) (.call "_law_row" (.cons (.var 0) (.cons (.var 1) .nil)))) (.seq (.own 4 (.lst .nil)) (.seq szFor (.frz [4] (.ret (.ix (.var 4) (.bin .mod (.ix (.var 3) (.lit (.int 0))) (.blt .len (.cons (.var 4) .nil))))))))) := rfl
def sizesOf (m : Nat) : List D := ((List.range 4).flatMap fun r => (List.range 4).map fun c => (r + 1, c + 1)).filterMap fun p => if p.1 * p.2 ≤ m then some (sz p.1 p.2) else none
def SzFor (m : Nat) : Prop := ∀ {cal : Str → List D → R D} {x y z : Option Sl}, exec cal sub wf szFor [x, y, some (.dat (.int m)), z, some (.own []), none, none] = .nxt [x, y, some (.dat (.int m)), z, some (.own (sizesOf m)), some (.dat (.int 4)), some (.dat (.int 4))]
theorem szFor16 : SzFor 16 := by intro cal x y z; kernel_rfl
theorem szFor9 : SzFor 9 := by intro cal x y z; kernel_rfl
theorem szFor6 : SzFor 6 := by intro cal x y z; kernel_rfl
theorem sizesOf_ok {m : Nat} {x : D} (h : x ∈ sizesOf m) : ∃ r c : Nat, x = sz r c ∧ 1 ≤ r ∧ r ≤ 4 ∧ 1 ≤ c ∧ c ≤ 4 ∧ r * c ≤ m := by
  unfold sizesOf at h
  simp only [List.mem_filterMap, List.mem_flatMap, List.mem_map, List.mem_range] at h
  obtain ⟨p, ⟨r, hr, c, hc, rfl⟩, h2⟩ := h
  split at h2
  · rename_i hm
    cases h2
    exact ⟨r + 1, c + 1, rfl, by omega, by omega, by omega, by omega, hm⟩
  · cases h2
theorem atX_of {α : Type} {l : List α} {j : Int} (h0 : 0 ≤ j) (h1 : j < l.length) : ∃ x, atX l j = some x ∧ x ∈ l := by
  refine ⟨l[j.toNat]'(by omega), ?_, List.getElem_mem _⟩
  unfold atX
  rw [if_pos h0, List.getElem?_eq_getElem]
theorem ints_at {ds : List Int} {j : Int} (h0 : 0 ≤ j) (h1 : j < ds.length) : ∃ d ∈ ds, atX (intz ds) j = some (.int d) := by
  refine ⟨ds[j.toNat]'(by omega), List.getElem_mem _, ?_⟩
  unfold atX
  rw [if_pos h0, List.getElem?_map, List.getElem?_eq_getElem]
  rfl
section
variable {tbl : Str → Option Df} (h : Std tbl) {k : Nat}
include h
theorem law_size (ns : List Int) {a : Int} (ha : 0 ≤ a) {m : Nat} (hm : SzFor m) (hn : 0 < (sizesOf m).length) : ∃ r c : Nat, 1 ≤ r ∧ r ≤ 4 ∧ 1 ≤ c ∧ c ≤ 4 ∧ r * c ≤ m ∧ call sub wf tbl (k + 3) "_law_size" [scr (intz ns), .int a, .int m] = .val (sz r c) := by
  obtain ⟨ds, h1, h2, h3⟩ := law_row h (k := k) ns ha
  obtain ⟨d0, _, e0⟩ := ints_at (ds := ds) (j := 0) (by decide) (by omega)
  have hz : (0 : Int) < ((sizesOf m).length : Int) := by omega
  obtain ⟨x, hx, hmem⟩ := atX_of (l := sizesOf m) (j := d0 % ((sizesOf m).length : Int)) (Int.emod_nonneg _ (by omega)) (Int.emod_lt_of_pos _ hz)
  obtain ⟨r, c, rfl, g1, g2, g3, g4, g5⟩ := sizesOf_ok hmem
  refine ⟨r, c, g1, g2, g3, g4, g5, ?_⟩
  rw [call_eq h.t__law_size rfl, size_is]
  have s1 : exec (call sub wf tbl (k + 2)) sub wf (.asg (.nm 3) (.call "_law_row" (.cons (.var 0) (.cons (.var 1) .nil)))) (startX 7 [scr (intz ns), .int a, .int m]) = .nxt [some (.dat (scr (intz ns))), some (.dat (.int a)), some (.dat (.int m)), some (.dat (.list (intz ds))), none, none, none] := by
    simp [exec, ev, evs, evo, evt, evi, startX, coS, coB, ltS, leS, gtS, geS, eqS, isS, isNone, bfS, tyS, ixS, boS, addS, subS, mulS, modS, fdivS, powS, negS, truth, truR, O.res, asgT, asgTs, mkT, mkL, optI, slS, frzAt, frzS, R.out, seqS, rngS, rng2S, zipS, enumS, h3, List.replicate]
  rw [ex_seq s1]
  have s2 : exec (call sub wf tbl (k + 2)) sub wf (.own 4 (.lst .nil)) [some (.dat (scr (intz ns))), some (.dat (.int a)), some (.dat (.int m)), some (.dat (.list (intz ds))), none, none, none] = .nxt [some (.dat (scr (intz ns))), some (.dat (.int a)), some (.dat (.int m)), some (.dat (.list (intz ds))), some (.own []), none, none] := by
    simp [exec, ev, evs, evo, evt, evi, startX, coS, coB, ltS, leS, gtS, geS, eqS, isS, isNone, bfS, tyS, ixS, boS, addS, subS, mulS, modS, fdivS, powS, negS, truth, truR, O.res, asgT, asgTs, mkT, mkL, optI, slS, frzAt, frzS, R.out, seqS, rngS, rng2S, zipS, enumS, show (0 : Nat) ≤ lim by decide]
  rw [ex_seq s2, ex_seq hm]
  simp only [intz] at e0
  simp [exec, ev, evs, evo, evt, evi, startX, coS, coB, ltS, leS, gtS, geS, eqS, isS, isNone, bfS, tyS, ixS, boS, addS, subS, mulS, modS, fdivS, powS, negS, truth, truR, O.res, asgT, asgTs, mkT, mkL, optI, slS, frzAt, frzS, R.out, seqS, rngS, rng2S, zipS, enumS, e0, hn, hx]
/-! ### cells -/
omit h in
theorem four {P : Nat → Prop} {r : Nat} (h1 : 1 ≤ r) (h2 : r ≤ 4) (p1 : P 1) (p2 : P 2) (p3 : P 3) (p4 : P 4) : P r := by
  have : r = 1 ∨ r = 2 ∨ r = 3 ∨ r = 4 := by omega
  rcases this with rfl | rfl | rfl | rfl <;> assumption
def cel (i j : Nat) : D := .tuple [.int i, .int j]
def cellsOf (r c : Nat) : List (Nat × Nat) := (List.range r).flatMap fun i => (List.range c).map fun j => (i, j)
def celD (p : Nat × Nat) : D := cel p.1 p.2
theorem law_cells {r c : Nat} (h1 : 1 ≤ r) (h2 : r ≤ 4) (h3 : 1 ≤ c) (h4 : c ≤ 4) : call sub wf tbl (k + 1) "_law_cells" [sz r c] = .val (.list ((cellsOf r c).map celD)) := by
  rw [call_eq h.t__law_cells rfl]
  revert h1 h2 h3 h4
  generalize call sub wf tbl k = cal
  intro h1 h2 h3 h4
  refine four (P := fun r => (exec cal sub wf p__law_cells (startX 4 [sz r c])).res = .val (.list ((cellsOf r c).map celD))) h1 h2 ?_ ?_ ?_ ?_
  all_goals refine four (P := fun c => (exec cal sub wf p__law_cells (startX 4 [sz _ c])).res = .val (.list ((cellsOf _ c).map celD))) h3 h4 ?_ ?_ ?_ ?_
  all_goals kernel_rfl
end
end Pg

set_option linter.all false
set_option maxRecDepth 100000
set_option maxHeartbeats 4000000
namespace Pg
open PySem hiding call exec
open Mp
section
variable {tbl : Str → Option Df} (h : Std tbl) {k : Nat}
include h
/-! ### values -/
omit h in
theorem lc_rng {step : D → R (List D)} {n : Nat} {g : Nat → Int} (hs : ∀ i, i < n → step (.int (i : Int)) = .val [.int (g i)]) : lcF step (rngX 0 n) = .val (intz ((List.range n).map g)) := by
  have : ∀ (l : List Nat), (∀ i ∈ l, i < n) → lcF step (l.map fun (i : Nat) => PyData.int (0 + (i : Int))) = .val (intz (l.map g)) := by
    intro l
    induction l with
    | nil => intro _; rfl
    | cons i l ih =>
      intro hl
      have e : (0 : Int) + (i : Int) = (i : Int) := by omega
      simp only [List.map_cons, lcF, e, hs i (hl i (by simp)), ih (fun j hj => hl j (by simp [hj]))]
      rfl
  exact this _ (fun i hi => by simpa using hi)
def vals (us vs : List Int) : D := .tuple [.tuple (intz us), .tuple (intz vs)]
omit h in
theorem smA {n : Nat} (hn : n ≤ 1000) : smallI (n : Int) = true := by
  have e : (2 : Int) ^ 62 = 4611686018427387904 := by decide
  unfold smallI
  rw [e, decide_eq_true_iff]
  constructor <;> omega
omit h in
theorem rngS_of (z : Int) (h0 : smallI z = true) {n : Nat} (hz : (n : Int) = z) : rngS (.int z) = some (rngX 0 n) := by
  have e : rngS (.int z) = if smallI z then some (rngX 0 z.toNat) else none := rfl
  rw [e, h0, if_pos rfl, ← hz, Int.toNat_natCast]
omit h in
theorem rngS_nat {n : Nat} (hn : n ≤ 1000) : rngS (.int (n : Int)) = some (rngX 0 n) := rngS_of _ (smA hn) rfl
omit h in
theorem evi_rng0 {cal : Str → List D → R D} {e : Ex} {ρ : Rho} {d : D} {xs : List D} (he : ev cal e ρ = .val d) (hn : rngS d = some xs) : evi cal (.rng e) ρ = .val xs := by
  simp only [evi, he, R.bnd_val, hn, ofO_some]
omit h in
theorem evi_rng {cal : Str → List D → R D} {e : Ex} {ρ : Rho} {n : Nat} (he : ev cal e ρ = .val (.int (n : Int))) (hn : n ≤ 1000) : evi cal (.rng e) ρ = .val (rngX 0 n) := by
  exact evi_rng0 he (rngS_nat hn)
omit h in
theorem at0 (x y : D) : atX [x, y] 0 = some x := rfl
omit h in
theorem at1 (x y : D) : atX [x, y] 1 = some y := rfl
def lgE0 : Ex := .lc (.nm 5) (.rng (.ix (.var 2) (.lit (.int 0)))) .non (.bin .mod (.ix (.var 3) (.var 5)) (.lit (.int 6))) [5]
def lgE1 : Ex := .lc (.nm 5) (.rng (.ix (.var 2) (.lit (.int 1)))) .non (.bin .mod (.ix (.var 3) (.bin .add (.lit (.int 10)) (.var 5))) (.lit (.int 6))) [5]
def lgG (ds : List Int) (j : Int) : Int := match atX (intz ds) j with | some (.int d) => d % 6 | _ => 0
omit h in
theorem lgG_of {ds : List Int} (h1 : ds.length = 60) {j : Int} (h0 : 0 ≤ j) (hj : j < 60) : ∃ d, atX (intz ds) j = some (.int d) ∧ lgG ds j = d % 6 := by
  obtain ⟨d, _, e⟩ := ints_at (ds := ds) h0 (by omega)
  exact ⟨d, e, by simp only [lgG, e]⟩
omit h in
theorem le_lim {n : Nat} (hn : n ≤ 1000) : n ≤ lim := Nat.le_trans hn (by decide)
omit h in
theorem lg0 {cal : Str → List D → R D} {x y u : Option Sl} {ds : List Int} (h1 : ds.length = 60) {r c : Nat} (hr : r ≤ 4) : ev cal lgE0 [x, y, some (.dat (sz r c)), some (.dat (.list (intz ds))), u, none] = .val (.list (intz ((List.range r).map fun (i : Nat) => lgG ds (i : Int)))) := by
  have i1 : evi cal (.rng (.ix (.var 2) (.lit (.int 0)))) [x, y, some (.dat (sz r c)), some (.dat (.list (intz ds))), u, none] = .val (rngX 0 r) := by
    refine evi_rng ?_ (by omega)
    simp [exec, ev, evs, evo, evt, evi, startX, coS, coB, ltS, leS, gtS, geS, eqS, isS, isNone, bfS, tyS, ixS, boS, addS, subS, mulS, modS, fdivS, powS, negS, truth, truR, O.res, asgT, asgTs, mkT, mkL, optI, slS, frzAt, frzS, R.out, seqS, rngS, rng2S, zipS, enumS, sz, at0]
  refine ev_lcS i1 (lc_rng fun i hi => ?_) (le_lim (by simp; omega))
  obtain ⟨d, e, e2⟩ := lgG_of h1 (j := (i : Int)) (by omega) (by omega)
  rw [e2]
  simp only [intz] at e
  simp [lcS, exec, ev, evs, evo, evt, evi, startX, coS, coB, ltS, leS, gtS, geS, eqS, isS, isNone, bfS, tyS, ixS, boS, addS, subS, mulS, modS, fdivS, powS, negS, truth, truR, O.res, asgT, asgTs, mkT, mkL, optI, slS, frzAt, frzS, R.out, seqS, rngS, rng2S, zipS, enumS, wipeX, e]
omit h in
theorem lg1 {cal : Str → List D → R D} {x y u : Option Sl} {ds : List Int} (h1 : ds.length = 60) {r c : Nat} (hr : c ≤ 4) : ev cal lgE1 [x, y, some (.dat (sz r c)), some (.dat (.list (intz ds))), u, none] = .val (.list (intz ((List.range c).map fun (i : Nat) => lgG ds (10 + (i : Int))))) := by
  have i1 : evi cal (.rng (.ix (.var 2) (.lit (.int 1)))) [x, y, some (.dat (sz r c)), some (.dat (.list (intz ds))), u, none] = .val (rngX 0 c) := by
    refine evi_rng ?_ (by omega)
    simp [exec, ev, evs, evo, evt, evi, startX, coS, coB, ltS, leS, gtS, geS, eqS, isS, isNone, bfS, tyS, ixS, boS, addS, subS, mulS, modS, fdivS, powS, negS, truth, truR, O.res, asgT, asgTs, mkT, mkL, optI, slS, frzAt, frzS, R.out, seqS, rngS, rng2S, zipS, enumS, sz, at1]
  refine ev_lcS i1 (lc_rng fun i hi => ?_) (le_lim (by simp; omega))
  obtain ⟨d, e, e2⟩ := lgG_of h1 (j := 10 + (i : Int)) (by omega) (by omega)
  rw [e2]
  simp only [intz] at e
  simp [lcS, exec, ev, evs, evo, evt, evi, startX, coS, coB, ltS, leS, gtS, geS, eqS, isS, isNone, bfS, tyS, ixS, boS, addS, subS, mulS, modS, fdivS, powS, negS, truth, truR, O.res, asgT, asgTs, mkT, mkL, optI, slS, frzAt, frzS, R.out, seqS, rngS, rng2S, zipS, enumS, wipeX, e]
omit h in
theorem given_is : p__law_given = (.seq (.asg (.nm 3) (.call "_law_row" (.cons (.var 0) (.cons (.var 1) .nil)))) (.seq (.asg (.nm 4) lgE0) (.ret (.tup (.cons (.blt .tuple (.cons (.var 4) .nil)) (.cons (.blt .tuple (.cons lgE1 .nil)) .nil)))))) := rfl
omit h in
theorem lgF {cal : Str → List D → R D} {x y z w : Option Sl} {U V : List D} {E0 E1 : Ex} (e0 : ev cal E0 [x, y, z, w, none, none] = .val (.list U)) (e1 : ev cal E1 [x, y, z, w, some (.dat (.list U)), none] = .val (.list V)) : (exec cal sub wf (.seq (.asg (.nm 4) E0) (.ret (.tup (.cons (.blt .tuple (.cons (.var 4) .nil)) (.cons (.blt .tuple (.cons E1 .nil)) .nil))))) [x, y, z, w, none, none]).res = .val (.tuple [.tuple U, .tuple V]) := by
  have l0 : (2 : Nat) ≤ lim := by decide
  simp [exec, ev, evs, evo, evt, evi, startX, coS, coB, ltS, leS, gtS, geS, eqS, isS, isNone, bfS, tyS, ixS, boS, addS, subS, mulS, modS, fdivS, powS, negS, truth, truR, O.res, asgT, asgTs, mkT, mkL, optI, slS, frzAt, frzS, R.out, seqS, rngS, rng2S, zipS, enumS, e0, e1, l0]
theorem law_given (ns : List Int) {a : Int} (ha : 0 ≤ a) {r c : Nat} (h2 : r ≤ 4) (h4 : c ≤ 4) : ∃ us vs : List Int, us.length = r ∧ vs.length = c ∧ call sub wf tbl (k + 3) "_law_given" [scr (intz ns), .int a, sz r c] = .val (vals us vs) := by
  obtain ⟨ds, h1, h2', h3⟩ := law_row h (k := k) ns ha
  refine ⟨(List.range r).map fun (i : Nat) => lgG ds (i : Int), (List.range c).map fun (i : Nat) => lgG ds (10 + (i : Int)), by simp, by simp, ?_⟩
  rw [call_eq h.t__law_given rfl, given_is]
  have s1 : exec (call sub wf tbl (k + 2)) sub wf (.asg (.nm 3) (.call "_law_row" (.cons (.var 0) (.cons (.var 1) .nil)))) (startX 6 [scr (intz ns), .int a, sz r c]) = .nxt [some (.dat (scr (intz ns))), some (.dat (.int a)), some (.dat (sz r c)), some (.dat (.list (intz ds))), none, none] := by
    simp [exec, ev, evs, evo, evt, evi, startX, coS, coB, ltS, leS, gtS, geS, eqS, isS, isNone, bfS, tyS, ixS, boS, addS, subS, mulS, modS, fdivS, powS, negS, truth, truR, O.res, asgT, asgTs, mkT, mkL, optI, slS, frzAt, frzS, R.out, seqS, rngS, rng2S, zipS, enumS, h3, List.replicate]
  rw [ex_seq s1]
  exact lgF (lg0 h1 h2) (lg1 h1 h4)
end
end Pg

set_option linter.all false
set_option maxRecDepth 100000
set_option maxHeartbeats 4000000
namespace Pg
open PySem hiding call exec
open Mp
theorem shp_cel (i j : Int) : SeqAt.shaped (.tuple [.int i, .int j]) = true := by kernel_rfl
theorem eqS_tup (a b : List D) (ha : SeqAt.shaped (.tuple a) = true) (hb : SeqAt.shaped (.tuple b) = true) : eqS (.tuple a) (.tuple b) = some (PyData.eqv (.tuple a) (.tuple b)) := by
  have : eqS (.tuple a) (.tuple b) = if SeqAt.shaped (.tuple a) && SeqAt.shaped (.tuple b) then some (PyData.eqv (.tuple a) (.tuple b)) else none := rfl
  rw [this, ha, hb]; rfl
theorem eqS_int2 (i j i' j' : Int) : eqS (.tuple [.int i, .int j]) (.tuple [.int i', .int j']) = some (decide (i = i') && decide (j = j')) := by
  rw [eqS_tup _ _ (shp_cel _ _) (shp_cel _ _)]
  simp [PyData.eqv, PyData.eqvAll]
  by_cases a : i = i' <;> by_cases b : j = j' <;> simp [a, b]
theorem eqS_ii (i j : Int) : eqS (.int i) (.int j) = some (i == j) := rfl
theorem eqS_ss (i j : Str) : eqS (.str i) (.str j) = some (i == j) := rfl
inductive Kd where
  | ab | le | eq
def Kd.s : Kd → Str
  | .ab => "above"
  | .le => "at least"
  | .eq => "equal"
structure C3 where
  a : Nat × Nat
  k : Kd
  b : Nat × Nat
def cmpD (x : C3) : D := .tuple [celD x.a, .str x.k.s, celD x.b]
def okC (r c : Nat) (x : C3) : Prop := x.a.1 < r ∧ x.a.2 < c ∧ x.b.1 < r ∧ x.b.2 < c ∧ x.a ≠ x.b
theorem in_kd (k : Kd) : inS (.str k.s) (.tuple [.str "above", .str "at least", .str "equal"]) = some true := by
  cases k <;> kernel_rfl
theorem in_below : inS (.str "below") (.tuple [.str "above", .str "at least", .str "equal"]) = some false := by kernel_rfl
theorem at30 (x y z : D) : atX [x, y, z] 0 = some x := rfl
theorem at31 (x y z : D) : atX [x, y, z] 1 = some y := rfl
theorem at32 (x y z : D) : atX [x, y, z] 2 = some z := rfl
section
variable {tbl : Str → Option Df} (h : Std tbl) {k : Nat}
include h
theorem in_range_int (v lo hi : Int) : call sub wf tbl (k + 1) "in_range" [.int v, .int lo, .int hi] = .val (.bool (decide (lo ≤ v) && decide (v ≤ hi))) := by
  rw [call_eq h.t_in_range rfl]
  by_cases a : lo ≤ v <;> simp [p_in_range, exec, ev, evs, evo, evt, evi, startX, coS, coB, ltS, leS, gtS, geS, eqS, isS, isNone, bfS, tyS, ixS, boS, addS, subS, mulS, modS, fdivS, powS, negS, truth, truR, O.res, asgT, asgTs, mkT, mkL, optI, slS, frzAt, frzS, R.out, seqS, rngS, rng2S, zipS, enumS, a]
theorem is_pair_int (i j x y : Int) : call sub wf tbl (k + 2) "is_pair" [.tuple [.int i, .int j], .int x, .int y] = .val (.bool (decide (0 ≤ i) && decide (i ≤ x) && (decide (0 ≤ j) && decide (j ≤ y)))) := by
  rw [call_eq h.t_is_pair rfl]
  have a := in_range_int h (k := k) i 0 x
  have b := in_range_int h (k := k) j 0 y
  by_cases c : 0 ≤ i <;> by_cases d : i ≤ x <;> simp [c, d] at a <;> simp [p_is_pair, exec, ev, evs, evo, evt, evi, startX, coS, coB, ltS, leS, gtS, geS, eqS, isS, isNone, bfS, tyS, ixS, boS, addS, subS, mulS, modS, fdivS, powS, negS, truth, truR, O.res, asgT, asgTs, mkT, mkL, optI, slS, frzAt, frzS, R.out, seqS, rngS, rng2S, zipS, enumS, at0, at1, a, b, c, d]
theorem is_pair_one (i x y : Int) : call sub wf tbl (k + 2) "is_pair" [.tuple [.int i], .int x, .int y] = .val (.bool false) := by
  rw [call_eq h.t_is_pair rfl]
  simp [p_is_pair, exec, ev, evs, evo, evt, evi, startX, coS, coB, ltS, leS, gtS, geS, eqS, isS, isNone, bfS, tyS, ixS, boS, addS, subS, mulS, modS, fdivS, powS, negS, truth, truR, O.res, asgT, asgTs, mkT, mkL, optI, slS, frzAt, frzS, R.out, seqS, rngS, rng2S, zipS, enumS]
theorem is_size_ok {r c : Nat} (h1 : 1 ≤ r) (h2 : r ≤ 4) (h3 : 1 ≤ c) (h4 : c ≤ 4) : call sub wf tbl (k + 3) "is_size" [sz r c] = .val (.bool true) := by
  rw [call_eq h.t_is_size rfl]
  have a := is_pair_int h (k := k) (r : Int) (c : Int) 4 4
  have e1 : ((r : Int) ≤ 4) := by omega
  have e2 : ((c : Int) ≤ 4) := by omega
  have e3 : (0 < (r : Int)) := by omega
  have e4 : (0 < (c : Int)) := by omega
  have e5 : (0 ≤ (r : Int)) := by omega
  have e6 : (0 ≤ (c : Int)) := by omega
  simp only [e1, e2, e5, e6, decide_true, Bool.and_true] at a
  have e7 : 0 < r := by omega
  have e8 : 0 < c := by omega
  simp [p_is_size, exec, ev, evs, evo, evt, evi, startX, coS, coB, ltS, leS, gtS, geS, eqS, isS, isNone, bfS, tyS, ixS, boS, addS, subS, mulS, modS, fdivS, powS, negS, truth, truR, O.res, asgT, asgTs, mkT, mkL, optI, slS, frzAt, frzS, R.out, seqS, rngS, rng2S, zipS, enumS, sz, at0, at1, a, e7, e8]
theorem check_size_ok {r c : Nat} (h1 : 1 ≤ r) (h2 : r ≤ 4) (h3 : 1 ≤ c) (h4 : c ≤ 4) : call sub wf tbl (k + 4) "check_size" [sz r c] = .val .none := by
  rw [call_eq h.t_check_size rfl]
  have a := is_size_ok h (k := k) h1 h2 h3 h4
  simp [p_check_size, exec, ev, evs, evo, evt, evi, startX, coS, coB, ltS, leS, gtS, geS, eqS, isS, isNone, bfS, tyS, ixS, boS, addS, subS, mulS, modS, fdivS, powS, negS, truth, truR, O.res, asgT, asgTs, mkT, mkL, optI, slS, frzAt, frzS, R.out, seqS, rngS, rng2S, zipS, enumS, a]
theorem is_cell_int (r c : Nat) (i j : Int) : call sub wf tbl (k + 3) "is_cell" [sz r c, .tuple [.int i, .int j]] = .val (.bool (decide (0 ≤ i) && decide (i ≤ (r : Int) - 1) && (decide (0 ≤ j) && decide (j ≤ (c : Int) - 1)))) := by
  rw [call_eq h.t_is_cell rfl]
  have a := is_pair_int h (k := k) i j ((r : Int) - 1) ((c : Int) - 1)
  simp [p_is_cell, exec, ev, evs, evo, evt, evi, startX, coS, coB, ltS, leS, gtS, geS, eqS, isS, isNone, bfS, tyS, ixS, boS, addS, subS, mulS, modS, fdivS, powS, negS, truth, truR, O.res, asgT, asgTs, mkT, mkL, optI, slS, frzAt, frzS, R.out, seqS, rngS, rng2S, zipS, enumS, sz, at0, at1, a]
theorem is_cell_one (r c : Nat) (i : Int) : call sub wf tbl (k + 3) "is_cell" [sz r c, .tuple [.int i]] = .val (.bool false) := by
  rw [call_eq h.t_is_cell rfl]
  have a := is_pair_one h (k := k) i ((r : Int) - 1) ((c : Int) - 1)
  simp [p_is_cell, exec, ev, evs, evo, evt, evi, startX, coS, coB, ltS, leS, gtS, geS, eqS, isS, isNone, bfS, tyS, ixS, boS, addS, subS, mulS, modS, fdivS, powS, negS, truth, truR, O.res, asgT, asgTs, mkT, mkL, optI, slS, frzAt, frzS, R.out, seqS, rngS, rng2S, zipS, enumS, sz, at0, at1, a]
/-- a comparison's three parts -/
theorem is_comp_of {s x z : D} {t : Str} {b1 b2 b3 : Bool} (ht : inS (.str t) (.tuple [.str "above", .str "at least", .str "equal"]) = some true) (e1 : call sub wf tbl (k + 3) "is_cell" [s, x] = .val (.bool b1)) (e2 : b1 = true → call sub wf tbl (k + 3) "is_cell" [s, z] = .val (.bool b2)) (e3 : b1 = true → b2 = true → eqS x z = some b3) : call sub wf tbl (k + 4) "is_comparison" [s, .tuple [x, .str t, z]] = .val (.bool (b1 && (b2 && !b3))) := by
  rw [call_eq h.t_is_comparison rfl]
  have l3 : (3 : Nat) ≤ lim := by decide
  cases b1 with
  | false => simp [p_is_comparison, exec, ev, evs, evo, evt, evi, startX, coS, coB, ltS, leS, gtS, geS, eqS, isS, isNone, bfS, tyS, ixS, boS, addS, subS, mulS, modS, fdivS, powS, negS, truth, truR, O.res, asgT, asgTs, mkT, mkL, optI, slS, frzAt, frzS, R.out, seqS, rngS, rng2S, zipS, enumS, at30, at31, at32, ht, e1, l3]
  | true =>
    have e2 := e2 rfl
    cases b2 with
    | false => simp [p_is_comparison, exec, ev, evs, evo, evt, evi, startX, coS, coB, ltS, leS, gtS, geS, eqS, isS, isNone, bfS, tyS, ixS, boS, addS, subS, mulS, modS, fdivS, powS, negS, truth, truR, O.res, asgT, asgTs, mkT, mkL, optI, slS, frzAt, frzS, R.out, seqS, rngS, rng2S, zipS, enumS, at30, at31, at32, ht, e1, e2, l3]
    | true =>
      have e3 := e3 rfl rfl
      simp [p_is_comparison, eqS_ii, eqS_ss, exec, ev, evs, evo, evt, evi, startX, coS, coB, ltS, leS, gtS, geS, isS, isNone, bfS, tyS, ixS, boS, addS, subS, mulS, modS, fdivS, powS, negS, truth, truR, O.res, asgT, asgTs, mkT, mkL, optI, slS, frzAt, frzS, R.out, seqS, e3, at30, at31, at32, ht, e1, e2, l3]
theorem is_comp_ok {r c : Nat} {x : C3} (hx : okC r c x) : call sub wf tbl (k + 4) "is_comparison" [sz r c, cmpD x] = .val (.bool true) := by
  obtain ⟨⟨i, j⟩, kd, ⟨i', j'⟩⟩ := x
  obtain ⟨g1, g2, g3, g4, g5⟩ := hx
  simp only at g1 g2 g3 g4 g5
  refine (is_comp_of h (in_kd kd) (is_cell_int h r c i j) (fun _ => is_cell_int h r c i' j') (fun _ _ => eqS_int2 i j i' j')).trans ?_
  have a1 : ((i : Int) ≤ (r : Int) - 1) := by omega
  have a2 : ((j : Int) ≤ (c : Int) - 1) := by omega
  have a3 : ((i' : Int) ≤ (r : Int) - 1) := by omega
  have a4 : ((j' : Int) ≤ (c : Int) - 1) := by omega
  have b1 : 0 ≤ (i : Int) := by omega
  have b2 : 0 ≤ (j : Int) := by omega
  have b3 : 0 ≤ (i' : Int) := by omega
  have b4 : 0 ≤ (j' : Int) := by omega
  have n : ¬ ((i : Int) = i' ∧ (j : Int) = j') := fun e => g5 (by rw [show i = i' by omega, show j = j' by omega])
  have n' : (decide ((i : Int) = i') && decide ((j : Int) = j')) = false := by
    rw [← Bool.not_eq_true]; intro e; apply n; simpa using e
  rw [n']
  simp only [a1, a2, a3, a4, b1, b2, b3, b4, decide_true, Bool.and_true, Bool.not_false]
def wrongs (r c : Nat) : List D :=
  [.tuple [cel 0 0, .str "above", cel 0 0], .tuple [cel 0 0, .str "below", cel 0 0], .tuple [.tuple [.int r, .int 0], .str "above", cel 0 0], .none, .tuple [cel 0 0, .str "above"],
   .tuple [cel 0 0, .str "equal", .tuple [.int 0, .int c]], .list [cel 0 0, .str "equal", cel 0 0], .tuple [cel 0 0, .str "above", .tuple [.int (-1), .int 0]], .tuple [.tuple [.int 0], .str "equal", cel 0 0]]
theorem wrong_no {r c : Nat} (h1 : 1 ≤ r) (h3 : 1 ≤ c) {d : D} (hd : d ∈ wrongs r c) : call sub wf tbl (k + 4) "is_comparison" [sz r c, d] = .val (.bool false) := by
  have l3 : (3 : Nat) ≤ lim := by decide
  have c0 := is_cell_int h (k := k) r c 0 0
  have u1 : (0 : Int) ≤ (r : Int) - 1 := by omega
  have u2 : (0 : Int) ≤ (c : Int) - 1 := by omega
  simp only [u1, u2, decide_true, Bool.and_true, Int.le_refl] at c0
  have c1 := is_cell_int h (k := k) r c r 0
  have u3 : ¬ ((r : Int) ≤ (r : Int) - 1) := by omega
  simp only [u3, decide_false, Bool.and_false, Bool.false_and] at c1
  have c2 := is_cell_int h (k := k) r c 0 c
  have u4 : ¬ ((c : Int) ≤ (c : Int) - 1) := by omega
  simp only [u4, decide_false, Bool.and_false] at c2
  have c3 := is_cell_int h (k := k) r c (-1) 0
  have u5 : ¬ ((0 : Int) ≤ -1) := by omega
  simp only [u5, decide_false, Bool.false_and] at c3
  simp only [wrongs, List.mem_cons, List.not_mem_nil, or_false] at hd
  rcases hd with rfl | rfl | rfl | rfl | rfl | rfl | rfl | rfl | rfl
  · exact (is_comp_of h (in_kd .ab) c0 (fun _ => c0) (fun _ _ => eqS_int2 0 0 0 0)).trans rfl
  · rw [call_eq h.t_is_comparison rfl]
    simp [p_is_comparison, eqS_ii, eqS_ss, exec, ev, evs, evo, evt, evi, startX, coS, coB, ltS, leS, gtS, geS, isS, isNone, bfS, tyS, ixS, boS, addS, subS, mulS, modS, fdivS, powS, negS, truth, truR, O.res, asgT, asgTs, mkT, mkL, optI, slS, frzAt, frzS, R.out, seqS, at31, l3, in_below]
  · exact (is_comp_of h (b2 := true) (b3 := true) (in_kd .ab) c1 (fun e => by cases e) (fun e => by cases e)).trans rfl
  · rw [call_eq h.t_is_comparison rfl]
    simp [p_is_comparison, eqS_ii, eqS_ss, exec, ev, evs, evo, evt, evi, startX, coS, coB, ltS, leS, gtS, geS, isS, isNone, bfS, tyS, ixS, boS, addS, subS, mulS, modS, fdivS, powS, negS, truth, truR, O.res, asgT, asgTs, mkT, mkL, optI, slS, frzAt, frzS, R.out, seqS]
  · rw [call_eq h.t_is_comparison rfl]
    simp [p_is_comparison, exec, ev, evs, evo, evt, evi, startX, coS, coB, ltS, leS, gtS, geS, eqS, isS, isNone, bfS, tyS, ixS, boS, addS, subS, mulS, modS, fdivS, powS, negS, truth, truR, O.res, asgT, asgTs, mkT, mkL, optI, slS, frzAt, frzS, R.out, seqS, rngS, rng2S, zipS, enumS]
  · exact (is_comp_of h (b3 := true) (in_kd .eq) c0 (fun _ => c2) (fun _ e => by cases e)).trans rfl
  · rw [call_eq h.t_is_comparison rfl]
    simp [p_is_comparison, eqS_ii, eqS_ss, exec, ev, evs, evo, evt, evi, startX, coS, coB, ltS, leS, gtS, geS, isS, isNone, bfS, tyS, ixS, boS, addS, subS, mulS, modS, fdivS, powS, negS, truth, truR, O.res, asgT, asgTs, mkT, mkL, optI, slS, frzAt, frzS, R.out, seqS]
  · exact (is_comp_of h (b3 := true) (in_kd .ab) c0 (fun _ => c3) (fun _ e => by cases e)).trans rfl
  · exact (is_comp_of h (b2 := true) (b3 := true) (in_kd .eq) (is_cell_one h r c 0) (fun e => by cases e) (fun e => by cases e)).trans rfl
/-! ### lists of comparisons -/
omit h in
theorem lc_drop {step : D → R (List D)} {p : D → Bool} {xs : List D} (hs : ∀ x ∈ xs, step x = .val (if p x then [] else [x])) : ∃ ys, lcF step xs = .val ys ∧ ys.length ≤ xs.length ∧ (ys.isEmpty = xs.all p) := by
  refine ⟨_, lcF_map (fun x => if p x then [] else [x]) hs, ?_, ?_⟩
  · clear hs
    induction xs with
    | nil => simp
    | cons x xs ih => cases e : p x <;> simp [e] at * <;> omega
  · clear hs
    induction xs with
    | nil => simp
    | cons x xs ih => cases e : p x <;> simp [e] at * <;> exact ih
def acE : Ex := .lc (.nm 2) (.seq (.var 1)) (.som (.not (.call "is_comparison" (.cons (.var 0) (.cons (.var 2) .nil))))) (.var 2) [2]
omit h in
theorem ac_is : p_are_comparisons = (.seq (.ite (.or (.not (.blt (.isi .tuple) (.cons (.var 1) .nil))) (.cmp .gt (.blt .len (.cons (.var 1) .nil)) (.lit (.int 12)))) (.ret (.lit (.bool false))) .skip) (.ret (.not acE))) := rfl
omit h in
theorem acEv {cal : Str → List D → R D} {s : D} {ds : List D} {p : D → Bool} (hl : ds.length ≤ 12) (hp : ∀ d ∈ ds, cal "is_comparison" [s, d] = .val (.bool (p d))) : ∃ ys, ev cal acE [some (.dat s), some (.dat (.tuple ds)), none] = .val (.list ys) ∧ ys.isEmpty = ds.all p := by
  have i1 : evi cal (.seq (.var 1)) [some (.dat s), some (.dat (.tuple ds)), none] = .val ds := by simp [eqS_ii, eqS_ss, exec, ev, evs, evo, evt, evi, startX, coS, coB, ltS, leS, gtS, geS, isS, isNone, bfS, tyS, ixS, boS, addS, subS, mulS, modS, fdivS, powS, negS, truth, truR, O.res, asgT, asgTs, mkT, mkL, optI, slS, frzAt, frzS, R.out, seqS]
  obtain ⟨ys, e1, e2, e3⟩ := lc_drop (step := lcS cal (.nm 2) (.som (.not (.call "is_comparison" (.cons (.var 0) (.cons (.var 2) .nil))))) (.var 2) (wipeX [some (.dat s), some (.dat (.tuple ds)), none] [2])) (p := p) (xs := ds) (fun x hx => by
    have := hp x hx
    cases e : p x <;> simp [e] at this <;> simp [lcS, eqS_ii, eqS_ss, exec, ev, evs, evo, evt, evi, startX, coS, coB, ltS, leS, gtS, geS, isS, isNone, bfS, tyS, ixS, boS, addS, subS, mulS, modS, fdivS, powS, negS, truth, truR, O.res, asgT, asgTs, mkT, mkL, optI, slS, frzAt, frzS, R.out, seqS, wipeX, this])
  exact ⟨ys, ev_lcS i1 e1 (le_lim (by omega)), e3⟩
theorem are_comps {s : D} {ds : List D} {p : D → Bool} (hl : ds.length ≤ 12) (hp : ∀ d ∈ ds, call sub wf tbl (k + 4) "is_comparison" [s, d] = .val (.bool (p d))) : call sub wf tbl (k + 5) "are_comparisons" [s, .tuple ds] = .val (.bool (ds.all p)) := by
  rw [call_eq h.t_are_comparisons rfl, ac_is]
  obtain ⟨ys, e1, e2⟩ := acEv hl hp
  generalize acE = E at e1 ⊢
  have g : ¬ (12 : Int) < (ds.length : Int) := by omega
  rw [← e2]
  simp [eqS_ii, eqS_ss, exec, ev, evs, evo, evt, evi, startX, coS, coB, ltS, leS, gtS, geS, isS, isNone, bfS, tyS, ixS, boS, addS, subS, mulS, modS, fdivS, powS, negS, truth, truR, O.res, asgT, asgTs, mkT, mkL, optI, slS, frzAt, frzS, R.out, seqS, g, e1, List.replicate]
theorem are_comps_list {s : D} {ds : List D} : call sub wf tbl (k + 5) "are_comparisons" [s, .list ds] = .val (.bool false) := by
  rw [call_eq h.t_are_comparisons rfl, ac_is]
  generalize acE = E
  simp [eqS_ii, eqS_ss, exec, ev, evs, evo, evt, evi, startX, coS, coB, ltS, leS, gtS, geS, isS, isNone, bfS, tyS, ixS, boS, addS, subS, mulS, modS, fdivS, powS, negS, truth, truR, O.res, asgT, asgTs, mkT, mkL, optI, slS, frzAt, frzS, R.out, seqS]
theorem are_comps_none {s : D} : call sub wf tbl (k + 5) "are_comparisons" [s, .none] = .val (.bool false) := by
  rw [call_eq h.t_are_comparisons rfl, ac_is]
  generalize acE = E
  simp [eqS_ii, eqS_ss, exec, ev, evs, evo, evt, evi, startX, coS, coB, ltS, leS, gtS, geS, isS, isNone, bfS, tyS, ixS, boS, addS, subS, mulS, modS, fdivS, powS, negS, truth, truR, O.res, asgT, asgTs, mkT, mkL, optI, slS, frzAt, frzS, R.out, seqS]
theorem are_comps_long {s : D} {ds : List D} (hl : ds.length = 13) : call sub wf tbl (k + 5) "are_comparisons" [s, .tuple ds] = .val (.bool false) := by
  rw [call_eq h.t_are_comparisons rfl, ac_is]
  generalize acE = E
  have g : (12 : Int) < (ds.length : Int) := by omega
  simp [eqS_ii, eqS_ss, exec, ev, evs, evo, evt, evi, startX, coS, coB, ltS, leS, gtS, geS, isS, isNone, bfS, tyS, ixS, boS, addS, subS, mulS, modS, fdivS, powS, negS, truth, truR, O.res, asgT, asgTs, mkT, mkL, optI, slS, frzAt, frzS, R.out, seqS, g]
theorem check_comps {r c : Nat} (h1 : 1 ≤ r) (h2 : r ≤ 4) (h3 : 1 ≤ c) (h4 : c ≤ 4) {d : D} {b : Bool} (hd : call sub wf tbl (k + 5) "are_comparisons" [sz r c, d] = .val (.bool b)) : call sub wf tbl (k + 6) "check_comparisons" [sz r c, d] = if b then .val .none else .exc "InvalidComparisons" := by
  rw [call_eq h.t_check_comparisons rfl]
  have a := check_size_ok h (k := k + 1) h1 h2 h3 h4
  cases b <;> simp [p_check_comparisons, eqS_ii, eqS_ss, exec, ev, evs, evo, evt, evi, startX, coS, coB, ltS, leS, gtS, geS, isS, isNone, bfS, tyS, ixS, boS, addS, subS, mulS, modS, fdivS, powS, negS, truth, truR, O.res, asgT, asgTs, mkT, mkL, optI, slS, frzAt, frzS, R.out, seqS, a, hd]
theorem values_no {s d : D} (hd : call sub wf tbl (k + 6) "check_comparisons" [s, d] = .exc "InvalidComparisons") : call sub wf tbl (k + 7) "values" [s, d] = .exc "InvalidComparisons" := by
  rw [call_eq h.t_values rfl]
  simp [p_values, eqS_ii, eqS_ss, exec, ev, evs, evo, evt, evi, startX, coS, coB, ltS, leS, gtS, geS, isS, isNone, bfS, tyS, ixS, boS, addS, subS, mulS, modS, fdivS, powS, negS, truth, truR, O.res, asgT, asgTs, mkT, mkL, optI, slS, frzAt, frzS, R.out, seqS, hd]
theorem cancelling_no {s d : D} (hd : call sub wf tbl (k + 6) "check_comparisons" [s, d] = .exc "InvalidComparisons") : call sub wf tbl (k + 7) "cancelling" [s, d] = .exc "InvalidComparisons" := by
  rw [call_eq h.t_cancelling rfl]
  simp [p_cancelling, eqS_ii, eqS_ss, exec, ev, evs, evo, evt, evi, startX, coS, coB, ltS, leS, gtS, geS, isS, isNone, bfS, tyS, ixS, boS, addS, subS, mulS, modS, fdivS, powS, negS, truth, truR, O.res, asgT, asgTs, mkT, mkL, optI, slS, frzAt, frzS, R.out, seqS, hd]
end
end Pg

set_option linter.all false
set_option maxRecDepth 100000
set_option maxHeartbeats 4000000
namespace Pg
open PySem hiding call exec
open Mp
def bodyLV : S := (.ret (.ite (.cmp .eq (.var 0) (.lit (.int 0))) (.call "values" (.cons (.var 1) (.cons (.var 2) .nil))) (.call "cancelling" (.cons (.var 1) (.cons (.var 2) .nil)))))
def hsLV : List Hnd := [⟨"Inconsistent", (.and (.is "AdditiveError") (.not (.is "Consistent"))), .str "inconsistent", .str "other"⟩, ⟨"Consistent", (.and (.is "AdditiveError") (.not (.is "Inconsistent"))), .str "consistent", .str "other"⟩, ⟨"InvalidComparisons", (.and (.is "AdditiveError") (.not (.is "InvalidSize"))), .str "comparisons", .str "other"⟩]
theorem lv_is : p__law_values = .tryy bodyLV 3 ["Consistent", "Inconsistent", "InvalidComparisons", "InvalidSize"] hsLV := rfl
theorem tryLV {cal : Str → List D → R D} {ρ : Rho} (hl : ρ.length = 4) (hb : exec cal sub wf bodyLV ρ = .exc "InvalidComparisons" ρ) : (exec cal sub wf p__law_values ρ).res = .val (.str "comparisons") := by
  rw [lv_is]
  have e : exec cal sub wf (.tryy bodyLV 3 ["Consistent", "Inconsistent", "InvalidComparisons", "InvalidSize"] hsLV) ρ = if 3 < ρ.length ∧ ("InvalidComparisons" : Str) ∈ (["Consistent", "Inconsistent", "InvalidComparisons", "InvalidSize"] : List Str) then execH sub hsLV "InvalidComparisons" ρ else .bad := by
    simp only [exec, hb]
  rw [e, if_pos ⟨by omega, by simp⟩]
  have e2 : execH sub hsLV "InvalidComparisons" ρ = .ret (.str "comparisons") := by kernel_rfl
  rw [e2]; rfl
def isI : D → Bool
  | .int _ => true
  | _ => false
/-- none of the values is a laid dict -/
def plain : D → Bool
  | .dict _ => false
  | _ => true
section
variable {tbl : Str → Option Df} (h : Std tbl) {k : Nat}
include h
theorem law_values_no {s d : D} {m : Int} (hd : call sub wf tbl (k + 6) "check_comparisons" [s, d] = .exc "InvalidComparisons") : call sub wf tbl (k + 8) "_law_values" [.int m, s, d] = .val (.str "comparisons") := by
  rw [call_eq h.t__law_values rfl]
  refine tryLV (by simp [startX]) ?_
  have a := values_no h hd
  have b := cancelling_no h hd
  by_cases e : m = 0
  · simp [bodyLV, eqS_ii, eqS_ss, exec, ev, evs, evo, evt, evi, startX, coS, coB, ltS, leS, gtS, geS, isS, isNone, bfS, tyS, ixS, boS, addS, subS, mulS, modS, fdivS, powS, negS, truth, truR, O.res, asgT, asgTs, mkT, mkL, optI, slS, frzAt, frzS, R.out, seqS, a, b, e]
  · have e' : (m == 0) = false := by simp [e]
    simp [bodyLV, eqS_ii, eqS_ss, exec, ev, evs, evo, evt, evi, startX, coS, coB, ltS, leS, gtS, geS, isS, isNone, bfS, tyS, ixS, boS, addS, subS, mulS, modS, fdivS, powS, negS, truth, truR, O.res, asgT, asgTs, mkT, mkL, optI, slS, frzAt, frzS, R.out, seqS, a, b, e']
/-! ### values -/
def avE : Ex := .lc (.nm 4) (.seq (.var 3)) (.som (.or (.not (.blt (.isi .int) (.cons (.var 4) .nil))) (.blt (.isi .bool) (.cons (.var 4) .nil)))) (.var 4) [4]
def avB : S := (.seq (.ite (.or (.not (.blt (.isi .tuple) (.cons (.var 3) .nil))) (.cmp .ne (.blt .len (.cons (.var 3) .nil)) (.var 2))) (.ret (.lit (.bool false))) .skip) (.ite avE (.ret (.lit (.bool false))) .skip))
omit h in
theorem av_is : p_are_values = (.seq (.ite (.or (.not (.blt (.isi .tuple) (.cons (.var 1) .nil))) (.cmp .ne (.blt .len (.cons (.var 1) .nil)) (.lit (.int 2)))) (.ret (.lit (.bool false))) .skip) (.seq (.for (.tp (.cons (.nm 2) (.cons (.nm 3) .nil))) (.zip (.var 0) (.var 1)) avB) (.ret (.lit (.bool true))))) := rfl
omit h in
theorem avEv {cal : Str → List D → R D} {x y z : Option Sl} {ds : List D} (hl : ds.length ≤ 100) (hp : ∀ d ∈ ds, plain d = true) : ∃ ys, ev cal avE [x, y, z, some (.dat (.tuple ds)), none] = .val (.list ys) ∧ ys.isEmpty = ds.all isI := by
  have i1 : evi cal (.seq (.var 3)) [x, y, z, some (.dat (.tuple ds)), none] = .val ds := by simp [eqS_ii, eqS_ss, exec, ev, evs, evo, evt, evi, startX, coS, coB, ltS, leS, gtS, geS, isS, isNone, bfS, tyS, ixS, boS, addS, subS, mulS, modS, fdivS, powS, negS, truth, truR, O.res, asgT, asgTs, mkT, mkL, optI, slS, frzAt, frzS, R.out, seqS]
  obtain ⟨ys, e1, e2, e3⟩ := lc_drop (step := lcS cal (.nm 4) (.som (.or (.not (.blt (.isi .int) (.cons (.var 4) .nil))) (.blt (.isi .bool) (.cons (.var 4) .nil)))) (.var 4) (wipeX [x, y, z, some (.dat (.tuple ds)), none] [4])) (p := isI) (xs := ds) (fun d hd => by
    have hq := hp d hd
    cases d <;> simp [plain] at hq <;> simp [lcS, eqS_ii, eqS_ss, exec, ev, evs, evo, evt, evi, startX, coS, coB, ltS, leS, gtS, geS, isS, isNone, bfS, tyS, ixS, boS, addS, subS, mulS, modS, fdivS, powS, negS, truth, truR, O.res, asgT, asgTs, mkT, mkL, optI, slS, frzAt, frzS, R.out, seqS, wipeX, isI])
  exact ⟨ys, ev_lcS i1 e1 (le_lim (by omega)), e3⟩
omit h in
/-- a turn of are_values -/
theorem avTurn {cal : Str → List D → R D} {x y u v : Option Sl} {n : Nat} {ds : List D} (hl : ds.length ≤ 100) (hp : ∀ d ∈ ds, plain d = true) :
    (((decide (ds.length = n)) && ds.all isI) = true → exec cal sub wf avB [x, y, some (.dat (.int n)), some (.dat (.tuple ds)), none] = .nxt [x, y, some (.dat (.int n)), some (.dat (.tuple ds)), none]) ∧
    (((decide (ds.length = n)) && ds.all isI) = false → exec cal sub wf avB [x, y, some (.dat (.int n)), some (.dat (.tuple ds)), none] = .ret (.bool false)) := by
  obtain ⟨ys, e1, e2⟩ := avEv (cal := cal) (x := x) (y := y) (z := some (.dat (.int n))) hl hp
  unfold avB
  generalize avE = E at e1 ⊢
  rw [← e2]
  by_cases a : ds.length = n
  · have a' : (ds.length : Int) = n := by omega
    cases ys <;> simp [eqS_ii, eqS_ss, exec, ev, evs, evo, evt, evi, startX, coS, coB, ltS, leS, gtS, geS, isS, isNone, bfS, tyS, ixS, boS, addS, subS, mulS, modS, fdivS, powS, negS, truth, truR, O.res, asgT, asgTs, mkT, mkL, optI, slS, frzAt, frzS, R.out, seqS, a, a', e1]
  · have a' : ((ds.length : Int) == (n : Int)) = false := by rw [beq_eq_false_iff_ne]; omega
    simp [eqS_ii, eqS_ss, exec, ev, evs, evo, evt, evi, startX, coS, coB, ltS, leS, gtS, geS, isS, isNone, bfS, tyS, ixS, boS, addS, subS, mulS, modS, fdivS, powS, negS, truth, truR, O.res, asgT, asgTs, mkT, mkL, optI, slS, frzAt, frzS, R.out, seqS, a, a']
def avOk (r c : Nat) (as bs : List D) : Bool := (decide (as.length = r) && as.all isI) && (decide (bs.length = c) && bs.all isI)
theorem are_values_two {r c : Nat} {as bs : List D} (h1 : as.length ≤ 100) (h2 : bs.length ≤ 100) (h3 : ∀ d ∈ as, plain d = true) (h4 : ∀ d ∈ bs, plain d = true) : call sub wf tbl (k + 1) "are_values" [sz r c, .tuple [.tuple as, .tuple bs]] = .val (.bool (avOk r c as bs)) := by
  rw [call_eq h.t_are_values rfl, av_is]
  generalize hc : call sub wf tbl k = cal
  have s1 : exec cal sub wf (.ite (.or (.not (.blt (.isi .tuple) (.cons (.var 1) .nil))) (.cmp .ne (.blt .len (.cons (.var 1) .nil)) (.lit (.int 2)))) (.ret (.lit (.bool false))) .skip) (startX 5 [sz r c, .tuple [.tuple as, .tuple bs]]) = .nxt [some (.dat (sz r c)), some (.dat (.tuple [.tuple as, .tuple bs])), none, none, none] := by
    simp [eqS_ii, eqS_ss, exec, ev, evs, evo, evt, evi, startX, coS, coB, ltS, leS, gtS, geS, isS, isNone, bfS, tyS, ixS, boS, addS, subS, mulS, modS, fdivS, powS, negS, truth, truR, O.res, asgT, asgTs, mkT, mkL, optI, slS, frzAt, frzS, R.out, seqS, List.replicate]
  rw [ex_seq s1]
  have i1 : evi cal (.zip (.var 0) (.var 1)) [some (.dat (sz r c)), some (.dat (.tuple [.tuple as, .tuple bs])), none, none, none] = .val [.tuple [.int r, .tuple as], .tuple [.int c, .tuple bs]] := by
    simp [exec, ev, evs, evo, evt, evi, startX, coS, coB, ltS, leS, gtS, geS, eqS, isS, isNone, bfS, tyS, ixS, boS, addS, subS, mulS, modS, fdivS, powS, negS, truth, truR, O.res, asgT, asgTs, mkT, mkL, optI, slS, frzAt, frzS, R.out, seqS, rngS, rng2S, zipS, enumS, sz, pairsX]
  have f : exec cal sub wf (.for (.tp (.cons (.nm 2) (.cons (.nm 3) .nil))) (.zip (.var 0) (.var 1)) avB) [some (.dat (sz r c)), some (.dat (.tuple [.tuple as, .tuple bs])), none, none, none] = forF (forStep cal sub wf (.tp (.cons (.nm 2) (.cons (.nm 3) .nil))) avB) [.tuple [.int r, .tuple as], .tuple [.int c, .tuple bs]] [some (.dat (sz r c)), some (.dat (.tuple [.tuple as, .tuple bs])), none, none, none] := ex_for i1
  have t1 := fun x y => avTurn (cal := cal) (x := x) (y := y) (u := none) (v := none) (n := r) h1 h3
  have t2 := fun x y => avTurn (cal := cal) (x := x) (y := y) (u := none) (v := none) (n := c) h2 h4
  generalize avB = B at f t1 t2 ⊢
  unfold avOk
  cases b1 : (decide (as.length = r) && as.all isI) with
  | false =>
    have e := (t1 (some (.dat (sz r c))) (some (.dat (.tuple [.tuple as, .tuple bs])))).2 b1
    have : exec cal sub wf (.for (.tp (.cons (.nm 2) (.cons (.nm 3) .nil))) (.zip (.var 0) (.var 1)) B) [some (.dat (sz r c)), some (.dat (.tuple [.tuple as, .tuple bs])), none, none, none] = .ret (.bool false) := by
      rw [f]; simp [forF, forStep, asgT, asgTs, e]
    rw [ex_seq_ret this]; rfl
  | true =>
    have e := (t1 (some (.dat (sz r c))) (some (.dat (.tuple [.tuple as, .tuple bs])))).1 b1
    cases b2 : (decide (bs.length = c) && bs.all isI) with
    | false =>
      have e' := (t2 (some (.dat (sz r c))) (some (.dat (.tuple [.tuple as, .tuple bs])))).2 b2
      have : exec cal sub wf (.for (.tp (.cons (.nm 2) (.cons (.nm 3) .nil))) (.zip (.var 0) (.var 1)) B) [some (.dat (sz r c)), some (.dat (.tuple [.tuple as, .tuple bs])), none, none, none] = .ret (.bool false) := by
        rw [f]; simp [forF, forStep, asgT, asgTs, e, e']
      rw [ex_seq_ret this]; rfl
    | true =>
      have e' := (t2 (some (.dat (sz r c))) (some (.dat (.tuple [.tuple as, .tuple bs])))).1 b2
      have : exec cal sub wf (.for (.tp (.cons (.nm 2) (.cons (.nm 3) .nil))) (.zip (.var 0) (.var 1)) B) [some (.dat (sz r c)), some (.dat (.tuple [.tuple as, .tuple bs])), none, none, none] = .nxt [some (.dat (sz r c)), some (.dat (.tuple [.tuple as, .tuple bs])), some (.dat (.int c)), some (.dat (.tuple bs)), none] := by
        rw [f]; simp [forF, forStep, asgT, asgTs, e, e']
      rw [ex_seq this]; rfl
/-! #### the law's own test -/
def agI : S := (.ite (.or (.not (.blt (.isi .int) (.cons (.var 3) .nil))) (.blt (.isi .bool) (.cons (.var 3) .nil))) (.ret (.lit (.bool false))) .skip)
def agB : S := (.seq (.ite (.or (.not (.blt (.isi .tuple) (.cons (.ix (.var 1) (.var 2)) .nil))) (.cmp .ne (.blt .len (.cons (.ix (.var 1) (.var 2)) .nil)) (.ix (.var 0) (.var 2)))) (.ret (.lit (.bool false))) .skip) (.for (.nm 3) (.seq (.ix (.var 1) (.var 2))) agI))
omit h in
theorem ag_is : p__law_are_given = (.seq (.ite (.or (.not (.blt (.isi .tuple) (.cons (.var 1) .nil))) (.cmp .ne (.blt .len (.cons (.var 1) .nil)) (.lit (.int 2)))) (.ret (.lit (.bool false))) .skip) (.seq (.for (.nm 2) (.rng (.lit (.int 2))) agB) (.ret (.lit (.bool true))))) := rfl
omit h in
theorem agInner {cal : Str → List D → R D} {x y z o : Option Sl} {ds : List D} (hp : ∀ d ∈ ds, plain d = true) :
    (ds.all isI = true → ∃ o', forF (forStep cal sub wf (.nm 3) agI) ds [x, y, z, o] = .nxt [x, y, z, o']) ∧ (ds.all isI = false → forF (forStep cal sub wf (.nm 3) agI) ds [x, y, z, o] = .ret (.bool false)) := by
  induction ds generalizing o with
  | nil => exact ⟨fun _ => ⟨o, rfl⟩, fun e => by simp at e⟩
  | cons d ds ih =>
    have ih' := ih (o := some (.dat d)) (fun e he => hp e (by simp [he]))
    have hq := hp d (by simp)
    have fs : forStep cal sub wf (.nm 3) agI d [x, y, z, o] = exec cal sub wf agI [x, y, z, some (.dat d)] := fs_nm (by simp)
    cases hi : isI d with
    | true =>
      have st : exec cal sub wf agI [x, y, z, some (.dat d)] = .nxt [x, y, z, some (.dat d)] := by
        cases d <;> simp [isI] at hi <;> simp [agI, eqS_ii, eqS_ss, exec, ev, evs, evo, evt, evi, startX, coS, coB, ltS, leS, gtS, geS, isS, isNone, bfS, tyS, ixS, boS, addS, subS, mulS, modS, fdivS, powS, negS, truth, truR, O.res, asgT, asgTs, mkT, mkL, optI, slS, frzAt, frzS, R.out, seqS]
      simp only [List.all_cons, hi, Bool.true_and, forF, fs, st]
      exact ih'
    | false =>
      have st : exec cal sub wf agI [x, y, z, some (.dat d)] = .ret (.bool false) := by
        cases d <;> simp [isI] at hi <;> simp [plain] at hq <;> simp [agI, eqS_ii, eqS_ss, exec, ev, evs, evo, evt, evi, startX, coS, coB, ltS, leS, gtS, geS, isS, isNone, bfS, tyS, ixS, boS, addS, subS, mulS, modS, fdivS, powS, negS, truth, truR, O.res, asgT, asgTs, mkT, mkL, optI, slS, frzAt, frzS, R.out, seqS]
      simp only [List.all_cons, hi, Bool.false_and, forF, fs, st]
      exact ⟨fun e => by simp at e, fun _ => by simp⟩
omit h in
theorem agTurn {cal : Str → List D → R D} {s v o : Option Sl} {z : D} {n : Nat} {ds : List D} (hp : ∀ d ∈ ds, plain d = true) (es : ev cal (.ix (.var 0) (.var 2)) [s, v, some (.dat z), o] = .val (.int n)) (ed : ev cal (.ix (.var 1) (.var 2)) [s, v, some (.dat z), o] = .val (.tuple ds)) :
    (((decide (ds.length = n)) && ds.all isI) = true → ∃ o', exec cal sub wf agB [s, v, some (.dat z), o] = .nxt [s, v, some (.dat z), o']) ∧
    (((decide (ds.length = n)) && ds.all isI) = false → exec cal sub wf agB [s, v, some (.dat z), o] = .ret (.bool false)) := by
  have i1 : evi cal (.seq (.ix (.var 1) (.var 2))) [s, v, some (.dat z), o] = .val ds := by simp only [evi, ed, R.bnd_val, seqS, ofO_some]
  have f : exec cal sub wf (.for (.nm 3) (.seq (.ix (.var 1) (.var 2))) agI) [s, v, some (.dat z), o] = forF (forStep cal sub wf (.nm 3) agI) ds [s, v, some (.dat z), o] := ex_for i1
  have g := agInner (cal := cal) (x := s) (y := v) (z := some (.dat z)) (o := o) hp
  unfold agB
  generalize Ex.ix (.var 1) (.var 2) = E1 at *
  generalize Ex.ix (.var 0) (.var 2) = E0 at *
  by_cases a : ds.length = n
  · have s1 : exec cal sub wf (.ite (.or (.not (.blt (.isi .tuple) (.cons E1 .nil))) (.cmp .ne (.blt .len (.cons E1 .nil)) E0)) (.ret (.lit (.bool false))) .skip) [s, v, some (.dat z), o] = .nxt [s, v, some (.dat z), o] := by
      have a' : (ds.length : Int) = n := by omega
      simp [eqS_ii, eqS_ss, exec, ev, evs, evo, evt, evi, startX, coS, coB, ltS, leS, gtS, geS, isS, isNone, bfS, tyS, ixS, boS, addS, subS, mulS, modS, fdivS, powS, negS, truth, truR, O.res, asgT, asgTs, mkT, mkL, optI, slS, frzAt, frzS, R.out, seqS, es, ed, a']
    rw [ex_seq s1, f]
    simp only [a, decide_true, Bool.true_and]
    exact g
  · have s1 : exec cal sub wf (.ite (.or (.not (.blt (.isi .tuple) (.cons E1 .nil))) (.cmp .ne (.blt .len (.cons E1 .nil)) E0)) (.ret (.lit (.bool false))) .skip) [s, v, some (.dat z), o] = .ret (.bool false) := by
      have a' : ((ds.length : Int) == (n : Int)) = false := by rw [beq_eq_false_iff_ne]; omega
      simp [eqS_ii, eqS_ss, exec, ev, evs, evo, evt, evi, startX, coS, coB, ltS, leS, gtS, geS, isS, isNone, bfS, tyS, ixS, boS, addS, subS, mulS, modS, fdivS, powS, negS, truth, truR, O.res, asgT, asgTs, mkT, mkL, optI, slS, frzAt, frzS, R.out, seqS, es, ed, a']
    rw [ex_seq_ret s1]
    simp [a]
theorem law_are_given_two {r c : Nat} {as bs : List D} (h3 : ∀ d ∈ as, plain d = true) (h4 : ∀ d ∈ bs, plain d = true) : call sub wf tbl (k + 1) "_law_are_given" [sz r c, .tuple [.tuple as, .tuple bs]] = .val (.bool (avOk r c as bs)) := by
  rw [call_eq h.t__law_are_given rfl, ag_is]
  generalize hc : call sub wf tbl k = cal
  have s1 : exec cal sub wf (.ite (.or (.not (.blt (.isi .tuple) (.cons (.var 1) .nil))) (.cmp .ne (.blt .len (.cons (.var 1) .nil)) (.lit (.int 2)))) (.ret (.lit (.bool false))) .skip) (startX 4 [sz r c, .tuple [.tuple as, .tuple bs]]) = .nxt [some (.dat (sz r c)), some (.dat (.tuple [.tuple as, .tuple bs])), none, none] := by
    simp [eqS_ii, eqS_ss, exec, ev, evs, evo, evt, evi, startX, coS, coB, ltS, leS, gtS, geS, isS, isNone, bfS, tyS, ixS, boS, addS, subS, mulS, modS, fdivS, powS, negS, truth, truR, O.res, asgT, asgTs, mkT, mkL, optI, slS, frzAt, frzS, R.out, seqS, List.replicate]
  rw [ex_seq s1]
  have i1 : evi cal (.rng (.lit (.int 2))) [some (.dat (sz r c)), some (.dat (.tuple [.tuple as, .tuple bs])), none, none] = .val [.int 0, .int 1] := by kernel_rfl
  have f := ex_for (s := sub) (w := wf) (b := agB) (t := .nm 2) i1
  have t1 := fun o => agTurn (cal := cal) (s := some (.dat (sz r c))) (v := some (.dat (.tuple [.tuple as, .tuple bs]))) (o := o) (z := .int 0) (n := r) h3 rfl rfl
  have t2 := fun o => agTurn (cal := cal) (s := some (.dat (sz r c))) (v := some (.dat (.tuple [.tuple as, .tuple bs]))) (o := o) (z := .int 1) (n := c) h4 rfl rfl
  generalize agB = B at f t1 t2 ⊢
  unfold avOk
  cases b1 : (decide (as.length = r) && as.all isI) with
  | false =>
    have e := (t1 none).2 b1
    have : exec cal sub wf (.for (.nm 2) (.rng (.lit (.int 2))) B) [some (.dat (sz r c)), some (.dat (.tuple [.tuple as, .tuple bs])), none, none] = .ret (.bool false) := by
      rw [f]; simp [forF, forStep, asgT, e]
    rw [ex_seq_ret this]; rfl
  | true =>
    obtain ⟨o1, e⟩ := (t1 none).1 b1
    cases b2 : (decide (bs.length = c) && bs.all isI) with
    | false =>
      have e' := (t2 o1).2 b2
      have : exec cal sub wf (.for (.nm 2) (.rng (.lit (.int 2))) B) [some (.dat (sz r c)), some (.dat (.tuple [.tuple as, .tuple bs])), none, none] = .ret (.bool false) := by
        rw [f]; simp [forF, forStep, asgT, e, e']
      rw [ex_seq_ret this]; rfl
    | true =>
      obtain ⟨o2, e'⟩ := (t2 o1).1 b2
      have : exec cal sub wf (.for (.nm 2) (.rng (.lit (.int 2))) B) [some (.dat (sz r c)), some (.dat (.tuple [.tuple as, .tuple bs])), none, none] = .nxt [some (.dat (sz r c)), some (.dat (.tuple [.tuple as, .tuple bs])), some (.dat (.int 1)), o2] := by
        rw [f]; simp [forF, forStep, asgT, e, e']
      rw [ex_seq this]; rfl
/-- what is not a tuple of two -/
def badV : D → Bool
  | .none => true
  | .list _ => true
  | .tuple [_] => true
  | _ => false
theorem bad_values {s v : D} (hv : badV v = true) : call sub wf tbl (k + 1) "are_values" [s, v] = .val (.bool false) ∧ call sub wf tbl (k + 1) "_law_are_given" [s, v] = .val (.bool false) := by
  rw [call_eq h.t_are_values rfl, call_eq h.t__law_are_given rfl, av_is, ag_is]
  generalize avB = B1
  generalize agB = B2
  rcases v with _ | _ | _ | _ | _ | (_ | ⟨x, _ | ⟨y, ys⟩⟩) | _ <;> simp [badV] at hv <;> simp [eqS_ii, eqS_ss, exec, ev, evs, evo, evt, evi, startX, coS, coB, ltS, leS, gtS, geS, isS, isNone, bfS, tyS, ixS, boS, addS, subS, mulS, modS, fdivS, powS, negS, truth, truR, O.res, asgT, asgTs, mkT, mkL, optI, slS, frzAt, frzS, R.out, seqS]
end
end Pg

set_option linter.all false
set_option maxRecDepth 100000
set_option maxHeartbeats 4000000
namespace Pg
open PySem hiding call exec
open Mp
def cvl (us vs : List Int) (p : Nat × Nat) : Int := us.getD p.1 0 + vs.getD p.2 0
def hold (us vs : List Int) (x : C3) : Bool := match x.k with
  | .eq => cvl us vs x.a - cvl us vs x.b == 0
  | .ab => decide (0 < cvl us vs x.a - cvl us vs x.b)
  | .le => decide (0 ≤ cvl us vs x.a - cvl us vs x.b)
theorem atI {us : List Int} {i : Nat} (hi : i < us.length) : atX (intz us) (i : Int) = some (.int (us.getD i 0)) := by
  unfold atX
  rw [if_pos (by omega), Int.toNat_natCast, List.getElem?_map, List.getElem?_eq_getElem hi]
  simp [List.getD, List.getElem?_eq_getElem hi]
theorem kd_eq (k : Kd) : (k.s == ("equal" : Str)) = (match k with | .eq => true | _ => false) := by cases k <;> kernel_rfl
theorem kd_ab (k : Kd) : (k.s == ("above" : Str)) = (match k with | .ab => true | _ => false) := by cases k <;> kernel_rfl
theorem kd_le (k : Kd) : (k.s == ("at least" : Str)) = (match k with | .le => true | _ => false) := by cases k <;> kernel_rfl
section
variable {tbl : Str → Option Df} (h : Std tbl) {k : Nat}
include h
theorem cell_value_of {us vs : List Int} {p : Nat × Nat} (h1 : p.1 < us.length) (h2 : p.2 < vs.length) : call sub wf tbl (k + 1) "cell_value" [vals us vs, celD p] = .val (.int (cvl us vs p)) := by
  rw [call_eq h.t_cell_value rfl]
  have a := atI h1
  have b := atI h2
  unfold vals celD cel cvl
  generalize intz us = U at a ⊢
  generalize intz vs = V at b ⊢
  generalize (p.1 : Int) = i at a ⊢
  generalize (p.2 : Int) = j at b ⊢
  simp [p_cell_value, eqS_ii, eqS_ss, exec, ev, evs, evo, evt, evi, startX, coS, coB, ltS, leS, gtS, geS, isS, isNone, bfS, tyS, ixS, boS, addS, subS, mulS, modS, fdivS, powS, negS, truth, truR, O.res, asgT, asgTs, mkT, mkL, optI, slS, frzAt, frzS, R.out, seqS, at0, at1, a, b]
theorem law_value_of {us vs : List Int} {p : Nat × Nat} (h1 : p.1 < us.length) (h2 : p.2 < vs.length) : call sub wf tbl (k + 1) "_law_value" [vals us vs, celD p] = .val (.int (cvl us vs p)) := by
  rw [call_eq h.t__law_value rfl]
  have a := atI h1
  have b := atI h2
  unfold vals celD cel cvl
  generalize intz us = U at a ⊢
  generalize intz vs = V at b ⊢
  generalize (p.1 : Int) = i at a ⊢
  generalize (p.2 : Int) = j at b ⊢
  simp [p__law_value, eqS_ii, eqS_ss, exec, ev, evs, evo, evt, evi, startX, coS, coB, ltS, leS, gtS, geS, isS, isNone, bfS, tyS, ixS, boS, addS, subS, mulS, modS, fdivS, powS, negS, truth, truR, O.res, asgT, asgTs, mkT, mkL, optI, slS, frzAt, frzS, R.out, seqS, at0, at1, a, b]
theorem holds_of {us vs : List Int} {x : C3} (hx : okC us.length vs.length x) : call sub wf tbl (k + 2) "holds" [vals us vs, cmpD x] = .val (.bool (hold us vs x)) := by
  rw [call_eq h.t_holds rfl]
  obtain ⟨g1, g2, g3, g4, _⟩ := hx
  have a := cell_value_of h (k := k) g1 g2
  have b := cell_value_of h (k := k) g3 g4
  have q1 := kd_eq x.k
  have q2 := kd_ab x.k
  unfold cmpD hold
  generalize x.k.s = ks at q1 q2 ⊢
  generalize celD x.a = ca at a ⊢
  generalize celD x.b = cb at b ⊢
  generalize vals us vs = vv at a b ⊢
  generalize cvl us vs x.a = va at a ⊢
  generalize cvl us vs x.b = vb at b ⊢
  generalize x.k = kk at q1 q2 ⊢
  cases kk <;> simp only at q1 q2 <;> simp [p_holds, eqS_ii, eqS_ss, exec, ev, evs, evo, evt, evi, startX, coS, coB, ltS, leS, gtS, geS, isS, isNone, bfS, tyS, ixS, boS, addS, subS, mulS, modS, fdivS, powS, negS, truth, truR, O.res, asgT, asgTs, mkT, mkL, optI, slS, frzAt, frzS, R.out, seqS, at30, at31, at32, a, b, q1, q2]
theorem law_holds_of {us vs : List Int} {x : C3} (h1 : x.a.1 < us.length) (h2 : x.a.2 < vs.length) (h3 : x.b.1 < us.length) (h4 : x.b.2 < vs.length) : call sub wf tbl (k + 2) "_law_holds" [vals us vs, cmpD x] = .val (.bool (hold us vs x)) := by
  rw [call_eq h.t__law_holds rfl]
  have a := law_value_of h (k := k) h1 h2
  have b := law_value_of h (k := k) h3 h4
  have q1 := kd_eq x.k
  have q3 := kd_le x.k
  unfold cmpD hold
  generalize x.k.s = ks at q1 q3 ⊢
  generalize celD x.a = ca at a ⊢
  generalize celD x.b = cb at b ⊢
  generalize vals us vs = vv at a b ⊢
  generalize cvl us vs x.a = va at a ⊢
  generalize cvl us vs x.b = vb at b ⊢
  generalize x.k = kk at q1 q3 ⊢
  have t0 : va - vb = 0 ∨ va - vb < 0 ∨ 0 < va - vb := by omega
  generalize hg : va - vb = gp at t0
  cases kk <;> simp only at q1 q3
  · by_cases z : 0 < gp
    · simp [p__law_holds, eqS_ii, eqS_ss, exec, ev, evs, evo, evt, evi, startX, coS, coB, ltS, leS, gtS, geS, isS, isNone, bfS, tyS, ixS, boS, addS, subS, mulS, modS, fdivS, powS, negS, truth, truR, O.res, asgT, asgTs, mkT, mkL, optI, slS, frzAt, frzS, R.out, seqS, at30, at31, at32, a, b, q1, q3, hg, z]
    · by_cases z' : gp = 0
      · simp [p__law_holds, eqS_ii, eqS_ss, exec, ev, evs, evo, evt, evi, startX, coS, coB, ltS, leS, gtS, geS, isS, isNone, bfS, tyS, ixS, boS, addS, subS, mulS, modS, fdivS, powS, negS, truth, truR, O.res, asgT, asgTs, mkT, mkL, optI, slS, frzAt, frzS, R.out, seqS, at30, at31, at32, a, b, q1, q3, hg, z']
      · have z'' : (gp == 0) = false := by simp [z']
        simp [p__law_holds, eqS_ii, eqS_ss, exec, ev, evs, evo, evt, evi, startX, coS, coB, ltS, leS, gtS, geS, isS, isNone, bfS, tyS, ixS, boS, addS, subS, mulS, modS, fdivS, powS, negS, truth, truR, O.res, asgT, asgTs, mkT, mkL, optI, slS, frzAt, frzS, R.out, seqS, at30, at31, at32, a, b, q1, q3, hg, z, z'']
  · by_cases z : 0 < gp
    · have z1 : 0 ≤ gp := by omega
      simp [p__law_holds, eqS_ii, eqS_ss, exec, ev, evs, evo, evt, evi, startX, coS, coB, ltS, leS, gtS, geS, isS, isNone, bfS, tyS, ixS, boS, addS, subS, mulS, modS, fdivS, powS, negS, truth, truR, O.res, asgT, asgTs, mkT, mkL, optI, slS, frzAt, frzS, R.out, seqS, at30, at31, at32, a, b, q1, q3, hg, z, z1]
    · by_cases z' : gp = 0
      · simp [p__law_holds, eqS_ii, eqS_ss, exec, ev, evs, evo, evt, evi, startX, coS, coB, ltS, leS, gtS, geS, isS, isNone, bfS, tyS, ixS, boS, addS, subS, mulS, modS, fdivS, powS, negS, truth, truR, O.res, asgT, asgTs, mkT, mkL, optI, slS, frzAt, frzS, R.out, seqS, at30, at31, at32, a, b, q1, q3, hg, z']
      · have z'' : (gp == 0) = false := by simp [z']
        have z1 : ¬ 0 ≤ gp := by omega
        simp [p__law_holds, eqS_ii, eqS_ss, exec, ev, evs, evo, evt, evi, startX, coS, coB, ltS, leS, gtS, geS, isS, isNone, bfS, tyS, ixS, boS, addS, subS, mulS, modS, fdivS, powS, negS, truth, truR, O.res, asgT, asgTs, mkT, mkL, optI, slS, frzAt, frzS, R.out, seqS, at30, at31, at32, a, b, q1, q3, hg, z, z'', z1]
  · simp [p__law_holds, eqS_ii, eqS_ss, exec, ev, evs, evo, evt, evi, startX, coS, coB, ltS, leS, gtS, geS, isS, isNone, bfS, tyS, ixS, boS, addS, subS, mulS, modS, fdivS, powS, negS, truth, truR, O.res, asgT, asgTs, mkT, mkL, optI, slS, frzAt, frzS, R.out, seqS, at30, at31, at32, a, b, q1, q3, hg]
/-! ### agreement -/
def agE : Ex := .lc (.nm 3) (.seq (.var 1)) (.som (.not (.call "holds" (.cons (.var 2) (.cons (.var 3) .nil))))) (.var 3) [3]
omit h in
theorem agr_is : p_agrees = (.seq (.drop (.call "check_comparisons" (.cons (.var 0) (.cons (.var 1) .nil)))) (.ret (.and (.call "are_values" (.cons (.var 0) (.cons (.var 2) .nil))) (.not agE)))) := rfl
omit h in
theorem agEv {cal : Str → List D → R D} {s v : D} {xs : List C3} {q : C3 → Bool} (hl : xs.length ≤ 12) (hp : ∀ x ∈ xs, cal "holds" [v, cmpD x] = .val (.bool (q x))) : ∃ ys, ev cal agE [some (.dat s), some (.dat (.tuple (xs.map cmpD))), some (.dat v), none] = .val (.list ys) ∧ ys.isEmpty = xs.all q := by
  have i1 : evi cal (.seq (.var 1)) [some (.dat s), some (.dat (.tuple (xs.map cmpD))), some (.dat v), none] = .val (xs.map cmpD) := by
    generalize xs.map cmpD = ds
    simp [eqS_ii, eqS_ss, exec, ev, evs, evo, evt, evi, startX, coS, coB, ltS, leS, gtS, geS, isS, isNone, bfS, tyS, ixS, boS, addS, subS, mulS, modS, fdivS, powS, negS, truth, truR, O.res, asgT, asgTs, mkT, mkL, optI, slS, frzAt, frzS, R.out, seqS]
  have key : ∀ (ρ : Rho), (∀ x ∈ xs, lcS cal (.nm 3) (.som (.not (.call "holds" (.cons (.var 2) (.cons (.var 3) .nil))))) (.var 3) ρ (cmpD x) = .val (if q x then [] else [cmpD x])) → ∃ ys, lcF (lcS cal (.nm 3) (.som (.not (.call "holds" (.cons (.var 2) (.cons (.var 3) .nil))))) (.var 3) ρ) (xs.map cmpD) = .val ys ∧ ys.length ≤ xs.length ∧ ys.isEmpty = xs.all q := by
    intro ρ
    clear hl hp i1
    generalize lcS cal (.nm 3) (.som (.not (.call "holds" (.cons (.var 2) (.cons (.var 3) .nil))))) (.var 3) ρ = st
    intro hs
    induction xs with
    | nil => exact ⟨[], rfl, by simp, by simp⟩
    | cons x xs ih =>
      obtain ⟨ys, e1, e2, e3⟩ := ih (fun y hy => hs y (by simp [hy]))
      have hx := hs x (by simp)
      refine ⟨(if q x then [] else [cmpD x]) ++ ys, by simp only [List.map_cons, lcF, hx, e1], ?_, ?_⟩
      · cases q x <;> simp <;> omega
      · rw [List.all_cons, ← e3]
        cases e : q x <;> simp
  obtain ⟨ys, e1, e2, e3⟩ := key (wipeX [some (.dat s), some (.dat (.tuple (xs.map cmpD))), some (.dat v), none] [3]) (fun x hx => by
    have := hp x hx
    generalize xs.map cmpD = ds
    generalize cmpD x = d at this ⊢
    cases e : q x <;> simp [e] at this <;> simp [lcS, eqS_ii, eqS_ss, exec, ev, evs, evo, evt, evi, startX, coS, coB, ltS, leS, gtS, geS, isS, isNone, bfS, tyS, ixS, boS, addS, subS, mulS, modS, fdivS, powS, negS, truth, truR, O.res, asgT, asgTs, mkT, mkL, optI, slS, frzAt, frzS, R.out, seqS, wipeX, this])
  exact ⟨ys, ev_lcS i1 e1 (le_lim (by omega)), e3⟩
theorem comps_ok {r c : Nat} {xs : List C3} (hx : ∀ x ∈ xs, okC r c x) (hl : xs.length ≤ 12) : call sub wf tbl (k + 5) "are_comparisons" [sz r c, .tuple (xs.map cmpD)] = .val (.bool true) := by
  have := are_comps h (k := k) (s := sz r c) (ds := xs.map cmpD) (p := fun _ => true) (by simpa using hl) (fun d hd => by
    obtain ⟨x, hm, rfl⟩ := List.mem_map.mp hd
    exact is_comp_ok h (hx x hm))
  rw [this]; simp
theorem agrees_bad {r c : Nat} (h1 : 1 ≤ r) (h2 : r ≤ 4) (h3 : 1 ≤ c) (h4 : c ≤ 4) {xs : List C3} (hx : ∀ x ∈ xs, okC r c x) (hl : xs.length ≤ 12) {v : D} (hv : call sub wf tbl (k + 6) "are_values" [sz r c, v] = .val (.bool false)) : call sub wf tbl (k + 7) "agrees" [sz r c, .tuple (xs.map cmpD), v] = .val (.bool false) := by
  rw [call_eq h.t_agrees rfl, agr_is]
  have a := check_comps h (k := k) h1 h2 h3 h4 (comps_ok h hx hl)
  rw [if_pos rfl] at a
  generalize agE = E
  generalize xs.map cmpD = ds at a ⊢
  generalize sz r c = s at a hv ⊢
  simp [eqS_ii, eqS_ss, exec, ev, evs, evo, evt, evi, startX, coS, coB, ltS, leS, gtS, geS, isS, isNone, bfS, tyS, ixS, boS, addS, subS, mulS, modS, fdivS, powS, negS, truth, truR, O.res, asgT, asgTs, mkT, mkL, optI, slS, frzAt, frzS, R.out, seqS, a, hv]
theorem agrees_good {xs : List C3} {us vs : List Int} (h1 : 1 ≤ us.length) (h2 : us.length ≤ 4) (h3 : 1 ≤ vs.length) (h4 : vs.length ≤ 4) (hx : ∀ x ∈ xs, okC us.length vs.length x) (hl : xs.length ≤ 12) (hv : call sub wf tbl (k + 6) "are_values" [sz us.length vs.length, vals us vs] = .val (.bool true)) : call sub wf tbl (k + 7) "agrees" [sz us.length vs.length, .tuple (xs.map cmpD), vals us vs] = .val (.bool (xs.all (hold us vs))) := by
  rw [call_eq h.t_agrees rfl, agr_is]
  have a := check_comps h (k := k) h1 h2 h3 h4 (comps_ok h hx hl)
  rw [if_pos rfl] at a
  obtain ⟨ys, e1, e2⟩ := agEv (cal := call sub wf tbl (k + 6)) (s := sz us.length vs.length) (v := vals us vs) hl (q := hold us vs) (fun x hm => holds_of h (k := k + 4) (hx x hm))
  rw [← e2]
  generalize agE = E at e1 ⊢
  generalize xs.map cmpD = ds at a e1 ⊢
  generalize sz us.length vs.length = s at a hv e1 ⊢
  generalize vals us vs = v at hv e1 ⊢
  simp [eqS_ii, eqS_ss, exec, ev, evs, evo, evt, evi, startX, coS, coB, ltS, leS, gtS, geS, isS, isNone, bfS, tyS, ixS, boS, addS, subS, mulS, modS, fdivS, powS, negS, truth, truR, O.res, asgT, asgTs, mkT, mkL, optI, slS, frzAt, frzS, R.out, seqS, a, hv, e1, List.replicate]
def laB : S := .ite (.not (.call "_law_holds" (.cons (.var 2) (.cons (.var 3) .nil)))) (.ret (.lit (.bool false))) .skip
omit h in
theorem la_is : p__law_agree = (.seq (.ite (.not (.call "_law_are_given" (.cons (.var 0) (.cons (.var 2) .nil)))) (.ret (.lit (.bool false))) .skip) (.seq (.for (.nm 3) (.seq (.var 1)) laB) (.ret (.lit (.bool true))))) := rfl
theorem law_agree_bad {s d v : D} (hv : call sub wf tbl (k + 6) "_law_are_given" [s, v] = .val (.bool false)) : call sub wf tbl (k + 7) "_law_agree" [s, d, v] = .val (.bool false) := by
  rw [call_eq h.t__law_agree rfl, la_is]
  generalize laB = B
  simp [eqS_ii, eqS_ss, exec, ev, evs, evo, evt, evi, startX, coS, coB, ltS, leS, gtS, geS, isS, isNone, bfS, tyS, ixS, boS, addS, subS, mulS, modS, fdivS, powS, negS, truth, truR, O.res, asgT, asgTs, mkT, mkL, optI, slS, frzAt, frzS, R.out, seqS, hv]
omit h in
theorem laFor {cal : Str → List D → R D} {s t o : Option Sl} {v : D} {xs : List C3} {q : C3 → Bool} (hp : ∀ x ∈ xs, cal "_law_holds" [v, cmpD x] = .val (.bool (q x))) :
    (xs.all q = true → ∃ o', forF (forStep cal sub wf (.nm 3) laB) (xs.map cmpD) [s, t, some (.dat v), o] = .nxt [s, t, some (.dat v), o']) ∧ (xs.all q = false → forF (forStep cal sub wf (.nm 3) laB) (xs.map cmpD) [s, t, some (.dat v), o] = .ret (.bool false)) := by
  induction xs generalizing o with
  | nil => exact ⟨fun _ => ⟨o, rfl⟩, fun e => by simp at e⟩
  | cons x xs ih =>
    have ih' := ih (o := some (.dat (cmpD x))) (fun e he => hp e (by simp [he]))
    have hq := hp x (by simp)
    have fs : forStep cal sub wf (.nm 3) laB (cmpD x) [s, t, some (.dat v), o] = exec cal sub wf laB [s, t, some (.dat v), some (.dat (cmpD x))] := fs_nm (by simp)
    cases hi : q x with
    | true =>
      rw [hi] at hq
      have st : exec cal sub wf laB [s, t, some (.dat v), some (.dat (cmpD x))] = .nxt [s, t, some (.dat v), some (.dat (cmpD x))] := by
        simp [laB, eqS_ii, eqS_ss, exec, ev, evs, evo, evt, evi, startX, coS, coB, ltS, leS, gtS, geS, isS, isNone, bfS, tyS, ixS, boS, addS, subS, mulS, modS, fdivS, powS, negS, truth, truR, O.res, asgT, asgTs, mkT, mkL, optI, slS, frzAt, frzS, R.out, seqS, hq]
      simp only [List.all_cons, List.map_cons, hi, Bool.true_and, forF, fs, st]
      exact ih'
    | false =>
      rw [hi] at hq
      have st : exec cal sub wf laB [s, t, some (.dat v), some (.dat (cmpD x))] = .ret (.bool false) := by
        simp [laB, eqS_ii, eqS_ss, exec, ev, evs, evo, evt, evi, startX, coS, coB, ltS, leS, gtS, geS, isS, isNone, bfS, tyS, ixS, boS, addS, subS, mulS, modS, fdivS, powS, negS, truth, truR, O.res, asgT, asgTs, mkT, mkL, optI, slS, frzAt, frzS, R.out, seqS, hq]
      simp only [List.all_cons, List.map_cons, hi, Bool.false_and, forF, fs, st]
      exact ⟨fun e => by simp at e, fun _ => by simp⟩
theorem law_agree_good {s : D} {xs : List C3} {us vs : List Int} (hx : ∀ x ∈ xs, okC us.length vs.length x) (hv : call sub wf tbl (k + 6) "_law_are_given" [s, vals us vs] = .val (.bool true)) : call sub wf tbl (k + 7) "_law_agree" [s, .tuple (xs.map cmpD), vals us vs] = .val (.bool (xs.all (hold us vs))) := by
  rw [call_eq h.t__law_agree rfl, la_is]
  have g := laFor (cal := call sub wf tbl (k + 6)) (s := some (.dat s)) (t := some (.dat (.tuple (xs.map cmpD)))) (o := none) (v := vals us vs) (q := hold us vs) (xs := xs) (fun x hm => law_holds_of h (k := k + 4) (hx x hm).1 (hx x hm).2.1 (hx x hm).2.2.1 (hx x hm).2.2.2.1)
  have i1 : evi (call sub wf tbl (k + 6)) (.seq (.var 1)) [some (.dat s), some (.dat (.tuple (xs.map cmpD))), some (.dat (vals us vs)), none] = .val (xs.map cmpD) := by
    generalize xs.map cmpD = ds
    simp [eqS_ii, eqS_ss, exec, ev, evs, evo, evt, evi, startX, coS, coB, ltS, leS, gtS, geS, isS, isNone, bfS, tyS, ixS, boS, addS, subS, mulS, modS, fdivS, powS, negS, truth, truR, O.res, asgT, asgTs, mkT, mkL, optI, slS, frzAt, frzS, R.out, seqS]
  have f := ex_for (s := sub) (w := wf) (b := laB) (t := .nm 3) i1
  generalize laB = B at g f ⊢
  generalize xs.map cmpD = ds at g f i1 ⊢
  generalize vals us vs = v at hv g f i1 ⊢
  have s1 : exec (call sub wf tbl (k + 6)) sub wf (.ite (.not (.call "_law_are_given" (.cons (.var 0) (.cons (.var 2) .nil)))) (.ret (.lit (.bool false))) .skip) (startX 4 [s, .tuple ds, v]) = .nxt [some (.dat s), some (.dat (.tuple ds)), some (.dat v), none] := by
    simp [eqS_ii, eqS_ss, exec, ev, evs, evo, evt, evi, startX, coS, coB, ltS, leS, gtS, geS, isS, isNone, bfS, tyS, ixS, boS, addS, subS, mulS, modS, fdivS, powS, negS, truth, truR, O.res, asgT, asgTs, mkT, mkL, optI, slS, frzAt, frzS, R.out, seqS, hv, List.replicate]
  rw [ex_seq s1]
  cases b : xs.all (hold us vs) with
  | true =>
    obtain ⟨o', e⟩ := g.1 b
    rw [ex_seq (f.trans e)]; rfl
  | false =>
    rw [ex_seq_ret (f.trans (g.2 b))]; rfl
end
end Pg

set_option linter.all false
set_option maxRecDepth 100000
set_option maxHeartbeats 4000000
namespace Pg
open PySem hiding call exec
open Mp
theorem lc_keep {α : Type} {f : α → D} {st : D → R (List D)} {q : α → Bool} {xs : List α} (hs : ∀ x ∈ xs, st (f x) = .val (if q x then [f x] else [])) : lcF st (xs.map f) = .val ((xs.filter q).map f) := by
  induction xs with
  | nil => rfl
  | cons x xs ih =>
    have i := ih (fun y hy => hs y (by simp [hy]))
    have hx := hs x (by simp)
    simp only [List.map_cons, lcF, hx, i]
    cases e : q x <;> simp [e]
def lcIx (n : Int) (v : Nat) : Ex := .ix (.var v) (.bin .mod (.ix (.var 4) (.bin .add (.lit (.int n)) (.bin .mul (.lit (.int 3)) (.var 8)))) (.blt .len (.cons (.var v) .nil)))
def lcO : Ex := .lc (.nm 11) (.seq (.var 6)) (.som (.cmp .ne (.var 11) (.var 9))) (.var 11) [11]
def lcK : Ex := (.ix (.lst (.cons (.lit (.str "above")) (.cons (.lit (.str "above")) (.cons (.lit (.str "at least")) (.cons (.lit (.str "equal")) .nil))))) (.bin .mod (.ix (.var 4) (.bin .add (.lit (.int 23)) (.bin .mul (.lit (.int 3)) (.var 8)))) (.lit (.int 4))))
def lcH : Ex := .call "_law_holds" (.cons (.var 5) (.cons (.tup (.cons (.var 9) (.cons (.var 13) (.cons (.var 12) .nil)))) .nil))
def lcT : S := (.ite (.and (.cmp .gt (.bin .mod (.ix (.var 4) (.lit (.int 19))) (.lit (.int 3))) (.lit (.int 0))) (.not lcH)) (.seq (.asg (.tp (.cons (.nm 9) (.cons (.nm 12) .nil))) (.tup (.cons (.var 12) (.cons (.var 9) .nil)))) (.asg (.nm 13) (.ite lcH (.var 13) (.lit (.str "at least"))))) .skip)
def lcA : S := .app 7 (.tup (.cons (.var 9) (.cons (.var 13) (.cons (.var 12) .nil))))
def lcB : S := (.seq (.asg (.nm 9) (lcIx 21 6)) (.seq (.asg (.nm 10) lcO) (.seq (.asg (.nm 12) (lcIx 22 10)) (.seq (.asg (.nm 13) lcK) (.seq lcT lcA)))))
def lcF0 : S := (.ite (.cmp .gt (.blt .len (.cons (.var 6) .nil)) (.lit (.int 1))) (.for (.nm 8) (.rng (.bin .mod (.ix (.var 4) (.lit (.int 20))) (.bin .add (.var 3) (.lit (.int 1))))) lcB) .skip)
theorem lcs_is : p__law_comparisons = (.seq (.asg (.nm 4) (.call "_law_row" (.cons (.var 0) (.cons (.var 1) .nil)))) (.seq (.asg (.nm 5) (.call "_law_given" (.cons (.var 0) (.cons (.var 1) (.cons (.var 2) .nil))))) (.seq (.asg (.nm 6) (.call "_law_cells" (.cons (.var 2) .nil))) (.seq (.own 7 (.lst .nil)) (.seq lcF0 (.frz [7] (.ret (.blt .tuple (.cons (.var 7) .nil))))))))) := rfl
theorem at40 (x y z w : D) : atX [x, y, z, w] 0 = some x := rfl
theorem at41 (x y z w : D) : atX [x, y, z, w] 1 = some y := rfl
theorem at42 (x y z w : D) : atX [x, y, z, w] 2 = some z := rfl
theorem at43 (x y z w : D) : atX [x, y, z, w] 3 = some w := rfl
theorem mo3 (x : Int) : mulOk 3 x = true := by
  unfold mulOk; rw [Bool.or_eq_true]; left; exact decide_eq_true (.inl (by decide))
section
variable {cal : Str → List D → R D} {x0 x1 x2 x3 o9 o10 o11 o12 o13 : Option Sl} {U Ld F : List D} {g : D} {t : Int} {o9' o10' o12' o13' : Option Sl}
theorem ev_ix6 {d n : Int} {x : D} (e : atX U (n + 3 * t) = some (.int d)) (hp : 0 < Ld.length) (e' : atX Ld (d % (Ld.length : Int)) = some x) : ev cal (lcIx n 6) [x0, x1, x2, x3, some (.dat (.list U)), some (.dat g), some (.dat (.list Ld)), some (.own F), some (.dat (.int t)), o9, o10, o11, o12, o13] = .val x := by
  simp [lcIx, eqS_ii, eqS_ss, exec, ev, evs, evo, evt, evi, startX, coS, coB, ltS, leS, gtS, geS, isS, isNone, bfS, tyS, ixS, boS, addS, subS, mulS, modS, fdivS, powS, negS, truth, truR, O.res, asgT, asgTs, mkT, mkL, optI, slS, frzAt, frzS, R.out, seqS, e, e', hp, mo3]
theorem ev_ix10 {d n : Int} {x : D} {c6 : Option Sl} (e : atX U (n + 3 * t) = some (.int d)) (hp : 0 < Ld.length) (e' : atX Ld (d % (Ld.length : Int)) = some x) : ev cal (lcIx n 10) [x0, x1, x2, x3, some (.dat (.list U)), some (.dat g), c6, some (.own F), some (.dat (.int t)), o9, some (.dat (.list Ld)), o11, o12, o13] = .val x := by
  simp [lcIx, eqS_ii, eqS_ss, exec, ev, evs, evo, evt, evi, startX, coS, coB, ltS, leS, gtS, geS, isS, isNone, bfS, tyS, ixS, boS, addS, subS, mulS, modS, fdivS, powS, negS, truth, truR, O.res, asgT, asgTs, mkT, mkL, optI, slS, frzAt, frzS, R.out, seqS, e, e', hp, mo3]
theorem ev_kd {d : Int} (e : atX U (23 + 3 * t) = some (.int d)) : ∃ kd : Kd, ev cal lcK [x0, x1, x2, x3, some (.dat (.list U)), some (.dat g), some (.dat (.list Ld)), some (.own F), some (.dat (.int t)), o9, o10, o11, o12, o13] = .val (.str kd.s) := by
  have l4 : (4 : Nat) ≤ lim := by decide
  have m : d % 4 = 0 ∨ d % 4 = 1 ∨ d % 4 = 2 ∨ d % 4 = 3 := by omega
  rcases m with m | m | m | m
  · exact ⟨.ab, by simp [lcK, eqS_ii, eqS_ss, exec, ev, evs, evo, evt, evi, startX, coS, coB, ltS, leS, gtS, geS, isS, isNone, bfS, tyS, ixS, boS, addS, subS, mulS, modS, fdivS, powS, negS, truth, truR, O.res, asgT, asgTs, mkT, mkL, optI, slS, frzAt, frzS, R.out, seqS, e, mo3, m, l4, Kd.s, at40, at41, at42, at43]⟩
  · exact ⟨.ab, by simp [lcK, eqS_ii, eqS_ss, exec, ev, evs, evo, evt, evi, startX, coS, coB, ltS, leS, gtS, geS, isS, isNone, bfS, tyS, ixS, boS, addS, subS, mulS, modS, fdivS, powS, negS, truth, truR, O.res, asgT, asgTs, mkT, mkL, optI, slS, frzAt, frzS, R.out, seqS, e, mo3, m, l4, Kd.s, at40, at41, at42, at43]⟩
  · exact ⟨.le, by simp [lcK, eqS_ii, eqS_ss, exec, ev, evs, evo, evt, evi, startX, coS, coB, ltS, leS, gtS, geS, isS, isNone, bfS, tyS, ixS, boS, addS, subS, mulS, modS, fdivS, powS, negS, truth, truR, O.res, asgT, asgTs, mkT, mkL, optI, slS, frzAt, frzS, R.out, seqS, e, mo3, m, l4, Kd.s, at40, at41, at42, at43]⟩
  · exact ⟨.eq, by simp [lcK, eqS_ii, eqS_ss, exec, ev, evs, evo, evt, evi, startX, coS, coB, ltS, leS, gtS, geS, isS, isNone, bfS, tyS, ixS, boS, addS, subS, mulS, modS, fdivS, powS, negS, truth, truR, O.res, asgT, asgTs, mkT, mkL, optI, slS, frzAt, frzS, R.out, seqS, e, mo3, m, l4, Kd.s, at40, at41, at42, at43]⟩
theorem ev_oth {L : List (Nat × Nat)} (hl : L.length ≤ 100) {p : Nat × Nat} {r4 c5 c7 c8 : Option Sl} : ev cal lcO [x0, x1, x2, x3, r4, c5, some (.dat (.list (L.map celD))), c7, c8, some (.dat (celD p)), o10, o11, o12, o13] = .val (.list ((L.filter fun q => decide (q ≠ p)).map celD)) := by
  have i1 : evi cal (.seq (.var 6)) [x0, x1, x2, x3, r4, c5, some (.dat (.list (L.map celD))), c7, c8, some (.dat (celD p)), o10, o11, o12, o13] = .val (L.map celD) := by
    generalize L.map celD = M
    simp [eqS_ii, eqS_ss, exec, ev, evs, evo, evt, evi, startX, coS, coB, ltS, leS, gtS, geS, isS, isNone, bfS, tyS, ixS, boS, addS, subS, mulS, modS, fdivS, powS, negS, truth, truR, O.res, asgT, asgTs, mkT, mkL, optI, slS, frzAt, frzS, R.out, seqS]
  refine ev_lcS i1 (lc_keep (q := fun q => decide (q ≠ p)) fun x hx => ?_) (le_lim ?_)
  · have e := eqS_int2 x.1 x.2 p.1 p.2
    generalize L.map celD = M
    by_cases hxp : x = p
    · subst hxp
      have e' : eqS (celD x) (celD x) = some true := by
        unfold celD cel; rw [e]; simp
      generalize celD x = X at e' ⊢
      simp [lcS, eqS_ii, eqS_ss, exec, ev, evs, evo, evt, evi, startX, coS, coB, ltS, leS, gtS, geS, isS, isNone, bfS, tyS, ixS, boS, addS, subS, mulS, modS, fdivS, powS, negS, truth, truR, O.res, asgT, asgTs, mkT, mkL, optI, slS, frzAt, frzS, R.out, seqS, wipeX, e']
    · have e' : eqS (celD x) (celD p) = some false := by
        unfold celD cel; rw [e]
        congr 1
        rw [← Bool.not_eq_true]
        intro hh
        apply hxp
        simp at hh
        exact Prod.ext (by omega) (by omega)
      generalize celD x = X at e' ⊢
      generalize celD p = P at e' ⊢
      simp [lcS, eqS_ii, eqS_ss, exec, ev, evs, evo, evt, evi, startX, coS, coB, ltS, leS, gtS, geS, isS, isNone, bfS, tyS, ixS, boS, addS, subS, mulS, modS, fdivS, powS, negS, truth, truR, O.res, asgT, asgTs, mkT, mkL, optI, slS, frzAt, frzS, R.out, seqS, wipeX, e', hxp]
  · rw [List.length_map]
    exact Nat.le_trans (List.length_filter_le _ _) (by omega)
theorem lc_tail {d : Int} {p q : Nat × Nat} {kd : Kd} {w : Nat × Nat → Kd → Nat × Nat → Bool} (e : atX U 19 = some (.int d)) (hF : F.length < 1000) (hw : ∀ (p' q' : Nat × Nat) (kd' : Kd), (p' = p ∧ q' = q) ∨ (p' = q ∧ q' = p) → cal "_law_holds" [g, .tuple [celD p', .str kd'.s, celD q']] = .val (.bool (w p' kd' q'))) :
    ∃ x : C3, ((x.a = p ∧ x.b = q) ∨ (x.a = q ∧ x.b = p)) ∧ ∃ o9 o12 o13, exec cal sub wf (.seq lcT lcA) [x0, x1, x2, x3, some (.dat (.list U)), some (.dat g), some (.dat (.list Ld)), some (.own F), some (.dat (.int t)), some (.dat (celD p)), o10, o11, some (.dat (celD q)), some (.dat (.str kd.s))] = .nxt [x0, x1, x2, x3, some (.dat (.list U)), some (.dat g), some (.dat (.list Ld)), some (.own (F ++ [cmpD x])), some (.dat (.int t)), o9, o10, o11, o12, o13] := by
  have l3 : (3 : Nat) ≤ lim := by decide
  have l2 : (2 : Nat) ≤ lim := by decide
  have lF : F.length < lim := Nat.lt_of_lt_of_le hF (by decide)
  have a1 := hw p q kd (.inl ⟨rfl, rfl⟩)
  have a2 := hw q p kd (.inr ⟨rfl, rfl⟩)
  by_cases m : 0 < d % 3
  · cases b1 : w p kd q with
    | true =>
      rw [b1] at a1
      refine ⟨⟨p, kd, q⟩, .inl ⟨rfl, rfl⟩, some (.dat (celD p)), some (.dat (celD q)), some (.dat (.str kd.s)), ?_⟩
      unfold cmpD
      generalize celD p = P at *
      generalize celD q = Q at *
      generalize kd.s = K at *
      simp [lcT, lcA, lcH, eqS_ii, eqS_ss, exec, ev, evs, evo, evt, evi, startX, coS, coB, ltS, leS, gtS, geS, isS, isNone, bfS, tyS, ixS, boS, addS, subS, mulS, modS, fdivS, powS, negS, truth, truR, O.res, asgT, asgTs, mkT, mkL, optI, slS, frzAt, frzS, R.out, seqS, e, m, a1, l3, lF]
    | false =>
      rw [b1] at a1
      cases b2 : w q kd p with
      | true =>
        rw [b2] at a2
        refine ⟨⟨q, kd, p⟩, .inr ⟨rfl, rfl⟩, some (.dat (celD q)), some (.dat (celD p)), some (.dat (.str kd.s)), ?_⟩
        unfold cmpD
        generalize celD p = P at *
        generalize celD q = Q at *
        generalize kd.s = K at *
        simp [lcT, lcA, lcH, eqS_ii, eqS_ss, exec, ev, evs, evo, evt, evi, startX, coS, coB, ltS, leS, gtS, geS, isS, isNone, bfS, tyS, ixS, boS, addS, subS, mulS, modS, fdivS, powS, negS, truth, truR, O.res, asgT, asgTs, mkT, mkL, optI, slS, frzAt, frzS, R.out, seqS, e, m, a1, a2, l3, l2, lF]
      | false =>
        rw [b2] at a2
        refine ⟨⟨q, .le, p⟩, .inr ⟨rfl, rfl⟩, some (.dat (celD q)), some (.dat (celD p)), some (.dat (.str "at least")), ?_⟩
        unfold cmpD
        generalize celD p = P at *
        generalize celD q = Q at *
        generalize kd.s = K at *
        simp [lcT, lcA, lcH, eqS_ii, eqS_ss, exec, ev, evs, evo, evt, evi, startX, coS, coB, ltS, leS, gtS, geS, isS, isNone, bfS, tyS, ixS, boS, addS, subS, mulS, modS, fdivS, powS, negS, truth, truR, O.res, asgT, asgTs, mkT, mkL, optI, slS, frzAt, frzS, R.out, seqS, e, m, a1, a2, l3, l2, lF, Kd.s]
  · refine ⟨⟨p, kd, q⟩, .inl ⟨rfl, rfl⟩, some (.dat (celD p)), some (.dat (celD q)), some (.dat (.str kd.s)), ?_⟩
    unfold cmpD
    generalize celD p = P at *
    generalize celD q = Q at *
    generalize kd.s = K at *
    simp [lcT, lcA, lcH, eqS_ii, eqS_ss, exec, ev, evs, evo, evt, evi, startX, coS, coB, ltS, leS, gtS, geS, isS, isNone, bfS, tyS, ixS, boS, addS, subS, mulS, modS, fdivS, powS, negS, truth, truR, O.res, asgT, asgTs, mkT, mkL, optI, slS, frzAt, frzS, R.out, seqS, e, m, l3, lF]
theorem mem_at {L : List (Nat × Nat)} {d : Int} (hL : 0 < L.length) : ∃ p ∈ L, atX (L.map celD) (d % ((L.map celD).length : Int)) = some (celD p) := by
  have hz : (0 : Int) < ((L.map celD).length : Int) := by simp; omega
  have g0 := Int.emod_nonneg d (b := ((L.map celD).length : Int)) (by omega)
  have g1 := Int.emod_lt_of_pos d hz
  obtain ⟨x, e, hm⟩ := atX_of g0 g1
  obtain ⟨p, hp, rfl⟩ := List.mem_map.mp hm
  exact ⟨p, hp, e⟩
theorem filt_pos {L : List (Nat × Nat)} (hn : L.Nodup) (hL : 1 < L.length) (p : Nat × Nat) : 0 < (L.filter fun q => decide (q ≠ p)).length := by
  rcases L with _ | ⟨a, _ | ⟨b, L⟩⟩
  · simp at hL
  · simp at hL
  · have hab : a ≠ b := by
      intro e; subst e; simp at hn
    by_cases ha : a = p
    · have hb : b ≠ p := fun e => hab (ha.trans e.symm)
      exact List.length_pos_of_mem (a := b) (List.mem_filter.mpr ⟨by simp, by simpa using hb⟩)
    · exact List.length_pos_of_mem (a := a) (List.mem_filter.mpr ⟨by simp, by simpa using ha⟩)
theorem lc_turn {L : List (Nat × Nat)} (hn : L.Nodup) (hL : 1 < L.length) (hl : L.length ≤ 100) {o8 : Option Sl} {w : Nat × Nat → Kd → Nat × Nat → Bool} (hU : ∀ j : Int, 0 ≤ j → j < 60 → ∃ d, atX U j = some (.int d)) (t0 : 0 ≤ t) (t1 : t < 12) (hF : F.length < 1000) (hw : ∀ (p q : Nat × Nat) (kd : Kd), p ∈ L → q ∈ L → cal "_law_holds" [g, .tuple [celD p, .str kd.s, celD q]] = .val (.bool (w p kd q))) :
    ∃ x : C3, x.a ∈ L ∧ x.b ∈ L ∧ x.a ≠ x.b ∧ ∃ o9 o10 o12 o13, exec cal sub wf lcB [x0, x1, x2, x3, some (.dat (.list U)), some (.dat g), some (.dat (.list (L.map celD))), some (.own F), some (.dat (.int t)), o9', o10', o11, o12', o13'] = .nxt [x0, x1, x2, x3, some (.dat (.list U)), some (.dat g), some (.dat (.list (L.map celD))), some (.own (F ++ [cmpD x])), some (.dat (.int t)), o9, o10, o11, o12, o13] := by
  obtain ⟨d1, u1⟩ := hU (21 + 3 * t) (by omega) (by omega)
  obtain ⟨d2, u2⟩ := hU (22 + 3 * t) (by omega) (by omega)
  obtain ⟨d3, u3⟩ := hU (23 + 3 * t) (by omega) (by omega)
  obtain ⟨d4, u4⟩ := hU 19 (by omega) (by omega)
  obtain ⟨p, hp, e1⟩ := mem_at (L := L) (d := d1) (by omega)
  have fp := filt_pos hn hL p
  obtain ⟨q, hq, e2⟩ := mem_at (L := L.filter fun q => decide (q ≠ p)) (d := d2) fp
  have hq' := List.mem_filter.mp hq
  have hqp : q ≠ p := by simpa using hq'.2
  unfold lcB
  have s1 := ev_ix6 (cal := cal) (x0 := x0) (x1 := x1) (x2 := x2) (x3 := x3) (g := g) (F := F) (o9 := o9') (o10 := o10') (o11 := o11) (o12 := o12') (o13 := o13') u1 (by simp; omega) e1
  have s2 := ev_oth (cal := cal) (x0 := x0) (x1 := x1) (x2 := x2) (x3 := x3) (r4 := some (.dat (.list U))) (c5 := some (.dat g)) (c7 := some (.own F)) (c8 := some (.dat (.int t))) (o10 := o10') (o11 := o11) (o12 := o12') (o13 := o13') hl (p := p)
  have s3 := ev_ix10 (cal := cal) (x0 := x0) (x1 := x1) (x2 := x2) (x3 := x3) (g := g) (F := F) (c6 := some (.dat (.list (L.map celD)))) (o9 := some (.dat (celD p))) (o11 := o11) (o12 := o12') (o13 := o13') u2 (by rw [List.length_map]; exact fp) e2
  obtain ⟨kd, s4⟩ := ev_kd (cal := cal) (x0 := x0) (x1 := x1) (x2 := x2) (x3 := x3) (g := g) (F := F) (Ld := L.map celD) (o9 := some (.dat (celD p))) (o10 := some (.dat (.list ((L.filter fun q => decide (q ≠ p)).map celD)))) (o11 := o11) (o12 := some (.dat (celD q))) (o13 := o13') u3
  obtain ⟨x, hx, o9, o12, o13, s5⟩ := lc_tail (cal := cal) (x0 := x0) (x1 := x1) (x2 := x2) (x3 := x3) (g := g) (F := F) (t := t) (Ld := L.map celD) (o10 := some (.dat (.list ((L.filter fun q => decide (q ≠ p)).map celD)))) (o11 := o11) (p := p) (q := q) (kd := kd) (w := w) u4 hF (fun p' q' kd' hh => by
    rcases hh with ⟨rfl, rfl⟩ | ⟨rfl, rfl⟩
    · exact hw _ _ _ hp hq'.1
    · exact hw _ _ _ hq'.1 hp)
  refine ⟨x, ?_, ?_, ?_, o9, some (.dat (.list ((L.filter fun q => decide (q ≠ p)).map celD))), o12, o13, ?_⟩
  · rcases hx with ⟨e, _⟩ | ⟨e, _⟩ <;> rw [e]
    · exact hp
    · exact hq'.1
  · rcases hx with ⟨_, e⟩ | ⟨_, e⟩ <;> rw [e]
    · exact hq'.1
    · exact hp
  · rcases hx with ⟨e, e'⟩ | ⟨e, e'⟩ <;> rw [e, e']
    · exact fun e => hqp e.symm
    · exact hqp
  · generalize lcIx 21 6 = E1 at s1 ⊢
    generalize lcO = E2 at s2 ⊢
    generalize lcIx 22 10 = E3 at s3 ⊢
    generalize lcK = E4 at s4 ⊢
    generalize S.seq lcT lcA = T at s5 ⊢
    generalize (L.filter fun q => decide (q ≠ p)).map celD = M at s2 s3 s4 s5 ⊢
    generalize L.map celD = N at s1 s2 s3 s4 s5 ⊢
    generalize celD p = P at s1 s2 s3 s4 s5 ⊢
    generalize celD q = Q at s1 s2 s3 s4 s5 ⊢
    generalize kd.s = K at s4 s5 ⊢
    simp only [exec, s1, s2, s3, s4, R.out, asgT, List.length_cons, List.length_nil, List.set_cons_succ, List.set_cons_zero]
    simp [s2, s3, s4, s5]
end
end Pg

set_option linter.all false
set_option maxRecDepth 100000
set_option maxHeartbeats 4000000
namespace Pg
open PySem hiding call exec
open Mp
theorem mem_cells {r c : Nat} {p : Nat × Nat} (hp : p ∈ cellsOf r c) : p.1 < r ∧ p.2 < c := by
  simp only [cellsOf, List.mem_flatMap, List.mem_map, List.mem_range] at hp
  obtain ⟨i, hi, j, hj, rfl⟩ := hp
  exact ⟨hi, hj⟩
theorem cells_nodup {r c : Nat} (h1 : 1 ≤ r) (h2 : r ≤ 4) (h3 : 1 ≤ c) (h4 : c ≤ 4) : (cellsOf r c).Nodup ∧ (cellsOf r c).length ≤ 100 := by
  revert h1 h2 h3 h4
  intro h1 h2 h3 h4
  refine four (P := fun r => (cellsOf r c).Nodup ∧ (cellsOf r c).length ≤ 100) h1 h2 ?_ ?_ ?_ ?_
  all_goals refine four (P := fun c => (cellsOf _ c).Nodup ∧ (cellsOf _ c).length ≤ 100) h3 h4 ?_ ?_ ?_ ?_
  all_goals decide
section
variable {cal : Str → List D → R D} {x0 x1 x2 : Option Sl} {U : List D} {g : D}
theorem lc_loop {L : List (Nat × Nat)} (hn : L.Nodup) (hl : L.length ≤ 100) {m : Nat} (hm : m ≤ 12) {w : Nat × Nat → Kd → Nat × Nat → Bool} (hU : ∀ j : Int, 0 ≤ j → j < 60 → ∃ d, atX U j = some (.int d)) (hw : ∀ (p q : Nat × Nat) (kd : Kd), p ∈ L → q ∈ L → cal "_law_holds" [g, .tuple [celD p, .str kd.s, celD q]] = .val (.bool (w p kd q))) :
    ∃ xs : List C3, (∀ x ∈ xs, x.a ∈ L ∧ x.b ∈ L ∧ x.a ≠ x.b) ∧ xs.length ≤ m ∧ ∃ o8 o9 o10 o11 o12 o13, exec cal sub wf lcF0 [x0, x1, x2, some (.dat (.int m)), some (.dat (.list U)), some (.dat g), some (.dat (.list (L.map celD))), some (.own []), none, none, none, none, none, none] = .nxt [x0, x1, x2, some (.dat (.int m)), some (.dat (.list U)), some (.dat g), some (.dat (.list (L.map celD))), some (.own (xs.map cmpD)), o8, o9, o10, o11, o12, o13] := by
  by_cases hL : 1 < L.length
  · obtain ⟨d, u⟩ := hU 20 (by omega) (by omega)
    have g0 := Int.emod_nonneg d (b := (m : Int) + 1) (by omega)
    have g1 := Int.emod_lt_of_pos d (b := (m : Int) + 1) (by omega)
    obtain ⟨n, hn'⟩ : ∃ n : Nat, (n : Int) = d % ((m : Int) + 1) := ⟨(d % ((m : Int) + 1)).toNat, by omega⟩
    have en : ev cal (.bin .mod (.ix (.var 4) (.lit (.int 20))) (.bin .add (.var 3) (.lit (.int 1)))) [x0, x1, x2, some (.dat (.int m)), some (.dat (.list U)), some (.dat g), some (.dat (.list (L.map celD))), some (.own []), none, none, none, none, none, none] = .val (.int (n : Int)) := by
      rw [hn']
      generalize L.map celD = M
      have q0 : (0 : Int) < (m : Int) + 1 := by omega
      generalize (m : Int) = mm at q0 ⊢
      simp [eqS_ii, eqS_ss, exec, ev, evs, evo, evt, evi, startX, coS, coB, ltS, leS, gtS, geS, isS, isNone, bfS, tyS, ixS, boS, addS, subS, mulS, modS, fdivS, powS, negS, truth, truR, O.res, asgT, asgTs, mkT, mkL, optI, slS, frzAt, frzS, R.out, seqS, u, q0]
    have i1 := evi_rng en (by omega)
    obtain ⟨ρ', f1, xs, o8, o9, o10, o11, o12, o13, f2, f3, f4⟩ := forF_inv (step := forStep cal sub wf (.nm 8) lcB) (xs := rngX 0 n) (fun i ρ => ∃ (xs : List C3) (o8 o9 o10 o11 o12 o13 : Option Sl), ρ = [x0, x1, x2, some (.dat (.int m)), some (.dat (.list U)), some (.dat g), some (.dat (.list (L.map celD))), some (.own (xs.map cmpD)), o8, o9, o10, o11, o12, o13] ∧ xs.length = i ∧ ∀ x ∈ xs, x.a ∈ L ∧ x.b ∈ L ∧ x.a ≠ x.b)
      (ρ := [x0, x1, x2, some (.dat (.int m)), some (.dat (.list U)), some (.dat g), some (.dat (.list (L.map celD))), some (.own []), none, none, none, none, none, none]) ⟨[], none, none, none, none, none, none, rfl, rfl, by simp⟩ (fun i x ρ hx hI => by
        obtain ⟨xs, o8, o9, o10, o11, o12, o13, rfl, h2, h3⟩ := hI
        have hi : i < n := by simpa [rngX] using (List.getElem?_eq_some_iff.mp hx).1
        have hx : x = .int (i : Int) := by
          have : (rngX 0 n)[i]? = some (.int (0 + (i : Int))) := by simp [rngX, hi]
          rw [this] at hx; cases hx; simp
        subst hx
        obtain ⟨y, y1, y2, y3, p9, p10, p12, p13, e⟩ := lc_turn (cal := cal) (x0 := x0) (x1 := x1) (x2 := x2) (x3 := some (.dat (.int m))) (o9' := o9) (o10' := o10) (o11 := o11) (o12' := o12) (o13' := o13) (o8 := none) (t := (i : Int)) (F := xs.map cmpD) hn hL hl hU (by omega) (by omega) (by rw [List.length_map]; omega) hw
        refine ⟨_, (fs_nm (by simp)).trans e, xs ++ [y], _, p9, p10, o11, p12, p13, by rw [List.map_append]; rfl, by simp [h2], fun z hz => ?_⟩
        rcases List.mem_append.mp hz with hz | hz
        · exact h3 z hz
        · simp at hz; subst hz; exact ⟨y1, y2, y3⟩)
    refine ⟨xs, f4, ?_, o8, o9, o10, o11, o12, o13, ?_⟩
    · have : xs.length = n := by simpa [rngX] using f3
      omega
    · subst f2
      have fo := (ex_for (s := sub) (w := wf) (b := lcB) (t := .nm 8) i1).trans f1
      have hL' : (1 : Int) < ((L.map celD).length : Int) := by rw [List.length_map]; omega
      have ec : ev cal (.cmp .gt (.blt .len (.cons (.var 6) .nil)) (.lit (.int 1))) [x0, x1, x2, some (.dat (.int m)), some (.dat (.list U)), some (.dat g), some (.dat (.list (L.map celD))), some (.own []), none, none, none, none, none, none] = .val (.bool true) := by
        generalize L.map celD = M at hL' ⊢
        have : 1 < M.length := by omega
        simp [eqS_ii, eqS_ss, exec, ev, evs, evo, evt, evi, startX, coS, coB, ltS, leS, gtS, geS, isS, isNone, bfS, tyS, ixS, boS, addS, subS, mulS, modS, fdivS, powS, negS, truth, truR, O.res, asgT, asgTs, mkT, mkL, optI, slS, frzAt, frzS, R.out, seqS, hL', this]
      unfold lcF0
      rw [ex_ite ec rfl, if_pos rfl]
      exact fo
  · refine ⟨[], by simp, by simp, none, none, none, none, none, none, ?_⟩
    have hL' : ¬ (1 : Int) < ((L.map celD).length : Int) := by rw [List.length_map]; omega
    have ec : ev cal (.cmp .gt (.blt .len (.cons (.var 6) .nil)) (.lit (.int 1))) [x0, x1, x2, some (.dat (.int m)), some (.dat (.list U)), some (.dat g), some (.dat (.list (L.map celD))), some (.own []), none, none, none, none, none, none] = .val (.bool false) := by
      generalize L.map celD = M at hL' ⊢
      have : ¬ 1 < M.length := by omega
      simp [eqS_ii, eqS_ss, exec, ev, evs, evo, evt, evi, startX, coS, coB, ltS, leS, gtS, geS, isS, isNone, bfS, tyS, ixS, boS, addS, subS, mulS, modS, fdivS, powS, negS, truth, truR, O.res, asgT, asgTs, mkT, mkL, optI, slS, frzAt, frzS, R.out, seqS, hL', this]
    unfold lcF0
    rw [ex_ite ec rfl]
    simp [exec]
end
section
variable {tbl : Str → Option Df} (h : Std tbl) {k : Nat}
include h
theorem law_comparisons (ns : List Int) {a : Int} (ha : 0 ≤ a) {r c : Nat} (h1 : 1 ≤ r) (h2 : r ≤ 4) (h3 : 1 ≤ c) (h4 : c ≤ 4) {m : Nat} (hm : m ≤ 12) : ∃ xs : List C3, (∀ x ∈ xs, okC r c x) ∧ xs.length ≤ m ∧ call sub wf tbl (k + 4) "_law_comparisons" [scr (intz ns), .int a, sz r c, .int m] = .val (.tuple (xs.map cmpD)) := by
  obtain ⟨ds, r1, r2, r3⟩ := law_row h (k := k + 1) ns ha
  obtain ⟨us, vs, v1, v2, v3⟩ := law_given h (k := k) ns ha h2 h4
  have cs := law_cells h (k := k + 2) h1 h2 h3 h4
  obtain ⟨nd, ln⟩ := cells_nodup h1 h2 h3 h4
  obtain ⟨xs, p1, p2, o8, o9, o10, o11, o12, o13, p3⟩ := lc_loop (cal := call sub wf tbl (k + 3)) (x0 := some (.dat (scr (intz ns)))) (x1 := some (.dat (.int a))) (x2 := some (.dat (sz r c))) (U := intz ds) (g := vals us vs) nd ln hm (w := fun p kd q => hold us vs ⟨p, kd, q⟩) (fun j a b => by
    obtain ⟨d, _, e⟩ := ints_at (ds := ds) a (by omega)
    exact ⟨d, e⟩) (fun p q kd hp hq => by
    have a1 := mem_cells hp
    have a2 := mem_cells hq
    exact law_holds_of h (k := k + 1) (x := ⟨p, kd, q⟩) (by show p.1 < _; omega) (by show p.2 < _; omega) (by show q.1 < _; omega) (by show q.2 < _; omega))
  refine ⟨xs, fun x hx => ?_, p2, ?_⟩
  · obtain ⟨q1, q2, q3⟩ := p1 x hx
    have a1 := mem_cells q1
    have a2 := mem_cells q2
    exact ⟨a1.1, a1.2, a2.1, a2.2, q3⟩
  · rw [call_eq h.t__law_comparisons rfl, lcs_is]
    generalize scr (intz ns) = s at *
    generalize sz r c = z at *
    generalize (cellsOf r c).map celD = M at *
    generalize intz ds = U at *
    generalize vals us vs = g at *
    generalize xs.map cmpD = X at *
    generalize (m : Int) = mm at *
    generalize lcF0 = B at *
    have l0 : (0 : Nat) ≤ lim := by decide
    have s1 : exec (call sub wf tbl (k + 3)) sub wf (.asg (.nm 4) (.call "_law_row" (.cons (.var 0) (.cons (.var 1) .nil)))) (startX 14 [s, .int a, z, .int mm]) = .nxt [some (.dat s), some (.dat (.int a)), some (.dat z), some (.dat (.int mm)), some (.dat (.list U)), none, none, none, none, none, none, none, none, none] := by
      simp [eqS_ii, eqS_ss, exec, ev, evs, evo, evt, evi, startX, coS, coB, ltS, leS, gtS, geS, isS, isNone, bfS, tyS, ixS, boS, addS, subS, mulS, modS, fdivS, powS, negS, truth, truR, O.res, asgT, asgTs, mkT, mkL, optI, slS, frzAt, frzS, R.out, seqS, r3, List.replicate]
    rw [ex_seq s1]
    have s2 : exec (call sub wf tbl (k + 3)) sub wf (.asg (.nm 5) (.call "_law_given" (.cons (.var 0) (.cons (.var 1) (.cons (.var 2) .nil))))) [some (.dat s), some (.dat (.int a)), some (.dat z), some (.dat (.int mm)), some (.dat (.list U)), none, none, none, none, none, none, none, none, none] = .nxt [some (.dat s), some (.dat (.int a)), some (.dat z), some (.dat (.int mm)), some (.dat (.list U)), some (.dat g), none, none, none, none, none, none, none, none] := by
      simp [eqS_ii, eqS_ss, exec, ev, evs, evo, evt, evi, startX, coS, coB, ltS, leS, gtS, geS, isS, isNone, bfS, tyS, ixS, boS, addS, subS, mulS, modS, fdivS, powS, negS, truth, truR, O.res, asgT, asgTs, mkT, mkL, optI, slS, frzAt, frzS, R.out, seqS, v3]
    rw [ex_seq s2]
    have s3 : exec (call sub wf tbl (k + 3)) sub wf (.asg (.nm 6) (.call "_law_cells" (.cons (.var 2) .nil))) [some (.dat s), some (.dat (.int a)), some (.dat z), some (.dat (.int mm)), some (.dat (.list U)), some (.dat g), none, none, none, none, none, none, none, none] = .nxt [some (.dat s), some (.dat (.int a)), some (.dat z), some (.dat (.int mm)), some (.dat (.list U)), some (.dat g), some (.dat (.list M)), none, none, none, none, none, none, none] := by
      simp [eqS_ii, eqS_ss, exec, ev, evs, evo, evt, evi, startX, coS, coB, ltS, leS, gtS, geS, isS, isNone, bfS, tyS, ixS, boS, addS, subS, mulS, modS, fdivS, powS, negS, truth, truR, O.res, asgT, asgTs, mkT, mkL, optI, slS, frzAt, frzS, R.out, seqS, cs]
    rw [ex_seq s3]
    have s4 : exec (call sub wf tbl (k + 3)) sub wf (.own 7 (.lst .nil)) [some (.dat s), some (.dat (.int a)), some (.dat z), some (.dat (.int mm)), some (.dat (.list U)), some (.dat g), some (.dat (.list M)), none, none, none, none, none, none, none] = .nxt [some (.dat s), some (.dat (.int a)), some (.dat z), some (.dat (.int mm)), some (.dat (.list U)), some (.dat g), some (.dat (.list M)), some (.own []), none, none, none, none, none, none] := by
      simp [eqS_ii, eqS_ss, exec, ev, evs, evo, evt, evi, startX, coS, coB, ltS, leS, gtS, geS, isS, isNone, bfS, tyS, ixS, boS, addS, subS, mulS, modS, fdivS, powS, negS, truth, truR, O.res, asgT, asgTs, mkT, mkL, optI, slS, frzAt, frzS, R.out, seqS, l0]
    rw [ex_seq s4, ex_seq p3]
    simp [eqS_ii, eqS_ss, exec, ev, evs, evo, evt, evi, startX, coS, coB, ltS, leS, gtS, geS, isS, isNone, bfS, tyS, ixS, boS, addS, subS, mulS, modS, fdivS, powS, negS, truth, truR, O.res, asgT, asgTs, mkT, mkL, optI, slS, frzAt, frzS, R.out, seqS]
end
end Pg

set_option linter.all false
set_option maxRecDepth 100000
set_option maxHeartbeats 4000000
namespace Pg
open PySem hiding call exec
open Mp
theorem lay_cmp (x : C3) : (cmpD x).canLay0 = true := by
  obtain ⟨a, k, b⟩ := x
  cases k <;> kernel_rfl
theorem dep_cmp (x : C3) : (cmpD x).depth ≤ 60 := by
  obtain ⟨⟨i, j⟩, k, ⟨i', j'⟩⟩ := x
  have : (cmpD ⟨(i, j), k, (i', j')⟩).depth = (cmpD ⟨(0, 0), .ab, (0, 0)⟩).depth := by cases k <;> kernel_rfl
  rw [this]; decide
theorem lay_cmps : ∀ xs : List C3, PyData.canLayAll0 (xs.map cmpD) = true
  | [] => rfl
  | x :: xs => by simp only [List.map_cons, PyData.canLayAll0, lay_cmp, lay_cmps xs, Bool.and_self]
theorem dep_cmps : ∀ xs : List C3, PyData.depthAll (xs.map cmpD) ≤ 60
  | [] => by simp [PyData.depthAll]
  | x :: xs => by
    have a := dep_cmp x
    have b := dep_cmps xs
    simp only [List.map_cons, PyData.depthAll]
    omega
theorem shp_cmps (xs : List C3) : SeqAt.shaped (.tuple (xs.map cmpD)) = true := by
  have a := lay_cmps xs
  have b := dep_cmps xs
  unfold SeqAt.shaped
  rw [Bool.and_eq_true]
  refine ⟨by simpa only [PyData.canLay0] using a, decide_eq_true ?_⟩
  simp only [PyData.depth]
  omega
theorem eq_unit (xs : List C3) : eqS (.tuple (xs.map cmpD)) (.tuple []) = some xs.isEmpty := by
  rw [eqS_tup _ _ (shp_cmps xs) (by kernel_rfl)]
  cases xs <;> simp [PyData.eqv, PyData.eqvAll]
theorem cut_take {ds : List D} {n : Nat} : cutX ds none (some (n : Int)) = ds.take n := by
  simp only [cutX, sX]
  rw [if_neg (by omega)]
  simp
theorem cutA {us : List Int} (h1 : 1 ≤ us.length) (h2 : us.length ≤ 4) : (cutX (intz us) (some 1) none).length ≠ us.length ∧ (cutX (intz us) (some 1) none).length ≤ 100 ∧ ∀ d ∈ cutX (intz us) (some 1) none, plain d = true := by
  rcases us with _ | ⟨a, _ | ⟨b, _ | ⟨c, _ | ⟨d, _ | ⟨e, us⟩⟩⟩⟩⟩ <;> simp at h1 h2 <;> simp [cutX, sX, intz, plain]
  all_goals omega
theorem cutB {us : List Int} (h1 : 1 ≤ us.length) (h2 : us.length ≤ 4) : (cutX (intz us) none (some (-1)) ++ [PyData.none]).length ≤ 100 ∧ (∀ d ∈ (cutX (intz us) none (some (-1)) ++ [PyData.none]), plain d = true) ∧ (cutX (intz us) none (some (-1)) ++ [PyData.none]).all isI = false := by
  rcases us with _ | ⟨a, _ | ⟨b, _ | ⟨c, _ | ⟨d, _ | ⟨e, us⟩⟩⟩⟩⟩ <;> simp at h1 h2 <;> simp [cutX, sX, intz, plain, isI]
  all_goals omega
theorem repB {c : Nat} (h1 : 1 ≤ c) (h2 : c ≤ 4) : (repX [PyData.bool true] (c : Int)).length ≤ 100 ∧ (∀ d ∈ repX [PyData.bool true] (c : Int), plain d = true) ∧ (repX [PyData.bool true] (c : Int)).all isI = false := by
  refine four (P := fun c => (repX [PyData.bool true] (c : Int)).length ≤ 100 ∧ (∀ d ∈ repX [PyData.bool true] (c : Int), plain d = true) ∧ (repX [PyData.bool true] (c : Int)).all isI = false) h1 h2 ?_ ?_ ?_ ?_ <;> simp [repX, plain, isI, List.replicate]
theorem plain_ints (us : List Int) : ∀ d ∈ intz us, plain d = true := by
  intro d hd
  obtain ⟨x, _, rfl⟩ := List.mem_map.mp hd
  rfl
theorem isI_ints (us : List Int) : (intz us).all isI = true := by
  rw [List.all_eq_true]
  intro d hd
  obtain ⟨x, _, rfl⟩ := List.mem_map.mp hd
  rfl
def triesOf (A B : List D) (c : Nat) : List D := [.tuple [.tuple A, .tuple B], .tuple [.tuple A, .tuple B], .tuple [.tuple A, .tuple B], .none, .tuple [.tuple A], .tuple [.tuple (A ++ [.int 1]), .tuple B], .list [.tuple A, .tuple B],
  .tuple [.tuple A, .tuple (cutX B none (some (-1)) ++ [.none])], .tuple [.tuple (cutX A (some 1) none), .tuple B], .tuple [.tuple A, .tuple (repX [.bool true] (c : Int))]]
section
variable {tbl : Str → Option Df} (h : Std tbl) {k : Nat}
include h
theorem two_bad {r c : Nat} (h1 : 1 ≤ r) (h2 : r ≤ 4) (h3 : 1 ≤ c) (h4 : c ≤ 4) {xs : List C3} (hx : ∀ x ∈ xs, okC r c x) (hl : xs.length ≤ 12) {as bs : List D} (g1 : as.length ≤ 100) (g2 : bs.length ≤ 100) (g3 : ∀ d ∈ as, plain d = true) (g4 : ∀ d ∈ bs, plain d = true) (hf : avOk r c as bs = false) :
    ∃ b, call sub wf tbl (k + 7) "agrees" [sz r c, .tuple (xs.map cmpD), .tuple [.tuple as, .tuple bs]] = .val (.bool b) ∧ call sub wf tbl (k + 7) "_law_agree" [sz r c, .tuple (xs.map cmpD), .tuple [.tuple as, .tuple bs]] = .val (.bool b) := by
  refine ⟨false, ?_, ?_⟩
  · refine agrees_bad h h1 h2 h3 h4 hx hl ?_
    rw [are_values_two h (k := k + 5) g1 g2 g3 g4, hf]
  · refine law_agree_bad h ?_
    rw [law_are_given_two h (k := k + 5) g3 g4, hf]
theorem tries_agree {xs : List C3} {us vs : List Int} (h1 : 1 ≤ us.length) (h2 : us.length ≤ 4) (h3 : 1 ≤ vs.length) (h4 : vs.length ≤ 4) (hx : ∀ x ∈ xs, okC us.length vs.length x) (hl : xs.length ≤ 12) {v : D} (hv : v ∈ triesOf (intz us) (intz vs) vs.length) :
    ∃ b, call sub wf tbl (k + 7) "agrees" [sz us.length vs.length, .tuple (xs.map cmpD), v] = .val (.bool b) ∧ call sub wf tbl (k + 7) "_law_agree" [sz us.length vs.length, .tuple (xs.map cmpD), v] = .val (.bool b) := by
  have lu : (intz us).length = us.length := by simp
  have lv : (intz vs).length = vs.length := by simp
  have good : ∃ b, call sub wf tbl (k + 7) "agrees" [sz us.length vs.length, .tuple (xs.map cmpD), .tuple [.tuple (intz us), .tuple (intz vs)]] = .val (.bool b) ∧ call sub wf tbl (k + 7) "_law_agree" [sz us.length vs.length, .tuple (xs.map cmpD), .tuple [.tuple (intz us), .tuple (intz vs)]] = .val (.bool b) := by
    have ok : avOk us.length vs.length (intz us) (intz vs) = true := by
      unfold avOk; rw [isI_ints, isI_ints, lu, lv]; simp
    refine ⟨xs.all (hold us vs), agrees_good h h1 h2 h3 h4 hx hl ?_, law_agree_good h hx ?_⟩
    · refine (are_values_two h (k := k + 5) (by omega) (by omega) (plain_ints us) (plain_ints vs)).trans ?_
      rw [ok]
    · refine (law_are_given_two h (k := k + 5) (plain_ints us) (plain_ints vs)).trans ?_
      rw [ok]
  have bad : ∀ {v : D}, badV v = true → ∃ b, call sub wf tbl (k + 7) "agrees" [sz us.length vs.length, .tuple (xs.map cmpD), v] = .val (.bool b) ∧ call sub wf tbl (k + 7) "_law_agree" [sz us.length vs.length, .tuple (xs.map cmpD), v] = .val (.bool b) := fun {v} e => by
    have := bad_values h (k := k + 5) (s := sz us.length vs.length) e
    exact ⟨false, agrees_bad h h1 h2 h3 h4 hx hl this.1, law_agree_bad h this.2⟩
  simp only [triesOf, List.mem_cons, List.not_mem_nil, or_false] at hv
  rcases hv with rfl | rfl | rfl | rfl | rfl | rfl | rfl | rfl | rfl | rfl
  · exact good
  · exact good
  · exact good
  · exact bad rfl
  · exact bad rfl
  · refine two_bad h h1 h2 h3 h4 hx hl (by rw [List.length_append, lu]; simp; omega) (by omega) (fun d hd => ?_) (plain_ints vs) ?_
    · rcases List.mem_append.mp hd with hd | hd
      · exact plain_ints us d hd
      · simp at hd; subst hd; rfl
    · unfold avOk
      rw [List.length_append, lu]
      simp
  · exact bad rfl
  · obtain ⟨q1, q2, q3⟩ := cutB h3 h4
    refine two_bad h h1 h2 h3 h4 hx hl (by omega) q1 (plain_ints us) q2 ?_
    unfold avOk
    rw [q3]; simp
  · obtain ⟨q1, q2, q3⟩ := cutA h1 h2
    refine two_bad h h1 h2 h3 h4 hx hl q2 (by omega) q3 (plain_ints vs) ?_
    unfold avOk
    simp [q1]
  · obtain ⟨q1, q2, q3⟩ := repB h3 h4
    refine two_bad h h1 h2 h3 h4 hx hl (by omega) q1 (plain_ints us) q2 ?_
    unfold avOk
    rw [q3]; simp
/-! ### what must be refused -/
theorem refused {r c : Nat} (h1 : 1 ≤ r) (h2 : r ≤ 4) (h3 : 1 ≤ c) (h4 : c ≤ 4) {d : D} {m : Int} (hd : call sub wf tbl (k + 5) "are_comparisons" [sz r c, d] = .val (.bool false)) : call sub wf tbl (k + 8) "_law_values" [.int m, sz r c, d] = .val (.str "comparisons") := by
  refine law_values_no h ?_
  rw [check_comps h h1 h2 h3 h4 hd]; rfl
theorem refused_wrong {r c : Nat} (h1 : 1 ≤ r) (h2 : r ≤ 4) (h3 : 1 ≤ c) (h4 : c ≤ 4) {xs : List C3} (hx : ∀ x ∈ xs, okC r c x) {w : D} (hw : w ∈ wrongs r c) {m : Int} : call sub wf tbl (k + 8) "_law_values" [.int m, sz r c, .tuple ((xs.map cmpD).take 11 ++ [w])] = .val (.str "comparisons") := by
  refine refused h h1 h2 h3 h4 ?_
  have e : (xs.map cmpD).take 11 = (xs.take 11).map cmpD := by rw [List.map_take]
  rw [e]
  have hwn := wrong_no h (k := k) h1 h3 hw
  obtain ⟨p, hp1, hp2⟩ : ∃ p : D → Bool, (∀ x ∈ xs, call sub wf tbl (k + 4) "is_comparison" [sz r c, cmpD x] = .val (.bool (p (cmpD x)))) ∧ call sub wf tbl (k + 4) "is_comparison" [sz r c, w] = .val (.bool (p w)) := by
    refine ⟨fun d => match call sub wf tbl (k + 4) "is_comparison" [sz r c, d] with | .val (.bool b) => b | _ => false, fun x hm => ?_, ?_⟩
    · simp only [is_comp_ok h (k := k) (hx x hm)]
    · simp only [hwn]
  have pw : p w = false := by
    rw [hwn] at hp2
    injection hp2 with e; injection e with e; exact e.symm
  have := are_comps h (k := k) (s := sz r c) (ds := (xs.take 11).map cmpD ++ [w]) (p := p) (by simp; omega) (fun d hd => by
    rcases List.mem_append.mp hd with hd | hd
    · obtain ⟨x, hm, rfl⟩ := List.mem_map.mp hd
      exact hp1 x (List.mem_of_mem_take hm)
    · simp at hd; subst hd; exact hp2)
  rw [this]
  simp [pw]
theorem refused_many {r c : Nat} (h1 : 1 ≤ r) (h2 : r ≤ 4) (h3 : 1 ≤ c) (h4 : c ≤ 4) {ds : List D} (hd : ds ≠ []) {m : Int} : call sub wf tbl (k + 8) "_law_values" [.int m, sz r c, .tuple ((repX ds 13).take 13)] = .val (.str "comparisons") := by
  refine refused h h1 h2 h3 h4 (are_comps_long h ?_)
  have : 1 ≤ ds.length := List.length_pos_iff.mpr hd
  rw [List.length_take]
  have l : (repX ds 13).length = 13 * ds.length := by
    simp [repX]
    omega
  omega
end
end Pg

set_option linter.all false
set_option maxHeartbeats 4000000
namespace Sx
/-! Sums, and a determinant by expansion along the last coordinate. Plain Lean, no program in sight. -/
def sm : Nat → (Nat → Int) → Int
  | 0, _ => 0
  | n + 1, f => sm n f + f n
theorem sm_congr {n : Nat} {f g : Nat → Int} (h : ∀ i, i < n → f i = g i) : sm n f = sm n g := by
  induction n with
  | zero => rfl
  | succ n ih => simp only [sm, ih (fun i hi => h i (by omega)), h n (by omega)]
theorem sm_add (n : Nat) (f g : Nat → Int) : sm n (fun i => f i + g i) = sm n f + sm n g := by
  induction n with
  | zero => rfl
  | succ n ih => simp only [sm, ih]; omega
theorem sm_mul (n : Nat) (c : Int) (f : Nat → Int) : sm n (fun i => c * f i) = c * sm n f := by
  induction n with
  | zero => simp [sm]
  | succ n ih => simp only [sm, ih]; grind
theorem sm_zero {n : Nat} {f : Nat → Int} (h : ∀ i, i < n → f i = 0) : sm n f = 0 := by
  induction n with
  | zero => rfl
  | succ n ih => simp only [sm, ih (fun i hi => h i (by omega)), h n (by omega)]; rfl
theorem sm_one {n a : Nat} {f : Nat → Int} (ha : a < n) (h : ∀ i, i < n → i ≠ a → f i = 0) : sm n f = f a := by
  induction n with
  | zero => omega
  | succ n ih =>
    by_cases e : a = n
    · subst e
      simp only [sm]
      rw [sm_zero (fun i hi => h i (by omega) (by omega))]; omega
    · simp only [sm]
      rw [ih (by omega) (fun i hi hne => h i (by omega) hne), h n (by omega) (by omega)]; omega
theorem sm_two {n a b : Nat} {f : Nat → Int} (hab : a < b) (hb : b < n) (h : ∀ i, i < n → i ≠ a → i ≠ b → f i = 0) : sm n f = f a + f b := by
  induction n with
  | zero => omega
  | succ n ih =>
    by_cases e : b = n
    · subst e
      simp only [sm]
      rw [sm_one (a := a) (by omega) (fun i hi hne => h i (by omega) hne (by omega))]
    · simp only [sm]
      rw [ih (by omega) (fun i hi h1 h2 => h i (by omega) h1 h2), h n (by omega) (by omega) (by omega)]; omega
theorem sm_comm (n m : Nat) (f : Nat → Nat → Int) : sm n (fun i => sm m (fun j => f i j)) = sm m (fun j => sm n (fun i => f i j)) := by
  induction n with
  | zero => simp only [sm]; exact (sm_zero (fun _ _ => rfl)).symm
  | succ n ih => simp only [sm, ih]; rw [sm_add]
theorem sm_nonneg {n : Nat} {f : Nat → Int} (h : ∀ i, i < n → 0 ≤ f i) : 0 ≤ sm n f := by
  induction n with
  | zero => exact Int.le_refl _
  | succ n ih =>
    have := ih (fun i hi => h i (by omega))
    have := h n (by omega)
    simp only [sm]; omega
abbrev Vc := Nat → Int
def sg (i : Nat) : Int := if i % 2 = 0 then 1 else -1
theorem sg_succ (i : Nat) : sg (i + 1) = - sg i := by
  unfold sg
  by_cases h : i % 2 = 0
  · rw [if_neg (by omega), if_pos h]
  · rw [if_pos (by omega), if_neg h]; rfl
def skip (i : Nat) (vs : Nat → Vc) : Nat → Vc := fun k => if k < i then vs k else vs (k + 1)
def upd (vs : Nat → Vc) (k : Nat) (x : Vc) : Nat → Vc := fun m => if m = k then x else vs m
/-- the determinant of vs 0 … vs (n-1), coordinates 0 … n-1 -/
def Dt : Nat → (Nat → Vc) → Int
  | 0, _ => 1
  | n + 1, vs => sm (n + 1) fun i => sg (n + i) * vs i n * Dt n (skip i vs)
theorem skip_lt {i k : Nat} {vs : Nat → Vc} {x : Vc} (h : k < i) : skip i (upd vs k x) = upd (skip i vs) k x := by
  funext m
  unfold skip upd
  by_cases h1 : m = k
  · subst h1; simp [h]
  · by_cases h2 : m < i
    · simp [h1, h2]
    · have : m + 1 ≠ k := by omega
      simp [h1, h2, this]
theorem skip_gt {i k : Nat} {vs : Nat → Vc} {x : Vc} (h : i < k) : skip i (upd vs k x) = upd (skip i vs) (k - 1) x := by
  funext m
  unfold skip upd
  by_cases h2 : m < i
  · have a : m ≠ k := by omega
    have b : m ≠ k - 1 := by omega
    simp [h2, a, b]
  · by_cases h1 : m = k - 1
    · have a : m + 1 = k := by omega
      rw [if_neg h2, if_pos a, if_pos h1]
    · have a : m + 1 ≠ k := by omega
      simp [h2, h1, a]
theorem skip_eq {k : Nat} {vs : Nat → Vc} {x : Vc} : skip k (upd vs k x) = skip k vs := by
  funext m
  unfold skip upd
  by_cases h2 : m < k
  · have a : m ≠ k := by omega
    simp [h2, a]
  · have a : m + 1 ≠ k := by omega
    simp [h2, a]
/-- linear in each place -/
theorem Dt_lin : ∀ (n : Nat) (vs : Nat → Vc) (k : Nat), k < n → ∀ (a b : Int) (x y : Vc), Dt n (upd vs k (fun j => a * x j + b * y j)) = a * Dt n (upd vs k x) + b * Dt n (upd vs k y)
  | 0, _, _, h, _, _, _, _ => by omega
  | n + 1, vs, k, h, a, b, x, y => by
    simp only [Dt]
    rw [← sm_mul, ← sm_mul, ← sm_add]
    refine sm_congr fun i hi => ?_
    by_cases h1 : i = k
    · subst h1
      rw [skip_eq, skip_eq, skip_eq]
      simp only [upd, if_true]
      grind
    · have e : ∀ z : Vc, upd vs k z i n = vs i n := fun z => by simp [upd, h1]
      rw [e, e, e]
      by_cases h2 : k < i
      · rw [skip_lt h2, skip_lt h2, skip_lt h2, Dt_lin n (skip i vs) k (by omega) a b x y]
        grind
      · have h3 : i < k := by omega
        rw [skip_gt h3, skip_gt h3, skip_gt h3, Dt_lin n (skip i vs) (k - 1) (by omega) a b x y]
        grind
/-- two neighbours alike -/
theorem Dt_adj : ∀ (n : Nat) (vs : Nat → Vc) (a : Nat), a + 1 < n → vs a = vs (a + 1) → Dt n vs = 0
  | 0, _, _, h, _ => by omega
  | n + 1, vs, a, h, e => by
    simp only [Dt]
    rw [sm_two (a := a) (b := a + 1) (by omega) h]
    · have e2 : skip a vs = skip (a + 1) vs := by
        funext m
        unfold skip
        by_cases h1 : m < a
        · have : m < a + 1 := by omega
          simp [h1, this]
        · by_cases h2 : m = a
          · subst h2; simp [e]
          · have : ¬ m < a + 1 := by omega
            simp [h1, this]
      rw [e2, ← Nat.add_assoc, sg_succ, ← e]
      grind
    · intro i hi h1 h2
      have : Dt n (skip i vs) = 0 := by
        by_cases h3 : i < a
        · refine Dt_adj n (skip i vs) (a - 1) (by omega) ?_
          unfold skip
          rw [if_neg (by omega), if_neg (by omega)]
          have : a - 1 + 1 = a := by omega
          rw [this]; exact e
        · refine Dt_adj n (skip i vs) a (by omega) ?_
          unfold skip
          rw [if_pos (by omega), if_pos (by omega)]; exact e
      rw [this]; grind
theorem upd_self (vs : Nat → Vc) (k : Nat) : upd vs k (vs k) = vs := by
  funext m; unfold upd; by_cases h : m = k
  · subst h; simp
  · simp [h]
theorem upd_upd (vs : Nat → Vc) (k : Nat) (x y : Vc) : upd (upd vs k x) k y = upd vs k y := by
  funext m; unfold upd; by_cases h : m = k <;> simp [h]
theorem upd_comm (vs : Nat → Vc) {k l : Nat} (h : k ≠ l) (x y : Vc) : upd (upd vs k x) l y = upd (upd vs l y) k x := by
  funext m; unfold upd
  by_cases h1 : m = k
  · subst h1; simp [h]
  · by_cases h2 : m = l
    · rw [if_pos h2, if_neg h1, if_pos h2]
    · rw [if_neg h2, if_neg h1, if_neg h1, if_neg h2]
theorem upd_at (vs : Nat → Vc) (k : Nat) (x : Vc) : upd vs k x k = x := by simp [upd]
theorem upd_ne (vs : Nat → Vc) {k m : Nat} (h : m ≠ k) (x : Vc) : upd vs k x m = vs m := by simp [upd, h]
theorem Dt_add {n : Nat} {vs : Nat → Vc} {k : Nat} (hk : k < n) (x y : Vc) : Dt n (upd vs k (fun j => x j + y j)) = Dt n (upd vs k x) + Dt n (upd vs k y) := by
  have := Dt_lin n vs k hk 1 1 x y
  simp only [Int.one_mul] at this
  exact this
/-- an exchange of two places, where likes vanish -/
theorem Dt_pol {n : Nat} {vs : Nat → Vc} {a b : Nat} (hab : a ≠ b) (ha : a < n) (hb : b < n) (hz : ∀ x : Vc, Dt n (upd (upd vs a x) b x) = 0) (x y : Vc) : Dt n (upd (upd vs a x) b y) = - Dt n (upd (upd vs a y) b x) := by
  have h := hz (fun j => x j + y j)
  rw [Dt_add hb, upd_comm vs hab, upd_comm vs hab, Dt_add ha, Dt_add ha, ← upd_comm vs hab, ← upd_comm vs hab, ← upd_comm vs hab, ← upd_comm vs hab, hz, hz] at h
  omega
theorem Dt_adj' {n : Nat} {vs : Nat → Vc} {a : Nat} (ha : a + 1 < n) (x y : Vc) : Dt n (upd (upd vs a x) (a + 1) y) = - Dt n (upd (upd vs a y) (a + 1) x) := by
  refine Dt_pol (by omega) (by omega) ha (fun z => Dt_adj n _ a ha ?_) x y
  rw [upd_at, upd_ne _ (by omega), upd_at]
/-- two places alike -/
theorem Dt_alt {n : Nat} : ∀ (k : Nat) (vs : Nat → Vc) (a : Nat), a + k + 1 < n → vs a = vs (a + k + 1) → Dt n vs = 0
  | 0, vs, a, h, e => Dt_adj n vs a h e
  | k + 1, vs, a, h, e => by
    have e1 : vs = upd (upd vs (a + k + 1) (vs (a + k + 1))) (a + k + 1 + 1) (vs (a + k + 1 + 1)) := by
      rw [upd_self]; rw [upd_self]
    rw [e1, Dt_adj' (by omega)]
    rw [Dt_alt k _ a (by omega)]
    · rfl
    · rw [upd_ne _ (by omega), upd_ne _ (by omega), upd_ne _ (by omega), upd_at]; exact e
theorem Dt_two {n : Nat} {vs : Nat → Vc} {a b : Nat} (hab : a ≠ b) (ha : a < n) (hb : b < n) (e : vs a = vs b) : Dt n vs = 0 := by
  by_cases h : a < b
  · refine Dt_alt (b - a - 1) vs a (by omega) ?_
    rw [e]; congr 1; omega
  · refine Dt_alt (a - b - 1) vs b (by omega) ?_
    rw [← e]; congr 1; omega
theorem Dt_swap {n : Nat} {vs : Nat → Vc} {a b : Nat} (hab : a ≠ b) (ha : a < n) (hb : b < n) (x y : Vc) : Dt n (upd (upd vs a x) b y) = - Dt n (upd (upd vs a y) b x) :=
  Dt_pol hab ha hb (fun z => Dt_two hab ha hb (by rw [upd_at, upd_ne _ hab, upd_at])) x y
/-- linear over a sum -/
theorem Dt_sum {n : Nat} {vs : Nat → Vc} {k : Nat} (hk : k < n) : ∀ (m : Nat) (c : Nat → Int) (w : Nat → Vc), Dt n (upd vs k (fun j => sm m fun i => c i * w i j)) = sm m fun i => c i * Dt n (upd vs k (w i))
  | 0, c, w => by
    have := Dt_lin n vs k hk 0 0 (fun _ => 0) (fun _ => 0)
    simp only [Int.zero_mul, Int.add_zero] at this
    simpa [sm] using this
  | m + 1, c, w => by
    have := Dt_lin n vs k hk 1 (c m) (fun j => sm m fun i => c i * w i j) (w m)
    simp only [Int.one_mul] at this
    simp only [sm]
    rw [this, Dt_sum hk m c w]
theorem Dt_scale {n : Nat} {vs : Nat → Vc} {k : Nat} (hk : k < n) (c : Int) (w : Vc) : Dt n (upd vs k (fun j => c * w j)) = c * Dt n (upd vs k w) := by
  have := Dt_lin n vs k hk c 0 w w
  simp only [Int.zero_mul, Int.add_zero] at this
  exact this
/-- only the coordinates below n matter -/
theorem Dt_congr : ∀ (n : Nat) (vs ws : Nat → Vc), (∀ i, i < n → ∀ j, j < n → vs i j = ws i j) → Dt n vs = Dt n ws
  | 0, _, _, _ => rfl
  | n + 1, vs, ws, h => by
    simp only [Dt]
    refine sm_congr fun i hi => ?_
    rw [h i hi n (by omega), Dt_congr n (skip i vs) (skip i ws)]
    intro a ha b hb
    unfold skip
    by_cases h1 : a < i
    · rw [if_pos h1, if_pos h1]; exact h a (by omega) b (by omega)
    · rw [if_neg h1, if_neg h1]; exact h (a + 1) (by omega) b (by omega)
def unit (i : Nat) : Vc := fun j => if j = i then 1 else 0
theorem Dt_unit : ∀ n : Nat, Dt n unit = 1
  | 0 => rfl
  | n + 1 => by
    simp only [Dt]
    rw [sm_one (a := n) (by omega)]
    · have e : Dt n (skip n unit) = Dt n unit := Dt_congr n _ _ (fun i hi j hj => by simp [skip, hi])
      rw [e, Dt_unit n]
      have s1 : sg (n + n) = 1 := by unfold sg; rw [if_pos (by omega)]
      have s2 : unit n n = 1 := by simp [unit]
      rw [s1, s2]; rfl
    · intro i hi hne
      have : unit i n = 0 := by unfold unit; rw [if_neg (by omega)]
      rw [this]; grind
theorem sm_abs {n : Nat} {f : Nat → Int} {m : Nat} (h : ∀ i, i < n → (f i).natAbs ≤ m) : (sm n f).natAbs ≤ n * m := by
  induction n with
  | zero => simp [sm]
  | succ n ih =>
    have a := ih (fun i hi => h i (by omega))
    have b := h n (by omega)
    simp only [sm]
    have : (n + 1) * m = n * m + m := by grind
    omega
def fac (m : Nat) : Nat → Nat
  | 0 => 1
  | n + 1 => (n + 1) * (m * fac m n)
/-- a bound -/
theorem Dt_bound : ∀ (n : Nat) (vs : Nat → Vc) (m : Nat), (∀ i, i < n → ∀ j, j < n → (vs i j).natAbs ≤ m) → (Dt n vs).natAbs ≤ fac m n
  | 0, _, _, _ => by simp [Dt, fac]
  | n + 1, vs, m, h => by
    simp only [Dt, fac]
    refine sm_abs fun i hi => ?_
    have a := h i hi n (by omega)
    have b := Dt_bound n (skip i vs) m (fun p hp q hq => by
      unfold skip
      by_cases h1 : p < i
      · rw [if_pos h1]; exact h p (by omega) q (by omega)
      · rw [if_neg h1]; exact h (p + 1) (by omega) q (by omega))
    have s : (sg (n + i)).natAbs = 1 := by unfold sg; split <;> rfl
    rw [Int.natAbs_mul, Int.natAbs_mul, s, Nat.one_mul]
    exact Nat.mul_le_mul a b
end Sx

set_option linter.all false
set_option maxHeartbeats 4000000
namespace Sx
/-! Cramer's rule for a list of vectors, kept by an exchange. -/
def Cr (n : Nat) (V : Nat → Vc) : Prop := ∀ (x : Vc) (j : Nat), j < n → Dt n V * x j = sm n fun i => Dt n (upd V i x) * V i j
theorem Dt_unit_upd {n i : Nat} (hi : i < n) (x : Vc) : Dt n (upd unit i x) = x i := by
  have e : Dt n (upd unit i x) = Dt n (upd unit i (fun j => sm n fun k => x k * unit k j)) := by
    refine Dt_congr n _ _ fun a ha b hb => ?_
    by_cases h : a = i
    · subst h
      rw [upd_at, upd_at, sm_one (a := b) hb]
      · simp [unit]
      · intro k hk hne
        have : unit k b = 0 := by unfold unit; rw [if_neg (by omega)]
        rw [this]; simp
    · rw [upd_ne _ h, upd_ne _ h]
  rw [e, Dt_sum hi, sm_one (a := i) hi]
  · rw [upd_self, Dt_unit]; simp
  · intro k hk hne
    rw [Dt_two (a := i) (b := k) (by omega) hi hk (by rw [upd_at, upd_ne _ hne])]; simp
theorem Cr_unit (n : Nat) : Cr n unit := by
  intro x j hj
  rw [Dt_unit, sm_one (a := j) hj]
  · rw [Dt_unit_upd hj]; simp [unit]
  · intro i hi hne
    have : unit i j = 0 := by unfold unit; rw [if_neg (by omega)]
    rw [this]; simp
theorem ex_id {n : Nat} {V : Nat → Vc} (h : Cr n V) {i r : Nat} (hi : i < n) (hr : r < n) (hne : i ≠ r) (q x : Vc) : Dt n V * Dt n (upd (upd V r q) i x) = Dt n (upd V r q) * Dt n (upd V i x) - Dt n (upd V i q) * Dt n (upd V r x) := by
  rw [← Dt_scale hi]
  have e : Dt n (upd (upd V r q) i (fun j => Dt n V * x j)) = Dt n (upd (upd V r q) i (fun j => sm n fun k => Dt n (upd V k x) * V k j)) := by
    refine Dt_congr n _ _ fun a ha b hb => ?_
    by_cases ha' : a = i
    · subst ha'; rw [upd_at, upd_at]; exact h x b hb
    · rw [upd_ne _ ha', upd_ne _ ha']
  rw [e, Dt_sum hi]
  have t1 : Dt n (upd (upd V r q) i (V i)) = Dt n (upd V r q) := by
    have : upd (upd V r q) i (V i) = upd V r q := by
      have := upd_self (upd V r q) i
      rw [upd_ne _ hne] at this
      exact this
    rw [this]
  have t2 : Dt n (upd (upd V r q) i (V r)) = - Dt n (upd V i q) := by
    rw [Dt_swap (fun e => hne e.symm) hr hi, upd_self]
  have key : ∀ k, k < n → k ≠ i → k ≠ r → Dt n (upd V k x) * Dt n (upd (upd V r q) i (V k)) = 0 := by
    intro k hk h1 h2
    have z : Dt n (upd (upd V r q) i (V k)) = 0 := Dt_two (a := i) (b := k) (by omega) hi hk (by rw [upd_at, upd_ne _ h1, upd_ne _ h2])
    rw [z]; simp
  by_cases c : i < r
  · rw [sm_two (a := i) (b := r) c hr (fun k hk h1 h2 => key k hk h1 h2), t1, t2]; grind
  · rw [sm_two (a := r) (b := i) (by omega) hi (fun k hk h1 h2 => key k hk h2 h1), t1, t2]; grind
theorem sm_put {n r : Nat} {g f : Nat → Int} {e : Int} (hr : r < n) (hg : g r = 0) (hf : f r = e) (h : ∀ i, i < n → i ≠ r → f i = g i) : sm n f = sm n g + e := by
  have : sm n f = sm n (fun i => g i + (if i = r then e else 0)) := by
    refine sm_congr fun i hi => ?_
    by_cases c : i = r
    · subst c; rw [if_pos rfl, hg, hf]; omega
    · rw [if_neg c, h i hi c]; omega
  rw [this, sm_add]
  congr 1
  rw [sm_one (a := r) hr]
  · rw [if_pos rfl]
  · intro i hi hne; rw [if_neg hne]
theorem Cr_upd {n : Nat} {V : Nat → Vc} (h : Cr n V) (hd : Dt n V ≠ 0) {r : Nat} (hr : r < n) (q : Vc) : Cr n (upd V r q) := by
  intro x j hj
  refine Int.eq_of_mul_eq_mul_left hd ?_
  rw [← sm_mul]
  rw [sm_put (r := r) (g := fun i => (Dt n (upd V r q) * Dt n (upd V i x) - Dt n (upd V i q) * Dt n (upd V r x)) * V i j) (e := Dt n V * (Dt n (upd V r x) * q j)) hr]
  · have a := h x j hj
    have b := h q j hj
    have e1 : sm n (fun i => (Dt n (upd V r q) * Dt n (upd V i x) - Dt n (upd V i q) * Dt n (upd V r x)) * V i j) = sm n (fun i => Dt n (upd V r q) * (Dt n (upd V i x) * V i j) + (- Dt n (upd V r x)) * (Dt n (upd V i q) * V i j)) := by
      refine sm_congr fun i _ => ?_
      grind
    rw [e1, sm_add, sm_mul, sm_mul, ← a, ← b]
    grind
  · grind
  · rw [upd_upd, upd_at]
  · intro i hi hne
    rw [upd_ne _ hne]
    have := ex_id h hi hr hne q x
    rw [← Int.mul_assoc, this]
end Sx

set_option linter.all false
set_option maxHeartbeats 4000000
namespace Sx
/-! The table of a basis: n rows, N columns, then the n unit vectors, then the right side (column N + n). -/
section
variable (col : Nat → Vc) (n N : Nat)
def VB (bs : Nat → Nat) : Nat → Vc := fun i => col (bs i)
def dd (bs : Nat → Nat) : Int := Dt n (VB col bs)
def Tb (bs : Nat → Nat) (i j : Nat) : Int := Dt n (upd (VB col bs) i (col j))
/-- the last row, without the part of the unit vectors -/
def Lz (bs : Nat → Nat) (x : Vc) : Int := sm n fun i => if N ≤ bs i then Dt n (upd (VB col bs) i x) else 0
def wz (j : Nat) : Int := if N ≤ j ∧ j < N + n then 1 else 0
def Tz (bs : Nat → Nat) (j : Nat) : Int := Lz col n N bs (col j) - dd col n bs * wz n N j
def pv (bs : Nat → Nat) (r q : Nat) : Nat → Nat := fun m => if m = r then q else bs m
end
section
variable {col : Nat → Vc} {n N : Nat} {bs : Nat → Nat}
theorem VB_pv (r q : Nat) : VB col (pv bs r q) = upd (VB col bs) r (col q) := by
  funext m; unfold VB pv upd; by_cases h : m = r <;> simp [h]
theorem dd_pv (r q : Nat) : dd col n (pv bs r q) = Tb col n bs r q := by
  unfold dd Tb; rw [VB_pv]
theorem Tb_pv_r (r q j : Nat) : Tb col n (pv bs r q) r j = Tb col n bs r j := by
  unfold Tb; rw [VB_pv, upd_upd]
theorem Tb_pv (h : Cr n (VB col bs)) {r i : Nat} (hr : r < n) (hi : i < n) (hne : i ≠ r) (q j : Nat) : dd col n bs * Tb col n (pv bs r q) i j = Tb col n bs r q * Tb col n bs i j - Tb col n bs i q * Tb col n bs r j := by
  unfold Tb dd; rw [VB_pv]; exact ex_id h hi hr hne _ _
theorem Lz_pv (h : Cr n (VB col bs)) {r : Nat} (hr : r < n) {q : Nat} (hq : q < N) (x : Vc) : dd col n bs * Lz col n N (pv bs r q) x = Tb col n bs r q * Lz col n N bs x - Lz col n N bs (col q) * Dt n (upd (VB col bs) r x) := by
  have e : Tb col n bs r q * Lz col n N bs x - Lz col n N bs (col q) * Dt n (upd (VB col bs) r x) = sm n (fun i => if N ≤ bs i then Tb col n bs r q * Dt n (upd (VB col bs) i x) - Dt n (upd (VB col bs) i (col q)) * Dt n (upd (VB col bs) r x) else 0) := by
    have e2 : sm n (fun i => if N ≤ bs i then Tb col n bs r q * Dt n (upd (VB col bs) i x) - Dt n (upd (VB col bs) i (col q)) * Dt n (upd (VB col bs) r x) else 0) = sm n (fun i => Tb col n bs r q * (if N ≤ bs i then Dt n (upd (VB col bs) i x) else 0) + (- Dt n (upd (VB col bs) r x)) * (if N ≤ bs i then Dt n (upd (VB col bs) i (col q)) else 0)) := by
      refine sm_congr fun i _ => ?_
      by_cases c : N ≤ bs i
      · simp only [c, if_true]; grind
      · simp only [c, if_false]; grind
    rw [e2, sm_add, sm_mul, sm_mul]
    unfold Lz
    grind
  rw [e]
  unfold Lz
  rw [← sm_mul]
  refine sm_congr fun i hi => ?_
  by_cases c : i = r
  · subst c
    have c1 : ¬ N ≤ pv bs i q i := by unfold pv; rw [if_pos rfl]; omega
    rw [if_neg c1]
    have : Tb col n bs i q = Dt n (upd (VB col bs) i (col q)) := rfl
    rw [this]
    by_cases c2 : N ≤ bs i
    · rw [if_pos c2]; grind
    · rw [if_neg c2]; grind
  · have c1 : pv bs r q i = bs i := by unfold pv; rw [if_neg c]
    rw [c1]
    by_cases c2 : N ≤ bs i
    · rw [if_pos c2, if_pos c2, VB_pv]
      exact ex_id h hi hr c _ _
    · rw [if_neg c2, if_neg c2]; grind
theorem Tz_pv (h : Cr n (VB col bs)) {r : Nat} (hr : r < n) {q : Nat} (hq : q < N) (j : Nat) : dd col n bs * Tz col n N (pv bs r q) j = Tb col n bs r q * Tz col n N bs j - Tz col n N bs q * Tb col n bs r j := by
  have a := Lz_pv (N := N) h hr hq (col j)
  have w : wz n N q = 0 := by unfold wz; rw [if_neg (by omega)]
  have b : Tb col n bs r j = Dt n (upd (VB col bs) r (col j)) := rfl
  unfold Tz
  rw [dd_pv, w, b]
  grind
/-- what holds all along -/
structure Inv (col : Nat → Vc) (n N : Nat) (bs : Nat → Nat) : Prop where
  cr : Cr n (VB col bs)
  pos : 0 < dd col n bs
  feas : ∀ i, i < n → 0 ≤ Tb col n bs i (N + n)
  lt : ∀ i, i < n → bs i < N + n
/-- the choice of a column and a row -/
structure Piv (col : Nat → Vc) (n N : Nat) (bs : Nat → Nat) (r q : Nat) : Prop where
  ql : q < N
  qp : 0 < Tz col n N bs q
  qm : ∀ j, j < q → Tz col n N bs j ≤ 0
  rl : r < n
  rp : 0 < Tb col n bs r q
  rm : ∀ i, i < n → 0 < Tb col n bs i q → Tb col n bs r (N + n) * Tb col n bs i q < Tb col n bs i (N + n) * Tb col n bs r q ∨ (Tb col n bs r (N + n) * Tb col n bs i q = Tb col n bs i (N + n) * Tb col n bs r q ∧ bs r ≤ bs i)
theorem Inv.step (h : Inv col n N bs) {r q : Nat} (p : Piv col n N bs r q) : Inv col n N (pv bs r q) := by
  refine ⟨?_, ?_, ?_, ?_⟩
  · rw [VB_pv]; exact Cr_upd h.cr (by have := h.pos; unfold dd at this; omega) p.rl _
  · rw [dd_pv]; exact p.rp
  · intro i hi
    by_cases c : i = r
    · subst c; rw [Tb_pv_r]; exact h.feas i hi
    · have e := Tb_pv h.cr p.rl hi c q (N + n)
      have hp := h.pos
      have : 0 ≤ dd col n bs * Tb col n (pv bs r q) i (N + n) := by
        rw [e]
        by_cases s : 0 < Tb col n bs i q
        · have := p.rm i hi s
          have c1 := Int.mul_comm (Tb col n bs r q) (Tb col n bs i (N + n))
          have c2 := Int.mul_comm (Tb col n bs i q) (Tb col n bs r (N + n))
          omega
        · have a1 : 0 ≤ Tb col n bs r q * Tb col n bs i (N + n) := Int.mul_nonneg (by have := p.rp; omega) (h.feas i hi)
          have a2 : Tb col n bs i q * Tb col n bs r (N + n) ≤ 0 := Int.mul_nonpos_of_nonpos_of_nonneg (by omega) (h.feas r p.rl)
          omega
      exact Int.nonneg_of_mul_nonneg_right this hp
  · intro i hi
    unfold pv
    by_cases c : i = r
    · rw [if_pos c]; have := p.ql; omega
    · rw [if_neg c]; exact h.lt i hi
theorem Tb_basic (h : Inv col n N bs) {i k : Nat} (hi : i < n) (hk : k < n) : Tb col n bs i (bs k) = if i = k then dd col n bs else 0 := by
  unfold Tb
  by_cases c : i = k
  · subst c
    rw [if_pos rfl]
    have : upd (VB col bs) i (col (bs i)) = VB col bs := upd_self (VB col bs) i
    rw [this]; rfl
  · rw [if_neg c]
    exact Dt_two (a := i) (b := k) c hi hk (by rw [upd_at, upd_ne _ (fun e => c e.symm)]; rfl)
theorem Tz_basic (h : Inv col n N bs) {k : Nat} (hk : k < n) : Tz col n N bs (bs k) = 0 := by
  unfold Tz Lz
  rw [sm_one (a := k) hk]
  · have e := Tb_basic h hk hk
    unfold Tb at e
    rw [e, if_pos rfl]
    have := h.lt k hk
    by_cases c : N ≤ bs k
    · rw [if_pos c]; unfold wz; rw [if_pos ⟨c, this⟩]; omega
    · rw [if_neg c]; unfold wz; rw [if_neg (by omega)]; omega
  · intro i hi hne
    have e := Tb_basic h hi hk
    unfold Tb at e
    rw [e, if_neg hne]
    by_cases c : N ≤ bs i <;> simp [c]
theorem sm_pos {n : Nat} {f : Nat → Int} (h : 0 < sm n f) : ∃ i, i < n ∧ 0 < f i := by
  induction n with
  | zero => simp [sm] at h
  | succ n ih =>
    simp only [sm] at h
    by_cases c : 0 < f n
    · exact ⟨n, by omega, c⟩
    · obtain ⟨i, hi, hp⟩ := ih (by omega)
      exact ⟨i, by omega, hp⟩
/-- a row can be chosen -/
theorem row_ex {q : Nat} (hq : q < N) (hz : 0 < Tz col n N bs q) : ∃ i, i < n ∧ 0 < Tb col n bs i q := by
  unfold Tz at hz
  have w : wz n N q = 0 := by unfold wz; rw [if_neg (by omega)]
  rw [w] at hz
  unfold Lz at hz
  obtain ⟨i, hi, hp⟩ := sm_pos (by simpa using hz)
  refine ⟨i, hi, ?_⟩
  by_cases c : N ≤ bs i
  · rw [if_pos c] at hp; exact hp
  · rw [if_neg c] at hp; omega
end
end Sx

set_option linter.all false
set_option maxHeartbeats 4000000
namespace Sx
/-! Bland's rule: no basis comes twice. -/
structure Run (col : Nat → Vc) (n N : Nat) (L : Nat) (B : Nat → Nat → Nat) (r q : Nat → Nat) : Prop where
  inv : Inv col n N (B 0)
  piv : ∀ m, m < L → Piv col n N (B m) (r m) (q m)
  nxt : ∀ m, m < L → B (m + 1) = pv (B m) (r m) (q m)
section
variable {col : Nat → Vc} {n N L : Nat} {B : Nat → Nat → Nat} {r q : Nat → Nat}
theorem Run.invs (R : Run col n N L B r q) : ∀ m, m ≤ L → Inv col n N (B m)
  | 0, _ => R.inv
  | m + 1, h => by rw [R.nxt m (by omega)]; exact (R.invs m (by omega)).step (R.piv m (by omega))
def Bas (n : Nat) (bs : Nat → Nat) (x : Nat) : Prop := ∃ i, i < n ∧ bs i = x
theorem ent_not (h : Inv col n N bs) {r q : Nat} (p : Piv col n N bs r q) : ¬ Bas n bs q := by
  rintro ⟨i, hi, e⟩
  have := Tz_basic h hi
  rw [e] at this
  have := p.qp
  omega
theorem bas_inj (h : Inv col n N bs) {i k : Nat} (hi : i < n) (hk : k < n) (e : bs i = bs k) : i = k := by
  by_cases c : i = k
  · exact c
  · have a := Tb_basic h hi hi
    rw [if_pos rfl, e, Tb_basic h hi hk, if_neg c] at a
    have := h.pos
    omega
/-- who never leaves stays -/
theorem stay (R : Run col n N L B r q) {x : Nat} (hx : ∀ m, m < L → B m (r m) ≠ x) {a : Nat} : ∀ b, a + b ≤ L → Bas n (B a) x → Bas n (B (a + b)) x
  | 0, _, h => h
  | b + 1, hb, h => by
    obtain ⟨i, hi, e⟩ := stay R hx b (by omega) h
    refine ⟨i, hi, ?_⟩
    rw [← Nat.add_assoc, R.nxt _ (by omega)]
    unfold pv
    rw [if_neg]
    · exact e
    · intro c; exact hx (a + b) (by omega) (by rw [← c]; exact e)
/-- who never enters stays away -/
theorem away (R : Run col n N L B r q) {x : Nat} (hx : ∀ m, m < L → q m ≠ x) {a : Nat} : ∀ b, a + b ≤ L → ¬ Bas n (B a) x → ¬ Bas n (B (a + b)) x
  | 0, _, h => h
  | b + 1, hb, h => by
    have ih := away R hx b (by omega) h
    rintro ⟨i, hi, e⟩
    rw [← Nat.add_assoc, R.nxt _ (by omega)] at e
    unfold pv at e
    by_cases c : i = r (a + b)
    · rw [if_pos c] at e; exact hx _ (by omega) e
    · rw [if_neg c] at e; exact ih ⟨i, hi, e⟩
theorem bas_congr {bs bs' : Nat → Nat} (h : ∀ k, k < n → bs k = bs' k) {x : Nat} : Bas n bs x → Bas n bs' x := by
  rintro ⟨i, hi, e⟩; exact ⟨i, hi, by rw [← h i hi]; exact e⟩
/-- fractions -/
theorem fr_trans {a b c d e f : Int} (hb : 0 < b) (hd : 0 < d) (hf : 0 < f) (h1 : a * d ≤ c * b) (h2 : c * f ≤ e * d) : a * f ≤ e * b := by
  have x1 : a * d * f ≤ c * b * f := Int.mul_le_mul_of_nonneg_right h1 (by omega)
  have x2 : c * f * b ≤ e * d * b := Int.mul_le_mul_of_nonneg_right h2 (by omega)
  have x3 : d * (a * f) ≤ d * (e * b) := by grind
  exact Int.le_of_mul_le_mul_left x3 hd
theorem fr_trans_lt {a b c d e f : Int} (hb : 0 < b) (hd : 0 < d) (hf : 0 < f) (h1 : a * d ≤ c * b) (h2 : c * f < e * d) : a * f < e * b := by
  have x1 : a * d * f ≤ c * b * f := Int.mul_le_mul_of_nonneg_right h1 (by omega)
  have x2 : c * f * b < e * d * b := Int.mul_lt_mul_of_pos_right h2 hb
  have x3 : d * (a * f) < d * (e * b) := by grind
  exact Int.lt_of_mul_lt_mul_left x3 (by omega)
theorem fr_trans_lt' {a b c d e f : Int} (hb : 0 < b) (hd : 0 < d) (hf : 0 < f) (h1 : a * d < c * b) (h2 : c * f ≤ e * d) : a * f < e * b := by
  have x1 : a * d * f < c * b * f := Int.mul_lt_mul_of_pos_right h1 hf
  have x2 : c * f * b ≤ e * d * b := Int.mul_le_mul_of_nonneg_right h2 (by omega)
  have x3 : d * (a * f) < d * (e * b) := by grind
  exact Int.lt_of_mul_lt_mul_left x3 (by omega)
theorem zstep (R : Run col n N L B r q) {m : Nat} (hm : m < L) : dd col n (B m) * Tz col n N (B (m + 1)) (N + n) = dd col n (B (m + 1)) * Tz col n N (B m) (N + n) - Tz col n N (B m) (q m) * Tb col n (B m) (r m) (N + n) := by
  have p := R.piv m hm
  rw [R.nxt m hm, Tz_pv (R.invs m (by omega)).cr p.rl p.ql, dd_pv]
theorem zmono (R : Run col n N L B r q) {a : Nat} : ∀ b, a + b ≤ L → Tz col n N (B (a + b)) (N + n) * dd col n (B a) ≤ Tz col n N (B a) (N + n) * dd col n (B (a + b))
  | 0, _ => Int.le_refl _
  | b + 1, h => by
    have ih := zmono R b (by omega : a + b ≤ L)
    have z := zstep R (m := a + b) (by omega)
    have p := R.piv (a + b) (by omega)
    have i0 := (R.invs a (by omega)).pos
    have i1 := (R.invs (a + b) (by omega)).pos
    have i2 := (R.invs (a + b + 1) (by omega)).pos
    have f := (R.invs (a + b) (by omega)).feas _ p.rl
    have g : 0 ≤ Tz col n N (B (a + b)) (q (a + b)) * Tb col n (B (a + b)) (r (a + b)) (N + n) := Int.mul_nonneg (by have := p.qp; omega) f
    rw [← Nat.add_assoc]
    refine fr_trans (c := Tz col n N (B (a + b)) (N + n)) (d := dd col n (B (a + b))) i2 i1 i0 ?_ ih
    have c1 := Int.mul_comm (Tz col n N (B (a + b + 1)) (N + n)) (dd col n (B (a + b)))
    have c2 := Int.mul_comm (Tz col n N (B (a + b)) (N + n)) (dd col n (B (a + b + 1)))
    omega
theorem VB_congr {bs bs' : Nat → Nat} (h : ∀ k, k < n → bs k = bs' k) (i : Nat) (x : Vc) : Dt n (upd (VB col bs) i x) = Dt n (upd (VB col bs') i x) := by
  refine Dt_congr n _ _ fun a ha b hb => ?_
  by_cases c : a = i
  · subst c; rw [upd_at, upd_at]
  · rw [upd_ne _ c, upd_ne _ c]; unfold VB; rw [h a ha]
theorem dd_congr {bs bs' : Nat → Nat} (h : ∀ k, k < n → bs k = bs' k) : dd col n bs = dd col n bs' := by
  unfold dd
  refine Dt_congr n _ _ fun a ha b hb => ?_
  unfold VB; rw [h a ha]
theorem Tz_congr {bs bs' : Nat → Nat} (h : ∀ k, k < n → bs k = bs' k) (j : Nat) : Tz col n N bs j = Tz col n N bs' j := by
  unfold Tz Lz
  rw [dd_congr h]
  congr 1
  refine sm_congr fun i hi => ?_
  rw [h i hi, VB_congr h]
/-- within a circle every step is idle -/
theorem idle (R : Run col n N L B r q) (hc : ∀ k, k < n → B 0 k = B L k) {m : Nat} (hm : m < L) : Tb col n (B m) (r m) (N + n) = 0 := by
  have p := R.piv m hm
  have f := (R.invs m (by omega)).feas _ p.rl
  by_cases c : Tb col n (B m) (r m) (N + n) = 0
  · exact c
  · exfalso
    have z := zstep R hm
    have g : 0 < Tz col n N (B m) (q m) * Tb col n (B m) (r m) (N + n) := Int.mul_pos p.qp (by omega)
    have m1 := zmono R (a := 0) m (by omega)
    have m2 := zmono R (a := m + 1) (L - (m + 1)) (by omega)
    rw [Nat.zero_add] at m1
    have e : m + 1 + (L - (m + 1)) = L := by omega
    rw [e] at m2
    have i0 := (R.invs 0 (by omega)).pos
    have i1 := (R.invs m (by omega)).pos
    have i2 := (R.invs (m + 1) (by omega)).pos
    have iL := (R.invs L (by omega)).pos
    have st : Tz col n N (B (m + 1)) (N + n) * dd col n (B m) < Tz col n N (B m) (N + n) * dd col n (B (m + 1)) := by
      have c1 := Int.mul_comm (Tz col n N (B (m + 1)) (N + n)) (dd col n (B m))
      have c2 := Int.mul_comm (Tz col n N (B m) (N + n)) (dd col n (B (m + 1)))
      omega
    have s1 := fr_trans_lt' i2 i1 i0 st m1
    have s2 := fr_trans_lt iL i2 i0 m2 s1
    rw [← dd_congr hc, ← Tz_congr hc] at s2
    omega
/-- a variable that is once out has the value 0 all along -/
theorem zero_val (R : Run col n N L B r q) (hc : ∀ k, k < n → B 0 k = B L k) {x m0 : Nat} (h0 : m0 ≤ L) (hx : ¬ Bas n (B m0) x) {m : Nat} (hm : m ≤ L) {i : Nat} (hi : i < n) (e : B m i = x) : Tb col n (B m) i (N + n) = 0 := by
  have fw : ∀ a, a < L → (∀ i, i < n → B a i = x → Tb col n (B a) i (N + n) = 0) → ∀ i, i < n → B (a + 1) i = x → Tb col n (B (a + 1)) i (N + n) = 0 := by
    intro a ha h i hi e
    have p := R.piv a ha
    have z := idle R hc ha
    rw [R.nxt a ha] at e ⊢
    by_cases c : i = r a
    · subst c; rw [Tb_pv_r]; exact z
    · unfold pv at e; rw [if_neg c] at e
      have t := Tb_pv (R.invs a (by omega)).cr p.rl hi c (q a) (N + n)
      rw [h i hi e, z] at t
      have t' : dd col n (B a) * Tb col n (pv (B a) (r a) (q a)) i (N + n) = 0 := by grind
      have := (R.invs a (by omega)).pos
      rcases Int.mul_eq_zero.mp t' with t | t
      · omega
      · exact t
  have bw : ∀ a, a < L → (∀ i, i < n → B (a + 1) i = x → Tb col n (B (a + 1)) i (N + n) = 0) → ∀ i, i < n → B a i = x → Tb col n (B a) i (N + n) = 0 := by
    intro a ha h i hi e
    have p := R.piv a ha
    have z := idle R hc ha
    by_cases c : i = r a
    · subst c; exact z
    · have t := Tb_pv (R.invs a (by omega)).cr p.rl hi c (q a) (N + n)
      have e' : B (a + 1) i = x := by rw [R.nxt a ha]; unfold pv; rw [if_neg c]; exact e
      have h' := h i hi e'
      rw [R.nxt a ha] at h'
      rw [h', z] at t
      have t' : Tb col n (B a) (r a) (q a) * Tb col n (B a) i (N + n) = 0 := by grind
      have := p.rp
      rcases Int.mul_eq_zero.mp t' with t | t
      · omega
      · exact t
  have P0 : ∀ i, i < n → B m0 i = x → Tb col n (B m0) i (N + n) = 0 := fun i hi e => absurd ⟨i, hi, e⟩ hx
  have up : ∀ b, m0 + b ≤ L → ∀ i, i < n → B (m0 + b) i = x → Tb col n (B (m0 + b)) i (N + n) = 0 := by
    intro b
    induction b with
    | zero => intro _; exact P0
    | succ b ih => intro hb; exact fw (m0 + b) (by omega) (ih (by omega))
  have dn : ∀ b, b ≤ m0 → ∀ i, i < n → B (m0 - b) i = x → Tb col n (B (m0 - b)) i (N + n) = 0 := by
    intro b
    induction b with
    | zero => intro _; exact P0
    | succ b ih =>
      intro hb
      have := bw (m0 - (b + 1)) (by omega)
      rw [show m0 - (b + 1) + 1 = m0 - b by omega] at this
      exact this (ih (by omega))
  by_cases c : m0 ≤ m
  · have := up (m - m0) (by omega) i hi
    rw [show m0 + (m - m0) = m by omega] at this
    exact this e
  · have := dn (m0 - m) (by omega) i hi
    rw [show m0 - (m0 - m) = m by omega] at this
    exact this e
theorem max_ex (f : Nat → Nat) : ∀ L, 0 < L → ∃ m, m < L ∧ ∀ k, k < L → f k ≤ f m
  | 0, h => by omega
  | L + 1, _ => by
    by_cases c : L = 0
    · subst c; exact ⟨0, by omega, fun k hk => by rw [show k = 0 by omega]; exact Nat.le_refl _⟩
    · obtain ⟨m, hm, h⟩ := max_ex f L (by omega)
      by_cases d : f m ≤ f L
      · refine ⟨L, by omega, fun k hk => ?_⟩
        by_cases e : k = L
        · subst e; exact Nat.le_refl _
        · exact Nat.le_trans (h k (by omega)) d
      · refine ⟨m, by omega, fun k hk => ?_⟩
        by_cases e : k = L
        · subst e; omega
        · exact h k (by omega)
theorem sm_neg {n : Nat} {f : Nat → Int} (h : sm n f < 0) : ∃ i, i < n ∧ f i < 0 := by
  induction n with
  | zero => simp [sm] at h
  | succ n ih =>
    simp only [sm] at h
    by_cases c : f n < 0
    · exact ⟨n, by omega, c⟩
    · obtain ⟨i, hi, hp⟩ := ih (by omega)
      exact ⟨i, by omega, hp⟩
/-- the last row of one basis, by the rows of another one -/
theorem two_rows {bs bt : Nat → Nat} (hs : Inv col n N bs) (ht : Inv col n N bt) {s : Nat} (hsN : s < N) : dd col n bs * Tz col n N bt s = sm n (fun i => Tb col n bs i s * Tz col n N bt (bs i)) + dd col n bt * Tz col n N bs s := by
  have lin : ∀ x y : Vc, (∀ j, j < n → x j = y j) → Lz col n N bt x = Lz col n N bt y := by
    intro x y h
    unfold Lz
    refine sm_congr fun i hi => ?_
    have : Dt n (upd (VB col bt) i x) = Dt n (upd (VB col bt) i y) := by
      refine Dt_congr n _ _ fun a ha b hb => ?_
      by_cases c : a = i
      · subst c; rw [upd_at, upd_at]; exact h b hb
      · rw [upd_ne _ c, upd_ne _ c]
    rw [this]
  have sc : ∀ (c : Int) (x : Vc), Lz col n N bt (fun j => c * x j) = c * Lz col n N bt x := by
    intro c x
    unfold Lz
    rw [← sm_mul]
    refine sm_congr fun i hi => ?_
    rw [Dt_scale hi]
    by_cases d : N ≤ bt i <;> simp [d]
  have su : ∀ (c : Nat → Int) (w : Nat → Vc), Lz col n N bt (fun j => sm n fun k => c k * w k j) = sm n fun k => c k * Lz col n N bt (w k) := by
    intro c w
    unfold Lz
    have : ∀ i, i < n → (if N ≤ bt i then Dt n (upd (VB col bt) i (fun j => sm n fun k => c k * w k j)) else 0) = sm n (fun k => c k * (if N ≤ bt i then Dt n (upd (VB col bt) i (w k)) else 0)) := by
      intro i hi
      by_cases d : N ≤ bt i
      · simp only [d, if_true]; exact Dt_sum hi n c w
      · simp only [d, if_false]
        exact (sm_zero (fun k _ => by simp)).symm
    rw [sm_congr this, sm_comm]
    refine sm_congr fun k _ => ?_
    rw [sm_mul]
  have w0 : wz n N s = 0 := by unfold wz; rw [if_neg (by omega)]
  have e1 : dd col n bs * Lz col n N bt (col s) = sm n (fun i => Tb col n bs i s * Lz col n N bt (col (bs i))) := by
    have e0 := lin (fun j => dd col n bs * col s j) (fun j => sm n fun i => Tb col n bs i s * VB col bs i j) (fun j hj => hs.cr (col s) j hj)
    rw [← sc, e0]
    exact su _ _
  have e2 : sm n (fun i => Tb col n bs i s * Lz col n N bt (col (bs i))) = sm n (fun i => Tb col n bs i s * Tz col n N bt (bs i) + dd col n bt * (if N ≤ bs i then Tb col n bs i s else 0)) := by
    refine sm_congr fun i hi => ?_
    unfold Tz wz
    have := hs.lt i hi
    by_cases c : N ≤ bs i
    · rw [if_pos c, if_pos ⟨c, this⟩]; grind
    · rw [if_neg c, if_neg (by omega)]; grind
  have e3 : Tz col n N bt s = Lz col n N bt (col s) := by unfold Tz; rw [w0]; omega
  have e4 : Tz col n N bs s = sm n (fun i => if N ≤ bs i then Tb col n bs i s else 0) := by unfold Tz; rw [w0]; unfold Lz Tb; omega
  rw [e3, e1, e2, sm_add, sm_mul, ← e4]
/-- no basis comes twice -/
theorem bland (R : Run col n N L B r q) (hL : 0 < L) (hc : ∀ k, k < n → B 0 k = B L k) : False := by
  obtain ⟨ms, hms, mx⟩ := max_ex q L hL
  have ps := R.piv ms hms
  have is := R.invs ms (by omega)
  have away' : ∀ {x a b : Nat}, a ≤ L → b ≤ L → (∀ m, m < L → q m ≠ x) → ¬ Bas n (B a) x → ¬ Bas n (B b) x := by
    intro x a b ha hb hx h
    have h1 := away R hx (a := a) (L - a) (by omega) h
    rw [show a + (L - a) = L by omega] at h1
    have h2 : ¬ Bas n (B 0) x := fun h => h1 (bas_congr hc h)
    have h3 := away R hx (a := 0) b (by omega) h2
    rwa [Nat.zero_add] at h3
  -- the greatest one that enters leaves as well
  have lv : ∃ m, m < L ∧ B m (r m) = q ms := by
    by_cases c : ∃ m, m < L ∧ B m (r m) = q ms
    · exact c
    · exfalso
      have hx : ∀ m, m < L → B m (r m) ≠ q ms := fun m hm e => c ⟨m, hm, e⟩
      have b1 : Bas n (B (ms + 1)) (q ms) := ⟨r ms, ps.rl, by rw [R.nxt ms hms]; unfold pv; rw [if_pos rfl]⟩
      have b2 := stay R hx (a := ms + 1) (L - (ms + 1)) (by omega) b1
      rw [show ms + 1 + (L - (ms + 1)) = L by omega] at b2
      have b3 : Bas n (B 0) (q ms) := bas_congr (fun k hk => (hc k hk).symm) b2
      have b4 := stay R hx (a := 0) ms (by omega) b3
      rw [Nat.zero_add] at b4
      exact ent_not is ps b4
  obtain ⟨m, hm, hlv⟩ := lv
  have p := R.piv m hm
  have iv := R.invs m (by omega)
  have hst : q m < q ms := by
    have := mx m hm
    by_cases e : q m = q ms
    · exfalso
      exact ent_not iv p ⟨r m, p.rl, by rw [hlv, e]⟩
    · omega
  have tr := two_rows iv is p.ql
  have g1 := p.qp
  have g2 := is.pos
  have g3 : Tz col n N (B ms) (q m) ≤ 0 := ps.qm _ hst
  have g4 : dd col n (B m) * Tz col n N (B ms) (q m) ≤ 0 := Int.mul_nonpos_of_nonneg_of_nonpos (by have := iv.pos; omega) g3
  have g5 : 0 < dd col n (B ms) * Tz col n N (B m) (q m) := Int.mul_pos g2 g1
  obtain ⟨i, hi, hneg⟩ := sm_neg (n := n) (f := fun i => Tb col n (B m) i (q m) * Tz col n N (B ms) (B m i)) (by omega)
  have nb : ¬ Bas n (B ms) (B m i) := by
    rintro ⟨k, hk, e⟩
    have := Tz_basic is hk
    rw [e] at this
    simp only [this] at hneg
    omega
  have ent : ∃ m', m' < L ∧ q m' = B m i := by
    by_cases c : ∃ m', m' < L ∧ q m' = B m i
    · exact c
    · exfalso
      exact away' (a := ms) (b := m) (by omega) (by omega) (fun k hk e => c ⟨k, hk, e⟩) nb ⟨i, hi, rfl⟩
  obtain ⟨m', hm', e'⟩ := ent
  have le := mx m' hm'
  rw [e'] at le
  have ne : B m i ≠ q ms := by
    intro e
    have ir : i = r m := bas_inj iv hi p.rl (by rw [e, hlv])
    subst ir
    have := Int.mul_pos p.rp ps.qp
    rw [← e] at this
    omega
  have lt : B m i < q ms := by omega
  have c1 : Tz col n N (B ms) (B m i) ≤ 0 := ps.qm _ lt
  have c2 : 0 < Tb col n (B m) i (q m) := by
    by_cases c : 0 < Tb col n (B m) i (q m)
    · exact c
    · exfalso
      have := Int.mul_nonneg_of_nonpos_of_nonpos (show Tb col n (B m) i (q m) ≤ 0 by omega) c1
      omega
  have z1 := zero_val R hc (m0 := ms) (by omega) nb (m := m) (by omega) hi rfl
  have z2 := idle R hc hm
  have := p.rm i hi c2
  rw [z1, z2, hlv] at this
  simp at this
  omega
end
end Sx

set_option linter.all false
set_option maxHeartbeats 4000000
namespace Sx
/-! How long a run can be, and what its end tells. -/
theorem pigeon : ∀ (K M : Nat) (f : Nat → Nat), (∀ i, i < M → f i < K) → (∀ i j, i < j → j < M → f i ≠ f j) → M ≤ K
  | 0, M, f, h, _ => by
    by_cases c : M = 0
    · omega
    · have := h 0 (by omega); omega
  | K + 1, M, f, h, inj => by
    by_cases c : ∃ a, a < M ∧ f a = K
    · obtain ⟨a, ha, e⟩ := c
      have := pigeon K (M - 1) (fun i => if i < a then f i else f (i + 1)) (fun i hi => by
        by_cases d : i < a
        · simp only [d, if_true]
          have h1 := h i (by omega)
          have h2 := inj i a d ha
          omega
        · simp only [d, if_false]
          have h1 := h (i + 1) (by omega)
          have h2 := inj a (i + 1) (by omega) (by omega)
          omega) (fun i j hij hj => by
        by_cases d : i < a
        · by_cases d' : j < a
          · simp only [d, d', if_true]; exact inj i j hij (by omega)
          · simp only [d, d', if_true, if_false]; exact inj i (j + 1) (by omega) (by omega)
        · have d' : ¬ j < a := by omega
          simp only [d, d', if_false]; exact inj (i + 1) (j + 1) (by omega) (by omega))
      omega
    · have := pigeon K M f (fun i hi => by
        have h1 := h i hi
        have h2 : f i ≠ K := fun e => c ⟨i, hi, e⟩
        omega) inj
      omega
def enc : Nat → (Nat → Nat) → Nat
  | 0, _ => 0
  | n + 1, bs => enc n bs * 64 + bs n
theorem enc_lt : ∀ (n : Nat) (bs : Nat → Nat), (∀ i, i < n → bs i < 64) → enc n bs < 64 ^ n
  | 0, _, _ => by simp [enc]
  | n + 1, bs, h => by
    have a := enc_lt n bs (fun i hi => h i (by omega))
    have b := h n (by omega)
    simp only [enc, Nat.pow_succ]
    omega
theorem enc_inj : ∀ (n : Nat) (bs bt : Nat → Nat), (∀ i, i < n → bs i < 64) → (∀ i, i < n → bt i < 64) → enc n bs = enc n bt → ∀ i, i < n → bs i = bt i
  | 0, _, _, _, _, _, i, hi => by omega
  | n + 1, bs, bt, h1, h2, e, i, hi => by
    have a := h1 n (by omega)
    have b := h2 n (by omega)
    simp only [enc] at e
    by_cases c : i = n
    · subst c; omega
    · exact enc_inj n bs bt (fun i hi => h1 i (by omega)) (fun i hi => h2 i (by omega)) (by omega) i (by omega)
section
variable {col : Nat → Vc} {n N L : Nat} {B : Nat → Nat → Nat} {r q : Nat → Nat}
theorem run_short (R : Run col n N L B r q) (hN : N + n ≤ 64) : L + 1 ≤ 64 ^ n := by
  have lt : ∀ m, m ≤ L → ∀ i, i < n → B m i < 64 := fun m hm i hi => by
    have := (R.invs m hm).lt i hi; omega
  refine pigeon (64 ^ n) (L + 1) (fun m => enc n (B m)) (fun m hm => enc_lt n _ (lt m (by omega))) (fun a b hab hb e => ?_)
  have eq := enc_inj n (B a) (B b) (lt a (by omega)) (lt b (by omega)) e
  have R' : Run col n N (b - a) (fun m => B (a + m)) (fun m => r (a + m)) (fun m => q (a + m)) := by
    refine ⟨?_, fun m hm => R.piv (a + m) (by omega), fun m hm => ?_⟩
    · exact R.invs a (by omega)
    · have := R.nxt (a + m) (by omega)
      rw [← Nat.add_assoc]; exact this
  refine bland R' (by omega) (fun k hk => ?_)
  show B (a + 0) k = B (a + (b - a)) k
  rw [show a + (b - a) = b by omega, Nat.add_zero]
  exact eq k hk
variable {bs : Nat → Nat}
theorem Lz_units (x : Vc) : Lz col n N bs x = sm n fun k => x k * Lz col n N bs (unit k) := by
  unfold Lz
  have : ∀ i, i < n → (if N ≤ bs i then Dt n (upd (VB col bs) i x) else 0) = sm n (fun k => x k * (if N ≤ bs i then Dt n (upd (VB col bs) i (unit k)) else 0)) := by
    intro i hi
    by_cases d : N ≤ bs i
    · simp only [d, if_true]
      rw [← Dt_sum hi]
      refine Dt_congr n _ _ fun a ha b hb => ?_
      by_cases h : a = i
      · subst h
        rw [upd_at, upd_at, sm_one (a := b) hb]
        · simp [unit]
        · intro k hk hne
          have : unit k b = 0 := by unfold unit; rw [if_neg (by omega)]
          rw [this]; simp
      · rw [upd_ne _ h, upd_ne _ h]
    · simp only [d, if_false]
      exact (sm_zero (fun k _ => by simp)).symm
  rw [sm_congr this, sm_comm]
  refine sm_congr fun k _ => ?_
  rw [sm_mul]
/-- the multipliers -/
theorem far (hu : ∀ k, k < n → col (N + k) = unit k) {j : Nat} (hj : j < N ∨ j = N + n) : (sm n fun k => col j k * (Tz col n N bs (N + k) + dd col n bs)) = Tz col n N bs j := by
  have w : wz n N j = 0 := by unfold wz; rw [if_neg (by omega)]
  have e : Tz col n N bs j = Lz col n N bs (col j) := by unfold Tz; rw [w]; omega
  rw [e, Lz_units]
  refine sm_congr fun k hk => ?_
  have w1 : wz n N (N + k) = 1 := by unfold wz; rw [if_pos (by omega)]
  have : Tz col n N bs (N + k) + dd col n bs = Lz col n N bs (unit k) := by unfold Tz; rw [w1, hu k hk]; omega
  rw [this]
def fnd (col : Nat → Vc) (n N : Nat) (bs : Nat → Nat) (j : Nat) : Int := sm n fun i => if bs i = j then Tb col n bs i (N + n) else 0
theorem sm_eq_zero {n : Nat} {f : Nat → Int} (h : ∀ i, i < n → 0 ≤ f i) (hz : sm n f = 0) : ∀ i, i < n → f i = 0 := by
  induction n with
  | zero => intro i hi; omega
  | succ n ih =>
    have a := sm_nonneg (n := n) (fun i hi => h i (by omega))
    have b := h n (by omega)
    simp only [sm] at hz
    intro i hi
    by_cases c : i = n
    · subst c; omega
    · exact ih (fun i hi => h i (by omega)) (by omega) i (by omega)
theorem fnd_nonneg (h : Inv col n N bs) (j : Nat) : 0 ≤ fnd col n N bs j := by
  unfold fnd
  refine sm_nonneg fun i hi => ?_
  by_cases c : bs i = j
  · rw [if_pos c]; exact h.feas i hi
  · rw [if_neg c]; exact Int.le_refl _
theorem fnd_at (h : Inv col n N bs) {i : Nat} (hi : i < n) : fnd col n N bs (bs i) = Tb col n bs i (N + n) := by
  unfold fnd
  rw [sm_one (a := i) hi]
  · rw [if_pos rfl]
  · intro k hk hne
    rw [if_neg (fun e => hne (bas_inj h hk hi e))]
theorem fnd_out {j : Nat} (hj : ∀ i, i < n → bs i ≠ j) : fnd col n N bs j = 0 := by
  unfold fnd
  exact sm_zero (fun i hi => by rw [if_neg (hj i hi)])
/-- the solution -/
theorem sol (h : Inv col n N bs) (hz : Tz col n N bs (N + n) = 0) {k : Nat} (hk : k < n) : (sm N fun j => col j k * fnd col n N bs j) = dd col n bs * col (N + n) k := by
  have w : wz n N (N + n) = 0 := by unfold wz; rw [if_neg (by omega)]
  have z : ∀ i, i < n → N ≤ bs i → Tb col n bs i (N + n) = 0 := by
    have e : sm n (fun i => if N ≤ bs i then Tb col n bs i (N + n) else 0) = 0 := by
      have : Tz col n N bs (N + n) = sm n (fun i => if N ≤ bs i then Tb col n bs i (N + n) else 0) := by
        unfold Tz; rw [w]; unfold Lz Tb; omega
      rw [← this]; exact hz
    intro i hi c
    have := sm_eq_zero (fun i hi => by
      by_cases c : N ≤ bs i
      · rw [if_pos c]; exact h.feas i hi
      · rw [if_neg c]; exact Int.le_refl _) e i hi
    rw [if_pos c] at this
    exact this
  have cr : dd col n bs * col (N + n) k = sm n (fun i => Tb col n bs i (N + n) * col (bs i) k) := h.cr (col (N + n)) k hk
  rw [cr]
  unfold fnd
  have e1 : sm N (fun j => col j k * sm n (fun i => if bs i = j then Tb col n bs i (N + n) else 0)) = sm N (fun j => sm n (fun i => col j k * (if bs i = j then Tb col n bs i (N + n) else 0))) := sm_congr fun j _ => by rw [sm_mul]
  rw [e1, sm_comm]
  refine sm_congr fun i hi => ?_
  by_cases c : bs i < N
  · rw [sm_one (a := bs i) c]
    · rw [if_pos rfl]; exact Int.mul_comm _ _
    · intro j hj hne
      rw [if_neg (fun e => hne e.symm)]; simp
  · rw [z i hi (by omega), sm_zero]
    · simp
    · intro j hj
      rw [if_neg (by omega)]; simp
/-- the start -/
theorem start (hu : ∀ k, k < n → col (N + k) = unit k) (hb : ∀ k, k < n → 0 ≤ col (N + n) k) : Inv col n N (fun i => N + i) ∧ dd col n (fun i => N + i) = 1 ∧ (∀ i j, i < n → Tb col n (fun i => N + i) i j = col j i) ∧ (∀ j, (j < N ∨ j = N + n) → Tz col n N (fun i => N + i) j = sm n (fun i => col j i)) ∧ (∀ k, k < n → Tz col n N (fun i => N + i) (N + k) = 0) := by
  have eV : ∀ i x, Dt n (upd (VB col (fun i => N + i)) i x) = Dt n (upd unit i x) := fun i x => Dt_congr n _ _ fun a ha b hb => by
    by_cases c : a = i
    · subst c; rw [upd_at, upd_at]
    · rw [upd_ne _ c, upd_ne _ c]; unfold VB; rw [hu a ha]
  have d1 : dd col n (fun i => N + i) = 1 := by
    unfold dd
    rw [← Dt_unit n]
    exact Dt_congr n _ _ fun a ha b hb => by unfold VB; rw [hu a ha]
  have t1 : ∀ i j, i < n → Tb col n (fun i => N + i) i j = col j i := fun i j hi => by
    unfold Tb; rw [eV, Dt_unit_upd hi]
  have I : Inv col n N (fun i => N + i) := by
    refine ⟨?_, by rw [d1]; decide, fun i hi => by rw [t1 i _ hi]; exact hb i hi, fun i hi => by omega⟩
    intro x j hj
    have := Cr_unit n x j hj
    rw [Dt_unit] at this
    have e : Dt n (VB col (fun i => N + i)) = 1 := d1
    rw [e, this]
    refine sm_congr fun i hi => ?_
    rw [eV]; unfold VB; rw [hu i hi]
  refine ⟨I, d1, t1, fun j hj => ?_, fun k hk => Tz_basic I hk⟩
  have w : wz n N j = 0 := by unfold wz; rw [if_neg (by omega)]
  unfold Tz Lz
  rw [w]
  have : ∀ i, i < n → (if N ≤ (fun i => N + i) i then Dt n (upd (VB col (fun i => N + i)) i (col j)) else 0) = col j i := fun i hi => by
    rw [if_pos (by show N ≤ N + i; omega)]; exact t1 i j hi
  rw [sm_congr this, Int.mul_zero, Int.sub_zero]
end
end Sx

set_option linter.all false
set_option maxRecDepth 100000
set_option maxHeartbeats 4000000
namespace Pg
open PySem hiding call exec
open Mp
/-! The table as data. -/
def rowL (W : Nat) (f : Nat → Int) : List D := (List.range W).map fun (j : Nat) => PyData.int (f j)
def rowD (W : Nat) (f : Nat → Int) : D := .list (rowL W f)
def tabL (W n : Nat) (T : Nat → Nat → Int) (z : Nat → Int) : List D := ((List.range n).map fun (i : Nat) => rowD W (T i)) ++ [rowD W z]
theorem rowL_at {W : Nat} {f : Nat → Int} {j : Nat} (hj : j < W) : atX (rowL W f) (j : Int) = some (.int (f j)) := by
  unfold atX rowL
  rw [if_pos (by omega), Int.toNat_natCast, List.getElem?_map, List.getElem?_range hj]
  rfl
theorem rowL_last {W : Nat} {f : Nat → Int} : atX (rowL (W + 1) f) (-1) = some (.int (f W)) := by
  unfold atX
  rw [if_neg (by omega), if_pos (by simp [rowL]; omega)]
  have : ((-1 : Int) + ((rowL (W + 1) f).length : Int)).toNat = W := by simp [rowL]; omega
  rw [this]
  unfold rowL
  rw [List.getElem?_map, List.getElem?_range (by omega)]
  rfl
theorem tabL_at {W n : Nat} {T : Nat → Nat → Int} {z : Nat → Int} {i : Nat} (hi : i < n) : atX (tabL W n T z) (i : Int) = some (rowD W (T i)) := by
  unfold atX tabL
  rw [if_pos (by omega), Int.toNat_natCast, List.getElem?_append_left (by simpa using hi), List.getElem?_map, List.getElem?_range hi]
  rfl
theorem tabL_last {W n : Nat} {T : Nat → Nat → Int} {z : Nat → Int} : atX (tabL W n T z) (-1) = some (rowD W z) := by
  unfold atX
  rw [if_neg (by omega), if_pos (by simp [tabL]; omega)]
  have : ((-1 : Int) + ((tabL W n T z).length : Int)).toNat = n := by simp [tabL]; omega
  rw [this]
  unfold tabL
  rw [List.getElem?_append_right (by simp)]
  simp
theorem tabL_len {W n : Nat} {T : Nat → Nat → Int} {z : Nat → Int} : (tabL W n T z).length = n + 1 := by simp [tabL]
/-- a search through a range -/
theorem forF_rng {step : D → Rho → O} (p : Nat → Bool) (o : Nat → D) (I : Rho → Prop) : ∀ (n lo : Nat) (ρ : Rho), I ρ → (∀ i ρ, lo ≤ i → i < lo + n → I ρ → (p i = true → step (.int (i : Int)) ρ = .ret (o i)) ∧ (p i = false → ∃ ρ', step (.int (i : Int)) ρ = .nxt ρ' ∧ I ρ')) →
    (∃ j, lo ≤ j ∧ j < lo + n ∧ p j = true ∧ (∀ k, lo ≤ k → k < j → p k = false) ∧ forF step ((List.range' lo n).map fun (i : Nat) => .int (i : Int)) ρ = .ret (o j)) ∨ ((∀ k, lo ≤ k → k < lo + n → p k = false) ∧ ∃ ρ', forF step ((List.range' lo n).map fun (i : Nat) => .int (i : Int)) ρ = .nxt ρ' ∧ I ρ')
  | 0, lo, ρ, h0, _ => .inr ⟨fun k h1 h2 => by omega, ρ, rfl, h0⟩
  | n + 1, lo, ρ, h0, hs => by
    rw [List.range'_succ, List.map_cons]
    have h := hs lo ρ (by omega) (by omega) h0
    cases hp : p lo with
    | true =>
      refine .inl ⟨lo, by omega, by omega, hp, fun k h1 h2 => by omega, ?_⟩
      simp only [forF, h.1 hp]
    | false =>
      obtain ⟨ρ1, e1, i1⟩ := h.2 hp
      rcases forF_rng p o I n (lo + 1) ρ1 i1 (fun i ρ a b c => hs i ρ (by omega) (by omega) c) with ⟨j, a, b, c, d, e⟩ | ⟨a, ρ', e, i⟩
      · refine .inl ⟨j, by omega, by omega, c, fun k h1 h2 => ?_, ?_⟩
        · by_cases hk : k = lo
          · subst hk; exact hp
          · exact d k (by omega) h2
        · simp only [forF, e1]; exact e
      · refine .inr ⟨fun k h1 h2 => ?_, ρ', ?_, i⟩
        · by_cases hk : k = lo
          · subst hk; exact hp
          · exact a k (by omega) (by omega)
        · simp only [forF, e1]; exact e
theorem rngX_eq (n : Nat) : rngX 0 n = (List.range' 0 n).map fun (i : Nat) => PyData.int (i : Int) := by
  unfold rngX
  rw [List.range_eq_range']
  refine List.map_congr_left fun i _ => ?_
  simp
def pcB : S := .ite (.cmp .gt (.ix (.ix (.var 0) (.neg (.lit (.int 1)))) (.var 2)) (.lit (.int 0))) (.ret (.var 2)) .skip
theorem pc_is : p_pick_column = (.seq (.for (.nm 2) (.rng (.var 1)) pcB) (.ret (.lit .none))) := rfl
theorem pcStep {cal : Str → List D → R D} {x : Option Sl} {t row : List D} {i v : Int} (e1 : atX t (-1) = some (.list row)) (e2 : atX row i = some (.int v)) : exec cal sub wf pcB [some (.dat (.list t)), x, some (.dat (.int i))] = if 0 < v then .ret (.int i) else .nxt [some (.dat (.list t)), x, some (.dat (.int i))] := by
  by_cases c : 0 < v <;> simp [pcB, eqS_ii, eqS_ss, exec, ev, evs, evo, evt, evi, startX, coS, coB, ltS, leS, gtS, geS, isS, isNone, bfS, tyS, ixS, boS, addS, subS, mulS, modS, fdivS, powS, negS, truth, truR, O.res, asgT, asgTs, mkT, mkL, optI, slS, frzAt, frzS, R.out, seqS, e1, e2, c]
section
variable {tbl : Str → Option Df} (h : Std tbl) {k : Nat}
include h
theorem pick_column {W n N : Nat} {T : Nat → Nat → Int} {z : Nat → Int} (hW : N ≤ W) (hN : N ≤ 1000) :
    (∃ j, j < N ∧ 0 < z j ∧ (∀ i, i < j → z i ≤ 0) ∧ call sub wf tbl (k + 1) "pick_column" [.list (tabL W n T z), .int (N : Int)] = .val (.int (j : Int))) ∨ ((∀ i, i < N → z i ≤ 0) ∧ call sub wf tbl (k + 1) "pick_column" [.list (tabL W n T z), .int (N : Int)] = .val .none) := by
  rw [call_eq h.t_pick_column rfl, pc_is]
  generalize call sub wf tbl k = cal
  have i1 : evi cal (.rng (.var 1)) [some (.dat (.list (tabL W n T z))), some (.dat (.int (N : Int))), none] = .val (rngX 0 N) := evi_rng (by
    generalize tabL W n T z = t
    generalize (N : Int) = m
    simp [eqS_ii, eqS_ss, exec, ev, evs, evo, evt, evi, startX, coS, coB, ltS, leS, gtS, geS, isS, isNone, bfS, tyS, ixS, boS, addS, subS, mulS, modS, fdivS, powS, negS, truth, truR, O.res, asgT, asgTs, mkT, mkL, optI, slS, frzAt, frzS, R.out, seqS]) hN
  have f := ex_for (s := sub) (w := wf) (b := pcB) (t := .nm 2) i1
  rw [rngX_eq] at f
  have g := forF_rng (step := forStep cal sub wf (.nm 2) pcB) (fun j => decide (0 < z j)) (fun j => .int (j : Int)) (fun ρ => ∃ o, ρ = [some (.dat (.list (tabL W n T z))), some (.dat (.int (N : Int))), o]) N 0 [some (.dat (.list (tabL W n T z))), some (.dat (.int (N : Int))), none] ⟨none, rfl⟩ (fun i ρ a b I => by
    obtain ⟨o, rfl⟩ := I
    have fs : forStep cal sub wf (.nm 2) pcB (.int (i : Int)) [some (.dat (.list (tabL W n T z))), some (.dat (.int (N : Int))), o] = exec cal sub wf pcB [some (.dat (.list (tabL W n T z))), some (.dat (.int (N : Int))), some (.dat (.int (i : Int)))] := fs_nm (by simp)
    have st := pcStep (cal := cal) (x := some (.dat (.int (N : Int)))) (t := tabL W n T z) (row := rowL W z) (i := (i : Int)) (v := z i) tabL_last (rowL_at (by omega))
    rw [fs, st]
    refine ⟨fun c => ?_, fun c => ?_⟩
    · rw [if_pos (by simpa using c)]
    · rw [if_neg (by simpa using c)]; exact ⟨_, rfl, _, rfl⟩)
  generalize pcB = Bd at *
  have st : startX 3 [PyData.list (tabL W n T z), .int (N : Int)] = [some (.dat (.list (tabL W n T z))), some (.dat (.int (N : Int))), none] := rfl
  rcases g with ⟨j, _, a, b, c, e⟩ | ⟨a, ρ', e, o, rfl⟩
  · refine .inl ⟨j, by omega, by simpa using b, fun i hi => by have := c i (by omega) hi; simpa using this, ?_⟩
    rw [st, ex_seq_ret (f.trans e)]; rfl
  · refine .inr ⟨fun i hi => by have := a i (by omega) (by omega); simpa using this, ?_⟩
    rw [st, ex_seq (f.trans e)]; rfl
end
end Pg

set_option linter.all false
set_option maxRecDepth 100000
set_option maxHeartbeats 4000000
namespace Pg
open PySem hiding call exec
open Mp
/-! pick_row -/
def prI : S := (.seq (.asg (.nm 5) (.bin .mul (.ix (.ix (.var 0) (.var 4)) (.neg (.lit (.int 1)))) (.ix (.ix (.var 0) (.var 3)) (.var 2)))) (.seq (.asg (.nm 6) (.bin .mul (.ix (.ix (.var 0) (.var 3)) (.neg (.lit (.int 1)))) (.ix (.ix (.var 0) (.var 4)) (.var 2)))) (.ite (.or (.cmp .lt (.var 5) (.var 6)) (.and (.cmp .eq (.var 5) (.var 6)) (.cmp .lt (.ix (.var 1) (.var 4)) (.ix (.var 1) (.var 3))))) (.asg (.nm 3) (.var 4)) .skip)))
def prB : S := (.ite (.cmp .gt (.ix (.ix (.var 0) (.var 4)) (.var 2)) (.lit (.int 0))) (.ite (.cmp .is (.var 3) (.lit .none)) (.asg (.nm 3) (.var 4)) prI) .skip)
theorem pr_is : p_pick_row = (.seq (.asg (.nm 3) (.lit .none)) (.seq (.for (.nm 4) (.rng (.bin .sub (.blt .len (.cons (.var 0) .nil)) (.lit (.int 1)))) prB) (.ret (.var 3)))) := rfl
section
variable {cal : Str → List D → R D} {t bl : List D} {q : Int} {o5 o6 : Option Sl}
theorem pr_no {b : D} {i v : Int} {row : List D} (e1 : atX t i = some (.list row)) (e2 : atX row q = some (.int v)) (hv : ¬ 0 < v) : exec cal sub wf prB [some (.dat (.list t)), some (.dat (.list bl)), some (.dat (.int q)), some (.dat b), some (.dat (.int i)), o5, o6] = .nxt [some (.dat (.list t)), some (.dat (.list bl)), some (.dat (.int q)), some (.dat b), some (.dat (.int i)), o5, o6] := by
  unfold prB
  generalize prI = I
  simp [eqS_ii, eqS_ss, exec, ev, evs, evo, evt, evi, startX, coS, coB, ltS, leS, gtS, geS, isS, isNone, bfS, tyS, ixS, boS, addS, subS, mulS, modS, fdivS, powS, negS, truth, truR, O.res, asgT, asgTs, mkT, mkL, optI, slS, frzAt, frzS, R.out, seqS, e1, e2, hv]
theorem pr_first {i v : Int} {row : List D} (e1 : atX t i = some (.list row)) (e2 : atX row q = some (.int v)) (hv : 0 < v) : exec cal sub wf prB [some (.dat (.list t)), some (.dat (.list bl)), some (.dat (.int q)), some (.dat .none), some (.dat (.int i)), o5, o6] = .nxt [some (.dat (.list t)), some (.dat (.list bl)), some (.dat (.int q)), some (.dat (.int i)), some (.dat (.int i)), o5, o6] := by
  unfold prB
  generalize prI = I
  simp [eqS_ii, eqS_ss, exec, ev, evs, evo, evt, evi, startX, coS, coB, ltS, leS, gtS, geS, isS, isNone, bfS, tyS, ixS, boS, addS, subS, mulS, modS, fdivS, powS, negS, truth, truR, O.res, asgT, asgTs, mkT, mkL, optI, slS, frzAt, frzS, R.out, seqS, e1, e2, hv]
theorem pr_more {i r v u a c x y : Int} {row best : List D} (e1 : atX t i = some (.list row)) (e2 : atX row q = some (.int v)) (e3 : atX t r = some (.list best)) (e4 : atX best q = some (.int u)) (e5 : atX row (-1) = some (.int a)) (e6 : atX best (-1) = some (.int c)) (e7 : atX bl i = some (.int x)) (e8 : atX bl r = some (.int y)) (hv : 0 < v) (m1 : mulOk a u = true) (m2 : mulOk c v = true) :
    ∃ o5' o6', exec cal sub wf prB [some (.dat (.list t)), some (.dat (.list bl)), some (.dat (.int q)), some (.dat (.int r)), some (.dat (.int i)), o5, o6] = .nxt [some (.dat (.list t)), some (.dat (.list bl)), some (.dat (.int q)), some (.dat (.int (if a * u < c * v ∨ (a * u = c * v ∧ x < y) then i else r))), some (.dat (.int i)), o5', o6'] := by
  refine ⟨some (.dat (.int (a * u))), some (.dat (.int (c * v))), ?_⟩
  unfold prB prI
  by_cases c1 : a * u < c * v
  · simp [eqS_ii, eqS_ss, exec, ev, evs, evo, evt, evi, startX, coS, coB, ltS, leS, gtS, geS, isS, isNone, bfS, tyS, ixS, boS, addS, subS, mulS, modS, fdivS, powS, negS, truth, truR, O.res, asgT, asgTs, mkT, mkL, optI, slS, frzAt, frzS, R.out, seqS, e1, e2, e3, e4, e5, e6, hv, m1, m2, c1]
  · by_cases c2 : a * u = c * v
    · by_cases c3 : x < y
      · simp [eqS_ii, eqS_ss, exec, ev, evs, evo, evt, evi, startX, coS, coB, ltS, leS, gtS, geS, isS, isNone, bfS, tyS, ixS, boS, addS, subS, mulS, modS, fdivS, powS, negS, truth, truR, O.res, asgT, asgTs, mkT, mkL, optI, slS, frzAt, frzS, R.out, seqS, e1, e2, e3, e4, e5, e6, e7, e8, hv, m1, m2, c2, c3]
      · simp [eqS_ii, eqS_ss, exec, ev, evs, evo, evt, evi, startX, coS, coB, ltS, leS, gtS, geS, isS, isNone, bfS, tyS, ixS, boS, addS, subS, mulS, modS, fdivS, powS, negS, truth, truR, O.res, asgT, asgTs, mkT, mkL, optI, slS, frzAt, frzS, R.out, seqS, e1, e2, e3, e4, e5, e6, e7, e8, hv, m1, m2, c2, c3]
    · have c2' : (a * u == c * v) = false := by rw [beq_eq_false_iff_ne]; exact c2
      simp [eqS_ii, eqS_ss, exec, ev, evs, evo, evt, evi, startX, coS, coB, ltS, leS, gtS, geS, isS, isNone, bfS, tyS, ixS, boS, addS, subS, mulS, modS, fdivS, powS, negS, truth, truR, O.res, asgT, asgTs, mkT, mkL, optI, slS, frzAt, frzS, R.out, seqS, e1, e2, e3, e4, e5, e6, e7, e8, hv, m1, m2, c1, c2, c2']
end
end Pg

set_option linter.all false
set_option maxRecDepth 100000
set_option maxHeartbeats 4000000
namespace Pg
open PySem hiding call exec
open Mp
/-! the loop of pick_row -/
/-- numbers that may be multiplied -/
def Sm (x : Int) : Prop := x.natAbs < 2 ^ 62
theorem Sm.mul {x y : Int} (hx : Sm x) : mulOk x y = true := by
  unfold Sm at hx
  have e : (2 : Nat) ^ 62 = 4611686018427387904 := by decide
  have e2 : (2 : Int) ^ 64 = 18446744073709551616 := by decide
  unfold mulOk
  rw [e2]
  rw [e] at hx
  have : decide (((-18446744073709551616 : Int) < x ∧ x < 18446744073709551616) ∨ ((-18446744073709551616 : Int) < y ∧ y < 18446744073709551616)) = true := by
    rw [decide_eq_true_iff]; left; omega
  rw [this]; rfl
/-- the best of the first i rows -/
def Best (W : Nat) (T : Nat → Nat → Int) (bs : Nat → Nat) (q i : Nat) (b : D) : Prop :=
  (b = .none ∧ ∀ k, k < i → ¬ 0 < T k q) ∨ ∃ r : Nat, b = .int (r : Int) ∧ r < i ∧ 0 < T r q ∧ ∀ k, k < i → 0 < T k q → T r W * T k q < T k W * T r q ∨ (T r W * T k q = T k W * T r q ∧ bs r ≤ bs k)
theorem Best.skip {W : Nat} {T : Nat → Nat → Int} {bs : Nat → Nat} {q i : Nat} {b : D} (h : Best W T bs q i b) (hv : ¬ 0 < T i q) : Best W T bs q (i + 1) b := by
  rcases h with ⟨h1, h2⟩ | ⟨r, h1, h2, h3, h4⟩
  · refine .inl ⟨h1, fun k hk => ?_⟩
    by_cases c : k = i
    · subst c; exact hv
    · exact h2 k (by omega)
  · refine .inr ⟨r, h1, by omega, h3, fun k hk hp => ?_⟩
    by_cases c : k = i
    · subst c; exact absurd hp hv
    · exact h4 k (by omega) hp
theorem Best.first {W : Nat} {T : Nat → Nat → Int} {bs : Nat → Nat} {q i : Nat} (h : ∀ k, k < i → ¬ 0 < T k q) (hv : 0 < T i q) : Best W T bs q (i + 1) (.int (i : Int)) := by
  refine .inr ⟨i, rfl, by omega, hv, fun k hk hp => ?_⟩
  by_cases c : k = i
  · subst c; exact .inr ⟨rfl, Nat.le_refl _⟩
  · exact absurd hp (h k (by omega))
theorem Best.more {W : Nat} {T : Nat → Nat → Int} {bs : Nat → Nat} {q i r : Nat} (h2 : r < i) (h3 : 0 < T r q) (h4 : ∀ k, k < i → 0 < T k q → T r W * T k q < T k W * T r q ∨ (T r W * T k q = T k W * T r q ∧ bs r ≤ bs k)) (hv : 0 < T i q) : Best W T bs q (i + 1) (.int (if T i W * T r q < T r W * T i q ∨ (T i W * T r q = T r W * T i q ∧ (bs i : Int) < (bs r : Int)) then (i : Int) else (r : Int))) := by
  by_cases c : T i W * T r q < T r W * T i q ∨ (T i W * T r q = T r W * T i q ∧ (bs i : Int) < (bs r : Int))
  · rw [if_pos c]
    refine .inr ⟨i, rfl, by omega, hv, fun k hk hp => ?_⟩
    by_cases e : k = i
    · subst e; exact .inr ⟨rfl, Nat.le_refl _⟩
    · have hk2 := h4 k (by omega) hp
      rcases c with c | ⟨c, c'⟩
      · left
        exact Sx.fr_trans_lt' hv h3 hp c (by rcases hk2 with x | ⟨x, _⟩ <;> omega)
      · rcases hk2 with x | ⟨x, y⟩
        · left; exact Sx.fr_trans_lt hv h3 hp (by omega) x
        · right
          refine ⟨?_, by omega⟩
          have a := Sx.fr_trans (a := T i W) (b := T i q) (c := T r W) (d := T r q) (e := T k W) (f := T k q) hv h3 hp (by omega) (by omega)
          have b := Sx.fr_trans (a := T k W) (b := T k q) (c := T r W) (d := T r q) (e := T i W) (f := T i q) hp h3 hv (by omega) (by omega)
          omega
  · rw [if_neg c]
    refine .inr ⟨r, rfl, by omega, h3, fun k hk hp => ?_⟩
    by_cases e : k = i
    · subst e
      by_cases d : T r W * T k q < T k W * T r q
      · exact .inl d
      · right; constructor <;> omega
    · exact h4 k (by omega) hp
section
variable {tbl : Str → Option Df} (h : Std tbl) {k : Nat}
include h
theorem pick_row {W n q : Nat} {T : Nat → Nat → Int} {z : Nat → Int} {bs : Nat → Nat} (hn : n ≤ 1000) (hq : q < W + 1) (hm : ∀ i j, i < n → j < W + 1 → Sm (T i j)) (hex : ∃ i, i < n ∧ 0 < T i q) :
    ∃ r, r < n ∧ 0 < T r q ∧ (∀ i, i < n → 0 < T i q → T r W * T i q < T i W * T r q ∨ (T r W * T i q = T i W * T r q ∧ bs r ≤ bs i)) ∧ call sub wf tbl (k + 1) "pick_row" [.list (tabL (W + 1) n T z), .list (rowL n fun i => (bs i : Int)), .int (q : Int)] = .val (.int (r : Int)) := by
  rw [call_eq h.t_pick_row rfl, pr_is]
  generalize call sub wf tbl k = cal
  have hl : (tabL (W + 1) n T z).length = n + 1 := tabL_len
  have hat : ∀ i, i < n → atX (tabL (W + 1) n T z) (i : Int) = some (rowD (W + 1) (T i)) := fun i hi => tabL_at hi
  generalize tabL (W + 1) n T z = t at *
  have hbl : ∀ i, i < n → atX (rowL n fun i => (bs i : Int)) (i : Int) = some (.int (bs i : Int)) := fun i hi => rowL_at hi
  generalize rowL n (fun i => (bs i : Int)) = bl at *
  have s1 : exec cal sub wf (.asg (.nm 3) (.lit .none)) (startX 7 [.list t, .list bl, .int (q : Int)]) = .nxt [some (.dat (.list t)), some (.dat (.list bl)), some (.dat (.int (q : Int))), some (.dat .none), none, none, none] := by
    simp [eqS_ii, eqS_ss, exec, ev, evs, evo, evt, evi, startX, coS, coB, ltS, leS, gtS, geS, isS, isNone, bfS, tyS, ixS, boS, addS, subS, mulS, modS, fdivS, powS, negS, truth, truR, O.res, asgT, asgTs, mkT, mkL, optI, slS, frzAt, frzS, R.out, seqS, List.replicate]
  rw [ex_seq s1]
  have i1 : evi cal (.rng (.bin .sub (.blt .len (.cons (.var 0) .nil)) (.lit (.int 1)))) [some (.dat (.list t)), some (.dat (.list bl)), some (.dat (.int (q : Int))), some (.dat .none), none, none, none] = .val (rngX 0 n) := evi_rng (by
    simp [eqS_ii, eqS_ss, exec, ev, evs, evo, evt, evi, startX, coS, coB, ltS, leS, gtS, geS, isS, isNone, bfS, tyS, ixS, boS, addS, subS, mulS, modS, fdivS, powS, negS, truth, truR, O.res, asgT, asgTs, mkT, mkL, optI, slS, frzAt, frzS, R.out, seqS, hl]) hn
  have f := ex_for (s := sub) (w := wf) (b := prB) (t := .nm 4) i1
  have g := forF_inv (step := forStep cal sub wf (.nm 4) prB) (xs := rngX 0 n) (fun i ρ => ∃ b o4 o5 o6, Best W T bs q i b ∧ ρ = [some (.dat (.list t)), some (.dat (.list bl)), some (.dat (.int (q : Int))), some (.dat b), o4, o5, o6]) (ρ := [some (.dat (.list t)), some (.dat (.list bl)), some (.dat (.int (q : Int))), some (.dat .none), none, none, none]) ⟨.none, none, none, none, .inl ⟨rfl, fun k hk => by omega⟩, rfl⟩ (by
    intro i x ρ hx I
    obtain ⟨b, o4, o5, o6, I, rfl⟩ := I
    have hi : i < n := by
      have := (List.getElem?_eq_some_iff.mp hx).1
      simpa [rngX] using this
    have ex : x = .int (i : Int) := by
      simp [rngX, List.getElem?_range hi] at hx
      exact hx.symm
    subst ex
    have fs : forStep cal sub wf (.nm 4) prB (.int (i : Int)) [some (.dat (.list t)), some (.dat (.list bl)), some (.dat (.int (q : Int))), some (.dat b), o4, o5, o6] = exec cal sub wf prB [some (.dat (.list t)), some (.dat (.list bl)), some (.dat (.int (q : Int))), some (.dat b), some (.dat (.int (i : Int))), o5, o6] := fs_nm (by simp)
    rw [fs]
    have e1 := hat i hi
    have e2 : atX (rowL (W + 1) (T i)) (q : Int) = some (.int (T i q)) := rowL_at hq
    by_cases hv : 0 < T i q
    · rcases I with ⟨rfl, I⟩ | ⟨r, rfl, h2, h3, h4⟩
      · exact ⟨_, pr_first e1 e2 hv, _, _, _, _, Best.first I hv, rfl⟩
      · obtain ⟨o5', o6', e⟩ := pr_more (cal := cal) (o5 := o5) (o6 := o6) (q := (q : Int)) e1 e2 (hat r (by omega)) (rowL_at hq) rowL_last rowL_last (hbl i hi) (hbl r (by omega)) hv (Sm.mul (hm i W hi (by omega))) (Sm.mul (hm r W (by omega) (by omega)))
        exact ⟨_, e, _, _, _, _, Best.more h2 h3 h4 hv, rfl⟩
    · exact ⟨_, pr_no e1 e2 hv, _, _, _, _, I.skip hv, rfl⟩)
  generalize prB = Bd at *
  obtain ⟨ρ', e, b, o4, o5, o6, I, rfl⟩ := g
  rw [ex_seq (f.trans e)]
  have ln : (rngX 0 n).length = n := by simp [rngX]
  rw [ln] at I
  rcases I with ⟨_, I⟩ | ⟨r, rfl, h2, h3, h4⟩
  · obtain ⟨i, hi, hp⟩ := hex
    exact absurd hp (I i hi)
  · exact ⟨r, h2, h3, h4, rfl⟩
end
end Pg

set_option linter.all false
set_option maxRecDepth 100000
set_option maxHeartbeats 4000000
namespace Pg
open PySem hiding call exec
open Mp
/-! exchange -/
theorem enumX_at : ∀ (xs : List D) (n i : Nat), (enumX n xs)[i]? = (xs[i]?).map fun x => PyData.tuple [.int ((n + i : Nat) : Int), x]
  | [], n, i => by simp [enumX]
  | x :: xs, n, 0 => by simp [enumX]
  | x :: xs, n, i + 1 => by
    simp only [enumX, List.getElem?_cons_succ]
    rw [enumX_at xs (n + 1) i, show n + 1 + i = n + (i + 1) by omega]
theorem enumX_len : ∀ (xs : List D) (n : Nat), (enumX n xs).length = xs.length
  | [], n => rfl
  | x :: xs, n => by simp [enumX, enumX_len xs]
theorem pairs_row (f g : Nat → Int) (l : List Nat) : pairsX (l.map fun (j : Nat) => PyData.int (f j)) (l.map fun (j : Nat) => PyData.int (g j)) = l.map fun (j : Nat) => PyData.tuple [.int (f j), .int (g j)] := by
  induction l with
  | nil => rfl
  | cons a l ih => simp only [List.map_cons, pairsX, ih]
theorem lc_idx {step : D → R (List D)} {g h : Nat → D} : ∀ {l : List Nat}, (∀ j ∈ l, step (g j) = .val [h j]) → lcF step (l.map g) = .val (l.map h)
  | [], _ => rfl
  | a :: l, hs => by
    simp only [List.map_cons, lcF, hs a (by simp), lc_idx (l := l) (fun j hj => hs j (by simp [hj]))]
    rfl
def xcE : Ex := (.lc (.tp (.cons (.nm 9) (.cons (.nm 10) .nil))) (.zip (.var 7) (.var 4)) .non (.bin .fdiv (.bin .sub (.bin .mul (.var 9) (.ix (.var 4) (.var 2))) (.bin .mul (.var 10) (.var 8))) (.var 3)) [9, 10])
def xcB : S := (.ite (.cmp .eq (.var 6) (.var 1)) (.app 5 (.var 7)) (.seq (.asg (.nm 8) (.ix (.var 7) (.var 2))) (.app 5 xcE)))
theorem xc_is : p_exchange = (.seq (.asg (.nm 4) (.ix (.var 0) (.var 1))) (.seq (.own 5 (.lst .nil)) (.seq (.for (.tp (.cons (.nm 6) (.cons (.nm 7) .nil))) (.enum (.var 0)) xcB) (.frz [5] (.ret (.var 5)))))) := rfl
section
variable {cal : Str → List D → R D} {x0 x1 x5 x6 o9 o10 : Option Sl}
theorem xcEv {W : Nat} {f g : Nat → Int} {q d : Int} {p u : Int} (hW : W ≤ 1000) (e1 : atX (rowL W g) q = some (.int p)) (m1 : ∀ j, j < W → mulOk (f j) p = true) (m2 : ∀ j, j < W → mulOk (g j) u = true) (hd : 0 < d) (hd2 : d.natAbs.log2 < 9000) :
    ev cal xcE [x0, x1, some (.dat (.int q)), some (.dat (.int d)), some (.dat (rowD W g)), x5, x6, some (.dat (rowD W f)), some (.dat (.int u)), o9, o10] = .val (rowD W fun j => (f j * p - g j * u) / d) := by
  have i1 : evi cal (.zip (.var 7) (.var 4)) [x0, x1, some (.dat (.int q)), some (.dat (.int d)), some (.dat (rowD W g)), x5, x6, some (.dat (rowD W f)), some (.dat (.int u)), o9, o10] = .val ((List.range W).map fun (j : Nat) => PyData.tuple [.int (f j), .int (g j)]) := by
    rw [← pairs_row]
    show _ = R.val (pairsX (rowL W f) (rowL W g))
    unfold rowD
    generalize rowL W f = a
    generalize rowL W g = b
    simp [eqS_ii, eqS_ss, exec, ev, evs, evo, evt, evi, startX, coS, coB, ltS, leS, gtS, geS, isS, isNone, bfS, tyS, ixS, boS, addS, subS, mulS, modS, fdivS, powS, negS, truth, truR, O.res, asgT, asgTs, mkT, mkL, optI, slS, frzAt, frzS, R.out, seqS, zipS]
  refine ev_lcS (ys := rowL W fun j => (f j * p - g j * u) / d) i1 ?_ (le_lim (by simp [rowL]; exact hW))
  refine lc_idx fun j hj => ?_
  simp only []
  have hj' : j < W := by simpa using hj
  have a1 := m1 j hj'
  have a2 := m2 j hj'
  unfold rowD
  generalize rowL W f = A at *
  generalize rowL W g = B at *
  generalize f j = F at *
  generalize g j = G at *
  simp [lcS, eqS_ii, eqS_ss, exec, ev, evs, evo, evt, evi, startX, coS, coB, ltS, leS, gtS, geS, isS, isNone, bfS, tyS, ixS, boS, addS, subS, mulS, modS, fdivS, powS, negS, truth, truR, O.res, asgT, asgTs, mkT, mkL, optI, slS, frzAt, frzS, R.out, seqS, wipeX, e1, a1, a2, hd, hd2]
theorem xcTurn {W : Nat} {f g : Nat → Int} {q d : Int} {p u : Int} {i r : Int} {F : List D} {o8 : Option Sl} (hF : F.length < 1000) (hW : W ≤ 1000) (e0 : atX (rowL W f) q = some (.int u)) (e1 : atX (rowL W g) q = some (.int p)) (m1 : ∀ j, j < W → mulOk (f j) p = true) (m2 : ∀ j, j < W → mulOk (g j) u = true) (hd : 0 < d) (hd2 : d.natAbs.log2 < 9000) :
    ∃ o8', exec cal sub wf xcB [x0, some (.dat (.int r)), some (.dat (.int q)), some (.dat (.int d)), some (.dat (rowD W g)), some (.own F), some (.dat (.int i)), some (.dat (rowD W f)), o8, none, none] = .nxt [x0, some (.dat (.int r)), some (.dat (.int q)), some (.dat (.int d)), some (.dat (rowD W g)), some (.own (F ++ [if i = r then rowD W f else rowD W fun j => (f j * p - g j * u) / d])), some (.dat (.int i)), some (.dat (rowD W f)), o8', none, none] := by
  have hF' : F.length < lim := Nat.lt_of_lt_of_le hF (by decide)
  by_cases c : i = r
  · refine ⟨o8, ?_⟩
    rw [if_pos c]
    subst c
    unfold xcB
    generalize xcE = E
    generalize rowD W f = a
    generalize rowD W g = b
    simp [eqS_ii, eqS_ss, exec, ev, evs, evo, evt, evi, startX, coS, coB, ltS, leS, gtS, geS, isS, isNone, bfS, tyS, ixS, boS, addS, subS, mulS, modS, fdivS, powS, negS, truth, truR, O.res, asgT, asgTs, mkT, mkL, optI, slS, frzAt, frzS, R.out, seqS, hF']
  · refine ⟨some (.dat (.int u)), ?_⟩
    rw [if_neg c]
    have e := xcEv (cal := cal) (x0 := x0) (x1 := some (.dat (.int r))) (x5 := some (.own F)) (x6 := some (.dat (.int i))) (o9 := none) (o10 := none) (f := f) (u := u) hW e1 m1 m2 hd hd2
    unfold xcB
    generalize xcE = E at *
    have c' : (i == r) = false := by simpa using c
    generalize (rowD W fun j => (f j * p - g j * u) / d) = res at *
    generalize rowD W g = b at *
    unfold rowD at *
    generalize rowL W f = a at *
    simp [eqS_ii, eqS_ss, exec, ev, evs, evo, evt, evi, startX, coS, coB, ltS, leS, gtS, geS, isS, isNone, bfS, tyS, ixS, boS, addS, subS, mulS, modS, fdivS, powS, negS, truth, truR, O.res, asgT, asgTs, mkT, mkL, optI, slS, frzAt, frzS, R.out, seqS, c', e0, e, hF']
end
def xT (T : Nat → Nat → Int) (r q : Nat) (d : Int) : Nat → Nat → Int := fun i j => if i = r then T r j else (T i j * T r q - T r j * T i q) / d
def xz (T : Nat → Nat → Int) (z : Nat → Int) (r q : Nat) (d : Int) : Nat → Int := fun j => (z j * T r q - T r j * z q) / d
theorem tab_get {W n : Nat} {T : Nat → Nat → Int} {z : Nat → Int} {i : Nat} (hi : i < n + 1) : (tabL W n T z)[i]? = some (if i < n then rowD W (T i) else rowD W z) := by
  unfold tabL
  by_cases c : i < n
  · rw [List.getElem?_append_left (by simpa using c), List.getElem?_map, List.getElem?_range c, if_pos c]; rfl
  · have : i = n := by omega
    subst this
    rw [List.getElem?_append_right (by simp), if_neg c]; simp
theorem take_snoc {α : Type} {l : List α} {i : Nat} {x : α} (hx : l[i]? = some x) : l.take i ++ [x] = l.take (i + 1) := by
  rw [List.take_succ, hx]; rfl
section
variable {tbl : Str → Option Df} (h : Std tbl) {k : Nat}
include h
theorem exchange {W n r q : Nat} {T : Nat → Nat → Int} {z : Nat → Int} {d : Int} (hn : n < 900) (hW : W ≤ 1000) (hr : r < n) (hq : q < W) (hm : ∀ i j, i < n → j < W → Sm (T i j)) (hz : ∀ j, j < W → Sm (z j)) (hd : 0 < d) (hd2 : Sm d) :
    call sub wf tbl (k + 1) "exchange" [.list (tabL W n T z), .int (r : Int), .int (q : Int), .int d] = .val (.list (tabL W n (xT T r q d) (xz T z r q d))) := by
  have hlog : d.natAbs.log2 < 9000 := by
    unfold Sm at hd2
    have : d.natAbs.log2 < 62 := (Nat.log2_lt (by omega)).2 hd2
    omega
  rw [call_eq h.t_exchange rfl, xc_is]
  generalize call sub wf tbl k = cal
  have hat : atX (tabL W n T z) (r : Int) = some (rowD W (T r)) := tabL_at hr
  have hget : ∀ i, i < n + 1 → (tabL W n T z)[i]? = some (if i < n then rowD W (T i) else rowD W z) := fun i hi => tab_get hi
  have hl : (tabL W n T z).length = n + 1 := tabL_len
  have hres : ∀ i, i < n + 1 → (tabL W n (xT T r q d) (xz T z r q d))[i]? = some (if i < n then rowD W (xT T r q d i) else rowD W (xz T z r q d)) := fun i hi => tab_get hi
  have hl2 : (tabL W n (xT T r q d) (xz T z r q d)).length = n + 1 := tabL_len
  generalize tabL W n (xT T r q d) (xz T z r q d) = res at *
  generalize tabL W n T z = t at *
  have s1 : exec cal sub wf (.asg (.nm 4) (.ix (.var 0) (.var 1))) (startX 11 [.list t, .int (r : Int), .int (q : Int), .int d]) = .nxt [some (.dat (.list t)), some (.dat (.int (r : Int))), some (.dat (.int (q : Int))), some (.dat (.int d)), some (.dat (rowD W (T r))), none, none, none, none, none, none] := by
    generalize rowD W (T r) = y at *
    simp [eqS_ii, eqS_ss, exec, ev, evs, evo, evt, evi, startX, coS, coB, ltS, leS, gtS, geS, isS, isNone, bfS, tyS, ixS, boS, addS, subS, mulS, modS, fdivS, powS, negS, truth, truR, O.res, asgT, asgTs, mkT, mkL, optI, slS, frzAt, frzS, R.out, seqS, List.replicate, hat]
  rw [ex_seq s1]
  have s2 : exec cal sub wf (.own 5 (.lst .nil)) [some (.dat (.list t)), some (.dat (.int (r : Int))), some (.dat (.int (q : Int))), some (.dat (.int d)), some (.dat (rowD W (T r))), none, none, none, none, none, none] = .nxt [some (.dat (.list t)), some (.dat (.int (r : Int))), some (.dat (.int (q : Int))), some (.dat (.int d)), some (.dat (rowD W (T r))), some (.own []), none, none, none, none, none] := by
    generalize rowD W (T r) = y at *
    simp [eqS_ii, eqS_ss, exec, ev, evs, evo, evt, evi, startX, coS, coB, ltS, leS, gtS, geS, isS, isNone, bfS, tyS, ixS, boS, addS, subS, mulS, modS, fdivS, powS, negS, truth, truR, O.res, asgT, asgTs, mkT, mkL, optI, slS, frzAt, frzS, R.out, seqS, List.replicate]
  rw [ex_seq s2]
  have i1 : evi cal (.enum (.var 0)) [some (.dat (.list t)), some (.dat (.int (r : Int))), some (.dat (.int (q : Int))), some (.dat (.int d)), some (.dat (rowD W (T r))), some (.own []), none, none, none, none, none] = .val (enumX 0 t) := by
    generalize rowD W (T r) = y at *
    simp [eqS_ii, eqS_ss, exec, ev, evs, evo, evt, evi, startX, coS, coB, ltS, leS, gtS, geS, isS, isNone, bfS, tyS, ixS, boS, addS, subS, mulS, modS, fdivS, powS, negS, truth, truR, O.res, asgT, asgTs, mkT, mkL, optI, slS, frzAt, frzS, R.out, seqS, enumS]
  have f := ex_for (s := sub) (w := wf) (b := xcB) (t := .tp (.cons (.nm 6) (.cons (.nm 7) .nil))) i1
  have g := forF_inv (step := forStep cal sub wf (.tp (.cons (.nm 6) (.cons (.nm 7) .nil))) xcB) (xs := enumX 0 t) (fun i ρ => ∃ o6 o7 o8, ρ = [some (.dat (.list t)), some (.dat (.int (r : Int))), some (.dat (.int (q : Int))), some (.dat (.int d)), some (.dat (rowD W (T r))), some (.own (res.take i)), o6, o7, o8, none, none]) (ρ := [some (.dat (.list t)), some (.dat (.int (r : Int))), some (.dat (.int (q : Int))), some (.dat (.int d)), some (.dat (rowD W (T r))), some (.own []), none, none, none, none, none]) ⟨none, none, none, rfl⟩ (by
    intro i x ρ hx I
    obtain ⟨o6, o7, o8, rfl⟩ := I
    have hi : i < n + 1 := by
      have := (List.getElem?_eq_some_iff.mp hx).1
      rw [enumX_len, hl] at this
      exact this
    rw [enumX_at, hget i hi] at hx
    obtain ⟨fi, hfi, hsm, hre⟩ : ∃ fi : Nat → Int, (if i < n then rowD W (T i) else rowD W z) = rowD W fi ∧ (∀ j, j < W → Sm (fi j)) ∧ res[i]? = some (if (i : Int) = (r : Int) then rowD W fi else rowD W fun j => (fi j * T r q - T r j * fi q) / d) := by
      rw [hres i hi]
      by_cases c : i < n
      · refine ⟨T i, if_pos c, fun j hj => hm i j c hj, ?_⟩
        rw [if_pos c]
        by_cases e : i = r
        · subst e; rw [if_pos rfl]
          congr 2; funext j; unfold xT; rw [if_pos rfl]
        · rw [if_neg (by omega)]
          congr 2; funext j; unfold xT; rw [if_neg e]
      · refine ⟨z, if_neg c, hz, ?_⟩
        rw [if_neg c, if_neg (by omega)]
        rfl
    rw [hfi] at hx
    have ex : x = .tuple [.int (i : Int), rowD W fi] := by
      simp at hx; exact hx.symm
    subst ex
    have fs : forStep cal sub wf (.tp (.cons (.nm 6) (.cons (.nm 7) .nil))) xcB (.tuple [.int (i : Int), rowD W fi]) [some (.dat (.list t)), some (.dat (.int (r : Int))), some (.dat (.int (q : Int))), some (.dat (.int d)), some (.dat (rowD W (T r))), some (.own (res.take i)), o6, o7, o8, none, none] = exec cal sub wf xcB [some (.dat (.list t)), some (.dat (.int (r : Int))), some (.dat (.int (q : Int))), some (.dat (.int d)), some (.dat (rowD W (T r))), some (.own (res.take i)), some (.dat (.int (i : Int))), some (.dat (rowD W fi)), o8, none, none] := by
      simp [forStep, asgT, asgTs]
    rw [fs]
    obtain ⟨o8', e⟩ := xcTurn (cal := cal) (x0 := some (.dat (.list t))) (F := res.take i) (i := (i : Int)) (r := (r : Int)) (o8 := o8) (f := fi) (g := T r) (q := (q : Int)) (p := T r q) (u := fi q) (d := d) (by rw [List.length_take]; omega) hW (rowL_at hq) (rowL_at hq) (fun j hj => Sm.mul (hsm j hj)) (fun j hj => Sm.mul (hm r j hr hj)) hd hlog
    rw [take_snoc hre] at e
    exact ⟨_, e, _, _, _, rfl⟩)
  generalize xcB = Bd at *
  obtain ⟨ρ', e, o6, o7, o8, rfl⟩ := g
  rw [ex_seq (f.trans e)]
  have : res.take (enumX 0 t).length = res := by rw [enumX_len, hl, ← hl2, List.take_length]
  rw [this]
  generalize rowD W (T r) = y at *
  simp [eqS_ii, eqS_ss, exec, ev, evs, evo, evt, evi, startX, coS, coB, ltS, leS, gtS, geS, isS, isNone, bfS, tyS, ixS, boS, addS, subS, mulS, modS, fdivS, powS, negS, truth, truR, O.res, asgT, asgTs, mkT, mkL, optI, slS, frzAt, frzS, R.out, seqS]
end
end Pg

set_option linter.all false
set_option maxRecDepth 100000
set_option maxHeartbeats 4000000
namespace Pg
open PySem hiding call exec
open Mp
/-! solve: the loop -/
def colV (n N : Nat) (A : Nat → Nat → Int) (j : Nat) : Sx.Vc := if j < N then fun k => A k j else if j < N + n then Sx.unit (j - N) else fun k => A k N
section
variable {n N : Nat} {A : Nat → Nat → Int}
theorem colV_lt {j : Nat} (hj : j < N) (k : Nat) : colV n N A j k = A k j := by unfold colV; rw [if_pos hj]
theorem colV_unit {k : Nat} (hk : k < n) : colV n N A (N + k) = Sx.unit k := by
  unfold colV; rw [if_neg (by omega), if_pos (by omega), show N + k - N = k by omega]
theorem colV_last (k : Nat) : colV n N A (N + n) k = A k N := by unfold colV; rw [if_neg (by omega), if_neg (by omega)]
theorem colV_abs (hA : ∀ i j, i < n → j ≤ N → (A i j).natAbs ≤ 1) (j : Nat) {k : Nat} (hk : k < n) : (colV n N A j k).natAbs ≤ 1 := by
  unfold colV
  by_cases c : j < N
  · rw [if_pos c]; exact hA k j hk (by omega)
  · rw [if_neg c]
    by_cases d : j < N + n
    · rw [if_pos d]; unfold Sx.unit; split <;> decide
    · rw [if_neg d]; exact hA k N hk (by omega)
theorem fac_mono : ∀ {a b : Nat}, a ≤ b → Sx.fac 1 a ≤ Sx.fac 1 b := by
  intro a b hab
  induction b with
  | zero => have : a = 0 := by omega
            subst this; exact Nat.le_refl _
  | succ b ih =>
    by_cases c : a = b + 1
    · subst c; exact Nat.le_refl _
    · have := ih (by omega)
      refine Nat.le_trans this ?_
      show _ ≤ (b + 1) * (1 * Sx.fac 1 b)
      rw [Nat.one_mul]
      exact Nat.le_mul_of_pos_left _ (by omega)
theorem fac15 : Sx.fac 1 15 = 1307674368000 := by decide
theorem Tb_sm (hn : n ≤ 15) (hA : ∀ i j, i < n → j ≤ N → (A i j).natAbs ≤ 1) (bs : Nat → Nat) (i j : Nat) : (Sx.Tb (colV n N A) n bs i j).natAbs ≤ 1307674368000 := by
  rw [← fac15]
  refine Nat.le_trans (Sx.Dt_bound n _ 1 fun a ha b hb => ?_) (fac_mono hn)
  unfold Sx.upd
  by_cases c : a = i
  · rw [if_pos c]; exact colV_abs hA j hb
  · rw [if_neg c]; exact colV_abs hA _ hb
theorem dd_sm (hn : n ≤ 15) (hA : ∀ i j, i < n → j ≤ N → (A i j).natAbs ≤ 1) (bs : Nat → Nat) : (Sx.dd (colV n N A) n bs).natAbs ≤ 1307674368000 := by
  rw [← fac15]
  exact Nat.le_trans (Sx.Dt_bound n _ 1 fun a ha b hb => colV_abs hA _ hb) (fac_mono hn)
theorem Tz_sm (hn : n ≤ 15) (hA : ∀ i j, i < n → j ≤ N → (A i j).natAbs ≤ 1) (bs : Nat → Nat) (j : Nat) : (Sx.Tz (colV n N A) n N bs j).natAbs ≤ 16 * 1307674368000 := by
  have a : (Sx.Lz (colV n N A) n N bs (colV n N A j)).natAbs ≤ n * 1307674368000 := by
    unfold Sx.Lz
    refine Sx.sm_abs fun i hi => ?_
    by_cases c : N ≤ bs i
    · rw [if_pos c]; exact Tb_sm hn hA bs i j
    · rw [if_neg c]; decide
  have b := dd_sm hn hA bs
  have c : n * 1307674368000 ≤ 15 * 1307674368000 := Nat.mul_le_mul_right _ hn
  unfold Sx.Tz Sx.wz
  by_cases e : N ≤ j ∧ j < N + n
  · rw [if_pos e, Int.mul_one]; omega
  · rw [if_neg e, Int.mul_zero]; omega
theorem Sm_of {x : Int} (h : x.natAbs ≤ 16 * 1307674368000) : Sm x := by
  unfold Sm
  have e : (2 : Nat) ^ 62 = 4611686018427387904 := by decide
  rw [e]; omega
end
theorem rowL_congr {W : Nat} {f g : Nat → Int} (h : ∀ j, j < W → f j = g j) : rowL W f = rowL W g := by
  unfold rowL
  exact List.map_congr_left fun j hj => by rw [h j (by simpa using hj)]
theorem tabL_congr {W n : Nat} {T T' : Nat → Nat → Int} {z z' : Nat → Int} (h : ∀ i, i < n → ∀ j, j < W → T i j = T' i j) (h2 : ∀ j, j < W → z j = z' j) : tabL W n T z = tabL W n T' z' := by
  unfold tabL rowD
  rw [rowL_congr h2]
  congr 1
  exact List.map_congr_left fun i hi => by rw [rowL_congr (h i (by simpa using hi))]
theorem rowL_set {n r : Nat} {bs : Nat → Nat} {q : Nat} : (rowL n fun i => (bs i : Int)).set r (.int (q : Int)) = rowL n fun i => (Sx.pv bs r q i : Int) := by
  unfold rowL
  refine List.ext_getElem? fun i => ?_
  by_cases c : r = i
  · subst c
    by_cases d : r < n
    · rw [List.getElem?_set_self (by simpa using d), List.getElem?_map, List.getElem?_range d]; simp [Sx.pv]
    · rw [List.getElem?_eq_none (by simp; omega), List.getElem?_eq_none (by simp; omega)]
  · rw [List.getElem?_set_ne c, List.getElem?_map, List.getElem?_map]
    by_cases d : i < n
    · rw [List.getElem?_range d]; simp [Sx.pv, show ¬ i = r by omega]
    · rw [List.getElem?_eq_none (by simp; omega)]; rfl
def slB : S := (.seq (.asg (.nm 12) (.bor (.call "pick_row" (.cons (.var 3) (.cons (.var 10) (.cons (.var 9) .nil)))))) (.seq (.asg (.nm 13) (.bor (.ix (.ix (.var 3) (.var 12)) (.var 9)))) (.seq (.frz [3] (.asg (.nm 3) (.call "exchange" (.cons (.var 3) (.cons (.var 12) (.cons (.var 9) (.cons (.var 11) .nil))))))) (.seq (.asg (.nm 11) (.var 13)) (.seq (.set 10 (.var 12) (.var 9)) (.asg (.nm 9) (.bor (.call "pick_column" (.cons (.var 3) (.cons (.var 1) .nil))))))))))
section
variable {cal : Str → List D → R D} {o4 o5 o6 o7 o8 o12 o13 o14 o15 : Option Sl} {E : D} {s3 : Sl}
theorem sl_test {c : D} {x0 x1 x2 x3 x10 x11 : Option Sl} : truR (ev cal (.cmp .isnt (.var 9) (.lit .none)) [x0, x1, x2, x3, o4, o5, o6, o7, o8, some (.dat c), x10, x11, o12, o13, o14, o15]) = .val (!isNone c) := by
  simp [eqS_ii, eqS_ss, exec, ev, evs, evo, evt, evi, startX, coS, coB, ltS, leS, gtS, geS, isS, isNone, bfS, tyS, ixS, boS, addS, subS, mulS, modS, fdivS, powS, negS, truth, truR, O.res, asgT, asgTs, mkT, mkL, optI, slS, frzAt, frzS, R.out, seqS]
theorem sl_turn {N n d p : Int} {q r : Nat} {t t' bl row : List D} {c : D} (h3 : frzS (some s3) = some (.dat (.list t))) (hr : cal "pick_row" [.list t, .list bl, .int (q : Int)] = .val (.int (r : Int))) (e1 : atX t (r : Int) = some (.list row)) (e2 : atX row (q : Int) = some (.int p)) (hx : cal "exchange" [.list t, .int (r : Int), .int (q : Int), .int d] = .val (.list t')) (hc : cal "pick_column" [.list t', .int N] = .val c) (sc : scalar c = true) (hrl : r < bl.length) :
    exec cal sub wf slB [some (.dat E), some (.dat (.int N)), some (.dat (.int n)), some s3, o4, o5, o6, o7, o8, some (.dat (.int (q : Int))), some (.own bl), some (.dat (.int d)), o12, o13, o14, o15] = .nxt [some (.dat E), some (.dat (.int N)), some (.dat (.int n)), some (.dat (.list t')), o4, o5, o6, o7, o8, some (.dat c), some (.own (bl.set r (.int (q : Int)))), some (.dat (.int p)), some (.dat (.int (r : Int))), some (.dat (.int p)), o14, o15] := by
  have s1 : exec cal sub wf (.asg (.nm 12) (.bor (.call "pick_row" (.cons (.var 3) (.cons (.var 10) (.cons (.var 9) .nil)))))) [some (.dat E), some (.dat (.int N)), some (.dat (.int n)), some s3, o4, o5, o6, o7, o8, some (.dat (.int (q : Int))), some (.own bl), some (.dat (.int d)), o12, o13, o14, o15] = .nxt [some (.dat E), some (.dat (.int N)), some (.dat (.int n)), some s3, o4, o5, o6, o7, o8, some (.dat (.int (q : Int))), some (.own bl), some (.dat (.int d)), some (.dat (.int (r : Int))), o13, o14, o15] := by
    simp [exec, ev, evs, frzAll, h3, hr, scalar, asgT, R.out]
    simp [frzS, hr, scalar]
  have s2 : exec cal sub wf (.asg (.nm 13) (.bor (.ix (.ix (.var 3) (.var 12)) (.var 9)))) [some (.dat E), some (.dat (.int N)), some (.dat (.int n)), some s3, o4, o5, o6, o7, o8, some (.dat (.int (q : Int))), some (.own bl), some (.dat (.int d)), some (.dat (.int (r : Int))), o13, o14, o15] = .nxt [some (.dat E), some (.dat (.int N)), some (.dat (.int n)), some s3, o4, o5, o6, o7, o8, some (.dat (.int (q : Int))), some (.own bl), some (.dat (.int d)), some (.dat (.int (r : Int))), some (.dat (.int p)), o14, o15] := by
    simp [exec, ev, evs, frzAll, h3, asgT, R.out]
    simp [frzS, ixS, e1, e2, scalar]
  have s3' : exec cal sub wf (.frz [3] (.asg (.nm 3) (.call "exchange" (.cons (.var 3) (.cons (.var 12) (.cons (.var 9) (.cons (.var 11) .nil))))))) [some (.dat E), some (.dat (.int N)), some (.dat (.int n)), some s3, o4, o5, o6, o7, o8, some (.dat (.int (q : Int))), some (.own bl), some (.dat (.int d)), some (.dat (.int (r : Int))), some (.dat (.int p)), o14, o15] = .nxt [some (.dat E), some (.dat (.int N)), some (.dat (.int n)), some (.dat (.list t')), o4, o5, o6, o7, o8, some (.dat (.int (q : Int))), some (.own bl), some (.dat (.int d)), some (.dat (.int (r : Int))), some (.dat (.int p)), o14, o15] := by
    simp [exec, frzAt, h3, ev, evs, asgT, R.out, hx]
  unfold slB
  rw [ex_seq s1, ex_seq s2, ex_seq s3']
  have i1 : ixX bl.length (r : Int) = some r := by unfold ixX; rw [if_pos (by omega), if_pos (by omega)]; simp
  simp [exec, ev, evs, frzAll, frzS, hc, sc, asgT, R.out, i1]
end
section
variable {n N : Nat} {A : Nat → Nat → Int}
theorem xT_is {bs : Nat → Nat} (I : Sx.Inv (colV n N A) n N bs) {r q : Nat} (hr : r < n) {i : Nat} (hi : i < n) (j : Nat) : xT (Sx.Tb (colV n N A) n bs) r q (Sx.dd (colV n N A) n bs) i j = Sx.Tb (colV n N A) n (Sx.pv bs r q) i j := by
  unfold xT
  by_cases c : i = r
  · subst c; rw [if_pos rfl, Sx.Tb_pv_r]
  · rw [if_neg c]
    have e := Sx.Tb_pv I.cr hr hi c q j
    have : Sx.Tb (colV n N A) n bs i j * Sx.Tb (colV n N A) n bs r q - Sx.Tb (colV n N A) n bs r j * Sx.Tb (colV n N A) n bs i q = Sx.dd (colV n N A) n bs * Sx.Tb (colV n N A) n (Sx.pv bs r q) i j := by rw [e]; grind
    rw [this]
    exact Int.mul_ediv_cancel_left _ (by have := I.pos; omega)
theorem xz_is {bs : Nat → Nat} (I : Sx.Inv (colV n N A) n N bs) {r q : Nat} (hr : r < n) (hq : q < N) (j : Nat) : xz (Sx.Tb (colV n N A) n bs) (Sx.Tz (colV n N A) n N bs) r q (Sx.dd (colV n N A) n bs) j = Sx.Tz (colV n N A) n N (Sx.pv bs r q) j := by
  unfold xz
  have e := Sx.Tz_pv I.cr hr hq j
  have : Sx.Tz (colV n N A) n N bs j * Sx.Tb (colV n N A) n bs r q - Sx.Tb (colV n N A) n bs r j * Sx.Tz (colV n N A) n N bs q = Sx.dd (colV n N A) n bs * Sx.Tz (colV n N A) n N (Sx.pv bs r q) j := by rw [e]; grind
  rw [this]
  exact Int.mul_ediv_cancel_left _ (by have := I.pos; omega)
/-- the choice of pick_column -/
def Pc (n N : Nat) (A : Nat → Nat → Int) (bs : Nat → Nat) (c : D) : Prop := (∃ j : Nat, c = .int (j : Int) ∧ j < N ∧ 0 < Sx.Tz (colV n N A) n N bs j ∧ ∀ i, i < j → Sx.Tz (colV n N A) n N bs i ≤ 0) ∨ (c = .none ∧ ∀ i, i < N → Sx.Tz (colV n N A) n N bs i ≤ 0)
theorem Pc.sc {bs : Nat → Nat} {c : D} (h : Pc n N A bs c) : scalar c = true := by
  rcases h with ⟨j, rfl, _⟩ | ⟨rfl, _⟩ <;> rfl
variable {tbl : Str → Option Df} (h : Std tbl) {k : Nat}
include h
theorem pick_c (hN : N ≤ 1000) (bs : Nat → Nat) : ∃ c, Pc n N A bs c ∧ call sub wf tbl (k + 1) "pick_column" [.list (tabL (N + n + 1) n (Sx.Tb (colV n N A) n bs) (Sx.Tz (colV n N A) n N bs)), .int (N : Int)] = .val c := by
  rcases pick_column h (k := k) (W := N + n + 1) (n := n) (T := Sx.Tb (colV n N A) n bs) (z := Sx.Tz (colV n N A) n N bs) (N := N) (by omega) hN with ⟨j, a, b, c, e⟩ | ⟨a, e⟩
  · exact ⟨_, .inl ⟨j, rfl, a, b, c⟩, e⟩
  · exact ⟨_, .inr ⟨rfl, a⟩, e⟩
theorem solve_loop (hn : n ≤ 15) (hN : N + n ≤ 64) (hA : ∀ i j, i < n → j ≤ N → (A i j).natAbs ≤ 1) {E : D} {o14 o15 : Option Sl} : ∀ (f m : Nat) (B : Nat → Nat → Nat) (r q : Nat → Nat) (c : D) (s3 : Sl) (o4 o5 o6 o7 o8 o12 o13 : Option Sl), Sx.Run (colV n N A) n N m B r q → 64 ^ n ≤ m + f → Pc n N A (B m) c → frzS (some s3) = some (.dat (.list (tabL (N + n + 1) n (Sx.Tb (colV n N A) n (B m)) (Sx.Tz (colV n N A) n N (B m))))) →
    ∃ (bs : Nat → Nat) (s3' : Sl) (o12' o13' : Option Sl), Sx.Inv (colV n N A) n N bs ∧ (∀ i, i < N → Sx.Tz (colV n N A) n N bs i ≤ 0) ∧ frzS (some s3') = some (.dat (.list (tabL (N + n + 1) n (Sx.Tb (colV n N A) n bs) (Sx.Tz (colV n N A) n N bs)))) ∧
      whlF (fun ρ => truR (ev (call sub wf tbl (k + 1)) (.cmp .isnt (.var 9) (.lit .none)) ρ)) (exec (call sub wf tbl (k + 1)) sub wf slB) f [some (.dat E), some (.dat (.int (N : Int))), some (.dat (.int (n : Int))), some s3, o4, o5, o6, o7, o8, some (.dat c), some (.own (rowL n fun i => (B m i : Int))), some (.dat (.int (Sx.dd (colV n N A) n (B m)))), o12, o13, o14, o15] = .nxt [some (.dat E), some (.dat (.int (N : Int))), some (.dat (.int (n : Int))), some s3', o4, o5, o6, o7, o8, some (.dat .none), some (.own (rowL n fun i => (bs i : Int))), some (.dat (.int (Sx.dd (colV n N A) n bs))), o12', o13', o14, o15]
  | 0, m, B, r, q, c, s3, o4, o5, o6, o7, o8, o12, o13, R, hf, pc, e3 => by
    have := Sx.run_short R hN
    omega
  | f + 1, m, B, r, q, c, s3, o4, o5, o6, o7, o8, o12, o13, R, hf, pc, e3 => by
    have I := R.invs m (Nat.le_refl _)
    rcases pc with ⟨j, rfl, hj, hz, hmin⟩ | ⟨rfl, hz⟩
    · have bT := fun i j => Tb_sm (N := N) hn hA (B m) i j
      have bZ := fun j => Tz_sm (N := N) hn hA (B m) j
      obtain ⟨r', hr', hp, hbest, er⟩ := pick_row h (k := k) (W := N + n) (n := n) (q := j) (T := Sx.Tb (colV n N A) n (B m)) (z := Sx.Tz (colV n N A) n N (B m)) (bs := B m) (by omega) (by omega) (fun i j _ _ => Sm_of (Nat.le_trans (bT i j) (by omega))) (Sx.row_ex hj hz)
      have ex := exchange h (k := k) (W := N + n + 1) (n := n) (r := r') (q := j) (T := Sx.Tb (colV n N A) n (B m)) (z := Sx.Tz (colV n N A) n N (B m)) (d := Sx.dd (colV n N A) n (B m)) (by omega) (by omega) hr' (by omega) (fun i j _ _ => Sm_of (Nat.le_trans (bT i j) (by omega))) (fun j _ => Sm_of (bZ j)) I.pos (Sm_of (Nat.le_trans (dd_sm hn hA (B m)) (by omega)))
      rw [tabL_congr (fun i hi j' _ => xT_is I hr' hi j') (fun j' _ => xz_is I hr' hj j')] at ex
      obtain ⟨c', pc', ec⟩ := pick_c h (k := k) (n := n) (N := N) (A := A) (by omega) (Sx.pv (B m) r' j)
      have tu := sl_turn (cal := call sub wf tbl (k + 1)) (o4 := o4) (o5 := o5) (o6 := o6) (o7 := o7) (o8 := o8) (o12 := o12) (o13 := o13) (o14 := o14) (o15 := o15) (E := E) (N := (N : Int)) (n := (n : Int)) e3 er (tabL_at hr') (rowL_at (by omega)) ex ec pc'.sc (by simp [rowL]; exact hr')
      rw [rowL_set] at tu
      have P : Sx.Piv (colV n N A) n N (B m) r' j := ⟨hj, hz, hmin, hr', hp, hbest⟩
      have R' : Sx.Run (colV n N A) n N (m + 1) (fun a => if a ≤ m then B a else Sx.pv (B m) r' j) (fun a => if a < m then r a else r') (fun a => if a < m then q a else j) := by
        refine ⟨?_, fun a ha => ?_, fun a ha => ?_⟩
        · show Sx.Inv _ _ _ (if 0 ≤ m then B 0 else _)
          rw [if_pos (by omega)]; exact R.inv
        · show Sx.Piv _ _ _ (if a ≤ m then B a else _) (if a < m then r a else r') (if a < m then q a else j)
          rw [if_pos (by omega)]
          by_cases c : a < m
          · rw [if_pos c, if_pos c]; exact R.piv a c
          · have : a = m := by omega
            subst this
            rw [if_neg c, if_neg c]; exact P
        · show (if a + 1 ≤ m then B (a + 1) else _) = Sx.pv (if a ≤ m then B a else _) (if a < m then r a else r') (if a < m then q a else j)
          rw [if_pos (show a ≤ m by omega)]
          by_cases c : a < m
          · rw [if_pos c, if_pos c, if_pos (by omega)]; exact R.nxt a c
          · have : a = m := by omega
            subst this
            rw [if_neg c, if_neg c, if_neg (by omega)]
      have eB : (fun a => if a ≤ m then B a else Sx.pv (B m) r' j) (m + 1) = Sx.pv (B m) r' j := by
        show (if m + 1 ≤ m then _ else _) = _
        rw [if_neg (by omega)]
      obtain ⟨B', r2, q2, eB', R2⟩ : ∃ B' r2 q2, B' (m + 1) = Sx.pv (B m) r' j ∧ Sx.Run (colV n N A) n N (m + 1) B' r2 q2 := ⟨_, _, _, eB, R'⟩
      have ih := solve_loop (E := E) (o14 := o14) (o15 := o15) hn hN hA f (m + 1) B' r2 q2 c' (.dat (.list (tabL (N + n + 1) n (Sx.Tb (colV n N A) n (Sx.pv (B m) r' j)) (Sx.Tz (colV n N A) n N (Sx.pv (B m) r' j))))) o4 o5 o6 o7 o8 (some (.dat (.int (r' : Int)))) (some (.dat (.int (Sx.Tb (colV n N A) n (B m) r' j)))) R2 (by omega) (by rw [eB']; exact pc') (by rw [eB']; rfl)
      obtain ⟨bs, s3', o12', o13', g1, g2, g3, g4⟩ := ih
      refine ⟨bs, s3', o12', o13', g1, g2, g3, ?_⟩
      rw [eB', Sx.dd_pv] at g4
      simp only [whlF, sl_test, isNone, Bool.not_false, tu]
      exact g4
    · refine ⟨B m, s3, o12, o13, I, hz, e3, ?_⟩
      simp only [whlF, sl_test, isNone, Bool.not_true]
end
end Pg

set_option linter.all false
set_option maxRecDepth 100000
set_option maxHeartbeats 4000000
namespace Pg
open PySem hiding call exec
open Mp
/-! solve: the start -/
section
variable {cal : Str → List D → R D} {ρ : Rho}
theorem ev_var {i : Nat} {d : D} (h : ρ[i]? = some (some (.dat d))) : ev cal (.var i) ρ = .val d := by simp only [ev, h]
theorem ev_cat {a b : Ex} {U V : List D} (e1 : ev cal a ρ = .val (.list U)) (e2 : ev cal b ρ = .val (.list V)) (hl : U.length + V.length ≤ 1000) : ev cal (.bin .add a b) ρ = .val (.list (U ++ V)) := by
  simp only [ev, e1, e2, R.bnd_val, boS, addS]
  rw [mkL_of (le_lim (by simpa using hl)), ofO_some]
theorem ev_m1 : ev cal (.neg (.lit (.int 1))) ρ = .val (.int (-1)) := by simp [ev, negS]
theorem rowL_intz (n : Nat) (g : Nat → Int) : rowL n g = intz ((List.range n).map g) := by simp [rowL, intz]
theorem rowL_len (n : Nat) (g : Nat → Int) : (rowL n g).length = n := by simp [rowL]
theorem rowL_succ (n : Nat) (g : Nat → Int) : rowL (n + 1) g = rowL n g ++ [.int (g n)] := by simp [rowL, List.range_succ]
theorem rowL_app (a b : Nat) (f g : Nat → Int) : rowL a f ++ rowL b g = rowL (a + b) fun j => if j < a then f j else g (j - a) := by
  induction b with
  | zero =>
    simp only [Nat.add_zero]
    have : rowL 0 g = [] := rfl
    rw [this, List.append_nil]
    exact rowL_congr fun j hj => by rw [if_pos hj]
  | succ b ih =>
    rw [rowL_succ, ← List.append_assoc, ih, ← Nat.add_assoc, rowL_succ (a + b)]
    rw [if_neg (show ¬ a + b < a by omega), show a + b - a = b by omega]
theorem cut_init (N : Nat) (f : Nat → Int) : cutX (rowL (N + 1) f) none (some (-1)) = rowL N f := by
  unfold cutX
  have e1 : sX (rowL (N + 1) f).length 0 none = 0 := rfl
  have e2 : sX (rowL (N + 1) f).length (rowL (N + 1) f).length (some (-1)) = N := by
    rw [rowL_len]; simp only [sX]; rw [if_pos (by decide)]; omega
  rw [e1, e2, List.drop_zero, Nat.sub_zero, rowL_succ, List.take_append_of_le_length (by rw [rowL_len]; exact Nat.le_refl _), List.take_of_length_le (by rw [rowL_len]; exact Nat.le_refl _)]
theorem cut_last (N : Nat) (f : Nat → Int) : cutX (rowL (N + 1) f) (some (-1)) none = [.int (f N)] := by
  unfold cutX
  have e2 : sX (rowL (N + 1) f).length 0 (some (-1)) = N := by
    rw [rowL_len]; simp only [sX]; rw [if_pos (by decide)]; omega
  have e1 : sX (rowL (N + 1) f).length (rowL (N + 1) f).length none = N + 1 := by rw [rowL_len]; rfl
  have : N + 1 - N = 1 := by omega
  rw [e1, e2, this, rowL_succ, List.drop_append_of_le_length (by rw [rowL_len]; exact Nat.le_refl _), List.drop_of_length_le (by rw [rowL_len]; exact Nat.le_refl _)]
  rfl
def slE1 : Ex := (.bin .add (.bin .add (.sl (.var 5) .non (.som (.neg (.lit (.int 1))))) (.lc (.nm 6) (.rng (.var 2)) .non (.blt .int (.cons (.cmp .eq (.var 4) (.var 6)) .nil)) [6])) (.sl (.var 5) (.som (.neg (.lit (.int 1)))) .non))
theorem evE1 {n N i : Nat} {f : Nat → Int} (hl : ρ.length = 16) (h2 : ρ[2]? = some (some (.dat (.int (n : Int))))) (h4 : ρ[4]? = some (some (.dat (.int (i : Int))))) (h5 : ρ[5]? = some (some (.dat (rowD (N + 1) f)))) (hn : n ≤ 100) (hN : N ≤ 100) :
    ev cal slE1 ρ = .val (rowD (N + n + 1) fun j => if j < N then f j else if j < N + n then (if i = j - N then 1 else 0) else f N) := by
  have a1 : ev cal (.sl (.var 5) .non (.som (.neg (.lit (.int 1))))) ρ = .val (.list (rowL N f)) := by
    simp only [ev, evo, h5, R.bnd_val, negS, ofO_some, optI, rowD, slS, cut_init]
  have a3 : ev cal (.sl (.var 5) (.som (.neg (.lit (.int 1)))) .non) ρ = .val (.list [.int (f N)]) := by
    simp only [ev, evo, h5, R.bnd_val, negS, ofO_some, optI, rowD, slS, cut_last]
  have a2 : ev cal (.lc (.nm 6) (.rng (.var 2)) .non (.blt .int (.cons (.cmp .eq (.var 4) (.var 6)) .nil)) [6]) ρ = .val (.list (rowL n fun k => if i = k then 1 else 0)) := by
    rw [rowL_intz]
    refine ev_lcS (evi_rng (ev_var h2) (by omega)) (lc_rng fun k hk => ?_) (le_lim (by simp; omega))
    have e : ((i : Int) == (k : Int)) = decide (i = k) := by
      by_cases c : i = k
      · simp [c]
      · have : ¬ (i : Int) = (k : Int) := by omega
        simp [c, this]
    have g4 : ((ρ.set 6 none).set 6 (some (.dat (.int (k : Int)))))[4]? = some (some (.dat (.int (i : Int)))) := by
      rw [List.getElem?_set_ne (by decide), List.getElem?_set_ne (by decide)]; exact h4
    have g6 : ((ρ.set 6 none).set 6 (some (.dat (.int (k : Int)))))[6]? = some (some (.dat (.int (k : Int)))) := by
      rw [List.getElem?_set_self (by simp [hl])]
    simp only [lcS, wipeX, asgT, List.length_set, hl, show (6 : Nat) < 16 by decide, if_true, evt, R.bnd_val, ev, evs, g4, g6, coS, coB, eqS_ii, Option.map_some, ofO_some, bfS, e]
    by_cases c : i = k <;> simp [c]
  unfold slE1
  have b1 := ev_cat a1 a2 (by simp [rowL_len]; omega)
  have b2 := ev_cat b1 a3 (by simp [rowL_len]; omega)
  rw [b2]
  unfold rowD
  have : [PyData.int (f N)] = rowL 1 (fun _ => f N) := rfl
  rw [this, rowL_app, rowL_app]
  congr 2
  refine rowL_congr fun j hj => ?_
  by_cases c : j < N
  · rw [if_pos (by omega), if_pos c, if_pos c]
  · rw [if_neg c, if_neg c]
theorem intsOf_row : ∀ (ns : List Int), intsOf (intz ns) = some ns
  | [] => rfl
  | x :: ns => by
    show (intsOf (intz ns)).map (x :: ·) = _
    rw [intsOf_row ns]; rfl
theorem sum_sm (n : Nat) (g : Nat → Int) : ((List.range n).map g).sum = Sx.sm n g := by
  induction n with
  | zero => rfl
  | succ n ih => rw [List.range_succ, List.map_append, List.sum_append, ih]; simp [Sx.sm]
/-- the sum of a column -/
theorem evSum {W n : Nat} {T : Nat → Nat → Int} {g : Nat → Int} {v : Int} {Ei : Ex} {rows : List D} (hrows : rows = (List.range n).map fun (i : Nat) => rowD W (T i)) (hl : ρ.length = 16) (h3 : ρ[3]? = some (some (.dat (.list rows)))) (hn : n ≤ 100) (hE : ∀ x, ev cal Ei ((ρ.set 8 none).set 8 (some (.dat x))) = .val (.int v)) (ha : ∀ i, i < n → atX (rowL W (T i)) v = some (.int (g i))) :
    ev cal (.blt .sum (.cons (.lc (.nm 8) (.seq (.var 3)) .non (.ix (.var 8) Ei) [8]) .nil)) ρ = .val (.int (Sx.sm n g)) := by
  have a : ev cal (.lc (.nm 8) (.seq (.var 3)) .non (.ix (.var 8) Ei) [8]) ρ = .val (.list (rowL n g)) := by
    refine ev_lcS (xs := rows) (by simp only [evi, ev, h3, R.bnd_val, seqS, ofO_some]) ?_ (le_lim (by rw [rowL_len]; omega))
    rw [hrows]
    refine lc_idx fun i hi => ?_
    have hi' : i < n := by simpa using hi
    have g8 : ((ρ.set 8 none).set 8 (some (.dat (.list (rowL W (T i))))))[8]? = some (some (.dat (.list (rowL W (T i))))) := by
      rw [List.getElem?_set_self (by simp [hl])]
    unfold rowD
    simp only [lcS, wipeX, asgT, List.length_set, hl, show (8 : Nat) < 16 by decide, if_true, evt, R.bnd_val, ev, g8, hE, ixS, ha i hi', ofO_some]
  simp only [ev, evs] at a ⊢
  simp only [a, R.bnd_val, bfS]
  rw [rowL_intz, intsOf_row, ← sum_sm]
  rfl
def slE2 : Ex := (.lc (.nm 9) (.rng (.var 1)) .non (.bor (.blt .sum (.cons (.lc (.nm 8) (.seq (.var 3)) .non (.ix (.var 8) (.var 9)) [8]) .nil))) [9])
theorem frz_get {i : Nat} {o : Option Sl} (h : ρ[i]? = some o) : (frzAll ρ)[i]? = some (frzS o) := by
  unfold frzAll; rw [List.getElem?_map, h]; rfl
theorem evE2 {W n N : Nat} {T : Nat → Nat → Int} {rows : List D} (hrows : rows = (List.range n).map fun (i : Nat) => rowD W (T i)) (hl : ρ.length = 16) (h1 : ρ[1]? = some (some (.dat (.int (N : Int))))) (h3 : ρ[3]? = some (some (.own rows))) (hn : n ≤ 100) (hN : N ≤ 100) (hW : N ≤ W) :
    ev cal slE2 ρ = .val (.list (rowL N fun j => Sx.sm n fun i => T i j)) := by
  rw [rowL_intz]
  refine ev_lcS (evi_rng (ev_var h1) (by omega)) (lc_rng fun j hj => ?_) (le_lim (by simp; omega))
  have g3 : (frzAll ((ρ.set 9 none).set 9 (some (.dat (.int (j : Int))))))[3]? = some (some (.dat (.list rows))) := by
    refine frz_get (o := some (.own rows)) ?_
    rw [List.getElem?_set_ne (by decide), List.getElem?_set_ne (by decide)]; exact h3
  have s := evSum (cal := cal) (ρ := frzAll ((ρ.set 9 none).set 9 (some (.dat (.int (j : Int)))))) (Ei := .var 9) (v := (j : Int)) (g := fun i => T i j) hrows (by simp [frzAll, hl]) g3 hn (fun x => ev_var (by
    rw [List.getElem?_set_ne (by decide), List.getElem?_set_ne (by decide)]
    exact frz_get (o := some (.dat (.int (j : Int)))) (by rw [List.getElem?_set_self (by simp [hl])]))) (fun i hi => rowL_at (by omega))
  have hl9 : 9 < (ρ.set 9 none).length := by simp [hl]
  simp only [lcS, wipeX, asgT, hl9, if_true, evt, R.bnd_val]
  rw [ev]
  rw [s]
  simp [scalar]
def slE3 : Ex := (.bin .add (.bin .add (.var 7) (.bin .mul (.lst (.cons (.lit (.int 0)) .nil)) (.var 2))) (.lst (.cons (.bor (.blt .sum (.cons (.lc (.nm 8) (.seq (.var 3)) .non (.ix (.var 8) (.neg (.lit (.int 1)))) [8]) .nil))) .nil)))
theorem rep0 (n : Nat) : repX [PyData.int 0] (n : Int) = rowL n fun _ => 0 := by
  unfold repX rowL
  rw [Int.toNat_natCast]
  induction n with
  | zero => rfl
  | succ n ih => rw [List.replicate_succ', List.flatten_append, ih, List.range_succ, List.map_append]; simp
theorem ev_zeros {n i : Nat} (hn : n ≤ 100) (hi : ρ[i]? = some (some (.dat (.int (n : Int))))) : ev cal (.bin .mul (.lst (.cons (.lit (.int 0)) .nil)) (.var i)) ρ = .val (.list (rowL n fun _ => 0)) := by
  rw [← rep0]
  have l1 : (1 : Nat) ≤ lim := by decide
  have e : ev cal (.lst (.cons (.lit (.int 0)) .nil)) ρ = .val (.list [.int 0]) := by
    simp only [ev, evs, R.bnd_val]; rw [mkL_of (by simpa using l1)]; rfl
  simp only [ev, evs, hi, R.bnd_val, boS] at e ⊢
  rw [e, R.bnd_val]
  have : mulS (.list [.int 0]) (.int (n : Int)) = some (.list (repX [PyData.int 0] (n : Int))) := by
    simp only [mulS]; rw [if_pos (by simp; omega)]
  rw [this]; rfl
theorem evE3 {W n N : Nat} {T : Nat → Nat → Int} {e : Nat → Int} {rows : List D} (hrows : rows = (List.range n).map fun (i : Nat) => rowD (W + 1) (T i)) (hl : ρ.length = 16) (h2 : ρ[2]? = some (some (.dat (.int (n : Int))))) (h3 : ρ[3]? = some (some (.own rows))) (h7 : ρ[7]? = some (some (.dat (.list (rowL N e))))) (hn : n ≤ 100) (hN : N ≤ 100) :
    ev cal slE3 ρ = .val (rowD (N + n + 1) fun j => if j < N then e j else if j < N + n then 0 else Sx.sm n fun i => T i W) := by
  have s := evSum (cal := cal) (ρ := frzAll ρ) (Ei := .neg (.lit (.int 1))) (v := -1) (g := fun i => T i W) hrows (by simp [frzAll, hl]) (frz_get (o := some (.own rows)) h3) hn (fun x => ev_m1) (fun i hi => rowL_last)
  have b1 := ev_cat (cal := cal) (ev_var h7) (ev_zeros hn h2) (by simp [rowL_len]; omega)
  have l1 : (1 : Nat) ≤ lim := by decide
  have a3 : ev cal (.lst (.cons (.bor (.blt .sum (.cons (.lc (.nm 8) (.seq (.var 3)) .non (.ix (.var 8) (.neg (.lit (.int 1)))) [8]) .nil))) .nil)) ρ = .val (.list [.int (Sx.sm n fun i => T i W)]) := by
    rw [ev, evs, ev, s]
    simp only [R.bnd_val, scalar, if_true, evs]
    rw [mkL_of (by simpa using l1)]; rfl
  have b2 := ev_cat b1 a3 (by simp [rowL_len]; omega)
  unfold slE3
  rw [b2]
  unfold rowD
  have : [PyData.int (Sx.sm n fun i => T i W)] = rowL 1 (fun _ => Sx.sm n fun i => T i W) := rfl
  rw [this, rowL_app, rowL_app]
  congr 2
  refine rowL_congr fun j hj => ?_
  by_cases c : j < N
  · rw [if_pos (by omega), if_pos c, if_pos c]
  · rw [if_neg c, if_neg c]
def slE4 : Ex := (.lc (.nm 4) (.rng (.var 2)) .non (.bin .add (.var 1) (.var 4)) [4])
theorem evE4 {n N : Nat} (hl : ρ.length = 16) (h1 : ρ[1]? = some (some (.dat (.int (N : Int))))) (h2 : ρ[2]? = some (some (.dat (.int (n : Int))))) (hn : n ≤ 100) : ev cal slE4 ρ = .val (.list (rowL n fun i => ((N + i : Nat) : Int))) := by
  rw [rowL_intz]
  refine ev_lcS (evi_rng (ev_var h2) (by omega)) (lc_rng fun j hj => ?_) (le_lim (by simp; omega))
  have g1 : ((ρ.set 4 none).set 4 (some (.dat (.int (j : Int)))))[1]? = some (some (.dat (.int (N : Int)))) := by
    rw [List.getElem?_set_ne (by decide), List.getElem?_set_ne (by decide)]; exact h1
  have g4 : ((ρ.set 4 none).set 4 (some (.dat (.int (j : Int)))))[4]? = some (some (.dat (.int (j : Int)))) := by
    rw [List.getElem?_set_self (by simp [hl])]
  simp only [lcS, wipeX, asgT, List.length_set, hl, show (4 : Nat) < 16 by decide, if_true, evt, R.bnd_val, ev, g1, g4, boS, addS, ofO_some]
  rfl
end
end Pg

set_option linter.all false
set_option maxRecDepth 100000
set_option maxHeartbeats 4000000
namespace Pg
open PySem hiding call exec
open Mp
/-! solve -/
section
variable {cal : Str → List D → R D} {s : Str → Str → Bool} {w : Nat} {ρ : Rho}
theorem ex_app {i : Nat} {e : Ex} {ds : List D} {d : D} (hi : ρ[i]? = some (some (.own ds))) (he : ev cal e ρ = .val d) (hl : ds.length < 1000) : exec cal s w (.app i e) ρ = .nxt (ρ.set i (some (.own (ds ++ [d])))) := by
  have : ds.length < lim := Nat.lt_of_lt_of_le hl (by decide)
  simp only [exec, hi, he, R.out_val, this, if_true]
theorem ex_asg {i : Nat} {e : Ex} {d : D} (he : ev cal e ρ = .val d) (hi : i < ρ.length) : exec cal s w (.asg (.nm i) e) ρ = .nxt (ρ.set i (some (.dat d))) := by
  simp only [exec, he, R.out_val, asgT, hi, if_true]
theorem ex_own {i : Nat} {e : Ex} {ds : List D} (he : ev cal e ρ = .val (.list ds)) (hi : i < ρ.length) : exec cal s w (.own i e) ρ = .nxt (ρ.set i (some (.own ds))) := by
  simp only [exec, he, R.out_val, hi, if_true]
theorem ex_ret {e : Ex} {d : D} (he : ev cal e ρ = .val d) : exec cal s w (.ret e) ρ = .ret d := by
  simp only [exec, he, R.out_val]
theorem ev_bor {e : Ex} {d : D} (he : ev cal e (frzAll ρ) = .val d) (hs : scalar d = true) : ev cal (.bor e) ρ = .val d := by
  rw [ev, he, R.bnd_val, hs]; rfl
theorem ev_cell {i r : Nat} {a b : Ex} {t row : List D} {x y v : Int} (h3 : ρ[i]? = some (some (.dat (.list t)))) (ha : ev cal a ρ = .val (.int x)) (hb : ev cal b ρ = .val (.int y)) (e1 : atX t x = some (.list row)) (e2 : atX row y = some (.int v)) : ev cal (.ix (.ix (.var i) a) b) ρ = .val (.int v) := by
  simp only [ev, h3, ha, hb, R.bnd_val, ixS, e1, e2, ofO_some]
end
def sl1 : S := .app 3 slE1
def slE5 : Ex := (.lc (.nm 4) (.rng (.var 2)) .non (.bin .add (.ix (.ix (.var 3) (.neg (.lit (.int 1)))) (.bin .add (.var 1) (.var 4))) (.var 11)) [4])
def sl2 : S := (.ite (.cmp .lt (.var 15) (.var 1)) (.set 14 (.var 15) (.bor (.ix (.ix (.var 3) (.var 12)) (.neg (.lit (.int 1)))))) .skip)
def slI : S := (.ite (.cmp .ne (.bor (.ix (.ix (.var 3) (.neg (.lit (.int 1)))) (.neg (.lit (.int 1))))) (.lit (.int 0))) (.frz [3] (.ret (.tup (.cons (.lit .none) (.cons slE5 .nil))))) .skip)
def slEnd : S := (.seq (.own 14 (.bin .mul (.lst (.cons (.lit (.int 0)) .nil)) (.var 1))) (.seq (.frz [10] (.for (.tp (.cons (.nm 12) (.cons (.nm 15) .nil))) (.enum (.var 10)) sl2)) (.frz [14] (.ret (.tup (.cons (.tup (.cons (.var 14) (.cons (.var 11) .nil))) (.cons (.lit .none) .nil)))))))
theorem sl_is : p_solve = (.seq (.asg (.nm 2) (.blt .len (.cons (.var 0) .nil))) (.seq (.own 3 (.lst .nil)) (.seq (.for (.tp (.cons (.nm 4) (.cons (.nm 5) .nil))) (.enum (.var 0)) sl1) (.seq (.asg (.nm 7) slE2) (.seq (.app 3 slE3) (.seq (.own 10 slE4) (.seq (.asg (.nm 11) (.lit (.int 1))) (.seq (.asg (.nm 9) (.bor (.call "pick_column" (.cons (.var 3) (.cons (.var 1) .nil))))) (.seq (.whl (.cmp .isnt (.var 9) (.lit .none)) slB) (.seq slI slEnd)))))))))) := rfl
section
variable {cal : Str → List D → R D}
/-- the first loop -/
theorem sl_rows {n N : Nat} {A : Nat → Nat → Int} {eqs rows : List D} (he : eqs = (List.range n).map fun (i : Nat) => rowD (N + 1) (A i)) (hrw : rows = (List.range n).map fun (i : Nat) => rowD (N + n + 1) fun j => colV n N A j i) (hn : n ≤ 100) (hN : N ≤ 100) :
    ∃ o4 o5, exec cal sub wf (.for (.tp (.cons (.nm 4) (.cons (.nm 5) .nil))) (.enum (.var 0)) sl1) [some (.dat (.list eqs)), some (.dat (.int (N : Int))), some (.dat (.int (n : Int))), some (.own []), none, none, none, none, none, none, none, none, none, none, none, none] = .nxt [some (.dat (.list eqs)), some (.dat (.int (N : Int))), some (.dat (.int (n : Int))), some (.own rows), o4, o5, none, none, none, none, none, none, none, none, none, none] := by
  have i1 : evi cal (.enum (.var 0)) [some (.dat (.list eqs)), some (.dat (.int (N : Int))), some (.dat (.int (n : Int))), some (.own []), none, none, none, none, none, none, none, none, none, none, none, none] = .val (enumX 0 eqs) := by
    simp [eqS_ii, eqS_ss, exec, ev, evs, evo, evt, evi, startX, coS, coB, ltS, leS, gtS, geS, isS, isNone, bfS, tyS, ixS, boS, addS, subS, mulS, modS, fdivS, powS, negS, truth, truR, O.res, asgT, asgTs, mkT, mkL, optI, slS, frzAt, frzS, R.out, seqS, enumS]
  have f := ex_for (s := sub) (w := wf) (b := sl1) (t := .tp (.cons (.nm 4) (.cons (.nm 5) .nil))) i1
  have hel : eqs.length = n := by rw [he]; simp
  have hrl : rows.length = n := by rw [hrw]; simp
  have g := forF_inv (step := forStep cal sub wf (.tp (.cons (.nm 4) (.cons (.nm 5) .nil))) sl1) (xs := enumX 0 eqs) (fun i ρ => ∃ o4 o5, ρ = [some (.dat (.list eqs)), some (.dat (.int (N : Int))), some (.dat (.int (n : Int))), some (.own (rows.take i)), o4, o5, none, none, none, none, none, none, none, none, none, none]) (ρ := [some (.dat (.list eqs)), some (.dat (.int (N : Int))), some (.dat (.int (n : Int))), some (.own []), none, none, none, none, none, none, none, none, none, none, none, none]) ⟨none, none, rfl⟩ (by
    intro i x ρ hx I
    obtain ⟨o4, o5, rfl⟩ := I
    have hi : i < n := by
      have := (List.getElem?_eq_some_iff.mp hx).1
      rw [enumX_len, hel] at this
      exact this
    rw [enumX_at] at hx
    have hei : eqs[i]? = some (rowD (N + 1) (A i)) := by rw [he, List.getElem?_map, List.getElem?_range hi]; rfl
    rw [hei] at hx
    have ex : x = .tuple [.int (i : Int), rowD (N + 1) (A i)] := by
      simp at hx; exact hx.symm
    subst ex
    have fs : forStep cal sub wf (.tp (.cons (.nm 4) (.cons (.nm 5) .nil))) sl1 (.tuple [.int (i : Int), rowD (N + 1) (A i)]) [some (.dat (.list eqs)), some (.dat (.int (N : Int))), some (.dat (.int (n : Int))), some (.own (rows.take i)), o4, o5, none, none, none, none, none, none, none, none, none, none] = exec cal sub wf sl1 [some (.dat (.list eqs)), some (.dat (.int (N : Int))), some (.dat (.int (n : Int))), some (.own (rows.take i)), some (.dat (.int (i : Int))), some (.dat (rowD (N + 1) (A i))), none, none, none, none, none, none, none, none, none, none] := by
      simp [forStep, asgT, asgTs]
    rw [fs]
    have e1 := evE1 (cal := cal) (ρ := [some (.dat (.list eqs)), some (.dat (.int (N : Int))), some (.dat (.int (n : Int))), some (.own (rows.take i)), some (.dat (.int (i : Int))), some (.dat (rowD (N + 1) (A i))), none, none, none, none, none, none, none, none, none, none]) (n := n) (N := N) (i := i) (f := A i) rfl rfl rfl rfl hn hN
    have hr : rows[i]? = some (rowD (N + n + 1) fun j => if j < N then A i j else if j < N + n then (if i = j - N then 1 else 0) else A i N) := by
      rw [hrw, List.getElem?_map, List.getElem?_range hi]
      have rr : (rowL (N + n + 1) fun j => colV n N A j i) = rowL (N + n + 1) fun j => if j < N then A i j else if j < N + n then (if i = j - N then 1 else 0) else A i N := by
        refine rowL_congr fun j hj => ?_
        unfold colV
        by_cases c : j < N
        · rw [if_pos c, if_pos c]
        · rw [if_neg c, if_neg c]
          by_cases d : j < N + n
          · rw [if_pos d, if_pos d]; rfl
          · rw [if_neg d, if_neg d]
      simp only [Option.map_some, rowD, rr]
    have a := ex_app (s := sub) (w := wf) (i := 3) (ds := rows.take i) (by rfl) e1 (by rw [List.length_take]; omega)
    rw [take_snoc hr] at a
    exact ⟨_, a, _, _, rfl⟩)
  obtain ⟨ρ', e, o4, o5, rfl⟩ := g
  have : rows.take (enumX 0 eqs).length = rows := by rw [enumX_len, hel, ← hrl, List.take_length]
  rw [this] at e
  exact ⟨o4, o5, f.trans e⟩
/-- the multipliers -/
theorem evE5 {W n N : Nat} {T : Nat → Nat → Int} {z : Nat → Int} {d : Int} {ρ : Rho} (hl : ρ.length = 16) (h1 : ρ[1]? = some (some (.dat (.int (N : Int))))) (h2 : ρ[2]? = some (some (.dat (.int (n : Int))))) (h3 : ρ[3]? = some (some (.dat (.list (tabL W n T z))))) (h11 : ρ[11]? = some (some (.dat (.int d)))) (hn : n ≤ 100) (hW : N + n ≤ W) :
    ev cal slE5 ρ = .val (.list (rowL n fun k => z (N + k) + d)) := by
  rw [rowL_intz]
  refine ev_lcS (evi_rng (ev_var h2) (by omega)) (lc_rng fun j hj => ?_) (le_lim (by simp; omega))
  have g1 : ((ρ.set 4 none).set 4 (some (.dat (.int (j : Int)))))[1]? = some (some (.dat (.int (N : Int)))) := by
    rw [List.getElem?_set_ne (by decide), List.getElem?_set_ne (by decide)]; exact h1
  have g3 : ((ρ.set 4 none).set 4 (some (.dat (.int (j : Int)))))[3]? = some (some (.dat (.list (tabL W n T z)))) := by
    rw [List.getElem?_set_ne (by decide), List.getElem?_set_ne (by decide)]; exact h3
  have g11 : ((ρ.set 4 none).set 4 (some (.dat (.int (j : Int)))))[11]? = some (some (.dat (.int d))) := by
    rw [List.getElem?_set_ne (by decide), List.getElem?_set_ne (by decide)]; exact h11
  have g4 : ((ρ.set 4 none).set 4 (some (.dat (.int (j : Int)))))[4]? = some (some (.dat (.int (j : Int)))) := by
    rw [List.getElem?_set_self (by simp [hl])]
  have e1 : atX (tabL W n T z) (-1) = some (.list (rowL W z)) := tabL_last
  have e2 : atX (rowL W z) ((N : Int) + (j : Int)) = some (.int (z (N + j))) := by
    have := rowL_at (W := W) (f := z) (j := N + j) (by omega)
    rw [← this]; congr 1
  simp only [lcS, wipeX, asgT, List.length_set, hl, show (4 : Nat) < 16 by decide, if_true, evt, R.bnd_val, ev, g1, g3, g4, g11, boS, addS, ofO_some, negS, ixS, e1, e2]
/-- the part of the first i rows -/
def fndP (T : Nat → Nat → Int) (W : Nat) (bs : Nat → Nat) (i j : Nat) : Int := Sx.sm i fun a => if bs a = j then T a W else 0
theorem fndP_set {N W n : Nat} {T : Nat → Nat → Int} {bs : Nat → Nat} (inj : ∀ a b, a < n → b < n → bs a = bs b → a = b) {i : Nat} (hi : i < n) (hb : bs i < N) : (rowL N (fndP T W bs i)).set (bs i) (.int (T i W)) = rowL N (fndP T W bs (i + 1)) := by
  unfold rowL
  refine List.ext_getElem? fun j => ?_
  by_cases c : bs i = j
  · subst c
    rw [List.getElem?_set_self (by simpa using hb), List.getElem?_map, List.getElem?_range hb]
    have : fndP T W bs (i + 1) (bs i) = T i W := by
      unfold fndP
      simp only [Sx.sm]
      rw [Sx.sm_zero, if_pos trivial, Int.zero_add]
      intro a ha
      rw [if_neg]
      intro e
      have := inj a i (by omega) hi e
      omega
    simp [this]
  · rw [List.getElem?_set_ne c, List.getElem?_map, List.getElem?_map]
    have : fndP T W bs (i + 1) j = fndP T W bs i j := by
      unfold fndP
      simp only [Sx.sm]
      rw [if_neg c, Int.add_zero]
    by_cases d : j < N
    · rw [List.getElem?_range d]; simp [this]
    · rw [List.getElem?_eq_none (by simp; omega)]; rfl
theorem fndP_skip {N W : Nat} {T : Nat → Nat → Int} {bs : Nat → Nat} {i : Nat} (hb : ¬ bs i < N) : rowL N (fndP T W bs i) = rowL N (fndP T W bs (i + 1)) := by
  refine rowL_congr fun j hj => ?_
  unfold fndP
  simp only [Sx.sm]
  rw [if_neg (by omega), Int.add_zero]
theorem sl_found {W n N : Nat} {T : Nat → Nat → Int} {z : Nat → Int} {bs : Nat → Nat} {d : Int} {s3 : Sl} {E : D} {o4 o5 o6 o7 o8 o9 o12 o13 : Option Sl} (h3 : frzS (some s3) = some (.dat (.list (tabL (W + 1) n T z)))) (inj : ∀ a b, a < n → b < n → bs a = bs b → a = b) (hn : n ≤ 100) (hN : N ≤ 100) :
    exec cal sub wf slEnd [some (.dat E), some (.dat (.int (N : Int))), some (.dat (.int (n : Int))), some s3, o4, o5, o6, o7, o8, o9, some (.own (rowL n fun i => (bs i : Int))), some (.dat (.int d)), o12, o13, none, none] = .ret (.tuple [.tuple [.list (rowL N (fndP T W bs n)), .int d], .none]) := by
  unfold slEnd
  have e14 := ev_zeros (cal := cal) (ρ := [some (.dat E), some (.dat (.int (N : Int))), some (.dat (.int (n : Int))), some s3, o4, o5, o6, o7, o8, o9, some (.own (rowL n fun i => (bs i : Int))), some (.dat (.int d)), o12, o13, none, none]) (n := N) (i := 1) hN rfl
  have s1 := ex_own (s := sub) (w := wf) (i := 14) e14 (by simp)
  rw [ex_seq s1]
  have hz : rowL N (fun _ => 0) = rowL N (fndP T W bs 0) := rfl
  have hset : [some (.dat E), some (.dat (.int (N : Int))), some (.dat (.int (n : Int))), some s3, o4, o5, o6, o7, o8, o9, some (.own (rowL n fun i => (bs i : Int))), some (.dat (.int d)), o12, o13, none, none].set 14 (some (Sl.own (rowL N fun _ => 0))) = [some (.dat E), some (.dat (.int (N : Int))), some (.dat (.int (n : Int))), some s3, o4, o5, o6, o7, o8, o9, some (.own (rowL n fun i => (bs i : Int))), some (.dat (.int d)), o12, o13, some (.own (rowL N (fndP T W bs 0))), none] := rfl
  rw [hset]
  have hbl : (rowL n fun i => (bs i : Int)).length = n := rowL_len _ _
  have hbi : ∀ i, i < n → (rowL n fun i => (bs i : Int))[i]? = some (.int (bs i : Int)) := fun i hi => by
    unfold rowL; rw [List.getElem?_map, List.getElem?_range hi]; rfl
  have htat : ∀ i, i < n → atX (tabL (W + 1) n T z) (i : Int) = some (.list (rowL (W + 1) (T i))) := fun i hi => tabL_at hi
  generalize rowL n (fun i => (bs i : Int)) = bl at *
  generalize tabL (W + 1) n T z = t at *
  have i1 : evi cal (.enum (.var 10)) [some (.dat E), some (.dat (.int (N : Int))), some (.dat (.int (n : Int))), some s3, o4, o5, o6, o7, o8, o9, some (.dat (.list bl)), some (.dat (.int d)), o12, o13, some (.own (rowL N (fndP T W bs 0))), none] = .val (enumX 0 bl) := by
    simp [eqS_ii, eqS_ss, exec, ev, evs, evo, evt, evi, startX, coS, coB, ltS, leS, gtS, geS, isS, isNone, bfS, tyS, ixS, boS, addS, subS, mulS, modS, fdivS, powS, negS, truth, truR, O.res, asgT, asgTs, mkT, mkL, optI, slS, frzAt, frzS, R.out, seqS, enumS]
  have f := ex_for (s := sub) (w := wf) (b := sl2) (t := .tp (.cons (.nm 12) (.cons (.nm 15) .nil))) i1
  have g := forF_inv (step := forStep cal sub wf (.tp (.cons (.nm 12) (.cons (.nm 15) .nil))) sl2) (xs := enumX 0 bl) (fun i ρ => ∃ o12 o15, ρ = [some (.dat E), some (.dat (.int (N : Int))), some (.dat (.int (n : Int))), some s3, o4, o5, o6, o7, o8, o9, some (.dat (.list bl)), some (.dat (.int d)), o12, o13, some (.own (rowL N (fndP T W bs i))), o15]) (ρ := [some (.dat E), some (.dat (.int (N : Int))), some (.dat (.int (n : Int))), some s3, o4, o5, o6, o7, o8, o9, some (.dat (.list bl)), some (.dat (.int d)), o12, o13, some (.own (rowL N (fndP T W bs 0))), none]) ⟨_, _, rfl⟩ (by
    intro i x ρ hx I
    obtain ⟨o12, o15, rfl⟩ := I
    have hi : i < n := by
      have := (List.getElem?_eq_some_iff.mp hx).1
      rw [enumX_len, hbl] at this
      exact this
    rw [enumX_at, hbi i hi] at hx
    have ex : x = .tuple [.int (i : Int), .int (bs i : Int)] := by
      simp at hx; exact hx.symm
    subst ex
    have fs : forStep cal sub wf (.tp (.cons (.nm 12) (.cons (.nm 15) .nil))) sl2 (.tuple [.int (i : Int), .int (bs i : Int)]) [some (.dat E), some (.dat (.int (N : Int))), some (.dat (.int (n : Int))), some s3, o4, o5, o6, o7, o8, o9, some (.dat (.list bl)), some (.dat (.int d)), o12, o13, some (.own (rowL N (fndP T W bs i))), o15] = exec cal sub wf sl2 [some (.dat E), some (.dat (.int (N : Int))), some (.dat (.int (n : Int))), some s3, o4, o5, o6, o7, o8, o9, some (.dat (.list bl)), some (.dat (.int d)), some (.dat (.int (i : Int))), o13, some (.own (rowL N (fndP T W bs i))), some (.dat (.int (bs i : Int)))] := by
      simp [forStep, asgT, asgTs]
    rw [fs]
    by_cases c : bs i < N
    · have st := fndP_set (N := N) (W := W) (T := T) inj hi c
      have ix : ixX (rowL N (fndP T W bs i)).length (bs i : Int) = some (bs i) := by
        rw [rowL_len]; unfold ixX; rw [if_pos (by omega), if_pos (by omega)]; simp
      generalize rowL N (fndP T W bs (i + 1)) = F' at *
      generalize rowL N (fndP T W bs i) = F at *
      have e2 : atX (rowL (W + 1) (T i)) (-1) = some (.int (T i W)) := rowL_last
      have e1 := htat i hi
      generalize rowL (W + 1) (T i) = rw at *
      refine ⟨[some (.dat E), some (.dat (.int (N : Int))), some (.dat (.int (n : Int))), some s3, o4, o5, o6, o7, o8, o9, some (.dat (.list bl)), some (.dat (.int d)), some (.dat (.int (i : Int))), o13, some (.own F'), some (.dat (.int (bs i : Int)))], ?_, _, _, rfl⟩
      have c' : (bs i : Int) < (N : Int) := by omega
      have ev1 : ev cal (.bor (.ix (.ix (.var 3) (.var 12)) (.neg (.lit (.int 1))))) [some (.dat E), some (.dat (.int (N : Int))), some (.dat (.int (n : Int))), some s3, o4, o5, o6, o7, o8, o9, some (.dat (.list bl)), some (.dat (.int d)), some (.dat (.int (i : Int))), o13, some (.own F), some (.dat (.int (bs i : Int)))] = .val (.int (T i W)) := by
        refine ev_bor (ev_cell (r := 0) (t := t) (row := rw) (x := (i : Int)) (y := -1) ?_ (ev_var rfl) ev_m1 e1 e2) rfl
        exact frz_get (o := some s3) rfl |>.trans (by rw [h3])
      rw [← st]
      unfold sl2
      generalize Ex.bor (.ix (.ix (.var 3) (.var 12)) (.neg (.lit (.int 1)))) = EE at *
      simp [exec, truR, coS, coB, ltS, truth, ev1, R.out, ix, c', ev]
    · rw [← fndP_skip c]
      refine ⟨[some (.dat E), some (.dat (.int (N : Int))), some (.dat (.int (n : Int))), some s3, o4, o5, o6, o7, o8, o9, some (.dat (.list bl)), some (.dat (.int d)), some (.dat (.int (i : Int))), o13, some (.own (rowL N (fndP T W bs i))), some (.dat (.int (bs i : Int)))], ?_, _, _, rfl⟩
      have c' : ¬ (bs i : Int) < (N : Int) := by omega
      generalize rowL N (fndP T W bs i) = F at *
      unfold sl2
      simp [eqS_ii, eqS_ss, exec, ev, evs, evo, evt, evi, startX, coS, coB, ltS, leS, gtS, geS, isS, isNone, bfS, tyS, ixS, boS, addS, subS, mulS, modS, fdivS, powS, negS, truth, truR, O.res, asgT, asgTs, mkT, mkL, optI, slS, frzAt, frzS, R.out, seqS, c'])
  obtain ⟨ρ', e, o12', o15', rfl⟩ := g
  have e' := f.trans e
  rw [enumX_len, hbl] at e'
  generalize sl2 = BB at *
  generalize rowL N (fndP T W bs n) = F at *
  generalize rowL N (fndP T W bs 0) = F0 at *
  have fz : exec cal sub wf (.frz [10] (.for (.tp (.cons (.nm 12) (.cons (.nm 15) .nil))) (.enum (.var 10)) BB)) [some (.dat E), some (.dat (.int (N : Int))), some (.dat (.int (n : Int))), some s3, o4, o5, o6, o7, o8, o9, some (.own bl), some (.dat (.int d)), o12, o13, some (.own F0), none] = .nxt [some (.dat E), some (.dat (.int (N : Int))), some (.dat (.int (n : Int))), some s3, o4, o5, o6, o7, o8, o9, some (.dat (.list bl)), some (.dat (.int d)), o12', o13, some (.own F), o15'] := by
    rw [exec]; exact e'
  rw [ex_seq fz]
  have l2 : (2 : Nat) ≤ lim := by decide
  simp [eqS_ii, eqS_ss, exec, ev, evs, evo, evt, evi, startX, coS, coB, ltS, leS, gtS, geS, isS, isNone, bfS, tyS, ixS, boS, addS, subS, mulS, modS, fdivS, powS, negS, truth, truR, O.res, asgT, asgTs, mkT, mkL, optI, slS, frzAt, frzS, R.out, seqS, l2]
end
end Pg

set_option linter.all false
set_option maxRecDepth 100000
set_option maxHeartbeats 4000000
namespace Pg
open PySem hiding call exec
open Mp
/-! solve: all of it -/
section
variable {n N : Nat} {A : Nat → Nat → Int}
theorem Tz_nonneg {bs : Nat → Nat} (I : Sx.Inv (colV n N A) n N bs) : 0 ≤ Sx.Tz (colV n N A) n N bs (N + n) := by
  have w : Sx.wz n N (N + n) = 0 := by unfold Sx.wz; rw [if_neg (by omega)]
  unfold Sx.Tz
  rw [w, Int.mul_zero, Int.sub_zero]
  unfold Sx.Lz
  refine Sx.sm_nonneg fun i hi => ?_
  by_cases c : N ≤ bs i
  · rw [if_pos c]; exact I.feas i hi
  · rw [if_neg c]; exact Int.le_refl _
theorem wf_big {n : Nat} (hn : n ≤ 15) : 64 ^ n ≤ 0 + wf := by
  have a : 64 ^ n ≤ 64 ^ 15 := Nat.pow_le_pow_right (by decide) hn
  have b : (64 : Nat) ^ 15 ≤ 0 + wf := by decide
  omega
/-- the start -/
theorem sl_start {cal : Str → List D → R D} {eqs : List D} (he : eqs = (List.range n).map fun (i : Nat) => rowD (N + 1) (A i)) (hn : n ≤ 15) (hN : N + n ≤ 64) {T : Nat → Nat → Int} {z : Nat → Int} {c : D} (t0 : ∀ i j, i < n → T i j = colV n N A j i) (z0 : ∀ j, (j < N ∨ j = N + n) → z j = Sx.sm n (fun i => colV n N A j i)) (z1 : ∀ k, k < n → z (N + k) = 0) (ec : cal "pick_column" [.list (tabL (N + n + 1) n T z), .int (N : Int)] = .val c) (sc : scalar c = true) {rest : S} :
    ∃ o4 o5 o7, exec cal sub wf (.seq (.asg (.nm 2) (.blt .len (.cons (.var 0) .nil))) (.seq (.own 3 (.lst .nil)) (.seq (.for (.tp (.cons (.nm 4) (.cons (.nm 5) .nil))) (.enum (.var 0)) sl1) (.seq (.asg (.nm 7) slE2) (.seq (.app 3 slE3) (.seq (.own 10 slE4) (.seq (.asg (.nm 11) (.lit (.int 1))) (.seq (.asg (.nm 9) (.bor (.call "pick_column" (.cons (.var 3) (.cons (.var 1) .nil))))) rest)))))))) (startX 16 [.list eqs, .int (N : Int)]) = exec cal sub wf rest [some (.dat (.list eqs)), some (.dat (.int (N : Int))), some (.dat (.int (n : Int))), some (.own (tabL (N + n + 1) n T z)), o4, o5, none, o7, none, some (.dat c), some (.own (rowL n fun i => ((N + i : Nat) : Int))), some (.dat (.int 1)), none, none, none, none] := by
  have hel : eqs.length = n := by rw [he]; simp
  have s1 : exec (cal) sub wf (.asg (.nm 2) (.blt .len (.cons (.var 0) .nil))) (startX 16 [.list eqs, .int (N : Int)]) = .nxt [some (.dat (.list eqs)), some (.dat (.int (N : Int))), some (.dat (.int (n : Int))), none, none, none, none, none, none, none, none, none, none, none, none, none] := by
    simp [eqS_ii, eqS_ss, exec, ev, evs, evo, evt, evi, startX, coS, coB, ltS, leS, gtS, geS, isS, isNone, bfS, tyS, ixS, boS, addS, subS, mulS, modS, fdivS, powS, negS, truth, truR, O.res, asgT, asgTs, mkT, mkL, optI, slS, frzAt, frzS, R.out, seqS, List.replicate, hel]
  rw [ex_seq s1]
  have s2 : exec (cal) sub wf (.own 3 (.lst .nil)) [some (.dat (.list eqs)), some (.dat (.int (N : Int))), some (.dat (.int (n : Int))), none, none, none, none, none, none, none, none, none, none, none, none, none] = .nxt [some (.dat (.list eqs)), some (.dat (.int (N : Int))), some (.dat (.int (n : Int))), some (.own []), none, none, none, none, none, none, none, none, none, none, none, none] := by
    simp [eqS_ii, eqS_ss, exec, ev, evs, evo, evt, evi, startX, coS, coB, ltS, leS, gtS, geS, isS, isNone, bfS, tyS, ixS, boS, addS, subS, mulS, modS, fdivS, powS, negS, truth, truR, O.res, asgT, asgTs, mkT, mkL, optI, slS, frzAt, frzS, R.out, seqS]
  rw [ex_seq s2]
  obtain ⟨o4, o5, s3⟩ := sl_rows (cal := cal) he (rfl : (List.range n).map (fun (i : Nat) => rowD (N + n + 1) fun j => colV n N A j i) = _) (by omega) (by omega)
  rw [ex_seq s3]
  generalize hrows : (List.range n).map (fun (i : Nat) => rowD (N + n + 1) fun j => colV n N A j i) = rows
  have hrl : rows.length = n := by rw [← hrows]; simp
  have e7 := evE2 (cal := cal) (ρ := [some (.dat (.list eqs)), some (.dat (.int (N : Int))), some (.dat (.int (n : Int))), some (.own rows), o4, o5, none, none, none, none, none, none, none, none, none, none]) (W := N + n + 1) (T := fun i j => colV n N A j i) hrows.symm rfl rfl rfl (n := n) (N := N) (by omega) (by omega) (by omega)
  have s7 := ex_asg (s := sub) (w := wf) (i := 7) e7 (by simp)
  rw [ex_seq s7]
  have hs7 : ([some (.dat (.list eqs)), some (.dat (.int (N : Int))), some (.dat (.int (n : Int))), some (.own rows), o4, o5, none, none, none, none, none, none, none, none, none, none] : Rho).set 7 (some (.dat (.list (rowL N fun j => Sx.sm n fun i => colV n N A j i)))) = [some (.dat (.list eqs)), some (.dat (.int (N : Int))), some (.dat (.int (n : Int))), some (.own rows), o4, o5, none, some (.dat (.list (rowL N fun j => Sx.sm n fun i => colV n N A j i))), none, none, none, none, none, none, none, none] := rfl
  rw [hs7]
  generalize he7 : (rowL N fun j => Sx.sm n fun i => colV n N A j i) = er
  have e3 := evE3 (cal := cal) (ρ := [some (.dat (.list eqs)), some (.dat (.int (N : Int))), some (.dat (.int (n : Int))), some (.own rows), o4, o5, none, some (.dat (.list er)), none, none, none, none, none, none, none, none]) (W := N + n) (T := fun i j => colV n N A j i) (e := fun j => Sx.sm n fun i => colV n N A j i) hrows.symm rfl (n := n) (N := N) rfl rfl (by rw [he7]; rfl) (by omega) (by omega)
  have s8 := ex_app (s := sub) (w := wf) (i := 3) (ds := rows) rfl e3 (by omega)
  rw [ex_seq s8]
  have ht : rows ++ [rowD (N + n + 1) fun j => if j < N then Sx.sm n fun i => colV n N A j i else if j < N + n then 0 else Sx.sm n fun i => colV n N A (N + n) i] = tabL (N + n + 1) n T z := by
    rw [← hrows]
    have e : tabL (N + n + 1) n T z = tabL (N + n + 1) n (fun i j => colV n N A j i) (fun j => if j < N then Sx.sm n fun i => colV n N A j i else if j < N + n then 0 else Sx.sm n fun i => colV n N A (N + n) i) := by
      refine tabL_congr (fun i hi j hj => t0 i j hi) (fun j hj => ?_)
      by_cases c : j < N
      · rw [if_pos c]; exact z0 j (.inl c)
      · rw [if_neg c]
        by_cases d : j < N + n
        · rw [if_pos d]
          have := z1 (j - N) (by omega)
          rw [show N + (j - N) = j by omega] at this
          exact this
        · rw [if_neg d]
          have : j = N + n := by omega
          subst this
          exact z0 _ (.inr rfl)
    rw [e]; rfl
  rw [ht]
  have hs8 : ([some (.dat (.list eqs)), some (.dat (.int (N : Int))), some (.dat (.int (n : Int))), some (.own rows), o4, o5, none, some (.dat (.list er)), none, none, none, none, none, none, none, none] : Rho).set 3 (some (.own (tabL (N + n + 1) n T z))) = [some (.dat (.list eqs)), some (.dat (.int (N : Int))), some (.dat (.int (n : Int))), some (.own (tabL (N + n + 1) n T z)), o4, o5, none, some (.dat (.list er)), none, none, none, none, none, none, none, none] := rfl
  rw [hs8]
  generalize htab : tabL (N + n + 1) n T z = tab at *
  have e10 := evE4 (cal := cal) (ρ := [some (.dat (.list eqs)), some (.dat (.int (N : Int))), some (.dat (.int (n : Int))), some (.own tab), o4, o5, none, some (.dat (.list er)), none, none, none, none, none, none, none, none]) (n := n) (N := N) rfl rfl rfl (by omega)
  have s10 := ex_own (s := sub) (w := wf) (i := 10) e10 (by simp)
  rw [ex_seq s10]
  have hs10 : ([some (.dat (.list eqs)), some (.dat (.int (N : Int))), some (.dat (.int (n : Int))), some (.own tab), o4, o5, none, some (.dat (.list er)), none, none, none, none, none, none, none, none] : Rho).set 10 (some (.own (rowL n fun i => ((N + i : Nat) : Int)))) = [some (.dat (.list eqs)), some (.dat (.int (N : Int))), some (.dat (.int (n : Int))), some (.own tab), o4, o5, none, some (.dat (.list er)), none, none, some (.own (rowL n fun i => ((N + i : Nat) : Int))), none, none, none, none, none] := rfl
  rw [hs10]
  have s11 : exec (cal) sub wf (.asg (.nm 11) (.lit (.int 1))) [some (.dat (.list eqs)), some (.dat (.int (N : Int))), some (.dat (.int (n : Int))), some (.own tab), o4, o5, none, some (.dat (.list er)), none, none, some (.own (rowL n fun i => ((N + i : Nat) : Int))), none, none, none, none, none] = .nxt [some (.dat (.list eqs)), some (.dat (.int (N : Int))), some (.dat (.int (n : Int))), some (.own tab), o4, o5, none, some (.dat (.list er)), none, none, some (.own (rowL n fun i => ((N + i : Nat) : Int))), some (.dat (.int 1)), none, none, none, none] := by
    generalize (rowL n fun i => ((N + i : Nat) : Int)) = bl
    simp [eqS_ii, eqS_ss, exec, ev, evs, evo, evt, evi, startX, coS, coB, ltS, leS, gtS, geS, isS, isNone, bfS, tyS, ixS, boS, addS, subS, mulS, modS, fdivS, powS, negS, truth, truR, O.res, asgT, asgTs, mkT, mkL, optI, slS, frzAt, frzS, R.out, seqS]
  rw [ex_seq s11]
  have s9 : exec (cal) sub wf (.asg (.nm 9) (.bor (.call "pick_column" (.cons (.var 3) (.cons (.var 1) .nil))))) [some (.dat (.list eqs)), some (.dat (.int (N : Int))), some (.dat (.int (n : Int))), some (.own tab), o4, o5, none, some (.dat (.list er)), none, none, some (.own (rowL n fun i => ((N + i : Nat) : Int))), some (.dat (.int 1)), none, none, none, none] = .nxt [some (.dat (.list eqs)), some (.dat (.int (N : Int))), some (.dat (.int (n : Int))), some (.own tab), o4, o5, none, some (.dat (.list er)), none, some (.dat c), some (.own (rowL n fun i => ((N + i : Nat) : Int))), some (.dat (.int 1)), none, none, none, none] := by
    generalize (rowL n fun i => ((N + i : Nat) : Int)) = bl
    simp [exec, ev, evs, frzAll, frzS, ec, sc, asgT, R.out]
  rw [ex_seq s9]
  exact ⟨o4, o5, _, rfl⟩
end
end Pg

set_option linter.all false
set_option maxRecDepth 100000
set_option maxHeartbeats 4000000
namespace Pg
open PySem hiding call exec
open Mp
section
variable {n N : Nat} {A : Nat → Nat → Int}
theorem sl_last {cal : Str → List D → R D} {eqs bl : List D} {T : Nat → Nat → Int} {z : Nat → Int} {s3' : Sl} {o4 o5 o7 o12' o13' : Option Sl} {dv : Int} (hn : n ≤ 15) (f3 : frzS (some s3') = some (.dat (.list (tabL (N + n + 1) n T z)))) :
    exec cal sub wf slI [some (.dat (.list eqs)), some (.dat (.int (N : Int))), some (.dat (.int (n : Int))), some s3', o4, o5, none, o7, none, some (.dat .none), some (.own bl), some (.dat (.int dv)), o12', o13', none, none] = if z (N + n) = 0 then .nxt [some (.dat (.list eqs)), some (.dat (.int (N : Int))), some (.dat (.int (n : Int))), some s3', o4, o5, none, o7, none, some (.dat .none), some (.own bl), some (.dat (.int dv)), o12', o13', none, none] else .ret (.tuple [.none, .list (rowL n fun k => z (N + k) + dv)]) := by
  have e5 := evE5 (cal := cal) (W := N + n + 1) (n := n) (N := N) (T := T) (z := z) (d := dv) (ρ := [some (.dat (.list eqs)), some (.dat (.int (N : Int))), some (.dat (.int (n : Int))), some (.dat (.list (tabL (N + n + 1) n T z))), o4, o5, none, o7, none, some (.dat .none), some (.own bl), some (.dat (.int dv)), o12', o13', none, none]) rfl rfl rfl rfl rfl (by omega) (by omega)
  have e1 : atX (tabL (N + n + 1) n T z) (-1) = some (.list (rowL (N + n + 1) z)) := tabL_last
  have e2 : atX (rowL (N + n + 1) z) (-1) = some (.int (z (N + n))) := rowL_last
  generalize rowL (N + n + 1) z = zr at *
  generalize tabL (N + n + 1) n T z = t at *
  generalize (rowL n fun k => z (N + k) + dv) = yl at *
  generalize z (N + n) = zz at *
  have b1 : ev cal (.bor (.ix (.ix (.var 3) (.neg (.lit (.int 1)))) (.neg (.lit (.int 1))))) [some (.dat (.list eqs)), some (.dat (.int (N : Int))), some (.dat (.int (n : Int))), some s3', o4, o5, none, o7, none, some (.dat .none), some (.own bl), some (.dat (.int dv)), o12', o13', none, none] = .val (.int zz) := by
    refine ev_bor (ev_cell (r := 0) (t := t) (row := zr) (x := -1) (y := -1) ?_ ev_m1 ev_m1 e1 e2) rfl
    exact frz_get (o := some s3') rfl |>.trans (by rw [f3])
  unfold slI
  generalize Ex.bor (.ix (.ix (.var 3) (.neg (.lit (.int 1)))) (.neg (.lit (.int 1)))) = EE at *
  generalize slE5 = E5 at *
  by_cases cz : zz = 0
  · rw [if_pos cz]
    subst cz
    simp [exec, truR, coS, coB, eqS_ii, truth, b1, R.out, ev]
  · rw [if_neg cz]
    have cz' : (zz == 0) = false := by simpa using cz
    have hc : ∀ ρ : Rho, ev cal EE ρ = .val (.int zz) → ev cal (.cmp .ne EE (.lit (.int 0))) ρ = .val (.bool true) := fun ρ hρ => by
      simp only [ev, hρ, R.bnd_val, coS, coB, eqS_ii, cz', Option.map_some, ofO_some, Bool.not_false]
    have hm : mkT [PyData.none, .list yl] = some (.tuple [.none, .list yl]) := mkT_of (le_lim (by simp))
    rw [ex_ite (hc _ b1) rfl, if_pos rfl]
    have hr : ∀ ρ : Rho, ev cal E5 ρ = .val (.list yl) → exec cal sub wf (.ret (.tup (.cons (.lit .none) (.cons E5 .nil)))) ρ = .ret (.tuple [.none, .list yl]) := fun ρ hρ => by
      refine ex_ret ?_
      simp only [ev, evs, hρ, R.bnd_val, hm, ofO_some]
    rw [exec]
    refine hr _ ?_
    rw [← e5]
    simp only [frzAt, List.getElem?_cons_succ, List.getElem?_cons_zero, f3, List.set]
variable {tbl : Str → Option Df} (h : Std tbl) {k : Nat}
include h
theorem solve {eqs : List D} (he : eqs = (List.range n).map fun (i : Nat) => rowD (N + 1) (A i)) (hn : n ≤ 15) (hN : N + n ≤ 64) (hA : ∀ i j, i < n → j ≤ N → (A i j).natAbs ≤ 1) (hb : ∀ i, i < n → 0 ≤ A i N) :
    (∃ y : Nat → Int, (∀ j, j < N → (Sx.sm n fun k => A k j * y k) ≤ 0) ∧ 0 < (Sx.sm n fun k => A k N * y k) ∧ (∀ k, k < n → Sm (y k)) ∧ call sub wf tbl (k + 2) "solve" [.list eqs, .int (N : Int)] = .val (.tuple [.none, .list (rowL n y)])) ∨
    (∃ (x : Nat → Int) (d : Int), 0 < d ∧ (∀ j, 0 ≤ x j) ∧ (∀ k, k < n → (Sx.sm N fun j => A k j * x j) = d * A k N) ∧ (∀ j, j < N → Sm (x j)) ∧ call sub wf tbl (k + 2) "solve" [.list eqs, .int (N : Int)] = .val (.tuple [.tuple [.list (rowL N x), .int d], .none])) := by
  obtain ⟨I0, d0, t0, z0, z1⟩ := Sx.start (col := colV n N A) (n := n) (N := N) (fun k hk => colV_unit hk) (fun k hk => by rw [colV_last]; exact hb k hk)
  obtain ⟨c, pc, ec⟩ := pick_c h (k := k) (n := n) (N := N) (A := A) (by omega) (fun i => N + i)
  have Rn : Sx.Run (colV n N A) n N 0 (fun _ i => N + i) (fun _ => 0) (fun _ => 0) := ⟨I0, fun m hm => by omega, fun m hm => by omega⟩
  obtain ⟨o4, o5, o7, es⟩ := sl_start (cal := call sub wf tbl (k + 1)) he hn hN t0 z0 z1 ec pc.sc (rest := .seq (.whl (.cmp .isnt (.var 9) (.lit .none)) slB) (.seq slI slEnd))
  obtain ⟨bs, s3', o12', o13', J, hz, f3, ew⟩ := solve_loop h (k := k) (n := n) (N := N) (A := A) (E := .list eqs) (o14 := none) (o15 := none) hn hN hA wf 0 (fun _ i => N + i) (fun _ => 0) (fun _ => 0) c (.own (tabL (N + n + 1) n (Sx.Tb (colV n N A) n fun i => N + i) (Sx.Tz (colV n N A) n N fun i => N + i))) o4 o5 none o7 none none none Rn (wf_big hn) pc rfl
  rw [d0] at ew
  have sI := sl_last (cal := call sub wf tbl (k + 1)) (eqs := eqs) (bl := rowL n fun i => (bs i : Int)) (o4 := o4) (o5 := o5) (o7 := o7) (o12' := o12') (o13' := o13') (dv := Sx.dd (colV n N A) n bs) hn f3
  have fd := sl_found (cal := call sub wf tbl (k + 1)) (W := N + n) (n := n) (N := N) (T := Sx.Tb (colV n N A) n bs) (z := Sx.Tz (colV n N A) n N bs) (bs := bs) (d := Sx.dd (colV n N A) n bs) (s3 := s3') (E := .list eqs) (o4 := o4) (o5 := o5) (o6 := none) (o7 := o7) (o8 := none) (o9 := some (.dat .none)) (o12 := o12') (o13 := o13') f3 (fun a b ha hb e => Sx.bas_inj J ha hb e) (by omega) (by omega)
  have all : (exec (call sub wf tbl (k + 1)) sub wf (.seq (.whl (.cmp .isnt (.var 9) (.lit .none)) slB) (.seq slI slEnd)) [some (.dat (.list eqs)), some (.dat (.int (N : Int))), some (.dat (.int (n : Int))), some (.own (tabL (N + n + 1) n (Sx.Tb (colV n N A) n fun i => N + i) (Sx.Tz (colV n N A) n N fun i => N + i))), o4, o5, none, o7, none, some (.dat c), some (.own (rowL n fun i => ((N + i : Nat) : Int))), some (.dat (.int 1)), none, none, none, none]).res = if Sx.Tz (colV n N A) n N bs (N + n) = 0 then .val (.tuple [.tuple [.list (rowL N (fndP (Sx.Tb (colV n N A) n bs) (N + n) bs n)), .int (Sx.dd (colV n N A) n bs)], .none]) else .val (.tuple [.none, .list (rowL n fun k => Sx.Tz (colV n N A) n N bs (N + k) + Sx.dd (colV n N A) n bs)]) := by
    generalize call sub wf tbl (k + 1) = cal at *
    generalize slB = bb at *
    generalize slEnd = be at *
    generalize slI = bi at *
    generalize wf = w at *
    have ew' : exec cal sub w (.whl (.cmp .isnt (.var 9) (.lit .none)) bb) [some (.dat (.list eqs)), some (.dat (.int (N : Int))), some (.dat (.int (n : Int))), some (.own (tabL (N + n + 1) n (Sx.Tb (colV n N A) n fun i => N + i) (Sx.Tz (colV n N A) n N fun i => N + i))), o4, o5, none, o7, none, some (.dat c), some (.own (rowL n fun i => ((N + i : Nat) : Int))), some (.dat (.int 1)), none, none, none, none] = .nxt [some (.dat (.list eqs)), some (.dat (.int (N : Int))), some (.dat (.int (n : Int))), some s3', o4, o5, none, o7, none, some (.dat .none), some (.own (rowL n fun i => (bs i : Int))), some (.dat (.int (Sx.dd (colV n N A) n bs))), o12', o13', none, none] := by
      rw [exec]; exact ew
    rw [ex_seq ew']
    by_cases cz : Sx.Tz (colV n N A) n N bs (N + n) = 0
    · rw [if_pos cz] at sI ⊢
      rw [ex_seq sI, fd]; rfl
    · rw [if_neg cz] at sI ⊢
      rw [ex_seq_ret sI]; rfl
  rw [call_eq h.t_solve rfl, sl_is, es, all]
  clear all fd sI ew es
  by_cases cz : Sx.Tz (colV n N A) n N bs (N + n) = 0
  · right
    rw [if_pos cz]
    have ef : fndP (Sx.Tb (colV n N A) n bs) (N + n) bs n = Sx.fnd (colV n N A) n N bs := rfl
    refine ⟨Sx.fnd (colV n N A) n N bs, Sx.dd (colV n N A) n bs, J.pos, fun j => Sx.fnd_nonneg J j, fun k hk => ?_, fun j hj => ?_, by rw [ef]⟩
    · have := Sx.sol J cz hk
      rw [colV_last] at this
      rw [← this]
      exact Sx.sm_congr fun j hj => by rw [colV_lt hj]
    · by_cases c : ∃ i, i < n ∧ bs i = j
      · obtain ⟨i, hi, e⟩ := c
        rw [← e, Sx.fnd_at J hi]
        exact Sm_of (Nat.le_trans (Tb_sm hn hA bs i _) (by omega))
      · rw [Sx.fnd_out (fun i hi e => c ⟨i, hi, e⟩)]; exact Sm_of (by decide)
  · left
    rw [if_neg cz]
    refine ⟨fun k => Sx.Tz (colV n N A) n N bs (N + k) + Sx.dd (colV n N A) n bs, fun j hj => ?_, ?_, fun k hk => ?_, rfl⟩
    · have := Sx.far (col := colV n N A) (n := n) (N := N) (bs := bs) (fun k hk => colV_unit hk) (j := j) (.inl hj)
      have e : (Sx.sm n fun k => A k j * (Sx.Tz (colV n N A) n N bs (N + k) + Sx.dd (colV n N A) n bs)) = Sx.Tz (colV n N A) n N bs j := by
        rw [← this]
        exact Sx.sm_congr fun k hk => by rw [colV_lt hj]
      rw [e]; exact hz j hj
    · have := Sx.far (col := colV n N A) (n := n) (N := N) (bs := bs) (fun k hk => colV_unit hk) (j := N + n) (.inr rfl)
      have e : (Sx.sm n fun k => A k N * (Sx.Tz (colV n N A) n N bs (N + k) + Sx.dd (colV n N A) n bs)) = Sx.Tz (colV n N A) n N bs (N + n) := by
        rw [← this]
        exact Sx.sm_congr fun k hk => by rw [colV_last]
      rw [e]
      have := Tz_nonneg J
      omega
    · simp only []
      have a := Tz_sm (N := N) hn hA bs (N + k)
      have b := dd_sm (N := N) hn hA bs
      unfold Sm
      have e : (2 : Nat) ^ 62 = 4611686018427387904 := by decide
      rw [e]; omega
end
end Pg

set_option linter.all false
set_option maxRecDepth 100000
set_option maxHeartbeats 4000000
namespace Pg
open PySem hiding call exec
open Mp
/-! greatest_divisor, shortened -/
def gdW : S := (.par 1 3 (.var 3) (.bin .mod (.var 1) (.var 3)))
def gdB : S := (.seq (.asg (.nm 3) (.blt .abs (.cons (.var 2) .nil))) (.whl (.var 3) gdW))
theorem gd_is : p_greatest_divisor = (.seq (.asg (.nm 1) (.lit (.int 0))) (.seq (.for (.nm 2) (.seq (.var 0)) gdB) (.ret (.blt .max (.cons (.var 1) (.cons (.lit (.int 1)) .nil)))))) := rfl
section
variable {cal : Str → List D → R D} {sb : Str → Str → Bool} {w : Nat}
theorem gd_loop {x0 x2 : Option Sl} : ∀ (f a b : Nat), b < f → ∃ g : Nat, g ∣ a ∧ g ∣ b ∧ (g ≤ a ∨ g ≤ b) ∧ whlF (fun ρ => truR (ev cal (.var 3) ρ)) (exec cal sb w gdW) f [x0, some (.dat (.int (a : Int))), x2, some (.dat (.int (b : Int)))] = .nxt [x0, some (.dat (.int (g : Int))), x2, some (.dat (.int 0))]
  | 0, a, b, h => by omega
  | f + 1, a, b, h => by
    by_cases c : b = 0
    · subst c
      refine ⟨a, Nat.dvd_refl _, Nat.dvd_zero _, .inl (Nat.le_refl _), ?_⟩
      have t : truR (ev cal (.var 3) [x0, some (.dat (.int (a : Int))), x2, some (.dat (.int ((0 : Nat) : Int)))]) = .val false := by
        simp [truR, ev, truth]
      simp only [whlF, t]
      rfl
    · have hm : a % b < b := Nat.mod_lt _ (by omega)
      obtain ⟨g, g1, g2, g3, e⟩ := gd_loop (x0 := x0) (x2 := x2) f b (a % b) (by omega)
      refine ⟨g, (Nat.dvd_mod_iff g1).1 g2, g1, ?_, ?_⟩
      · right
        rcases g3 with g3 | g3 <;> omega
      · have t : truR (ev cal (.var 3) [x0, some (.dat (.int (a : Int))), x2, some (.dat (.int (b : Int)))]) = .val true := by
          have : ((b : Int) != 0) = true := by simp; omega
          simp [truR, ev, truth, this]
        have bd : exec cal sb w gdW [x0, some (.dat (.int (a : Int))), x2, some (.dat (.int (b : Int)))] = .nxt [x0, some (.dat (.int (b : Int))), x2, some (.dat (.int ((a % b : Nat) : Int)))] := by
          have hb : (0 : Int) < (b : Int) := by omega
          have hb' : 0 < b := by omega
          simp [gdW, exec, ev, R.out, boS, modS, hb, hb']
        simp only [whlF, t, bd]
        exact e
theorem gd_turn {x0 o3 : Option Sl} {g : Nat} {x : Int} (hx : x.natAbs < w) : ∃ g' : Nat, g' ∣ g ∧ g' ∣ x.natAbs ∧ (g' ≤ g ∨ g' ≤ x.natAbs) ∧ exec cal sb w gdB [x0, some (.dat (.int (g : Int))), some (.dat (.int x)), o3] = .nxt [x0, some (.dat (.int (g' : Int))), some (.dat (.int x)), some (.dat (.int 0))] := by
  obtain ⟨g', g1, g2, g3, e⟩ := gd_loop (cal := cal) (sb := sb) (w := w) (x0 := x0) (x2 := some (.dat (.int x))) w g x.natAbs hx
  refine ⟨g', g1, g2, g3, ?_⟩
  unfold gdB
  have ab : (if x < 0 then -x else x) = (x.natAbs : Int) := by split <;> omega
  have s1 : exec cal sb w (.asg (.nm 3) (.blt .abs (.cons (.var 2) .nil))) [x0, some (.dat (.int (g : Int))), some (.dat (.int x)), o3] = .nxt [x0, some (.dat (.int (g : Int))), some (.dat (.int x)), some (.dat (.int (x.natAbs : Int)))] := by
    rw [← ab]
    simp [exec, ev, evs, bfS, R.out, asgT]
  rw [ex_seq s1, exec]
  exact e
end
theorem wf_sm {x : Int} (hx : Sm x) : x.natAbs < wf := by
  unfold Sm at hx
  have : (2 : Nat) ^ 62 ≤ wf := by decide
  omega
section
variable {tbl : Str → Option Df} (h : Std tbl) {k : Nat}
include h
theorem greatest_divisor {ns : List Int} (hs : ∀ x ∈ ns, Sm x) : ∃ g : Int, 0 < g ∧ g.natAbs.log2 < 9000 ∧ (∀ x ∈ ns, g ∣ x) ∧ call sub wf tbl (k + 1) "greatest_divisor" [.list (intz ns)] = .val (.int g) := by
  rw [call_eq h.t_greatest_divisor rfl, gd_is]
  generalize call sub wf tbl k = cal
  have s1 : exec cal sub wf (.asg (.nm 1) (.lit (.int 0))) (startX 4 [.list (intz ns)]) = .nxt [some (.dat (.list (intz ns))), some (.dat (.int ((0 : Nat) : Int))), none, none] := by
    generalize intz ns = U
    simp [eqS_ii, eqS_ss, exec, ev, evs, evo, evt, evi, startX, coS, coB, ltS, leS, gtS, geS, isS, isNone, bfS, tyS, ixS, boS, addS, subS, mulS, modS, fdivS, powS, negS, truth, truR, O.res, asgT, asgTs, mkT, mkL, optI, slS, frzAt, frzS, R.out, seqS, List.replicate]
  rw [ex_seq s1]
  have i1 : evi cal (.seq (.var 0)) [some (.dat (.list (intz ns))), some (.dat (.int ((0 : Nat) : Int))), none, none] = .val (intz ns) := by
    generalize intz ns = U
    simp [eqS_ii, eqS_ss, exec, ev, evs, evo, evt, evi, startX, coS, coB, ltS, leS, gtS, geS, isS, isNone, bfS, tyS, ixS, boS, addS, subS, mulS, modS, fdivS, powS, negS, truth, truR, O.res, asgT, asgTs, mkT, mkL, optI, slS, frzAt, frzS, R.out, seqS]
  have f := ex_for (s := sub) (w := wf) (b := gdB) (t := .nm 2) i1
  have g := forF_inv (step := forStep cal sub wf (.nm 2) gdB) (xs := intz ns) (fun i ρ => ∃ (g : Nat) (o2 o3 : Option Sl), g < 2 ^ 62 ∧ (∀ x ∈ ns.take i, (g : Int) ∣ x) ∧ ρ = [some (.dat (.list (intz ns))), some (.dat (.int (g : Int))), o2, o3]) (ρ := [some (.dat (.list (intz ns))), some (.dat (.int ((0 : Nat) : Int))), none, none]) ⟨0, none, none, by decide, by simp, rfl⟩ (by
    intro i x ρ hx I
    obtain ⟨g, o2, o3, hg, hd, rfl⟩ := I
    have hx' : ∃ v, ns[i]? = some v ∧ x = .int v := by
      simp only [intz, List.getElem?_map] at hx
      cases hv : ns[i]? with
      | none => rw [hv] at hx; simp at hx
      | some v => rw [hv] at hx; simp at hx; exact ⟨v, rfl, hx.symm⟩
    obtain ⟨v, hv, rfl⟩ := hx'
    have fs : forStep cal sub wf (.nm 2) gdB (.int v) [some (.dat (.list (intz ns))), some (.dat (.int (g : Int))), o2, o3] = exec cal sub wf gdB [some (.dat (.list (intz ns))), some (.dat (.int (g : Int))), some (.dat (.int v)), o3] := fs_nm (by simp)
    have hvs := hs v (List.mem_of_getElem? hv)
    obtain ⟨g', a1, a2, a3, e⟩ := gd_turn (cal := cal) (sb := sub) (w := wf) (x0 := some (.dat (.list (intz ns)))) (o3 := o3) (g := g) (x := v) (wf_sm hvs)
    rw [fs]
    refine ⟨_, e, g', _, _, ?_, fun y hy => ?_, rfl⟩
    · unfold Sm at hvs
      rcases a3 with a3 | a3 <;> omega
    · rw [← take_snoc hv] at hy
      rcases List.mem_append.1 hy with hy | hy
      · exact Int.dvd_trans (Int.natCast_dvd_natCast.2 a1) (hd y hy)
      · have : y = v := by simpa using hy
        subst this
        exact Int.ofNat_dvd_left.2 a2)
  obtain ⟨ρ', e, g, o2, o3, hg, hd, rfl⟩ := g
  rw [ex_seq (f.trans e)]
  have ln : ns.take (intz ns).length = ns := by simp [intz]
  rw [ln] at hd
  refine ⟨if (1 : Int) > (g : Int) then 1 else (g : Int), ?_, ?_, ?_, ?_⟩
  · split <;> omega
  · have : (if (1 : Int) > (g : Int) then 1 else (g : Int)).natAbs < 2 ^ 62 := by
      have : (1 : Nat) < 2 ^ 62 := by decide
      split <;> omega
    by_cases z : (if (1 : Int) > (g : Int) then 1 else (g : Int)).natAbs = 0
    · rw [z]; decide
    · have := (Nat.log2_lt z).2 this
      omega
  · intro x hx
    have := hd x hx
    by_cases c : (1 : Int) > (g : Int)
    · rw [if_pos c]; exact Int.one_dvd _
    · rw [if_neg c]; exact this
  · generalize intz ns = U
    generalize (g : Int) = gi
    simp [eqS_ii, eqS_ss, exec, ev, evs, evo, evt, evi, startX, coS, coB, ltS, leS, gtS, geS, isS, isNone, bfS, tyS, ixS, boS, addS, subS, mulS, modS, fdivS, powS, negS, truth, truR, O.res, asgT, asgTs, mkT, mkL, optI, slS, frzAt, frzS, R.out, seqS]
theorem shortened {ns : List Int} (hs : ∀ x ∈ ns, Sm x) (hl : ns.length ≤ 1000) : ∃ g : Int, 0 < g ∧ (∀ x ∈ ns, g ∣ x) ∧ call sub wf tbl (k + 2) "shortened" [.list (intz ns)] = .val (.list (intz (ns.map (· / g)))) := by
  obtain ⟨g, g1, g2, g3, e⟩ := greatest_divisor h (k := k) hs
  refine ⟨g, g1, g3, ?_⟩
  rw [call_eq h.t_shortened rfl]
  generalize call sub wf tbl (k + 1) = cal at *
  have lc : ev cal (.lc (.nm 2) (.seq (.var 0)) .non (.bin .fdiv (.var 2) (.var 1)) [2]) [some (.dat (.list (intz ns))), some (.dat (.int g)), none] = .val (.list (intz (ns.map (· / g)))) := by
    refine ev_lcS (xs := intz ns) (by generalize intz ns = U; simp [eqS_ii, eqS_ss, exec, ev, evs, evo, evt, evi, startX, coS, coB, ltS, leS, gtS, geS, isS, isNone, bfS, tyS, ixS, boS, addS, subS, mulS, modS, fdivS, powS, negS, truth, truR, O.res, asgT, asgTs, mkT, mkL, optI, slS, frzAt, frzS, R.out, seqS]) ?_ (le_lim (by simp [intz]; exact hl))
    have : ∀ l : List Int, lcF (lcS cal (.nm 2) .non (.bin .fdiv (.var 2) (.var 1)) (wipeX [some (.dat (.list (intz ns))), some (.dat (.int g)), none] [2])) (intz l) = .val (intz (l.map (· / g))) := by
      generalize intz ns = U
      intro l
      induction l with
      | nil => rfl
      | cons x l ih =>
        have st : lcS cal (.nm 2) .non (.bin .fdiv (.var 2) (.var 1)) (wipeX [some (.dat (.list U)), some (.dat (.int g)), none] [2]) (.int x) = .val [.int (x / g)] := by
          simp [lcS, eqS_ii, eqS_ss, exec, ev, evs, evo, evt, evi, startX, coS, coB, ltS, leS, gtS, geS, isS, isNone, bfS, tyS, ixS, boS, addS, subS, mulS, modS, fdivS, powS, negS, truth, truR, O.res, asgT, asgTs, mkT, mkL, optI, slS, frzAt, frzS, R.out, seqS, wipeX, g1, g2]
        simp only [intz, List.map_cons, lcF, st] at ih ⊢
        rw [ih]; rfl
    exact this ns
  unfold p_shortened
  have s1 : exec cal sub wf (.asg (.nm 1) (.call "greatest_divisor" (.cons (.var 0) .nil))) (startX 3 [.list (intz ns)]) = .nxt [some (.dat (.list (intz ns))), some (.dat (.int g)), none] := by
    generalize intz ns = U at *
    simp [eqS_ii, eqS_ss, exec, ev, evs, evo, evt, evi, startX, coS, coB, ltS, leS, gtS, geS, isS, isNone, bfS, tyS, ixS, boS, addS, subS, mulS, modS, fdivS, powS, negS, truth, truR, O.res, asgT, asgTs, mkT, mkL, optI, slS, frzAt, frzS, R.out, seqS, List.replicate, e]
  rw [ex_seq s1, ex_ret lc]
  rfl
end
end Pg

set_option linter.all false
set_option maxRecDepth 100000
set_option maxHeartbeats 4000000
namespace Pg
open PySem hiding call exec
open Mp
/-! difference, equation_of -/
def b2 (b : Bool) : Int := if b then 1 else 0
/-- the coefficients of a difference -/
def dfc (r : Nat) (p q : Nat × Nat) (j : Nat) : Int := if j < r then b2 (j == p.1) - b2 (j == q.1) else b2 (j - r == p.2) - b2 (j - r == q.2)
theorem beq_cast (i j : Nat) : ((i : Int) == (j : Int)) = (i == j) := by
  by_cases c : i = j
  · simp [c]
  · have : ¬ (i : Int) = (j : Int) := by omega
    rw [beq_eq_false_iff_ne.2 c, beq_eq_false_iff_ne.2 this]
def dfE (v : Nat) (l : Int) : Ex := (.lc (.nm v) (.rng (.ix (.var 0) (.lit (.int l)))) .non (.bin .sub (.blt .int (.cons (.cmp .eq (.var v) (.ix (.var 1) (.lit (.int l)))) .nil)) (.blt .int (.cons (.cmp .eq (.var v) (.ix (.var 2) (.lit (.int l)))) .nil))) [v])
theorem df_is : p_difference = (.seq (.asg (.nm 3) (dfE 4 0)) (.ret (.bin .add (.var 3) (dfE 5 1)))) := rfl
section
variable {cal : Str → List D → R D}
theorem dfEv {ρ : Rho} {v : Nat} {l : Int} {r : Nat} {s p q : D} {a b : Nat} (hv : 2 < v) (hl : v < ρ.length) (h0 : ρ[0]? = some (some (.dat s))) (h1 : ρ[1]? = some (some (.dat p))) (h2 : ρ[2]? = some (some (.dat q))) (es : ixS s (.int l) = some (.int (r : Int))) (ep : ixS p (.int l) = some (.int (a : Int))) (eq : ixS q (.int l) = some (.int (b : Int))) (hr : r ≤ 100) :
    ev cal (dfE v l) ρ = .val (.list (rowL r fun j => b2 (j == a) - b2 (j == b))) := by
  rw [rowL_intz]
  refine ev_lcS (evi_rng (by simp only [ev, h0, R.bnd_val, es, ofO_some]) (by omega)) (lc_rng fun j hj => ?_) (le_lim (by simp; omega))
  have g1 : ((ρ.set v none).set v (some (.dat (.int (j : Int)))))[1]? = some (some (.dat p)) := by
    rw [List.getElem?_set_ne (by omega), List.getElem?_set_ne (by omega)]; exact h1
  have g2 : ((ρ.set v none).set v (some (.dat (.int (j : Int)))))[2]? = some (some (.dat q)) := by
    rw [List.getElem?_set_ne (by omega), List.getElem?_set_ne (by omega)]; exact h2
  have gv : ((ρ.set v none).set v (some (.dat (.int (j : Int)))))[v]? = some (some (.dat (.int (j : Int)))) := by
    rw [List.getElem?_set_self (by simpa using hl)]
  simp only [lcS, wipeX, asgT, List.length_set, hl, if_true, evt, R.bnd_val, ev, evs, g1, g2, gv, ep, eq, ofO_some, coS, coB, eqS_ii, beq_cast, Option.map_some, bfS, boS, subS]
  rfl
end
section
variable {tbl : Str → Option Df} (h : Std tbl) {k : Nat}
include h
theorem difference {r c : Nat} (hr : r ≤ 4) (hc : c ≤ 4) (p q : Nat × Nat) : call sub wf tbl (k + 1) "difference" [sz r c, celD p, celD q] = .val (.list (rowL (r + c) (dfc r p q))) := by
  rw [call_eq h.t_difference rfl, df_is]
  generalize call sub wf tbl k = cal
  have a := dfEv (cal := cal) (ρ := startX 6 [sz r c, celD p, celD q]) (v := 4) (l := 0) (r := r) (s := sz r c) (p := celD p) (q := celD q) (a := p.1) (b := q.1) (by decide) (by simp [startX]) rfl rfl rfl rfl rfl rfl (by omega)
  rw [ex_seq (ex_asg a (by simp [startX]))]
  have b := dfEv (cal := cal) (ρ := (startX 6 [sz r c, celD p, celD q]).set 3 (some (.dat (.list (rowL r fun j => b2 (j == p.1) - b2 (j == q.1)))))) (v := 5) (l := 1) (r := c) (s := sz r c) (p := celD p) (q := celD q) (a := p.2) (b := q.2) (by decide) (by simp [startX]) rfl rfl rfl rfl rfl rfl (by omega)
  have v3 : ev cal (.var 3) ((startX 6 [sz r c, celD p, celD q]).set 3 (some (.dat (.list (rowL r fun j => b2 (j == p.1) - b2 (j == q.1)))))) = .val (.list (rowL r fun j => b2 (j == p.1) - b2 (j == q.1))) := ev_var rfl
  rw [ex_ret (ev_cat v3 b (by simp [rowL_len]; omega)), rowL_app]
  rfl
end
/-! equation_of -/
def kEq : Kd → Bool
  | .eq => true
  | _ => false
def kAb : Kd → Bool
  | .ab => true
  | _ => false
/-- the matrix -/
def Aq (r c : Nat) (xs : List C3) (dx : C3) (i j : Nat) : Int := if j < r + c then dfc r (xs.getD i dx).a (xs.getD i dx).b j else if j < r + c + xs.length then - b2 (i == j - (r + c) && !kEq (xs.getD i dx).k) else b2 (kAb (xs.getD i dx).k)
def eoE : Ex := (.lc (.nm 7) (.rng (.blt .len (.cons (.var 1) .nil))) .non (.neg (.blt .int (.cons (.and (.cmp .eq (.var 2) (.var 7)) (.cmp .ne (.var 4) (.lit (.str "equal")))) .nil))) [7])
def eoR : Ex := (.bin .add (.bin .add (.call "difference" (.cons (.var 0) (.cons (.var 3) (.cons (.var 5) .nil)))) (.var 6)) (.lst (.cons (.blt .int (.cons (.cmp .eq (.var 4) (.lit (.str "above"))) .nil)) .nil)))
theorem eo_is : p_equation_of = (.seq (.asg (.tp (.cons (.nm 3) (.cons (.nm 4) (.cons (.nm 5) .nil)))) (.ix (.var 1) (.var 2))) (.seq (.asg (.nm 6) eoE) (.ret eoR))) := rfl
theorem kd_eq' (k : Kd) : (k.s == ("equal" : Str)) = kEq k := by cases k <;> kernel_rfl
theorem kd_ab' (k : Kd) : (k.s == ("above" : Str)) = kAb k := by cases k <;> kernel_rfl
theorem cmps_at {xs : List C3} {i : Nat} (hi : i < xs.length) (dx : C3) : atX (xs.map cmpD) (i : Int) = some (cmpD (xs.getD i dx)) := by
  unfold atX
  rw [if_pos (by omega), Int.toNat_natCast, List.getElem?_map, List.getElem?_eq_getElem hi, List.getD_eq_getElem?_getD, List.getElem?_eq_getElem hi]
  rfl
section
variable {cal : Str → List D → R D}
theorem eoEv {x0 x3 x5 : Option Sl} {ds : List D} {i : Nat} {kd : Kd} (hn : ds.length ≤ 100) : ev cal eoE [x0, some (.dat (.tuple ds)), some (.dat (.int (i : Int))), x3, some (.dat (.str kd.s)), x5, none, none] = .val (.list (rowL ds.length fun j => - b2 (i == j && !kEq kd))) := by
  rw [rowL_intz]
  refine ev_lcS (evi_rng (n := ds.length) (by simp [ev, evs, bfS]) (by omega)) (lc_rng fun j hj => ?_) (le_lim (by simp; omega))
  by_cases c : i = j
  · subst c
    have b1 : ((i : Int) == (i : Int)) = true := by simp
    simp only [lcS, wipeX, asgT, List.length_set, List.length_cons, List.length_nil, if_true, evt, R.bnd_val, ev, evs, List.set, List.getElem?_cons_succ, List.getElem?_cons_zero, coS, coB, eqS_ii, b1, eqS_ss, kd_eq', Option.map_some, ofO_some, bfS, negS, show (7 : Nat) < 0 + 1 + 1 + 1 + 1 + 1 + 1 + 1 + 1 by decide, BEq.rfl, Bool.true_and]
    rfl
  · have b1 : ((i : Int) == (j : Int)) = false := by rw [beq_cast]; simpa using c
    have b3 : (i == j) = false := by simpa using c
    simp only [lcS, wipeX, asgT, List.length_set, List.length_cons, List.length_nil, if_true, evt, R.bnd_val, ev, evs, List.set, List.getElem?_cons_succ, List.getElem?_cons_zero, coS, coB, eqS_ii, b1, b3, eqS_ss, kd_eq', Option.map_some, ofO_some, bfS, negS, show (7 : Nat) < 0 + 1 + 1 + 1 + 1 + 1 + 1 + 1 + 1 by decide, Bool.false_and]
    rfl
end
section
variable {tbl : Str → Option Df} (h : Std tbl) {k : Nat}
include h
theorem equation_of {r c : Nat} (hr : r ≤ 4) (hc : c ≤ 4) {xs : List C3} {dx : C3} (hl : xs.length ≤ 15) {i : Nat} (hi : i < xs.length) : call sub wf tbl (k + 2) "equation_of" [sz r c, .tuple (xs.map cmpD), .int (i : Int)] = .val (rowD (r + c + xs.length + 1) (Aq r c xs dx i)) := by
  have df := difference h (k := k) hr hc (xs.getD i dx).a (xs.getD i dx).b
  have hat := cmps_at hi dx
  rw [call_eq h.t_equation_of rfl, eo_is]
  have hlen : (xs.map cmpD).length = xs.length := by simp
  have eA : rowD (r + c + xs.length + 1) (Aq r c xs dx i) = .list (rowL (r + c) (dfc r (xs.getD i dx).a (xs.getD i dx).b) ++ (rowL xs.length fun j => - b2 (i == j && !kEq (xs.getD i dx).k)) ++ rowL 1 fun _ => b2 (kAb (xs.getD i dx).k)) := by
    unfold rowD
    rw [rowL_app, rowL_app]
    congr 1
    refine rowL_congr fun j hj => ?_
    unfold Aq
    by_cases a : j < r + c
    · rw [if_pos a, if_pos (by omega), if_pos a]
    · rw [if_neg a]
      by_cases b : j < r + c + xs.length
      · rw [if_pos b, if_pos b, if_neg a]
      · rw [if_neg b, if_neg b]
  rw [eA]
  generalize xs.getD i dx = x at *
  generalize call sub wf tbl (k + 1) = cal at *
  generalize xs.map cmpD = ds at *
  have s1 : exec cal sub wf (.asg (.tp (.cons (.nm 3) (.cons (.nm 4) (.cons (.nm 5) .nil)))) (.ix (.var 1) (.var 2))) (startX 8 [sz r c, .tuple ds, .int (i : Int)]) = .nxt [some (.dat (sz r c)), some (.dat (.tuple ds)), some (.dat (.int (i : Int))), some (.dat (celD x.a)), some (.dat (.str x.k.s)), some (.dat (celD x.b)), none, none] := by
    unfold cmpD at hat
    generalize sz r c = s at *
    generalize celD x.a = ca at *
    generalize celD x.b = cb at *
    generalize x.k.s = ks at *
    simp [eqS_ii, eqS_ss, exec, ev, evs, evo, evt, evi, startX, coS, coB, ltS, leS, gtS, geS, isS, isNone, bfS, tyS, ixS, boS, addS, subS, mulS, modS, fdivS, powS, negS, truth, truR, O.res, asgT, asgTs, mkT, mkL, optI, slS, frzAt, frzS, R.out, seqS, List.replicate, hat]
  rw [ex_seq s1]
  have e6 := eoEv (cal := cal) (x0 := some (.dat (sz r c))) (x3 := some (.dat (celD x.a))) (x5 := some (.dat (celD x.b))) (ds := ds) (i := i) (kd := x.k) (by omega)
  rw [ex_seq (ex_asg e6 (by simp))]
  rw [hlen]
  have l1 : (1 : Nat) ≤ lim := by decide
  have a1 : ev cal (.call "difference" (.cons (.var 0) (.cons (.var 3) (.cons (.var 5) .nil)))) ([some (.dat (sz r c)), some (.dat (.tuple ds)), some (.dat (.int (i : Int))), some (.dat (celD x.a)), some (.dat (.str x.k.s)), some (.dat (celD x.b)), none, none].set 6 (some (.dat (.list (rowL xs.length fun j => - b2 (i == j && !kEq x.k)))))) = .val (.list (rowL (r + c) (dfc r x.a x.b))) := by
    simp only [ev, evs, List.set, List.getElem?_cons_succ, List.getElem?_cons_zero, R.bnd_val, df]
  have a2 : ev cal (.var 6) ([some (.dat (sz r c)), some (.dat (.tuple ds)), some (.dat (.int (i : Int))), some (.dat (celD x.a)), some (.dat (.str x.k.s)), some (.dat (celD x.b)), none, none].set 6 (some (.dat (.list (rowL xs.length fun j => - b2 (i == j && !kEq x.k)))))) = .val (.list (rowL xs.length fun j => - b2 (i == j && !kEq x.k))) := ev_var rfl
  have a3 : ev cal (.lst (.cons (.blt .int (.cons (.cmp .eq (.var 4) (.lit (.str "above"))) .nil)) .nil)) ([some (.dat (sz r c)), some (.dat (.tuple ds)), some (.dat (.int (i : Int))), some (.dat (celD x.a)), some (.dat (.str x.k.s)), some (.dat (celD x.b)), none, none].set 6 (some (.dat (.list (rowL xs.length fun j => - b2 (i == j && !kEq x.k)))))) = .val (.list (rowL 1 fun _ => b2 (kAb x.k))) := by
    simp only [ev, evs, List.set, List.getElem?_cons_succ, List.getElem?_cons_zero, R.bnd_val, coS, coB, eqS_ss, kd_ab', Option.map_some, ofO_some, bfS]
    rw [mkL_of (by simpa using l1)]
    rfl
  unfold eoR
  rw [ex_ret (ev_cat (ev_cat a1 a2 (by simp [rowL_len]; omega)) a3 (by simp [rowL_len]; omega))]
  rfl
end
end Pg

set_option linter.all false
set_option maxRecDepth 100000
set_option maxHeartbeats 4000000
namespace Pg
open PySem hiding call exec
open Mp
/-! The plain side: values and cancelling lists. -/
def d3 : C3 := ⟨(0, 0), .eq, (0, 0)⟩
def nth (xs : List C3) (i : Nat) : C3 := xs.getD i d3
theorem nth_mem {xs : List C3} {i : Nat} (hi : i < xs.length) : nth xs i ∈ xs := by
  unfold nth; rw [List.getD_eq_getElem?_getD, List.getElem?_eq_getElem hi]; exact List.getElem_mem hi
/-- the value of a line -/
def lnv (r : Nat) (us vs : List Int) (j : Nat) : Int := if j < r then us.getD j 0 else vs.getD (j - r) 0
def gap (us vs : List Int) (x : C3) : Int := cvl us vs x.a - cvl us vs x.b
theorem sm_split (a b : Nat) (f : Nat → Int) : Sx.sm (a + b) f = Sx.sm a f + Sx.sm b fun j => f (a + j) := by
  induction b with
  | zero => simp [Sx.sm]
  | succ b ih => rw [← Nat.add_assoc]; simp only [Sx.sm]; rw [ih]; omega
theorem sm_pick {n a : Nat} (ha : a < n) (u : Nat → Int) : (Sx.sm n fun j => b2 (j == a) * u j) = u a := by
  rw [Sx.sm_one (a := a) ha]
  · simp [b2]
  · intro i hi hne
    have : (i == a) = false := by simpa using hne
    simp [b2, this]
theorem sm_sub (n : Nat) (f g : Nat → Int) : (Sx.sm n fun i => f i - g i) = Sx.sm n f - Sx.sm n g := by
  induction n with
  | zero => rfl
  | succ n ih => simp only [Sx.sm]; rw [ih]; omega
theorem part_sum {n a b : Nat} (ha : a < n) (hb : b < n) (u : Nat → Int) : (Sx.sm n fun j => (b2 (j == a) - b2 (j == b)) * u j) = u a - u b := by
  have : (fun j => (b2 (j == a) - b2 (j == b)) * u j) = fun j => b2 (j == a) * u j - b2 (j == b) * u j := by
    funext j; rw [Int.sub_mul]
  rw [this, sm_sub, sm_pick ha, sm_pick hb]
theorem dfc_lo {r : Nat} {p q : Nat × Nat} {j : Nat} (h : j < r) : dfc r p q j = b2 (j == p.1) - b2 (j == q.1) := by unfold dfc; rw [if_pos h]
theorem dfc_hi {r : Nat} {p q : Nat × Nat} (j : Nat) : dfc r p q (r + j) = b2 (j == p.2) - b2 (j == q.2) := by
  unfold dfc; rw [if_neg (by omega), show r + j - r = j by omega]
theorem dfc_sum {r c : Nat} {x : C3} (hx : okC r c x) (u : Nat → Int) : (Sx.sm (r + c) fun j => dfc r x.a x.b j * u j) = (u x.a.1 - u x.b.1) + (u (r + x.a.2) - u (r + x.b.2)) := by
  obtain ⟨h1, h2, h3, h4, _⟩ := hx
  rw [sm_split]
  have e1 : (Sx.sm r fun j => dfc r x.a x.b j * u j) = u x.a.1 - u x.b.1 := by
    rw [← part_sum h1 h3 u]
    exact Sx.sm_congr fun j hj => by rw [dfc_lo hj]
  have e2 : (Sx.sm c fun j => dfc r x.a x.b (r + j) * u (r + j)) = u (r + x.a.2) - u (r + x.b.2) := by
    rw [← part_sum h2 h4 (fun j => u (r + j))]
    exact Sx.sm_congr fun j hj => by rw [dfc_hi]
  rw [e1, e2]
theorem gap_sum {r c : Nat} {us vs : List Int} (hu : us.length = r) {x : C3} (hx : okC r c x) : (Sx.sm (r + c) fun j => dfc r x.a x.b j * lnv r us vs j) = gap us vs x := by
  rw [dfc_sum hx]
  obtain ⟨h1, h2, h3, h4, _⟩ := hx
  unfold gap cvl lnv
  rw [if_pos h1, if_pos h3, if_neg (by omega), if_neg (by omega), show r + x.a.2 - r = x.a.2 by omega, show r + x.b.2 - r = x.b.2 by omega]
  omega
theorem hold_gap (us vs : List Int) (x : C3) : hold us vs x = true ↔ (kEq x.k = true → gap us vs x = 0) ∧ (kAb x.k = true → 0 < gap us vs x) ∧ 0 ≤ gap us vs x := by
  unfold hold
  have : cvl us vs x.a - cvl us vs x.b = gap us vs x := rfl
  rw [this]
  generalize gap us vs x = g
  cases x.k <;> simp [kEq, kAb] <;> omega
/-- multipliers -/
def Muls (xs : List C3) (ms : List Int) : Prop := ms.length = xs.length ∧ ∀ i, i < xs.length → kEq (nth xs i).k = false → 0 ≤ ms.getD i 0
def tot (r : Nat) (xs : List C3) (ms : List Int) (j : Nat) : Int := Sx.sm xs.length fun i => ms.getD i 0 * dfc r (nth xs i).a (nth xs i).b j
def Strict (xs : List C3) (ms : List Int) : Prop := ∃ i, i < xs.length ∧ kAb (nth xs i).k = true ∧ 0 < ms.getD i 0
structure Canc (r c : Nat) (xs : List C3) (ms : List Int) : Prop where
  mul : Muls xs ms
  tot : ∀ j, j < r + c → tot r xs ms j = 0
  strict : Strict xs ms
/-- values for which all comparisons hold -/
def Vals (r c : Nat) (xs : List C3) (us vs : List Int) : Prop := us.length = r ∧ vs.length = c ∧ ∀ x ∈ xs, hold us vs x = true
def Cons (r c : Nat) (xs : List C3) : Prop := ∃ us vs, Vals r c xs us vs
/-- the sum of the gaps -/
theorem gaps {r c : Nat} {xs : List C3} (hx : ∀ x ∈ xs, okC r c x) {us vs : List Int} (hu : us.length = r) (ms : List Int) : (Sx.sm xs.length fun i => ms.getD i 0 * gap us vs (nth xs i)) = Sx.sm (r + c) fun j => lnv r us vs j * tot r xs ms j := by
  have e : (Sx.sm xs.length fun i => ms.getD i 0 * gap us vs (nth xs i)) = Sx.sm xs.length fun i => Sx.sm (r + c) fun j => lnv r us vs j * (ms.getD i 0 * dfc r (nth xs i).a (nth xs i).b j) := by
    refine Sx.sm_congr fun i hi => ?_
    rw [← gap_sum (c := c) (vs := vs) hu (hx _ (nth_mem hi)), ← Sx.sm_mul]
    exact Sx.sm_congr fun j hj => by grind
  rw [e, Sx.sm_comm]
  refine Sx.sm_congr fun j hj => ?_
  unfold tot
  rw [← Sx.sm_mul]
theorem never_both {r c : Nat} {xs : List C3} (hx : ∀ x ∈ xs, okC r c x) {ms : List Int} (hc : Canc r c xs ms) : ¬ Cons r c xs := by
  rintro ⟨us, vs, hu, hv, hall⟩
  have z : (Sx.sm xs.length fun i => ms.getD i 0 * gap us vs (nth xs i)) = 0 := by
    rw [gaps hx hu ms]
    exact Sx.sm_zero fun j hj => by rw [hc.tot j hj, Int.mul_zero]
  have nn : ∀ i, i < xs.length → 0 ≤ ms.getD i 0 * gap us vs (nth xs i) := fun i hi => by
    have hh := (hold_gap us vs (nth xs i)).1 (hall _ (nth_mem hi))
    cases e : kEq (nth xs i).k with
    | true => rw [hh.1 e, Int.mul_zero]; exact Int.le_refl _
    | false => exact Int.mul_nonneg (hc.mul.2 i hi e) hh.2.2
  obtain ⟨i, hi, ha, hp⟩ := hc.strict
  have zi := Sx.sm_eq_zero nn z i hi
  have hh := (hold_gap us vs (nth xs i)).1 (hall _ (nth_mem hi))
  have := Int.mul_pos hp (hh.2.1 ha)
  omega
/-! from the solution of the equations -/
section
variable {r c : Nat} {xs : List C3}
theorem Aq_lo {i j : Nat} (hj : j < r + c) : Aq r c xs d3 i j = dfc r (nth xs i).a (nth xs i).b j := by unfold Aq nth; rw [if_pos hj]
theorem Aq_sl {i j : Nat} (hj : j < xs.length) : Aq r c xs d3 i (r + c + j) = - b2 (i == j && !kEq (nth xs i).k) := by
  unfold Aq nth; rw [if_neg (by omega), if_pos (by omega), show r + c + j - (r + c) = j by omega]
theorem Aq_rt {i : Nat} : Aq r c xs d3 i (r + c + xs.length) = b2 (kAb (nth xs i).k) := by
  unfold Aq nth; rw [if_neg (by omega), if_neg (by omega)]
theorem b2_abs (b : Bool) : b2 b = 0 ∨ b2 b = 1 := by cases b <;> simp [b2]
theorem Aq_abs (i j : Nat) : (Aq r c xs d3 i j).natAbs ≤ 1 := by
  unfold Aq dfc
  split
  · split
    · rcases b2_abs (j == (xs.getD i d3).a.1) with e | e <;> rcases b2_abs (j == (xs.getD i d3).b.1) with f | f <;> rw [e, f] <;> decide
    · rcases b2_abs (j - r == (xs.getD i d3).a.2) with e | e <;> rcases b2_abs (j - r == (xs.getD i d3).b.2) with f | f <;> rw [e, f] <;> decide
  · split
    · rcases b2_abs (i == j - (r + c) && !kEq (xs.getD i d3).k) with e | e <;> rw [e] <;> decide
    · rcases b2_abs (kAb (xs.getD i d3).k) with e | e <;> rw [e] <;> decide
theorem getD_map_range {n : Nat} {f : Nat → Int} {j : Nat} (hj : j < n) : ((List.range n).map f).getD j 0 = f j := by
  rw [List.getD_eq_getElem?_getD, List.getElem?_map, List.getElem?_range hj]; rfl
theorem vals_of (hx : ∀ x ∈ xs, okC r c x) {x : Nat → Int} {d g : Int} (hd : 0 < d) (hg : 0 < g) (h0 : ∀ j, 0 ≤ x j) (hs : ∀ k, k < xs.length → (Sx.sm (r + c + xs.length) fun j => Aq r c xs d3 k j * x j) = d * Aq r c xs d3 k (r + c + xs.length)) (hdv : ∀ j, j < r + c → g ∣ x j) {us vs : List Int} (hu : us = (List.range r).map fun j => x j / g) (hv : vs = (List.range c).map fun j => x (r + j) / g) : Vals r c xs us vs := by
  have hul : us.length = r := by rw [hu]; simp
  refine ⟨hul, by rw [hv]; simp, fun y hy => ?_⟩
  obtain ⟨k, hk, e⟩ := List.getElem_of_mem hy
  have hy' : nth xs k = y := by unfold nth; rw [List.getD_eq_getElem?_getD, List.getElem?_eq_getElem hk]; exact e
  have hok := hx y hy
  have hln : ∀ j, j < r + c → g * lnv r us vs j = x j := fun j hj => by
    unfold lnv
    by_cases a : j < r
    · rw [if_pos a, hu, getD_map_range a]; exact Int.mul_ediv_cancel' (hdv j hj)
    · rw [if_neg a, hv, getD_map_range (by omega), show r + (j - r) = j by omega]; exact Int.mul_ediv_cancel' (hdv j hj)
  have eg : g * gap us vs y = Sx.sm (r + c) fun j => dfc r y.a y.b j * x j := by
    rw [← gap_sum (c := c) (vs := vs) hul hok, ← Sx.sm_mul]
    refine Sx.sm_congr fun j hj => ?_
    rw [← hln j hj]; grind
  have s := hs k hk
  rw [sm_split, Aq_rt, hy'] at s
  have e1 : (Sx.sm (r + c) fun j => Aq r c xs d3 k j * x j) = g * gap us vs y := by
    rw [eg]
    exact Sx.sm_congr fun j hj => by rw [Aq_lo hj, hy']
  have e2 : (Sx.sm xs.length fun j => Aq r c xs d3 k (r + c + j) * x (r + c + j)) = - (b2 (!kEq y.k) * x (r + c + k)) := by
    rw [Sx.sm_one (a := k) hk]
    · rw [Aq_sl hk, hy', BEq.rfl, Bool.true_and, Int.neg_mul]
    · intro i hi hne
      have : (k == i) = false := by rw [beq_eq_false_iff_ne]; exact fun q => hne q.symm
      rw [Aq_sl hi, this, Bool.false_and]; simp [b2]
  rw [e1, e2] at s
  have p := h0 (r + c + k)
  generalize x (r + c + k) = w at *
  rw [hold_gap]
  generalize gap us vs y = G at *
  cases hk : y.k with
  | eq =>
    rw [hk] at s
    simp [kEq, kAb, b2] at s ⊢
    rcases Int.mul_eq_zero.1 s with s | s <;> omega
  | ab =>
    rw [hk] at s
    simp [kEq, kAb, b2] at s ⊢
    have : 0 < g * G := by omega
    have := Int.pos_of_mul_pos_right this hg
    omega
  | le =>
    rw [hk] at s
    simp [kEq, kAb, b2] at s ⊢
    exact Int.nonneg_of_mul_nonneg_right (by omega) hg
theorem sm_all_zero {n : Nat} {f : Nat → Int} (h : ∀ i, i < n → f i ≤ 0) (hz : Sx.sm n f = 0) : ∀ i, i < n → f i = 0 := by
  have a : Sx.sm n (fun i => (-1) * f i) = 0 := by rw [Sx.sm_mul, hz]; rfl
  intro i hi
  have := Sx.sm_eq_zero (fun i hi => by have := h i hi; show 0 ≤ (-1) * f i; omega) a i hi
  omega
theorem canc_of (hx : ∀ x ∈ xs, okC r c x) {y : Nat → Int} {g : Int} (hg : 0 < g) (h1 : ∀ j, j < r + c + xs.length → (Sx.sm xs.length fun k => Aq r c xs d3 k j * y k) ≤ 0) (h2 : 0 < (Sx.sm xs.length fun k => Aq r c xs d3 k (r + c + xs.length) * y k)) (hdv : ∀ k, k < xs.length → g ∣ y k) {ms : List Int} (hm : ms = (List.range xs.length).map fun k => y k / g) : Canc r c xs ms := by
  have hgm : ∀ k, k < xs.length → g * ms.getD k 0 = y k := fun k hk => by
    rw [hm, getD_map_range hk]; exact Int.mul_ediv_cancel' (hdv k hk)
  have htot : ∀ j, j < r + c → g * tot r xs ms j = Sx.sm xs.length fun k => Aq r c xs d3 k j * y k := fun j hj => by
    unfold tot
    rw [← Sx.sm_mul]
    refine Sx.sm_congr fun k hk => ?_
    rw [Aq_lo hj, ← hgm k hk]; grind
  have hle : ∀ j, j < r + c → tot r xs ms j ≤ 0 := fun j hj => by
    have := h1 j (by omega)
    rw [← htot j hj] at this
    by_cases q : tot r xs ms j ≤ 0
    · exact q
    · have := Int.mul_pos hg (show 0 < tot r xs ms j by omega)
      omega
  have zr : (Sx.sm r fun j => tot r xs ms j) = 0 := by
    unfold tot
    rw [Sx.sm_comm]
    refine Sx.sm_zero fun i hi => ?_
    rw [Sx.sm_mul]
    have ok := hx _ (nth_mem hi)
    have := part_sum ok.1 ok.2.2.1 (fun _ => 1)
    have e : (Sx.sm r fun j => dfc r (nth xs i).a (nth xs i).b j) = 0 := by
      rw [← show (Sx.sm r fun j => (b2 (j == (nth xs i).a.1) - b2 (j == (nth xs i).b.1)) * 1) = 0 by rw [this]; rfl]
      exact Sx.sm_congr fun j hj => by rw [dfc_lo hj, Int.mul_one]
    rw [e, Int.mul_zero]
  have zc : (Sx.sm c fun j => tot r xs ms (r + j)) = 0 := by
    unfold tot
    rw [Sx.sm_comm]
    refine Sx.sm_zero fun i hi => ?_
    rw [Sx.sm_mul]
    have ok := hx _ (nth_mem hi)
    have := part_sum ok.2.1 ok.2.2.2.1 (fun _ => 1)
    have e : (Sx.sm c fun j => dfc r (nth xs i).a (nth xs i).b (r + j)) = 0 := by
      rw [← show (Sx.sm c fun j => (b2 (j == (nth xs i).a.2) - b2 (j == (nth xs i).b.2)) * 1) = 0 by rw [this]; rfl]
      exact Sx.sm_congr fun j hj => by rw [dfc_hi, Int.mul_one]
    rw [e, Int.mul_zero]
  refine ⟨⟨by rw [hm]; simp, fun i hi hq => ?_⟩, fun j hj => ?_, ?_⟩
  · have := h1 (r + c + i) (by omega)
    rw [Sx.sm_one (a := i) hi] at this
    · rw [Aq_sl hi, BEq.rfl, Bool.true_and, hq] at this
      simp [b2] at this
      rw [← hgm i hi] at this
      exact Int.nonneg_of_mul_nonneg_right (by omega) hg
    · intro k hk hne
      have : (k == i) = false := by simpa using hne
      rw [Aq_sl hi, this, Bool.false_and]; simp [b2]
  · by_cases q : j < r
    · exact sm_all_zero (fun j hj => hle j (by omega)) zr j q
    · have := sm_all_zero (fun j hj => hle (r + j) (by omega)) zc (j - r) (by omega)
      rw [show r + (j - r) = j by omega] at this
      exact this
  · obtain ⟨k, hk, hp⟩ := Sx.sm_pos h2
    rw [Aq_rt] at hp
    refine ⟨k, hk, ?_, ?_⟩
    · cases e : kAb (nth xs k).k with
      | true => rfl
      | false => rw [e] at hp; simp [b2] at hp
    · have hy : 0 < y k := by
        rcases b2_abs (kAb (nth xs k).k) with e | e <;> rw [e] at hp <;> omega
      rw [← hgm k hk] at hy
      exact Int.pos_of_mul_pos_right hy hg
end
end Pg

set_option linter.all false
set_option maxRecDepth 100000
set_option maxHeartbeats 4000000
namespace Pg
open PySem hiding call exec
open Mp
/-! settle -/
theorem cut_drop {ds : List D} {n : Nat} (hn : n ≤ ds.length) : cutX ds (some (n : Int)) none = ds.drop n := by
  unfold cutX
  have e1 : sX ds.length 0 (some (n : Int)) = n := by
    simp only [sX]; rw [if_neg (by omega), Int.toNat_natCast]; omega
  have e2 : sX ds.length ds.length none = ds.length := rfl
  rw [e1, e2]
  exact List.take_of_length_le (by rw [List.length_drop]; exact Nat.le_refl _)
theorem rowL_take {a b : Nat} (f : Nat → Int) (h : a ≤ b) : (rowL b f).take a = rowL a f := by
  obtain ⟨c, rfl⟩ := Nat.exists_eq_add_of_le h
  have := rowL_app a c f (fun j => f (a + j))
  have e : rowL (a + c) (fun j => if j < a then f j else (fun j => f (a + j)) (j - a)) = rowL (a + c) f := rowL_congr fun j hj => by
    by_cases q : j < a
    · rw [if_pos q]
    · rw [if_neg q]; show f (a + (j - a)) = f j; congr 1; omega
  rw [e] at this
  rw [← this, List.take_append_of_le_length (by rw [rowL_len]; exact Nat.le_refl _), List.take_of_length_le (by rw [rowL_len]; exact Nat.le_refl _)]
theorem rowL_drop {a c : Nat} (f : Nat → Int) : (rowL (a + c) f).drop a = rowL c fun j => f (a + j) := by
  have := rowL_app a c f (fun j => f (a + j))
  have e : rowL (a + c) (fun j => if j < a then f j else (fun j => f (a + j)) (j - a)) = rowL (a + c) f := rowL_congr fun j hj => by
    by_cases q : j < a
    · rw [if_pos q]
    · rw [if_neg q]; show f (a + (j - a)) = f j; congr 1; omega
  rw [e] at this
  rw [← this, List.drop_append_of_le_length (by rw [rowL_len]; exact Nat.le_refl _), List.drop_of_length_le (by rw [rowL_len]; exact Nat.le_refl _)]
  rfl
def stE : Ex := (.lc (.nm 3) (.rng (.blt .len (.cons (.var 1) .nil))) .non (.call "equation_of" (.cons (.var 0) (.cons (.var 1) (.cons (.var 3) .nil)))) [3])
def stN : Ex := (.bin .add (.bin .add (.ix (.var 0) (.lit (.int 0))) (.ix (.var 0) (.lit (.int 1)))) (.blt .len (.cons (.var 1) .nil)))
def stI : S := (.ite (.cmp .is (.var 4) (.lit .none)) (.ret (.tup (.cons (.lit .none) (.cons (.blt .tuple (.cons (.call "shortened" (.cons (.var 5) .nil)) .nil)) .nil)))) .skip)
def stF : S := (.seq (.asg (.nm 6) (.call "shortened" (.cons (.sl (.ix (.var 4) (.lit (.int 0))) .non (.som (.bin .add (.ix (.var 0) (.lit (.int 0))) (.ix (.var 0) (.lit (.int 1)))))) .nil))) (.ret (.tup (.cons (.tup (.cons (.blt .tuple (.cons (.sl (.var 6) .non (.som (.ix (.var 0) (.lit (.int 0))))) .nil)) (.cons (.blt .tuple (.cons (.sl (.var 6) (.som (.ix (.var 0) (.lit (.int 0)))) .non) .nil)) .nil))) (.cons (.lit .none) .nil)))))
theorem st_is : p_settle = (.seq (.asg (.nm 2) stE) (.seq (.asg (.tp (.cons (.nm 4) (.cons (.nm 5) .nil))) (.call "solve" (.cons (.var 2) (.cons stN .nil)))) (.seq stI stF))) := rfl
section
variable {cal : Str → List D → R D} {sb : Str → Str → Bool} {w : Nat}
theorem stEv {s : D} {ds : List D} {f : Nat → D} (hn : ds.length ≤ 100) (hf : ∀ i, i < ds.length → cal "equation_of" [s, .tuple ds, .int (i : Int)] = .val (f i)) : ev cal stE [some (.dat s), some (.dat (.tuple ds)), none, none, none, none, none] = .val (.list ((List.range ds.length).map f)) := by
  refine ev_lcS (evi_rng (n := ds.length) (by simp [ev, evs, bfS]) (by omega)) ?_ (le_lim (by simp; omega))
  rw [show rngX 0 ds.length = (List.range ds.length).map fun (i : Nat) => PyData.int (i : Int) by unfold rngX; exact List.map_congr_left fun i _ => by simp]
  refine lc_idx fun i hi => ?_
  have := hf i (by simpa using hi)
  simp [lcS, eqS_ii, eqS_ss, exec, ev, evs, evo, evt, evi, startX, coS, coB, ltS, leS, gtS, geS, isS, isNone, bfS, tyS, ixS, boS, addS, subS, mulS, modS, fdivS, powS, negS, truth, truR, O.res, asgT, asgTs, mkT, mkL, optI, slS, frzAt, frzS, R.out, seqS, wipeX, this]
theorem st_no {x0 x1 x2 x3 : Option Sl} {ns : List Int} {res : List D} (e : cal "shortened" [.list (intz ns)] = .val (.list res)) : exec cal sb w (.seq stI stF) [x0, x1, x2, x3, some (.dat .none), some (.dat (.list (intz ns))), none] = .ret (.tuple [.none, .tuple res]) := by
  have hm : mkT [PyData.none, .tuple res] = some (.tuple [.none, .tuple res]) := mkT_of (le_lim (by simp))
  have s1 : exec cal sb w stI [x0, x1, x2, x3, some (.dat .none), some (.dat (.list (intz ns))), none] = .ret (.tuple [.none, .tuple res]) := by
    unfold stI
    generalize intz ns = U at *
    simp [exec, ev, evs, coS, coB, isS, isNone, truR, truth, R.out, e, bfS, hm]
  exact ex_seq_ret s1
theorem st_yes {x1 x2 x3 x5 : Option Sl} {r c : Nat} {fl res : List D} {d : D} (hl : res.length = r + c) (e : cal "shortened" [.list (fl.take (r + c))] = .val (.list res)) : exec cal sb w (.seq stI stF) [some (.dat (sz r c)), x1, x2, x3, some (.dat (.tuple [.list fl, d])), x5, none] = .ret (.tuple [.tuple [.tuple (res.take r), .tuple (res.drop r)], .none]) := by
  have hm : ∀ a b : D, mkT [a, b] = some (.tuple [a, b]) := fun a b => mkT_of (le_lim (by simp))
  have s1 : exec cal sb w stI [some (.dat (sz r c)), x1, x2, x3, some (.dat (.tuple [.list fl, d])), x5, none] = .nxt [some (.dat (sz r c)), x1, x2, x3, some (.dat (.tuple [.list fl, d])), x5, none] := by
    unfold stI
    simp [exec, ev, coS, coB, isS, isNone, truR, truth, R.out]
  rw [ex_seq s1]
  have cc : cutX fl none (some ((r : Int) + (c : Int))) = fl.take (r + c) := by
    rw [← cut_take]; rfl
  have c1 : cutX res none (some (r : Int)) = res.take r := cut_take
  have c2 : cutX res (some (r : Int)) none = res.drop r := cut_drop (by omega)
  unfold stF
  have s2 : exec cal sb w (.asg (.nm 6) (.call "shortened" (.cons (.sl (.ix (.var 4) (.lit (.int 0))) .non (.som (.bin .add (.ix (.var 0) (.lit (.int 0))) (.ix (.var 0) (.lit (.int 1)))))) .nil))) [some (.dat (sz r c)), x1, x2, x3, some (.dat (.tuple [.list fl, d])), x5, none] = .nxt [some (.dat (sz r c)), x1, x2, x3, some (.dat (.tuple [.list fl, d])), x5, some (.dat (.list res))] := by
    simp [exec, ev, evs, evo, sz, ixS, at0, at1, boS, addS, optI, slS, cc, e, R.out, asgT]
  rw [ex_seq s2]
  refine ex_ret ?_
  simp [ev, evs, evo, sz, ixS, at0, at1, optI, slS, c1, c2, bfS, hm]
end
section
variable {tbl : Str → Option Df} (h : Std tbl) {k : Nat}
include h
theorem settle {r c : Nat} (hr : r ≤ 4) (hc : c ≤ 4) {xs : List C3} (hx : ∀ x ∈ xs, okC r c x) (hl : xs.length ≤ 15) :
    (∃ us vs, Vals r c xs us vs ∧ call sub wf tbl (k + 3) "settle" [sz r c, .tuple (xs.map cmpD)] = .val (.tuple [vals us vs, .none])) ∨ (∃ ms, Canc r c xs ms ∧ call sub wf tbl (k + 3) "settle" [sz r c, .tuple (xs.map cmpD)] = .val (.tuple [.none, .tuple (intz ms)])) := by
  rw [call_eq h.t_settle rfl, st_is]
  have hf := fun i (hi : i < xs.length) => equation_of h (k := k) hr hc (xs := xs) (dx := d3) hl hi
  have so := solve h (k := k) (n := xs.length) (N := r + c + xs.length) (A := Aq r c xs d3) (eqs := (List.range xs.length).map fun (i : Nat) => rowD (r + c + xs.length + 1) (Aq r c xs d3 i)) rfl hl (by omega) (fun i j _ _ => Aq_abs i j) (fun i hi => by
    rw [Aq_rt]; rcases b2_abs (kAb (nth xs i).k) with e | e <;> rw [e] <;> decide)
  have sh := fun ns hs hl => shortened h (k := k) (ns := ns) hs hl
  generalize call sub wf tbl (k + 2) = cal at *
  have hlen : (xs.map cmpD).length = xs.length := by simp
  have s1 := ex_asg (cal := cal) (s := sub) (w := wf) (i := 2) (stEv (cal := cal) (s := sz r c) (ds := xs.map cmpD) (f := fun i => rowD (r + c + xs.length + 1) (Aq r c xs d3 i)) (by omega) (fun i hi => hf i (by omega))) (by simp)
  rw [hlen] at s1
  have hst : startX 7 [sz r c, PyData.tuple (xs.map cmpD)] = [some (.dat (sz r c)), some (.dat (.tuple (xs.map cmpD))), none, none, none, none, none] := rfl
  rw [hst, ex_seq s1]
  have eN : ev cal stN [some (.dat (sz r c)), some (.dat (.tuple (xs.map cmpD))), some (.dat (.list ((List.range xs.length).map fun (i : Nat) => rowD (r + c + xs.length + 1) (Aq r c xs d3 i)))), none, none, none, none] = .val (.int ((r + c + xs.length : Nat) : Int)) := by
    unfold stN
    generalize (List.range xs.length).map (fun (i : Nat) => rowD (r + c + xs.length + 1) (Aq r c xs d3 i)) = E
    generalize xs.map cmpD = ds at *
    simp [ev, evs, sz, ixS, at0, at1, boS, addS, bfS, hlen]
  generalize (List.range xs.length).map (fun (i : Nat) => rowD (r + c + xs.length + 1) (Aq r c xs d3 i)) = E at *
  generalize hN : ((r + c + xs.length : Nat) : Int) = NN at *
  have s2 : ∀ a b, cal "solve" [.list E, .int NN] = .val (.tuple [a, b]) → exec cal sub wf (.asg (.tp (.cons (.nm 4) (.cons (.nm 5) .nil))) (.call "solve" (.cons (.var 2) (.cons stN .nil)))) [some (.dat (sz r c)), some (.dat (.tuple (xs.map cmpD))), some (.dat (.list E)), none, none, none, none] = .nxt [some (.dat (sz r c)), some (.dat (.tuple (xs.map cmpD))), some (.dat (.list E)), none, some (.dat a), some (.dat b), none] := by
    intro a b e
    generalize stN = EN at *
    generalize xs.map cmpD = ds at *
    simp [exec, ev, evs, eN, e, R.out, asgT, asgTs]
  have hs2 : ([some (.dat (sz r c)), some (.dat (.tuple (xs.map cmpD))), none, none, none, none, none] : Rho).set 2 (some (.dat (.list E))) = [some (.dat (sz r c)), some (.dat (.tuple (xs.map cmpD))), some (.dat (.list E)), none, none, none, none] := rfl
  rw [hs2]
  rcases so with ⟨y, y1, y2, y3, e⟩ | ⟨x, d, x0, x1, x2, x3, e⟩
  · right
    rw [ex_seq (s2 _ _ e)]
    rw [rowL_intz]
    obtain ⟨g, g1, g2, e3⟩ := sh ((List.range xs.length).map y) (by
      intro v hv
      obtain ⟨i, hi, rfl⟩ := List.mem_map.1 hv
      exact y3 i (by simpa using hi)) (by simp; omega)
    rw [st_no e3]
    refine ⟨((List.range xs.length).map y).map (· / g), ?_, rfl⟩
    refine canc_of hx g1 y1 y2 (fun k hk => g2 _ (List.mem_map.2 ⟨k, by simpa using hk, rfl⟩)) (by simp)
  · left
    rw [ex_seq (s2 _ _ e)]
    obtain ⟨g, g1, g2, e3⟩ := sh ((List.range (r + c)).map x) (by
      intro v hv
      obtain ⟨i, hi, rfl⟩ := List.mem_map.1 hv
      exact x3 i (by have : i < r + c := by simpa using hi
                     omega)) (by simp; omega)
    rw [← rowL_intz, ← rowL_take x (show r + c ≤ r + c + xs.length by omega)] at e3
    rw [st_yes (r := r) (c := c) (by simp) e3]
    refine ⟨(List.range r).map fun j => x j / g, (List.range c).map fun j => x (r + j) / g, ?_, ?_⟩
    · exact vals_of hx x0 g1 x1 x2 (fun j hj => g2 _ (List.mem_map.2 ⟨j, by simpa using hj, rfl⟩)) rfl rfl
    · have q : intz (((List.range (r + c)).map x).map (· / g)) = rowL (r + c) fun j => x j / g := by simp [rowL, intz]
      rw [q, rowL_take _ (by omega), rowL_drop, rowL_intz, rowL_intz]
      rfl
end
end Pg

set_option linter.all false
set_option maxRecDepth 100000
set_option maxHeartbeats 4000000
namespace Pg
open PySem hiding call exec
open Mp
/-! values, cancelling, is_consistent, _law_values -/
theorem tryLV2 {cal : Str → List D → R D} {ρ : Rho} (hl : ρ.length = 4) (hb : exec cal sub wf bodyLV ρ = .exc "Inconsistent" ρ) : (exec cal sub wf p__law_values ρ).res = .val (.str "inconsistent") := by
  rw [lv_is]
  have e : exec cal sub wf (.tryy bodyLV 3 ["Consistent", "Inconsistent", "InvalidComparisons", "InvalidSize"] hsLV) ρ = if 3 < ρ.length ∧ ("Inconsistent" : Str) ∈ (["Consistent", "Inconsistent", "InvalidComparisons", "InvalidSize"] : List Str) then execH sub hsLV "Inconsistent" ρ else .bad := by
    simp only [exec, hb]
  rw [e, if_pos ⟨by omega, by simp⟩]
  have e2 : execH sub hsLV "Inconsistent" ρ = .ret (.str "inconsistent") := by kernel_rfl
  rw [e2]; rfl
theorem tryLV3 {cal : Str → List D → R D} {ρ : Rho} (hl : ρ.length = 4) (hb : exec cal sub wf bodyLV ρ = .exc "Consistent" ρ) : (exec cal sub wf p__law_values ρ).res = .val (.str "consistent") := by
  rw [lv_is]
  have e : exec cal sub wf (.tryy bodyLV 3 ["Consistent", "Inconsistent", "InvalidComparisons", "InvalidSize"] hsLV) ρ = if 3 < ρ.length ∧ ("Consistent" : Str) ∈ (["Consistent", "Inconsistent", "InvalidComparisons", "InvalidSize"] : List Str) then execH sub hsLV "Consistent" ρ else .bad := by
    simp only [exec, hb]
  rw [e, if_pos ⟨by omega, by simp⟩]
  have e2 : execH sub hsLV "Consistent" ρ = .ret (.str "consistent") := by kernel_rfl
  rw [e2]; rfl
theorem tryLV0 {cal : Str → List D → R D} {ρ : Rho} {d : D} (hb : exec cal sub wf bodyLV ρ = .ret d) : (exec cal sub wf p__law_values ρ).res = .val d := by
  rw [lv_is]
  have e : exec cal sub wf (.tryy bodyLV 3 ["Consistent", "Inconsistent", "InvalidComparisons", "InvalidSize"] hsLV) ρ = .ret d := by
    simp only [exec, hb]
  rw [e]; rfl
section
variable {cal : Str → List D → R D} {s X a b : D}
theorem va_yes (h1 : cal "check_comparisons" [s, X] = .val .none) (h2 : cal "settle" [s, X] = .val (.tuple [a, b])) (ha : isNone a = false) : (exec cal sub wf p_values (startX 3 [s, X])).res = .val a := by
  simp [p_values, eqS_ii, eqS_ss, exec, ev, evs, evo, evt, evi, startX, coS, coB, ltS, leS, gtS, geS, isS, isNone, bfS, tyS, ixS, boS, addS, subS, mulS, modS, fdivS, powS, negS, truth, truR, O.res, asgT, asgTs, mkT, mkL, optI, slS, frzAt, frzS, R.out, seqS, List.replicate, h1, h2, at0, ha]
  cases a <;> simp_all [isNone]
theorem va_no (h1 : cal "check_comparisons" [s, X] = .val .none) (h2 : cal "settle" [s, X] = .val (.tuple [.none, b])) : (exec cal sub wf p_values (startX 3 [s, X])).res = .exc "Inconsistent" := by
  simp [p_values, eqS_ii, eqS_ss, exec, ev, evs, evo, evt, evi, startX, coS, coB, ltS, leS, gtS, geS, isS, isNone, bfS, tyS, ixS, boS, addS, subS, mulS, modS, fdivS, powS, negS, truth, truR, O.res, asgT, asgTs, mkT, mkL, optI, slS, frzAt, frzS, R.out, seqS, List.replicate, h1, h2, at0]
theorem ca_yes (h1 : cal "check_comparisons" [s, X] = .val .none) (h2 : cal "settle" [s, X] = .val (.tuple [a, b])) (ha : isNone b = false) : (exec cal sub wf p_cancelling (startX 3 [s, X])).res = .val b := by
  simp [p_cancelling, eqS_ii, eqS_ss, exec, ev, evs, evo, evt, evi, startX, coS, coB, ltS, leS, gtS, geS, isS, isNone, bfS, tyS, ixS, boS, addS, subS, mulS, modS, fdivS, powS, negS, truth, truR, O.res, asgT, asgTs, mkT, mkL, optI, slS, frzAt, frzS, R.out, seqS, List.replicate, h1, h2, at1, ha]
  cases b <;> simp_all [isNone]
theorem ca_no (h1 : cal "check_comparisons" [s, X] = .val .none) (h2 : cal "settle" [s, X] = .val (.tuple [a, .none])) : (exec cal sub wf p_cancelling (startX 3 [s, X])).res = .exc "Consistent" := by
  simp [p_cancelling, eqS_ii, eqS_ss, exec, ev, evs, evo, evt, evi, startX, coS, coB, ltS, leS, gtS, geS, isS, isNone, bfS, tyS, ixS, boS, addS, subS, mulS, modS, fdivS, powS, negS, truth, truR, O.res, asgT, asgTs, mkT, mkL, optI, slS, frzAt, frzS, R.out, seqS, List.replicate, h1, h2, at1]
theorem ic_of (h1 : cal "check_comparisons" [s, X] = .val .none) (h2 : cal "settle" [s, X] = .val (.tuple [a, b])) : (exec cal sub wf p_is_consistent (startX 2 [s, X])).res = .val (.bool (!isNone a)) := by
  simp [p_is_consistent, eqS_ii, eqS_ss, exec, ev, evs, evo, evt, evi, startX, coS, coB, ltS, leS, gtS, geS, isS, isNone, bfS, tyS, ixS, boS, addS, subS, mulS, modS, fdivS, powS, negS, truth, truR, O.res, asgT, asgTs, mkT, mkL, optI, slS, frzAt, frzS, R.out, seqS, List.replicate, h1, h2, at0]
end
section
variable {tbl : Str → Option Df} (h : Std tbl) {k : Nat}
include h
theorem check_ok {r c : Nat} (h1 : 1 ≤ r) (h2 : r ≤ 4) (h3 : 1 ≤ c) (h4 : c ≤ 4) {xs : List C3} (hx : ∀ x ∈ xs, okC r c x) (hl : xs.length ≤ 12) : call sub wf tbl (k + 6) "check_comparisons" [sz r c, .tuple (xs.map cmpD)] = .val .none := by
  have := check_comps h h1 h2 h3 h4 (comps_ok h (k := k) hx hl)
  rw [this, if_pos rfl]
/-- all that rests on settle -/
theorem told {r c : Nat} (h1 : 1 ≤ r) (h2 : r ≤ 4) (h3 : 1 ≤ c) (h4 : c ≤ 4) {xs : List C3} (hx : ∀ x ∈ xs, okC r c x) (hl : xs.length ≤ 12) :
    (∃ us vs, Vals r c xs us vs ∧ call sub wf tbl (k + 8) "_law_values" [.int 0, sz r c, .tuple (xs.map cmpD)] = .val (vals us vs) ∧ call sub wf tbl (k + 8) "_law_values" [.int 1, sz r c, .tuple (xs.map cmpD)] = .val (.str "consistent") ∧ call sub wf tbl (k + 7) "is_consistent" [sz r c, .tuple (xs.map cmpD)] = .val (.bool true)) ∨
    (∃ ms, Canc r c xs ms ∧ call sub wf tbl (k + 8) "_law_values" [.int 0, sz r c, .tuple (xs.map cmpD)] = .val (.str "inconsistent") ∧ call sub wf tbl (k + 8) "_law_values" [.int 1, sz r c, .tuple (xs.map cmpD)] = .val (.tuple (intz ms)) ∧ call sub wf tbl (k + 7) "is_consistent" [sz r c, .tuple (xs.map cmpD)] = .val (.bool false)) := by
  have ck := check_ok h (k := k) h1 h2 h3 h4 hx hl
  have v1 : call sub wf tbl (k + 7) "values" [sz r c, .tuple (xs.map cmpD)] = (exec (call sub wf tbl (k + 6)) sub wf p_values (startX 3 [sz r c, .tuple (xs.map cmpD)])).res := call_eq h.t_values rfl
  have v2 : call sub wf tbl (k + 7) "cancelling" [sz r c, .tuple (xs.map cmpD)] = (exec (call sub wf tbl (k + 6)) sub wf p_cancelling (startX 3 [sz r c, .tuple (xs.map cmpD)])).res := call_eq h.t_cancelling rfl
  have vC : call sub wf tbl (k + 7) "is_consistent" [sz r c, .tuple (xs.map cmpD)] = (exec (call sub wf tbl (k + 6)) sub wf p_is_consistent (startX 2 [sz r c, .tuple (xs.map cmpD)])).res := call_eq h.t_is_consistent rfl
  have vL : ∀ m : Int, call sub wf tbl (k + 8) "_law_values" [.int m, sz r c, .tuple (xs.map cmpD)] = (exec (call sub wf tbl (k + 7)) sub wf p__law_values (startX 4 [.int m, sz r c, .tuple (xs.map cmpD)])).res := fun m => call_eq h.t__law_values rfl
  have b0 : ∀ R, call sub wf tbl (k + 7) "values" [sz r c, .tuple (xs.map cmpD)] = R → exec (call sub wf tbl (k + 7)) sub wf bodyLV (startX 4 [.int 0, sz r c, .tuple (xs.map cmpD)]) = R.out (startX 4 [.int 0, sz r c, .tuple (xs.map cmpD)]) fun d => .ret d := by
    intro R e
    subst e
    generalize call sub wf tbl (k + 7) = cal
    generalize sz r c = s
    generalize xs.map cmpD = X
    simp [bodyLV, exec, ev, evs, startX, List.replicate, coS, coB, eqS_ii, truR, truth]
  have b1 : ∀ R, call sub wf tbl (k + 7) "cancelling" [sz r c, .tuple (xs.map cmpD)] = R → exec (call sub wf tbl (k + 7)) sub wf bodyLV (startX 4 [.int 1, sz r c, .tuple (xs.map cmpD)]) = R.out (startX 4 [.int 1, sz r c, .tuple (xs.map cmpD)]) fun d => .ret d := by
    intro R e
    subst e
    generalize call sub wf tbl (k + 7) = cal
    generalize sz r c = s
    generalize xs.map cmpD = X
    have e1 : ((1 : Int) == 0) = false := rfl
    simp [bodyLV, exec, ev, evs, startX, List.replicate, coS, coB, eqS_ii, truR, truth, e1]
  rcases settle h (k := k + 3) h2 h4 hx (by omega) with ⟨us, vs, hv, e⟩ | ⟨ms, hc, e⟩
  · left
    refine ⟨us, vs, hv, ?_, ?_, ?_⟩
    · rw [vL]
      refine tryLV0 ?_
      rw [b0 _ (v1.trans (va_yes ck e rfl))]
      rfl
    · rw [vL]
      refine tryLV3 (by simp [startX]) ?_
      rw [b1 _ (v2.trans (ca_no ck e))]
      rfl
    · rw [vC, ic_of ck e]; rfl
  · right
    refine ⟨ms, hc, ?_, ?_, ?_⟩
    · rw [vL]
      refine tryLV2 (by simp [startX]) ?_
      rw [b0 _ (v1.trans (va_no ck e))]
      rfl
    · rw [vL]
      refine tryLV0 ?_
      rw [b1 _ (v2.trans (ca_yes ck e rfl))]
      rfl
    · rw [vC, ic_of ck e]; rfl
end
end Pg

set_option linter.all false
set_option maxRecDepth 100000
set_option maxHeartbeats 4000000
namespace Pg
open PySem hiding call exec
open Mp
/-! are_multipliers, by the program and by the law -/
def okAt (x : C3) : D → Bool
  | .int v => kEq x.k || decide (0 ≤ v)
  | _ => false
def mB (xs : List C3) (ds : List D) : Bool := (xs.zip ds).all fun p => okAt p.1 p.2
theorem lc_sel {α : Type} {step : D → R (List D)} {f : α → D} {p : α → Bool} {g : α → D} : ∀ {xs : List α}, (∀ x ∈ xs, step (f x) = .val (if p x then [] else [g x])) → ∃ ys, lcF step (xs.map f) = .val ys ∧ ys.length ≤ xs.length ∧ (ys.isEmpty = xs.all p)
  | [], _ => ⟨[], rfl, Nat.le_refl _, rfl⟩
  | x :: xs, hs => by
    obtain ⟨ys, e1, e2, e3⟩ := lc_sel (xs := xs) (fun y hy => hs y (List.mem_cons_of_mem _ hy))
    have hx := hs x List.mem_cons_self
    cases c : p x with
    | true =>
      rw [c, if_pos rfl] at hx
      refine ⟨ys, by simp only [List.map_cons, lcF, hx, e1, List.nil_append], ?_, ?_⟩
      · simp only [List.length_cons]; omega
      · simp only [List.all_cons, c, Bool.true_and]; exact e3
    | false =>
      rw [c, if_neg (by decide)] at hx
      refine ⟨g x :: ys, by simp only [List.map_cons, lcF, hx, e1, List.cons_append, List.nil_append], ?_, ?_⟩
      · simp only [List.length_cons]; omega
      · simp only [List.all_cons, c, Bool.false_and]; rfl
theorem pairs_zip (xs : List C3) (ds : List D) : pairsX (xs.map cmpD) ds = (xs.zip ds).map fun p => PyData.tuple [cmpD p.1, p.2] := by
  induction xs generalizing ds with
  | nil => rfl
  | cons x xs ih => cases ds with
    | nil => rfl
    | cons d ds => simp only [List.map_cons, pairsX, List.zip_cons_cons, ih]
def lamB : S := (.seq (.ite (.or (.not (.blt (.isi .int) (.cons (.ix (.var 1) (.var 2)) .nil))) (.blt (.isi .bool) (.cons (.ix (.var 1) (.var 2)) .nil))) (.ret (.lit (.bool false))) .skip) (.ite (.and (.cmp .lt (.ix (.var 1) (.var 2)) (.lit (.int 0))) (.cmp .ne (.ix (.ix (.var 0) (.var 2)) (.lit (.int 1))) (.lit (.str "equal")))) (.ret (.lit (.bool false))) .skip))
def amT : S := (.ite (.or (.not (.blt (.isi .tuple) (.cons (.var 1) .nil))) (.cmp .ne (.blt .len (.cons (.var 1) .nil)) (.blt .len (.cons (.var 0) .nil)))) (.ret (.lit (.bool false))) .skip)
theorem lam_is : p__law_are_multipliers = (.seq amT (.seq (.for (.nm 2) (.rng (.blt .len (.cons (.var 1) .nil))) lamB) (.ret (.lit (.bool true))))) := rfl
def amE1 : Ex := (.lc (.nm 2) (.seq (.var 1)) (.som (.or (.not (.blt (.isi .int) (.cons (.var 2) .nil))) (.blt (.isi .bool) (.cons (.var 2) .nil)))) (.var 2) [2])
def amE2 : Ex := (.lc (.tp (.cons (.nm 2) (.cons (.nm 3) .nil))) (.zip (.var 0) (.var 1)) (.som (.and (.cmp .ne (.ix (.var 2) (.lit (.int 1))) (.lit (.str "equal"))) (.cmp .lt (.var 3) (.lit (.int 0))))) (.lit (.int 1)) [2, 3])
theorem am_is : p_are_multipliers = (.seq amT (.seq (.ite amE1 (.ret (.lit (.bool false))) .skip) (.ret (.not amE2)))) := rfl
section
variable {cal : Str → List D → R D} {sb : Str → Str → Bool} {w : Nat}
theorem amT_ok {X ds : List D} {ρ : List (Option Sl)} (hl : ds.length = X.length) : exec cal sb w amT (some (.dat (.tuple X)) :: some (.dat (.tuple ds)) :: ρ) = .nxt (some (.dat (.tuple X)) :: some (.dat (.tuple ds)) :: ρ) := by
  simp [amT, eqS_ii, eqS_ss, exec, ev, evs, evo, evt, evi, startX, coS, coB, ltS, leS, gtS, geS, isS, isNone, bfS, tyS, ixS, boS, addS, subS, mulS, modS, fdivS, powS, negS, truth, truR, O.res, asgT, asgTs, mkT, mkL, optI, slS, frzAt, frzS, R.out, seqS, hl]
theorem amT_len {X ds : List D} {ρ : List (Option Sl)} (hl : ¬ ds.length = X.length) : exec cal sb w amT (some (.dat (.tuple X)) :: some (.dat (.tuple ds)) :: ρ) = .ret (.bool false) := by
  have : ((ds.length : Int) == (X.length : Int)) = false := by
    rw [beq_eq_false_iff_ne]; omega
  simp [amT, eqS_ii, eqS_ss, exec, ev, evs, evo, evt, evi, startX, coS, coB, ltS, leS, gtS, geS, isS, isNone, bfS, tyS, ixS, boS, addS, subS, mulS, modS, fdivS, powS, negS, truth, truR, O.res, asgT, asgTs, mkT, mkL, optI, slS, frzAt, frzS, R.out, seqS, this]
theorem amT_no {X : List D} {v : D} {ρ : List (Option Sl)} (hv : tyS .tuple v = some (.bool false)) : exec cal sb w amT (some (.dat (.tuple X)) :: some (.dat v) :: ρ) = .ret (.bool false) := by
  simp [amT, exec, ev, evs, bfS, hv, truth, truR, R.out]
/-- a turn of the law's loop -/
theorem lam_turn {X ds : List D} {i : Nat} {x : C3} {d : D} (h1 : atX X (i : Int) = some (cmpD x)) (h2 : atX ds (i : Int) = some d) (hp : plain d = true) : exec cal sb w lamB [some (.dat (.tuple X)), some (.dat (.tuple ds)), some (.dat (.int (i : Int)))] = if okAt x d then .nxt [some (.dat (.tuple X)), some (.dat (.tuple ds)), some (.dat (.int (i : Int)))] else .ret (.bool false) := by
  have k1 := kd_eq' x.k
  unfold cmpD at h1
  cases d with
  | int v =>
    by_cases c : v < 0
    · cases e : kEq x.k
      · have c' : ¬ 0 ≤ v := by omega
        rw [e] at k1
        simp [lamB, eqS_ii, eqS_ss, exec, ev, evs, evo, evt, evi, startX, coS, coB, ltS, leS, gtS, geS, isS, isNone, bfS, tyS, ixS, boS, addS, subS, mulS, modS, fdivS, powS, negS, truth, truR, O.res, asgT, asgTs, mkT, mkL, optI, slS, frzAt, frzS, R.out, seqS, h1, h2, c, c', okAt, e, at31, k1]
      · rw [e] at k1
        simp [lamB, eqS_ii, eqS_ss, exec, ev, evs, evo, evt, evi, startX, coS, coB, ltS, leS, gtS, geS, isS, isNone, bfS, tyS, ixS, boS, addS, subS, mulS, modS, fdivS, powS, negS, truth, truR, O.res, asgT, asgTs, mkT, mkL, optI, slS, frzAt, frzS, R.out, seqS, h1, h2, c, okAt, e, at31, k1]
    · have c' : 0 ≤ v := by omega
      simp [lamB, eqS_ii, eqS_ss, exec, ev, evs, evo, evt, evi, startX, coS, coB, ltS, leS, gtS, geS, isS, isNone, bfS, tyS, ixS, boS, addS, subS, mulS, modS, fdivS, powS, negS, truth, truR, O.res, asgT, asgTs, mkT, mkL, optI, slS, frzAt, frzS, R.out, seqS, h1, h2, c, c', okAt]
  | dict _ => simp [plain] at hp
  | _ => simp [lamB, eqS_ii, eqS_ss, exec, ev, evs, evo, evt, evi, startX, coS, coB, ltS, leS, gtS, geS, isS, isNone, bfS, tyS, ixS, boS, addS, subS, mulS, modS, fdivS, powS, negS, truth, truR, O.res, asgT, asgTs, mkT, mkL, optI, slS, frzAt, frzS, R.out, seqS, h1, h2, okAt]
theorem amEv1 {X : List D} {ds : List D} (hl : ds.length ≤ 100) (hp : ∀ d ∈ ds, plain d = true) : ∃ ys, ev cal amE1 [some (.dat (.tuple X)), some (.dat (.tuple ds)), none, none] = .val (.list ys) ∧ ys.isEmpty = ds.all isI := by
  have i1 : evi cal (.seq (.var 1)) [some (.dat (.tuple X)), some (.dat (.tuple ds)), none, none] = .val ds := by simp [eqS_ii, eqS_ss, exec, ev, evs, evo, evt, evi, startX, coS, coB, ltS, leS, gtS, geS, isS, isNone, bfS, tyS, ixS, boS, addS, subS, mulS, modS, fdivS, powS, negS, truth, truR, O.res, asgT, asgTs, mkT, mkL, optI, slS, frzAt, frzS, R.out, seqS]
  obtain ⟨ys, e1, e2, e3⟩ := lc_drop (step := lcS cal (.nm 2) (.som (.or (.not (.blt (.isi .int) (.cons (.var 2) .nil))) (.blt (.isi .bool) (.cons (.var 2) .nil)))) (.var 2) (wipeX [some (.dat (.tuple X)), some (.dat (.tuple ds)), none, none] [2])) (p := isI) (xs := ds) (fun x hx => by
    have := hp x hx
    cases x <;> simp [plain] at this <;> simp [lcS, eqS_ii, eqS_ss, exec, ev, evs, evo, evt, evi, startX, coS, coB, ltS, leS, gtS, geS, isS, isNone, bfS, tyS, ixS, boS, addS, subS, mulS, modS, fdivS, powS, negS, truth, truR, O.res, asgT, asgTs, mkT, mkL, optI, slS, frzAt, frzS, R.out, seqS, wipeX, isI])
  exact ⟨ys, ev_lcS i1 e1 (le_lim (by omega)), e3⟩
theorem amEv2 {xs : List C3} {ns : List Int} (hl : xs.length ≤ 100) : ∃ ys, ev cal amE2 [some (.dat (.tuple (xs.map cmpD))), some (.dat (.tuple (intz ns))), none, none] = .val (.list ys) ∧ ys.isEmpty = mB xs (intz ns) := by
  have i1 : evi cal (.zip (.var 0) (.var 1)) [some (.dat (.tuple (xs.map cmpD))), some (.dat (.tuple (intz ns))), none, none] = .val ((xs.zip (intz ns)).map fun p => PyData.tuple [cmpD p.1, p.2]) := by
    rw [← pairs_zip]
    generalize xs.map cmpD = X
    generalize intz ns = U
    simp [eqS_ii, eqS_ss, exec, ev, evs, evo, evt, evi, startX, coS, coB, ltS, leS, gtS, geS, isS, isNone, bfS, tyS, ixS, boS, addS, subS, mulS, modS, fdivS, powS, negS, truth, truR, O.res, asgT, asgTs, mkT, mkL, optI, slS, frzAt, frzS, R.out, seqS, zipS]
  have hpl : ∀ p ∈ xs.zip (intz ns), ∃ v, p.2 = .int v := fun p hp => by
    have := List.of_mem_zip hp
    obtain ⟨v, _, e⟩ := List.mem_map.1 this.2
    exact ⟨v, e.symm⟩
  obtain ⟨ys, e1, e2, e3⟩ := lc_sel (step := lcS cal (.tp (.cons (.nm 2) (.cons (.nm 3) .nil))) (.som (.and (.cmp .ne (.ix (.var 2) (.lit (.int 1))) (.lit (.str "equal"))) (.cmp .lt (.var 3) (.lit (.int 0))))) (.lit (.int 1)) (wipeX [some (.dat (.tuple (xs.map cmpD))), some (.dat (.tuple (intz ns))), none, none] [2, 3])) (p := fun p => okAt p.1 p.2) (g := fun _ => .int 1) (f := fun p => PyData.tuple [cmpD p.1, p.2]) (xs := xs.zip (intz ns)) (fun p hp => by
    obtain ⟨v, hev⟩ := hpl p hp
    generalize intz ns = U
    generalize xs.map cmpD = X
    have k1 := kd_eq' p.1.k
    rw [hev]
    unfold cmpD okAt
    generalize celD p.1.a = ca
    generalize celD p.1.b = cb
    generalize p.1.k.s = ks at *
    cases e : kEq p.1.k <;> rw [e] at k1 <;> by_cases c : v < 0
    · have c' : ¬ 0 ≤ v := by omega
      simp [lcS, eqS_ii, eqS_ss, exec, ev, evs, evo, evt, evi, startX, coS, coB, ltS, leS, gtS, geS, isS, isNone, bfS, tyS, ixS, boS, addS, subS, mulS, modS, fdivS, powS, negS, truth, truR, O.res, asgT, asgTs, mkT, mkL, optI, slS, frzAt, frzS, R.out, seqS, wipeX, at31, k1, c, c']
    · have c' : 0 ≤ v := by omega
      simp [lcS, eqS_ii, eqS_ss, exec, ev, evs, evo, evt, evi, startX, coS, coB, ltS, leS, gtS, geS, isS, isNone, bfS, tyS, ixS, boS, addS, subS, mulS, modS, fdivS, powS, negS, truth, truR, O.res, asgT, asgTs, mkT, mkL, optI, slS, frzAt, frzS, R.out, seqS, wipeX, at31, k1, c, c']
    · simp [lcS, eqS_ii, eqS_ss, exec, ev, evs, evo, evt, evi, startX, coS, coB, ltS, leS, gtS, geS, isS, isNone, bfS, tyS, ixS, boS, addS, subS, mulS, modS, fdivS, powS, negS, truth, truR, O.res, asgT, asgTs, mkT, mkL, optI, slS, frzAt, frzS, R.out, seqS, wipeX, at31, k1, c]
    · simp [lcS, eqS_ii, eqS_ss, exec, ev, evs, evo, evt, evi, startX, coS, coB, ltS, leS, gtS, geS, isS, isNone, bfS, tyS, ixS, boS, addS, subS, mulS, modS, fdivS, powS, negS, truth, truR, O.res, asgT, asgTs, mkT, mkL, optI, slS, frzAt, frzS, R.out, seqS, wipeX, at31, k1, c])
  refine ⟨ys, ev_lcS i1 e1 (le_lim ?_), e3⟩
  refine Nat.le_trans e2 ?_
  rw [List.length_zip]
  omega
end
theorem zip_at {xs : List C3} {ds : List D} {i : Nat} (h1 : i < xs.length) (h2 : i < ds.length) : (xs.zip ds)[i]? = some (nth xs i, ds.getD i .none) := by
  unfold nth
  rw [List.getD_eq_getElem?_getD, List.getD_eq_getElem?_getD, List.getElem?_eq_getElem h1, List.getElem?_eq_getElem h2, List.getElem?_eq_getElem (by rw [List.length_zip]; omega)]
  simp
theorem atX_getD {ds : List D} {i : Nat} (hi : i < ds.length) : atX ds (i : Int) = some (ds.getD i .none) := by
  unfold atX
  rw [if_pos (by omega), Int.toNat_natCast, List.getD_eq_getElem?_getD, List.getElem?_eq_getElem hi]
  rfl
theorem mB_range {xs : List C3} {ds : List D} (hl : ds.length = xs.length) : mB xs ds = (List.range xs.length).all fun i => okAt (nth xs i) (ds.getD i .none) := by
  unfold mB
  rw [Bool.eq_iff_iff, List.all_eq_true, List.all_eq_true]
  constructor
  · intro h i hi
    have hi' : i < xs.length := by simpa using hi
    exact h _ (List.mem_of_getElem? (zip_at hi' (by omega)))
  · intro h p hp
    obtain ⟨i, hi, e⟩ := List.getElem_of_mem hp
    have hi' : i < xs.length := by rw [List.length_zip] at hi; omega
    have := zip_at hi' (ds := ds) (by omega)
    rw [List.getElem?_eq_getElem hi, e] at this
    have e2 := Option.some.inj this
    rw [e2]
    exact h i (by simpa using hi')
theorem mB_isI {xs : List C3} {ds : List D} (hl : ds.length = xs.length) (h : ds.all isI = false) : mB xs ds = false := by
  cases e : mB xs ds with
  | false => rfl
  | true =>
    exfalso
    rw [mB_range hl] at e
    have : ds.all isI = true := by
      rw [List.all_eq_true] at e ⊢
      intro d hd
      obtain ⟨i, hi, ed⟩ := List.getElem_of_mem hd
      have := e i (by simpa using (by omega : i < xs.length))
      rw [List.getD_eq_getElem?_getD, List.getElem?_eq_getElem hi, ed] at this
      cases d <;> simp_all [okAt, isI]
    rw [this] at h; cases h
theorem all_ints {ds : List D} (h : ds.all isI = true) : ∃ ns, ds = intz ns := by
  induction ds with
  | nil => exact ⟨[], rfl⟩
  | cons d ds ih =>
    rw [List.all_cons, Bool.and_eq_true] at h
    obtain ⟨ns, e⟩ := ih h.2
    cases d with
    | int v => exact ⟨v :: ns, by rw [e]; rfl⟩
    | _ => simp [isI] at h
section
variable {tbl : Str → Option Df} (h : Std tbl) {k : Nat}
include h
/-- no tuple, or not of the right length -/
theorem muls_no {xs : List C3} {v : D} (hv : tyS .tuple v = some (.bool false) ∨ ∃ ds, v = .tuple ds ∧ ¬ ds.length = xs.length) : call sub wf tbl (k + 1) "are_multipliers" [.tuple (xs.map cmpD), v] = .val (.bool false) ∧ call sub wf tbl (k + 1) "_law_are_multipliers" [.tuple (xs.map cmpD), v] = .val (.bool false) := by
  rw [call_eq h.t_are_multipliers rfl, call_eq h.t__law_are_multipliers rfl, am_is, lam_is]
  have s1 : startX 4 [PyData.tuple (xs.map cmpD), v] = some (.dat (.tuple (xs.map cmpD))) :: some (.dat v) :: [none, none] := rfl
  have s2 : startX 3 [PyData.tuple (xs.map cmpD), v] = some (.dat (.tuple (xs.map cmpD))) :: some (.dat v) :: [none] := rfl
  rw [s1, s2]
  rcases hv with hv | ⟨ds, rfl, hl⟩
  · rw [ex_seq_ret (amT_no hv), ex_seq_ret (amT_no hv)]; exact ⟨rfl, rfl⟩
  · rw [ex_seq_ret (amT_len (by rw [List.length_map]; exact hl)), ex_seq_ret (amT_len (by rw [List.length_map]; exact hl))]; exact ⟨rfl, rfl⟩
theorem law_muls {xs : List C3} {ds : List D} (hx : xs.length ≤ 100) (hl : ds.length = xs.length) (hp : ∀ d ∈ ds, plain d = true) : call sub wf tbl (k + 1) "_law_are_multipliers" [.tuple (xs.map cmpD), .tuple ds] = .val (.bool (mB xs ds)) := by
  rw [call_eq h.t__law_are_multipliers rfl, lam_is]
  generalize call sub wf tbl k = cal
  have s2 : startX 3 [PyData.tuple (xs.map cmpD), .tuple ds] = some (.dat (.tuple (xs.map cmpD))) :: some (.dat (.tuple ds)) :: [none] := rfl
  rw [s2, ex_seq (amT_ok (by rw [List.length_map]; exact hl))]
  have i1 : evi cal (.rng (.blt .len (.cons (.var 1) .nil))) [some (.dat (.tuple (xs.map cmpD))), some (.dat (.tuple ds)), none] = .val (rngX 0 ds.length) := evi_rng (by
    generalize xs.map cmpD = X
    simp [eqS_ii, eqS_ss, exec, ev, evs, evo, evt, evi, startX, coS, coB, ltS, leS, gtS, geS, isS, isNone, bfS, tyS, ixS, boS, addS, subS, mulS, modS, fdivS, powS, negS, truth, truR, O.res, asgT, asgTs, mkT, mkL, optI, slS, frzAt, frzS, R.out, seqS]) (by omega)
  have f := ex_for (s := sub) (w := wf) (b := lamB) (t := .nm 2) i1
  rw [rngX_eq] at f
  have g := forF_rng (step := forStep cal sub wf (.nm 2) lamB) (fun i => !okAt (nth xs i) (ds.getD i .none)) (fun _ => .bool false) (fun ρ => ∃ o, ρ = [some (.dat (.tuple (xs.map cmpD))), some (.dat (.tuple ds)), o]) ds.length 0 [some (.dat (.tuple (xs.map cmpD))), some (.dat (.tuple ds)), none] ⟨none, rfl⟩ (fun i ρ a b I => by
    obtain ⟨o, rfl⟩ := I
    have hi : i < ds.length := by omega
    have fs : forStep cal sub wf (.nm 2) lamB (.int (i : Int)) [some (.dat (.tuple (xs.map cmpD))), some (.dat (.tuple ds)), o] = exec cal sub wf lamB [some (.dat (.tuple (xs.map cmpD))), some (.dat (.tuple ds)), some (.dat (.int (i : Int)))] := fs_nm (by simp)
    have pl : plain (ds.getD i .none) = true := by
      rw [List.getD_eq_getElem?_getD, List.getElem?_eq_getElem hi]
      exact hp _ (List.getElem_mem hi)
    have st := lam_turn (cal := cal) (sb := sub) (w := wf) (x := nth xs i) (cmps_at (by omega) d3) (atX_getD hi) pl
    rw [fs, st]
    refine ⟨fun c => ?_, fun c => ?_⟩
    · have : okAt (nth xs i) (ds.getD i .none) = false := by simpa using c
      rw [this]; rfl
    · have : okAt (nth xs i) (ds.getD i .none) = true := by simpa using c
      rw [this]; exact ⟨_, rfl, _, rfl⟩)
  rw [mB_range hl]
  generalize lamB = Bd at *
  rcases g with ⟨j, _, a, b, c, e⟩ | ⟨a, ρ', e, o, rfl⟩
  · rw [ex_seq_ret (f.trans e)]
    have : ((List.range xs.length).all fun i => okAt (nth xs i) (ds.getD i .none)) = false := by
      rw [List.all_eq_false]
      exact ⟨j, by simp; omega, by simpa using b⟩
    rw [this]; rfl
  · rw [ex_seq (f.trans e)]
    have : ((List.range xs.length).all fun i => okAt (nth xs i) (ds.getD i .none)) = true := by
      rw [List.all_eq_true]
      intro i hi
      have := a i (by omega) (by have : i < xs.length := by simpa using hi
                                 omega)
      simpa using this
    rw [this]; rfl
theorem are_muls {xs : List C3} {ds : List D} (hx : xs.length ≤ 100) (hl : ds.length = xs.length) (hp : ∀ d ∈ ds, plain d = true) : call sub wf tbl (k + 1) "are_multipliers" [.tuple (xs.map cmpD), .tuple ds] = .val (.bool (mB xs ds)) := by
  rw [call_eq h.t_are_multipliers rfl, am_is]
  generalize call sub wf tbl k = cal
  have s1 : startX 4 [PyData.tuple (xs.map cmpD), .tuple ds] = some (.dat (.tuple (xs.map cmpD))) :: some (.dat (.tuple ds)) :: [none, none] := rfl
  rw [s1, ex_seq (amT_ok (by rw [List.length_map]; exact hl))]
  obtain ⟨ys, e1, e2⟩ := amEv1 (cal := cal) (X := xs.map cmpD) (ds := ds) (by omega) hp
  cases c : ds.all isI with
  | false =>
    rw [mB_isI hl c]
    rw [c] at e2
    have s2 : exec cal sub wf (.ite amE1 (.ret (.lit (.bool false))) .skip) [some (.dat (.tuple (xs.map cmpD))), some (.dat (.tuple ds)), none, none] = .ret (.bool false) := by
      rw [ex_ite e1 (k := true) (by simp [truth, e2])]; rfl
    rw [ex_seq_ret s2]; rfl
  | true =>
    rw [c] at e2
    obtain ⟨ns, rfl⟩ := all_ints c
    have s2 : exec cal sub wf (.ite amE1 (.ret (.lit (.bool false))) .skip) [some (.dat (.tuple (xs.map cmpD))), some (.dat (.tuple (intz ns))), none, none] = .nxt [some (.dat (.tuple (xs.map cmpD))), some (.dat (.tuple (intz ns))), none, none] := by
      rw [ex_ite e1 (k := false) (by simp [truth, e2])]; rfl
    rw [ex_seq s2]
    obtain ⟨zs, f1, f2⟩ := amEv2 (cal := cal) (xs := xs) (ns := ns) hx
    generalize amE2 = E2 at *
    have : ev cal (.not E2) [some (.dat (.tuple (xs.map cmpD))), some (.dat (.tuple (intz ns))), none, none] = .val (.bool (mB xs (intz ns))) := by
      simp only [ev, f1, truR, R.bnd_val, truth, ofO_some, Bool.not_not, f2]
    rw [ex_ret this]; rfl
end
end Pg

set_option linter.all false
set_option maxRecDepth 100000
set_option maxHeartbeats 4000000
namespace Pg
open PySem hiding call exec
open Mp
/-! strict, totals -/
def sB (xs : List C3) (ns : List Int) : Bool := (List.range xs.length).any fun i => kAb (nth xs i).k && decide (0 < ns.getD i 0)
theorem pairs_range {xs : List C3} {ns : List Int} (hl : ns.length = xs.length) : pairsX (xs.map cmpD) (intz ns) = (List.range xs.length).map fun i => PyData.tuple [cmpD (nth xs i), .int (ns.getD i 0)] := by
  rw [pairs_zip]
  refine List.ext_getElem? fun i => ?_
  rw [List.getElem?_map, List.getElem?_map]
  by_cases c : i < xs.length
  · rw [zip_at c (by simp [intz]; omega), List.getElem?_range c]
    have : (intz ns).getD i .none = .int (ns.getD i 0) := by
      rw [List.getD_eq_getElem?_getD, List.getD_eq_getElem?_getD, List.getElem?_map, List.getElem?_eq_getElem (by omega : i < ns.length)]; rfl
    simp only [Option.map_some, this]
  · rw [List.getElem?_eq_none (by rw [List.length_zip]; simp [intz]; omega), List.getElem?_eq_none (by simp; omega)]
    rfl
def lsB : S := (.ite (.and (.cmp .eq (.ix (.ix (.var 0) (.var 2)) (.lit (.int 1))) (.lit (.str "above"))) (.cmp .gt (.ix (.var 1) (.var 2)) (.lit (.int 0)))) (.ret (.lit (.bool true))) .skip)
theorem ls_is : p__law_strict = (.seq (.for (.nm 2) (.rng (.blt .len (.cons (.var 0) .nil))) lsB) (.ret (.lit (.bool false)))) := rfl
def icE (v : Nat) (b : Ex) : Ex := (.lc (.tp (.cons (.nm v) (.cons (.nm (v + 1)) .nil))) (.zip (.var 1) b) (.som (.and (.cmp .eq (.ix (.var v) (.lit (.int 1))) (.lit (.str "above"))) (.cmp .gt (.var (v + 1)) (.lit (.int 0))))) (.lit (.int 1)) [v, v + 1])
section
variable {cal : Str → List D → R D} {sb : Str → Str → Bool} {w : Nat}
theorem ls_turn {X ds : List D} {i : Nat} {x : C3} {v : Int} (h1 : atX X (i : Int) = some (cmpD x)) (h2 : atX ds (i : Int) = some (.int v)) : exec cal sb w lsB [some (.dat (.tuple X)), some (.dat (.tuple ds)), some (.dat (.int (i : Int)))] = if kAb x.k && decide (0 < v) then .ret (.bool true) else .nxt [some (.dat (.tuple X)), some (.dat (.tuple ds)), some (.dat (.int (i : Int)))] := by
  have k1 := kd_ab' x.k
  unfold cmpD at h1
  cases e : kAb x.k <;> rw [e] at k1 <;> by_cases c : 0 < v <;> simp [lsB, eqS_ii, eqS_ss, exec, ev, evs, evo, evt, evi, startX, coS, coB, ltS, leS, gtS, geS, isS, isNone, bfS, tyS, ixS, boS, addS, subS, mulS, modS, fdivS, powS, negS, truth, truR, O.res, asgT, asgTs, mkT, mkL, optI, slS, frzAt, frzS, R.out, seqS, h1, h2, c, at31, k1]
/-- the comparisons with multipliers above 0 -/
theorem icEv {ρ : Rho} {v : Nat} {b : Ex} {xs : List C3} {ns : List Int} (hv : 1 < v) (hr : v + 1 < ρ.length) (h1 : ρ[1]? = some (some (.dat (.tuple (xs.map cmpD))))) (hb : ev cal b ρ = .val (.tuple (intz ns))) (hl : ns.length = xs.length) (hx : xs.length ≤ 100) : ∃ ys, ev cal (icE v b) ρ = .val (.list ys) ∧ ys.isEmpty = !sB xs ns := by
  have i1 : evi cal (.zip (.var 1) b) ρ = .val ((List.range xs.length).map fun i => PyData.tuple [cmpD (nth xs i), .int (ns.getD i 0)]) := by
    rw [← pairs_range hl]
    simp only [evi, ev, h1, hb, R.bnd_val, zipS, ofO_some]
  obtain ⟨ys, e1, e2, e3⟩ := lc_sel (step := lcS cal (.tp (.cons (.nm v) (.cons (.nm (v + 1)) .nil))) (.som (.and (.cmp .eq (.ix (.var v) (.lit (.int 1))) (.lit (.str "above"))) (.cmp .gt (.var (v + 1)) (.lit (.int 0))))) (.lit (.int 1)) (wipeX ρ [v, v + 1])) (p := fun i => !(kAb (nth xs i).k && decide (0 < ns.getD i 0))) (g := fun _ => .int 1) (f := fun i => PyData.tuple [cmpD (nth xs i), .int (ns.getD i 0)]) (xs := List.range xs.length) (fun i hi => by
    have k1 := kd_ab' (nth xs i).k
    have hw : (wipeX ρ [v, v + 1]).length = ρ.length := by simp [wipeX]
    generalize wipeX ρ [v, v + 1] = σ at *
    generalize hq : ns.getD i 0 = q
    have as : asgT (.tp (.cons (.nm v) (.cons (.nm (v + 1)) .nil))) (.tuple [cmpD (nth xs i), .int q]) σ = some ((σ.set v (some (.dat (cmpD (nth xs i))))).set (v + 1) (some (.dat (.int q)))) := by
      have a1 : v < σ.length := by omega
      have a2 : v + 1 < σ.length := by omega
      simp [asgT, asgTs, a1, a2]
    have g1 : ((σ.set v (some (.dat (cmpD (nth xs i))))).set (v + 1) (some (.dat (.int q))))[v]? = some (some (.dat (cmpD (nth xs i)))) := by
      rw [List.getElem?_set_ne (by omega), List.getElem?_set_self (by omega)]
    have g2 : ((σ.set v (some (.dat (cmpD (nth xs i))))).set (v + 1) (some (.dat (.int q))))[v + 1]? = some (some (.dat (.int q))) := by
      rw [List.getElem?_set_self (by simp; omega)]
    simp only [lcS, as]
    generalize (σ.set v (some (.dat (cmpD (nth xs i))))).set (v + 1) (some (.dat (.int q))) = τ at *
    unfold cmpD at g1
    cases e : kAb (nth xs i).k <;> rw [e] at k1 <;> by_cases c : 0 < q <;> simp [evt, truR, ev, g1, g2, ixS, at31, coS, coB, eqS_ss, k1, gtS, c, truth])
  refine ⟨ys, ev_lcS i1 e1 (le_lim (by simp at e2; omega)), ?_⟩
  rw [e3]
  unfold sB
  rw [List.not_any_eq_all_not]
end
section
variable {tbl : Str → Option Df} (h : Std tbl) {k : Nat}
include h
theorem law_strict {xs : List C3} {ns : List Int} (hx : xs.length ≤ 100) (hl : ns.length = xs.length) : call sub wf tbl (k + 1) "_law_strict" [.tuple (xs.map cmpD), .tuple (intz ns)] = .val (.bool (sB xs ns)) := by
  rw [call_eq h.t__law_strict rfl, ls_is]
  generalize call sub wf tbl k = cal
  have s2 : startX 3 [PyData.tuple (xs.map cmpD), .tuple (intz ns)] = [some (.dat (.tuple (xs.map cmpD))), some (.dat (.tuple (intz ns))), none] := rfl
  rw [s2]
  have i1 : evi cal (.rng (.blt .len (.cons (.var 0) .nil))) [some (.dat (.tuple (xs.map cmpD))), some (.dat (.tuple (intz ns))), none] = .val (rngX 0 xs.length) := evi_rng (by
    have hxl : (xs.map cmpD).length = xs.length := by simp
    generalize xs.map cmpD = X at *
    generalize intz ns = U
    simp [eqS_ii, eqS_ss, exec, ev, evs, evo, evt, evi, startX, coS, coB, ltS, leS, gtS, geS, isS, isNone, bfS, tyS, ixS, boS, addS, subS, mulS, modS, fdivS, powS, negS, truth, truR, O.res, asgT, asgTs, mkT, mkL, optI, slS, frzAt, frzS, R.out, seqS, hxl]) (by omega)
  have f := ex_for (s := sub) (w := wf) (b := lsB) (t := .nm 2) i1
  rw [rngX_eq] at f
  have g := forF_rng (step := forStep cal sub wf (.nm 2) lsB) (fun i => kAb (nth xs i).k && decide (0 < ns.getD i 0)) (fun _ => .bool true) (fun ρ => ∃ o, ρ = [some (.dat (.tuple (xs.map cmpD))), some (.dat (.tuple (intz ns))), o]) xs.length 0 [some (.dat (.tuple (xs.map cmpD))), some (.dat (.tuple (intz ns))), none] ⟨none, rfl⟩ (fun i ρ a b I => by
    obtain ⟨o, rfl⟩ := I
    have fs : forStep cal sub wf (.nm 2) lsB (.int (i : Int)) [some (.dat (.tuple (xs.map cmpD))), some (.dat (.tuple (intz ns))), o] = exec cal sub wf lsB [some (.dat (.tuple (xs.map cmpD))), some (.dat (.tuple (intz ns))), some (.dat (.int (i : Int)))] := fs_nm (by simp)
    have st := ls_turn (cal := cal) (sb := sub) (w := wf) (x := nth xs i) (v := ns.getD i 0) (cmps_at (by omega) d3) (atI (us := ns) (by omega))
    rw [fs, st]
    refine ⟨fun c => ?_, fun c => ?_⟩
    · rw [if_pos c]
    · rw [c]; exact ⟨_, rfl, _, rfl⟩)
  unfold sB
  generalize lsB = Bd at *
  rcases g with ⟨j, _, a, b, c, e⟩ | ⟨a, ρ', e, o, rfl⟩
  · rw [ex_seq_ret (f.trans e)]
    have : ((List.range xs.length).any fun i => kAb (nth xs i).k && decide (0 < ns.getD i 0)) = true := by
      rw [List.any_eq_true]
      exact ⟨j, by simp; omega, b⟩
    rw [this]; rfl
  · rw [ex_seq (f.trans e)]
    have : ((List.range xs.length).any fun i => kAb (nth xs i).k && decide (0 < ns.getD i 0)) = false := by
      rw [List.any_eq_false]
      intro i hi
      rw [a i (by omega) (by have : i < xs.length := by simpa using hi
                             omega)]
      simp
    rw [this]; rfl
end
/-! totals -/
theorem bump {W a : Nat} {f : Nat → Int} {m : Int} : (rowL W f).set a (.int (f a + m)) = rowL W fun j => f j + b2 (j == a) * m := by
  unfold rowL
  refine List.ext_getElem? fun i => ?_
  by_cases c : a = i
  · subst c
    by_cases d : a < W
    · rw [List.getElem?_set_self (by simpa using d), List.getElem?_map, List.getElem?_range d]; simp [b2]
    · rw [List.getElem?_eq_none (by simp; omega), List.getElem?_eq_none (by simp; omega)]
  · rw [List.getElem?_set_ne c, List.getElem?_map, List.getElem?_map]
    by_cases d : i < W
    · rw [List.getElem?_range d]
      have : b2 (i == a) = 0 := by rw [beq_eq_false_iff_ne.2 (by omega)]; rfl
      simp [this]
    · rw [List.getElem?_eq_none (by simp; omega)]; rfl
def ltS1 (o : Bo) : S := (.set 3 (.var 8) (.bin o (.bor (.ix (.var 3) (.var 8))) (.ix (.var 2) (.var 4))))
def ltF (o : Bo) (v : Nat) : S := (.for (.nm 8) (.seq (.tup (.cons (.ix (.var v) (.lit (.int 0))) (.cons (.bin .add (.ix (.var 0) (.lit (.int 0))) (.ix (.var v) (.lit (.int 1)))) .nil)))) (ltS1 o))
def ltB : S := (.seq (.asg (.tp (.cons (.nm 5) (.cons (.nm 6) (.cons (.nm 7) .nil)))) (.ix (.var 1) (.var 4))) (.seq (ltF .add 5) (ltF .sub 7)))
def ltZ : Ex := (.bin .mul (.lst (.cons (.lit (.int 0)) .nil)) (.bin .add (.ix (.var 0) (.lit (.int 0))) (.ix (.var 0) (.lit (.int 1)))))
theorem lt_is : p__law_total = (.seq (.own 3 ltZ) (.seq (.for (.nm 4) (.rng (.blt .len (.cons (.var 1) .nil))) ltB) (.frz [3] (.ret (.var 3))))) := rfl
section
variable {cal : Str → List D → R D} {sb : Str → Str → Bool} {w : Nat} {x0 x1 x5 x6 x7 : Option Sl}
theorem lt_set {o : Bo} {M F : List D} {i a : Nat} {v m u : Int} (ho : boS o (.int v) (.int m) = some (.int u)) (h1 : atX F (a : Int) = some (.int v)) (h2 : atX M (i : Int) = some (.int m)) (h3 : a < F.length) : exec cal sb w (ltS1 o) [x0, x1, some (.dat (.tuple M)), some (.own F), some (.dat (.int (i : Int))), x5, x6, x7, some (.dat (.int (a : Int)))] = .nxt [x0, x1, some (.dat (.tuple M)), some (.own (F.set a (.int u))), some (.dat (.int (i : Int))), x5, x6, x7, some (.dat (.int (a : Int)))] := by
  have ix : ixX F.length (a : Int) = some a := by unfold ixX; rw [if_pos (by omega), if_pos (by omega)]; simp
  simp [ltS1, exec, ev, frzAll, frzS, ixS, h1, h2, scalar, ho, R.out, ix]
/-- both lines of a cell -/
theorem lt_two {o : Bo} {sg : Int} (ho : ∀ v m : Int, boS o (.int v) (.int m) = some (.int (v + sg * m))) {r c W : Nat} {M : List D} {i : Nat} {m : Int} {f : Nat → Int} {p : Nat × Nat} {v : Nat} (hW : W = r + c) (hp1 : p.1 < r) (hp2 : p.2 < c) (h2 : atX M (i : Int) = some (.int m)) {o8 : Option Sl} {y5 y6 y7 : D} (hv : (v = 5 ∧ y5 = celD p) ∨ (v = 7 ∧ y7 = celD p)) :
    ∃ o8', exec cal sb w (ltF o v) [some (.dat (sz r c)), x1, some (.dat (.tuple M)), some (.own (rowL W f)), some (.dat (.int (i : Int))), some (.dat y5), some (.dat y6), some (.dat y7), o8] = .nxt [some (.dat (sz r c)), x1, some (.dat (.tuple M)), some (.own (rowL W fun j => (f j + b2 (j == p.1) * (sg * m)) + b2 (j == r + p.2) * (sg * m))), some (.dat (.int (i : Int))), some (.dat y5), some (.dat y6), some (.dat y7), o8'] := by
  have l2 : ∀ a b : D, mkT [a, b] = some (.tuple [a, b]) := fun a b => mkT_of (le_lim (by simp))
  have i1 : evi cal (.seq (.tup (.cons (.ix (.var v) (.lit (.int 0))) (.cons (.bin .add (.ix (.var 0) (.lit (.int 0))) (.ix (.var v) (.lit (.int 1)))) .nil)))) [some (.dat (sz r c)), x1, some (.dat (.tuple M)), some (.own (rowL W f)), some (.dat (.int (i : Int))), some (.dat y5), some (.dat y6), some (.dat y7), o8] = .val [.int (p.1 : Int), .int ((r + p.2 : Nat) : Int)] := by
    generalize rowL W f = F
    rcases hv with ⟨rfl, rfl⟩ | ⟨rfl, rfl⟩ <;> simp [evi, ev, evs, sz, celD, cel, ixS, at0, at1, boS, addS, l2, seqS]
  have f1 := ex_for (s := sb) (w := w) (b := ltS1 o) (t := .nm 8) i1
  refine ⟨some (.dat (.int ((r + p.2 : Nat) : Int))), ?_⟩
  show exec cal sb w (.for _ _ _) _ = _
  rw [f1]
  have t1 := lt_set (cal := cal) (sb := sb) (w := w) (x0 := some (.dat (sz r c))) (x1 := x1) (x5 := some (.dat y5)) (x6 := some (.dat y6)) (x7 := some (.dat y7)) (F := rowL W f) (a := p.1) (ho (f p.1) m) (rowL_at (by omega)) h2 (by rw [rowL_len]; omega)
  have t2 := lt_set (cal := cal) (sb := sb) (w := w) (x0 := some (.dat (sz r c))) (x1 := x1) (x5 := some (.dat y5)) (x6 := some (.dat y6)) (x7 := some (.dat y7)) (F := rowL W fun j => f j + b2 (j == p.1) * (sg * m)) (a := r + p.2) (ho (f (r + p.2) + b2 (r + p.2 == p.1) * (sg * m)) m) (rowL_at (by omega)) h2 (by rw [rowL_len]; omega)
  rw [bump] at t1
  rw [bump (f := fun j => f j + b2 (j == p.1) * (sg * m))] at t2
  have s1 : forStep cal sb w (.nm 8) (ltS1 o) (.int (p.1 : Int)) [some (.dat (sz r c)), x1, some (.dat (.tuple M)), some (.own (rowL W f)), some (.dat (.int (i : Int))), some (.dat y5), some (.dat y6), some (.dat y7), o8] = .nxt [some (.dat (sz r c)), x1, some (.dat (.tuple M)), some (.own (rowL W fun j => f j + b2 (j == p.1) * (sg * m))), some (.dat (.int (i : Int))), some (.dat y5), some (.dat y6), some (.dat y7), some (.dat (.int (p.1 : Int)))] := by
    rw [fs_nm (by simp)]; exact t1
  have s2 : forStep cal sb w (.nm 8) (ltS1 o) (.int ((r + p.2 : Nat) : Int)) [some (.dat (sz r c)), x1, some (.dat (.tuple M)), some (.own (rowL W fun j => f j + b2 (j == p.1) * (sg * m))), some (.dat (.int (i : Int))), some (.dat y5), some (.dat y6), some (.dat y7), some (.dat (.int (p.1 : Int)))] = .nxt [some (.dat (sz r c)), x1, some (.dat (.tuple M)), some (.own (rowL W fun j => (f j + b2 (j == p.1) * (sg * m)) + b2 (j == r + p.2) * (sg * m))), some (.dat (.int (i : Int))), some (.dat y5), some (.dat y6), some (.dat y7), some (.dat (.int ((r + p.2 : Nat) : Int)))] := by
    rw [fs_nm (by simp)]; exact t2
  simp only [forF, s1, s2]
theorem b2_dfc {r c : Nat} {p q : Nat × Nat} {j : Nat} (hp : p.1 < r) (hq : q.1 < r) (f m : Int) : ((f + b2 (j == p.1) * (1 * m)) + b2 (j == r + p.2) * (1 * m) + b2 (j == q.1) * (-1 * m)) + b2 (j == r + q.2) * (-1 * m) = f + m * dfc r p q j := by
  unfold dfc
  by_cases c : j < r
  · rw [if_pos c]
    have a1 : (j == r + p.2) = false := by rw [beq_eq_false_iff_ne]; omega
    have a2 : (j == r + q.2) = false := by rw [beq_eq_false_iff_ne]; omega
    rw [a1, a2]
    have : b2 false = 0 := rfl
    rw [this]; grind
  · rw [if_neg c]
    have a1 : (j == p.1) = false := by rw [beq_eq_false_iff_ne]; omega
    have a2 : (j == q.1) = false := by rw [beq_eq_false_iff_ne]; omega
    have e1 : (j == r + p.2) = (j - r == p.2) := by
      by_cases z : j = r + p.2
      · subst z; simp
      · rw [beq_eq_false_iff_ne.2 z, beq_eq_false_iff_ne.2 (by omega)]
    have e2 : (j == r + q.2) = (j - r == q.2) := by
      by_cases z : j = r + q.2
      · subst z; simp
      · rw [beq_eq_false_iff_ne.2 z, beq_eq_false_iff_ne.2 (by omega)]
    rw [a1, a2, e1, e2]
    have : b2 false = 0 := rfl
    rw [this]; grind
theorem lt_turn {r c W : Nat} {X M : List D} {i : Nat} {m : Int} {f : Nat → Int} {x : C3} (hW : W = r + c) (hx : okC r c x) (h1 : atX X (i : Int) = some (cmpD x)) (h2 : atX M (i : Int) = some (.int m)) {o5 o6 o7 o8 : Option Sl} :
    ∃ o5' o6' o7' o8', exec cal sb w ltB [some (.dat (sz r c)), some (.dat (.tuple X)), some (.dat (.tuple M)), some (.own (rowL W f)), some (.dat (.int (i : Int))), o5, o6, o7, o8] = .nxt [some (.dat (sz r c)), some (.dat (.tuple X)), some (.dat (.tuple M)), some (.own (rowL W fun j => f j + m * dfc r x.a x.b j)), some (.dat (.int (i : Int))), o5', o6', o7', o8'] := by
  have s1 : exec cal sb w (.asg (.tp (.cons (.nm 5) (.cons (.nm 6) (.cons (.nm 7) .nil)))) (.ix (.var 1) (.var 4))) [some (.dat (sz r c)), some (.dat (.tuple X)), some (.dat (.tuple M)), some (.own (rowL W f)), some (.dat (.int (i : Int))), o5, o6, o7, o8] = .nxt [some (.dat (sz r c)), some (.dat (.tuple X)), some (.dat (.tuple M)), some (.own (rowL W f)), some (.dat (.int (i : Int))), some (.dat (celD x.a)), some (.dat (.str x.k.s)), some (.dat (celD x.b)), o8] := by
    unfold cmpD at h1
    generalize sz r c = s
    generalize rowL W f = F
    generalize celD x.a = ca at *
    generalize celD x.b = cb at *
    generalize x.k.s = ks at *
    simp [eqS_ii, eqS_ss, exec, ev, evs, evo, evt, evi, startX, coS, coB, ltS, leS, gtS, geS, isS, isNone, bfS, tyS, ixS, boS, addS, subS, mulS, modS, fdivS, powS, negS, truth, truR, O.res, asgT, asgTs, mkT, mkL, optI, slS, frzAt, frzS, R.out, seqS, h1]
  obtain ⟨h3, h4, h5, h6, _⟩ := hx
  obtain ⟨o8', t1⟩ := lt_two (cal := cal) (sb := sb) (w := w) (x1 := some (.dat (.tuple X))) (o := .add) (sg := 1) (fun v m => by simp [boS, addS]) (f := f) (p := x.a) (v := 5) (o8 := o8) (y5 := celD x.a) (y6 := .str x.k.s) (y7 := celD x.b) hW h3 h4 h2 (.inl ⟨rfl, rfl⟩)
  obtain ⟨o8'', t2⟩ := lt_two (cal := cal) (sb := sb) (w := w) (x1 := some (.dat (.tuple X))) (o := .sub) (sg := -1) (fun v m => by simp [boS, subS]; omega) (f := fun j => (f j + b2 (j == x.a.1) * (1 * m)) + b2 (j == r + x.a.2) * (1 * m)) (p := x.b) (v := 7) (o8 := o8') (y5 := celD x.a) (y6 := .str x.k.s) (y7 := celD x.b) hW h5 h6 h2 (.inr ⟨rfl, rfl⟩)
  refine ⟨some (.dat (celD x.a)), some (.dat (.str x.k.s)), some (.dat (celD x.b)), o8'', ?_⟩
  unfold ltB
  rw [ex_seq s1, ex_seq t1, t2]
  have : (rowL W fun j => (f j + b2 (j == x.a.1) * (1 * m)) + b2 (j == r + x.a.2) * (1 * m) + b2 (j == x.b.1) * (-1 * m) + b2 (j == r + x.b.2) * (-1 * m)) = rowL W fun j => f j + m * dfc r x.a x.b j := rowL_congr fun j hj => b2_dfc (c := c) h3 h5 (f j) m
  rw [this]
theorem ltZ_ev {r c : Nat} (hr : r ≤ 4) (hc : c ≤ 4) {ρ : Rho} (h0 : ρ[0]? = some (some (.dat (sz r c)))) : ev cal ltZ ρ = .val (.list (rowL (r + c) fun _ => 0)) := by
  rw [← rep0]
  have e : ev cal (.lst (.cons (.lit (.int 0)) .nil)) ρ = .val (.list [.int 0]) := by
    simp only [ev, evs, R.bnd_val]; rw [mkL_of (le_lim (by simp))]; rfl
  have e2 : ev cal (.bin .add (.ix (.var 0) (.lit (.int 0))) (.ix (.var 0) (.lit (.int 1)))) ρ = .val (.int ((r + c : Nat) : Int)) := by
    simp [ev, h0, sz, ixS, at0, at1, boS, addS]
  have : mulS (.list [.int 0]) (.int ((r + c : Nat) : Int)) = some (.list (repX [PyData.int 0] ((r + c : Nat) : Int))) := by
    simp only [mulS]; rw [if_pos (by simp; omega)]
  unfold ltZ
  rw [ev, e, R.bnd_val, e2, R.bnd_val]
  simp only [boS]
  rw [this]; rfl
end
def totP (r : Nat) (xs : List C3) (ms : List Int) (i j : Nat) : Int := Sx.sm i fun a => ms.getD a 0 * dfc r (nth xs a).a (nth xs a).b j
section
variable {tbl : Str → Option Df} (h : Std tbl) {k : Nat}
include h
theorem law_total {r c : Nat} (hr : r ≤ 4) (hc : c ≤ 4) {xs : List C3} {ns : List Int} (hok : ∀ x ∈ xs, okC r c x) (hx : xs.length ≤ 100) (hl : ns.length = xs.length) : call sub wf tbl (k + 1) "_law_total" [sz r c, .tuple (xs.map cmpD), .tuple (intz ns)] = .val (.list (rowL (r + c) (tot r xs ns))) := by
  rw [call_eq h.t__law_total rfl, lt_is]
  generalize call sub wf tbl k = cal
  have s0 : startX 9 [sz r c, PyData.tuple (xs.map cmpD), .tuple (intz ns)] = [some (.dat (sz r c)), some (.dat (.tuple (xs.map cmpD))), some (.dat (.tuple (intz ns))), none, none, none, none, none, none] := rfl
  rw [s0]
  have z := ltZ_ev (cal := cal) hr hc (ρ := [some (.dat (sz r c)), some (.dat (.tuple (xs.map cmpD))), some (.dat (.tuple (intz ns))), none, none, none, none, none, none]) rfl
  rw [ex_seq (ex_own z (by simp))]
  have s1 : ([some (.dat (sz r c)), some (.dat (.tuple (xs.map cmpD))), some (.dat (.tuple (intz ns))), none, none, none, none, none, none] : Rho).set 3 (some (.own (rowL (r + c) fun _ => 0))) = [some (.dat (sz r c)), some (.dat (.tuple (xs.map cmpD))), some (.dat (.tuple (intz ns))), some (.own (rowL (r + c) (totP r xs ns 0))), none, none, none, none, none] := rfl
  rw [s1]
  have i1 : evi cal (.rng (.blt .len (.cons (.var 1) .nil))) [some (.dat (sz r c)), some (.dat (.tuple (xs.map cmpD))), some (.dat (.tuple (intz ns))), some (.own (rowL (r + c) (totP r xs ns 0))), none, none, none, none, none] = .val (rngX 0 xs.length) := evi_rng (by
    have hxl : (xs.map cmpD).length = xs.length := by simp
    generalize xs.map cmpD = X at *
    generalize intz ns = U
    generalize rowL (r + c) (totP r xs ns 0) = F
    simp [eqS_ii, eqS_ss, exec, ev, evs, evo, evt, evi, startX, coS, coB, ltS, leS, gtS, geS, isS, isNone, bfS, tyS, ixS, boS, addS, subS, mulS, modS, fdivS, powS, negS, truth, truR, O.res, asgT, asgTs, mkT, mkL, optI, slS, frzAt, frzS, R.out, seqS, hxl]) (by omega)
  have f := ex_for (s := sub) (w := wf) (b := ltB) (t := .nm 4) i1
  have g := forF_inv (step := forStep cal sub wf (.nm 4) ltB) (xs := rngX 0 xs.length) (fun i ρ => ∃ o4 o5 o6 o7 o8, ρ = [some (.dat (sz r c)), some (.dat (.tuple (xs.map cmpD))), some (.dat (.tuple (intz ns))), some (.own (rowL (r + c) (totP r xs ns i))), o4, o5, o6, o7, o8]) (ρ := [some (.dat (sz r c)), some (.dat (.tuple (xs.map cmpD))), some (.dat (.tuple (intz ns))), some (.own (rowL (r + c) (totP r xs ns 0))), none, none, none, none, none]) ⟨_, _, _, _, _, rfl⟩ (by
    intro i x ρ hx' I
    obtain ⟨o4, o5, o6, o7, o8, rfl⟩ := I
    have hi : i < xs.length := by
      have := (List.getElem?_eq_some_iff.mp hx').1
      simpa [rngX] using this
    have ex : x = .int (i : Int) := by
      simp [rngX, List.getElem?_range hi] at hx'
      exact hx'.symm
    subst ex
    have fs : forStep cal sub wf (.nm 4) ltB (.int (i : Int)) [some (.dat (sz r c)), some (.dat (.tuple (xs.map cmpD))), some (.dat (.tuple (intz ns))), some (.own (rowL (r + c) (totP r xs ns i))), o4, o5, o6, o7, o8] = exec cal sub wf ltB [some (.dat (sz r c)), some (.dat (.tuple (xs.map cmpD))), some (.dat (.tuple (intz ns))), some (.own (rowL (r + c) (totP r xs ns i))), some (.dat (.int (i : Int))), o5, o6, o7, o8] := fs_nm (by simp)
    rw [fs]
    obtain ⟨o5', o6', o7', o8', e⟩ := lt_turn (cal := cal) (sb := sub) (w := wf) (f := totP r xs ns i) (m := ns.getD i 0) (x := nth xs i) (o5 := o5) (o6 := o6) (o7 := o7) (o8 := o8) rfl (hok _ (nth_mem hi)) (cmps_at hi d3) (atI (us := ns) (by omega))
    exact ⟨_, e, _, _, _, _, _, rfl⟩)
  generalize ltB = Bd at *
  obtain ⟨ρ', e, o4, o5, o6, o7, o8, rfl⟩ := g
  rw [ex_seq (f.trans e)]
  have ln : (rngX 0 xs.length).length = xs.length := by simp [rngX]
  rw [ln]
  have : totP r xs ns xs.length = tot r xs ns := rfl
  rw [this]
  generalize rowL (r + c) (tot r xs ns) = F
  generalize xs.map cmpD = X
  generalize intz ns = U
  simp [eqS_ii, eqS_ss, exec, ev, evs, evo, evt, evi, startX, coS, coB, ltS, leS, gtS, geS, isS, isNone, bfS, tyS, ixS, boS, addS, subS, mulS, modS, fdivS, powS, negS, truth, truR, O.res, asgT, asgTs, mkT, mkL, optI, slS, frzAt, frzS, R.out, seqS]
end
end Pg

set_option linter.all false
set_option maxRecDepth 100000
set_option maxHeartbeats 4000000
namespace Pg
open PySem hiding call exec
open Mp
/-! total_difference, is_cancelling, by the program and by the law -/
def tdE : Ex := (.lc (.tp (.cons (.nm 8) (.cons (.nm 9) .nil))) (.zip (.var 3) (.call "difference" (.cons (.var 0) (.cons (.var 4) (.cons (.var 6) .nil))))) .non (.bin .add (.var 8) (.bin .mul (.var 7) (.var 9))) [8, 9])
def tdT : Tg := (.tp (.cons (.tp (.cons (.nm 4) (.cons (.nm 5) (.cons (.nm 6) .nil)))) (.cons (.nm 7) .nil)))
theorem td_is : p_total_difference = (.seq (.asg (.nm 3) ltZ) (.seq (.for tdT (.zip (.var 1) (.var 2)) (.asg (.nm 3) tdE)) (.ret (.var 3)))) := rfl
theorem mulOk_r {x y : Int} (h : -(2 ^ 64) < y ∧ y < 2 ^ 64) : mulOk x y = true := by
  unfold mulOk
  have : decide ((-(2 ^ 64) < x ∧ x < 2 ^ 64) ∨ (-(2 ^ 64) < y ∧ y < 2 ^ 64)) = true := decide_eq_true (.inr h)
  rw [this]; rfl
theorem dfc_small (r : Nat) (p q : Nat × Nat) (j : Nat) : -(2 ^ 64) < dfc r p q j ∧ dfc r p q j < 2 ^ 64 := by
  have e2 : (2 : Int) ^ 64 = 18446744073709551616 := by decide
  rw [e2]
  unfold dfc
  split
  · rcases b2_abs (j == p.1) with e | e <;> rcases b2_abs (j == q.1) with f | f <;> rw [e, f] <;> omega
  · rcases b2_abs (j - r == p.2) with e | e <;> rcases b2_abs (j - r == q.2) with f | f <;> rw [e, f] <;> omega
section
variable {cal : Str → List D → R D} {sb : Str → Str → Bool} {w : Nat}
theorem tdEv {x1 x2 x5 : Option Sl} {s ca cb : D} {W : Nat} {f g : Nat → Int} {m : Int} (hW : W ≤ 100) (hd : cal "difference" [s, ca, cb] = .val (.list (rowL W g))) (hm : ∀ j, j < W → mulOk m (g j) = true) : ev cal tdE [some (.dat s), x1, x2, some (.dat (.list (rowL W f))), some (.dat ca), x5, some (.dat cb), some (.dat (.int m)), none, none] = .val (.list (rowL W fun j => f j + m * g j)) := by
  have i1 : evi cal (.zip (.var 3) (.call "difference" (.cons (.var 0) (.cons (.var 4) (.cons (.var 6) .nil))))) [some (.dat s), x1, x2, some (.dat (.list (rowL W f))), some (.dat ca), x5, some (.dat cb), some (.dat (.int m)), none, none] = .val ((List.range W).map fun (j : Nat) => PyData.tuple [.int (f j), .int (g j)]) := by
    rw [← pairs_row]
    show _ = R.val (pairsX (rowL W f) (rowL W g))
    generalize rowL W f = a at *
    generalize rowL W g = b at *
    simp [evi, ev, evs, hd, zipS]
  refine ev_lcS i1 ?_ (le_lim (by rw [rowL_len]; omega))
  refine lc_idx fun j hj => ?_
  simp only []
  have a1 := hm j (by simpa using hj)
  generalize rowL W f = A at *
  generalize f j = F at *
  generalize g j = G at *
  simp [lcS, eqS_ii, eqS_ss, exec, ev, evs, evo, evt, evi, startX, coS, coB, ltS, leS, gtS, geS, isS, isNone, bfS, tyS, ixS, boS, addS, subS, mulS, modS, fdivS, powS, negS, truth, truR, O.res, asgT, asgTs, mkT, mkL, optI, slS, frzAt, frzS, R.out, seqS, wipeX, a1]
end
section
variable {tbl : Str → Option Df} (h : Std tbl) {k : Nat}
include h
theorem total_difference {r c : Nat} (hr : r ≤ 4) (hc : c ≤ 4) {xs : List C3} {ns : List Int} (hok : ∀ x ∈ xs, okC r c x) (hx : xs.length ≤ 100) (hl : ns.length = xs.length) : call sub wf tbl (k + 2) "total_difference" [sz r c, .tuple (xs.map cmpD), .tuple (intz ns)] = .val (.list (rowL (r + c) (tot r xs ns))) := by
  rw [call_eq h.t_total_difference rfl, td_is]
  have hdf := fun p q => difference h (k := k) hr hc p q
  generalize call sub wf tbl (k + 1) = cal at *
  have s0 : startX 10 [sz r c, PyData.tuple (xs.map cmpD), .tuple (intz ns)] = [some (.dat (sz r c)), some (.dat (.tuple (xs.map cmpD))), some (.dat (.tuple (intz ns))), none, none, none, none, none, none, none] := rfl
  rw [s0]
  have z := ltZ_ev (cal := cal) hr hc (ρ := [some (.dat (sz r c)), some (.dat (.tuple (xs.map cmpD))), some (.dat (.tuple (intz ns))), none, none, none, none, none, none, none]) rfl
  rw [ex_seq (ex_asg z (by simp))]
  have s1 : ([some (.dat (sz r c)), some (.dat (.tuple (xs.map cmpD))), some (.dat (.tuple (intz ns))), none, none, none, none, none, none, none] : Rho).set 3 (some (.dat (.list (rowL (r + c) fun _ => 0)))) = [some (.dat (sz r c)), some (.dat (.tuple (xs.map cmpD))), some (.dat (.tuple (intz ns))), some (.dat (.list (rowL (r + c) (totP r xs ns 0)))), none, none, none, none, none, none] := rfl
  rw [s1]
  have i1 : evi cal (.zip (.var 1) (.var 2)) [some (.dat (sz r c)), some (.dat (.tuple (xs.map cmpD))), some (.dat (.tuple (intz ns))), some (.dat (.list (rowL (r + c) (totP r xs ns 0)))), none, none, none, none, none, none] = .val ((List.range xs.length).map fun i => PyData.tuple [cmpD (nth xs i), .int (ns.getD i 0)]) := by
    rw [← pairs_range hl]
    generalize rowL (r + c) (totP r xs ns 0) = F
    generalize xs.map cmpD = X
    generalize intz ns = U
    simp [eqS_ii, eqS_ss, exec, ev, evs, evo, evt, evi, startX, coS, coB, ltS, leS, gtS, geS, isS, isNone, bfS, tyS, ixS, boS, addS, subS, mulS, modS, fdivS, powS, negS, truth, truR, O.res, asgT, asgTs, mkT, mkL, optI, slS, frzAt, frzS, R.out, seqS, zipS]
  have f := ex_for (s := sub) (w := wf) (b := .asg (.nm 3) tdE) (t := tdT) i1
  have g := forF_inv (step := forStep cal sub wf tdT (.asg (.nm 3) tdE)) (xs := (List.range xs.length).map fun i => PyData.tuple [cmpD (nth xs i), .int (ns.getD i 0)]) (fun i ρ => ∃ o4 o5 o6 o7, ρ = [some (.dat (sz r c)), some (.dat (.tuple (xs.map cmpD))), some (.dat (.tuple (intz ns))), some (.dat (.list (rowL (r + c) (totP r xs ns i)))), o4, o5, o6, o7, none, none]) (ρ := [some (.dat (sz r c)), some (.dat (.tuple (xs.map cmpD))), some (.dat (.tuple (intz ns))), some (.dat (.list (rowL (r + c) (totP r xs ns 0)))), none, none, none, none, none, none]) ⟨_, _, _, _, rfl⟩ (by
    intro i x ρ hx' I
    obtain ⟨o4, o5, o6, o7, rfl⟩ := I
    have hi : i < xs.length := by
      have := (List.getElem?_eq_some_iff.mp hx').1
      simpa using this
    have ex : x = PyData.tuple [cmpD (nth xs i), .int (ns.getD i 0)] := by
      rw [List.getElem?_map, List.getElem?_range hi] at hx'
      exact (Option.some.inj hx').symm
    subst ex
    have e := tdEv (cal := cal) (x1 := some (.dat (.tuple (xs.map cmpD)))) (x2 := some (.dat (.tuple (intz ns)))) (x5 := some (.dat (.str (nth xs i).k.s))) (s := sz r c) (f := totP r xs ns i) (m := ns.getD i 0) (by omega) (hdf (nth xs i).a (nth xs i).b) (fun j _ => mulOk_r (dfc_small _ _ _ _))
    refine ⟨[some (.dat (sz r c)), some (.dat (.tuple (xs.map cmpD))), some (.dat (.tuple (intz ns))), some (.dat (.list (rowL (r + c) (totP r xs ns (i + 1))))), some (.dat (celD (nth xs i).a)), some (.dat (.str (nth xs i).k.s)), some (.dat (celD (nth xs i).b)), some (.dat (.int (ns.getD i 0))), none, none], ?_, _, _, _, _, rfl⟩
    have as : asgT tdT (PyData.tuple [cmpD (nth xs i), .int (ns.getD i 0)]) [some (.dat (sz r c)), some (.dat (.tuple (xs.map cmpD))), some (.dat (.tuple (intz ns))), some (.dat (.list (rowL (r + c) (totP r xs ns i)))), o4, o5, o6, o7, none, none] = some [some (.dat (sz r c)), some (.dat (.tuple (xs.map cmpD))), some (.dat (.tuple (intz ns))), some (.dat (.list (rowL (r + c) (totP r xs ns i)))), some (.dat (celD (nth xs i).a)), some (.dat (.str (nth xs i).k.s)), some (.dat (celD (nth xs i).b)), some (.dat (.int (ns.getD i 0))), none, none] := by
      unfold cmpD tdT
      generalize sz r c = s
      generalize rowL (r + c) (totP r xs ns i) = F
      simp [asgT, asgTs]
    simp only [forStep, as]
    rw [ex_asg e (by simp)]
    rfl)
  generalize tdE = Bd at *
  obtain ⟨ρ', e, o4, o5, o6, o7, rfl⟩ := g
  rw [ex_seq (f.trans e)]
  have ln : ((List.range xs.length).map fun i => PyData.tuple [cmpD (nth xs i), .int (ns.getD i 0)]).length = xs.length := by simp
  rw [ln]
  have : totP r xs ns xs.length = tot r xs ns := rfl
  rw [this, ex_ret (ev_var rfl)]
  rfl
end
/-- two rows are equal -/
theorem lay_intz : ∀ l : List Int, PyData.canLayAll0 (intz l) = true
  | [] => rfl
  | x :: l => by
    have := lay_intz l
    simp only [intz, List.map_cons, PyData.canLayAll0, PyData.canLay0] at this ⊢
    rw [this]; rfl
theorem dep_intz : ∀ l : List Int, PyData.depthAll (intz l) ≤ 60
  | [] => by simp [PyData.depthAll]
  | x :: l => by
    have b := dep_intz l
    simp only [intz, List.map_cons, PyData.depthAll, PyData.depth] at b ⊢
    omega
theorem shp_list (l : List Int) : SeqAt.shaped (.list (intz l)) = true := by
  have a := lay_intz l
  have b := dep_intz l
  unfold SeqAt.shaped
  rw [Bool.and_eq_true]
  refine ⟨by simpa only [PyData.canLay0] using a, decide_eq_true ?_⟩
  simp only [PyData.depth]
  omega
theorem eqv_row : ∀ (l : List Nat) (f g : Nat → Int), PyData.eqvAll (l.map fun (j : Nat) => PyData.int (f j)) (l.map fun (j : Nat) => PyData.int (g j)) = l.all fun j => f j == g j
  | [], _, _ => by simp [PyData.eqvAll]
  | a :: l, f, g => by
    simp only [List.map_cons, PyData.eqvAll, PyData.eqv, List.all_cons, eqv_row l f g]
theorem eq_rows (W : Nat) (f g : Nat → Int) : eqS (.list (rowL W f)) (.list (rowL W g)) = some ((List.range W).all fun j => f j == g j) := by
  have s1 : SeqAt.shaped (.list (rowL W f)) = true := by rw [rowL_intz]; exact shp_list _
  have s2 : SeqAt.shaped (.list (rowL W g)) = true := by rw [rowL_intz]; exact shp_list _
  have : eqS (.list (rowL W f)) (.list (rowL W g)) = if SeqAt.shaped (.list (rowL W f)) && SeqAt.shaped (.list (rowL W g)) then some (PyData.eqv (.list (rowL W f)) (.list (rowL W g))) else none := rfl
  rw [this, s1, s2, ← eqv_row]
  simp only [PyData.eqv]
  rfl
def zB (r c : Nat) (xs : List C3) (ns : List Int) : Bool := (List.range (r + c)).all fun j => tot r xs ns j == 0
/-- whether multipliers are a cancelling list -/
def cB (r c : Nat) (xs : List C3) (ns : List Int) : Bool := mB xs (intz ns) && (sB xs ns && zB r c xs ns)
theorem okAt_int {x : C3} {v : Int} : okAt x (.int v) = true ↔ (kEq x.k = false → 0 ≤ v) := by
  unfold okAt
  cases kEq x.k <;> simp
theorem intz_getD {ns : List Int} {i : Nat} (hi : i < ns.length) : (intz ns).getD i .none = .int (ns.getD i 0) := by
  rw [List.getD_eq_getElem?_getD, List.getD_eq_getElem?_getD, List.getElem?_map, List.getElem?_eq_getElem hi]; rfl
theorem mB_iff {xs : List C3} {ns : List Int} (hl : ns.length = xs.length) : mB xs (intz ns) = true ↔ Muls xs ns := by
  rw [mB_range (by simp [intz]; exact hl), List.all_eq_true]
  unfold Muls
  constructor
  · intro h
    refine ⟨hl, fun i hi hq => ?_⟩
    have := h i (by simpa using hi)
    rw [intz_getD (by omega)] at this
    exact okAt_int.1 this hq
  · intro h i hi
    have hi' : i < xs.length := by simpa using hi
    rw [intz_getD (by omega)]
    exact okAt_int.2 (h.2 i hi')
theorem sB_iff {xs : List C3} {ns : List Int} : sB xs ns = true ↔ Strict xs ns := by
  unfold sB Strict
  rw [List.any_eq_true]
  constructor
  · rintro ⟨i, hi, h⟩
    rw [Bool.and_eq_true] at h
    exact ⟨i, by simpa using hi, h.1, of_decide_eq_true h.2⟩
  · rintro ⟨i, hi, h1, h2⟩
    exact ⟨i, by simpa using hi, by rw [h1, decide_eq_true h2]; rfl⟩
theorem zB_iff {r c : Nat} {xs : List C3} {ns : List Int} : zB r c xs ns = true ↔ ∀ j, j < r + c → tot r xs ns j = 0 := by
  unfold zB
  rw [List.all_eq_true]
  constructor
  · intro h j hj
    exact eq_of_beq (h j (by simpa using hj))
  · intro h j hj
    rw [h j (by simpa using hj)]; rfl
theorem cB_iff {r c : Nat} {xs : List C3} {ns : List Int} (hl : ns.length = xs.length) : cB r c xs ns = true ↔ Canc r c xs ns := by
  unfold cB
  rw [Bool.and_eq_true, Bool.and_eq_true, mB_iff hl, sB_iff, zB_iff]
  exact ⟨fun h => ⟨h.1, h.2.2, h.2.1⟩, fun h => ⟨h.mul, h.strict, h.tot⟩⟩
def icZ : Ex := (.lc (.nm 3) (.seq (.call "total_difference" (.cons (.var 0) (.cons (.var 1) (.cons (.var 2) .nil))))) (.som (.cmp .ne (.var 3) (.lit (.int 0)))) (.var 3) [3])
theorem ic_is : p_is_cancelling = (.seq (.drop (.call "check_comparisons" (.cons (.var 0) (.cons (.var 1) .nil)))) (.seq (.ite (.not (.call "are_multipliers" (.cons (.var 1) (.cons (.var 2) .nil)))) (.ret (.lit (.bool false))) .skip) (.seq (.ite (.not (icE 3 (.var 2))) (.ret (.lit (.bool false))) .skip) (.ret (.not icZ))))) := rfl
section
variable {cal : Str → List D → R D} {sb : Str → Str → Bool} {w : Nat}
theorem icZev {s X M : D} {W : Nat} {f : Nat → Int} {o4 : Option Sl} (hW : W ≤ 100) (e : cal "total_difference" [s, X, M] = .val (.list (rowL W f))) : ∃ ys, ev cal icZ [some (.dat s), some (.dat X), some (.dat M), none, o4] = .val (.list ys) ∧ ys.isEmpty = (List.range W).all fun j => f j == 0 := by
  have i1 : evi cal (.seq (.call "total_difference" (.cons (.var 0) (.cons (.var 1) (.cons (.var 2) .nil))))) [some (.dat s), some (.dat X), some (.dat M), none, o4] = .val ((List.range W).map fun (j : Nat) => PyData.int (f j)) := by
    show _ = R.val (rowL W f)
    generalize rowL W f = F at *
    simp [evi, ev, evs, e, seqS]
  obtain ⟨ys, e1, e2, e3⟩ := lc_sel (step := lcS cal (.nm 3) (.som (.cmp .ne (.var 3) (.lit (.int 0)))) (.var 3) (wipeX [some (.dat s), some (.dat X), some (.dat M), none, o4] [3])) (p := fun j => f j == 0) (g := fun j => .int (f j)) (f := fun (j : Nat) => PyData.int (f j)) (xs := List.range W) (fun j hj => by
    generalize f j = v
    cases c : v == 0 <;> simp [lcS, eqS_ii, eqS_ss, exec, ev, evs, evo, evt, evi, startX, coS, coB, ltS, leS, gtS, geS, isS, isNone, bfS, tyS, ixS, boS, addS, subS, mulS, modS, fdivS, powS, negS, truth, truR, O.res, asgT, asgTs, mkT, mkL, optI, slS, frzAt, frzS, R.out, seqS, wipeX, c])
  exact ⟨ys, ev_lcS i1 e1 (le_lim (by simp at e2; omega)), e3⟩
/-- the program -/
theorem ic_no {s X v : D} (h1 : cal "check_comparisons" [s, X] = .val .none) (h2 : cal "are_multipliers" [X, v] = .val (.bool false)) : (exec cal sb w p_is_cancelling (startX 5 [s, X, v])).res = .val (.bool false) := by
  rw [ic_is]
  generalize icE 3 (.var 2) = E1
  generalize icZ = E2
  simp [exec, ev, evs, startX, List.replicate, h1, h2, truR, truth, R.out, O.res]
theorem ic_yes {r c : Nat} {xs : List C3} {ns : List Int} (hW : r + c ≤ 100) (hx : xs.length ≤ 100) (hl : ns.length = xs.length) (h1 : cal "check_comparisons" [sz r c, .tuple (xs.map cmpD)] = .val .none) (h2 : cal "are_multipliers" [.tuple (xs.map cmpD), .tuple (intz ns)] = .val (.bool (mB xs (intz ns)))) (h3 : cal "total_difference" [sz r c, .tuple (xs.map cmpD), .tuple (intz ns)] = .val (.list (rowL (r + c) (tot r xs ns)))) : (exec cal sb w p_is_cancelling (startX 5 [sz r c, .tuple (xs.map cmpD), .tuple (intz ns)])).res = .val (.bool (cB r c xs ns)) := by
  cases m : mB xs (intz ns) with
  | false =>
    rw [m] at h2
    rw [ic_no h1 h2]
    unfold cB; rw [m]; rfl
  | true =>
    rw [m] at h2
    have s0 : startX 5 [sz r c, PyData.tuple (xs.map cmpD), .tuple (intz ns)] = [some (.dat (sz r c)), some (.dat (.tuple (xs.map cmpD))), some (.dat (.tuple (intz ns))), none, none] := rfl
    obtain ⟨ys, e1, e2⟩ := icEv (cal := cal) (v := 3) (b := .var 2) (ρ := [some (.dat (sz r c)), some (.dat (.tuple (xs.map cmpD))), some (.dat (.tuple (intz ns))), none, none]) (xs := xs) (ns := ns) (by decide) (by simp) rfl (ev_var rfl) hl hx
    obtain ⟨zs, f1, f2⟩ := icZev (o4 := none) hW h3
    have hz : zs.isEmpty = zB r c xs ns := f2
    rw [ic_is, s0]
    unfold cB
    rw [m, Bool.true_and]
    generalize zB r c xs ns = zb at *
    generalize icE 3 (.var 2) = E1 at *
    generalize icZ = E2 at *
    generalize sz r c = s at *
    generalize xs.map cmpD = X at *
    generalize intz ns = U at *
    generalize sB xs ns = sb' at *
    cases sb' <;> simp [exec, ev, evs, h1, h2, e1, f1, truR, truth, R.out, O.res, e2, hz]
end
section
variable {cal : Str → List D → R D} {sb : Str → Str → Bool} {w : Nat}
theorem lic_no {s X v : D} (h2 : cal "_law_are_multipliers" [X, v] = .val (.bool false)) : (exec cal sb w p__law_is_cancelling (startX 3 [s, X, v])).res = .val (.bool false) := by
  unfold p__law_is_cancelling
  simp [exec, ev, evs, startX, List.replicate, h2, truR, truth, R.out, O.res]
theorem lic_is : p__law_is_cancelling = (.seq (.ite (.or (.not (.call "_law_are_multipliers" (.cons (.var 1) (.cons (.var 2) .nil)))) (.not (.call "_law_strict" (.cons (.var 1) (.cons (.var 2) .nil))))) (.ret (.lit (.bool false))) .skip) (.ret (.cmp .eq (.call "_law_total" (.cons (.var 0) (.cons (.var 1) (.cons (.var 2) .nil)))) ltZ))) := rfl
theorem lic_yes {r c : Nat} {xs : List C3} {ns : List Int} (hr : r ≤ 4) (hc : c ≤ 4) (h2 : cal "_law_are_multipliers" [.tuple (xs.map cmpD), .tuple (intz ns)] = .val (.bool (mB xs (intz ns)))) (h4 : cal "_law_strict" [.tuple (xs.map cmpD), .tuple (intz ns)] = .val (.bool (sB xs ns))) (h3 : cal "_law_total" [sz r c, .tuple (xs.map cmpD), .tuple (intz ns)] = .val (.list (rowL (r + c) (tot r xs ns)))) : (exec cal sb w p__law_is_cancelling (startX 3 [sz r c, .tuple (xs.map cmpD), .tuple (intz ns)])).res = .val (.bool (cB r c xs ns)) := by
  have z := ltZ_ev (cal := cal) hr hc (ρ := [some (.dat (sz r c)), some (.dat (.tuple (xs.map cmpD))), some (.dat (.tuple (intz ns)))]) rfl
  have eq := eq_rows (r + c) (tot r xs ns) (fun _ => 0)
  have hz : ((List.range (r + c)).all fun j => tot r xs ns j == 0) = zB r c xs ns := rfl
  rw [hz] at eq
  unfold cB
  rw [lic_is]
  have s0 : startX 3 [sz r c, PyData.tuple (xs.map cmpD), .tuple (intz ns)] = [some (.dat (sz r c)), some (.dat (.tuple (xs.map cmpD))), some (.dat (.tuple (intz ns)))] := rfl
  rw [s0]
  generalize rowL (r + c) (tot r xs ns) = F1 at *
  generalize (rowL (r + c) fun _ => 0) = F2 at *
  generalize zB r c xs ns = zb at *
  generalize ltZ = E2 at *
  generalize mB xs (intz ns) = mb at *
  generalize sB xs ns = sb' at *
  generalize sz r c = s at *
  generalize xs.map cmpD = X at *
  generalize intz ns = U at *
  cases mb <;> cases sb' <;> simp [exec, ev, evs, h2, h3, h4, z, truR, truth, R.out, O.res, coS, coB, eq]
end
section
variable {tbl : Str → Option Df} (h : Std tbl) {k : Nat}
include h
theorem both_cancelling {r c : Nat} (h1 : 1 ≤ r) (h2 : r ≤ 4) (h3 : 1 ≤ c) (h4 : c ≤ 4) {xs : List C3} (hx : ∀ x ∈ xs, okC r c x) (hl : xs.length ≤ 12) {ns : List Int} (hn : ns.length = xs.length) :
    call sub wf tbl (k + 7) "is_cancelling" [sz r c, .tuple (xs.map cmpD), .tuple (intz ns)] = .val (.bool (cB r c xs ns)) ∧ call sub wf tbl (k + 7) "_law_is_cancelling" [sz r c, .tuple (xs.map cmpD), .tuple (intz ns)] = .val (.bool (cB r c xs ns)) := by
  have ck := check_ok h (k := k) h1 h2 h3 h4 hx hl
  have a1 := are_muls h (k := k + 5) (xs := xs) (ds := intz ns) (by omega) (by simp [intz]; exact hn) (plain_ints ns)
  have a2 := law_muls h (k := k + 5) (xs := xs) (ds := intz ns) (by omega) (by simp [intz]; exact hn) (plain_ints ns)
  have a3 := law_strict h (k := k + 5) (xs := xs) (ns := ns) (by omega) hn
  have a4 := law_total h (k := k + 5) h2 h4 hx (by omega) hn
  have a5 := total_difference h (k := k + 4) h2 h4 hx (by omega) hn
  rw [call_eq h.t_is_cancelling rfl, call_eq h.t__law_is_cancelling rfl]
  exact ⟨ic_yes (by omega) (by omega) hn ck a1 a5, lic_yes h2 h4 a2 a3 a4⟩
theorem both_not {r c : Nat} (h1 : 1 ≤ r) (h2 : r ≤ 4) (h3 : 1 ≤ c) (h4 : c ≤ 4) {xs : List C3} (hx : ∀ x ∈ xs, okC r c x) (hl : xs.length ≤ 12) {v : D} (hv : tyS .tuple v = some (.bool false) ∨ ∃ ds, v = .tuple ds ∧ (¬ ds.length = xs.length ∨ ((∀ d ∈ ds, plain d = true) ∧ ds.all isI = false))) :
    call sub wf tbl (k + 7) "is_cancelling" [sz r c, .tuple (xs.map cmpD), v] = .val (.bool false) ∧ call sub wf tbl (k + 7) "_law_is_cancelling" [sz r c, .tuple (xs.map cmpD), v] = .val (.bool false) := by
  have ck := check_ok h (k := k) h1 h2 h3 h4 hx hl
  have both : call sub wf tbl (k + 6) "are_multipliers" [.tuple (xs.map cmpD), v] = .val (.bool false) ∧ call sub wf tbl (k + 6) "_law_are_multipliers" [.tuple (xs.map cmpD), v] = .val (.bool false) := by
    rcases hv with hv | ⟨ds, rfl, hv⟩
    · exact muls_no h (k := k + 5) (.inl hv)
    · by_cases q : ds.length = xs.length
      · rcases hv with hv | ⟨hp, hv⟩
        · exact absurd q hv
        · have a1 := are_muls h (k := k + 5) (xs := xs) (ds := ds) (by omega) q hp
          have a2 := law_muls h (k := k + 5) (xs := xs) (ds := ds) (by omega) q hp
          rw [mB_isI q hv] at a1 a2
          exact ⟨a1, a2⟩
      · exact muls_no h (k := k + 5) (.inr ⟨ds, rfl, q⟩)
  rw [call_eq h.t_is_cancelling rfl, call_eq h.t__law_is_cancelling rfl]
  exact ⟨ic_no ck both.1, lic_no both.2⟩
end
end Pg

set_option linter.all false
set_option maxRecDepth 100000
set_option maxHeartbeats 4000000
namespace Pg
open PySem hiding call exec
open Mp
theorem shp_vals (us vs : List Int) : SeqAt.shaped (vals us vs) = true := by
  have a1 := lay_intz us
  have b1 := dep_intz us
  have a2 := lay_intz vs
  have b2 := dep_intz vs
  unfold SeqAt.shaped vals
  rw [Bool.and_eq_true]
  refine ⟨?_, decide_eq_true ?_⟩
  · simp only [PyData.canLay0, PyData.canLayAll0, a1, a2, Bool.and_self]
  · simp only [PyData.depth, PyData.depthAll]
    omega
theorem eq_vals_str {us vs : List Int} {t : Str} (ht : SeqAt.shaped (.str t) = true) : eqS (vals us vs) (.str t) = some false := by
  have e : eqS (vals us vs) (.str t) = if SeqAt.shaped (vals us vs) && SeqAt.shaped (.str t) then some (PyData.eqv (vals us vs) (.str t)) else none := rfl
  rw [e, shp_vals, ht]; rfl
theorem shp_tup (l : List Int) : SeqAt.shaped (.tuple (intz l)) = true := by
  have a := lay_intz l
  have b := dep_intz l
  unfold SeqAt.shaped
  rw [Bool.and_eq_true]
  refine ⟨by simpa only [PyData.canLay0] using a, decide_eq_true ?_⟩
  simp only [PyData.depth]
  omega
theorem eq_tup_str {ds : List D} {t : Str} (hs : SeqAt.shaped (.tuple ds) = true) (ht : SeqAt.shaped (.str t) = true) : eqS (.tuple ds) (.str t) = some false := by
  have e : eqS (.tuple ds) (.str t) = if SeqAt.shaped (.tuple ds) && SeqAt.shaped (.str t) then some (PyData.eqv (.tuple ds) (.str t)) else none := rfl
  rw [e, hs, ht]; rfl
theorem eq_bb (a b : Bool) : eqS (.bool a) (.bool b) = some (a == b) := by cases a <;> cases b <;> kernel_rfl
section
variable {tbl : Str → Option Df} (h : Std tbl) {k : Nat}
include h
theorem agree_of {r c : Nat} {xs : List C3} (hx : ∀ x ∈ xs, okC r c x) {us vs : List Int} (hu : us.length = r) (hv : vs.length = c) : call sub wf tbl (k + 7) "_law_agree" [sz r c, .tuple (xs.map cmpD), vals us vs] = .val (.bool (xs.all (hold us vs))) := by
  subst hu hv
  refine law_agree_good h hx ?_
  have := law_are_given_two h (k := k + 5) (r := us.length) (c := vs.length) (plain_ints us) (plain_ints vs)
  have e : avOk us.length vs.length (intz us) (intz vs) = true := by
    unfold avOk
    simp [intz, isI_ints]
    constructor <;> intro x _ <;> rfl
  rw [e] at this
  exact this
end
theorem all_hold {r c : Nat} {xs : List C3} {us vs : List Int} (h : Vals r c xs us vs) : xs.all (hold us vs) = true := List.all_eq_true.2 h.2.2
theorem not_hold {r c : Nat} {xs : List C3} (hx : ∀ x ∈ xs, okC r c x) {ms : List Int} (hc : Canc r c xs ms) {us vs : List Int} (hu : us.length = r) (hv : vs.length = c) : xs.all (hold us vs) = false := by
  cases e : xs.all (hold us vs) with
  | false => rfl
  | true => exact absurd ⟨us, vs, hu, hv, List.all_eq_true.1 e⟩ (never_both hx hc)
end Pg

set_option linter.all false
set_option maxRecDepth 100000
set_option maxHeartbeats 4000000
namespace Pg
open PySem hiding call exec
open Mp
/-! pieces of the laws: changed tuples, mapped tuples -/
theorem cutX_mem {α : Type} {P : List α} {lo hi : Option Int} {x : α} (h : x ∈ cutX P lo hi) : x ∈ P := List.mem_of_mem_drop (List.mem_of_mem_take h)
theorem cutX_len {α : Type} {P : List α} {lo hi : Option Int} : (cutX P lo hi).length ≤ P.length := by
  unfold cutX; rw [List.length_take, List.length_drop]; omega
section
variable {cal : Str → List D → R D} {ρ : Rho}
theorem ev_tup1 {E : Ex} {d : D} (h : ev cal E ρ = .val d) : ev cal (.tup (.cons E .nil)) ρ = .val (.tuple [d]) := by
  simp only [ev, evs, h, R.bnd_val]; rw [mkT_of (le_lim (by simp))]; rfl
theorem ev_tup2 {E F : Ex} {d e : D} (h : ev cal E ρ = .val d) (h2 : ev cal F ρ = .val e) : ev cal (.tup (.cons E (.cons F .nil))) ρ = .val (.tuple [d, e]) := by
  simp only [ev, evs, h, h2, R.bnd_val]; rw [mkT_of (le_lim (by simp))]; rfl
theorem ev_tup3 {E F G : Ex} {d e g : D} (h : ev cal E ρ = .val d) (h2 : ev cal F ρ = .val e) (h3 : ev cal G ρ = .val g) : ev cal (.tup (.cons E (.cons F (.cons G .nil)))) ρ = .val (.tuple [d, e, g]) := by
  simp only [ev, evs, h, h2, h3, R.bnd_val]; rw [mkT_of (le_lim (by simp))]; rfl
theorem ev_addT {a b : Ex} {U V : List D} (e1 : ev cal a ρ = .val (.tuple U)) (e2 : ev cal b ρ = .val (.tuple V)) (hl : U.length + V.length ≤ 1000) : ev cal (.bin .add a b) ρ = .val (.tuple (U ++ V)) := by
  simp only [ev, e1, e2, R.bnd_val, boS, addS]
  rw [mkT_of (le_lim (by simpa using hl)), ofO_some]
theorem ev_slT {a : Ex} {lo hi : Eo} {P : List D} {l h : Option Int} (e : ev cal a ρ = .val (.tuple P)) (el : evo cal lo ρ = .val (l.map .int)) (eh : evo cal hi ρ = .val (h.map .int)) : ev cal (.sl a lo hi) ρ = .val (.tuple (cutX P l h)) := by
  have o : ∀ x : Option Int, optI (x.map PyData.int) = some x := fun x => by cases x <;> rfl
  simp only [ev, e, el, eh, R.bnd_val, o, ofO_some, slS]
theorem evo_non : evo cal .non ρ = .val ((none : Option Int).map .int) := rfl
theorem evo_som {E : Ex} {v : Int} (e : ev cal E ρ = .val (.int v)) : evo cal (.som E) ρ = .val ((some v : Option Int).map .int) := by
  simp only [evo, e, R.bnd_val, Option.map_some]
theorem ev_addI {a b : Ex} {x y : Int} (e1 : ev cal a ρ = .val (.int x)) (e2 : ev cal b ρ = .val (.int y)) : ev cal (.bin .add a b) ρ = .val (.int (x + y)) := by
  simp only [ev, e1, e2, R.bnd_val, boS, addS, ofO_some]
theorem ev_subI {a b : Ex} {x y : Int} (e1 : ev cal a ρ = .val (.int x)) (e2 : ev cal b ρ = .val (.int y)) : ev cal (.bin .sub a b) ρ = .val (.int (x - y)) := by
  simp only [ev, e1, e2, R.bnd_val, boS, subS, ofO_some]
theorem ev_modI {a b : Ex} {x y : Int} (e1 : ev cal a ρ = .val (.int x)) (e2 : ev cal b ρ = .val (.int y)) (hy : 0 < y) : ev cal (.bin .mod a b) ρ = .val (.int (x % y)) := by
  simp only [ev, e1, e2, R.bnd_val, boS, modS, if_pos hy, ofO_some]
theorem ev_lit {d : D} : ev cal (.lit d) ρ = .val d := rfl
/-- a draw -/
theorem ev_dr {i : Nat} {U : List D} {j v : Int} (h : ρ[i]? = some (some (.dat (.list U)))) (e : atX U j = some (.int v)) : ev cal (.ix (.var i) (.lit (.int j))) ρ = .val (.int v) := by
  simp only [ev, h, R.bnd_val, ixS, e, ofO_some]
theorem ev_lenT {i : Nat} {P : List D} (h : ρ[i]? = some (some (.dat (.tuple P)))) : ev cal (.blt .len (.cons (.var i) .nil)) ρ = .val (.int (P.length : Int)) := by
  simp only [ev, evs, h, R.bnd_val, bfS, ofO_some]
theorem ev_max1 {i : Nat} {P : List D} (h : ρ[i]? = some (some (.dat (.tuple P)))) : ∃ m : Int, 0 < m ∧ ev cal (.blt .max (.cons (.blt .len (.cons (.var i) .nil)) (.cons (.lit (.int 1)) .nil))) ρ = .val (.int m) := by
  refine ⟨if (1 : Int) > (P.length : Int) then 1 else (P.length : Int), by split <;> omega, ?_⟩
  simp only [ev, evs, h, R.bnd_val, bfS, ofO_some]
/-- one place of a tuple is changed -/
theorem ev_change {i a : Nat} {E : Ex} {P : List D} {v : Int} {d : D} (hi : ρ[i]? = some (some (.dat (.tuple P)))) (ha : ρ[a]? = some (some (.dat (.int v)))) (hE : ev cal E ρ = .val d) (hl : P.length ≤ 100) : ev cal (.bin .add (.bin .add (.sl (.var i) .non (.som (.var a))) (.tup (.cons E .nil))) (.sl (.var i) (.som (.bin .add (.var a) (.lit (.int 1)))) .non)) ρ = .val (.tuple (cutX P none (some v) ++ [d] ++ cutX P (some (v + 1)) none)) := by
  have a1 := cutX_len (P := P) (lo := none) (hi := some v)
  have a2 := cutX_len (P := P) (lo := some (v + 1)) (hi := none)
  have s1 := ev_slT (cal := cal) (ev_var hi) (evo_non (ρ := ρ)) (evo_som (ev_var ha))
  have s2 := ev_slT (cal := cal) (ev_var hi) (evo_som (ev_addI (ev_var ha) (ev_lit (d := .int 1)))) (evo_non (ρ := ρ))
  exact ev_addT (ev_addT s1 (ev_tup1 hE) (by simp; omega)) s2 (by simp; omega)
theorem ch_mem {P : List D} {v : Int} {d : D} {Q : D → Prop} (hP : ∀ x ∈ P, Q x) (hd : Q d) : ∀ x ∈ cutX P none (some v) ++ [d] ++ cutX P (some (v + 1)) none, Q x := by
  intro x hx
  rcases List.mem_append.1 hx with hx | hx
  · rcases List.mem_append.1 hx with hx | hx
    · exact hP x (cutX_mem hx)
    · have : x = d := by simpa using hx
      subst this; exact hd
  · exact hP x (cutX_mem hx)
theorem ch_len {P : List D} {v : Int} {d : D} : (cutX P none (some v) ++ [d] ++ cutX P (some (v + 1)) none).length ≤ 2 * P.length + 1 := by
  have a1 := cutX_len (P := P) (lo := none) (hi := some v)
  have a2 := cutX_len (P := P) (lo := some (v + 1)) (hi := none)
  simp; omega
/-- each number is changed -/
theorem ev_mapT {i v : Nat} {E : Ex} {ps : List Int} {g : Int → Int} (hv : v < ρ.length) (hi : ρ[i]? = some (some (.dat (.tuple (intz ps))))) (hl : ps.length ≤ 1000) (hE : ∀ (σ : Rho) x, σ[v]? = some (some (.dat (.int x))) → ev cal E σ = .val (.int (g x))) : ev cal (.blt .tuple (.cons (.lc (.nm v) (.seq (.var i)) .non E [v]) .nil)) ρ = .val (.tuple (intz (ps.map g))) := by
  have lc : ev cal (.lc (.nm v) (.seq (.var i)) .non E [v]) ρ = .val (.list (intz (ps.map g))) := by
    refine ev_lcS (xs := intz ps) (by simp only [evi, ev, hi, R.bnd_val, seqS, ofO_some]) ?_ (le_lim (by simp [intz]; exact hl))
    have hw : (wipeX ρ [v]).length = ρ.length := by simp [wipeX]
    generalize wipeX ρ [v] = σ at *
    clear hi hl
    induction ps with
    | nil => rfl
    | cons x l ih =>
      have st : lcS cal (.nm v) .non E σ (.int x) = .val [.int (g x)] := by
        have h1 : v < σ.length := by omega
        have h2 := hE (σ.set v (some (.dat (.int x)))) x (by rw [List.getElem?_set_self h1])
        simp only [lcS, asgT, h1, if_true, evt, R.bnd_val, h2]
      simp only [intz, List.map_cons, lcF, st] at ih ⊢
      rw [ih]; rfl
  rw [ev, evs, lc]
  simp only [R.bnd_val, evs, bfS, ofO_some]
theorem kd3 (d : Int) : ∃ kd : Kd, atX [PyData.str "above", .str "at least", .str "equal"] (d % 3) = some (.str kd.s) := by
  have : d % 3 = 0 ∨ d % 3 = 1 ∨ d % 3 = 2 := by omega
  rcases this with e | e | e <;> rw [e]
  · exact ⟨.ab, rfl⟩
  · exact ⟨.le, rfl⟩
  · exact ⟨.eq, rfl⟩
theorem ev_kd3 {i : Nat} {U : List D} {j d : Int} (h : ρ[i]? = some (some (.dat (.list U)))) (e : atX U j = some (.int d)) : ∃ kd : Kd, ev cal (.ix (.lst (.cons (.lit (.str "above")) (.cons (.lit (.str "at least")) (.cons (.lit (.str "equal")) .nil)))) (.bin .mod (.ix (.var i) (.lit (.int j))) (.lit (.int 3)))) ρ = .val (.str kd.s) := by
  obtain ⟨kd, hk⟩ := kd3 d
  refine ⟨kd, ?_⟩
  have m := ev_modI (cal := cal) (ev_dr h e) (ev_lit (d := .int 3)) (by decide)
  have l3 : mkL [PyData.str "above", .str "at least", .str "equal"] = some (.list [.str "above", .str "at least", .str "equal"]) := mkL_of (le_lim (by simp))
  rw [ev, m]
  simp only [ev, evs, R.bnd_val, l3, ofO_some, ixS, hk]
end
/-- what may be given as multipliers -/
def Tr (v : D) : Prop := tyS .tuple v = some (.bool false) ∨ ∃ ds, v = .tuple ds ∧ ∀ d ∈ ds, plain d = true
section
variable {tbl : Str → Option Df} (h : Std tbl) {k : Nat}
include h
theorem same_cancelling {r c : Nat} (h1 : 1 ≤ r) (h2 : r ≤ 4) (h3 : 1 ≤ c) (h4 : c ≤ 4) {xs : List C3} (hx : ∀ x ∈ xs, okC r c x) (hl : xs.length ≤ 12) {v : D} (hv : Tr v) :
    ∃ b, call sub wf tbl (k + 7) "is_cancelling" [sz r c, .tuple (xs.map cmpD), v] = .val (.bool b) ∧ call sub wf tbl (k + 7) "_law_is_cancelling" [sz r c, .tuple (xs.map cmpD), v] = .val (.bool b) := by
  rcases hv with hv | ⟨ds, rfl, hp⟩
  · exact ⟨false, both_not h h1 h2 h3 h4 hx hl (.inl hv)⟩
  · by_cases q : ds.length = xs.length
    · cases e : ds.all isI with
      | false => exact ⟨false, both_not h h1 h2 h3 h4 hx hl (.inr ⟨ds, rfl, .inr ⟨hp, e⟩⟩)⟩
      | true =>
        obtain ⟨ns, rfl⟩ := all_ints e
        exact ⟨_, both_cancelling h h1 h2 h3 h4 hx hl (by simpa [intz] using q)⟩
    · exact ⟨false, both_not h h1 h2 h3 h4 hx hl (.inr ⟨ds, rfl, .inl q⟩)⟩
end
end Pg

set_option linter.all false
set_option maxRecDepth 100000
set_option maxHeartbeats 4000000
namespace Pg
open PySem hiding call exec
open Mp
/-! What comparisons imply: the plain side. -/
open Classical in
noncomputable def conB (r c : Nat) (xs : List C3) : Bool := decide (Cons r c xs)
theorem conB_true {r c : Nat} {xs : List C3} : conB r c xs = true ↔ Cons r c xs := by unfold conB; exact @decide_eq_true_iff _ (Classical.propDecidable _)
theorem conB_false {r c : Nat} {xs : List C3} : conB r c xs = false ↔ ¬ Cons r c xs := by unfold conB; exact @decide_eq_false_iff_not _ (Classical.propDecidable _)
def opp (x : C3) : C3 := ⟨x.b, if kAb x.k then .le else .ab, x.a⟩
theorem opp_ok {r c : Nat} {x : C3} (h : okC r c x) : okC r c (opp x) := by
  obtain ⟨h1, h2, h3, h4, h5⟩ := h
  exact ⟨h3, h4, h1, h2, fun e => h5 e.symm⟩
theorem gap_opp (us vs : List Int) (x : C3) : gap us vs (opp x) = - gap us vs x := by
  unfold gap opp; simp only; omega
theorem hold_opp {us vs : List Int} {x : C3} (hk : kEq x.k = false) : hold us vs (opp x) = !hold us vs x := by
  rw [Bool.eq_iff_iff]
  have a := hold_gap us vs (opp x)
  have b := hold_gap us vs x
  rw [gap_opp] at a
  rw [a]
  have : (!hold us vs x) = true ↔ ¬ (hold us vs x = true) := by cases hold us vs x <;> simp
  rw [this, b]
  unfold opp
  cases e : x.k <;> simp [e, kEq, kAb] at hk ⊢ <;> omega
/-- whether a comparison that is no equality follows -/
noncomputable def folB (r c : Nat) (xs : List C3) (x : C3) : Bool := !conB r c (xs ++ [opp x])
noncomputable def impB (r c : Nat) (xs : List C3) (x : C3) : Bool := if kEq x.k then folB r c xs ⟨x.a, .le, x.b⟩ && folB r c xs ⟨x.b, .le, x.a⟩ else folB r c xs x
theorem fol_holds {r c : Nat} {xs : List C3} {x : C3} (hk : kEq x.k = false) (hf : folB r c xs x = true) {us vs : List Int} (hv : Vals r c xs us vs) : hold us vs x = true := by
  cases e : hold us vs x with
  | true => rfl
  | false =>
    exfalso
    have : Cons r c (xs ++ [opp x]) := ⟨us, vs, hv.1, hv.2.1, fun y hy => by
      rcases List.mem_append.1 hy with hy | hy
      · exact hv.2.2 y hy
      · have : y = opp x := by simpa using hy
        subst this
        rw [hold_opp hk, e]; rfl⟩
    unfold folB at hf
    rw [conB_true.2 this] at hf
    cases hf
theorem fol_iff {r c : Nat} {xs : List C3} {x : C3} (hk : kEq x.k = false) : folB r c xs x = true ↔ ∀ us vs, Vals r c xs us vs → hold us vs x = true := by
  constructor
  · exact fun h us vs hv => fol_holds hk h hv
  · intro h
    unfold folB
    rw [show conB r c (xs ++ [opp x]) = false from conB_false.2 ?_]; rfl
    rintro ⟨us, vs, hu, hv, hall⟩
    have a := h us vs ⟨hu, hv, fun y hy => hall y (List.mem_append_left _ hy)⟩
    have b := hall (opp x) (List.mem_append_right _ (by simp))
    rw [hold_opp hk, a] at b
    cases b
theorem imp_iff {r c : Nat} {xs : List C3} {x : C3} : impB r c xs x = true ↔ ∀ us vs, Vals r c xs us vs → hold us vs x = true := by
  unfold impB
  cases e : kEq x.k with
  | false => rw [if_neg (by decide)]; exact fol_iff e
  | true =>
    rw [if_pos rfl, Bool.and_eq_true, fol_iff rfl, fol_iff rfl]
    have key : ∀ us vs : List Int, hold us vs x = true ↔ hold us vs ⟨x.a, .le, x.b⟩ = true ∧ hold us vs ⟨x.b, .le, x.a⟩ = true := fun us vs => by
      rw [hold_gap, hold_gap, hold_gap]
      have g1 : gap us vs ⟨x.a, .le, x.b⟩ = gap us vs x := rfl
      have g2 : gap us vs ⟨x.b, .le, x.a⟩ = - gap us vs x := by unfold gap; simp only; omega
      rw [g1, g2]
      cases k : x.k <;> rw [k] at e <;> simp [kEq, kAb] at e ⊢
      omega
    constructor
    · exact fun h us vs hv => (key us vs).2 ⟨h.1 us vs hv, h.2 us vs hv⟩
    · exact fun h => ⟨fun us vs hv => ((key us vs).1 (h us vs hv)).1, fun us vs hv => ((key us vs).1 (h us vs hv)).2⟩
/-! derivations -/
structure Der (r c : Nat) (xs : List C3) (x : C3) (t : Int) (ms : List Int) : Prop where
  pos : 0 < t
  mul : Muls xs ms
  strict : kAb x.k = true → Strict xs ms
  tot : ∀ j, j < r + c → tot r xs ms j = t * dfc r x.a x.b j
theorem nth_left {xs : List C3} {y : C3} {i : Nat} (hi : i < xs.length) : nth (xs ++ [y]) i = nth xs i := by
  unfold nth
  rw [List.getD_eq_getElem?_getD, List.getD_eq_getElem?_getD, List.getElem?_append_left hi]
theorem nth_last {xs : List C3} {y : C3} : nth (xs ++ [y]) xs.length = y := by
  unfold nth
  rw [List.getD_eq_getElem?_getD, List.getElem?_append_right (Nat.le_refl _)]
  simp
theorem dfc_opp (r : Nat) (x : C3) (j : Nat) : dfc r (opp x).a (opp x).b j = - dfc r x.a x.b j := by
  unfold opp dfc
  split <;> simp only <;> omega
theorem getD_left {ms : List Int} {t : Int} {i : Nat} (hi : i < ms.length) : (ms ++ [t]).getD i 0 = ms.getD i 0 := by
  rw [List.getD_eq_getElem?_getD, List.getD_eq_getElem?_getD, List.getElem?_append_left hi]
theorem getD_last {ms : List Int} {t : Int} : (ms ++ [t]).getD ms.length 0 = t := by
  rw [List.getD_eq_getElem?_getD, List.getElem?_append_right (Nat.le_refl _)]
  simp
theorem tot_snoc {r : Nat} {xs : List C3} {y : C3} {ms : List Int} {t : Int} (hl : ms.length = xs.length) (j : Nat) : tot r (xs ++ [y]) (ms ++ [t]) j = tot r xs ms j + t * dfc r y.a y.b j := by
  unfold tot
  have : (xs ++ [y]).length = xs.length + 1 := by simp
  rw [this]
  simp only [Sx.sm]
  rw [nth_last, ← hl, getD_last]
  congr 1
  exact Sx.sm_congr fun i hi => by rw [nth_left (by omega), getD_left hi]
/-- a cancelling list with the opposite is a derivation -/
theorem der_of {r c : Nat} {xs : List C3} (hx : ∀ x ∈ xs, okC r c x) (hc : Cons r c xs) {x : C3} (hk : kEq x.k = false) {ms : List Int} {t : Int} (hl : ms.length = xs.length) (h : Canc r c (xs ++ [opp x]) (ms ++ [t])) : Der r c xs x t ms := by
  have hlen : (xs ++ [opp x]).length = xs.length + 1 := by simp
  have ko : kEq (opp x).k = false := by unfold opp; cases kAb x.k <;> rfl
  have t0 : 0 ≤ t := by
    have := h.mul.2 xs.length (by omega) (by rw [nth_last]; exact ko)
    rw [← hl, getD_last] at this
    exact this
  have mu : Muls xs ms := ⟨hl, fun i hi hq => by
    have := h.mul.2 i (by omega) (by rw [nth_left hi]; exact hq)
    rw [getD_left (by omega)] at this
    exact this⟩
  have tt : ∀ j, j < r + c → tot r xs ms j = t * dfc r x.a x.b j := fun j hj => by
    have := h.tot j hj
    rw [tot_snoc hl, dfc_opp, Int.mul_neg] at this
    omega
  have st : Strict xs ms ∨ (0 < t ∧ kAb (opp x).k = true) := by
    obtain ⟨i, hi, h1, h2⟩ := h.strict
    by_cases q : i < xs.length
    · rw [nth_left q] at h1
      rw [getD_left (by omega)] at h2
      exact .inl ⟨i, q, h1, h2⟩
    · have : i = xs.length := by omega
      subst this
      rw [nth_last] at h1
      rw [← hl, getD_last] at h2
      exact .inr ⟨h2, h1⟩
  have tp : 0 < t := by
    by_cases q : 0 < t
    · exact q
    · exfalso
      have z : t = 0 := by omega
      rcases st with st | ⟨st, _⟩
      · refine never_both hx ⟨mu, fun j hj => ?_, st⟩ hc
        rw [tt j hj, z, Int.zero_mul]
      · omega
  refine ⟨tp, mu, fun ha => ?_, tt⟩
  rcases st with st | ⟨_, st⟩
  · exact st
  · unfold opp at st
    rw [ha] at st
    simp [kAb] at st
end Pg

set_option linter.all false
set_option maxRecDepth 100000
set_option maxHeartbeats 4000000
namespace Pg
open PySem hiding call exec
open Mp
/-! follows, implied, check_consistent, is_implied, derivation -/
theorem map_snoc (xs : List C3) (y : C3) : xs.map cmpD ++ [cmpD y] = (xs ++ [y]).map cmpD := by rw [List.map_append]; rfl
def opE : Ex := (.ite (.cmp .eq (.var 4) (.lit (.str "above"))) (.lit (.str "at least")) (.lit (.str "above")))
def opT : Ex := (.tup (.cons (.var 5) (.cons opE (.cons (.var 3) .nil))))
def sU : S := (.asg (.tp (.cons (.nm 3) (.cons (.nm 4) (.cons (.nm 5) .nil)))) (.var 2))
theorem fo_is : p_follows = (.seq sU (.seq (.asg (.nm 6) opT) (.ret (.cmp .is (.ix (.call "settle" (.cons (.var 0) (.cons (.bin .add (.var 1) (.tup (.cons (.var 6) .nil))) .nil))) (.lit (.int 0))) (.lit .none))))) := rfl
def imB : S := (.seq (.asg (.nm 6) (.tup (.cons (.tup (.cons (.var 3) (.cons (.lit (.str "at least")) (.cons (.var 5) .nil)))) (.cons (.tup (.cons (.var 5) (.cons (.lit (.str "at least")) (.cons (.var 3) .nil)))) .nil)))) (.ret (.not (.lc (.nm 7) (.seq (.var 6)) (.som (.not (.call "follows" (.cons (.var 0) (.cons (.var 1) (.cons (.var 7) .nil)))))) (.var 7) [7]))))
theorem im_is : p_implied = (.seq sU (.seq (.ite (.cmp .eq (.var 4) (.lit (.str "equal"))) imB .skip) (.ret (.call "follows" (.cons (.var 0) (.cons (.var 1) (.cons (.var 2) .nil))))))) := rfl
section
variable {cal : Str → List D → R D} {sb : Str → Str → Bool} {w : Nat}
theorem op_ev {ρ : Rho} {x : C3} (h3 : ρ[3]? = some (some (.dat (celD x.a)))) (h4 : ρ[4]? = some (some (.dat (.str x.k.s)))) (h5 : ρ[5]? = some (some (.dat (celD x.b)))) : ev cal opT ρ = .val (cmpD (opp x)) := by
  have e : ev cal opE ρ = .val (.str (opp x).k.s) := by
    have c : ev cal (.cmp .eq (.var 4) (.lit (.str "above"))) ρ = .val (.bool (kAb x.k)) := by
      simp only [ev, h4, R.bnd_val, coS, coB, eqS_ss, kd_ab', Option.map_some, ofO_some]
    unfold opE opp
    rw [ev, c]
    cases kAb x.k <;> rfl
  exact ev_tup3 (ev_var h5) e (ev_var h3)
theorem u_ev {s X : D} {x : C3} {ρ : List (Option Sl)} {o3 o4 o5 : Option Sl} : exec cal sb w sU (some (.dat s) :: some (.dat X) :: some (.dat (cmpD x)) :: o3 :: o4 :: o5 :: ρ) = .nxt (some (.dat s) :: some (.dat X) :: some (.dat (cmpD x)) :: some (.dat (celD x.a)) :: some (.dat (.str x.k.s)) :: some (.dat (celD x.b)) :: ρ) := by
  unfold sU cmpD
  generalize celD x.a = ca
  generalize celD x.b = cb
  generalize x.k.s = ks
  simp [exec, ev, R.out, asgT, asgTs]
theorem fo_ev {s a b : D} {xs : List C3} {x : C3} (hl : xs.length ≤ 100) (h : cal "settle" [s, .tuple ((xs ++ [opp x]).map cmpD)] = .val (.tuple [a, b])) : (exec cal sb w p_follows (startX 7 [s, .tuple (xs.map cmpD), cmpD x])).res = .val (.bool (isNone a)) := by
  have s0 : startX 7 [s, .tuple (xs.map cmpD), cmpD x] = some (.dat s) :: some (.dat (.tuple (xs.map cmpD))) :: some (.dat (cmpD x)) :: none :: none :: none :: [none] := rfl
  rw [fo_is, s0, ex_seq u_ev, ex_seq (ex_asg (op_ev (x := x) rfl rfl rfl) (by simp))]
  simp only [List.set]
  rw [← map_snoc] at h
  have l1 : mkT [cmpD (opp x)] = some (.tuple [cmpD (opp x)]) := mkT_of (le_lim (by simp))
  have l2 : mkT (xs.map cmpD ++ [cmpD (opp x)]) = some (.tuple (xs.map cmpD ++ [cmpD (opp x)])) := mkT_of (le_lim (by simp; omega))
  generalize xs.map cmpD = X at *
  generalize cmpD (opp x) = OO at *
  generalize celD x.a = ca at *
  generalize celD x.b = cb at *
  generalize x.k.s = ks at *
  simp [exec, ev, evs, l1, boS, addS, l2, h, ixS, at0, coS, coB, isS, R.out, O.res]
theorem im_ne {s : D} {X : D} {x : C3} {b : Bool} (hk : kEq x.k = false) (h : cal "follows" [s, X, cmpD x] = .val (.bool b)) : (exec cal sb w p_implied (startX 8 [s, X, cmpD x])).res = .val (.bool b) := by
  have s0 : startX 8 [s, X, cmpD x] = some (.dat s) :: some (.dat X) :: some (.dat (cmpD x)) :: none :: none :: none :: [none, none] := rfl
  rw [im_is, s0, ex_seq u_ev]
  have c : ev cal (.cmp .eq (.var 4) (.lit (.str "equal"))) (some (.dat s) :: some (.dat X) :: some (.dat (cmpD x)) :: some (.dat (celD x.a)) :: some (.dat (.str x.k.s)) :: some (.dat (celD x.b)) :: [none, none]) = .val (.bool false) := by
    rw [← hk, ← kd_eq' x.k]
    generalize x.k.s = ks
    simp [ev, coS, coB, eqS_ss]
  have s1 : exec cal sb w (.ite (.cmp .eq (.var 4) (.lit (.str "equal"))) imB .skip) (some (.dat s) :: some (.dat X) :: some (.dat (cmpD x)) :: some (.dat (celD x.a)) :: some (.dat (.str x.k.s)) :: some (.dat (celD x.b)) :: [none, none]) = .nxt (some (.dat s) :: some (.dat X) :: some (.dat (cmpD x)) :: some (.dat (celD x.a)) :: some (.dat (.str x.k.s)) :: some (.dat (celD x.b)) :: [none, none]) := by
    rw [ex_ite c rfl]; rfl
  rw [ex_seq s1]
  refine congrArg O.res (ex_ret ?_)
  generalize cmpD x = C at *
  simp [ev, evs, h]
theorem im_eq {s : D} {X : D} {x : C3} {b1 b2 : Bool} (hk : kEq x.k = true) (h1 : cal "follows" [s, X, cmpD ⟨x.a, .le, x.b⟩] = .val (.bool b1)) (h2 : cal "follows" [s, X, cmpD ⟨x.b, .le, x.a⟩] = .val (.bool b2)) : (exec cal sb w p_implied (startX 8 [s, X, cmpD x])).res = .val (.bool (b1 && b2)) := by
  have s0 : startX 8 [s, X, cmpD x] = some (.dat s) :: some (.dat X) :: some (.dat (cmpD x)) :: none :: none :: none :: [none, none] := rfl
  rw [im_is, s0, ex_seq u_ev]
  have c : ev cal (.cmp .eq (.var 4) (.lit (.str "equal"))) (some (.dat s) :: some (.dat X) :: some (.dat (cmpD x)) :: some (.dat (celD x.a)) :: some (.dat (.str x.k.s)) :: some (.dat (celD x.b)) :: [none, none]) = .val (.bool true) := by
    rw [← hk, ← kd_eq' x.k]
    generalize x.k.s = ks
    simp [ev, coS, coB, eqS_ss]
  have t1 : ev cal (.tup (.cons (.tup (.cons (.var 3) (.cons (.lit (.str "at least")) (.cons (.var 5) .nil)))) (.cons (.tup (.cons (.var 5) (.cons (.lit (.str "at least")) (.cons (.var 3) .nil)))) .nil))) (some (.dat s) :: some (.dat X) :: some (.dat (cmpD x)) :: some (.dat (celD x.a)) :: some (.dat (.str x.k.s)) :: some (.dat (celD x.b)) :: [none, none]) = .val (.tuple [cmpD ⟨x.a, .le, x.b⟩, cmpD ⟨x.b, .le, x.a⟩]) := ev_tup2 (ev_tup3 (ev_var rfl) ev_lit (ev_var rfl)) (ev_tup3 (ev_var rfl) ev_lit (ev_var rfl))
  have s1 : exec cal sb w (.ite (.cmp .eq (.var 4) (.lit (.str "equal"))) imB .skip) (some (.dat s) :: some (.dat X) :: some (.dat (cmpD x)) :: some (.dat (celD x.a)) :: some (.dat (.str x.k.s)) :: some (.dat (celD x.b)) :: [none, none]) = .ret (.bool (b1 && b2)) := by
    rw [ex_ite c rfl, if_pos rfl]
    unfold imB
    rw [ex_seq (ex_asg t1 (by simp))]
    simp only [List.set]
    refine ex_ret ?_
    have l1 : ∀ a : D, mkL [a] = some (.list [a]) := fun a => mkL_of (le_lim (by simp))
    have l2 : ∀ a b : D, mkL [a, b] = some (.list [a, b]) := fun a b => mkL_of (le_lim (by simp))
    have l0 : mkL ([] : List D) = some (.list []) := mkL_of (le_lim (by simp))
    generalize cmpD ⟨x.a, .le, x.b⟩ = A at *
    generalize cmpD ⟨x.b, .le, x.a⟩ = B at *
    generalize cmpD x = C at *
    cases b1 <;> cases b2 <;> simp [ev, evs, evi, seqS, lcF, wipeX, asgT, evt, truR, truth, h1, h2, l0, l1, l2]
  rw [ex_seq_ret s1]; rfl
theorem cc_ev {s X a b : D} (h1 : cal "check_comparisons" [s, X] = .val .none) (h2 : cal "settle" [s, X] = .val (.tuple [a, b])) : (exec cal sb w p_check_consistent (startX 2 [s, X])).res = if isNone a then .exc "Inconsistent" else .val .none := by
  have c : ev cal (.cmp .is (.ix (.call "settle" (.cons (.var 0) (.cons (.var 1) .nil))) (.lit (.int 0))) (.lit .none)) [some (.dat s), some (.dat X)] = .val (.bool (isNone a)) := by
    simp [ev, evs, h2, ixS, at0, coS, coB, isS]
  have s1 : exec cal sb w (.drop (.call "check_comparisons" (.cons (.var 0) (.cons (.var 1) .nil)))) [some (.dat s), some (.dat X)] = .nxt [some (.dat s), some (.dat X)] := by
    simp [exec, ev, evs, h1, R.out]
  have s0 : startX 2 [s, X] = [some (.dat s), some (.dat X)] := rfl
  unfold p_check_consistent
  rw [s0, ex_seq s1, ex_ite c rfl]
  cases isNone a <;> rfl
end
section
variable {tbl : Str → Option Df} (h : Std tbl) {k : Nat}
include h
theorem settle_b {r c : Nat} (hr : r ≤ 4) (hc : c ≤ 4) {xs : List C3} (hx : ∀ x ∈ xs, okC r c x) (hl : xs.length ≤ 15) : ∃ a b, isNone a = !conB r c xs ∧ call sub wf tbl (k + 3) "settle" [sz r c, .tuple (xs.map cmpD)] = .val (.tuple [a, b]) := by
  rcases settle h (k := k) hr hc hx hl with ⟨us, vs, hv, e⟩ | ⟨ms, hm, e⟩
  · refine ⟨_, _, ?_, e⟩
    rw [conB_true.2 ⟨us, vs, hv⟩]; rfl
  · refine ⟨_, _, ?_, e⟩
    rw [conB_false.2 (never_both hx hm)]; rfl
theorem snoc_ok {r c : Nat} {xs : List C3} {y : C3} (hx : ∀ x ∈ xs, okC r c x) (hy : okC r c y) : ∀ x ∈ xs ++ [y], okC r c x := by
  intro x hx'
  rcases List.mem_append.1 hx' with h1 | h1
  · exact hx x h1
  · have : x = y := by simpa using h1
    subst this; exact hy
theorem follows {r c : Nat} (hr : r ≤ 4) (hc : c ≤ 4) {xs : List C3} {x : C3} (hx : ∀ x ∈ xs, okC r c x) (ho : okC r c x) (hl : xs.length ≤ 14) : call sub wf tbl (k + 4) "follows" [sz r c, .tuple (xs.map cmpD), cmpD x] = .val (.bool (folB r c xs x)) := by
  obtain ⟨a, b, ha, e⟩ := settle_b h (k := k) hr hc (snoc_ok h hx (opp_ok ho)) (by simp; omega)
  rw [call_eq h.t_follows rfl, fo_ev (by omega) e, ha]
  rfl
theorem implied {r c : Nat} (hr : r ≤ 4) (hc : c ≤ 4) {xs : List C3} {x : C3} (hx : ∀ x ∈ xs, okC r c x) (ho : okC r c x) (hl : xs.length ≤ 14) : call sub wf tbl (k + 5) "implied" [sz r c, .tuple (xs.map cmpD), cmpD x] = .val (.bool (impB r c xs x)) := by
  rw [call_eq h.t_implied rfl]
  unfold impB
  obtain ⟨h1, h2, h3, h4, h5⟩ := ho
  cases e : kEq x.k with
  | false => rw [if_neg (by decide)]; exact im_ne e (follows h hr hc hx ⟨h1, h2, h3, h4, h5⟩ hl)
  | true => rw [if_pos rfl]; exact im_eq e (follows h hr hc hx ⟨h1, h2, h3, h4, h5⟩ hl) (follows h hr hc hx ⟨h3, h4, h1, h2, fun e => h5 e.symm⟩ hl)
theorem check_consistent {r c : Nat} (h1 : 1 ≤ r) (h2 : r ≤ 4) (h3 : 1 ≤ c) (h4 : c ≤ 4) {xs : List C3} (hx : ∀ x ∈ xs, okC r c x) (hl : xs.length ≤ 12) : call sub wf tbl (k + 7) "check_consistent" [sz r c, .tuple (xs.map cmpD)] = if conB r c xs then .val .none else .exc "Inconsistent" := by
  obtain ⟨a, b, ha, e⟩ := settle_b h (k := k + 3) h2 h4 hx (by omega)
  rw [call_eq h.t_check_consistent rfl, cc_ev (check_ok h (k := k) h1 h2 h3 h4 hx hl) e, ha]
  cases conB r c xs <;> rfl
end
end Pg

set_option linter.all false
set_option maxRecDepth 100000
set_option maxHeartbeats 4000000
namespace Pg
open PySem hiding call exec
open Mp
/-! is_implied, derivation, _law_derived -/
theorem ii_is : p_is_implied = (.seq (.drop (.call "check_consistent" (.cons (.var 0) (.cons (.var 1) .nil)))) (.seq (.ite (.not (.call "is_comparison" (.cons (.var 0) (.cons (.var 2) .nil)))) (.rais "InvalidComparisons") .skip) (.ret (.call "implied" (.cons (.var 0) (.cons (.var 1) (.cons (.var 2) .nil))))))) := rfl
def deC : S := (.ite (.or (.not (.call "is_comparison" (.cons (.var 0) (.cons (.var 2) .nil)))) (.cmp .eq (.ix (.var 2) (.lit (.int 1))) (.lit (.str "equal")))) (.rais "InvalidComparisons") .skip)
def deE : Ex := (.ix (.call "settle" (.cons (.var 0) (.cons (.bin .add (.var 1) (.tup (.cons (.var 6) .nil))) .nil))) (.lit (.int 1)))
def deR : Ex := (.tup (.cons (.ix (.var 7) (.neg (.lit (.int 1)))) (.cons (.sl (.var 7) .non (.som (.neg (.lit (.int 1))))) .nil)))
theorem de_is : p_derivation = (.seq (.drop (.call "check_consistent" (.cons (.var 0) (.cons (.var 1) .nil)))) (.seq deC (.seq sU (.seq (.asg (.nm 6) opT) (.seq (.asg (.nm 7) deE) (.seq (.ite (.cmp .is (.var 7) (.lit .none)) (.rais "NotImplied") .skip) (.ret deR))))))) := rfl
section
variable {cal : Str → List D → R D} {sb : Str → Str → Bool} {w : Nat}
theorem drop_ok {e : Ex} {ρ : Rho} {d : D} (h : ev cal e ρ = .val d) : exec cal sb w (.drop e) ρ = .nxt ρ := by simp only [exec, h, R.out_val]
theorem drop_exc {e : Ex} {ρ : Rho} {c : Str} (h : ev cal e ρ = .exc c) : exec cal sb w (.drop e) ρ = .exc c ρ := by simp only [exec, h, R.out_exc]
theorem ev_c1 {f : Str} {i : Nat} {ρ : Rho} {a : D} (ha : ρ[i]? = some (some (.dat a))) : ev cal (.call f (.cons (.var i) .nil)) ρ = cal f [a] := by simp only [ev, evs, ha, R.bnd_val]
theorem ev_c2 {f : Str} {i j : Nat} {ρ : Rho} {a b : D} (ha : ρ[i]? = some (some (.dat a))) (hb : ρ[j]? = some (some (.dat b))) : ev cal (.call f (.cons (.var i) (.cons (.var j) .nil))) ρ = cal f [a, b] := by simp only [ev, evs, ha, hb, R.bnd_val]
theorem ev_c3 {f : Str} {i j l : Nat} {ρ : Rho} {a b c : D} (ha : ρ[i]? = some (some (.dat a))) (hb : ρ[j]? = some (some (.dat b))) (hc : ρ[l]? = some (some (.dat c))) : ev cal (.call f (.cons (.var i) (.cons (.var j) (.cons (.var l) .nil)))) ρ = cal f [a, b, c] := by simp only [ev, evs, ha, hb, hc, R.bnd_val]
theorem ev_c4 {f : Str} {i j l m : Nat} {ρ : Rho} {a b c d : D} (ha : ρ[i]? = some (some (.dat a))) (hb : ρ[j]? = some (some (.dat b))) (hc : ρ[l]? = some (some (.dat c))) (hd : ρ[m]? = some (some (.dat d))) : ev cal (.call f (.cons (.var i) (.cons (.var j) (.cons (.var l) (.cons (.var m) .nil))))) ρ = cal f [a, b, c, d] := by simp only [ev, evs, ha, hb, hc, hd, R.bnd_val]
theorem ev_notB {e : Ex} {ρ : Rho} {b : Bool} (h : ev cal e ρ = .val (.bool b)) : ev cal (.not e) ρ = .val (.bool (!b)) := by simp only [ev, h, truR, R.bnd_val, truth, ofO_some]
theorem ev_orB {a b : Ex} {ρ : Rho} {x y : Bool} (h1 : ev cal a ρ = .val (.bool x)) (h2 : x = false → ev cal b ρ = .val (.bool y)) : ev cal (.or a b) ρ = .val (.bool (x || y)) := by
  cases x
  · simp only [ev, h1, R.bnd_val, h2 rfl, Bool.false_or]
  · simp only [ev, h1, R.bnd_val, Bool.true_or]
theorem ev_andB {a b : Ex} {ρ : Rho} {x y : Bool} (h1 : ev cal a ρ = .val (.bool x)) (h2 : x = true → ev cal b ρ = .val (.bool y)) : ev cal (.and a b) ρ = .val (.bool (x && y)) := by
  cases x
  · simp only [ev, h1, R.bnd_val, Bool.false_and]
  · simp only [ev, h1, R.bnd_val, h2 rfl, Bool.true_and]
theorem ev_eqB {a b : Ex} {ρ : Rho} {x y : D} {k : Bool} (h1 : ev cal a ρ = .val x) (h2 : ev cal b ρ = .val y) (e : eqS x y = some k) : ev cal (.cmp .eq a b) ρ = .val (.bool k) := by
  simp only [ev, h1, h2, R.bnd_val, coS, coB, e, Option.map_some, ofO_some]
theorem ev_neB {a b : Ex} {ρ : Rho} {x y : D} {k : Bool} (h1 : ev cal a ρ = .val x) (h2 : ev cal b ρ = .val y) (e : eqS x y = some k) : ev cal (.cmp .ne a b) ρ = .val (.bool (!k)) := by
  simp only [ev, h1, h2, R.bnd_val, coS, coB, e, Option.map_some, ofO_some]
theorem ite_t {c : Ex} {a b : S} {ρ : Rho} (h : ev cal c ρ = .val (.bool true)) : exec cal sb w (.ite c a b) ρ = exec cal sb w a ρ := by rw [ex_ite h rfl]; rfl
theorem ite_f {c : Ex} {a b : S} {ρ : Rho} (h : ev cal c ρ = .val (.bool false)) : exec cal sb w (.ite c a b) ρ = exec cal sb w b ρ := by rw [ex_ite h rfl]; rfl
theorem ex_skip {ρ : Rho} : exec cal sb w .skip ρ = .nxt ρ := rfl
theorem ev_kind {i : Nat} {ρ : Rho} {x : C3} (h : ρ[i]? = some (some (.dat (cmpD x)))) : ev cal (.ix (.var i) (.lit (.int 1))) ρ = .val (.str x.k.s) := by
  simp only [ev, h, R.bnd_val, cmpD, ixS, at31, ofO_some]
theorem ev_left {i : Nat} {ρ : Rho} {x : C3} (h : ρ[i]? = some (some (.dat (cmpD x)))) : ev cal (.ix (.var i) (.lit (.int 0))) ρ = .val (celD x.a) := by
  simp only [ev, h, R.bnd_val, cmpD, ixS, at30, ofO_some]
theorem ev_right {i : Nat} {ρ : Rho} {x : C3} (h : ρ[i]? = some (some (.dat (cmpD x)))) : ev cal (.ix (.var i) (.lit (.int 2))) ρ = .val (celD x.b) := by
  simp only [ev, h, R.bnd_val, cmpD, ixS, at32, ofO_some]
theorem eq_kd (x : C3) : eqS (.str x.k.s) (.str "equal") = some (kEq x.k) := by rw [eqS_ss, kd_eq']
theorem ab_kd (x : C3) : eqS (.str x.k.s) (.str "above") = some (kAb x.k) := by rw [eqS_ss, kd_ab']
theorem ii_no {s X C : D} (h1 : cal "check_consistent" [s, X] = .exc "Inconsistent") : (exec cal sb w p_is_implied (startX 3 [s, X, C])).res = .exc "Inconsistent" := by
  rw [ii_is, ex_seq_exc (drop_exc ((ev_c2 (i := 0) (j := 1) rfl rfl).trans h1))]; rfl
theorem ii_yes {s X C : D} {b : Bool} (h1 : cal "check_consistent" [s, X] = .val .none) (h2 : cal "is_comparison" [s, C] = .val (.bool true)) (h3 : cal "implied" [s, X, C] = .val (.bool b)) : (exec cal sb w p_is_implied (startX 3 [s, X, C])).res = .val (.bool b) := by
  rw [ii_is, ex_seq (drop_ok ((ev_c2 (i := 0) (j := 1) rfl rfl).trans h1))]
  have c := ev_notB ((ev_c2 (cal := cal) (f := "is_comparison") (i := 0) (j := 2) (ρ := startX 3 [s, X, C]) rfl rfl).trans h2)
  rw [ex_seq ((ite_f c).trans ex_skip), ex_ret ((ev_c3 (i := 0) (j := 1) (l := 2) rfl rfl rfl).trans h3)]; rfl
theorem de_no {s X C : D} (h1 : cal "check_consistent" [s, X] = .exc "Inconsistent") : (exec cal sb w p_derivation (startX 8 [s, X, C])).res = .exc "Inconsistent" := by
  rw [de_is, ex_seq_exc (drop_exc ((ev_c2 (i := 0) (j := 1) rfl rfl).trans h1))]; rfl
theorem deC_ev {s X : D} {x : C3} {ρ : List (Option Sl)} (h2 : cal "is_comparison" [s, cmpD x] = .val (.bool true)) : exec cal sb w deC (some (.dat s) :: some (.dat X) :: some (.dat (cmpD x)) :: ρ) = if kEq x.k then .exc "InvalidComparisons" (some (.dat s) :: some (.dat X) :: some (.dat (cmpD x)) :: ρ) else .nxt (some (.dat s) :: some (.dat X) :: some (.dat (cmpD x)) :: ρ) := by
  have c := ev_orB (ev_notB ((ev_c2 (cal := cal) (f := "is_comparison") (i := 0) (j := 2) (ρ := some (.dat s) :: some (.dat X) :: some (.dat (cmpD x)) :: ρ) rfl rfl).trans h2)) (fun _ => ev_eqB (ev_kind (i := 2) rfl) ev_lit (eq_kd x))
  unfold deC
  rw [ex_ite c rfl]
  cases kEq x.k <;> rfl
theorem de_eq {s X : D} {x : C3} (h1 : cal "check_consistent" [s, X] = .val .none) (h2 : cal "is_comparison" [s, cmpD x] = .val (.bool true)) (hk : kEq x.k = true) : (exec cal sb w p_derivation (startX 8 [s, X, cmpD x])).res = .exc "InvalidComparisons" := by
  rw [de_is, ex_seq (drop_ok ((ev_c2 (i := 0) (j := 1) rfl rfl).trans h1))]
  have s0 : startX 8 [s, X, cmpD x] = some (.dat s) :: some (.dat X) :: some (.dat (cmpD x)) :: [none, none, none, none, none] := rfl
  have d := deC_ev (cal := cal) (sb := sb) (w := w) (X := X) (ρ := [none, none, none, none, none]) h2
  rw [hk, if_pos rfl] at d
  rw [s0, ex_seq_exc d]; rfl
theorem deE_ev {s a b : D} {xs : List C3} {x : C3} (hl : xs.length ≤ 100) (h : cal "settle" [s, .tuple ((xs ++ [opp x]).map cmpD)] = .val (.tuple [a, b])) {o2 o3 o4 o5 o7 : Option Sl} : ev cal deE [some (.dat s), some (.dat (.tuple (xs.map cmpD))), o2, o3, o4, o5, some (.dat (cmpD (opp x))), o7] = .val b := by
  rw [← map_snoc] at h
  have l1 : mkT [cmpD (opp x)] = some (.tuple [cmpD (opp x)]) := mkT_of (le_lim (by simp))
  have l2 : mkT (xs.map cmpD ++ [cmpD (opp x)]) = some (.tuple (xs.map cmpD ++ [cmpD (opp x)])) := mkT_of (le_lim (by simp; omega))
  unfold deE
  generalize xs.map cmpD = X at *
  generalize cmpD (opp x) = OO at *
  simp [ev, evs, l1, boS, addS, l2, h, ixS, at1]
theorem de_start {s a b : D} {xs : List C3} {x : C3} (hl : xs.length ≤ 100) (h1 : cal "check_consistent" [s, .tuple (xs.map cmpD)] = .val .none) (h2 : cal "is_comparison" [s, cmpD x] = .val (.bool true)) (hk : kEq x.k = false) (h : cal "settle" [s, .tuple ((xs ++ [opp x]).map cmpD)] = .val (.tuple [a, b])) : exec cal sb w p_derivation (startX 8 [s, .tuple (xs.map cmpD), cmpD x]) = exec cal sb w (.seq (.ite (.cmp .is (.var 7) (.lit .none)) (.rais "NotImplied") .skip) (.ret deR)) [some (.dat s), some (.dat (.tuple (xs.map cmpD))), some (.dat (cmpD x)), some (.dat (celD x.a)), some (.dat (.str x.k.s)), some (.dat (celD x.b)), some (.dat (cmpD (opp x))), some (.dat b)] := by
  rw [de_is, ex_seq (drop_ok ((ev_c2 (i := 0) (j := 1) rfl rfl).trans h1))]
  have s0 : startX 8 [s, .tuple (xs.map cmpD), cmpD x] = some (.dat s) :: some (.dat (.tuple (xs.map cmpD))) :: some (.dat (cmpD x)) :: [none, none, none, none, none] := rfl
  have d := deC_ev (cal := cal) (sb := sb) (w := w) (X := .tuple (xs.map cmpD)) (ρ := [none, none, none, none, none]) h2
  rw [hk] at d
  rw [s0, ex_seq d, ex_seq u_ev, ex_seq (ex_asg (op_ev (x := x) rfl rfl rfl) (by simp))]
  simp only [List.set]
  rw [ex_seq (ex_asg (deE_ev hl h) (by simp))]
  rfl
theorem de_not {s a : D} {xs : List C3} {x : C3} (hl : xs.length ≤ 100) (h1 : cal "check_consistent" [s, .tuple (xs.map cmpD)] = .val .none) (h2 : cal "is_comparison" [s, cmpD x] = .val (.bool true)) (hk : kEq x.k = false) (h : cal "settle" [s, .tuple ((xs ++ [opp x]).map cmpD)] = .val (.tuple [a, .none])) : (exec cal sb w p_derivation (startX 8 [s, .tuple (xs.map cmpD), cmpD x])).res = .exc "NotImplied" := by
  rw [de_start hl h1 h2 hk h]; rfl
theorem cut_snoc {α : Type} (l : List α) (t : α) : cutX (l ++ [t]) none (some (-1)) = l ∧ atX (l ++ [t]) (-1) = some t := by
  constructor
  · unfold cutX
    have e1 : sX (l ++ [t]).length 0 none = 0 := rfl
    have e2 : sX (l ++ [t]).length (l ++ [t]).length (some (-1)) = l.length := by
      simp only [sX]; rw [if_pos (by decide)]; simp; omega
    rw [e1, e2, List.drop_zero, Nat.sub_zero, List.take_append_of_le_length (Nat.le_refl _), List.take_length]
  · unfold atX
    rw [if_neg (by decide), if_pos (by simp; omega)]
    have : ((-1 : Int) + ((l ++ [t]).length : Int)).toNat = l.length := by simp; omega
    rw [this, List.getElem?_append_right (Nat.le_refl _)]
    simp
theorem de_yes {s : D} {xs : List C3} {x : C3} {ms : List Int} {t : Int} (hl : xs.length ≤ 100) (h1 : cal "check_consistent" [s, .tuple (xs.map cmpD)] = .val .none) (h2 : cal "is_comparison" [s, cmpD x] = .val (.bool true)) (hk : kEq x.k = false) (h : cal "settle" [s, .tuple ((xs ++ [opp x]).map cmpD)] = .val (.tuple [.none, .tuple (intz (ms ++ [t]))])) : (exec cal sb w p_derivation (startX 8 [s, .tuple (xs.map cmpD), cmpD x])).res = .val (.tuple [.int t, .tuple (intz ms)]) := by
  rw [de_start hl h1 h2 hk h]
  have e : intz (ms ++ [t]) = intz ms ++ [.int t] := by simp [intz]
  have c1 := (cut_snoc (intz ms) (PyData.int t)).1
  have c2 := (cut_snoc (intz ms) (PyData.int t)).2
  rw [← e] at c1 c2
  generalize intz (ms ++ [t]) = V at *
  have i : exec cal sb w (.ite (.cmp .is (.var 7) (.lit .none)) (.rais "NotImplied") .skip) [some (.dat s), some (.dat (.tuple (xs.map cmpD))), some (.dat (cmpD x)), some (.dat (celD x.a)), some (.dat (.str x.k.s)), some (.dat (celD x.b)), some (.dat (cmpD (opp x))), some (.dat (.tuple V))] = .nxt [some (.dat s), some (.dat (.tuple (xs.map cmpD))), some (.dat (cmpD x)), some (.dat (celD x.a)), some (.dat (.str x.k.s)), some (.dat (celD x.b)), some (.dat (cmpD (opp x))), some (.dat (.tuple V))] := rfl
  rw [ex_seq i]
  have r1 : ev cal (.ix (.var 7) (.neg (.lit (.int 1)))) [some (.dat s), some (.dat (.tuple (xs.map cmpD))), some (.dat (cmpD x)), some (.dat (celD x.a)), some (.dat (.str x.k.s)), some (.dat (celD x.b)), some (.dat (cmpD (opp x))), some (.dat (.tuple V))] = .val (.int t) := by
    rw [ev, ev_var (i := 7) rfl, R.bnd_val, ev_m1]
    simp only [R.bnd_val, ixS, c2, ofO_some]
  have r2 := ev_slT (cal := cal) (ρ := [some (.dat s), some (.dat (.tuple (xs.map cmpD))), some (.dat (cmpD x)), some (.dat (celD x.a)), some (.dat (.str x.k.s)), some (.dat (celD x.b)), some (.dat (cmpD (opp x))), some (.dat (.tuple V))]) (ev_var (i := 7) rfl) evo_non (evo_som ev_m1)
  rw [c1] at r2
  unfold deR
  rw [ex_ret (ev_tup2 r1 r2)]; rfl
end
/-! _law_derived -/
def bodyLD : S := (.ret (.ite (.cmp .eq (.var 0) (.lit (.int 0))) (.call "is_implied" (.cons (.var 1) (.cons (.var 2) (.cons (.var 3) .nil)))) (.call "derivation" (.cons (.var 1) (.cons (.var 2) (.cons (.var 3) .nil))))))
def hsLD : List Hnd := [⟨"Inconsistent", (.and (.is "AdditiveError") (.not (.is "NotImplied"))), .str "inconsistent", .str "other"⟩, ⟨"NotImplied", (.and (.is "AdditiveError") (.not (.is "Inconsistent"))), .str "not implied", .str "other"⟩, ⟨"InvalidComparisons", (.and (.is "AdditiveError") (.not (.is "NotImplied"))), .str "comparisons", .str "other"⟩]
theorem ld_is : p__law_derived = .tryy bodyLD 4 ["Inconsistent", "InvalidComparisons", "InvalidSize", "NotImplied"] hsLD := rfl
theorem ex_tryy {cal : Str → List D → R D} {sb : Str → Str → Bool} {w : Nat} {b : S} {i : Nat} {ns : List Str} {hs : List Hnd} {ρ ρ1 : Rho} {c : Str} (hb : exec cal sb w b ρ = .exc c ρ1) (hi : i < ρ1.length) (hc : c ∈ ns) : exec cal sb w (.tryy b i ns hs) ρ = execH sb hs c ρ1 := by
  simp only [exec, hb, if_pos (And.intro hi hc)]
theorem ex_tryr {cal : Str → List D → R D} {sb : Str → Str → Bool} {w : Nat} {b : S} {i : Nat} {ns : List Str} {hs : List Hnd} {ρ : Rho} {d : D} (hb : exec cal sb w b ρ = .ret d) : exec cal sb w (.tryy b i ns hs) ρ = .ret d := by
  simp only [exec, hb]
def ldT : Str → D
  | c => if c = "Inconsistent" then .str "inconsistent" else if c = "NotImplied" then .str "not implied" else .str "comparisons"
section
variable {cal : Str → List D → R D}
theorem bodyLD_0 {s X C : D} {R : R D} (h : cal "is_implied" [s, X, C] = R) : exec cal sub wf bodyLD (startX 5 [.int 0, s, X, C]) = R.out (startX 5 [.int 0, s, X, C]) fun d => .ret d := by
  subst h
  simp [bodyLD, exec, ev, evs, startX, List.replicate, coS, coB, eqS_ii, truR, truth]
theorem bodyLD_1 {s X C : D} {R : R D} (h : cal "derivation" [s, X, C] = R) : exec cal sub wf bodyLD (startX 5 [.int 1, s, X, C]) = R.out (startX 5 [.int 1, s, X, C]) fun d => .ret d := by
  subst h
  have e1 : ((1 : Int) == 0) = false := rfl
  simp [bodyLD, exec, ev, evs, startX, List.replicate, coS, coB, eqS_ii, truR, truth, e1]
theorem ld_val {ρ : Rho} {d : D} (h : exec cal sub wf bodyLD ρ = .ret d) : (exec cal sub wf p__law_derived ρ).res = .val d := by
  rw [ld_is, ex_tryr h]; rfl
theorem ld_inc {ρ : Rho} (hl : ρ.length = 5) (h : exec cal sub wf bodyLD ρ = .exc "Inconsistent" ρ) : (exec cal sub wf p__law_derived ρ).res = .val (.str "inconsistent") := by
  rw [ld_is, ex_tryy h (by omega) (by simp)]
  have e2 : execH sub hsLD "Inconsistent" ρ = .ret (.str "inconsistent") := by kernel_rfl
  rw [e2]; rfl
theorem ld_not {ρ : Rho} (hl : ρ.length = 5) (h : exec cal sub wf bodyLD ρ = .exc "NotImplied" ρ) : (exec cal sub wf p__law_derived ρ).res = .val (.str "not implied") := by
  rw [ld_is, ex_tryy h (by omega) (by simp)]
  have e2 : execH sub hsLD "NotImplied" ρ = .ret (.str "not implied") := by kernel_rfl
  rw [e2]; rfl
theorem ld_cmp {ρ : Rho} (hl : ρ.length = 5) (h : exec cal sub wf bodyLD ρ = .exc "InvalidComparisons" ρ) : (exec cal sub wf p__law_derived ρ).res = .val (.str "comparisons") := by
  rw [ld_is, ex_tryy h (by omega) (by simp)]
  have e2 : execH sub hsLD "InvalidComparisons" ρ = .ret (.str "comparisons") := by kernel_rfl
  rw [e2]; rfl
end
section
variable {tbl : Str → Option Df} (h : Std tbl) {k : Nat}
include h
theorem law_derived0 {r c : Nat} (h1 : 1 ≤ r) (h2 : r ≤ 4) (h3 : 1 ≤ c) (h4 : c ≤ 4) {xs : List C3} (hx : ∀ x ∈ xs, okC r c x) (hl : xs.length ≤ 12) {x : C3} (ho : okC r c x) : call sub wf tbl (k + 9) "_law_derived" [.int 0, sz r c, .tuple (xs.map cmpD), cmpD x] = .val (if conB r c xs then .bool (impB r c xs x) else .str "inconsistent") := by
  have ck := check_consistent h (k := k) h1 h2 h3 h4 hx hl
  have ic := is_comp_ok h (k := k + 3) ho
  have im := implied h (k := k + 2) h2 h4 hx ho (by omega)
  have e : call sub wf tbl (k + 8) "is_implied" [sz r c, .tuple (xs.map cmpD), cmpD x] = (exec (call sub wf tbl (k + 7)) sub wf p_is_implied (startX 3 [sz r c, .tuple (xs.map cmpD), cmpD x])).res := call_eq h.t_is_implied rfl
  rw [call_eq h.t__law_derived rfl]
  cases q : conB r c xs with
  | true =>
    rw [q, if_pos rfl] at ck
    exact ld_val (bodyLD_0 (e.trans (ii_yes ck ic im)))
  | false =>
    rw [q, if_neg (by decide)] at ck
    exact ld_inc (by simp [startX]) (bodyLD_0 (e.trans (ii_no ck)))
/-- what derivation tells -/
theorem law_derived1 {r c : Nat} (h1 : 1 ≤ r) (h2 : r ≤ 4) (h3 : 1 ≤ c) (h4 : c ≤ 4) {xs : List C3} (hx : ∀ x ∈ xs, okC r c x) (hl : xs.length ≤ 12) {x : C3} (ho : okC r c x) : ∃ v, call sub wf tbl (k + 9) "_law_derived" [.int 1, sz r c, .tuple (xs.map cmpD), cmpD x] = .val v ∧
    ((conB r c xs = false ∧ v = .str "inconsistent") ∨ (conB r c xs = true ∧ kEq x.k = true ∧ v = .str "comparisons") ∨ (conB r c xs = true ∧ kEq x.k = false ∧ folB r c xs x = false ∧ v = .str "not implied") ∨ (conB r c xs = true ∧ kEq x.k = false ∧ folB r c xs x = true ∧ ∃ t ms, Der r c xs x t ms ∧ v = .tuple [.int t, .tuple (intz ms)])) := by
  have ck := check_consistent h (k := k) h1 h2 h3 h4 hx hl
  have ic := is_comp_ok h (k := k + 3) ho
  have e : call sub wf tbl (k + 8) "derivation" [sz r c, .tuple (xs.map cmpD), cmpD x] = (exec (call sub wf tbl (k + 7)) sub wf p_derivation (startX 8 [sz r c, .tuple (xs.map cmpD), cmpD x])).res := call_eq h.t_derivation rfl
  have l5 : (startX 5 [.int 1, sz r c, PyData.tuple (xs.map cmpD), cmpD x]).length = 5 := by simp [startX]
  rw [call_eq h.t__law_derived rfl]
  cases q : conB r c xs with
  | false =>
    rw [q, if_neg (by decide)] at ck
    exact ⟨_, ld_inc l5 (bodyLD_1 (e.trans (de_no ck))), .inl ⟨rfl, rfl⟩⟩
  | true =>
    rw [q, if_pos rfl] at ck
    cases ke : kEq x.k with
    | true => exact ⟨_, ld_cmp l5 (bodyLD_1 (e.trans (de_eq ck ic ke))), .inr (.inl ⟨rfl, rfl, rfl⟩)⟩
    | false =>
      have hx' := snoc_ok h hx (opp_ok ho)
      rcases settle h (k := k + 4) h2 h4 hx' (by simp; omega) with ⟨us, vs, hv, es⟩ | ⟨ms, hm, es⟩
      · refine ⟨_, ld_not l5 (bodyLD_1 (e.trans (de_not (by omega) ck ic ke es))), .inr (.inr (.inl ⟨rfl, rfl, ?_, rfl⟩))⟩
        unfold folB; rw [conB_true.2 ⟨us, vs, hv⟩]; rfl
      · have hml : ms.length = xs.length + 1 := by rw [hm.mul.1]; simp
        have hsn : ∃ ns t, ms = ns ++ [t] ∧ ns.length = xs.length := by
          refine ⟨ms.take xs.length, ms.getD xs.length 0, ?_, by rw [List.length_take]; omega⟩
          have := take_snoc (l := ms) (i := xs.length) (x := ms.getD xs.length 0) (by rw [List.getD_eq_getElem?_getD, List.getElem?_eq_getElem (by omega)]; rfl)
          rw [this, ← hml, List.take_length]
        obtain ⟨ns, t, rfl, hn⟩ := hsn
        refine ⟨_, ld_val (bodyLD_1 (e.trans (de_yes (by omega) ck ic ke es))), .inr (.inr (.inr ⟨rfl, rfl, ?_, t, ns, der_of hx (conB_true.1 q) ke hn hm, rfl⟩))⟩
        unfold folB; rw [conB_false.2 (never_both hx' hm)]; rfl
end
end Pg

set_option linter.all false
set_option maxRecDepth 100000
set_option maxHeartbeats 4000000
namespace Pg
open PySem hiding call exec
open Mp
/-! _law_opposite, _law_implied -/
def loE : Ex := (.ite (.cmp .eq (.ix (.var 0) (.lit (.int 1))) (.lit (.str "above"))) (.lit (.str "at least")) (.lit (.str "above")))
theorem lo_is : p__law_opposite = (.ret (.tup (.cons (.ix (.var 0) (.lit (.int 2))) (.cons loE (.cons (.ix (.var 0) (.lit (.int 0))) .nil))))) := rfl
def liV : Ex := (.call "_law_values" (.cons (.lit (.int 0)) (.cons (.var 0) (.cons (.sl (.bin .add (.var 1) (.tup (.cons (.call "_law_opposite" (.cons (.var 2) .nil)) .nil))) (.som (.neg (.lit (.int 12)))) .non) .nil))))
def liA : Ex := (.call "_law_implied" (.cons (.var 0) (.cons (.var 1) (.cons (.tup (.cons (.ix (.var 2) (.lit (.int 0))) (.cons (.lit (.str "at least")) (.cons (.ix (.var 2) (.lit (.int 2))) .nil)))) .nil))))
def liC : Ex := (.call "_law_implied" (.cons (.var 0) (.cons (.var 1) (.cons (.tup (.cons (.ix (.var 2) (.lit (.int 2))) (.cons (.lit (.str "at least")) (.cons (.ix (.var 2) (.lit (.int 0))) .nil)))) .nil))))
theorem li_is : p__law_implied = (.seq (.ite (.cmp .eq (.ix (.var 2) (.lit (.int 1))) (.lit (.str "equal"))) (.seq (.ite (.not liA) (.ret (.lit (.bool false))) .skip) (.ret liC)) .skip) (.ret (.cmp .eq liV (.lit (.str "inconsistent"))))) := rfl
section
variable {cal : Str → List D → R D} {sb : Str → Str → Bool} {w : Nat}
theorem lo_ev {x : C3} : (exec cal sb w p__law_opposite (startX 1 [cmpD x])).res = .val (cmpD (opp x)) := by
  have e : ev cal loE (startX 1 [cmpD x]) = .val (.str (opp x).k.s) := by
    have c := ev_eqB (cal := cal) (ρ := startX 1 [cmpD x]) (ev_kind (i := 0) rfl) (ev_lit (d := .str "above")) (ab_kd x)
    unfold loE opp
    rw [ev, c]
    cases kAb x.k <;> rfl
  rw [lo_is, ex_ret (ev_tup3 (ev_right (i := 0) rfl) e (ev_left (i := 0) rfl))]; rfl
theorem li_ne {s v : D} {xs : List C3} {x : C3} {b : Bool} (hk : kEq x.k = false) (hl : xs.length ≤ 11) (h1 : cal "_law_opposite" [cmpD x] = .val (cmpD (opp x))) (h2 : cal "_law_values" [.int 0, s, .tuple ((xs ++ [opp x]).map cmpD)] = .val v) (h3 : eqS v (.str "inconsistent") = some b) : (exec cal sb w p__law_implied (startX 3 [s, .tuple (xs.map cmpD), cmpD x])).res = .val (.bool b) := by
  have s0 : startX 3 [s, .tuple (xs.map cmpD), cmpD x] = [some (.dat s), some (.dat (.tuple (xs.map cmpD))), some (.dat (cmpD x))] := rfl
  have c := ev_eqB (cal := cal) (ρ := [some (.dat s), some (.dat (.tuple (xs.map cmpD))), some (.dat (cmpD x))]) (ev_kind (i := 2) rfl) (ev_lit (d := .str "equal")) (eq_kd x)
  rw [hk] at c
  rw [li_is, s0, ex_seq ((ite_f c).trans ex_skip)]
  have e2 : ev cal liV [some (.dat s), some (.dat (.tuple (xs.map cmpD))), some (.dat (cmpD x))] = .val v := by
    rw [← map_snoc] at h2
    have l1 : mkT [cmpD (opp x)] = some (.tuple [cmpD (opp x)]) := mkT_of (le_lim (by simp))
    have l2 : mkT (xs.map cmpD ++ [cmpD (opp x)]) = some (.tuple (xs.map cmpD ++ [cmpD (opp x)])) := mkT_of (le_lim (by simp; omega))
    have l3 : cutX (xs.map cmpD ++ [cmpD (opp x)]) (some (-12)) none = xs.map cmpD ++ [cmpD (opp x)] := by
      unfold cutX
      have q : sX (xs.map cmpD ++ [cmpD (opp x)]).length 0 (some (-12)) = 0 := by
        simp only [sX]; rw [if_pos (by decide)]; simp; omega
      have q2 : sX (xs.map cmpD ++ [cmpD (opp x)]).length (xs.map cmpD ++ [cmpD (opp x)]).length none = (xs.map cmpD ++ [cmpD (opp x)]).length := rfl
      rw [q, q2, List.drop_zero, Nat.sub_zero, List.take_length]
    unfold liV
    generalize xs.map cmpD = X at *
    generalize cmpD (opp x) = OO at *
    generalize cmpD x = C at *
    simp [ev, evs, evo, h1, l1, boS, addS, l2, negS, optI, slS, l3, h2]
  rw [ex_ret (ev_eqB e2 ev_lit h3)]; rfl
theorem li_eq {s X : D} {x : C3} {b1 b2 : Bool} (hk : kEq x.k = true) (h1 : cal "_law_implied" [s, X, cmpD ⟨x.a, .le, x.b⟩] = .val (.bool b1)) (h2 : cal "_law_implied" [s, X, cmpD ⟨x.b, .le, x.a⟩] = .val (.bool b2)) : (exec cal sb w p__law_implied (startX 3 [s, X, cmpD x])).res = .val (.bool (b1 && b2)) := by
  have s0 : startX 3 [s, X, cmpD x] = [some (.dat s), some (.dat X), some (.dat (cmpD x))] := rfl
  have c := ev_eqB (cal := cal) (ρ := [some (.dat s), some (.dat X), some (.dat (cmpD x))]) (ev_kind (i := 2) rfl) (ev_lit (d := .str "equal")) (eq_kd x)
  rw [hk] at c
  have a1 : ev cal liA [some (.dat s), some (.dat X), some (.dat (cmpD x))] = .val (.bool b1) := by
    have t := ev_tup3 (cal := cal) (ρ := [some (.dat s), some (.dat X), some (.dat (cmpD x))]) (ev_left (i := 2) rfl) (ev_lit (d := .str "at least")) (ev_right (i := 2) rfl)
    unfold liA
    rw [ev, evs, evs, evs, t, ev_var (i := 0) rfl, ev_var (i := 1) rfl]
    simp only [R.bnd_val, evs]
    exact h1
  have a2 : ev cal liC [some (.dat s), some (.dat X), some (.dat (cmpD x))] = .val (.bool b2) := by
    have t := ev_tup3 (cal := cal) (ρ := [some (.dat s), some (.dat X), some (.dat (cmpD x))]) (ev_right (i := 2) rfl) (ev_lit (d := .str "at least")) (ev_left (i := 2) rfl)
    unfold liC
    rw [ev, evs, evs, evs, t, ev_var (i := 0) rfl, ev_var (i := 1) rfl]
    simp only [R.bnd_val, evs]
    exact h2
  rw [li_is, s0]
  have body : exec cal sb w (.seq (.ite (.not liA) (.ret (.lit (.bool false))) .skip) (.ret liC)) [some (.dat s), some (.dat X), some (.dat (cmpD x))] = .ret (.bool (b1 && b2)) := by
    cases b1 with
    | false => rw [ex_seq_ret ((ite_t (ev_notB a1)).trans (ex_ret ev_lit))]; rfl
    | true => rw [ex_seq ((ite_f (ev_notB a1)).trans ex_skip), ex_ret a2]; rfl
  rw [ex_seq_ret ((ite_t c).trans body)]; rfl
end
section
variable {tbl : Str → Option Df} (h : Std tbl) {k : Nat}
include h
theorem law_implied_ne {r c : Nat} (h1 : 1 ≤ r) (h2 : r ≤ 4) (h3 : 1 ≤ c) (h4 : c ≤ 4) {xs : List C3} (hx : ∀ x ∈ xs, okC r c x) (hl : xs.length ≤ 11) {x : C3} (ho : okC r c x) (hk : kEq x.k = false) : call sub wf tbl (k + 9) "_law_implied" [sz r c, .tuple (xs.map cmpD), cmpD x] = .val (.bool (folB r c xs x)) := by
  have lo : call sub wf tbl (k + 8) "_law_opposite" [cmpD x] = .val (cmpD (opp x)) := by rw [call_eq h.t__law_opposite rfl]; exact lo_ev
  have hx' := snoc_ok h hx (opp_ok ho)
  rw [call_eq h.t__law_implied rfl]
  rcases told h (k := k) h1 h2 h3 h4 hx' (by simp; omega) with ⟨ua, va, hv, e, _, _⟩ | ⟨ms, hc, e, _, _⟩
  · have : folB r c xs x = false := by unfold folB; rw [conB_true.2 ⟨ua, va, hv⟩]; rfl
    rw [this]
    exact li_ne hk hl lo e (eq_vals_str (by kernel_rfl))
  · have : folB r c xs x = true := by unfold folB; rw [conB_false.2 (never_both hx' hc)]; rfl
    rw [this]
    exact li_ne hk hl lo e (by rw [eqS_ss, BEq.rfl])
theorem law_implied {r c : Nat} (h1 : 1 ≤ r) (h2 : r ≤ 4) (h3 : 1 ≤ c) (h4 : c ≤ 4) {xs : List C3} (hx : ∀ x ∈ xs, okC r c x) (hl : xs.length ≤ 11) {x : C3} (ho : okC r c x) : call sub wf tbl (k + 10) "_law_implied" [sz r c, .tuple (xs.map cmpD), cmpD x] = .val (.bool (impB r c xs x)) := by
  unfold impB
  cases e : kEq x.k with
  | false => rw [if_neg (by decide)]; exact law_implied_ne h (k := k + 1) h1 h2 h3 h4 hx hl ho e
  | true =>
    rw [if_pos rfl, call_eq h.t__law_implied rfl]
    obtain ⟨g1, g2, g3, g4, g5⟩ := ho
    exact li_eq e (law_implied_ne h h1 h2 h3 h4 hx hl ⟨g1, g2, g3, g4, g5⟩ rfl) (law_implied_ne h h1 h2 h3 h4 hx hl ⟨g3, g4, g1, g2, fun e => g5 e.symm⟩ rfl)
end
/-! _law_one -/
def onO : Ex := (.lc (.nm 7) (.seq (.var 4)) (.som (.cmp .ne (.var 7) (.var 5))) (.var 7) [7])
def onL : Ex := (.ix (.var 4) (.bin .mod (.ix (.var 3) (.lit (.int 0))) (.blt .len (.cons (.var 4) .nil))))
def onK : Ex := (.ix (.lst (.cons (.lit (.str "above")) (.cons (.lit (.str "at least")) (.cons (.lit (.str "equal")) .nil)))) (.bin .mod (.ix (.var 3) (.lit (.int 1))) (.lit (.int 3))))
def onR : Ex := (.ix (.var 6) (.bin .mod (.ix (.var 3) (.lit (.int 2))) (.blt .len (.cons (.var 6) .nil))))
theorem on_is : p__law_one = (.seq (.asg (.nm 3) (.call "_law_row" (.cons (.var 0) (.cons (.var 1) .nil)))) (.seq (.asg (.nm 4) (.call "_law_cells" (.cons (.var 2) .nil))) (.seq (.asg (.nm 5) onL) (.seq (.asg (.nm 6) onO) (.ret (.tup (.cons (.var 5) (.cons onK (.cons onR .nil))))))))) := rfl
theorem eq_cel (p q : Nat × Nat) : eqS (celD p) (celD q) = some (decide (p = q)) := by
  unfold celD cel
  rw [eqS_int2]
  congr 1
  by_cases h : p = q
  · subst h; simp
  · rw [decide_eq_false h, Bool.and_eq_false_iff]
    by_cases a : p.1 = q.1
    · right
      rw [decide_eq_false_iff_not]
      intro e
      exact h (Prod.ext a (by omega))
    · left
      rw [decide_eq_false_iff_not]
      intro e
      exact a (by omega)
section
variable {cal : Str → List D → R D} {ρ : Rho}
theorem on_oth {L : List (Nat × Nat)} {p : Nat × Nat} (hr : ρ.length = 8) (hl : L.length ≤ 100) (h4 : ρ[4]? = some (some (.dat (.list (L.map celD))))) (h5 : ρ[5]? = some (some (.dat (celD p)))) : ev cal onO ρ = .val (.list ((L.filter fun q => decide (q ≠ p)).map celD)) := by
  refine ev_lcS (xs := L.map celD) (by simp only [evi, ev, h4, R.bnd_val, seqS, ofO_some]) ?_ (le_lim (by rw [List.length_map]; exact Nat.le_trans (List.length_filter_le _ _) (by omega)))
  refine lc_keep fun q hq => ?_
  have g5 : ((ρ.set 7 none).set 7 (some (.dat (celD q))))[5]? = some (some (.dat (celD p))) := by
    rw [List.getElem?_set_ne (by decide), List.getElem?_set_ne (by decide)]; exact h5
  have g7 : ((ρ.set 7 none).set 7 (some (.dat (celD q))))[7]? = some (some (.dat (celD q))) := by
    rw [List.getElem?_set_self (by simp [hr])]
  have c := ev_neB (cal := cal) (ev_var g7) (ev_var g5) (eq_cel q p)
  have hl7 : 7 < (wipeX ρ [7]).length := by simp [wipeX, hr]
  have v7 := ev_var (cal := cal) g7
  simp only [lcS, wipeX, asgT, show 7 < (ρ.set 7 none).length by simp [hr], if_true, evt, truR, c, v7, R.bnd_val, truth, ofO_some]
  by_cases e : q = p
  · subst e; simp
  · simp [e]
theorem ev_pick {i j l : Nat} {U : List D} {L : List (Nat × Nat)} {a d : Int} (hi : ρ[i]? = some (some (.dat (.list (L.map celD))))) (hj : ρ[j]? = some (some (.dat (.list U)))) (e : atX U a = some (.int d)) (hL : 0 < L.length) : ∃ p ∈ L, ev cal (.ix (.var i) (.bin .mod (.ix (.var j) (.lit (.int a))) (.blt .len (.cons (.var i) .nil)))) ρ = .val (celD p) := by
  obtain ⟨p, hp, ep⟩ := mem_at (L := L) (d := d) hL
  refine ⟨p, hp, ?_⟩
  have hlen : ev cal (.blt .len (.cons (.var i) .nil)) ρ = .val (.int ((L.map celD).length : Int)) := by
    simp only [ev, evs, hi, R.bnd_val, bfS, ofO_some]
  have m := ev_modI (cal := cal) (ev_dr hj e) hlen (by simp; omega)
  rw [ev, ev_var hi, R.bnd_val, m]
  simp only [R.bnd_val, ixS, ep, ofO_some]
end
section
variable {tbl : Str → Option Df} (h : Std tbl) {k : Nat}
include h
theorem cells_len {r c : Nat} (h2 : 1 < r * c) : 1 < (cellsOf r c).length := by
  have : (cellsOf r c).length = r * c := by
    unfold cellsOf
    rw [List.length_flatMap]
    simp only [List.length_map, List.length_range]
    clear h2
    induction r with
    | zero => simp
    | succ r ih => rw [List.range_succ, List.map_append, List.sum_append, ih]; simp; grind
  omega
theorem law_one (ns : List Int) {a : Int} (ha : 0 ≤ a) {r c : Nat} (h1 : 1 ≤ r) (h2 : r ≤ 4) (h3 : 1 ≤ c) (h4 : c ≤ 4) (h5 : 1 < r * c) : ∃ x, okC r c x ∧ call sub wf tbl (k + 3) "_law_one" [scr (intz ns), .int a, sz r c] = .val (cmpD x) := by
  obtain ⟨ds, d1, d2, d3⟩ := law_row h (k := k) ns ha
  have ce := law_cells h (k := k + 1) h1 h2 h3 h4
  have nd := (cells_nodup h1 h2 h3 h4).1
  have ln := (cells_nodup h1 h2 h3 h4).2
  have l1 := cells_len h h5
  have mem : ∀ p ∈ cellsOf r c, p.1 < r ∧ p.2 < c := fun p hp => mem_cells hp
  generalize cellsOf r c = L at *
  obtain ⟨e0, _, f0⟩ := ints_at (ds := ds) (j := 0) (by decide) (by omega)
  obtain ⟨e1, _, f1⟩ := ints_at (ds := ds) (j := 1) (by decide) (by omega)
  obtain ⟨e2, _, f2⟩ := ints_at (ds := ds) (j := 2) (by decide) (by omega)
  rw [call_eq h.t__law_one rfl, on_is]
  generalize call sub wf tbl (k + 2) = cal at *
  have s0 : startX 8 [scr (intz ns), .int a, sz r c] = [some (.dat (scr (intz ns))), some (.dat (.int a)), some (.dat (sz r c)), none, none, none, none, none] := rfl
  rw [s0, ex_seq (ex_asg ((ev_c2 (i := 0) (j := 1) rfl rfl).trans d3) (by simp))]
  simp only [List.set]
  rw [ex_seq (ex_asg ((ev_c1 (i := 2) rfl).trans ce) (by simp))]
  simp only [List.set]
  obtain ⟨p, hp, ep⟩ := ev_pick (cal := cal) (ρ := [some (.dat (scr (intz ns))), some (.dat (.int a)), some (.dat (sz r c)), some (.dat (.list (intz ds))), some (.dat (.list (L.map celD))), none, none, none]) (i := 4) (j := 3) (l := 0) rfl rfl f0 (by omega)
  have ep' : ev cal onL [some (.dat (scr (intz ns))), some (.dat (.int a)), some (.dat (sz r c)), some (.dat (.list (intz ds))), some (.dat (.list (L.map celD))), none, none, none] = .val (celD p) := ep
  rw [ex_seq (ex_asg ep' (by simp))]
  simp only [List.set]
  have eo := on_oth (cal := cal) (ρ := [some (.dat (scr (intz ns))), some (.dat (.int a)), some (.dat (sz r c)), some (.dat (.list (intz ds))), some (.dat (.list (L.map celD))), some (.dat (celD p)), none, none]) (L := L) (p := p) rfl ln rfl rfl
  rw [ex_seq (ex_asg eo (by simp))]
  simp only [List.set]
  have fp := filt_pos nd l1 p
  obtain ⟨q, hq, eq⟩ := ev_pick (cal := cal) (ρ := [some (.dat (scr (intz ns))), some (.dat (.int a)), some (.dat (sz r c)), some (.dat (.list (intz ds))), some (.dat (.list (L.map celD))), some (.dat (celD p)), some (.dat (.list ((L.filter fun q => decide (q ≠ p)).map celD))), none]) (i := 6) (j := 3) (l := 0) (L := L.filter fun q => decide (q ≠ p)) rfl rfl f2 fp
  obtain ⟨kd, ek⟩ := ev_kd3 (cal := cal) (ρ := [some (.dat (scr (intz ns))), some (.dat (.int a)), some (.dat (sz r c)), some (.dat (.list (intz ds))), some (.dat (.list (L.map celD))), some (.dat (celD p)), some (.dat (.list ((L.filter fun q => decide (q ≠ p)).map celD))), none]) (i := 3) rfl f1
  have hq' := List.mem_filter.1 hq
  have ne : q ≠ p := of_decide_eq_true hq'.2
  refine ⟨⟨p, kd, q⟩, ⟨(mem p hp).1, (mem p hp).2, (mem q hq'.1).1, (mem q hq'.1).2, fun e => ne e.symm⟩, ?_⟩
  unfold onK onR
  rw [ex_ret (ev_tup3 (ev_var (i := 5) rfl) ek eq)]
  rfl
end
end Pg

set_option linter.all false
set_option maxRecDepth 100000
set_option maxHeartbeats 4000000
namespace Pg
open PySem hiding call exec
open Mp
/-! is_derivation, by the program and by the law -/
def dA (f : Str) : S := (.ite (.or (.not (.blt (.isi .tuple) (.cons (.var 3) .nil))) (.or (.cmp .ne (.blt .len (.cons (.var 3) .nil)) (.lit (.int 2))) (.not (.call f (.cons (.var 1) (.cons (.ix (.var 3) (.lit (.int 1))) .nil)))))) (.ret (.lit (.bool false))) .skip)
def dB : S := (.ite (.or (.not (.blt (.isi .int) (.cons (.ix (.var 3) (.lit (.int 0))) .nil))) (.or (.blt (.isi .bool) (.cons (.ix (.var 3) (.lit (.int 0))) .nil)) (.cmp .lt (.ix (.var 3) (.lit (.int 0))) (.lit (.int 1))))) (.ret (.lit (.bool false))) .skip)
def ldE : Ex := (.cmp .eq (.call "_law_total" (.cons (.var 0) (.cons (.var 1) (.cons (.ix (.var 3) (.lit (.int 1))) .nil)))) (.call "_law_total" (.cons (.var 0) (.cons (.tup (.cons (.var 2) .nil)) (.cons (.tup (.cons (.ix (.var 3) (.lit (.int 0))) .nil)) .nil)))))
def ldC : S := (.ite (.and (.cmp .eq (.ix (.var 2) (.lit (.int 1))) (.lit (.str "above"))) (.not (.call "_law_strict" (.cons (.var 1) (.cons (.ix (.var 3) (.lit (.int 1))) .nil))))) (.ret (.lit (.bool false))) .skip)
theorem lde_is : p__law_is_derivation = (.seq (dA "_law_are_multipliers") (.seq dB (.seq ldC (.ret ldE)))) := rfl
def ddC : S := (.ite (.and (.cmp .eq (.ix (.var 2) (.lit (.int 1))) (.lit (.str "above"))) (.not (.var 4))) (.ret (.lit (.bool false))) .skip)
def ddG : Ex := (.lc (.nm 5) (.seq (.call "difference" (.cons (.var 0) (.cons (.ix (.var 2) (.lit (.int 0))) (.cons (.ix (.var 2) (.lit (.int 2))) .nil))))) .non (.bin .mul (.ix (.var 3) (.lit (.int 0))) (.var 5)) [5])
def ddT : Ex := (.cmp .eq (.call "total_difference" (.cons (.var 0) (.cons (.var 1) (.cons (.ix (.var 3) (.lit (.int 1))) .nil)))) (.var 7))
theorem dd_is : p_is_derivation = (.seq (.drop (.call "check_comparisons" (.cons (.var 0) (.cons (.var 1) .nil)))) (.seq deC (.seq (dA "are_multipliers") (.seq dB (.seq (.asg (.nm 4) (icE 5 (.ix (.var 3) (.lit (.int 1))))) (.seq ddC (.seq (.asg (.nm 7) ddG) (.ret ddT)))))))) := rfl
section
variable {cal : Str → List D → R D} {sb : Str → Str → Bool} {w : Nat} {s X C : D} {ρ : List (Option Sl)}
theorem isi_tup {v : D} {b : D} {i : Nat} {σ : Rho} (h : σ[i]? = some (some (.dat v))) (e : tyS .tuple v = some b) : ev cal (.blt (.isi .tuple) (.cons (.var i) .nil)) σ = .val b := by
  simp only [ev, evs, h, R.bnd_val, bfS, e, ofO_some]
theorem dA_no1 {f : Str} {v : D} (hv : tyS .tuple v = some (.bool false)) : exec cal sb w (dA f) (some (.dat s) :: some (.dat X) :: some (.dat C) :: some (.dat v) :: ρ) = .ret (.bool false) := by
  have a := ev_notB (isi_tup (cal := cal) (i := 3) (σ := some (.dat s) :: some (.dat X) :: some (.dat C) :: some (.dat v) :: ρ) rfl hv)
  have c := ev_orB (y := false) (b := (.or (.cmp .ne (.blt .len (.cons (.var 3) .nil)) (.lit (.int 2))) (.not (.call f (.cons (.var 1) (.cons (.ix (.var 3) (.lit (.int 1))) .nil)))))) a (fun e => by cases e)
  exact (ite_t c).trans (ex_ret ev_lit)
theorem dA_no2 {f : Str} {ds : List D} (hl : ¬ ds.length = 2) : exec cal sb w (dA f) (some (.dat s) :: some (.dat X) :: some (.dat C) :: some (.dat (.tuple ds)) :: ρ) = .ret (.bool false) := by
  have a := ev_notB (isi_tup (cal := cal) (i := 3) (σ := some (.dat s) :: some (.dat X) :: some (.dat C) :: some (.dat (.tuple ds)) :: ρ) rfl rfl)
  have l := ev_neB (cal := cal) (ρ := some (.dat s) :: some (.dat X) :: some (.dat C) :: some (.dat (.tuple ds)) :: ρ) (ev_lenT (i := 3) rfl) (ev_lit (d := .int 2)) (k := false) (by rw [eqS_ii, beq_eq_false_iff_ne.2 (by omega)])
  have c := ev_orB a (fun _ => ev_orB (y := false) (b := (.not (.call f (.cons (.var 1) (.cons (.ix (.var 3) (.lit (.int 1))) .nil))))) l (fun e => by cases e))
  exact (ite_t c).trans (ex_ret ev_lit)
theorem ev_fst {i : Nat} {σ : Rho} {a b : D} (h : σ[i]? = some (some (.dat (.tuple [a, b])))) : ev cal (.ix (.var i) (.lit (.int 0))) σ = .val a := by
  simp only [ev, h, R.bnd_val, ixS, at0, ofO_some]
theorem ev_snd {i : Nat} {σ : Rho} {a b : D} (h : σ[i]? = some (some (.dat (.tuple [a, b])))) : ev cal (.ix (.var i) (.lit (.int 1))) σ = .val b := by
  simp only [ev, h, R.bnd_val, ixS, at1, ofO_some]
theorem dA_mul {f : Str} {a b : D} {m : Bool} (h : cal f [X, b] = .val (.bool m)) : exec cal sb w (dA f) (some (.dat s) :: some (.dat X) :: some (.dat C) :: some (.dat (.tuple [a, b])) :: ρ) = if m then .nxt (some (.dat s) :: some (.dat X) :: some (.dat C) :: some (.dat (.tuple [a, b])) :: ρ) else .ret (.bool false) := by
  have a1 := ev_notB (isi_tup (cal := cal) (i := 3) (σ := some (.dat s) :: some (.dat X) :: some (.dat C) :: some (.dat (.tuple [a, b])) :: ρ) rfl rfl)
  have l := ev_neB (cal := cal) (ρ := some (.dat s) :: some (.dat X) :: some (.dat C) :: some (.dat (.tuple [a, b])) :: ρ) (ev_lenT (i := 3) rfl) (ev_lit (d := .int 2)) (k := true) (by rw [eqS_ii]; rfl)
  have cl : ev cal (.call f (.cons (.var 1) (.cons (.ix (.var 3) (.lit (.int 1))) .nil))) (some (.dat s) :: some (.dat X) :: some (.dat C) :: some (.dat (.tuple [a, b])) :: ρ) = .val (.bool m) := by
    rw [ev, evs, evs, ev_var (i := 1) rfl, ev_snd (i := 3) rfl]
    simp only [R.bnd_val, evs]
    exact h
  have c := ev_orB a1 (fun _ => ev_orB l (fun _ => ev_notB cl))
  unfold dA
  rw [ex_ite c rfl]
  cases m <;> rfl
theorem dB_int {t : Int} {b : D} : exec cal sb w dB (some (.dat s) :: some (.dat X) :: some (.dat C) :: some (.dat (.tuple [.int t, b])) :: ρ) = if t < 1 then .ret (.bool false) else .nxt (some (.dat s) :: some (.dat X) :: some (.dat C) :: some (.dat (.tuple [.int t, b])) :: ρ) := by
  have f := ev_fst (cal := cal) (i := 3) (σ := some (.dat s) :: some (.dat X) :: some (.dat C) :: some (.dat (.tuple [.int t, b])) :: ρ) (a := .int t) (b := b) rfl
  have ty : ∀ (ty : Ty) (d : D), tyS ty (.int t) = some d → ev cal (.blt (.isi ty) (.cons (.ix (.var 3) (.lit (.int 0))) .nil)) (some (.dat s) :: some (.dat X) :: some (.dat C) :: some (.dat (.tuple [.int t, b])) :: ρ) = .val d := fun ty d e => by
    rw [ev, evs, f]
    simp only [R.bnd_val, evs, bfS, e, ofO_some]
  have lt : ev cal (.cmp .lt (.ix (.var 3) (.lit (.int 0))) (.lit (.int 1))) (some (.dat s) :: some (.dat X) :: some (.dat C) :: some (.dat (.tuple [.int t, b])) :: ρ) = .val (.bool (decide (t < 1))) := by
    rw [ev, f]
    simp only [R.bnd_val, ev, coS, coB, ltS, Option.map_some, ofO_some]
  have c := ev_orB (ev_notB (ty .int (.bool true) rfl)) (fun _ => ev_orB (ty .bool (.bool false) rfl) (fun _ => lt))
  unfold dB
  rw [ex_ite c rfl]
  by_cases q : t < 1
  · rw [if_pos q, decide_eq_true q]; rfl
  · rw [if_neg q, decide_eq_false q]; rfl
theorem dB_ev {a b : D} (hp : plain a = true) : exec cal sb w dB (some (.dat s) :: some (.dat X) :: some (.dat C) :: some (.dat (.tuple [a, b])) :: ρ) = .ret (.bool false) ∨ ∃ t : Int, a = .int t ∧ exec cal sb w dB (some (.dat s) :: some (.dat X) :: some (.dat C) :: some (.dat (.tuple [a, b])) :: ρ) = if t < 1 then .ret (.bool false) else .nxt (some (.dat s) :: some (.dat X) :: some (.dat C) :: some (.dat (.tuple [a, b])) :: ρ) := by
  have f := ev_fst (cal := cal) (i := 3) (σ := some (.dat s) :: some (.dat X) :: some (.dat C) :: some (.dat (.tuple [a, b])) :: ρ) (a := a) (b := b) rfl
  have ty : ∀ (t : Ty) (d : D), tyS t a = some d → ev cal (.blt (.isi t) (.cons (.ix (.var 3) (.lit (.int 0))) .nil)) (some (.dat s) :: some (.dat X) :: some (.dat C) :: some (.dat (.tuple [a, b])) :: ρ) = .val d := fun t d e => by
    rw [ev, evs, f]
    simp only [R.bnd_val, evs, bfS, e, ofO_some]
  have lt : ∀ t : Int, a = .int t → ev cal (.cmp .lt (.ix (.var 3) (.lit (.int 0))) (.lit (.int 1))) (some (.dat s) :: some (.dat X) :: some (.dat C) :: some (.dat (.tuple [a, b])) :: ρ) = .val (.bool (decide (t < 1))) := fun t e => by
    rw [ev, f, e]
    simp only [R.bnd_val, ev, coS, coB, ltS, Option.map_some, ofO_some]
  unfold dB
  cases a with
  | int t =>
    right
    refine ⟨t, rfl, ?_⟩
    have c := ev_orB (ev_notB (ty .int (.bool true) rfl)) (fun _ => ev_orB (ty .bool (.bool false) rfl) (fun _ => lt t rfl))
    rw [ex_ite c rfl]
    by_cases q : t < 1
    · rw [if_pos q, decide_eq_true q]; rfl
    · rw [if_neg q, decide_eq_false q]; rfl
  | bool v =>
    left
    have c := ev_orB (ev_notB (ty .int (.bool true) rfl)) (fun _ => ev_orB (y := false) (b := (.cmp .lt (.ix (.var 3) (.lit (.int 0))) (.lit (.int 1)))) (ty .bool (.bool true) rfl) (fun e => by cases e))
    exact (ite_t c).trans (ex_ret ev_lit)
  | dict _ => simp [plain] at hp
  | _ =>
    left
    have c := ev_orB (y := false) (b := (.or (.blt (.isi .bool) (.cons (.ix (.var 3) (.lit (.int 0))) .nil)) (.cmp .lt (.ix (.var 3) (.lit (.int 0))) (.lit (.int 1))))) (ev_notB (ty .int (.bool false) rfl)) (fun e => by cases e)
    exact (ite_t c).trans (ex_ret ev_lit)
end
/-- whether the total is a multiple of a difference -/
def gB (r c : Nat) (xs : List C3) (x : C3) (t : Int) (ms : List Int) : Bool := (List.range (r + c)).all fun j => tot r xs ms j == t * dfc r x.a x.b j
def derB (r c : Nat) (xs : List C3) (x : C3) (t : Int) (ms : List Int) : Bool := !(kAb x.k && !sB xs ms) && gB r c xs x t ms
theorem tot_one (r : Nat) (x : C3) (t : Int) (j : Nat) : tot r [x] [t] j = t * dfc r x.a x.b j := by
  unfold tot nth
  simp [Sx.sm]
section
variable {cal : Str → List D → R D} {sb : Str → Str → Bool} {w : Nat}
theorem lde_end {r c : Nat} {xs : List C3} {x : C3} {t : Int} {ms : List Int} (h1 : cal "_law_strict" [.tuple (xs.map cmpD), .tuple (intz ms)] = .val (.bool (sB xs ms))) (h2 : cal "_law_total" [sz r c, .tuple (xs.map cmpD), .tuple (intz ms)] = .val (.list (rowL (r + c) (tot r xs ms)))) (h3 : cal "_law_total" [sz r c, .tuple [cmpD x], .tuple [.int t]] = .val (.list (rowL (r + c) (tot r [x] [t])))) : exec cal sb w (.seq ldC (.ret ldE)) [some (.dat (sz r c)), some (.dat (.tuple (xs.map cmpD))), some (.dat (cmpD x)), some (.dat (.tuple [.int t, .tuple (intz ms)]))] = .ret (.bool (derB r c xs x t ms)) := by
  have cs : ev cal (.call "_law_strict" (.cons (.var 1) (.cons (.ix (.var 3) (.lit (.int 1))) .nil))) [some (.dat (sz r c)), some (.dat (.tuple (xs.map cmpD))), some (.dat (cmpD x)), some (.dat (.tuple [.int t, .tuple (intz ms)]))] = .val (.bool (sB xs ms)) := by
    rw [ev, evs, evs, ev_var (i := 1) rfl, ev_snd (i := 3) rfl]
    simp only [R.bnd_val, evs]
    exact h1
  have cc := ev_andB (ev_eqB (cal := cal) (ρ := [some (.dat (sz r c)), some (.dat (.tuple (xs.map cmpD))), some (.dat (cmpD x)), some (.dat (.tuple [.int t, .tuple (intz ms)]))]) (ev_kind (i := 2) rfl) (ev_lit (d := .str "above")) (ab_kd x)) (fun _ => ev_notB cs)
  have e := eq_rows (r + c) (tot r xs ms) (tot r [x] [t])
  have hg : ((List.range (r + c)).all fun j => tot r xs ms j == tot r [x] [t] j) = gB r c xs x t ms := by
    unfold gB
    congr 1; funext j; rw [tot_one]
  rw [hg] at e
  have t1 : ev cal (.call "_law_total" (.cons (.var 0) (.cons (.var 1) (.cons (.ix (.var 3) (.lit (.int 1))) .nil)))) [some (.dat (sz r c)), some (.dat (.tuple (xs.map cmpD))), some (.dat (cmpD x)), some (.dat (.tuple [.int t, .tuple (intz ms)]))] = .val (.list (rowL (r + c) (tot r xs ms))) := by
    rw [ev, evs, evs, evs, ev_var (i := 0) rfl, ev_var (i := 1) rfl, ev_snd (i := 3) rfl]
    simp only [R.bnd_val, evs]
    exact h2
  have t2 : ev cal (.call "_law_total" (.cons (.var 0) (.cons (.tup (.cons (.var 2) .nil)) (.cons (.tup (.cons (.ix (.var 3) (.lit (.int 0))) .nil)) .nil)))) [some (.dat (sz r c)), some (.dat (.tuple (xs.map cmpD))), some (.dat (cmpD x)), some (.dat (.tuple [.int t, .tuple (intz ms)]))] = .val (.list (rowL (r + c) (tot r [x] [t]))) := by
    rw [ev, evs, evs, evs, ev_var (i := 0) rfl, ev_tup1 (ev_var (i := 2) rfl), ev_tup1 (ev_fst (i := 3) rfl)]
    simp only [R.bnd_val, evs]
    exact h3
  have te := ev_eqB t1 t2 e
  unfold derB
  cases q : (kAb x.k && !sB xs ms) with
  | true =>
    rw [q] at cc
    unfold ldC
    rw [ex_seq_ret ((ite_t cc).trans (ex_ret ev_lit))]; rfl
  | false =>
    rw [q] at cc
    unfold ldC ldE
    rw [ex_seq ((ite_f cc).trans ex_skip), ex_ret te]; rfl
theorem ddG_ev {s : D} {x : C3} {t : Int} {W : Nat} {g : Nat → Int} {b : D} {o1 o4 o6 o7 : Option Sl} (hW : W ≤ 100) (h : cal "difference" [s, celD x.a, celD x.b] = .val (.list (rowL W g))) (hm : ∀ j, j < W → mulOk t (g j) = true) : ev cal ddG [some (.dat s), o1, some (.dat (cmpD x)), some (.dat (.tuple [.int t, b])), o4, none, o6, o7] = .val (.list (rowL W fun j => t * g j)) := by
  have dc : ev cal (.call "difference" (.cons (.var 0) (.cons (.ix (.var 2) (.lit (.int 0))) (.cons (.ix (.var 2) (.lit (.int 2))) .nil)))) [some (.dat s), o1, some (.dat (cmpD x)), some (.dat (.tuple [.int t, b])), o4, none, o6, o7] = .val (.list (rowL W g)) := by
    rw [ev, evs, evs, evs, ev_var (i := 0) rfl, ev_left (i := 2) rfl, ev_right (i := 2) rfl]
    simp only [R.bnd_val, evs]
    exact h
  refine ev_lcS (xs := (List.range W).map fun (j : Nat) => PyData.int (g j)) (by
    show _ = R.val (rowL W g)
    rw [evi, dc]; simp only [R.bnd_val, seqS, ofO_some]) ?_ (le_lim (by rw [rowL_len]; omega))
  refine lc_idx fun j hj => ?_
  simp only []
  have a1 := hm j (by simpa using hj)
  generalize cmpD x = C at *
  generalize g j = G at *
  simp [lcS, eqS_ii, eqS_ss, exec, ev, evs, evo, evt, evi, startX, coS, coB, ltS, leS, gtS, geS, isS, isNone, bfS, tyS, ixS, boS, addS, subS, mulS, modS, fdivS, powS, negS, truth, truR, O.res, asgT, asgTs, mkT, mkL, optI, slS, frzAt, frzS, R.out, seqS, wipeX, at0, a1]
theorem dd_end {r c : Nat} {xs : List C3} {x : C3} {t : Int} {ms : List Int} (hW : r + c ≤ 100) (hx : xs.length ≤ 100) (hl : ms.length = xs.length) (h2 : cal "total_difference" [sz r c, .tuple (xs.map cmpD), .tuple (intz ms)] = .val (.list (rowL (r + c) (tot r xs ms)))) (h3 : cal "difference" [sz r c, celD x.a, celD x.b] = .val (.list (rowL (r + c) (dfc r x.a x.b)))) : exec cal sb w (.seq (.asg (.nm 4) (icE 5 (.ix (.var 3) (.lit (.int 1))))) (.seq ddC (.seq (.asg (.nm 7) ddG) (.ret ddT)))) [some (.dat (sz r c)), some (.dat (.tuple (xs.map cmpD))), some (.dat (cmpD x)), some (.dat (.tuple [.int t, .tuple (intz ms)])), none, none, none, none] = .ret (.bool (derB r c xs x t ms)) := by
  obtain ⟨ys, e1, e2⟩ := icEv (cal := cal) (v := 5) (b := .ix (.var 3) (.lit (.int 1))) (ρ := [some (.dat (sz r c)), some (.dat (.tuple (xs.map cmpD))), some (.dat (cmpD x)), some (.dat (.tuple [.int t, .tuple (intz ms)])), none, none, none, none]) (xs := xs) (ns := ms) (by decide) (by simp) rfl (ev_snd (i := 3) rfl) hl hx
  rw [ex_seq (ex_asg e1 (by simp))]
  simp only [List.set]
  have n4 : ev cal (.not (.var 4)) [some (.dat (sz r c)), some (.dat (.tuple (xs.map cmpD))), some (.dat (cmpD x)), some (.dat (.tuple [.int t, .tuple (intz ms)])), some (.dat (.list ys)), none, none, none] = .val (.bool (!sB xs ms)) := by
    rw [ev, ev_var (i := 4) rfl]
    simp only [truR, R.bnd_val, truth, ofO_some, e2, Bool.not_not]
  have cc := ev_andB (ev_eqB (cal := cal) (ρ := [some (.dat (sz r c)), some (.dat (.tuple (xs.map cmpD))), some (.dat (cmpD x)), some (.dat (.tuple [.int t, .tuple (intz ms)])), some (.dat (.list ys)), none, none, none]) (ev_kind (i := 2) rfl) (ev_lit (d := .str "above")) (ab_kd x)) (fun _ => n4)
  have dg := ddG_ev (cal := cal) (s := sz r c) (x := x) (t := t) (W := r + c) (b := .tuple (intz ms)) (o1 := some (.dat (.tuple (xs.map cmpD)))) (o4 := some (.dat (.list ys))) (o6 := none) (o7 := none) hW h3 (fun j _ => mulOk_r (dfc_small _ _ _ _))
  unfold derB
  cases q : (kAb x.k && !sB xs ms) with
  | true =>
    rw [q] at cc
    unfold ddC
    rw [ex_seq_ret ((ite_t cc).trans (ex_ret ev_lit))]; rfl
  | false =>
    rw [q] at cc
    unfold ddC ddT
    rw [ex_seq ((ite_f cc).trans ex_skip), ex_seq (ex_asg dg (by simp))]
    simp only [List.set]
    have t1 : ev cal (.call "total_difference" (.cons (.var 0) (.cons (.var 1) (.cons (.ix (.var 3) (.lit (.int 1))) .nil)))) [some (.dat (sz r c)), some (.dat (.tuple (xs.map cmpD))), some (.dat (cmpD x)), some (.dat (.tuple [.int t, .tuple (intz ms)])), some (.dat (.list ys)), none, none, some (.dat (.list (rowL (r + c) fun j => t * dfc r x.a x.b j)))] = .val (.list (rowL (r + c) (tot r xs ms))) := by
      rw [ev, evs, evs, evs, ev_var (i := 0) rfl, ev_var (i := 1) rfl, ev_snd (i := 3) rfl]
      simp only [R.bnd_val, evs]
      exact h2
    rw [ex_ret (ev_eqB t1 (ev_var (i := 7) rfl) (eq_rows (r + c) (tot r xs ms) (fun j => t * dfc r x.a x.b j)))]
    rfl
end
/-- what may be given as a derivation -/
def Td (v : D) : Prop := tyS .tuple v = some (.bool false) ∨ (∃ ds, v = .tuple ds ∧ ¬ ds.length = 2) ∨ ∃ a b, v = .tuple [a, b] ∧ plain a = true ∧ Tr b
section
variable {tbl : Str → Option Df} (h : Std tbl) {k : Nat}
include h
theorem muls_same {xs : List C3} (hl : xs.length ≤ 100) {b : D} (hb : Tr b) : (∀ k, call sub wf tbl (k + 1) "are_multipliers" [.tuple (xs.map cmpD), b] = .val (.bool false) ∧ call sub wf tbl (k + 1) "_law_are_multipliers" [.tuple (xs.map cmpD), b] = .val (.bool false)) ∨ ∃ ms : List Int, b = .tuple (intz ms) ∧ Muls xs ms ∧ ∀ k, call sub wf tbl (k + 1) "are_multipliers" [.tuple (xs.map cmpD), b] = .val (.bool true) ∧ call sub wf tbl (k + 1) "_law_are_multipliers" [.tuple (xs.map cmpD), b] = .val (.bool true) := by
  rcases hb with hb | ⟨ds, rfl, hp⟩
  · exact .inl fun k => muls_no h (.inl hb)
  · by_cases q : ds.length = xs.length
    · have a1 := fun k => are_muls h (k := k) (xs := xs) (ds := ds) hl q hp
      have a2 := fun k => law_muls h (k := k) (xs := xs) (ds := ds) hl q hp
      cases m : mB xs ds with
      | false => rw [m] at a1 a2; exact .inl fun k => ⟨a1 k, a2 k⟩
      | true =>
        have : ds.all isI = true := by
          cases e : ds.all isI with
          | true => rfl
          | false => rw [mB_isI q e] at m; cases m
        obtain ⟨ms, rfl⟩ := all_ints this
        have hl' : ms.length = xs.length := by simpa [intz] using q
        rw [m] at a1 a2
        exact .inr ⟨ms, rfl, (mB_iff hl').1 m, fun k => ⟨a1 k, a2 k⟩⟩
    · exact .inl fun k => muls_no h (.inr ⟨ds, rfl, q⟩)
omit h in
theorem int_or (a : D) : (∃ t : Int, a = .int t) ∨ ∀ t : Int, a ≠ .int t := by
  cases a with
  | int t => exact .inl ⟨t, rfl⟩
  | _ => exact .inr fun t e => by cases e
theorem same_derivation {r c : Nat} (h1 : 1 ≤ r) (h2 : r ≤ 4) (h3 : 1 ≤ c) (h4 : c ≤ 4) {xs : List C3} (hx : ∀ x ∈ xs, okC r c x) (hl : xs.length ≤ 12) {x : C3} (ho : okC r c x) (hk : kEq x.k = false) {v : D} (hv : Td v) :
    ∃ b, (∀ k, call sub wf tbl (k + 7) "is_derivation" [sz r c, .tuple (xs.map cmpD), cmpD x, v] = .val (.bool b) ∧ call sub wf tbl (k + 7) "_law_is_derivation" [sz r c, .tuple (xs.map cmpD), cmpD x, v] = .val (.bool b)) ∧ (∀ t ms, v = .tuple [.int t, .tuple (intz ms)] → Der r c xs x t ms → b = true) := by
  have ck := fun k => check_ok h (k := k) h1 h2 h3 h4 hx hl
  have ic := fun k => is_comp_ok h (k := k + 2) ho
  have s0 : startX 8 [sz r c, .tuple (xs.map cmpD), cmpD x, v] = some (.dat (sz r c)) :: some (.dat (.tuple (xs.map cmpD))) :: some (.dat (cmpD x)) :: some (.dat v) :: [none, none, none, none] := rfl
  have s1 : startX 4 [sz r c, .tuple (xs.map cmpD), cmpD x, v] = some (.dat (sz r c)) :: some (.dat (.tuple (xs.map cmpD))) :: some (.dat (cmpD x)) :: some (.dat v) :: [] := rfl
  have d := fun k => deC_ev (cal := call sub wf tbl (k + 6)) (sb := sub) (w := wf) (X := .tuple (xs.map cmpD)) (ρ := [some (.dat v), none, none, none, none]) (ic k)
  rw [hk] at d
  have p1 : ∀ k, call sub wf tbl (k + 7) "is_derivation" [sz r c, .tuple (xs.map cmpD), cmpD x, v] = (exec (call sub wf tbl (k + 6)) sub wf (.seq (dA "are_multipliers") (.seq dB (.seq (.asg (.nm 4) (icE 5 (.ix (.var 3) (.lit (.int 1))))) (.seq ddC (.seq (.asg (.nm 7) ddG) (.ret ddT)))))) (some (.dat (sz r c)) :: some (.dat (.tuple (xs.map cmpD))) :: some (.dat (cmpD x)) :: some (.dat v) :: [none, none, none, none])).res := fun k => by
    rw [call_eq h.t_is_derivation rfl, dd_is, s0, ex_seq (drop_ok ((ev_c2 (i := 0) (j := 1) rfl rfl).trans (ck k))), ex_seq (d k)]
  have p2 : ∀ k, call sub wf tbl (k + 7) "_law_is_derivation" [sz r c, .tuple (xs.map cmpD), cmpD x, v] = (exec (call sub wf tbl (k + 6)) sub wf (.seq (dA "_law_are_multipliers") (.seq dB (.seq ldC (.ret ldE)))) (some (.dat (sz r c)) :: some (.dat (.tuple (xs.map cmpD))) :: some (.dat (cmpD x)) :: some (.dat v) :: [])).res := fun k => by
    rw [call_eq h.t__law_is_derivation rfl, lde_is, s1]
  rcases hv with hv | ⟨ds, rfl, hv⟩ | ⟨a, b, rfl, ha, hb⟩
  · refine ⟨false, fun k => ⟨?_, ?_⟩, fun t ms e _ => by rw [e] at hv; cases hv⟩
    · rw [p1, ex_seq_ret (dA_no1 hv)]; rfl
    · rw [p2, ex_seq_ret (dA_no1 hv)]; rfl
  · refine ⟨false, fun k => ⟨?_, ?_⟩, fun t ms e _ => by
      have := PyData.tuple.inj e
      rw [this] at hv; simp at hv⟩
    · rw [p1, ex_seq_ret (dA_no2 hv)]; rfl
    · rw [p2, ex_seq_ret (dA_no2 hv)]; rfl
  · rcases muls_same h (xs := xs) (by omega) hb with m | ⟨ms, rfl, hm, m⟩
    · refine ⟨false, fun k => ⟨?_, ?_⟩, fun t ms e D => ?_⟩
      · rw [p1, ex_seq_ret (dA_mul (m (k + 5)).1)]; rfl
      · rw [p2, ex_seq_ret (dA_mul (m (k + 5)).2)]; rfl
      · exfalso
        have e' := PyData.tuple.inj e
        simp only [List.cons.injEq] at e'
        have e2 := e'.2.1
        subst e2
        have a1 := are_muls h (k := 0) (xs := xs) (ds := intz ms) (by omega) (by simp [intz]; exact D.mul.1) (plain_ints ms)
        rw [(mB_iff D.mul.1).2 D.mul, (m 0).1] at a1
        cases a1
    · have q1 : ∀ k, call sub wf tbl (k + 7) "is_derivation" [sz r c, .tuple (xs.map cmpD), cmpD x, .tuple [a, .tuple (intz ms)]] = (exec (call sub wf tbl (k + 6)) sub wf (.seq dB (.seq (.asg (.nm 4) (icE 5 (.ix (.var 3) (.lit (.int 1))))) (.seq ddC (.seq (.asg (.nm 7) ddG) (.ret ddT))))) (some (.dat (sz r c)) :: some (.dat (.tuple (xs.map cmpD))) :: some (.dat (cmpD x)) :: some (.dat (.tuple [a, .tuple (intz ms)])) :: [none, none, none, none])).res := fun k => by
        rw [p1, ex_seq (dA_mul (m (k + 5)).1)]
      have q2 : ∀ k, call sub wf tbl (k + 7) "_law_is_derivation" [sz r c, .tuple (xs.map cmpD), cmpD x, .tuple [a, .tuple (intz ms)]] = (exec (call sub wf tbl (k + 6)) sub wf (.seq dB (.seq ldC (.ret ldE))) (some (.dat (sz r c)) :: some (.dat (.tuple (xs.map cmpD))) :: some (.dat (cmpD x)) :: some (.dat (.tuple [a, .tuple (intz ms)])) :: [])).res := fun k => by
        rw [p2, ex_seq (dA_mul (m (k + 5)).2)]
      have mine : ∀ ms', (PyData.tuple (intz ms) = .tuple (intz ms')) → ms = ms' := fun ms' e => by
        have e' := PyData.tuple.inj e
        exact (List.map_inj_right (fun a b h => by simpa using h)).1 e'
      rcases int_or a with ⟨t, rfl⟩ | isint
      · have e1 : ∀ k, exec (call sub wf tbl (k + 6)) sub wf dB (some (.dat (sz r c)) :: some (.dat (.tuple (xs.map cmpD))) :: some (.dat (cmpD x)) :: some (.dat (.tuple [.int t, .tuple (intz ms)])) :: [none, none, none, none]) = if t < 1 then .ret (.bool false) else .nxt (some (.dat (sz r c)) :: some (.dat (.tuple (xs.map cmpD))) :: some (.dat (cmpD x)) :: some (.dat (.tuple [.int t, .tuple (intz ms)])) :: [none, none, none, none]) := fun k => dB_int
        have e2 : ∀ k, exec (call sub wf tbl (k + 6)) sub wf dB (some (.dat (sz r c)) :: some (.dat (.tuple (xs.map cmpD))) :: some (.dat (cmpD x)) :: some (.dat (.tuple [.int t, .tuple (intz ms)])) :: []) = if t < 1 then .ret (.bool false) else .nxt (some (.dat (sz r c)) :: some (.dat (.tuple (xs.map cmpD))) :: some (.dat (cmpD x)) :: some (.dat (.tuple [.int t, .tuple (intz ms)])) :: []) := fun k => dB_int
        by_cases q : t < 1
        · rw [if_pos q] at e1 e2
          refine ⟨false, fun k => ⟨by rw [q1, ex_seq_ret (e1 k)]; rfl, by rw [q2, ex_seq_ret (e2 k)]; rfl⟩, fun t' ms' e D => ?_⟩
          exfalso
          have e' := PyData.tuple.inj e
          simp only [List.cons.injEq] at e'
          have := PyData.int.inj e'.1
          have := D.pos
          omega
        · rw [if_neg q] at e1 e2
          refine ⟨derB r c xs x t ms, fun k => ?_, fun t' ms' e D => ?_⟩
          · have t1 := law_strict h (k := k + 5) (xs := xs) (ns := ms) (by omega) hm.1
            have t2 := law_total h (k := k + 5) h2 h4 hx (by omega) hm.1
            have t3 := total_difference h (k := k + 4) h2 h4 hx (by omega) hm.1
            have t4 := difference h (k := k + 5) h2 h4 x.a x.b
            have t5 := law_total h (k := k + 5) (r := r) (c := c) h2 h4 (xs := [x]) (ns := [t]) (fun y hy => by
              have : y = x := by simpa using hy
              subst this; exact ho) (by simp) rfl
            exact ⟨by rw [q1, ex_seq (e1 k), dd_end (by omega) (by omega) hm.1 t3 t4]; rfl, by rw [q2, ex_seq (e2 k), lde_end t1 t2 t5]; rfl⟩
          · have e' := PyData.tuple.inj e
            simp only [List.cons.injEq] at e'
            have et := PyData.int.inj e'.1
            have em := mine ms' e'.2.1
            subst et em
            unfold derB
            rw [Bool.and_eq_true]
            constructor
            · cases ka : kAb x.k with
              | false => rfl
              | true => rw [sB_iff.2 (D.strict ka)]; rfl
            · unfold gB
              rw [List.all_eq_true]
              intro j hj
              rw [D.tot j (by simpa using hj)]
              simp
      · have e1 : ∀ k, exec (call sub wf tbl (k + 6)) sub wf dB (some (.dat (sz r c)) :: some (.dat (.tuple (xs.map cmpD))) :: some (.dat (cmpD x)) :: some (.dat (.tuple [a, .tuple (intz ms)])) :: [none, none, none, none]) = .ret (.bool false) := fun k => by
          rcases dB_ev (cal := call sub wf tbl (k + 6)) (sb := sub) (w := wf) (s := sz r c) (X := .tuple (xs.map cmpD)) (C := cmpD x) (b := .tuple (intz ms)) (ρ := [none, none, none, none]) ha with cs | ⟨t, e, _⟩
          · exact cs
          · exact absurd e (isint t)
        have e2 : ∀ k, exec (call sub wf tbl (k + 6)) sub wf dB (some (.dat (sz r c)) :: some (.dat (.tuple (xs.map cmpD))) :: some (.dat (cmpD x)) :: some (.dat (.tuple [a, .tuple (intz ms)])) :: []) = .ret (.bool false) := fun k => by
          rcases dB_ev (cal := call sub wf tbl (k + 6)) (sb := sub) (w := wf) (s := sz r c) (X := .tuple (xs.map cmpD)) (C := cmpD x) (b := .tuple (intz ms)) (ρ := []) ha with cs | ⟨t, e, _⟩
          · exact cs
          · exact absurd e (isint t)
        refine ⟨false, fun k => ⟨by rw [q1, ex_seq_ret (e1 k)]; rfl, by rw [q2, ex_seq_ret (e2 k)]; rfl⟩, fun t' ms' e D => ?_⟩
        exfalso
        have e' := PyData.tuple.inj e
        simp only [List.cons.injEq] at e'
        exact isint t' e'.1
end
end Pg

set_option linter.all false
set_option maxRecDepth 100000
set_option maxHeartbeats 4000000
namespace Pg
open PySem hiding call exec
open Mp
/-! orders: all_cells, is_same, is_order, chain, is_additive -/
/-- data that may stand in a list or a tuple and be compared -/
def shal (n : Nat) (d : D) : Bool := d.canLay0 && decide (d.depth ≤ n)
theorem shal_all {n : Nat} : ∀ {ds : List D}, (∀ d ∈ ds, shal n d = true) → PyData.canLayAll0 ds = true ∧ PyData.depthAll ds ≤ n
  | [], _ => by simp [PyData.canLayAll0, PyData.depthAll]
  | d :: ds, h => by
    have h1 := h d (by simp)
    have h2 := shal_all (ds := ds) fun e he => h e (by simp [he])
    unfold shal at h1
    rw [Bool.and_eq_true] at h1
    have := of_decide_eq_true h1.2
    simp only [PyData.canLayAll0, PyData.depthAll, Bool.and_eq_true]
    exact ⟨⟨h1.1, h2.1⟩, by omega⟩
theorem shal_tuple {n : Nat} {ds : List D} (h : ∀ d ∈ ds, shal n d = true) : shal (n + 1) (.tuple ds) = true := by
  obtain ⟨a, b⟩ := shal_all h
  unfold shal
  rw [Bool.and_eq_true]
  exact ⟨by simpa only [PyData.canLay0] using a, decide_eq_true (by simp only [PyData.depth]; omega)⟩
theorem shal_list {n : Nat} {ds : List D} (h : ∀ d ∈ ds, shal n d = true) : shal (n + 1) (.list ds) = true := by
  obtain ⟨a, b⟩ := shal_all h
  unfold shal
  rw [Bool.and_eq_true]
  exact ⟨by simpa only [PyData.canLay0] using a, decide_eq_true (by simp only [PyData.depth]; omega)⟩
theorem shal_shp {n : Nat} {d : D} (h : shal n d = true) (hn : n ≤ 64 := by decide) : SeqAt.shaped d = true := by
  unfold shal at h
  rw [Bool.and_eq_true] at h
  unfold SeqAt.shaped
  rw [Bool.and_eq_true]
  have := of_decide_eq_true h.2
  exact ⟨h.1, decide_eq_true (by omega)⟩
theorem shal_mono {n m : Nat} {d : D} (h : shal n d = true) (hn : n ≤ m) : shal m d = true := by
  unfold shal at h ⊢
  rw [Bool.and_eq_true] at h ⊢
  have := of_decide_eq_true h.2
  exact ⟨h.1, decide_eq_true (by omega)⟩
theorem shal_int (i : Int) : shal 0 (.int i) = true := by simp [shal, PyData.canLay0, PyData.depth]
theorem shal_cel (p : Nat × Nat) : shal 1 (celD p) = true := shal_tuple (n := 0) fun d hd => by
  simp only [List.mem_cons, List.not_mem_nil, or_false] at hd
  rcases hd with rfl | rfl <;> exact shal_int _
abbrev Cell := Nat × Nat
def ordD (o : List Cell) : D := .tuple (o.map celD)
theorem shal_ord (o : List Cell) : shal 2 (ordD o) = true := shal_tuple fun d hd => by
  obtain ⟨p, _, rfl⟩ := List.mem_map.1 hd
  exact shal_cel p
theorem eqv_cel (p q : Cell) : PyData.eqv (celD p) (celD q) = decide (p = q) := by
  obtain ⟨a, b⟩ := p
  obtain ⟨c, d⟩ := q
  simp only [celD, cel, PyData.eqv, PyData.eqvAll, Bool.and_true, Prod.mk.injEq]
  rw [Bool.eq_iff_iff]
  simp only [Bool.and_eq_true, beq_iff_eq, decide_eq_true_iff]
  omega
theorem eqv_cels : ∀ s t : List Cell, PyData.eqvAll (s.map celD) (t.map celD) = decide (s = t)
  | [], [] => by simp [PyData.eqvAll]
  | [], _ :: _ => by simp [PyData.eqvAll]
  | _ :: _, [] => by simp [PyData.eqvAll]
  | x :: s, y :: t => by
    simp only [List.map_cons, PyData.eqvAll, eqv_cel, eqv_cels s t]
    rw [Bool.eq_iff_iff]
    simp
theorem eqv_ord (s t : List Cell) : PyData.eqv (ordD s) (ordD t) = decide (s = t) := by
  simp only [ordD, PyData.eqv, eqv_cels]
theorem eqS_ord (s t : List Cell) : eqS (ordD s) (ordD t) = some (decide (s = t)) := by
  rw [← eqv_ord]
  exact eqS_tup _ _ (shal_shp (shal_ord s)) (shal_shp (shal_ord t))
theorem eqS_list (a b : List D) (ha : SeqAt.shaped (.list a) = true) (hb : SeqAt.shaped (.list b) = true) : eqS (.list a) (.list b) = some (PyData.eqv (.list a) (.list b)) := by
  have e : eqS (.list a) (.list b) = if SeqAt.shaped (.list a) && SeqAt.shaped (.list b) then some (PyData.eqv (.list a) (.list b)) else none := rfl
  rw [e, ha, hb]; rfl
theorem eqS_nil {n : Nat} {ys : List D} (h : ∀ d ∈ ys, shal n d = true) (hn : n ≤ 63 := by decide) : eqS (.list ys) (.list []) = some ys.isEmpty := by
  rw [eqS_list _ _ (shal_shp (shal_list h) (by omega)) (by kernel_rfl)]
  cases ys <;> simp [PyData.eqv, PyData.eqvAll]
/-! comprehensions that keep some of the items -/
theorem lc_keepD {step : D → R (List D)} {p : D → Bool} : ∀ {xs : List D}, (∀ x ∈ xs, step x = .val (if p x then [x] else [])) → lcF step xs = .val (xs.filter p)
  | [], _ => rfl
  | x :: xs, h => by
    simp only [lcF, h x List.mem_cons_self, lc_keepD (xs := xs) fun y hy => h y (List.mem_cons_of_mem _ hy)]
    cases e : p x <;> simp [List.filter_cons, e]
section
variable {cal : Str → List D → R D} {sb : Str → Str → Bool} {w : Nat} {ρ : Rho}
/-- [x for x in e if c], x in slot i -/
theorem ev_keep {i : Nat} {it : It} {c : Ex} {xs : List D} {p : D → Bool} (hi : i < ρ.length) (hx : evi cal it ρ = .val xs) (hl : xs.length ≤ lim)
    (hc : ∀ x ∈ xs, truR (ev cal c ((wipeX ρ [i]).set i (some (.dat x)))) = .val (p x)) : ev cal (.lc (.nm i) it (.som c) (.var i) [i]) ρ = .val (.list (xs.filter p)) := by
  have hw : (wipeX ρ [i]).length = ρ.length := by simp [wipeX]
  refine ev_lcS hx (lc_keepD fun x hx' => ?_) (Nat.le_trans (List.length_filter_le _ _) hl)
  have e : ((wipeX ρ [i]).set i (some (.dat x)))[i]? = some (some (.dat x)) := by
    rw [List.getElem?_set_self (by omega)]
  simp only [lcS, asgT, hw, hi, if_true, evt, hc x hx', R.bnd_val]
  cases p x
  · rfl
  · simp only [ev_var e, R.bnd_val, if_true]
theorem evi_seqL {e : Ex} {ds : List D} (h : ev cal e ρ = .val (.list ds)) : evi cal (.seq e) ρ = .val ds := by simp only [evi, h, R.bnd_val, seqS, ofO_some]
theorem evi_seqT {e : Ex} {ds : List D} (h : ev cal e ρ = .val (.tuple ds)) : evi cal (.seq e) ρ = .val ds := by simp only [evi, h, R.bnd_val, seqS, ofO_some]
theorem tru_bool {e : Ex} {b : Bool} (h : ev cal e ρ = .val (.bool b)) : truR (ev cal e ρ) = .val b := by rw [h]; rfl
end
def isBl : D → Bool
  | .bool _ => true
  | _ => false
/-- what is_same says of an object and a cell -/
def sameB : D → Cell → Bool
  | .tuple ds, p => PyData.eqv (.tuple ds) (celD p) && !(ds.any isBl)
  | _, _ => false
def smL : Ex := (.lc (.nm 2) (.seq (.var 0)) (.som (.blt (.isi .bool) (.cons (.var 2) .nil))) (.var 2) [2])
theorem same_is : p_is_same = .ret (.and (.blt (.isi .tuple) (.cons (.var 0) .nil)) (.and (.cmp .eq (.var 0) (.var 1)) (.not smL))) := rfl
theorem tyS_bool {d : D} (h : d.canLay0 = true) : tyS .bool d = some (.bool (isBl d)) := by cases d <;> first | rfl | simp [PyData.canLay0] at h
def isTp : D → Bool
  | .tuple _ => true
  | _ => false
theorem tyS_tuple {d : D} (h : d.canLay0 = true) : tyS .tuple d = some (.bool (isTp d)) := by cases d <;> first | rfl | simp [PyData.canLay0] at h
theorem lay_mem : ∀ {ds : List D}, PyData.canLayAll0 ds = true → ∀ d ∈ ds, d.canLay0 = true
  | [], _, d, hd => by simp at hd
  | e :: ds, h, d, hd => by
    simp only [PyData.canLayAll0, Bool.and_eq_true] at h
    rcases List.mem_cons.1 hd with rfl | hd
    · exact h.1
    · exact lay_mem h.2 d hd
theorem any_filter {p : D → Bool} : ∀ (ds : List D), (ds.filter p).isEmpty = !ds.any p
  | [] => rfl
  | d :: ds => by
    have := any_filter (p := p) ds
    cases e : p d <;> simp_all [List.filter_cons]
theorem sm_ev {cal : Str → List D → R D} {ds : List D} {o1 : Option Sl} (hl : ds.length ≤ lim) (hc : PyData.canLayAll0 ds = true) : ev cal smL [some (.dat (.tuple ds)), o1, none] = .val (.list (ds.filter isBl)) := by
  unfold smL
  refine ev_keep (by simp) (evi_seqT (ev_var rfl)) hl fun x hx => ?_
  have e : ev cal (.blt (.isi .bool) (.cons (.var 2) .nil)) ((wipeX [some (.dat (.tuple ds)), o1, none] [2]).set 2 (some (.dat x))) = ofO (tyS .bool x) := rfl
  rw [e, tyS_bool (lay_mem hc x hx)]; rfl
section
variable {tbl : Str → Option Df} (h : Std tbl) {k : Nat}
include h
theorem all_cells {r c : Nat} (h1 : 1 ≤ r) (h2 : r ≤ 4) (h3 : 1 ≤ c) (h4 : c ≤ 4) : call sub wf tbl (k + 1) "all_cells" [sz r c] = .val (.list ((cellsOf r c).map celD)) := by
  rw [call_eq h.t_all_cells rfl]
  revert h1 h2 h3 h4
  generalize call sub wf tbl k = cal
  intro h1 h2 h3 h4
  refine four (P := fun r => (exec cal sub wf p_all_cells (startX 3 [sz r c])).res = .val (.list ((cellsOf r c).map celD))) h1 h2 ?_ ?_ ?_ ?_
  all_goals refine four (P := fun c => (exec cal sub wf p_all_cells (startX 3 [sz _ c])).res = .val (.list ((cellsOf _ c).map celD))) h3 h4 ?_ ?_ ?_ ?_
  all_goals kernel_rfl
theorem is_same {d : D} {p : Cell} (hd : shal 20 d = true) (hl : ∀ ds, d = .tuple ds → ds.length ≤ lim) : call sub wf tbl (k + 1) "is_same" [d, celD p] = .val (.bool (sameB d p)) := by
  rw [call_eq h.t_is_same rfl, same_is]
  generalize call sub wf tbl k = cal
  have hlay : d.canLay0 = true := by unfold shal at hd; rw [Bool.and_eq_true] at hd; exact hd.1
  have e1 : ev cal (.blt (.isi .tuple) (.cons (.var 0) .nil)) (startX 3 [d, celD p]) = ofO (tyS .tuple d) := rfl
  rw [tyS_tuple hlay] at e1
  have ne : ∀ b, isTp d = b → ev cal (.blt (.isi .tuple) (.cons (.var 0) .nil)) (startX 3 [d, celD p]) = .val (.bool b) := fun b hb => by rw [e1, hb]; rfl
  cases d with
  | tuple ds =>
    have hs : SeqAt.shaped (.tuple ds) = true := shal_shp hd
    have e2 : ev cal (.cmp .eq (.var 0) (.var 1)) (startX 3 [.tuple ds, celD p]) = .val (.bool (PyData.eqv (.tuple ds) (celD p))) := ev_eqB (ev_var rfl) (ev_var rfl) (eqS_tup _ _ hs (shal_shp (shal_cel p)))
    have e3 : ev cal (.not smL) (startX 3 [.tuple ds, celD p]) = .val (.bool (!ds.any isBl)) := by
      have := sm_ev (cal := cal) (o1 := some (.dat (celD p))) (hl ds rfl) (show PyData.canLayAll0 ds = true by simpa only [PyData.canLay0] using hlay)
      have e : startX 3 [.tuple ds, celD p] = [some (.dat (.tuple ds)), some (.dat (celD p)), none] := rfl
      rw [e]
      simp only [ev, this, truR, R.bnd_val, truth, ofO_some, any_filter, Bool.not_not]
    have := ev_andB (ne true rfl) fun _ => ev_andB e2 fun _ => e3
    rw [ex_ret this]; rfl
  | none => rw [ex_ret (ev_andB (y := true) (ne false rfl) fun z => by cases z)]; rfl
  | bool b => rw [ex_ret (ev_andB (y := true) (ne false rfl) fun z => by cases z)]; rfl
  | int b => rw [ex_ret (ev_andB (y := true) (ne false rfl) fun z => by cases z)]; rfl
  | str b => rw [ex_ret (ev_andB (y := true) (ne false rfl) fun z => by cases z)]; rfl
  | list b => rw [ex_ret (ev_andB (y := true) (ne false rfl) fun z => by cases z)]; rfl
  | dict b => simp [PyData.canLay0] at hlay
end
end Pg

set_option linter.all false
set_option maxRecDepth 100000
set_option maxHeartbeats 4000000
namespace Pg
open PySem hiding call exec
open Mp
section
variable {cal : Str → List D → R D} {sb : Str → Str → Bool} {w : Nat} {ρ : Rho}
theorem lc_keepM {α : Type} {step : D → R (List D)} {f : α → D} {p : α → Bool} : ∀ {xs : List α}, (∀ x ∈ xs, step (f x) = .val (if p x then [f x] else [])) → lcF step (xs.map f) = .val ((xs.filter p).map f)
  | [], _ => rfl
  | x :: xs, h => by
    simp only [List.map_cons, lcF, h x List.mem_cons_self, lc_keepM (xs := xs) fun y hy => h y (List.mem_cons_of_mem _ hy)]
    cases e : p x <;> simp [List.filter_cons, e]
theorem ev_keepM {α : Type} {f : α → D} {i : Nat} {it : It} {c : Ex} {xs : List α} {p : α → Bool} (hi : i < ρ.length) (hx : evi cal it ρ = .val (xs.map f)) (hl : xs.length ≤ lim)
    (hc : ∀ x ∈ xs, truR (ev cal c ((wipeX ρ [i]).set i (some (.dat (f x))))) = .val (p x)) : ev cal (.lc (.nm i) it (.som c) (.var i) [i]) ρ = .val (.list ((xs.filter p).map f)) := by
  have hw : (wipeX ρ [i]).length = ρ.length := by simp [wipeX]
  refine ev_lcS hx (lc_keepM fun x hx' => ?_) (Nat.le_trans (by simpa using List.length_filter_le p xs) hl)
  have e : ((wipeX ρ [i]).set i (some (.dat (f x))))[i]? = some (some (.dat (f x))) := by
    rw [List.getElem?_set_self (by omega)]
  simp only [lcS, asgT, hw, hi, if_true, evt, hc x hx', R.bnd_val]
  cases p x
  · rfl
  · simp only [ev_var e, R.bnd_val, if_true]
end
/-! is_order -/
theorem cells_n {r c : Nat} (hr : r ≤ 4) (hc : c ≤ 4) : (cellsOf r c).length = r * c := by
  have : ∀ r, r < 5 → ∀ c, c < 5 → (cellsOf r c).length = r * c := by decide
  exact this r (by omega) c (by omega)
def ioC : Ex := (.or (.not (.blt (.isi .tuple) (.cons (.var 1) .nil))) (.cmp .ne (.blt .len (.cons (.var 1) .nil)) (.bin .mul (.ix (.var 0) (.lit (.int 0))) (.ix (.var 0) (.lit (.int 1))))))
def ioI : Ex := (.lc (.nm 3) (.seq (.var 1)) (.som (.call "is_same" (.cons (.var 3) (.cons (.var 2) .nil)))) (.var 3) [3])
def ioL : Ex := (.lc (.nm 2) (.seq (.call "all_cells" (.cons (.var 0) .nil))) (.som (.cmp .eq ioI (.lst .nil))) (.var 2) [2])
theorem io_is : p_is_order = (.seq (.drop (.call "check_size" (.cons (.var 0) .nil))) (.seq (.ite ioC (.ret (.lit (.bool false))) .skip) (.ret (.not ioL)))) := rfl
/-- data that is_same can look at -/
def Looks (d : D) : Prop := shal 20 d = true ∧ ∀ ds, d = .tuple ds → ds.length ≤ lim
theorem looks_cel (p : Cell) : Looks (celD p) := ⟨shal_mono (shal_cel p) (by decide), fun ds e => by
  have : ds = [.int (p.1 : Int), .int (p.2 : Int)] := by unfold celD cel at e; simpa using e.symm
  subst this; exact le_lim (by simp)⟩
def inOrd (r c : Nat) (vs : List D) : Bool := decide (vs.length = r * c) && (cellsOf r c).all fun p => vs.any fun d => sameB d p
theorem mulOk_small {a b : Nat} (ha : a ≤ 1000) : mulOk (a : Int) (b : Int) = true := by
  unfold mulOk
  rw [Bool.or_eq_true]
  exact .inl (decide_eq_true (.inl ⟨by omega, by omega⟩))
section
variable {cal : Str → List D → R D}
theorem ev_notL {a : Ex} {ρ : Rho} {ds : List D} (h1 : ev cal a ρ = .val (.list ds)) : ev cal (.not a) ρ = .val (.bool ds.isEmpty) := by
  simp only [ev, h1, truR, R.bnd_val, truth, ofO_some, Bool.not_not]
theorem ev_mul2 {a b : Ex} {ρ : Rho} {i j : Int} (h1 : ev cal a ρ = .val (.int i)) (h2 : ev cal b ρ = .val (.int j)) (hm : mulOk i j = true) : ev cal (.bin .mul a b) ρ = .val (.int (i * j)) := by
  simp only [ev, h1, h2, R.bnd_val, boS, mulS, hm, if_true, ofO_some]
theorem ioC_ev {r c : Nat} (hr : r ≤ 4) {d : D} (hd : d.canLay0 = true) {o2 o3 : Option Sl} : ev cal ioC [some (.dat (sz r c)), some (.dat d), o2, o3] = .val (.bool (match d with | .tuple vs => !decide (vs.length = r * c) | _ => true)) := by
  have e1 : ev cal (.blt (.isi .tuple) (.cons (.var 1) .nil)) [some (.dat (sz r c)), some (.dat d), o2, o3] = .val (.bool (isTp d)) := by
    have : ev cal (.blt (.isi .tuple) (.cons (.var 1) .nil)) [some (.dat (sz r c)), some (.dat d), o2, o3] = ofO (tyS .tuple d) := rfl
    rw [this, tyS_tuple hd]; rfl
  unfold ioC
  cases d with
  | tuple vs =>
    have e2 : ev cal (.bin .mul (.ix (.var 0) (.lit (.int 0))) (.ix (.var 0) (.lit (.int 1)))) [some (.dat (sz r c)), some (.dat (.tuple vs)), o2, o3] = .val (.int ((r : Int) * (c : Int))) := by
      have a0 : ev cal (.ix (.var 0) (.lit (.int 0))) [some (.dat (sz r c)), some (.dat (.tuple vs)), o2, o3] = .val (.int (r : Int)) := rfl
      have a1 : ev cal (.ix (.var 0) (.lit (.int 1))) [some (.dat (sz r c)), some (.dat (.tuple vs)), o2, o3] = .val (.int (c : Int)) := rfl
      exact ev_mul2 a0 a1 (mulOk_small (by omega))
    have e3 : eqS (.int (vs.length : Int)) (.int ((r : Int) * (c : Int))) = some (decide (vs.length = r * c)) := by
      rw [eqS_ii, show (r : Int) * (c : Int) = ((r * c : Nat) : Int) by simp]
      generalize r * c = m
      generalize vs.length = n
      by_cases h : n = m
      · subst h; simp
      · rw [decide_eq_false h]
        have : ((n : Int) == (m : Int)) = false := by
          rw [beq_eq_false_iff_ne]; omega
        rw [this]
    have e4 : ev cal (.blt .len (.cons (.var 1) .nil)) [some (.dat (sz r c)), some (.dat (.tuple vs)), o2, o3] = .val (.int (vs.length : Int)) := rfl
    exact ev_orB (ev_notB e1) fun _ => ev_neB e4 e2 e3
  | none => exact ev_orB (y := true) (ev_notB e1) fun z => by cases z
  | bool b => exact ev_orB (y := true) (ev_notB e1) fun z => by cases z
  | int b => exact ev_orB (y := true) (ev_notB e1) fun z => by cases z
  | str b => exact ev_orB (y := true) (ev_notB e1) fun z => by cases z
  | list b => exact ev_orB (y := true) (ev_notB e1) fun z => by cases z
  | dict b => simp [PyData.canLay0] at hd
theorem ioI_ev {s : D} {vs : List D} {p : Cell} {o3 : Option Sl} (hl : vs.length ≤ lim) (hs : ∀ d ∈ vs, cal "is_same" [d, celD p] = .val (.bool (sameB d p))) : ev cal ioI [some (.dat s), some (.dat (.tuple vs)), some (.dat (celD p)), o3] = .val (.list (vs.filter fun d => sameB d p)) := by
  unfold ioI
  refine ev_keep (by simp) (evi_seqT (ev_var rfl)) hl fun d hd => ?_
  exact tru_bool (((ev_c2 (i := 3) (j := 2) rfl rfl)).trans (hs d hd))
theorem ioL_ev {s : D} {vs : List D} {cs : List Cell} (hl : vs.length ≤ lim) (hc : cs.length ≤ lim) (h1 : cal "all_cells" [s] = .val (.list (cs.map celD))) (hv : ∀ d ∈ vs, Looks d) (hs : ∀ d ∈ vs, ∀ p, cal "is_same" [d, celD p] = .val (.bool (sameB d p))) :
    ev cal ioL [some (.dat s), some (.dat (.tuple vs)), none, none] = .val (.list ((cs.filter fun p => !vs.any fun d => sameB d p).map celD)) := by
  unfold ioL
  refine ev_keepM (by simp) (evi_seqL ((ev_c1 (i := 0) rfl).trans h1)) hc fun p hp => ?_
  have e := ioI_ev (cal := cal) (s := s) (p := p) (o3 := none) hl fun d hd => hs d hd p
  have e2 : eqS (.list (vs.filter fun d => sameB d p)) (.list []) = some (!vs.any fun d => sameB d p) := by
    rw [eqS_nil (n := 20) fun d hd => (hv d (List.mem_filter.1 hd).1).1, any_filter]
  exact tru_bool (ev_eqB e (by rfl) e2)
end
section
variable {tbl : Str → Option Df} (h : Std tbl) {k : Nat}
include h
theorem is_order_no {r c : Nat} (h1 : 1 ≤ r) (h2 : r ≤ 4) (h3 : 1 ≤ c) (h4 : c ≤ 4) {d : D} (hd : d.canLay0 = true) (ht : ∀ vs, d = .tuple vs → vs.length ≠ r * c) : call sub wf tbl (k + 5) "is_order" [sz r c, d] = .val (.bool false) := by
  rw [call_eq h.t_is_order rfl, io_is, ex_seq (drop_ok ((ev_c1 (i := 0) rfl).trans (check_size_ok h (k := k) h1 h2 h3 h4)))]
  have e := ioC_ev (cal := call sub wf tbl (k + 4)) (c := c) h2 hd (o2 := none) (o3 := none)
  have e' : ev (call sub wf tbl (k + 4)) ioC (startX 4 [sz r c, d]) = .val (.bool true) := by
    refine e.trans ?_
    cases d <;> try rfl
    rename_i vs
    simp only [decide_eq_false (ht vs rfl), Bool.not_false]
  rw [ex_seq_ret ((ite_t e').trans (ex_ret rfl))]; rfl
theorem is_order_tup {r c : Nat} (h1 : 1 ≤ r) (h2 : r ≤ 4) (h3 : 1 ≤ c) (h4 : c ≤ 4) {vs : List D} (hv : ∀ d ∈ vs, Looks d) : call sub wf tbl (k + 5) "is_order" [sz r c, .tuple vs] = .val (.bool (inOrd r c vs)) := by
  have hlay : (PyData.tuple vs).canLay0 = true := by
    have := (shal_all fun d hd => (hv d hd).1).1
    simpa only [PyData.canLay0] using this
  by_cases hn : vs.length = r * c
  · have hrc : r * c ≤ 16 := Nat.mul_le_mul h2 h4
    have hl : vs.length ≤ lim := le_lim (by omega)
    rw [call_eq h.t_is_order rfl, io_is, ex_seq (drop_ok ((ev_c1 (i := 0) rfl).trans (check_size_ok h (k := k) h1 h2 h3 h4)))]
    have e := ioC_ev (cal := call sub wf tbl (k + 4)) (c := c) h2 hlay (o2 := none) (o3 := none)
    simp only [decide_eq_true hn, Bool.not_true] at e
    have st : startX 4 [sz r c, .tuple vs] = [some (.dat (sz r c)), some (.dat (.tuple vs)), none, none] := rfl
    rw [st, ex_seq ((ite_f e).trans ex_skip)]
    have e2 := ioL_ev (cal := call sub wf tbl (k + 4)) (s := sz r c) (cs := cellsOf r c) hl (by rw [cells_n h2 h4]; exact le_lim (by omega)) (all_cells h h1 h2 h3 h4) hv fun d hd p => is_same h (hv d hd).1 (hv d hd).2
    have e3 : ev (call sub wf tbl (k + 4)) (.not ioL) [some (.dat (sz r c)), some (.dat (.tuple vs)), none, none] = .val (.bool (inOrd r c vs)) := by
      rw [ev_notL e2]
      have : inOrd r c vs = ((cellsOf r c).all fun p => vs.any fun d => sameB d p) := by
        unfold inOrd
        rw [decide_eq_true hn, Bool.true_and]
      rw [this]
      generalize cellsOf r c = cs
      have : ∀ cs : List Cell, ((cs.filter fun p => !vs.any fun d => sameB d p).map celD).isEmpty = cs.all fun p => vs.any fun d => sameB d p := by
        intro cs
        induction cs with
        | nil => rfl
        | cons p cs ih =>
          cases e : vs.any fun d => sameB d p <;> simp_all [List.filter_cons]
      rw [this]
    exact (congrArg O.res (ex_ret e3))
  · rw [is_order_no h h1 h2 h3 h4 hlay fun us e => by cases e; exact hn]
    unfold inOrd
    rw [decide_eq_false hn, Bool.false_and]
end
theorem same_cel (p q : Cell) : sameB (celD q) p = decide (q = p) := by
  have : sameB (celD q) p = (PyData.eqv (celD q) (celD p) && !(List.any [PyData.int (q.1 : Int), .int (q.2 : Int)] isBl)) := rfl
  rw [this, eqv_cel]
  simp [isBl]
/-- an order of a table -/
def Ordr (r c : Nat) (o : List Cell) : Prop := o.length = r * c ∧ ∀ p ∈ cellsOf r c, p ∈ o
instance (r c : Nat) (o : List Cell) : Decidable (Ordr r c o) := by unfold Ordr; infer_instance
theorem inOrd_ord {r c : Nat} (o : List Cell) : inOrd r c (o.map celD) = decide (Ordr r c o) := by
  unfold inOrd
  rw [Bool.eq_iff_iff, Bool.and_eq_true, List.all_eq_true, decide_eq_true_iff, decide_eq_true_iff, List.length_map]
  unfold Ordr
  refine and_congr_right fun _ => forall_congr' fun p => forall_congr' fun hp => ?_
  rw [List.any_map, List.any_eq_true]
  constructor
  · rintro ⟨q, hq, e⟩
    have e : sameB (celD q) p = true := e
    rw [same_cel, decide_eq_true_iff] at e
    subst e; exact hq
  · intro hq
    exact ⟨p, hq, by show sameB (celD p) p = true; rw [same_cel]; simp⟩
theorem nodup_cells {r c : Nat} (hr : r ≤ 4) (hc : c ≤ 4) : (cellsOf r c).Nodup := by
  have : ∀ r, r < 5 → ∀ c, c < 5 → (cellsOf r c).Nodup := by decide
  exact this r (by omega) c (by omega)
theorem nodup_perm {α : Type} [DecidableEq α] : ∀ {l m : List α}, l.Nodup → (∀ x ∈ l, x ∈ m) → m.length = l.length → l.Perm m
  | [], m, _, _, hl => by
    have : m = [] := List.eq_nil_of_length_eq_zero (by simpa using hl)
    subst this; exact .refl _
  | x :: l, m, hn, hs, hl => by
    have hx : x ∈ m := hs x (by simp)
    have hp : m.Perm (x :: m.erase x) := List.perm_cons_erase hx
    have hn' := List.nodup_cons.1 hn
    have ih := nodup_perm (l := l) (m := m.erase x) hn'.2 (fun y hy => by
      have hne : y ≠ x := fun e => hn'.1 (e ▸ hy)
      exact (List.mem_erase_of_ne hne).2 (hs y (by simp [hy]))) (by
      have := hp.length_eq
      simp at this hl
      omega)
    exact (ih.cons x).trans hp.symm
theorem Ordr.perm {r c : Nat} (hr : r ≤ 4) (hc : c ≤ 4) {o : List Cell} (h : Ordr r c o) : (cellsOf r c).Perm o :=
  nodup_perm (nodup_cells hr hc) h.2 (by rw [h.1, cells_n hr hc])
/-- the comparisons of each cell with the one before -/
def chn : List Cell → List C3
  | a :: b :: o => ⟨b, .ab, a⟩ :: chn (b :: o)
  | _ => []
end Pg

set_option linter.all false
set_option maxRecDepth 100000
set_option maxHeartbeats 4000000
namespace Pg
open PySem hiding call exec
open Mp
/-! chain, is_additive, order_values -/
theorem chn_len : ∀ o : List Cell, (chn o).length = o.length - 1
  | [] => rfl
  | [_] => rfl
  | a :: b :: o => by simp [chn, chn_len (b :: o)]
theorem chn_mem : ∀ {o : List Cell} {x : C3}, x ∈ chn o → x.a ∈ o ∧ x.b ∈ o ∧ x.k = .ab
  | [], x, h => by simp [chn] at h
  | [_], x, h => by simp [chn] at h
  | a :: b :: o, x, h => by
    simp only [chn, List.mem_cons] at h
    rcases h with rfl | h
    · exact ⟨by simp, by simp, rfl⟩
    · obtain ⟨h1, h2, h3⟩ := chn_mem h
      exact ⟨List.mem_cons_of_mem _ h1, List.mem_cons_of_mem _ h2, h3⟩
theorem chn_ne : ∀ {o : List Cell}, o.Nodup → ∀ x ∈ chn o, x.a ≠ x.b
  | [], _, x, h => by simp [chn] at h
  | [_], _, x, h => by simp [chn] at h
  | a :: b :: o, hn, x, h => by
    simp only [chn, List.mem_cons] at h
    have hn' := List.nodup_cons.1 hn
    rcases h with rfl | h
    · exact fun e => hn'.1 (by simp [show b = a from e])
    · exact chn_ne hn'.2 x h
theorem Ordr.nodup {r c : Nat} (hr : r ≤ 4) (hc : c ≤ 4) {o : List Cell} (h : Ordr r c o) : o.Nodup := (h.perm hr hc).nodup_iff.1 (nodup_cells hr hc)
theorem Ordr.lt {r c : Nat} (hr : r ≤ 4) (hc : c ≤ 4) {o : List Cell} (h : Ordr r c o) {p : Cell} (hp : p ∈ o) : p.1 < r ∧ p.2 < c := mem_cells ((h.perm hr hc).mem_iff.2 hp)
theorem Ordr.ok {r c : Nat} (hr : r ≤ 4) (hc : c ≤ 4) {o : List Cell} (h : Ordr r c o) : ∀ x ∈ chn o, okC r c x := fun x hx => by
  obtain ⟨h1, h2, _⟩ := chn_mem hx
  exact ⟨(h.lt hr hc h1).1, (h.lt hr hc h1).2, (h.lt hr hc h2).1, (h.lt hr hc h2).2, chn_ne (h.nodup hr hc) x hx⟩
def chL : Ex := (.lc (.tp (.cons (.nm 1) (.cons (.nm 2) .nil))) (.zip (.var 0) (.sl (.var 0) (.som (.lit (.int 1))) .non)) .non (.tup (.cons (.var 2) (.cons (.lit (.str "above")) (.cons (.var 1) .nil)))) [1, 2])
theorem ch_is : p_chain = .ret (.blt .tuple (.cons chL .nil)) := rfl
theorem pairs_chn : ∀ {o : List Cell} {step : D → R (List D)}, (∀ a b : Cell, step (.tuple [celD a, celD b]) = .val [cmpD ⟨b, .ab, a⟩]) → lcF step (pairsX (o.map celD) ((o.map celD).drop 1)) = .val ((chn o).map cmpD)
  | [], _, _ => rfl
  | [_], _, _ => rfl
  | a :: b :: o, step, hs => by
    have ih := pairs_chn (o := b :: o) hs
    simp only [List.map_cons, List.drop_succ_cons, List.drop_zero] at ih ⊢
    simp only [pairsX, lcF, hs a b, ih, chn, List.map_cons]
    rfl
section
variable {cal : Str → List D → R D} {sb : Str → Str → Bool} {w : Nat} {ρ : Rho}
theorem chL_ev {o : List Cell} (h1 : 1 ≤ o.length) (hl : o.length ≤ 100) : ev cal chL [some (.dat (ordD o)), none, none] = .val (.list ((chn o).map cmpD)) := by
  have e0 : ev cal (.sl (.var 0) (.som (.lit (.int 1))) .non) [some (.dat (ordD o)), none, none] = .val (.tuple ((o.map celD).drop 1)) := by
    have : ev cal (.sl (.var 0) (.som (.lit (.int 1))) .non) [some (.dat (ordD o)), none, none] = .val (.tuple (cutX (o.map celD) (some ((1 : Nat) : Int)) none)) := rfl
    rw [this, cut_drop (by simpa using h1)]
  have e1 : evi cal (.zip (.var 0) (.sl (.var 0) (.som (.lit (.int 1))) .non)) [some (.dat (ordD o)), none, none] = .val (pairsX (o.map celD) ((o.map celD).drop 1)) := by
    rw [evi, ev_var rfl, R.bnd_val, e0, R.bnd_val]; rfl
  unfold chL
  refine ev_lcS e1 (pairs_chn fun a b => rfl) ?_
  rw [List.length_map, chn_len]
  exact le_lim (by omega)
end
section
variable {tbl : Str → Option Df} (h : Std tbl) {k : Nat}
include h
theorem chain_ev {o : List Cell} (h1 : 1 ≤ o.length) (hl : o.length ≤ 100) : call sub wf tbl (k + 1) "chain" [ordD o] = .val (.tuple ((chn o).map cmpD)) := by
  rw [call_eq h.t_chain rfl, ch_is]
  have e := chL_ev (cal := call sub wf tbl k) h1 hl
  have e2 : ev (call sub wf tbl k) (.blt .tuple (.cons chL .nil)) [some (.dat (ordD o)), none, none] = .val (.tuple ((chn o).map cmpD)) := by
    simp only [ev, evs, e, R.bnd_val, bfS, ofO_some]
  exact congrArg O.res (ex_ret e2)
theorem order_ev {r c : Nat} (h1 : 1 ≤ r) (h2 : r ≤ 4) (h3 : 1 ≤ c) (h4 : c ≤ 4) (o : List Cell) : call sub wf tbl (k + 5) "is_order" [sz r c, ordD o] = .val (.bool (decide (Ordr r c o))) := by
  rw [← inOrd_ord]
  exact is_order_tup h h1 h2 h3 h4 fun d hd => by
    obtain ⟨p, _, rfl⟩ := List.mem_map.1 hd
    exact looks_cel p
theorem check_order_ok {r c : Nat} (h1 : 1 ≤ r) (h2 : r ≤ 4) (h3 : 1 ≤ c) (h4 : c ≤ 4) {o : List Cell} (ho : Ordr r c o) : call sub wf tbl (k + 6) "check_order" [sz r c, ordD o] = .val .none := by
  rw [call_eq h.t_check_order rfl]
  unfold p_check_order
  have e := ev_notB ((ev_c2 (cal := call sub wf tbl (k + 5)) (f := "is_order") (i := 0) (j := 1) (ρ := startX 2 [sz r c, ordD o]) rfl rfl).trans (order_ev h h1 h2 h3 h4 o))
  rw [decide_eq_true ho] at e
  rw [ite_f e, ex_skip]; rfl
theorem check_order_no {r c : Nat} {d : D} (hd : call sub wf tbl (k + 5) "is_order" [sz r c, d] = .val (.bool false)) : call sub wf tbl (k + 6) "check_order" [sz r c, d] = .exc "InvalidOrder" := by
  rw [call_eq h.t_check_order rfl]
  unfold p_check_order
  have e := ev_notB ((ev_c2 (cal := call sub wf tbl (k + 5)) (f := "is_order") (i := 0) (j := 1) (ρ := startX 2 [sz r c, d]) rfl rfl).trans hd)
  rw [ite_t e]; rfl
omit h in
theorem settle_ix {cal : Str → List D → R D} {ρ : Rho} {s : D} {o : List Cell} {a b X : D} (h0 : ρ[0]? = some (some (.dat s))) {i : Nat} (h1 : ρ[i]? = some (some (.dat (ordD o)))) (hc : cal "chain" [ordD o] = .val X) (hs : cal "settle" [s, X] = .val (.tuple [a, b])) : ev cal (.ix (.call "settle" (.cons (.var 0) (.cons (.call "chain" (.cons (.var i) .nil)) .nil))) (.lit (.int 0))) ρ = .val a := by
  have e1 : ev cal (.call "settle" (.cons (.var 0) (.cons (.call "chain" (.cons (.var i) .nil)) .nil))) ρ = .val (.tuple [a, b]) := by
    simp only [ev, evs, h0, h1, hc, hs, R.bnd_val]
  rw [ev, e1, R.bnd_val]; rfl
theorem settle_chn {r c : Nat} (h1 : 1 ≤ r) (h2 : r ≤ 4) (h3 : 1 ≤ c) (h4 : c ≤ 4) {o : List Cell} (ho : Ordr r c o) : ∃ X a b, isNone a = !conB r c (chn o) ∧ call sub wf tbl (k + 3) "chain" [ordD o] = .val X ∧ call sub wf tbl (k + 3) "settle" [sz r c, X] = .val (.tuple [a, b]) := by
  have hrc : r * c ≤ 16 := Nat.mul_le_mul h2 h4
  have hrc1 : 1 ≤ r * c := Nat.mul_le_mul h1 h3
  have hl := ho.1
  obtain ⟨a, b, ha, e⟩ := settle_b h (k := k) h2 h4 (ho.ok h2 h4) (by rw [chn_len]; omega)
  exact ⟨_, a, b, ha, chain_ev h (by omega) (by omega), e⟩
theorem is_additive_ok {r c : Nat} (h1 : 1 ≤ r) (h2 : r ≤ 4) (h3 : 1 ≤ c) (h4 : c ≤ 4) {o : List Cell} (ho : Ordr r c o) : call sub wf tbl (k + 7) "is_additive" [sz r c, ordD o] = .val (.bool (conB r c (chn o))) := by
  obtain ⟨X, a, b, ha, e1, e2⟩ := settle_chn h (k := k + 3) h1 h2 h3 h4 ho
  rw [call_eq h.t_is_additive rfl]
  unfold p_is_additive
  rw [ex_seq (drop_ok ((ev_c2 (i := 0) (j := 1) rfl rfl).trans (check_order_ok h h1 h2 h3 h4 ho)))]
  have e3 := settle_ix (cal := call sub wf tbl (k + 6)) (ρ := startX 2 [sz r c, ordD o]) (s := sz r c) (i := 1) rfl rfl e1 e2
  have e4 : ev (call sub wf tbl (k + 6)) (.cmp .isnt (.ix (.call "settle" (.cons (.var 0) (.cons (.call "chain" (.cons (.var 1) .nil)) .nil))) (.lit (.int 0))) (.lit .none)) (startX 2 [sz r c, ordD o]) = .val (.bool (!isNone a)) := by
    rw [ev, e3]; rfl
  rw [ex_ret e4, ha, Bool.not_not]; rfl
theorem is_additive_no {r c : Nat} {d : D} (hd : call sub wf tbl (k + 5) "is_order" [sz r c, d] = .val (.bool false)) : call sub wf tbl (k + 7) "is_additive" [sz r c, d] = .exc "InvalidOrder" := by
  rw [call_eq h.t_is_additive rfl]
  unfold p_is_additive
  rw [ex_seq_exc (drop_exc ((ev_c2 (i := 0) (j := 1) rfl rfl).trans (check_order_no h hd)))]; rfl
theorem order_values_no {r c : Nat} {d : D} (hd : call sub wf tbl (k + 5) "is_order" [sz r c, d] = .val (.bool false)) : call sub wf tbl (k + 7) "order_values" [sz r c, d] = .exc "InvalidOrder" := by
  rw [call_eq h.t_order_values rfl]
  unfold p_order_values
  rw [ex_seq_exc (drop_exc ((ev_c2 (i := 0) (j := 1) rfl rfl).trans (check_order_no h hd)))]; rfl
theorem check_small_ok {r c : Nat} (h1 : 1 ≤ r) (h2 : r ≤ 4) (h3 : 1 ≤ c) (h4 : c ≤ 4) (h9 : r * c ≤ 9) : call sub wf tbl (k + 5) "check_small" [sz r c] = .val .none := by
  rw [call_eq h.t_check_small rfl]
  unfold p_check_small
  rw [ex_seq (drop_ok ((ev_c1 (i := 0) rfl).trans (check_size_ok h (k := k) h1 h2 h3 h4)))]
  have a0 : ev (call sub wf tbl (k + 4)) (.ix (.var 0) (.lit (.int 0))) (startX 1 [sz r c]) = .val (.int (r : Int)) := rfl
  have a1 : ev (call sub wf tbl (k + 4)) (.ix (.var 0) (.lit (.int 1))) (startX 1 [sz r c]) = .val (.int (c : Int)) := rfl
  have e := ev_mul2 a0 a1 (mulOk_small (by omega))
  have e2 : ev (call sub wf tbl (k + 4)) (.cmp .gt (.bin .mul (.ix (.var 0) (.lit (.int 0))) (.ix (.var 0) (.lit (.int 1)))) (.lit (.int 9))) (startX 1 [sz r c]) = .val (.bool false) := by
    rw [ev, e]
    show R.val (PyData.bool (decide ((9 : Int) < (r : Int) * (c : Int)))) = _
    rw [decide_eq_false]
    have : (r : Int) * (c : Int) = ((r * c : Nat) : Int) := by simp
    omega
  rw [ite_f e2, ex_skip]; rfl
end
theorem shal_ords (s : List (List Cell)) : shal 3 (.list (s.map ordD)) = true := shal_list fun d hd => by
  obtain ⟨o, _, rfl⟩ := List.mem_map.1 hd
  exact shal_ord o
theorem eqv_ords : ∀ s t : List (List Cell), PyData.eqvAll (s.map ordD) (t.map ordD) = decide (s = t)
  | [], [] => by simp [PyData.eqvAll]
  | [], _ :: _ => by simp [PyData.eqvAll]
  | _ :: _, [] => by simp [PyData.eqvAll]
  | x :: s, y :: t => by
    simp only [List.map_cons, PyData.eqvAll, eqv_ord, eqv_ords s t]
    rw [Bool.eq_iff_iff]
    simp
theorem eqS_ords (s t : List (List Cell)) : eqS (.list (s.map ordD)) (.list (t.map ordD)) = some (decide (s = t)) := by
  rw [eqS_list _ _ (shal_shp (shal_ords s)) (shal_shp (shal_ords t)), ← eqv_ords, PyData.eqv]
/-! a table of orders, each with values or with a cancelling list -/
def cancB (r c : Nat) (xs : List C3) (ms : List Int) : Bool := decide (ms.length = xs.length) && (List.range xs.length).all (fun i => kEq (nth xs i).k || decide (0 ≤ ms.getD i 0)) && (List.range (r + c)).all (fun j => decide (tot r xs ms j = 0)) && (List.range xs.length).any fun i => kAb (nth xs i).k && decide (0 < ms.getD i 0)
def witB (r c : Nat) (xs : List C3) : List Int × List Int ⊕ List Int → Bool
  | .inl (us, vs) => decide (us.length = r) && decide (vs.length = c) && xs.all (hold us vs)
  | .inr ms => cancB r c xs ms
theorem witB_con {r c : Nat} {xs : List C3} (hx : ∀ x ∈ xs, okC r c x) {t : List Int × List Int ⊕ List Int} (h : witB r c xs t = true) : conB r c xs = (match t with | .inl _ => true | .inr _ => false) := by
  cases t with
  | inl p =>
    obtain ⟨us, vs⟩ := p
    simp only [witB, Bool.and_eq_true, decide_eq_true_iff, List.all_eq_true] at h
    exact conB_true.2 ⟨us, vs, h.1.1, h.1.2, h.2⟩
  | inr ms =>
    simp only [witB, cancB, Bool.and_eq_true, decide_eq_true_iff, List.all_eq_true, List.any_eq_true, List.mem_range, Bool.or_eq_true] at h
    obtain ⟨⟨⟨h1, h2⟩, h3⟩, i, hi, h4, h5⟩ := h
    refine conB_false.2 (never_both hx (ms := ms) ⟨⟨h1, fun i hi hk => ?_⟩, fun j hj => h3 j hj, ⟨i, hi, h4, h5⟩⟩)
    rcases h2 i hi with h2 | h2
    · rw [hk] at h2; cases h2
    · exact h2
def wl {α β : Type} : α ⊕ β → Bool
  | .inl _ => true
  | .inr _ => false
end Pg

set_option linter.all false
set_option maxRecDepth 100000
set_option maxHeartbeats 4000000
namespace Pg
open PySem hiding call exec
open Mp
/-! standard_orders -/
abbrev Wit := List Int × List Int ⊕ List Int
/-- the orders in which cells ascend along all rows and columns, each with values or a cancelling list -/
def ascT : Nat → Nat → List (List Cell × Wit)
  | 1, 1 => [([(0, 0)], .inl ([0], [0]))]
  | 1, 2 => [([(0, 0), (0, 1)], .inl ([0], [0, 1]))]
  | 1, 3 => [([(0, 0), (0, 1), (0, 2)], .inl ([0], [0, 1, 2]))]
  | 1, 4 => [([(0, 0), (0, 1), (0, 2), (0, 3)], .inl ([0], [0, 1, 2, 3]))]
  | 2, 1 => [([(0, 0), (1, 0)], .inl ([0, 1], [0]))]
  | 2, 2 => [([(0, 0), (0, 1), (1, 0), (1, 1)], .inl ([0, 2], [0, 1])), ([(0, 0), (1, 0), (0, 1), (1, 1)], .inl ([0, 1], [0, 2]))]
  | 2, 3 => [([(0, 0), (0, 1), (0, 2), (1, 0), (1, 1), (1, 2)], .inl ([0, 3], [0, 1, 2])), ([(0, 0), (0, 1), (1, 0), (0, 2), (1, 1), (1, 2)], .inl ([0, 3], [0, 2, 4])), ([(0, 0), (0, 1), (1, 0), (1, 1), (0, 2), (1, 2)], .inl ([0, 2], [0, 1, 4])), ([(0, 0), (1, 0), (0, 1), (0, 2), (1, 1), (1, 2)], .inl ([0, 2], [0, 3, 4])), ([(0, 0), (1, 0), (0, 1), (1, 1), (0, 2), (1, 2)], .inl ([0, 1], [0, 2, 4]))]
  | 2, 4 => [([(0, 0), (0, 1), (0, 2), (0, 3), (1, 0), (1, 1), (1, 2), (1, 3)], .inl ([0, 4], [0, 1, 2, 3])), ([(0, 0), (0, 1), (0, 2), (1, 0), (0, 3), (1, 1), (1, 2), (1, 3)], .inl ([0, 4], [0, 2, 3, 5])), ([(0, 0), (0, 1), (0, 2), (1, 0), (1, 1), (0, 3), (1, 2), (1, 3)], .inl ([0, 4], [0, 1, 3, 6])), ([(0, 0), (0, 1), (0, 2), (1, 0), (1, 1), (1, 2), (0, 3), (1, 3)], .inl ([0, 3], [0, 1, 2, 6])), ([(0, 0), (0, 1), (1, 0), (0, 2), (0, 3), (1, 1), (1, 2), (1, 3)], .inl ([0, 4], [0, 3, 5, 6])), ([(0, 0), (0, 1), (1, 0), (0, 2), (1, 1), (0, 3), (1, 2), (1, 3)], .inl ([0, 3], [0, 2, 4, 6])), ([(0, 0), (0, 1), (1, 0), (0, 2), (1, 1), (1, 2), (0, 3), (1, 3)], .inl ([0, 3], [0, 2, 4, 8])), ([(0, 0), (0, 1), (1, 0), (1, 1), (0, 2), (0, 3), (1, 2), (1, 3)], .inl ([0, 2], [0, 1, 4, 5])), ([(0, 0), (0, 1), (1, 0), (1, 1), (0, 2), (1, 2), (0, 3), (1, 3)], .inl ([0, 2], [0, 1, 4, 7])), ([(0, 0), (1, 0), (0, 1), (0, 2), (0, 3), (1, 1), (1, 2), (1, 3)], .inl ([0, 3], [0, 4, 5, 6])), ([(0, 0), (1, 0), (0, 1), (0, 2), (1, 1), (0, 3), (1, 2), (1, 3)], .inl ([0, 3], [0, 4, 6, 8])), ([(0, 0), (1, 0), (0, 1), (0, 2), (1, 1), (1, 2), (0, 3), (1, 3)], .inl ([0, 2], [0, 3, 4, 7])), ([(0, 0), (1, 0), (0, 1), (1, 1), (0, 2), (0, 3), (1, 2), (1, 3)], .inl ([0, 2], [0, 3, 6, 7])), ([(0, 0), (1, 0), (0, 1), (1, 1), (0, 2), (1, 2), (0, 3), (1, 3)], .inl ([0, 1], [0, 2, 4, 6]))]
  | 3, 1 => [([(0, 0), (1, 0), (2, 0)], .inl ([0, 1, 2], [0]))]
  | 3, 2 => [([(0, 0), (0, 1), (1, 0), (1, 1), (2, 0), (2, 1)], .inl ([0, 2, 4], [0, 1])), ([(0, 0), (0, 1), (1, 0), (2, 0), (1, 1), (2, 1)], .inl ([0, 3, 4], [0, 2])), ([(0, 0), (1, 0), (0, 1), (1, 1), (2, 0), (2, 1)], .inl ([0, 1, 4], [0, 2])), ([(0, 0), (1, 0), (0, 1), (2, 0), (1, 1), (2, 1)], .inl ([0, 2, 4], [0, 3])), ([(0, 0), (1, 0), (2, 0), (0, 1), (1, 1), (2, 1)], .inl ([0, 1, 2], [0, 3]))]
  | 3, 3 => [([(0, 0), (0, 1), (0, 2), (1, 0), (1, 1), (1, 2), (2, 0), (2, 1), (2, 2)], .inl ([0, 3, 6], [0, 1, 2])), ([(0, 0), (0, 1), (0, 2), (1, 0), (1, 1), (2, 0), (1, 2), (2, 1), (2, 2)], .inl ([0, 5, 8], [0, 2, 4])), ([(0, 0), (0, 1), (0, 2), (1, 0), (1, 1), (2, 0), (2, 1), (1, 2), (2, 2)], .inl ([0, 5, 7], [0, 1, 4])), ([(0, 0), (0, 1), (0, 2), (1, 0), (2, 0), (1, 1), (1, 2), (2, 1), (2, 2)], .inl ([0, 5, 7], [0, 3, 4])), ([(0, 0), (0, 1), (0, 2), (1, 0), (2, 0), (1, 1), (2, 1), (1, 2), (2, 2)], .inl ([0, 5, 6], [0, 2, 4])), ([(0, 0), (0, 1), (1, 0), (0, 2), (1, 1), (1, 2), (2, 0), (2, 1), (2, 2)], .inl ([0, 3, 8], [0, 2, 4])), ([(0, 0), (0, 1), (1, 0), (0, 2), (1, 1), (2, 0), (1, 2), (2, 1), (2, 2)], .inl ([0, 3, 6], [0, 2, 4])), ([(0, 0), (0, 1), (1, 0), (0, 2), (1, 1), (2, 0), (2, 1), (1, 2), (2, 2)], .inl ([0, 5, 8], [0, 2, 6])), ([(0, 0), (0, 1), (1, 0), (0, 2), (2, 0), (1, 1), (1, 2), (2, 1), (2, 2)], .inl ([0, 5, 8], [0, 4, 6])), ([(0, 0), (0, 1), (1, 0), (0, 2), (2, 0), (1, 1), (2, 1), (1, 2), (2, 2)], .inl ([0, 5, 7], [0, 3, 6])), ([(0, 0), (0, 1), (1, 0), (1, 1), (0, 2), (1, 2), (2, 0), (2, 1), (2, 2)], .inl ([0, 2, 7], [0, 1, 4])), ([(0, 0), (0, 1), (1, 0), (1, 1), (0, 2), (2, 0), (1, 2), (2, 1), (2, 2)], .inl ([0, 3, 8], [0, 2, 6])), ([(0, 0), (0, 1), (1, 0), (1, 1), (0, 2), (2, 0), (2, 1), (1, 2), (2, 2)], .inl ([0, 3, 6], [0, 1, 5])), ([(0, 0), (0, 1), (1, 0), (1, 1), (2, 0), (0, 2), (1, 2), (2, 1), (2, 2)], .inr [0, 1, 0, 0, 1, 0, 1, 0]), ([(0, 0), (0, 1), (1, 0), (1, 1), (2, 0), (0, 2), (2, 1), (1, 2), (2, 2)], .inl ([0, 3, 6], [0, 2, 7])), ([(0, 0), (0, 1), (1, 0), (1, 1), (2, 0), (2, 1), (0, 2), (1, 2), (2, 2)], .inl ([0, 2, 4], [0, 1, 6])), ([(0, 0), (0, 1), (1, 0), (2, 0), (0, 2), (1, 1), (1, 2), (2, 1), (2, 2)], .inr [0, 1, 0, 1, 0, 0, 1, 0]), ([(0, 0), (0, 1), (1, 0), (2, 0), (0, 2), (1, 1), (2, 1), (1, 2), (2, 2)], .inl ([0, 4, 5], [0, 3, 6])), ([(0, 0), (0, 1), (1, 0), (2, 0), (1, 1), (0, 2), (1, 2), (2, 1), (2, 2)], .inr [0, 1, 0, 1, 1, 0, 1, 0]), ([(0, 0), (0, 1), (1, 0), (2, 0), (1, 1), (0, 2), (2, 1), (1, 2), (2, 2)], .inl ([0, 4, 6], [0, 3, 8])), ([(0, 0), (0, 1), (1, 0), (2, 0), (1, 1), (2, 1), (0, 2), (1, 2), (2, 2)], .inl ([0, 3, 4], [0, 2, 7])), ([(0, 0), (1, 0), (0, 1), (0, 2), (1, 1), (1, 2), (2, 0), (2, 1), (2, 2)], .inl ([0, 2, 7], [0, 3, 4])), ([(0, 0), (1, 0), (0, 1), (0, 2), (1, 1), (2, 0), (1, 2), (2, 1), (2, 2)], .inl ([0, 3, 8], [0, 4, 6])), ([(0, 0), (1, 0), (0, 1), (0, 2), (1, 1), (2, 0), (2, 1), (1, 2), (2, 2)], .inr [0, 1, 0, 1, 1, 0, 1, 0]), ([(0, 0), (1, 0), (0, 1), (0, 2), (2, 0), (1, 1), (1, 2), (2, 1), (2, 2)], .inl ([0, 3, 6], [0, 4, 5])), ([(0, 0), (1, 0), (0, 1), (0, 2), (2, 0), (1, 1), (2, 1), (1, 2), (2, 2)], .inr [0, 1, 0, 1, 0, 0, 1, 0]), ([(0, 0), (1, 0), (0, 1), (1, 1), (0, 2), (1, 2), (2, 0), (2, 1), (2, 2)], .inl ([0, 1, 6], [0, 2, 4])), ([(0, 0), (1, 0), (0, 1), (1, 1), (0, 2), (2, 0), (1, 2), (2, 1), (2, 2)], .inl ([0, 2, 7], [0, 3, 6])), ([(0, 0), (1, 0), (0, 1), (1, 1), (0, 2), (2, 0), (2, 1), (1, 2), (2, 2)], .inr [0, 1, 0, 0, 1, 0, 1, 0]), ([(0, 0), (1, 0), (0, 1), (1, 1), (2, 0), (0, 2), (1, 2), (2, 1), (2, 2)], .inl ([0, 1, 5], [0, 3, 6])), ([(0, 0), (1, 0), (0, 1), (1, 1), (2, 0), (0, 2), (2, 1), (1, 2), (2, 2)], .inl ([0, 2, 6], [0, 3, 8])), ([(0, 0), (1, 0), (0, 1), (1, 1), (2, 0), (2, 1), (0, 2), (1, 2), (2, 2)], .inl ([0, 1, 4], [0, 2, 7])), ([(0, 0), (1, 0), (0, 1), (2, 0), (0, 2), (1, 1), (1, 2), (2, 1), (2, 2)], .inl ([0, 3, 6], [0, 5, 7])), ([(0, 0), (1, 0), (0, 1), (2, 0), (0, 2), (1, 1), (2, 1), (1, 2), (2, 2)], .inl ([0, 4, 6], [0, 5, 8])), ([(0, 0), (1, 0), (0, 1), (2, 0), (1, 1), (0, 2), (1, 2), (2, 1), (2, 2)], .inl ([0, 2, 6], [0, 5, 8])), ([(0, 0), (1, 0), (0, 1), (2, 0), (1, 1), (0, 2), (2, 1), (1, 2), (2, 2)], .inl ([0, 2, 4], [0, 3, 6])), ([(0, 0), (1, 0), (0, 1), (2, 0), (1, 1), (2, 1), (0, 2), (1, 2), (2, 2)], .inl ([0, 2, 4], [0, 3, 8])), ([(0, 0), (1, 0), (2, 0), (0, 1), (0, 2), (1, 1), (1, 2), (2, 1), (2, 2)], .inl ([0, 2, 4], [0, 5, 6])), ([(0, 0), (1, 0), (2, 0), (0, 1), (0, 2), (1, 1), (2, 1), (1, 2), (2, 2)], .inl ([0, 3, 4], [0, 5, 7])), ([(0, 0), (1, 0), (2, 0), (0, 1), (1, 1), (0, 2), (1, 2), (2, 1), (2, 2)], .inl ([0, 1, 4], [0, 5, 7])), ([(0, 0), (1, 0), (2, 0), (0, 1), (1, 1), (0, 2), (2, 1), (1, 2), (2, 2)], .inl ([0, 2, 4], [0, 5, 8])), ([(0, 0), (1, 0), (2, 0), (0, 1), (1, 1), (2, 1), (0, 2), (1, 2), (2, 2)], .inl ([0, 1, 2], [0, 3, 6]))]
  | 4, 1 => [([(0, 0), (1, 0), (2, 0), (3, 0)], .inl ([0, 1, 2, 3], [0]))]
  | 4, 2 => [([(0, 0), (0, 1), (1, 0), (1, 1), (2, 0), (2, 1), (3, 0), (3, 1)], .inl ([0, 2, 4, 6], [0, 1])), ([(0, 0), (0, 1), (1, 0), (1, 1), (2, 0), (3, 0), (2, 1), (3, 1)], .inl ([0, 3, 6, 7], [0, 2])), ([(0, 0), (0, 1), (1, 0), (2, 0), (1, 1), (2, 1), (3, 0), (3, 1)], .inl ([0, 3, 4, 7], [0, 2])), ([(0, 0), (0, 1), (1, 0), (2, 0), (1, 1), (3, 0), (2, 1), (3, 1)], .inl ([0, 4, 6, 8], [0, 3])), ([(0, 0), (0, 1), (1, 0), (2, 0), (3, 0), (1, 1), (2, 1), (3, 1)], .inl ([0, 4, 5, 6], [0, 3])), ([(0, 0), (1, 0), (0, 1), (1, 1), (2, 0), (2, 1), (3, 0), (3, 1)], .inl ([0, 1, 4, 7], [0, 2])), ([(0, 0), (1, 0), (0, 1), (1, 1), (2, 0), (3, 0), (2, 1), (3, 1)], .inl ([0, 1, 4, 5], [0, 2])), ([(0, 0), (1, 0), (0, 1), (2, 0), (1, 1), (2, 1), (3, 0), (3, 1)], .inl ([0, 2, 4, 8], [0, 3])), ([(0, 0), (1, 0), (0, 1), (2, 0), (1, 1), (3, 0), (2, 1), (3, 1)], .inl ([0, 2, 4, 6], [0, 3])), ([(0, 0), (1, 0), (0, 1), (2, 0), (3, 0), (1, 1), (2, 1), (3, 1)], .inl ([0, 3, 5, 6], [0, 4])), ([(0, 0), (1, 0), (2, 0), (0, 1), (1, 1), (2, 1), (3, 0), (3, 1)], .inl ([0, 1, 2, 6], [0, 3])), ([(0, 0), (1, 0), (2, 0), (0, 1), (1, 1), (3, 0), (2, 1), (3, 1)], .inl ([0, 1, 3, 6], [0, 4])), ([(0, 0), (1, 0), (2, 0), (0, 1), (3, 0), (1, 1), (2, 1), (3, 1)], .inl ([0, 2, 3, 5], [0, 4])), ([(0, 0), (1, 0), (2, 0), (3, 0), (0, 1), (1, 1), (2, 1), (3, 1)], .inl ([0, 1, 2, 3], [0, 4]))]
  | _, _ => []
/-- the standard orders, ascending -/
def stdS : Nat → Nat → List (List Cell)
  | 1, 1 => [[(0, 0)]]
  | 1, 2 => [[(0, 0), (0, 1)]]
  | 1, 3 => [[(0, 0), (0, 1), (0, 2)]]
  | 1, 4 => [[(0, 0), (0, 1), (0, 2), (0, 3)]]
  | 2, 1 => [[(0, 0), (1, 0)]]
  | 2, 2 => [[(0, 0), (0, 1), (1, 0), (1, 1)], [(0, 0), (1, 0), (0, 1), (1, 1)]]
  | 2, 3 => [[(0, 0), (0, 1), (0, 2), (1, 0), (1, 1), (1, 2)], [(0, 0), (0, 1), (1, 0), (0, 2), (1, 1), (1, 2)], [(0, 0), (0, 1), (1, 0), (1, 1), (0, 2), (1, 2)], [(0, 0), (1, 0), (0, 1), (0, 2), (1, 1), (1, 2)], [(0, 0), (1, 0), (0, 1), (1, 1), (0, 2), (1, 2)]]
  | 2, 4 => [[(0, 0), (0, 1), (0, 2), (0, 3), (1, 0), (1, 1), (1, 2), (1, 3)], [(0, 0), (0, 1), (0, 2), (1, 0), (0, 3), (1, 1), (1, 2), (1, 3)], [(0, 0), (0, 1), (0, 2), (1, 0), (1, 1), (0, 3), (1, 2), (1, 3)], [(0, 0), (0, 1), (0, 2), (1, 0), (1, 1), (1, 2), (0, 3), (1, 3)], [(0, 0), (0, 1), (1, 0), (0, 2), (0, 3), (1, 1), (1, 2), (1, 3)], [(0, 0), (0, 1), (1, 0), (0, 2), (1, 1), (0, 3), (1, 2), (1, 3)], [(0, 0), (0, 1), (1, 0), (0, 2), (1, 1), (1, 2), (0, 3), (1, 3)], [(0, 0), (0, 1), (1, 0), (1, 1), (0, 2), (0, 3), (1, 2), (1, 3)], [(0, 0), (0, 1), (1, 0), (1, 1), (0, 2), (1, 2), (0, 3), (1, 3)], [(0, 0), (1, 0), (0, 1), (0, 2), (0, 3), (1, 1), (1, 2), (1, 3)], [(0, 0), (1, 0), (0, 1), (0, 2), (1, 1), (0, 3), (1, 2), (1, 3)], [(0, 0), (1, 0), (0, 1), (0, 2), (1, 1), (1, 2), (0, 3), (1, 3)], [(0, 0), (1, 0), (0, 1), (1, 1), (0, 2), (0, 3), (1, 2), (1, 3)], [(0, 0), (1, 0), (0, 1), (1, 1), (0, 2), (1, 2), (0, 3), (1, 3)]]
  | 3, 1 => [[(0, 0), (1, 0), (2, 0)]]
  | 3, 2 => [[(0, 0), (0, 1), (1, 0), (1, 1), (2, 0), (2, 1)], [(0, 0), (0, 1), (1, 0), (2, 0), (1, 1), (2, 1)], [(0, 0), (1, 0), (0, 1), (1, 1), (2, 0), (2, 1)], [(0, 0), (1, 0), (0, 1), (2, 0), (1, 1), (2, 1)], [(0, 0), (1, 0), (2, 0), (0, 1), (1, 1), (2, 1)]]
  | 3, 3 => [[(0, 0), (0, 1), (0, 2), (1, 0), (1, 1), (1, 2), (2, 0), (2, 1), (2, 2)], [(0, 0), (0, 1), (0, 2), (1, 0), (1, 1), (2, 0), (1, 2), (2, 1), (2, 2)], [(0, 0), (0, 1), (0, 2), (1, 0), (1, 1), (2, 0), (2, 1), (1, 2), (2, 2)], [(0, 0), (0, 1), (0, 2), (1, 0), (2, 0), (1, 1), (1, 2), (2, 1), (2, 2)], [(0, 0), (0, 1), (0, 2), (1, 0), (2, 0), (1, 1), (2, 1), (1, 2), (2, 2)], [(0, 0), (0, 1), (1, 0), (0, 2), (1, 1), (1, 2), (2, 0), (2, 1), (2, 2)], [(0, 0), (0, 1), (1, 0), (0, 2), (1, 1), (2, 0), (1, 2), (2, 1), (2, 2)], [(0, 0), (0, 1), (1, 0), (0, 2), (1, 1), (2, 0), (2, 1), (1, 2), (2, 2)], [(0, 0), (0, 1), (1, 0), (0, 2), (2, 0), (1, 1), (1, 2), (2, 1), (2, 2)], [(0, 0), (0, 1), (1, 0), (0, 2), (2, 0), (1, 1), (2, 1), (1, 2), (2, 2)], [(0, 0), (0, 1), (1, 0), (1, 1), (0, 2), (1, 2), (2, 0), (2, 1), (2, 2)], [(0, 0), (0, 1), (1, 0), (1, 1), (0, 2), (2, 0), (1, 2), (2, 1), (2, 2)], [(0, 0), (0, 1), (1, 0), (1, 1), (0, 2), (2, 0), (2, 1), (1, 2), (2, 2)], [(0, 0), (0, 1), (1, 0), (1, 1), (2, 0), (0, 2), (2, 1), (1, 2), (2, 2)], [(0, 0), (0, 1), (1, 0), (1, 1), (2, 0), (2, 1), (0, 2), (1, 2), (2, 2)], [(0, 0), (0, 1), (1, 0), (2, 0), (0, 2), (1, 1), (2, 1), (1, 2), (2, 2)], [(0, 0), (0, 1), (1, 0), (2, 0), (1, 1), (0, 2), (2, 1), (1, 2), (2, 2)], [(0, 0), (0, 1), (1, 0), (2, 0), (1, 1), (2, 1), (0, 2), (1, 2), (2, 2)], [(0, 0), (1, 0), (0, 1), (0, 2), (1, 1), (1, 2), (2, 0), (2, 1), (2, 2)], [(0, 0), (1, 0), (0, 1), (0, 2), (1, 1), (2, 0), (1, 2), (2, 1), (2, 2)], [(0, 0), (1, 0), (0, 1), (0, 2), (2, 0), (1, 1), (1, 2), (2, 1), (2, 2)], [(0, 0), (1, 0), (0, 1), (1, 1), (0, 2), (1, 2), (2, 0), (2, 1), (2, 2)], [(0, 0), (1, 0), (0, 1), (1, 1), (0, 2), (2, 0), (1, 2), (2, 1), (2, 2)], [(0, 0), (1, 0), (0, 1), (1, 1), (2, 0), (0, 2), (1, 2), (2, 1), (2, 2)], [(0, 0), (1, 0), (0, 1), (1, 1), (2, 0), (0, 2), (2, 1), (1, 2), (2, 2)], [(0, 0), (1, 0), (0, 1), (1, 1), (2, 0), (2, 1), (0, 2), (1, 2), (2, 2)], [(0, 0), (1, 0), (0, 1), (2, 0), (0, 2), (1, 1), (1, 2), (2, 1), (2, 2)], [(0, 0), (1, 0), (0, 1), (2, 0), (0, 2), (1, 1), (2, 1), (1, 2), (2, 2)], [(0, 0), (1, 0), (0, 1), (2, 0), (1, 1), (0, 2), (1, 2), (2, 1), (2, 2)], [(0, 0), (1, 0), (0, 1), (2, 0), (1, 1), (0, 2), (2, 1), (1, 2), (2, 2)], [(0, 0), (1, 0), (0, 1), (2, 0), (1, 1), (2, 1), (0, 2), (1, 2), (2, 2)], [(0, 0), (1, 0), (2, 0), (0, 1), (0, 2), (1, 1), (1, 2), (2, 1), (2, 2)], [(0, 0), (1, 0), (2, 0), (0, 1), (0, 2), (1, 1), (2, 1), (1, 2), (2, 2)], [(0, 0), (1, 0), (2, 0), (0, 1), (1, 1), (0, 2), (1, 2), (2, 1), (2, 2)], [(0, 0), (1, 0), (2, 0), (0, 1), (1, 1), (0, 2), (2, 1), (1, 2), (2, 2)], [(0, 0), (1, 0), (2, 0), (0, 1), (1, 1), (2, 1), (0, 2), (1, 2), (2, 2)]]
  | 4, 1 => [[(0, 0), (1, 0), (2, 0), (3, 0)]]
  | 4, 2 => [[(0, 0), (0, 1), (1, 0), (1, 1), (2, 0), (2, 1), (3, 0), (3, 1)], [(0, 0), (0, 1), (1, 0), (1, 1), (2, 0), (3, 0), (2, 1), (3, 1)], [(0, 0), (0, 1), (1, 0), (2, 0), (1, 1), (2, 1), (3, 0), (3, 1)], [(0, 0), (0, 1), (1, 0), (2, 0), (1, 1), (3, 0), (2, 1), (3, 1)], [(0, 0), (0, 1), (1, 0), (2, 0), (3, 0), (1, 1), (2, 1), (3, 1)], [(0, 0), (1, 0), (0, 1), (1, 1), (2, 0), (2, 1), (3, 0), (3, 1)], [(0, 0), (1, 0), (0, 1), (1, 1), (2, 0), (3, 0), (2, 1), (3, 1)], [(0, 0), (1, 0), (0, 1), (2, 0), (1, 1), (2, 1), (3, 0), (3, 1)], [(0, 0), (1, 0), (0, 1), (2, 0), (1, 1), (3, 0), (2, 1), (3, 1)], [(0, 0), (1, 0), (0, 1), (2, 0), (3, 0), (1, 1), (2, 1), (3, 1)], [(0, 0), (1, 0), (2, 0), (0, 1), (1, 1), (2, 1), (3, 0), (3, 1)], [(0, 0), (1, 0), (2, 0), (0, 1), (1, 1), (3, 0), (2, 1), (3, 1)], [(0, 0), (1, 0), (2, 0), (0, 1), (3, 0), (1, 1), (2, 1), (3, 1)], [(0, 0), (1, 0), (2, 0), (3, 0), (0, 1), (1, 1), (2, 1), (3, 1)]]
  | _, _ => []
theorem nine {P : Nat → Nat → Prop} {r c : Nat} (h1 : 1 ≤ r) (h2 : r ≤ 4) (h3 : 1 ≤ c) (h4 : c ≤ 4) (h9 : r * c ≤ 9) (p11 : P 1 1) (p12 : P 1 2) (p13 : P 1 3) (p14 : P 1 4) (p21 : P 2 1) (p22 : P 2 2) (p23 : P 2 3) (p24 : P 2 4) (p31 : P 3 1) (p32 : P 3 2) (p33 : P 3 3) (p41 : P 4 1) (p42 : P 4 2) : P r c := by
  rcases (show r = 1 ∨ r = 2 ∨ r = 3 ∨ r = 4 by omega) with rfl | rfl | rfl | rfl <;> rcases (show c = 1 ∨ c = 2 ∨ c = 3 ∨ c = 4 by omega) with rfl | rfl | rfl | rfl <;> first | assumption | omega
theorem ascT_b {r c : Nat} (h1 : 1 ≤ r) (h2 : r ≤ 4) (h3 : 1 ≤ c) (h4 : c ≤ 4) (h9 : r * c ≤ 9) : (ascT r c).all (fun t => decide (Ordr r c t.1) && witB r c (chn t.1) t.2) = true := by
  refine nine (P := fun r c => (ascT r c).all (fun t => decide (Ordr r c t.1) && witB r c (chn t.1) t.2) = true) h1 h2 h3 h4 h9 ?_ ?_ ?_ ?_ ?_ ?_ ?_ ?_ ?_ ?_ ?_ ?_ ?_ <;> kernel_rfl
theorem ascT_ok {r c : Nat} (h1 : 1 ≤ r) (h2 : r ≤ 4) (h3 : 1 ≤ c) (h4 : c ≤ 4) (h9 : r * c ≤ 9) {t : List Cell × Wit} (ht : t ∈ ascT r c) : Ordr r c t.1 ∧ conB r c (chn t.1) = wl t.2 := by
  have := List.all_eq_true.1 (ascT_b h1 h2 h3 h4 h9) t ht
  rw [Bool.and_eq_true] at this
  have ho : Ordr r c t.1 := of_decide_eq_true this.1
  refine ⟨ho, ?_⟩
  rw [witB_con (ho.ok h2 h4) this.2]
  obtain ⟨o, w⟩ := t
  cases w <;> rfl
abbrev AsP (r c : Nat) : Prop := ∀ {cal : Str → List D → R D}, (exec cal sub wf p_ascending_starts (startX 8 [sz r c])).res = .val (.list ((ascT r c).map fun t => ordD t.1))
theorem as11 : AsP 1 1 := by intro cal; kernel_rfl
theorem as12 : AsP 1 2 := by intro cal; kernel_rfl
theorem as13 : AsP 1 3 := by intro cal; kernel_rfl
theorem as14 : AsP 1 4 := by intro cal; kernel_rfl
theorem as21 : AsP 2 1 := by intro cal; kernel_rfl
theorem as22 : AsP 2 2 := by intro cal; kernel_rfl
theorem as23 : AsP 2 3 := by intro cal; kernel_rfl
theorem as24 : AsP 2 4 := by intro cal; kernel_rfl
theorem as31 : AsP 3 1 := by intro cal; kernel_rfl
theorem as32 : AsP 3 2 := by intro cal; kernel_rfl
theorem as33 : AsP 3 3 := by intro cal; kernel_rfl
theorem as41 : AsP 4 1 := by intro cal; kernel_rfl
theorem as42 : AsP 4 2 := by intro cal; kernel_rfl
theorem asc_run {cal : Str → List D → R D} {r c : Nat} (h1 : 1 ≤ r) (h2 : r ≤ 4) (h3 : 1 ≤ c) (h4 : c ≤ 4) (h9 : r * c ≤ 9) : (exec cal sub wf p_ascending_starts (startX 8 [sz r c])).res = .val (.list ((ascT r c).map fun t => ordD t.1)) := by
  exact nine (P := AsP) h1 h2 h3 h4 h9 as11 as12 as13 as14 as21 as22 as23 as24 as31 as32 as33 as41 as42
theorem std_sort {r c : Nat} (h1 : 1 ≤ r) (h2 : r ≤ 4) (h3 : 1 ≤ c) (h4 : c ≤ 4) (h9 : r * c ≤ 9) : bgS .sorted [.list (((ascT r c).filter fun t => wl t.2).map fun t => ordD t.1)] = some (.list ((stdS r c).map ordD)) := by
  refine nine (P := fun r c => bgS .sorted [.list (((ascT r c).filter fun t => wl t.2).map fun t => ordD t.1)] = some (.list ((stdS r c).map ordD))) h1 h2 h3 h4 h9 ?_ ?_ ?_ ?_ ?_ ?_ ?_ ?_ ?_ ?_ ?_ ?_ ?_ <;> kernel_rfl
theorem asc_n {r c : Nat} (h1 : 1 ≤ r) (h2 : r ≤ 4) (h3 : 1 ≤ c) (h4 : c ≤ 4) (h9 : r * c ≤ 9) : (ascT r c).length ≤ 100 := by
  refine nine (P := fun r c => (ascT r c).length ≤ 100) h1 h2 h3 h4 h9 ?_ ?_ ?_ ?_ ?_ ?_ ?_ ?_ ?_ ?_ ?_ ?_ ?_ <;> decide
def soL : Ex := (.lc (.nm 1) (.seq (.call "ascending_starts" (.cons (.var 0) .nil))) (.som (.cmp .isnt (.ix (.call "settle" (.cons (.var 0) (.cons (.call "chain" (.cons (.var 1) .nil)) .nil))) (.lit (.int 0))) (.lit .none))) (.var 1) [1])
theorem so_is : p_standard_orders = (.seq (.drop (.call "check_small" (.cons (.var 0) .nil))) (.ret (.blg .sorted (.cons soL .nil)))) := rfl
section
variable {tbl : Str → Option Df} (h : Std tbl) {k : Nat}
include h
theorem standard_orders {r c : Nat} (h1 : 1 ≤ r) (h2 : r ≤ 4) (h3 : 1 ≤ c) (h4 : c ≤ 4) (h9 : r * c ≤ 9) : call sub wf tbl (k + 6) "standard_orders" [sz r c] = .val (.list ((stdS r c).map ordD)) := by
  have ea : call sub wf tbl (k + 5) "ascending_starts" [sz r c] = .val (.list ((ascT r c).map fun t => ordD t.1)) := by
    rw [call_eq h.t_ascending_starts rfl, asc_run h1 h2 h3 h4 h9]
  have el : ev (call sub wf tbl (k + 5)) soL [some (.dat (sz r c)), none] = .val (.list (((ascT r c).filter fun t => wl t.2).map fun t => ordD t.1)) := by
    unfold soL
    refine ev_keepM (by simp) (evi_seqL ((ev_c1 (i := 0) rfl).trans ea)) (le_lim (by have := asc_n h1 h2 h3 h4 h9; omega)) fun t ht => ?_
    obtain ⟨ho, hw⟩ := ascT_ok h1 h2 h3 h4 h9 ht
    obtain ⟨X, a, b, ha, e1, e2⟩ := settle_chn h (k := k + 2) h1 h2 h3 h4 ho
    have e3 := settle_ix (cal := call sub wf tbl (k + 5)) (ρ := (wipeX [some (.dat (sz r c)), none] [1]).set 1 (some (.dat (ordD t.1)))) (s := sz r c) (i := 1) rfl rfl e1 e2
    have e4 : ev (call sub wf tbl (k + 5)) (.cmp .isnt (.ix (.call "settle" (.cons (.var 0) (.cons (.call "chain" (.cons (.var 1) .nil)) .nil))) (.lit (.int 0))) (.lit .none)) ((wipeX [some (.dat (sz r c)), none] [1]).set 1 (some (.dat (ordD t.1)))) = .val (.bool (!isNone a)) := by
      rw [ev, e3]; rfl
    rw [ha, Bool.not_not, hw] at e4
    exact tru_bool e4
  rw [call_eq h.t_standard_orders rfl, so_is, ex_seq (drop_ok ((ev_c1 (i := 0) rfl).trans (check_small_ok h h1 h2 h3 h4 h9)))]
  have e5 : ev (call sub wf tbl (k + 5)) (.blg .sorted (.cons soL .nil)) [some (.dat (sz r c)), none] = .val (.list ((stdS r c).map ordD)) := by
    simp only [ev, evs, el, R.bnd_val, std_sort h1 h2 h3 h4 h9, ofO_some]
  exact congrArg O.res (ex_ret e5)
end
/-! permutations, count_orders -/
def lenR : R D → Option Nat
  | .val (.list ds) => some ds.length
  | _ => none
def facN : Nat → Nat
  | 0 => 1
  | n + 1 => (n + 1) * facN n
theorem perm_run {cal : Str → List D → R D} {n : Nat} (h1 : 1 ≤ n) (h2 : n ≤ 4) : lenR (exec cal sub wf p_permutations (startX 6 [.int (n : Int)])).res = some (facN n) := by
  refine four (P := fun n => lenR (exec cal sub wf p_permutations (startX 6 [.int (n : Int)])).res = some (facN n)) h1 h2 ?_ ?_ ?_ ?_ <;> kernel_rfl
theorem lenR_val {r : R D} {n : Nat} (h : lenR r = some n) : ∃ ds, r = .val (.list ds) ∧ ds.length = n := by
  unfold lenR at h
  split at h
  · cases h; exact ⟨_, rfl, rfl⟩
  · cases h
section
variable {tbl : Str → Option Df} (h : Std tbl) {k : Nat}
include h
theorem count_orders {r c : Nat} (h1 : 1 ≤ r) (h2 : r ≤ 4) (h3 : 1 ≤ c) (h4 : c ≤ 4) (h9 : r * c ≤ 9) : call sub wf tbl (k + 7) "count_orders" [sz r c] = .val (.int (((stdS r c).length : Int) * (facN r : Int) * (facN c : Int))) := by
  have e1 := standard_orders h (k := k) h1 h2 h3 h4 h9
  obtain ⟨ps, p1, p2⟩ := lenR_val (perm_run (cal := call sub wf tbl (k + 5)) h1 h2)
  obtain ⟨qs, q1, q2⟩ := lenR_val (perm_run (cal := call sub wf tbl (k + 5)) h3 h4)
  have e2 : call sub wf tbl (k + 6) "permutations" [.int (r : Int)] = .val (.list ps) := by rw [call_eq h.t_permutations rfl, p1]
  have e3 : call sub wf tbl (k + 6) "permutations" [.int (c : Int)] = .val (.list qs) := by rw [call_eq h.t_permutations rfl, q1]
  rw [call_eq h.t_count_orders rfl]
  unfold p_count_orders
  have a0 : ev (call sub wf tbl (k + 6)) (.ix (.var 0) (.lit (.int 0))) (startX 1 [sz r c]) = .val (.int (r : Int)) := rfl
  have a1 : ev (call sub wf tbl (k + 6)) (.ix (.var 0) (.lit (.int 1))) (startX 1 [sz r c]) = .val (.int (c : Int)) := rfl
  have a2 : ev (call sub wf tbl (k + 6)) (.call "standard_orders" (.cons (.var 0) .nil)) (startX 1 [sz r c]) = .val (.list ((stdS r c).map ordD)) := (ev_c1 (i := 0) rfl).trans e1
  have b1 : ev (call sub wf tbl (k + 6)) (.blt .len (.cons (.call "standard_orders" (.cons (.var 0) .nil)) .nil)) (startX 1 [sz r c]) = .val (.int ((stdS r c).length : Int)) := by
    rw [ev, evs, a2]
    simp only [evs, R.bnd_val, bfS, ofO_some, List.length_map]
  have b2 : ev (call sub wf tbl (k + 6)) (.blt .len (.cons (.call "permutations" (.cons (.ix (.var 0) (.lit (.int 0))) .nil)) .nil)) (startX 1 [sz r c]) = .val (.int (facN r : Int)) := by
    simp only [ev, evs, R.bnd_val] at a0 ⊢
    simp only [a0, R.bnd_val, e2, bfS, ofO_some, p2]
  have b3 : ev (call sub wf tbl (k + 6)) (.blt .len (.cons (.call "permutations" (.cons (.ix (.var 0) (.lit (.int 1))) .nil)) .nil)) (startX 1 [sz r c]) = .val (.int (facN c : Int)) := by
    simp only [ev, evs, R.bnd_val] at a1 ⊢
    simp only [a1, R.bnd_val, e3, bfS, ofO_some, q2]
  have hf : facN r ≤ 1000 := four (P := fun r => facN r ≤ 1000) h1 h2 (by decide) (by decide) (by decide) (by decide)
  have hg : facN c ≤ 1000 := four (P := fun r => facN r ≤ 1000) h3 h4 (by decide) (by decide) (by decide) (by decide)
  have hm : ∀ (i : Int) (n : Nat), n ≤ 1000 → mulOk i (n : Int) = true := fun i n hn => by
    unfold mulOk
    rw [Bool.or_eq_true]
    exact .inl (decide_eq_true (.inr ⟨by omega, by omega⟩))
  rw [ex_ret (ev_mul2 (ev_mul2 b1 b2 (hm _ _ hf)) b3 (hm _ _ hg))]; rfl
end
end Pg

set_option Elab.async false
set_option linter.all false
set_option maxRecDepth 100000
set_option maxHeartbeats 4000000
namespace K14
open PySem Mp Pg
def xNames : List Str := ["InvalidOrder", "InvalidSize", "TooLarge"]
def p_law : S := (.seq (.asg (.nm 1) (.call "_law_row" (.cons (.var 0) (.cons (.lit (.int 6)) .nil)))) (.seq (.asg (.nm 2) (.ix (.lst (.cons (.tup (.cons (.lit (.int 2)) (.cons (.lit (.int 2)) .nil))) (.cons (.tup (.cons (.lit (.int 2)) (.cons (.lit (.int 3)) .nil))) (.cons (.tup (.cons (.lit (.int 3)) (.cons (.lit (.int 2)) .nil))) (.cons (.tup (.cons (.lit (.int 1)) (.cons (.lit (.int 4)) .nil))) (.cons (.tup (.cons (.lit (.int 3)) (.cons (.lit (.int 1)) .nil))) (.cons (.tup (.cons (.lit (.int 2)) (.cons (.lit (.int 4)) .nil))) (.cons (.tup (.cons (.lit (.int 3)) (.cons (.lit (.int 3)) .nil))) (.cons (.tup (.cons (.lit (.int 1)) (.cons (.lit (.int 1)) .nil))) .nil))))))))) (.bin .mod (.ix (.var 1) (.lit (.int 0))) (.lit (.int 8))))) (.seq (.asg (.nm 3) (.lst (.cons (.tup .nil) .nil))) (.seq (.for (.nm 4) (.rng (.bin .mul (.ix (.var 2) (.lit (.int 0))) (.ix (.var 2) (.lit (.int 1))))) (.seq (.own 5 (.lst .nil)) (.seq (.for (.nm 6) (.seq (.var 3)) (.for (.nm 7) (.seq (.call "_law_cells" (.cons (.var 2) .nil))) (.seq (.par 8 9 (.tup (.cons (.ix (.var 7) (.lit (.int 0))) (.cons (.bin .sub (.ix (.var 7) (.lit (.int 1))) (.lit (.int 1))) .nil))) (.tup (.cons (.bin .sub (.ix (.var 7) (.lit (.int 0))) (.lit (.int 1))) (.cons (.ix (.var 7) (.lit (.int 1))) .nil)))) (.seq (.asg (.nm 10) (.and (.or (.cmp .eq (.ix (.var 7) (.lit (.int 1))) (.lit (.int 0))) (.cmp .isin (.var 8) (.var 6))) (.or (.cmp .eq (.ix (.var 7) (.lit (.int 0))) (.lit (.int 0))) (.cmp .isin (.var 9) (.var 6))))) (.ite (.and (.cmp .notin (.var 7) (.var 6)) (.var 10)) (.app 5 (.bin .add (.var 6) (.tup (.cons (.var 7) .nil)))) .skip))))) (.frz [5] (.asg (.nm 3) (.var 5)))))) (.seq (.ite (.cmp .ne (.blt .len (.cons (.var 3) .nil)) (.ix (.lst (.cons (.lit (.int 2)) (.cons (.lit (.int 5)) (.cons (.lit (.int 5)) (.cons (.lit (.int 1)) (.cons (.lit (.int 1)) (.cons (.lit (.int 14)) (.cons (.lit (.int 42)) (.cons (.lit (.int 1)) .nil))))))))) (.bin .mod (.ix (.var 1) (.lit (.int 0))) (.lit (.int 8))))) (.ret (.lit (.bool false))) .skip) (.seq (.asg (.nm 3) (.lc (.nm 6) (.seq (.var 3)) (.som (.call "is_additive" (.cons (.var 2) (.cons (.var 6) .nil)))) (.var 6) [6])) (.seq (.ite (.or (.cmp .ne (.call "standard_orders" (.cons (.var 2) .nil)) (.blg .sorted (.cons (.var 3) .nil))) (.cmp .ne (.blt .len (.cons (.var 3) .nil)) (.ix (.lst (.cons (.lit (.int 2)) (.cons (.lit (.int 5)) (.cons (.lit (.int 5)) (.cons (.lit (.int 1)) (.cons (.lit (.int 1)) (.cons (.lit (.int 14)) (.cons (.lit (.int 36)) (.cons (.lit (.int 1)) .nil))))))))) (.bin .mod (.ix (.var 1) (.lit (.int 0))) (.lit (.int 8)))))) (.ret (.lit (.bool false))) .skip) (.ret (.cmp .eq (.call "count_orders" (.cons (.var 2) .nil)) (.ix (.lst (.cons (.lit (.int 8)) (.cons (.lit (.int 60)) (.cons (.lit (.int 60)) (.cons (.lit (.int 24)) (.cons (.lit (.int 6)) (.cons (.lit (.int 672)) (.cons (.lit (.int 1296)) (.cons (.lit (.int 1)) .nil))))))))) (.bin .mod (.ix (.var 1) (.lit (.int 0))) (.lit (.int 8)))))))))))))
def tblO : List (Str × Df) := [("law", ⟨11, 1, p_law⟩)]
def tbl (x : Str) : Option Df := (tblO ++ tblL).lookup x
theorem t__law_cell : tbl "_law_cell" = some ⟨2, 2, p__law_cell⟩ := by kernel_rfl
theorem t__law_row : tbl "_law_row" = some ⟨5, 2, p__law_row⟩ := by kernel_rfl
theorem t__law_cells : tbl "_law_cells" = some ⟨4, 1, p__law_cells⟩ := by kernel_rfl
theorem t_in_range : tbl "in_range" = some ⟨3, 3, p_in_range⟩ := by kernel_rfl
theorem t_is_pair : tbl "is_pair" = some ⟨3, 3, p_is_pair⟩ := by kernel_rfl
theorem t_is_size : tbl "is_size" = some ⟨1, 1, p_is_size⟩ := by kernel_rfl
theorem t_check_size : tbl "check_size" = some ⟨1, 1, p_check_size⟩ := by kernel_rfl
theorem t_all_cells : tbl "all_cells" = some ⟨3, 1, p_all_cells⟩ := by kernel_rfl
theorem t_is_same : tbl "is_same" = some ⟨3, 2, p_is_same⟩ := by kernel_rfl
theorem t_is_order : tbl "is_order" = some ⟨4, 2, p_is_order⟩ := by kernel_rfl
theorem t_check_order : tbl "check_order" = some ⟨2, 2, p_check_order⟩ := by kernel_rfl
theorem t_difference : tbl "difference" = some ⟨6, 3, p_difference⟩ := by kernel_rfl
theorem t_equation_of : tbl "equation_of" = some ⟨8, 3, p_equation_of⟩ := by kernel_rfl
theorem t_pick_column : tbl "pick_column" = some ⟨3, 2, p_pick_column⟩ := by kernel_rfl
theorem t_pick_row : tbl "pick_row" = some ⟨7, 3, p_pick_row⟩ := by kernel_rfl
theorem t_exchange : tbl "exchange" = some ⟨11, 4, p_exchange⟩ := by kernel_rfl
theorem t_solve : tbl "solve" = some ⟨16, 2, p_solve⟩ := by kernel_rfl
theorem t_greatest_divisor : tbl "greatest_divisor" = some ⟨4, 1, p_greatest_divisor⟩ := by kernel_rfl
theorem t_shortened : tbl "shortened" = some ⟨3, 1, p_shortened⟩ := by kernel_rfl
theorem t_settle : tbl "settle" = some ⟨7, 2, p_settle⟩ := by kernel_rfl
theorem t_chain : tbl "chain" = some ⟨3, 1, p_chain⟩ := by kernel_rfl
theorem t_is_additive : tbl "is_additive" = some ⟨2, 2, p_is_additive⟩ := by kernel_rfl
theorem t_check_small : tbl "check_small" = some ⟨1, 1, p_check_small⟩ := by kernel_rfl
theorem t_ascending_starts : tbl "ascending_starts" = some ⟨8, 1, p_ascending_starts⟩ := by kernel_rfl
theorem t_standard_orders : tbl "standard_orders" = some ⟨2, 1, p_standard_orders⟩ := by kernel_rfl
theorem t_permutations : tbl "permutations" = some ⟨6, 1, p_permutations⟩ := by kernel_rfl
theorem t_count_orders : tbl "count_orders" = some ⟨1, 1, p_count_orders⟩ := by kernel_rfl
theorem t_law : tbl "law" = some ⟨11, 1, p_law⟩ := by kernel_rfl
theorem std : Std tbl := std_cons rfl (by decide +kernel)
end K14

set_option linter.all false
set_option maxRecDepth 100000
set_option maxHeartbeats 4000000
namespace K14
open PySem hiding call exec
open Mp Pg
def sA : S := (.asg (.nm 1) (.call "_law_row" (.cons (.var 0) (.cons (.lit (.int 6)) .nil))))
def sB : S := (.asg (.nm 2) (.ix (.lst (.cons (.tup (.cons (.lit (.int 2)) (.cons (.lit (.int 2)) .nil))) (.cons (.tup (.cons (.lit (.int 2)) (.cons (.lit (.int 3)) .nil))) (.cons (.tup (.cons (.lit (.int 3)) (.cons (.lit (.int 2)) .nil))) (.cons (.tup (.cons (.lit (.int 1)) (.cons (.lit (.int 4)) .nil))) (.cons (.tup (.cons (.lit (.int 3)) (.cons (.lit (.int 1)) .nil))) (.cons (.tup (.cons (.lit (.int 2)) (.cons (.lit (.int 4)) .nil))) (.cons (.tup (.cons (.lit (.int 3)) (.cons (.lit (.int 3)) .nil))) (.cons (.tup (.cons (.lit (.int 1)) (.cons (.lit (.int 1)) .nil))) .nil))))))))) (.bin .mod (.ix (.var 1) (.lit (.int 0))) (.lit (.int 8)))))
def sC : S := (.asg (.nm 3) (.lst (.cons (.tup .nil) .nil)))
def sL : S := (.for (.nm 4) (.rng (.bin .mul (.ix (.var 2) (.lit (.int 0))) (.ix (.var 2) (.lit (.int 1))))) (.seq (.own 5 (.lst .nil)) (.seq (.for (.nm 6) (.seq (.var 3)) (.for (.nm 7) (.seq (.call "_law_cells" (.cons (.var 2) .nil))) (.seq (.par 8 9 (.tup (.cons (.ix (.var 7) (.lit (.int 0))) (.cons (.bin .sub (.ix (.var 7) (.lit (.int 1))) (.lit (.int 1))) .nil))) (.tup (.cons (.bin .sub (.ix (.var 7) (.lit (.int 0))) (.lit (.int 1))) (.cons (.ix (.var 7) (.lit (.int 1))) .nil)))) (.seq (.asg (.nm 10) (.and (.or (.cmp .eq (.ix (.var 7) (.lit (.int 1))) (.lit (.int 0))) (.cmp .isin (.var 8) (.var 6))) (.or (.cmp .eq (.ix (.var 7) (.lit (.int 0))) (.lit (.int 0))) (.cmp .isin (.var 9) (.var 6))))) (.ite (.and (.cmp .notin (.var 7) (.var 6)) (.var 10)) (.app 5 (.bin .add (.var 6) (.tup (.cons (.var 7) .nil)))) .skip))))) (.frz [5] (.asg (.nm 3) (.var 5))))))
def sN : S := (.ite (.cmp .ne (.blt .len (.cons (.var 3) .nil)) (.ix (.lst (.cons (.lit (.int 2)) (.cons (.lit (.int 5)) (.cons (.lit (.int 5)) (.cons (.lit (.int 1)) (.cons (.lit (.int 1)) (.cons (.lit (.int 14)) (.cons (.lit (.int 42)) (.cons (.lit (.int 1)) .nil))))))))) (.bin .mod (.ix (.var 1) (.lit (.int 0))) (.lit (.int 8))))) (.ret (.lit (.bool false))) .skip)
def sF : S := (.asg (.nm 3) (.lc (.nm 6) (.seq (.var 3)) (.som (.call "is_additive" (.cons (.var 2) (.cons (.var 6) .nil)))) (.var 6) [6]))
def sS : S := (.ite (.or (.cmp .ne (.call "standard_orders" (.cons (.var 2) .nil)) (.blg .sorted (.cons (.var 3) .nil))) (.cmp .ne (.blt .len (.cons (.var 3) .nil)) (.ix (.lst (.cons (.lit (.int 2)) (.cons (.lit (.int 5)) (.cons (.lit (.int 5)) (.cons (.lit (.int 1)) (.cons (.lit (.int 1)) (.cons (.lit (.int 14)) (.cons (.lit (.int 36)) (.cons (.lit (.int 1)) .nil))))))))) (.bin .mod (.ix (.var 1) (.lit (.int 0))) (.lit (.int 8)))))) (.ret (.lit (.bool false))) .skip)
def sR : S := (.ret (.cmp .eq (.call "count_orders" (.cons (.var 2) .nil)) (.ix (.lst (.cons (.lit (.int 8)) (.cons (.lit (.int 60)) (.cons (.lit (.int 60)) (.cons (.lit (.int 24)) (.cons (.lit (.int 6)) (.cons (.lit (.int 672)) (.cons (.lit (.int 1296)) (.cons (.lit (.int 1)) .nil))))))))) (.bin .mod (.ix (.var 1) (.lit (.int 0))) (.lit (.int 8))))))
theorem law_is : p_law = (.seq sA (.seq sB (.seq sC (.seq sL (.seq sN (.seq sF (.seq sS sR))))))) := rfl
def szM : Nat → Nat × Nat
  | 0 => (2, 2)
  | 1 => (2, 3)
  | 2 => (3, 2)
  | 3 => (1, 4)
  | 4 => (3, 1)
  | 5 => (2, 4)
  | 6 => (3, 3)
  | _ => (1, 1)
def look : O → Option (Option (Option Sl) × Option (Option Sl) × Option (Option Sl) × Nat)
  | .nxt ρ => some (ρ[1]?, ρ[2]?, ρ[3]?, ρ.length)
  | _ => none
theorem look_nxt {o : O} {a b c : Option (Option Sl)} {n : Nat} (h : look o = some (a, b, c, n)) : ∃ ρ, o = .nxt ρ ∧ ρ[1]? = a ∧ ρ[2]? = b ∧ ρ[3]? = c ∧ ρ.length = n := by
  cases o <;> simp only [look] at h <;> cases h
  exact ⟨_, rfl, rfl, rfl, rfl, rfl⟩
theorem eight {P : Nat → Prop} {m : Nat} (h : m < 8) (p0 : P 0) (p1 : P 1) (p2 : P 2) (p3 : P 3) (p4 : P 4) (p5 : P 5) (p6 : P 6) (p7 : P 7) : P m := by
  rcases (show m = 0 ∨ m = 1 ∨ m = 2 ∨ m = 3 ∨ m = 4 ∨ m = 5 ∨ m = 6 ∨ m = 7 by omega) with rfl | rfl | rfl | rfl | rfl | rfl | rfl | rfl <;> assumption
abbrev szD (m : Nat) : D := sz (szM m).1 (szM m).2
abbrev asM (m : Nat) : List (List Cell × Wit) := ascT (szM m).1 (szM m).2
abbrev LpP (m : Nat) : Prop := ∀ {s0 s1 : Option Sl}, look (exec (call sub wf tbl 19) sub wf sL [s0, s1, some (.dat (szD m)), some (.dat (.list [.tuple []])), none, none, none, none, none, none, none]) = some (some s1, some (some (.dat (szD m))), some (some (.dat (.list ((asM m).map fun t => ordD t.1)))), 11)
theorem lp0 : LpP 0 := by intro s0 s1; kernel_rfl
theorem lp1 : LpP 1 := by intro s0 s1; kernel_rfl
theorem lp2 : LpP 2 := by intro s0 s1; kernel_rfl
theorem lp3 : LpP 3 := by intro s0 s1; kernel_rfl
theorem lp4 : LpP 4 := by intro s0 s1; kernel_rfl
theorem lp5 : LpP 5 := by intro s0 s1; kernel_rfl
theorem lp6 : LpP 6 := by intro s0 s1; kernel_rfl
theorem lp7 : LpP 7 := by intro s0 s1; kernel_rfl
theorem lp_run {m : Nat} (h : m < 8) : LpP m := eight (P := LpP) h lp0 lp1 lp2 lp3 lp4 lp5 lp6 lp7
def idE : Ex := .bin .mod (.ix (.var 1) (.lit (.int 0))) (.lit (.int 8))
def litL (ns : List Int) : Es := ns.foldr (fun n es => .cons (.lit (.int n)) es) .nil
theorem sN_is : sN = .ite (.cmp .ne (.blt .len (.cons (.var 3) .nil)) (.ix (.lst (litL [2, 5, 5, 1, 1, 14, 42, 1])) idE)) (.ret (.lit (.bool false))) .skip := rfl
theorem sS_is : sS = .ite (.or (.cmp .ne (.call "standard_orders" (.cons (.var 2) .nil)) (.blg .sorted (.cons (.var 3) .nil))) (.cmp .ne (.blt .len (.cons (.var 3) .nil)) (.ix (.lst (litL [2, 5, 5, 1, 1, 14, 36, 1])) idE))) (.ret (.lit (.bool false))) .skip := rfl
theorem sR_is : sR = .ret (.cmp .eq (.call "count_orders" (.cons (.var 2) .nil)) (.ix (.lst (litL [8, 60, 60, 24, 6, 672, 1296, 1])) idE)) := rfl
section
variable {cal : Str → List D → R D} {ρ : Rho}
theorem id_ev {ds : List Int} {d0 : Int} {m : Nat} (h1 : ρ[1]? = some (some (.dat (.list (intz (d0 :: ds)))))) (hm : d0 % 8 = (m : Int)) : ev cal idE ρ = .val (.int (m : Int)) := by
  have e : ev cal (.ix (.var 1) (.lit (.int 0))) ρ = .val (.int d0) := by
    rw [ev, ev_var h1]; rfl
  unfold idE
  rw [ev, e, R.bnd_val]
  show R.val (PyData.int (d0 % 8)) = _
  rw [hm]
theorem evs_lit : ∀ ns : List Int, evs cal (litL ns) ρ = .val (intz ns)
  | [] => rfl
  | n :: ns => by
    have := evs_lit ns
    show ((R.val (PyData.int n)).bnd fun d => (evs cal (litL ns) ρ).bnd fun ds => .val (d :: ds)) = _
    rw [this]; rfl
theorem pick_ev {ns : List Int} {m : Nat} {n : Int} (hi : ev cal idE ρ = .val (.int (m : Int))) (hl : ns.length ≤ 100) (hn : ns[m]? = some n) : ev cal (.ix (.lst (litL ns)) idE) ρ = .val (.int n) := by
  have e : ev cal (.lst (litL ns)) ρ = .val (.list (intz ns)) := by
    rw [ev, evs_lit, R.bnd_val, mkL_of (le_lim (by simp; omega))]; rfl
  rw [ev, e, R.bnd_val, hi, R.bnd_val]
  have : ixS (.list (intz ns)) (.int (m : Int)) = some (.int n) := by
    have : atX (intz ns) (m : Int) = some (.int n) := by
      unfold atX
      rw [if_pos (by omega)]
      simp [intz, hn]
    simp only [ixS, this]
  rw [this]; rfl
theorem len_ev {ds : List D} (h3 : ρ[3]? = some (some (.dat (.list ds)))) : ev cal (.blt .len (.cons (.var 3) .nil)) ρ = .val (.int (ds.length : Int)) := by
  rw [ev, evs, ev_var h3]; rfl
end
def lenA : Nat → Int
  | 5 => 14
  | 6 => 42
  | m => [2, 5, 5, 1, 1, 14, 42, 1].getD m 0
theorem fac_m {m : Nat} (h : m < 8) : (1 ≤ (szM m).1 ∧ (szM m).1 ≤ 4 ∧ 1 ≤ (szM m).2 ∧ (szM m).2 ≤ 4 ∧ (szM m).1 * (szM m).2 ≤ 9) ∧ ([2, 5, 5, 1, 1, 14, 42, 1] : List Int)[m]? = some ((asM m).length : Int) ∧ ([2, 5, 5, 1, 1, 14, 36, 1] : List Int)[m]? = some ((((asM m).filter fun t => wl t.2).length : Nat) : Int) ∧ ([8, 60, 60, 24, 6, 672, 1296, 1] : List Int)[m]? = some (((stdS (szM m).1 (szM m).2).length : Int) * (facN (szM m).1 : Int) * (facN (szM m).2 : Int)) := by
  refine eight (P := fun m => (1 ≤ (szM m).1 ∧ (szM m).1 ≤ 4 ∧ 1 ≤ (szM m).2 ∧ (szM m).2 ≤ 4 ∧ (szM m).1 * (szM m).2 ≤ 9) ∧ ([2, 5, 5, 1, 1, 14, 42, 1] : List Int)[m]? = some ((asM m).length : Int) ∧ ([2, 5, 5, 1, 1, 14, 36, 1] : List Int)[m]? = some ((((asM m).filter fun t => wl t.2).length : Nat) : Int) ∧ ([8, 60, 60, 24, 6, 672, 1296, 1] : List Int)[m]? = some (((stdS (szM m).1 (szM m).2).length : Int) * (facN (szM m).1 : Int) * (facN (szM m).2 : Int))) h ?_ ?_ ?_ ?_ ?_ ?_ ?_ ?_ <;> exact ⟨by decide, by decide, by decide, by decide⟩
theorem sB_ev {cal : Str → List D → R D} {s0 : Option Sl} {ds : List Int} {d0 : Int} {m : Nat} (hm8 : m < 8) (hm : d0 % 8 = (m : Int)) : exec cal sub wf sB [s0, some (.dat (.list (intz (d0 :: ds)))), none, none, none, none, none, none, none, none, none] = .nxt [s0, some (.dat (.list (intz (d0 :: ds)))), some (.dat (szD m)), none, none, none, none, none, none, none, none] := by
  have hi := id_ev (cal := cal) (ρ := [s0, some (.dat (.list (intz (d0 :: ds)))), none, none, none, none, none, none, none, none, none]) rfl hm
  unfold sB
  have e : ∀ es : Es, ∀ L : List D, evs cal es [s0, some (.dat (.list (intz (d0 :: ds)))), none, none, none, none, none, none, none, none, none] = .val L → L.length ≤ 100 → L[m]? = some (szD m) → exec cal sub wf (.asg (.nm 2) (.ix (.lst es) idE)) [s0, some (.dat (.list (intz (d0 :: ds)))), none, none, none, none, none, none, none, none, none] = .nxt [s0, some (.dat (.list (intz (d0 :: ds)))), some (.dat (szD m)), none, none, none, none, none, none, none, none] := by
    intro es L h1 h2 h3
    have e1 : ev cal (.ix (.lst es) idE) [s0, some (.dat (.list (intz (d0 :: ds)))), none, none, none, none, none, none, none, none, none] = .val (szD m) := by
      rw [ev, ev, h1, R.bnd_val, mkL_of (le_lim (by omega)), ofO_some, R.bnd_val, hi, R.bnd_val]
      have : ixS (.list L) (.int (m : Int)) = some (szD m) := by
        have : atX L (m : Int) = some (szD m) := by
          unfold atX
          rw [if_pos (by omega)]
          simpa using h3
        simp only [ixS, this]
      rw [this]; rfl
    rw [exec, e1]; rfl
  exact e _ [sz 2 2, sz 2 3, sz 3 2, sz 1 4, sz 3 1, sz 2 4, sz 3 3, sz 1 1] rfl (by decide) (eight (P := fun m => ([sz 2 2, sz 2 3, sz 3 2, sz 1 4, sz 3 1, sz 2 4, sz 3 3, sz 1 1] : List D)[m]? = some (szD m)) hm8 rfl rfl rfl rfl rfl rfl rfl rfl)
theorem law_true : ∀ ns : List Int, ns.length ≤ 63 → call sub wf tbl 20 "law" [scr (ns.map .int)] = .val (.bool true) := by
  intro ns _
  obtain ⟨ds, d1, d2, d3⟩ := law_row std (k := 17) ns (a := 6) (by decide)
  match ds, d1, d2, d3 with
  | d0 :: ds, d1, d2, d3 =>
  have h0 := d2 d0 (by simp)
  obtain ⟨m, hm⟩ : ∃ m : Nat, d0 % 8 = (m : Int) := ⟨(d0 % 8).toNat, by omega⟩
  have hm8 : m < 8 := by omega
  obtain ⟨⟨z1, z2, z3, z4, z9⟩, n1, n2, n3⟩ := fac_m hm8
  rw [call_eq t_law rfl, law_is]
  have eA : exec (call sub wf tbl 19) sub wf sA (startX 11 [scr (ns.map .int)]) = .nxt [some (.dat (scr (ns.map .int))), some (.dat (.list (intz (d0 :: ds)))), none, none, none, none, none, none, none, none, none] := by
    unfold sA
    have : ev (call sub wf tbl 19) (.call "_law_row" (.cons (.var 0) (.cons (.lit (.int 6)) .nil))) (startX 11 [scr (ns.map .int)]) = .val (.list (intz (d0 :: ds))) := d3
    rw [exec, this]; rfl
  rw [ex_seq eA, ex_seq (sB_ev hm8 hm)]
  rw [ex_seq (show exec (call sub wf tbl 19) sub wf sC [some (.dat (scr (ns.map .int))), some (.dat (.list (intz (d0 :: ds)))), some (.dat (szD m)), none, none, none, none, none, none, none, none] = .nxt [some (.dat (scr (ns.map .int))), some (.dat (.list (intz (d0 :: ds)))), some (.dat (szD m)), some (.dat (.list [.tuple []])), none, none, none, none, none, none, none] from rfl)]
  obtain ⟨ρ, eL, r1, r2, r3, rl⟩ := look_nxt (lp_run hm8 (s0 := some (.dat (scr (ns.map .int)))) (s1 := some (.dat (.list (intz (d0 :: ds))))))
  rw [ex_seq eL]
  have hi := id_ev (cal := call sub wf tbl 19) r1 hm
  have eN : exec (call sub wf tbl 19) sub wf sN ρ = .nxt ρ := by
    rw [sN_is]
    have c := ev_neB (k := true) (len_ev (cal := call sub wf tbl 19) r3) (pick_ev hi (by decide) n1) (by rw [eqS_ii, List.length_map]; simp)
    rw [ite_f c]; rfl
  rw [ex_seq eN]
  have eF : exec (call sub wf tbl 19) sub wf sF ρ = .nxt (ρ.set 3 (some (.dat (.list (((asM m).filter fun t => wl t.2).map fun t => ordD t.1))))) := by
    unfold sF
    have e : ev (call sub wf tbl 19) (.lc (.nm 6) (.seq (.var 3)) (.som (.call "is_additive" (.cons (.var 2) (.cons (.var 6) .nil)))) (.var 6) [6]) ρ = .val (.list (((asM m).filter fun t => wl t.2).map fun t => ordD t.1)) := by
      refine ev_keepM (by omega) (evi_seqL (ev_var r3)) (le_lim (Nat.le_trans (asc_n z1 z2 z3 z4 z9) (by decide))) fun t ht => ?_
      obtain ⟨ho, hw⟩ := ascT_ok z1 z2 z3 z4 z9 ht
      have g2 : ((wipeX ρ [6]).set 6 (some (.dat (ordD t.1))))[2]? = some (some (.dat (szD m))) := by
        rw [List.getElem?_set_ne (by decide)]
        simp only [wipeX]
        rw [List.getElem?_set_ne (by decide)]
        exact r2
      have g6 : ((wipeX ρ [6]).set 6 (some (.dat (ordD t.1))))[6]? = some (some (.dat (ordD t.1))) := by
        rw [List.getElem?_set_self (by simp [wipeX]; omega)]
      have := (ev_c2 (cal := call sub wf tbl 19) (f := "is_additive") g2 g6).trans (is_additive_ok std (k := 12) z1 z2 z3 z4 ho)
      rw [hw] at this
      exact tru_bool this
    rw [exec, e]
    simp only [R.out_val, asgT, rl]
    rfl
  rw [ex_seq eF]
  have q1 : (ρ.set 3 (some (.dat (.list (((asM m).filter fun t => wl t.2).map fun t => ordD t.1)))))[1]? = some (some (.dat (.list (intz (d0 :: ds))))) := by rw [List.getElem?_set_ne (by decide)]; exact r1
  have q2 : (ρ.set 3 (some (.dat (.list (((asM m).filter fun t => wl t.2).map fun t => ordD t.1)))))[2]? = some (some (.dat (szD m))) := by rw [List.getElem?_set_ne (by decide)]; exact r2
  have q3 : (ρ.set 3 (some (.dat (.list (((asM m).filter fun t => wl t.2).map fun t => ordD t.1)))))[3]? = some (some (.dat (.list (((asM m).filter fun t => wl t.2).map fun t => ordD t.1)))) := by rw [List.getElem?_set_self (by omega)]
  generalize (ρ.set 3 (some (.dat (.list (((asM m).filter fun t => wl t.2).map fun t => ordD t.1))))) = ρ1 at q1 q2 q3
  have hi1 := id_ev (cal := call sub wf tbl 19) q1 hm
  have eS : exec (call sub wf tbl 19) sub wf sS ρ1 = .nxt ρ1 := by
    rw [sS_is]
    have a1 : ev (call sub wf tbl 19) (.call "standard_orders" (.cons (.var 2) .nil)) ρ1 = .val (.list ((stdS (szM m).1 (szM m).2).map ordD)) := (ev_c1 q2).trans (standard_orders std (k := 13) z1 z2 z3 z4 z9)
    have a2 : ev (call sub wf tbl 19) (.blg .sorted (.cons (.var 3) .nil)) ρ1 = .val (.list ((stdS (szM m).1 (szM m).2).map ordD)) := by
      rw [ev, evs, ev_var q3]
      simp only [evs, R.bnd_val, std_sort z1 z2 z3 z4 z9, ofO_some]
    have a3 : eqS (.list ((stdS (szM m).1 (szM m).2).map ordD)) (.list ((stdS (szM m).1 (szM m).2).map ordD)) = some true := by
      rw [eqS_ords, decide_eq_true rfl]
    have c := ev_orB (ev_neB a1 a2 a3) fun _ => ev_neB (k := true) (len_ev (cal := call sub wf tbl 19) q3) (pick_ev hi1 (by decide) n2) (by rw [eqS_ii, List.length_map]; simp)
    rw [ite_f c]; rfl
  rw [ex_seq eS, sR_is]
  have a4 := (ev_c1 (cal := call sub wf tbl 19) (f := "count_orders") q2).trans (count_orders std (k := 12) z1 z2 z3 z4 z9)
  rw [ex_ret (ev_eqB a4 (pick_ev hi1 (by decide) n3) (by rw [eqS_ii]))]
  simp [O.res]
end K14

set_option Elab.async false
set_option linter.all false
set_option maxRecDepth 100000
set_option maxHeartbeats 4000000
namespace K14
open PySem L2 Mp Pg
open PyProof.Rows hiding St
variable [KF]
def topS (i : Nat) : Stmt := PySem.Challenge.pw_additiveorders_k14_whole_standard_orders.main.body.getD i (.Pass ⟨0, 0, 0, 0⟩)
abbrev s__law_cell : Stmt := topS 38
theorem sc__law_cell : FnScope ["script", "k"] ["script", "k"] (defScope s__law_cell) :=
  ⟨rfl, rfl, rfl, by decide +kernel, rfl, by decide +kernel, by decide +kernel⟩
abbrev s__law_row : Stmt := topS 39
theorem sc__law_row : FnScope ["script", "at", "cell", "found", "time"] ["script", "at"] (defScope s__law_row) :=
  ⟨rfl, rfl, rfl, by decide +kernel, rfl, by decide +kernel, by decide +kernel⟩
abbrev s__law_cells : Stmt := topS 40
theorem sc__law_cells : FnScope ["size", "found", "row", "column"] ["size"] (defScope s__law_cells) :=
  ⟨rfl, rfl, rfl, by decide +kernel, rfl, by decide +kernel, by decide +kernel⟩
abbrev s_in_range : Stmt := topS 16
theorem sc_in_range : FnScope ["value", "low", "high"] ["value", "low", "high"] (defScope s_in_range) :=
  ⟨rfl, rfl, rfl, by decide +kernel, rfl, by decide +kernel, by decide +kernel⟩
abbrev s_is_pair : Stmt := topS 17
theorem sc_is_pair : FnScope ["value", "high", "other"] ["value", "high", "other"] (defScope s_is_pair) :=
  ⟨rfl, rfl, rfl, by decide +kernel, rfl, by decide +kernel, by decide +kernel⟩
abbrev s_is_size : Stmt := topS 18
theorem sc_is_size : FnScope ["value"] ["value"] (defScope s_is_size) :=
  ⟨rfl, rfl, rfl, by decide +kernel, rfl, by decide +kernel, by decide +kernel⟩
abbrev s_check_size : Stmt := topS 19
theorem sc_check_size : FnScope ["size"] ["size"] (defScope s_check_size) :=
  ⟨rfl, rfl, rfl, by decide +kernel, rfl, by decide +kernel, by decide +kernel⟩
abbrev s_all_cells : Stmt := topS 20
theorem sc_all_cells : FnScope ["size", "row", "column"] ["size"] (defScope s_all_cells) :=
  ⟨rfl, rfl, rfl, by decide +kernel, rfl, by decide +kernel, by decide +kernel⟩
abbrev s_is_same : Stmt := topS 28
theorem sc_is_same : FnScope ["one", "cell", "part"] ["one", "cell"] (defScope s_is_same) :=
  ⟨rfl, rfl, rfl, by decide +kernel, rfl, by decide +kernel, by decide +kernel⟩
abbrev s_is_order : Stmt := topS 27
theorem sc_is_order : FnScope ["size", "value", "cell", "one"] ["size", "value"] (defScope s_is_order) :=
  ⟨rfl, rfl, rfl, by decide +kernel, rfl, by decide +kernel, by decide +kernel⟩
abbrev s_check_order : Stmt := topS 29
theorem sc_check_order : FnScope ["size", "order"] ["size", "order"] (defScope s_check_order) :=
  ⟨rfl, rfl, rfl, by decide +kernel, rfl, by decide +kernel, by decide +kernel⟩
abbrev s_difference : Stmt := topS 21
theorem sc_difference : FnScope ["size", "left", "right", "rows", "row", "column"] ["size", "left", "right"] (defScope s_difference) :=
  ⟨rfl, rfl, rfl, by decide +kernel, rfl, by decide +kernel, by decide +kernel⟩
abbrev s_equation_of : Stmt := topS 23
theorem sc_equation_of : FnScope ["size", "comparisons", "number", "left", "kind", "right", "slacks", "other"] ["size", "comparisons", "number"] (defScope s_equation_of) :=
  ⟨rfl, rfl, rfl, by decide +kernel, rfl, by decide +kernel, by decide +kernel⟩
abbrev s_pick_column : Stmt := topS 6
theorem sc_pick_column : FnScope ["table", "columns", "column"] ["table", "columns"] (defScope s_pick_column) :=
  ⟨rfl, rfl, rfl, by decide +kernel, rfl, by decide +kernel, by decide +kernel⟩
abbrev s_pick_row : Stmt := topS 7
theorem sc_pick_row : FnScope ["table", "basis", "column", "best", "row", "one", "other"] ["table", "basis", "column"] (defScope s_pick_row) :=
  ⟨rfl, rfl, rfl, by decide +kernel, rfl, by decide +kernel, by decide +kernel⟩
abbrev s_exchange : Stmt := topS 8
theorem sc_exchange : FnScope ["table", "row", "column", "scale", "chosen", "result", "number", "line", "factor", "one", "other"] ["table", "row", "column", "scale"] (defScope s_exchange) :=
  ⟨rfl, rfl, rfl, by decide +kernel, rfl, by decide +kernel, by decide +kernel⟩
abbrev s_solve : Stmt := topS 9
theorem sc_solve : FnScope ["equations", "columns", "count", "table", "number", "equation", "other", "errors", "line", "column", "basis", "scale", "row", "last", "found", "variable"] ["equations", "columns"] (defScope s_solve) :=
  ⟨rfl, rfl, rfl, by decide +kernel, rfl, by decide +kernel, by decide +kernel⟩
abbrev s_greatest_divisor : Stmt := topS 10
theorem sc_greatest_divisor : FnScope ["numbers", "result", "number", "one"] ["numbers"] (defScope s_greatest_divisor) :=
  ⟨rfl, rfl, rfl, by decide +kernel, rfl, by decide +kernel, by decide +kernel⟩
abbrev s_shortened : Stmt := topS 11
theorem sc_shortened : FnScope ["numbers", "divisor", "number"] ["numbers"] (defScope s_shortened) :=
  ⟨rfl, rfl, rfl, by decide +kernel, rfl, by decide +kernel, by decide +kernel⟩
abbrev s_settle : Stmt := topS 24
theorem sc_settle : FnScope ["size", "comparisons", "equations", "number", "found", "multipliers", "numbers"] ["size", "comparisons"] (defScope s_settle) :=
  ⟨rfl, rfl, rfl, by decide +kernel, rfl, by decide +kernel, by decide +kernel⟩
abbrev s_chain : Stmt := topS 30
theorem sc_chain : FnScope ["order", "low", "high"] ["order"] (defScope s_chain) :=
  ⟨rfl, rfl, rfl, by decide +kernel, rfl, by decide +kernel, by decide +kernel⟩
abbrev s_is_additive : Stmt := topS 31
theorem sc_is_additive : FnScope ["size", "order"] ["size", "order"] (defScope s_is_additive) :=
  ⟨rfl, rfl, rfl, by decide +kernel, rfl, by decide +kernel, by decide +kernel⟩
abbrev s_check_small : Stmt := topS 32
theorem sc_check_small : FnScope ["size"] ["size"] (defScope s_check_small) :=
  ⟨rfl, rfl, rfl, by decide +kernel, rfl, by decide +kernel, by decide +kernel⟩
abbrev s_ascending_starts : Stmt := topS 33
theorem sc_ascending_starts : FnScope ["size", "result", "time", "longer", "order", "filled", "cell", "row"] ["size"] (defScope s_ascending_starts) :=
  ⟨rfl, rfl, rfl, by decide +kernel, rfl, by decide +kernel, by decide +kernel⟩
abbrev s_standard_orders : Stmt := topS 34
theorem sc_standard_orders : FnScope ["size", "order"] ["size"] (defScope s_standard_orders) :=
  ⟨rfl, rfl, rfl, by decide +kernel, rfl, by decide +kernel, by decide +kernel⟩
abbrev s_permutations : Stmt := topS 35
theorem sc_permutations : FnScope ["count", "result", "time", "longer", "one", "number"] ["count"] (defScope s_permutations) :=
  ⟨rfl, rfl, rfl, by decide +kernel, rfl, by decide +kernel, by decide +kernel⟩
abbrev s_count_orders : Stmt := topS 36
theorem sc_count_orders : FnScope ["size"] ["size"] (defScope s_count_orders) :=
  ⟨rfl, rfl, rfl, by decide +kernel, rfl, by decide +kernel, by decide +kernel⟩
abbrev s_law : Stmt := topS 41
theorem sc_law : FnScope ["script", "draws", "size", "due", "time", "longer", "order", "cell", "left", "up", "ready"] ["script"] (defScope s_law) :=
  ⟨rfl, rfl, rfl, by decide +kernel, rfl, by decide +kernel, by decide +kernel⟩
/-- what the top has left -/
structure Txt (mg : Str → Option Value) : Prop where
  dummy : True
  n_abs : mg "abs" = none
  n_bool : mg "bool" = none
  n_enumerate : mg "enumerate" = none
  n_int : mg "int" = none
  n_isinstance : mg "isinstance" = none
  n_len : mg "len" = none
  n_max : mg "max" = none
  n_range : mg "range" = none
  n_sorted : mg "sorted" = none
  n_sum : mg "sum" = none
  n_tuple : mg "tuple" = none
  n_zip : mg "zip" = none
  g_ABOVE : ∃ t, mg "ABOVE" = some (.str "above" t)
  g_EQUAL : ∃ t, mg "EQUAL" = some (.str "equal" t)
  g_MAX_CELLS : ∃ t, mg "MAX_CELLS" = some (.int 9 t)
  g_MAX_LINES : ∃ t, mg "MAX_LINES" = some (.int 4 t)
  x_InvalidOrder : ∃ C, XcOk KF.K mg sub xNames "InvalidOrder" C
  y_InvalidOrder : mg "InvalidOrder" = some (exv mg "InvalidOrder")
  x_InvalidSize : ∃ C, XcOk KF.K mg sub xNames "InvalidSize" C
  y_InvalidSize : mg "InvalidSize" = some (exv mg "InvalidSize")
  x_TooLarge : ∃ C, XcOk KF.K mg sub xNames "TooLarge" C
  y_TooLarge : mg "TooLarge" = some (exv mg "TooLarge")
  xs : ∀ k ∈ xNames, ∃ C, XcOk KF.K mg sub xNames k C
/-- every def keeps its promise, k deep -/
structure Fns (P : Program) (w : World) (mg : Str → Option Value) (base : Heap) (k : Nat) : Prop where
  dummy : True
  f__law_cell : Fn P w KF.K mg base (call sub wf tbl k) k "_law_cell" 2
  f__law_row : Fn P w KF.K mg base (call sub wf tbl k) k "_law_row" 2
  f__law_cells : Fn P w KF.K mg base (call sub wf tbl k) k "_law_cells" 1
  f_in_range : Fn P w KF.K mg base (call sub wf tbl k) k "in_range" 3
  f_is_pair : Fn P w KF.K mg base (call sub wf tbl k) k "is_pair" 3
  f_is_size : Fn P w KF.K mg base (call sub wf tbl k) k "is_size" 1
  f_check_size : Fn P w KF.K mg base (call sub wf tbl k) k "check_size" 1
  f_all_cells : Fn P w KF.K mg base (call sub wf tbl k) k "all_cells" 1
  f_is_same : Fn P w KF.K mg base (call sub wf tbl k) k "is_same" 2
  f_is_order : Fn P w KF.K mg base (call sub wf tbl k) k "is_order" 2
  f_check_order : Fn P w KF.K mg base (call sub wf tbl k) k "check_order" 2
  f_difference : Fn P w KF.K mg base (call sub wf tbl k) k "difference" 3
  f_equation_of : Fn P w KF.K mg base (call sub wf tbl k) k "equation_of" 3
  f_pick_column : Fn P w KF.K mg base (call sub wf tbl k) k "pick_column" 2
  f_pick_row : Fn P w KF.K mg base (call sub wf tbl k) k "pick_row" 3
  f_exchange : Fn P w KF.K mg base (call sub wf tbl k) k "exchange" 4
  f_solve : Fn P w KF.K mg base (call sub wf tbl k) k "solve" 2
  f_greatest_divisor : Fn P w KF.K mg base (call sub wf tbl k) k "greatest_divisor" 1
  f_shortened : Fn P w KF.K mg base (call sub wf tbl k) k "shortened" 1
  f_settle : Fn P w KF.K mg base (call sub wf tbl k) k "settle" 2
  f_chain : Fn P w KF.K mg base (call sub wf tbl k) k "chain" 1
  f_is_additive : Fn P w KF.K mg base (call sub wf tbl k) k "is_additive" 2
  f_check_small : Fn P w KF.K mg base (call sub wf tbl k) k "check_small" 1
  f_ascending_starts : Fn P w KF.K mg base (call sub wf tbl k) k "ascending_starts" 1
  f_standard_orders : Fn P w KF.K mg base (call sub wf tbl k) k "standard_orders" 1
  f_permutations : Fn P w KF.K mg base (call sub wf tbl k) k "permutations" 1
  f_count_orders : Fn P w KF.K mg base (call sub wf tbl k) k "count_orders" 1
  f_law : Fn P w KF.K mg base (call sub wf tbl k) k "law" 1
section
variable {P : Program} {w : World} {mg : Str → Option Value} {base : Heap} {k : Nat}
theorem b__law_cell (T : Txt mg) (F : Fns P w mg base k) {f : Addr} {cdv : Value} {A : Around} {outer : List Env} {sh : Shared} {H : Hp} {E : XK} (hr : Room k (A.deeper (envOfC "_law_cell" (defScope s__law_cell) sh.heap.objs.size f cdv))) :
    PSs (cxOf (L2.CX P w) P w KF.K mg base ["script", "k"] "_law_cell" (defScope s__law_cell) f cdv A outer sh H E) (defBody s__law_cell) (tS ⟨call sub wf tbl k, sub, mg, fun cls d _ H => E cls d H⟩ wf p__law_cell) := by
  have hu := hu65 hr
  unfold p__law_cell
  exact (dSs_cons (dS_if (dT_cmp (opC_lt hu) (dE_var (pv 1)) (dE_bltB callF_len rfl T.n_len (by decide +kernel) (dA_cons (dE_var (pv 0)) dA_nil)) (nomark _)) (dSs_one (dS_ret (dE_ix (dE_var (pv 0)) (dE_var (pv 1))))) dSs_nil)
    (dSs_one (dS_ret dE_int)))
theorem b__law_row (T : Txt mg) (F : Fns P w mg base k) {f : Addr} {cdv : Value} {A : Around} {outer : List Env} {sh : Shared} {H : Hp} {E : XK} (hr : Room k (A.deeper (envOfC "_law_row" (defScope s__law_row) sh.heap.objs.size f cdv))) :
    PSs (cxOf (L2.CX P w) P w KF.K mg base ["script", "at", "cell", "found", "time"] "_law_row" (defScope s__law_row) f cdv A outer sh H E) (defBody s__law_row) (tS ⟨call sub wf tbl k, sub, mg, fun cls d _ H => E cls d H⟩ wf p__law_row) := by
  have hu := hu65 hr
  unfold p__law_row
  exact (dSs_cons (dS_set (i := 2) sc__law_row.nd rfl (.inl rfl) (dE_call F.f__law_cell rfl hr (takes_of rfl rfl rfl rfl) rfl (dA_cons (dE_var (pv 0)) (dA_cons (dE_var (pv 1)) dA_nil))))
    (dSs_cons (dS_own (i := 3) sc__law_row.nd rfl (.inl rfl) (dN_lst dA_nil))
    (dSs_cons (dS_for (passes_of rfl) rfl (dI_rng rfl T.n_range dE_int) (dG_nm (pg_name (i := 4) sc__law_row.nd rfl (.inl rfl))) (dSs_one (dS_if (dT_cmp (opC_lt hu) (dE_call F.f__law_cell rfl hr (takes_of rfl rfl rfl rfl) rfl (dA_cons (dE_var (pv 0)) (dA_cons (dE_var (pv 1)) dA_nil))) (dE_bin opB_pow dE_int dE_int) (nomark _)) (dSs_cons (dS_set (i := 2) sc__law_row.nd rfl (.inl rfl) (dE_bin opB_mod (dE_bin opB_add (dE_bin opB_add (dE_bin opB_add (dE_bin opB_mul (dE_var (pv 2)) dE_int) (dE_bin opB_mul dE_int (dE_var (pv 4)))) dE_int) (dE_call F.f__law_cell rfl hr (takes_of rfl rfl rfl rfl) rfl (dA_cons (dE_var (pv 0)) (dA_cons (dE_bin opB_mod (dE_bin opB_add (dE_bin opB_add (dE_var (pv 1)) dE_int) (dE_var (pv 4))) dE_int) dA_nil)))) dE_int))
    (dSs_one (dS_app (pv 3) (dE_bin opB_mod (dE_bin opB_fdiv (dE_var (pv 2)) dE_int) dE_int)))) (dSs_cons (dS_app (pv 3) (dE_bin opB_mod (dE_var (pv 2)) dE_int))
    (dSs_one (dS_set (i := 2) sc__law_row.nd rfl (.inl rfl) (dE_bin opB_fdiv (dE_var (pv 2)) dE_int)))))))
    (dSs_one (dS_frz (dS_ret (dE_var (pv 3))))))))
theorem b__law_cells (T : Txt mg) (F : Fns P w mg base k) {f : Addr} {cdv : Value} {A : Around} {outer : List Env} {sh : Shared} {H : Hp} {E : XK} (hr : Room k (A.deeper (envOfC "_law_cells" (defScope s__law_cells) sh.heap.objs.size f cdv))) :
    PSs (cxOf (L2.CX P w) P w KF.K mg base ["size", "found", "row", "column"] "_law_cells" (defScope s__law_cells) f cdv A outer sh H E) (defBody s__law_cells) (tS ⟨call sub wf tbl k, sub, mg, fun cls d _ H => E cls d H⟩ wf p__law_cells) := by
  have hu := hu65 hr
  unfold p__law_cells
  exact (dSs_cons (dS_own (i := 1) sc__law_cells.nd rfl (.inl rfl) (dN_lst dA_nil))
    (dSs_cons (dS_for (passes_of rfl) rfl (dI_rng rfl T.n_range (dE_ix (dE_var (pv 0)) dE_int)) (dG_nm (pg_name (i := 2) sc__law_cells.nd rfl (.inl rfl))) (dSs_one (dS_for (passes_of rfl) rfl (dI_rng rfl T.n_range (dE_ix (dE_var (pv 0)) dE_int)) (dG_nm (pg_name (i := 3) sc__law_cells.nd rfl (.inl rfl))) (dSs_one (dS_app (pv 1) (dE_tup (dA_cons (dE_var (pv 2)) (dA_cons (dE_var (pv 3)) dA_nil))))))))
    (dSs_one (dS_frz (dS_ret (dE_var (pv 1)))))))
theorem b_in_range (T : Txt mg) (F : Fns P w mg base k) {f : Addr} {cdv : Value} {A : Around} {outer : List Env} {sh : Shared} {H : Hp} {E : XK} (hr : Room k (A.deeper (envOfC "in_range" (defScope s_in_range) sh.heap.objs.size f cdv))) :
    PSs (cxOf (L2.CX P w) P w KF.K mg base ["value", "low", "high"] "in_range" (defScope s_in_range) f cdv A outer sh H E) (defBody s_in_range) (tS ⟨call sub wf tbl k, sub, mg, fun cls d _ H => E cls d H⟩ wf p_in_range) := by
  have hu := hu65 hr
  unfold p_in_range
  exact (dSs_one (dS_ret (dE_and (dE_isi (t := .int) rfl T.n_isinstance rfl T.n_int (by decide +kernel) (dE_var (pv 0))) (dE_and (dE_not (dE_isi (t := .bool) rfl T.n_isinstance rfl T.n_bool (by decide +kernel) (dE_var (pv 0)))) (dE_one (dE_chain opC_le opC_le (dE_var (pv 1)) (dE_var (pv 0)) (dE_var (pv 2))))))))
theorem b_is_pair (T : Txt mg) (F : Fns P w mg base k) {f : Addr} {cdv : Value} {A : Around} {outer : List Env} {sh : Shared} {H : Hp} {E : XK} (hr : Room k (A.deeper (envOfC "is_pair" (defScope s_is_pair) sh.heap.objs.size f cdv))) :
    PSs (cxOf (L2.CX P w) P w KF.K mg base ["value", "high", "other"] "is_pair" (defScope s_is_pair) f cdv A outer sh H E) (defBody s_is_pair) (tS ⟨call sub wf tbl k, sub, mg, fun cls d _ H => E cls d H⟩ wf p_is_pair) := by
  have hu := hu65 hr
  unfold p_is_pair
  exact (dSs_one (dS_ret (dE_and (dE_isi (t := .tuple) rfl T.n_isinstance rfl T.n_tuple (by decide +kernel) (dE_var (pv 0))) (dE_and (dE_cmp (opC_eq hu) (dE_bltB callF_len rfl T.n_len (by decide +kernel) (dA_cons (dE_var (pv 0)) dA_nil)) dE_int (nomark _)) (dE_and (dE_call F.f_in_range rfl hr (takes_of rfl rfl rfl rfl) rfl (dA_cons (dE_ix (dE_var (pv 0)) dE_int) (dA_cons dE_int (dA_cons (dE_var (pv 1)) dA_nil)))) (dE_one (dE_call F.f_in_range rfl hr (takes_of rfl rfl rfl rfl) rfl (dA_cons (dE_ix (dE_var (pv 0)) dE_int) (dA_cons dE_int (dA_cons (dE_var (pv 2)) dA_nil))))))))))
theorem b_is_size (T : Txt mg) (F : Fns P w mg base k) {f : Addr} {cdv : Value} {A : Around} {outer : List Env} {sh : Shared} {H : Hp} {E : XK} (hr : Room k (A.deeper (envOfC "is_size" (defScope s_is_size) sh.heap.objs.size f cdv))) :
    PSs (cxOf (L2.CX P w) P w KF.K mg base ["value"] "is_size" (defScope s_is_size) f cdv A outer sh H E) (defBody s_is_size) (tS ⟨call sub wf tbl k, sub, mg, fun cls d _ H => E cls d H⟩ wf p_is_size) := by
  have hu := hu65 hr
  unfold p_is_size
  exact (dSs_one (dS_ret (dE_and (dE_call F.f_is_pair rfl hr (takes_of rfl rfl rfl rfl) rfl (dA_cons (dE_var (pv 0)) (dA_cons (dE_gint rfl T.g_MAX_LINES) (dA_cons (dE_gint rfl T.g_MAX_LINES) dA_nil)))) (dE_and (dE_cmp opC_gt (dE_ix (dE_var (pv 0)) dE_int) dE_int (nomark _)) (dE_one (dE_cmp opC_gt (dE_ix (dE_var (pv 0)) dE_int) dE_int (nomark _)))))))
theorem b_check_size (T : Txt mg) (F : Fns P w mg base k) {f : Addr} {cdv : Value} {A : Around} {outer : List Env} {sh : Shared} {H : Hp} {E : XK} (hr : Room k (A.deeper (envOfC "check_size" (defScope s_check_size) sh.heap.objs.size f cdv))) :
    PSs (cxOf (L2.CX P w) P w KF.K mg base ["size"] "check_size" (defScope s_check_size) f cdv A outer sh H E) (defBody s_check_size) (tS ⟨call sub wf tbl k, sub, mg, fun cls d _ H => E cls d H⟩ wf p_check_size) := by
  have hu := hu65 hr
  unfold p_check_size
  exact (dSs_one (dS_if (dT_not (dT_val (dE_call F.f_is_size rfl hr (takes_of rfl rfl rfl rfl) rfl (dA_cons (dE_var (pv 0)) dA_nil)))) (dSs_one (dS_raise T.x_InvalidSize rfl rfl (takes_of rfl rfl rfl rfl) rfl)) dSs_nil))
theorem b_all_cells (T : Txt mg) (F : Fns P w mg base k) {f : Addr} {cdv : Value} {A : Around} {outer : List Env} {sh : Shared} {H : Hp} {E : XK} (hr : Room k (A.deeper (envOfC "all_cells" (defScope s_all_cells) sh.heap.objs.size f cdv))) :
    PSs (cxOf (L2.CX P w) P w KF.K mg base ["size", "row", "column"] "all_cells" (defScope s_all_cells) f cdv A outer sh H E) (defBody s_all_cells) (tS ⟨call sub wf tbl k, sub, mg, fun cls d _ H => E cls d H⟩ wf p_all_cells) := by
  have hu := hu65 hr
  unfold p_all_cells
  exact (dSs_one (dS_ret (dE_lc2 rfl sc_all_cells.nd (dI_rng rfl T.n_range (dE_ix (dE_var (pv 0)) dE_int)) (blkOk_by (own := [("row", 1), ("column", 2)]) (N := ["size", "row", "column"]) (sc := defScope s_all_cells) (by decide +kernel)) (fun _ _ _ _ _ => (dG_nm (pg_name (i := 1) sc_all_cells.nd rfl (by first | exact .inl rfl | exact .inr rfl)))) (fun _ _ _ _ _ => dT_non) (fun _ _ _ _ _ => (dI_rng rfl T.n_range (dE_ix (dE_var (pv 0)) dE_int))) (fun _ _ _ _ _ => (dG_nm (pg_name (i := 2) sc_all_cells.nd rfl (by first | exact .inl rfl | exact .inr rfl)))) (fun _ _ _ _ _ => dT_non) (fun _ _ _ _ _ => (dE_tup (dA_cons (dE_var (pv 1)) (dA_cons (dE_var (pv 2)) dA_nil)))))))
theorem b_is_same (T : Txt mg) (F : Fns P w mg base k) {f : Addr} {cdv : Value} {A : Around} {outer : List Env} {sh : Shared} {H : Hp} {E : XK} (hr : Room k (A.deeper (envOfC "is_same" (defScope s_is_same) sh.heap.objs.size f cdv))) :
    PSs (cxOf (L2.CX P w) P w KF.K mg base ["one", "cell", "part"] "is_same" (defScope s_is_same) f cdv A outer sh H E) (defBody s_is_same) (tS ⟨call sub wf tbl k, sub, mg, fun cls d _ H => E cls d H⟩ wf p_is_same) := by
  have hu := hu65 hr
  unfold p_is_same
  exact (dSs_one (dS_ret (dE_and (dE_isi (t := .tuple) rfl T.n_isinstance rfl T.n_tuple (by decide +kernel) (dE_var (pv 0))) (dE_and (dE_cmp (opC_eq hu) (dE_var (pv 0)) (dE_var (pv 1)) (nomark _)) (dE_one (dE_not (dE_lc rfl sc_is_same.nd (dI_seq (dE_var (pv 0))) (blkOk_by (own := [("part", 2)]) (N := ["one", "cell", "part"]) (sc := defScope s_is_same) (by decide +kernel)) (fun _ _ _ _ _ => (dG_nm (pg_name (i := 2) sc_is_same.nd rfl (by first | exact .inl rfl | exact .inr rfl)))) (fun _ _ _ _ _ => (dT_som (dT_val (dE_isi (t := .bool) rfl T.n_isinstance rfl T.n_bool (by decide +kernel) (dE_var (pv 2)))))) (fun _ _ _ _ _ => (dE_var (pv 2))))))))))
theorem b_is_order (T : Txt mg) (F : Fns P w mg base k) {f : Addr} {cdv : Value} {A : Around} {outer : List Env} {sh : Shared} {H : Hp} {E : XK} (hr : Room k (A.deeper (envOfC "is_order" (defScope s_is_order) sh.heap.objs.size f cdv))) :
    PSs (cxOf (L2.CX P w) P w KF.K mg base ["size", "value", "cell", "one"] "is_order" (defScope s_is_order) f cdv A outer sh H E) (defBody s_is_order) (tS ⟨call sub wf tbl k, sub, mg, fun cls d _ H => E cls d H⟩ wf p_is_order) := by
  have hu := hu65 hr
  unfold p_is_order
  exact (dSs_cons (dS_drop (dE_call F.f_check_size rfl hr (takes_of rfl rfl rfl rfl) rfl (dA_cons (dE_var (pv 0)) dA_nil)))
    (dSs_cons (dS_if (PW.pt (dW_or (dT_not (dT_val (dE_isi (t := .tuple) rfl T.n_isinstance rfl T.n_tuple (by decide +kernel) (dE_var (pv 1))))) (dW_or1 (dT_cmp (opC_ne hu) (dE_bltB callF_len rfl T.n_len (by decide +kernel) (dA_cons (dE_var (pv 1)) dA_nil)) (dE_bin opB_mul (dE_ix (dE_var (pv 0)) dE_int) (dE_ix (dE_var (pv 0)) dE_int)) (nomark _))))) (dSs_one (dS_ret dE_bl)) dSs_nil)
    (dSs_one (dS_ret (dE_not (dE_lc rfl sc_is_order.nd (dI_seq (dE_call F.f_all_cells rfl hr (takes_of rfl rfl rfl rfl) rfl (dA_cons (dE_var (pv 0)) dA_nil))) (blkOk_by (own := [("cell", 2)]) (N := ["size", "value", "cell", "one"]) (sc := defScope s_is_order) (by decide +kernel)) (fun _ _ _ _ _ => (dG_nm (pg_name (i := 2) sc_is_order.nd rfl (by first | exact .inl rfl | exact .inr rfl)))) (fun _ _ _ _ _ => (dT_som (dT_cmp (opC_eq hu) (dE_lc rfl sc_is_order.nd (dI_seq (dE_var (pv 1))) (blkOk_by (own := [("one", 3)]) (by rfl)) (fun _ _ _ _ _ => (dG_nm (pg_name (i := 3) sc_is_order.nd rfl (by first | exact .inl rfl | exact .inr rfl)))) (fun _ _ _ _ _ => (dT_som (dT_val (dE_call F.f_is_same rfl hr takes0 rfl (dA_cons (dE_var (pv 3)) (dA_cons (dE_var (pv 2)) dA_nil)))))) (fun _ _ _ _ _ => (dE_var (pv 3)))) (dE_lst dA_nil) (nomark _)))) (fun _ _ _ _ _ => (dE_var (pv 2)))))))))
theorem b_check_order (T : Txt mg) (F : Fns P w mg base k) {f : Addr} {cdv : Value} {A : Around} {outer : List Env} {sh : Shared} {H : Hp} {E : XK} (hr : Room k (A.deeper (envOfC "check_order" (defScope s_check_order) sh.heap.objs.size f cdv))) :
    PSs (cxOf (L2.CX P w) P w KF.K mg base ["size", "order"] "check_order" (defScope s_check_order) f cdv A outer sh H E) (defBody s_check_order) (tS ⟨call sub wf tbl k, sub, mg, fun cls d _ H => E cls d H⟩ wf p_check_order) := by
  have hu := hu65 hr
  unfold p_check_order
  exact (dSs_one (dS_if (dT_not (dT_val (dE_call F.f_is_order rfl hr (takes_of rfl rfl rfl rfl) rfl (dA_cons (dE_var (pv 0)) (dA_cons (dE_var (pv 1)) dA_nil))))) (dSs_one (dS_raise T.x_InvalidOrder rfl rfl (takes_of rfl rfl rfl rfl) rfl)) dSs_nil))
theorem b_difference (T : Txt mg) (F : Fns P w mg base k) {f : Addr} {cdv : Value} {A : Around} {outer : List Env} {sh : Shared} {H : Hp} {E : XK} (hr : Room k (A.deeper (envOfC "difference" (defScope s_difference) sh.heap.objs.size f cdv))) :
    PSs (cxOf (L2.CX P w) P w KF.K mg base ["size", "left", "right", "rows", "row", "column"] "difference" (defScope s_difference) f cdv A outer sh H E) (defBody s_difference) (tS ⟨call sub wf tbl k, sub, mg, fun cls d _ H => E cls d H⟩ wf p_difference) := by
  have hu := hu65 hr
  unfold p_difference
  exact (dSs_cons (dS_setLc (i := 3) rfl sc_difference.nd rfl rfl (sw_true rfl rfl rfl (by decide +kernel)) (dI_rng rfl T.n_range (dE_ix (dE_var (pv 0)) dE_int)) (blkOk_by (own := [("row", 4)]) (N := ["size", "left", "right", "rows", "row", "column"]) (sc := defScope s_difference) (by decide +kernel)) (fun _ _ _ _ _ => (dG_nm (pg_name (i := 4) sc_difference.nd rfl (by first | exact .inl rfl | exact .inr rfl)))) (fun _ _ _ _ _ => dT_non) (fun _ _ _ _ _ => (dE_bin opB_sub (dE_bltT callF_int rfl T.n_int (by decide +kernel) (dA_cons (dE_cmp (opC_eq hu) (dE_var (pv 4)) (dE_ix (dE_var (pv 1)) dE_int) (nomark _)) dA_nil)) (dE_bltT callF_int rfl T.n_int (by decide +kernel) (dA_cons (dE_cmp (opC_eq hu) (dE_var (pv 4)) (dE_ix (dE_var (pv 2)) dE_int) (nomark _)) dA_nil)))))
    (dSs_one (dS_ret (dE_bin opB_add (dE_var (pv 3)) (dE_lc rfl sc_difference.nd (dI_rng rfl T.n_range (dE_ix (dE_var (pv 0)) dE_int)) (blkOk_by (own := [("column", 5)]) (N := ["size", "left", "right", "rows", "row", "column"]) (sc := defScope s_difference) (by decide +kernel)) (fun _ _ _ _ _ => (dG_nm (pg_name (i := 5) sc_difference.nd rfl (by first | exact .inl rfl | exact .inr rfl)))) (fun _ _ _ _ _ => dT_non) (fun _ _ _ _ _ => (dE_bin opB_sub (dE_bltT callF_int rfl T.n_int (by decide +kernel) (dA_cons (dE_cmp (opC_eq hu) (dE_var (pv 5)) (dE_ix (dE_var (pv 1)) dE_int) (nomark _)) dA_nil)) (dE_bltT callF_int rfl T.n_int (by decide +kernel) (dA_cons (dE_cmp (opC_eq hu) (dE_var (pv 5)) (dE_ix (dE_var (pv 2)) dE_int) (nomark _)) dA_nil)))))))))
theorem b_equation_of (T : Txt mg) (F : Fns P w mg base k) {f : Addr} {cdv : Value} {A : Around} {outer : List Env} {sh : Shared} {H : Hp} {E : XK} (hr : Room k (A.deeper (envOfC "equation_of" (defScope s_equation_of) sh.heap.objs.size f cdv))) :
    PSs (cxOf (L2.CX P w) P w KF.K mg base ["size", "comparisons", "number", "left", "kind", "right", "slacks", "other"] "equation_of" (defScope s_equation_of) f cdv A outer sh H E) (defBody s_equation_of) (tS ⟨call sub wf tbl k, sub, mg, fun cls d _ H => E cls d H⟩ wf p_equation_of) := by
  have hu := hu65 hr
  unfold p_equation_of
  exact (dSs_cons (dS_asg (dE_ix (dE_var (pv 1)) (dE_var (pv 2))) (dG_tp (n := 3) rfl (dGs_cons (dG_nm (pg_name (i := 3) sc_equation_of.nd rfl (.inl rfl))) (dGs_cons (dG_nm (pg_name (i := 4) sc_equation_of.nd rfl (.inr rfl))) (dGs_cons (dG_nm (pg_name (i := 5) sc_equation_of.nd rfl (.inl rfl))) dGs_nil)))))
    (dSs_cons (dS_setLc (i := 6) rfl sc_equation_of.nd rfl rfl (sw_true rfl rfl rfl (by decide +kernel)) (dI_rng rfl T.n_range (dE_bltB callF_len rfl T.n_len (by decide +kernel) (dA_cons (dE_var (pv 1)) dA_nil))) (blkOk_by (own := [("other", 7)]) (N := ["size", "comparisons", "number", "left", "kind", "right", "slacks", "other"]) (sc := defScope s_equation_of) (by decide +kernel)) (fun _ _ _ _ _ => (dG_nm (pg_name (i := 7) sc_equation_of.nd rfl (by first | exact .inl rfl | exact .inr rfl)))) (fun _ _ _ _ _ => dT_non) (fun _ _ _ _ _ => (dE_neg (dE_bltT callF_int rfl T.n_int (by decide +kernel) (dA_cons (dE_and (dE_cmp (opC_eq hu) (dE_var (pv 2)) (dE_var (pv 7)) (nomark _)) (dE_one (dE_cmp (opC_ne hu) (dE_var (pv 4)) (dE_gstr rfl T.g_EQUAL) (nomark _)))) dA_nil)))))
    (dSs_one (dS_ret (dE_bin opB_add (dE_bin opB_add (dE_call F.f_difference rfl hr (takes_of rfl rfl rfl rfl) rfl (dA_cons (dE_var (pv 0)) (dA_cons (dE_var (pv 3)) (dA_cons (dE_var (pv 5)) dA_nil)))) (dE_var (pv 6))) (dE_lst (dA_cons (dE_bltT callF_int rfl T.n_int (by decide +kernel) (dA_cons (dE_cmp (opC_eq hu) (dE_var (pv 4)) (dE_gstr rfl T.g_ABOVE) (nomark _)) dA_nil)) dA_nil)))))))
theorem b_pick_column (T : Txt mg) (F : Fns P w mg base k) {f : Addr} {cdv : Value} {A : Around} {outer : List Env} {sh : Shared} {H : Hp} {E : XK} (hr : Room k (A.deeper (envOfC "pick_column" (defScope s_pick_column) sh.heap.objs.size f cdv))) :
    PSs (cxOf (L2.CX P w) P w KF.K mg base ["table", "columns", "column"] "pick_column" (defScope s_pick_column) f cdv A outer sh H E) (defBody s_pick_column) (tS ⟨call sub wf tbl k, sub, mg, fun cls d _ H => E cls d H⟩ wf p_pick_column) := by
  have hu := hu65 hr
  unfold p_pick_column
  exact (dSs_cons (dS_for (passes_of rfl) rfl (dI_rng rfl T.n_range (dE_var (pv 1))) (dG_nm (pg_name (i := 2) sc_pick_column.nd rfl (.inl rfl))) (dSs_one (dS_if (dT_cmp opC_gt (dE_ix (dE_ix (dE_var (pv 0)) (dE_neg dE_int)) (dE_var (pv 2))) dE_int (nomark _)) (dSs_one (dS_ret (dE_var (pv 2)))) dSs_nil)))
    (dSs_one (dS_ret dE_non)))
theorem b_pick_row (T : Txt mg) (F : Fns P w mg base k) {f : Addr} {cdv : Value} {A : Around} {outer : List Env} {sh : Shared} {H : Hp} {E : XK} (hr : Room k (A.deeper (envOfC "pick_row" (defScope s_pick_row) sh.heap.objs.size f cdv))) :
    PSs (cxOf (L2.CX P w) P w KF.K mg base ["table", "basis", "column", "best", "row", "one", "other"] "pick_row" (defScope s_pick_row) f cdv A outer sh H E) (defBody s_pick_row) (tS ⟨call sub wf tbl k, sub, mg, fun cls d _ H => E cls d H⟩ wf p_pick_row) := by
  have hu := hu65 hr
  unfold p_pick_row
  exact (dSs_cons (dS_set (i := 3) sc_pick_row.nd rfl (.inl rfl) dE_non)
    (dSs_cons (dS_for (passes_of rfl) rfl (dI_rng rfl T.n_range (dE_bin opB_sub (dE_bltB callF_len rfl T.n_len (by decide +kernel) (dA_cons (dE_var (pv 0)) dA_nil)) dE_int)) (dG_nm (pg_name (i := 4) sc_pick_row.nd rfl (.inl rfl))) (dSs_one (dS_if (dT_cmp opC_gt (dE_ix (dE_ix (dE_var (pv 0)) (dE_var (pv 4))) (dE_var (pv 2))) dE_int (nomark _)) (dSs_one (dS_if (dT_cmp opC_is (dE_var (pv 3)) dE_non (nomark _)) (dSs_one (dS_set (i := 3) sc_pick_row.nd rfl (.inl rfl) (dE_var (pv 4)))) (dSs_cons (dS_set (i := 5) sc_pick_row.nd rfl (.inl rfl) (dE_bin opB_mul (dE_ix (dE_ix (dE_var (pv 0)) (dE_var (pv 4))) (dE_neg dE_int)) (dE_ix (dE_ix (dE_var (pv 0)) (dE_var (pv 3))) (dE_var (pv 2)))))
    (dSs_cons (dS_set (i := 6) sc_pick_row.nd rfl (.inl rfl) (dE_bin opB_mul (dE_ix (dE_ix (dE_var (pv 0)) (dE_var (pv 3))) (dE_neg dE_int)) (dE_ix (dE_ix (dE_var (pv 0)) (dE_var (pv 4))) (dE_var (pv 2)))))
    (dSs_one (dS_if (PW.pt (dW_or (dT_cmp (opC_lt hu) (dE_var (pv 5)) (dE_var (pv 6)) (nomark _)) (dW_or1 (PW.pt (dW_and (dT_cmp (opC_eq hu) (dE_var (pv 5)) (dE_var (pv 6)) (nomark _)) (dW_and1 (dT_cmp (opC_lt hu) (dE_ix (dE_var (pv 1)) (dE_var (pv 4))) (dE_ix (dE_var (pv 1)) (dE_var (pv 3))) (nomark _)))))))) (dSs_one (dS_set (i := 3) sc_pick_row.nd rfl (.inl rfl) (dE_var (pv 4)))) dSs_nil)))))) dSs_nil)))
    (dSs_one (dS_ret (dE_var (pv 3))))))
theorem b_exchange (T : Txt mg) (F : Fns P w mg base k) {f : Addr} {cdv : Value} {A : Around} {outer : List Env} {sh : Shared} {H : Hp} {E : XK} (hr : Room k (A.deeper (envOfC "exchange" (defScope s_exchange) sh.heap.objs.size f cdv))) :
    PSs (cxOf (L2.CX P w) P w KF.K mg base ["table", "row", "column", "scale", "chosen", "result", "number", "line", "factor", "one", "other"] "exchange" (defScope s_exchange) f cdv A outer sh H E) (defBody s_exchange) (tS ⟨call sub wf tbl k, sub, mg, fun cls d _ H => E cls d H⟩ wf p_exchange) := by
  have hu := hu65 hr
  unfold p_exchange
  exact (dSs_cons (dS_set (i := 4) sc_exchange.nd rfl (.inr rfl) (dE_ix (dE_var (pv 0)) (dE_var (pv 1))))
    (dSs_cons (dS_own (i := 5) sc_exchange.nd rfl (.inl rfl) (dN_lst dA_nil))
    (dSs_cons (dS_for (passes_of rfl) rfl (dI_enum rfl T.n_enumerate (dE_var (pv 0))) (dG_tp (n := 2) rfl (dGs_cons (dG_nm (pg_name (i := 6) sc_exchange.nd rfl (.inl rfl))) (dGs_cons (dG_nm (pg_name (i := 7) sc_exchange.nd rfl (.inl rfl))) dGs_nil))) (dSs_one (dS_if (dT_cmp (opC_eq hu) (dE_var (pv 6)) (dE_var (pv 1)) (nomark _)) (dSs_one (dS_app (pv 5) (dE_var (pv 7)))) (dSs_cons (dS_set (i := 8) sc_exchange.nd rfl (.inr rfl) (dE_ix (dE_var (pv 7)) (dE_var (pv 2))))
    (dSs_one (dS_app (pv 5) (dE_lc rfl sc_exchange.nd (dI_zip rfl T.n_zip (dE_var (pv 7)) (dE_var (pv 4))) (blkOk_by (own := [("one", 9), ("other", 10)]) (N := ["table", "row", "column", "scale", "chosen", "result", "number", "line", "factor", "one", "other"]) (sc := defScope s_exchange) (by decide +kernel)) (fun _ _ _ _ _ => (dG_tp (n := 2) rfl (dGs_cons (dG_nm (pg_name (i := 9) sc_exchange.nd rfl (by first | exact .inl rfl | exact .inr rfl))) (dGs_cons (dG_nm (pg_name (i := 10) sc_exchange.nd rfl (by first | exact .inl rfl | exact .inr rfl))) dGs_nil)))) (fun _ _ _ _ _ => dT_non) (fun _ _ _ _ _ => (dE_bin opB_fdiv (dE_bin opB_sub (dE_bin opB_mul (dE_var (pv 9)) (dE_ix (dE_var (pv 4)) (dE_var (pv 2)))) (dE_bin opB_mul (dE_var (pv 10)) (dE_var (pv 8)))) (dE_var (pv 3)))))))))))
    (dSs_one (dS_frz (dS_ret (dE_var (pv 5))))))))
theorem b_solve (T : Txt mg) (F : Fns P w mg base k) {f : Addr} {cdv : Value} {A : Around} {outer : List Env} {sh : Shared} {H : Hp} {E : XK} (hr : Room k (A.deeper (envOfC "solve" (defScope s_solve) sh.heap.objs.size f cdv))) :
    PSs (cxOf (L2.CX P w) P w KF.K mg base ["equations", "columns", "count", "table", "number", "equation", "other", "errors", "line", "column", "basis", "scale", "row", "last", "found", "variable"] "solve" (defScope s_solve) f cdv A outer sh H E) (defBody s_solve) (tS ⟨call sub wf tbl k, sub, mg, fun cls d _ H => E cls d H⟩ wf p_solve) := by
  have hu := hu65 hr
  unfold p_solve
  exact (dSs_cons (dS_set (i := 2) sc_solve.nd rfl (.inl rfl) (dE_bltB callF_len rfl T.n_len (by decide +kernel) (dA_cons (dE_var (pv 0)) dA_nil)))
    (dSs_cons (dS_own (i := 3) sc_solve.nd rfl (.inr rfl) (dN_lst dA_nil))
    (dSs_cons (dS_for (passes_of rfl) rfl (dI_enum rfl T.n_enumerate (dE_var (pv 0))) (dG_tp (n := 2) rfl (dGs_cons (dG_nm (pg_name (i := 4) sc_solve.nd rfl (.inr rfl))) (dGs_cons (dG_nm (pg_name (i := 5) sc_solve.nd rfl (.inl rfl))) dGs_nil))) (dSs_one (dS_app (pv 3) (dE_bin opB_add (dE_bin opB_add (dE_sl (dE_var (pv 5)) dO_non (dO_som (dE_neg dE_int))) (dE_lc rfl sc_solve.nd (dI_rng rfl T.n_range (dE_var (pv 2))) (blkOk_by (own := [("other", 6)]) (N := ["equations", "columns", "count", "table", "number", "equation", "other", "errors", "line", "column", "basis", "scale", "row", "last", "found", "variable"]) (sc := defScope s_solve) (by decide +kernel)) (fun _ _ _ _ _ => (dG_nm (pg_name (i := 6) sc_solve.nd rfl (by first | exact .inl rfl | exact .inr rfl)))) (fun _ _ _ _ _ => dT_non) (fun _ _ _ _ _ => (dE_bltT callF_int rfl T.n_int (by decide +kernel) (dA_cons (dE_cmp (opC_eq hu) (dE_var (pv 4)) (dE_var (pv 6)) (nomark _)) dA_nil))))) (dE_sl (dE_var (pv 5)) (dO_som (dE_neg dE_int)) dO_non)))))
    (dSs_cons (dS_setLc (i := 7) rfl sc_solve.nd rfl rfl (sw_true rfl rfl rfl (by decide +kernel)) (dI_rng rfl T.n_range (dE_var (pv 1))) (blkOk_by (own := [("column", 9)]) (N := ["equations", "columns", "count", "table", "number", "equation", "other", "errors", "line", "column", "basis", "scale", "row", "last", "found", "variable"]) (sc := defScope s_solve) (by decide +kernel)) (fun _ _ _ _ _ => (dG_nm (pg_name (i := 9) sc_solve.nd rfl (by first | exact .inl rfl | exact .inr rfl)))) (fun _ _ _ _ _ => dT_non) (fun _ _ _ _ _ => (dE_bor (dE_bltB (callF_sum rfl) rfl T.n_sum (by decide +kernel) (dA_cons (dE_lc rfl sc_solve.nd (dI_seq (dE_var (pv 3))) (blkOk_by (own := [("line", 8)]) (by rfl)) (fun _ _ _ _ _ => (dG_nm (pg_name (i := 8) sc_solve.nd rfl (by first | exact .inl rfl | exact .inr rfl)))) (fun _ _ _ _ _ => dT_non) (fun _ _ _ _ _ => (dE_ix (dE_var (pv 8)) (dE_var (pv 9))))) dA_nil)))))
    (dSs_cons (dS_app (pv 3) (dE_bin opB_add (dE_bin opB_add (dE_var (pv 7)) (dE_bin opB_mul (dE_lst (dA_cons dE_int dA_nil)) (dE_var (pv 2)))) (dE_lst (dA_cons (dE_bor (dE_bltB (callF_sum rfl) rfl T.n_sum (by decide +kernel) (dA_cons (dE_lc rfl sc_solve.nd (dI_seq (dE_var (pv 3))) (blkOk_by (own := [("line", 8)]) (N := ["equations", "columns", "count", "table", "number", "equation", "other", "errors", "line", "column", "basis", "scale", "row", "last", "found", "variable"]) (sc := defScope s_solve) (by decide +kernel)) (fun _ _ _ _ _ => (dG_nm (pg_name (i := 8) sc_solve.nd rfl (by first | exact .inl rfl | exact .inr rfl)))) (fun _ _ _ _ _ => dT_non) (fun _ _ _ _ _ => (dE_ix (dE_var (pv 8)) (dE_neg dE_int)))) dA_nil))) dA_nil))))
    (dSs_cons (dS_ownLc (i := 10) rfl sc_solve.nd rfl rfl (sw_true rfl rfl rfl (by decide +kernel)) (dI_rng rfl T.n_range (dE_var (pv 2))) (blkOk_by (own := [("number", 4)]) (N := ["equations", "columns", "count", "table", "number", "equation", "other", "errors", "line", "column", "basis", "scale", "row", "last", "found", "variable"]) (sc := defScope s_solve) (by decide +kernel)) (fun _ _ _ _ _ => (dG_nm (pg_name (i := 4) sc_solve.nd rfl (by first | exact .inl rfl | exact .inr rfl)))) (fun _ _ _ _ _ => dT_non) (fun _ _ _ _ _ => (dE_bin opB_add (dE_var (pv 1)) (dE_var (pv 4)))))
    (dSs_cons (dS_set (i := 11) sc_solve.nd rfl (.inr rfl) dE_int)
    (dSs_cons (dS_set (i := 9) sc_solve.nd rfl (.inl rfl) (dE_bor (dE_call F.f_pick_column rfl hr (takes_of rfl rfl rfl rfl) rfl (dA_cons (dE_var (pv 3)) (dA_cons (dE_var (pv 1)) dA_nil)))))
    (dSs_cons (dS_whl (passes_of rfl) (dT_cmp opC_isnt (dE_var (pv 9)) dE_non (nomark _)) (dSs_cons (dS_set (i := 12) sc_solve.nd rfl (.inl rfl) (dE_bor (dE_call F.f_pick_row rfl hr (takes_of rfl rfl rfl rfl) rfl (dA_cons (dE_var (pv 3)) (dA_cons (dE_var (pv 10)) (dA_cons (dE_var (pv 9)) dA_nil))))))
    (dSs_cons (dS_set (i := 13) sc_solve.nd rfl (.inl rfl) (dE_bor (dE_ix (dE_ix (dE_var (pv 3)) (dE_var (pv 12))) (dE_var (pv 9)))))
    (dSs_cons (dS_frz (dS_set (i := 3) sc_solve.nd rfl (.inr rfl) (dE_call F.f_exchange rfl hr (takes_of rfl rfl rfl rfl) rfl (dA_cons (dE_var (pv 3)) (dA_cons (dE_var (pv 12)) (dA_cons (dE_var (pv 9)) (dA_cons (dE_var (pv 11)) dA_nil)))))))
    (dSs_cons (dS_set (i := 11) sc_solve.nd rfl (.inr rfl) (dE_var (pv 13)))
    (dSs_cons (dS_sub (pv 10) (dE_var (pv 12)) (dE_var (pv 9)))
    (dSs_one (dS_set (i := 9) sc_solve.nd rfl (.inl rfl) (dE_bor (dE_call F.f_pick_column rfl hr (takes_of rfl rfl rfl rfl) rfl (dA_cons (dE_var (pv 3)) (dA_cons (dE_var (pv 1)) dA_nil))))))))))))
    (dSs_cons (dS_if (dT_cmp (opC_ne hu) (dE_bor (dE_ix (dE_ix (dE_var (pv 3)) (dE_neg dE_int)) (dE_neg dE_int))) dE_int (nomark _)) (dSs_one (dS_frz (dS_ret (dE_tup (dA_cons dE_non (dA_cons (dE_lc rfl sc_solve.nd (dI_rng rfl T.n_range (dE_var (pv 2))) (blkOk_by (own := [("number", 4)]) (N := ["equations", "columns", "count", "table", "number", "equation", "other", "errors", "line", "column", "basis", "scale", "row", "last", "found", "variable"]) (sc := defScope s_solve) (by decide +kernel)) (fun _ _ _ _ _ => (dG_nm (pg_name (i := 4) sc_solve.nd rfl (by first | exact .inl rfl | exact .inr rfl)))) (fun _ _ _ _ _ => dT_non) (fun _ _ _ _ _ => (dE_bin opB_add (dE_ix (dE_ix (dE_var (pv 3)) (dE_neg dE_int)) (dE_bin opB_add (dE_var (pv 1)) (dE_var (pv 4)))) (dE_var (pv 11))))) dA_nil)))))) dSs_nil)
    (dSs_cons (dS_own (i := 14) sc_solve.nd rfl (.inl rfl) (dN_rep (dE_lst (dA_cons dE_int dA_nil)) (dE_var (pv 1))))
    (dSs_cons (dS_frz (dS_for (passes_of rfl) rfl (dI_enum rfl T.n_enumerate (dE_var (pv 10))) (dG_tp (n := 2) rfl (dGs_cons (dG_nm (pg_name (i := 12) sc_solve.nd rfl (.inl rfl))) (dGs_cons (dG_nm (pg_name (i := 15) sc_solve.nd rfl (.inl rfl))) dGs_nil))) (dSs_one (dS_if (dT_cmp (opC_lt hu) (dE_var (pv 15)) (dE_var (pv 1)) (nomark _)) (dSs_one (dS_sub (pv 14) (dE_var (pv 15)) (dE_bor (dE_ix (dE_ix (dE_var (pv 3)) (dE_var (pv 12))) (dE_neg dE_int))))) dSs_nil))))
    (dSs_one (dS_frz (dS_ret (dE_tup (dA_cons (dE_tup (dA_cons (dE_var (pv 14)) (dA_cons (dE_var (pv 11)) dA_nil))) (dA_cons dE_non dA_nil))))))))))))))))))
theorem b_greatest_divisor (T : Txt mg) (F : Fns P w mg base k) {f : Addr} {cdv : Value} {A : Around} {outer : List Env} {sh : Shared} {H : Hp} {E : XK} (hr : Room k (A.deeper (envOfC "greatest_divisor" (defScope s_greatest_divisor) sh.heap.objs.size f cdv))) :
    PSs (cxOf (L2.CX P w) P w KF.K mg base ["numbers", "result", "number", "one"] "greatest_divisor" (defScope s_greatest_divisor) f cdv A outer sh H E) (defBody s_greatest_divisor) (tS ⟨call sub wf tbl k, sub, mg, fun cls d _ H => E cls d H⟩ wf p_greatest_divisor) := by
  have hu := hu65 hr
  unfold p_greatest_divisor
  exact (dSs_cons (dS_set (i := 1) sc_greatest_divisor.nd rfl (.inl rfl) dE_int)
    (dSs_cons (dS_for (passes_of rfl) rfl (dI_seq (dE_var (pv 0))) (dG_nm (pg_name (i := 2) sc_greatest_divisor.nd rfl (.inl rfl))) (dSs_cons (dS_set (i := 3) sc_greatest_divisor.nd rfl (.inl rfl) (dE_bltB callF_abs rfl T.n_abs (by decide +kernel) (dA_cons (dE_var (pv 2)) dA_nil)))
    (dSs_one (dS_whl (passes_of rfl) (dT_val (dE_var (pv 3))) (dSs_one (dS_par (i := 1) (j := 3) rfl sc_greatest_divisor.nd rfl rfl (by decide) rfl rfl (dE_var (pv 3)) (dE_bin opB_mod (dE_var (pv 1)) (dE_var (pv 3))) (by rfl)))))))
    (dSs_one (dS_ret (dE_bltB (callF_max rfl) rfl T.n_max (by decide +kernel) (dA_cons (dE_var (pv 1)) (dA_cons dE_int dA_nil)))))))
theorem b_shortened (T : Txt mg) (F : Fns P w mg base k) {f : Addr} {cdv : Value} {A : Around} {outer : List Env} {sh : Shared} {H : Hp} {E : XK} (hr : Room k (A.deeper (envOfC "shortened" (defScope s_shortened) sh.heap.objs.size f cdv))) :
    PSs (cxOf (L2.CX P w) P w KF.K mg base ["numbers", "divisor", "number"] "shortened" (defScope s_shortened) f cdv A outer sh H E) (defBody s_shortened) (tS ⟨call sub wf tbl k, sub, mg, fun cls d _ H => E cls d H⟩ wf p_shortened) := by
  have hu := hu65 hr
  unfold p_shortened
  exact (dSs_cons (dS_set (i := 1) sc_shortened.nd rfl (.inr rfl) (dE_call F.f_greatest_divisor rfl hr (takes_of rfl rfl rfl rfl) rfl (dA_cons (dE_var (pv 0)) dA_nil)))
    (dSs_one (dS_ret (dE_lc rfl sc_shortened.nd (dI_seq (dE_var (pv 0))) (blkOk_by (own := [("number", 2)]) (N := ["numbers", "divisor", "number"]) (sc := defScope s_shortened) (by decide +kernel)) (fun _ _ _ _ _ => (dG_nm (pg_name (i := 2) sc_shortened.nd rfl (by first | exact .inl rfl | exact .inr rfl)))) (fun _ _ _ _ _ => dT_non) (fun _ _ _ _ _ => (dE_bin opB_fdiv (dE_var (pv 2)) (dE_var (pv 1))))))))
theorem b_settle (T : Txt mg) (F : Fns P w mg base k) {f : Addr} {cdv : Value} {A : Around} {outer : List Env} {sh : Shared} {H : Hp} {E : XK} (hr : Room k (A.deeper (envOfC "settle" (defScope s_settle) sh.heap.objs.size f cdv))) :
    PSs (cxOf (L2.CX P w) P w KF.K mg base ["size", "comparisons", "equations", "number", "found", "multipliers", "numbers"] "settle" (defScope s_settle) f cdv A outer sh H E) (defBody s_settle) (tS ⟨call sub wf tbl k, sub, mg, fun cls d _ H => E cls d H⟩ wf p_settle) := by
  have hu := hu65 hr
  unfold p_settle
  exact (dSs_cons (dS_setLc (i := 2) rfl sc_settle.nd rfl rfl (sw_true rfl rfl rfl (by decide +kernel)) (dI_rng rfl T.n_range (dE_bltB callF_len rfl T.n_len (by decide +kernel) (dA_cons (dE_var (pv 1)) dA_nil))) (blkOk_by (own := [("number", 3)]) (N := ["size", "comparisons", "equations", "number", "found", "multipliers", "numbers"]) (sc := defScope s_settle) (by decide +kernel)) (fun _ _ _ _ _ => (dG_nm (pg_name (i := 3) sc_settle.nd rfl (by first | exact .inl rfl | exact .inr rfl)))) (fun _ _ _ _ _ => dT_non) (fun _ _ _ _ _ => (dE_call F.f_equation_of rfl hr takes0 rfl (dA_cons (dE_var (pv 0)) (dA_cons (dE_var (pv 1)) (dA_cons (dE_var (pv 3)) dA_nil))))))
    (dSs_cons (dS_asg (dE_call F.f_solve rfl hr (takes_of rfl rfl rfl rfl) rfl (dA_cons (dE_var (pv 2)) (dA_cons (dE_bin opB_add (dE_bin opB_add (dE_ix (dE_var (pv 0)) dE_int) (dE_ix (dE_var (pv 0)) dE_int)) (dE_bltB callF_len rfl T.n_len (by decide +kernel) (dA_cons (dE_var (pv 1)) dA_nil))) dA_nil))) (dG_tp (n := 2) rfl (dGs_cons (dG_nm (pg_name (i := 4) sc_settle.nd rfl (.inl rfl))) (dGs_cons (dG_nm (pg_name (i := 5) sc_settle.nd rfl (.inl rfl))) dGs_nil))))
    (dSs_cons (dS_if (dT_cmp opC_is (dE_var (pv 4)) dE_non (nomark _)) (dSs_one (dS_ret (dE_tup (dA_cons dE_non (dA_cons (dE_bltT callF_tuple rfl T.n_tuple (by decide +kernel) (dA_cons (dE_call F.f_shortened rfl hr (takes_of rfl rfl rfl rfl) rfl (dA_cons (dE_var (pv 5)) dA_nil)) dA_nil)) dA_nil))))) dSs_nil)
    (dSs_cons (dS_set (i := 6) sc_settle.nd rfl (.inl rfl) (dE_call F.f_shortened rfl hr (takes_of rfl rfl rfl rfl) rfl (dA_cons (dE_sl (dE_ix (dE_var (pv 4)) dE_int) dO_non (dO_som (dE_bin opB_add (dE_ix (dE_var (pv 0)) dE_int) (dE_ix (dE_var (pv 0)) dE_int)))) dA_nil)))
    (dSs_one (dS_ret (dE_tup (dA_cons (dE_tup (dA_cons (dE_bltT callF_tuple rfl T.n_tuple (by decide +kernel) (dA_cons (dE_sl (dE_var (pv 6)) dO_non (dO_som (dE_ix (dE_var (pv 0)) dE_int))) dA_nil)) (dA_cons (dE_bltT callF_tuple rfl T.n_tuple (by decide +kernel) (dA_cons (dE_sl (dE_var (pv 6)) (dO_som (dE_ix (dE_var (pv 0)) dE_int)) dO_non) dA_nil)) dA_nil))) (dA_cons dE_non dA_nil)))))))))
theorem b_chain (T : Txt mg) (F : Fns P w mg base k) {f : Addr} {cdv : Value} {A : Around} {outer : List Env} {sh : Shared} {H : Hp} {E : XK} (hr : Room k (A.deeper (envOfC "chain" (defScope s_chain) sh.heap.objs.size f cdv))) :
    PSs (cxOf (L2.CX P w) P w KF.K mg base ["order", "low", "high"] "chain" (defScope s_chain) f cdv A outer sh H E) (defBody s_chain) (tS ⟨call sub wf tbl k, sub, mg, fun cls d _ H => E cls d H⟩ wf p_chain) := by
  have hu := hu65 hr
  unfold p_chain
  exact (dSs_one (dS_ret (dE_bltT callF_tuple rfl T.n_tuple (by decide +kernel) (dA_cons (dE_lc rfl sc_chain.nd (dI_zip rfl T.n_zip (dE_var (pv 0)) (dE_sl (dE_var (pv 0)) (dO_som dE_int) dO_non)) (blkOk_by (own := [("low", 1), ("high", 2)]) (N := ["order", "low", "high"]) (sc := defScope s_chain) (by decide +kernel)) (fun _ _ _ _ _ => (dG_tp (n := 2) rfl (dGs_cons (dG_nm (pg_name (i := 1) sc_chain.nd rfl (by first | exact .inl rfl | exact .inr rfl))) (dGs_cons (dG_nm (pg_name (i := 2) sc_chain.nd rfl (by first | exact .inl rfl | exact .inr rfl))) dGs_nil)))) (fun _ _ _ _ _ => dT_non) (fun _ _ _ _ _ => (dE_tup (dA_cons (dE_var (pv 2)) (dA_cons (dE_gstr rfl T.g_ABOVE) (dA_cons (dE_var (pv 1)) dA_nil)))))) dA_nil))))
theorem b_is_additive (T : Txt mg) (F : Fns P w mg base k) {f : Addr} {cdv : Value} {A : Around} {outer : List Env} {sh : Shared} {H : Hp} {E : XK} (hr : Room k (A.deeper (envOfC "is_additive" (defScope s_is_additive) sh.heap.objs.size f cdv))) :
    PSs (cxOf (L2.CX P w) P w KF.K mg base ["size", "order"] "is_additive" (defScope s_is_additive) f cdv A outer sh H E) (defBody s_is_additive) (tS ⟨call sub wf tbl k, sub, mg, fun cls d _ H => E cls d H⟩ wf p_is_additive) := by
  have hu := hu65 hr
  unfold p_is_additive
  exact (dSs_cons (dS_drop (dE_call F.f_check_order rfl hr (takes_of rfl rfl rfl rfl) rfl (dA_cons (dE_var (pv 0)) (dA_cons (dE_var (pv 1)) dA_nil))))
    (dSs_one (dS_ret (dE_cmp opC_isnt (dE_ix (dE_call F.f_settle rfl hr (takes_of rfl rfl rfl rfl) rfl (dA_cons (dE_var (pv 0)) (dA_cons (dE_call F.f_chain rfl hr (takes_of rfl rfl rfl rfl) rfl (dA_cons (dE_var (pv 1)) dA_nil)) dA_nil))) dE_int) dE_non (nomark _)))))
theorem b_check_small (T : Txt mg) (F : Fns P w mg base k) {f : Addr} {cdv : Value} {A : Around} {outer : List Env} {sh : Shared} {H : Hp} {E : XK} (hr : Room k (A.deeper (envOfC "check_small" (defScope s_check_small) sh.heap.objs.size f cdv))) :
    PSs (cxOf (L2.CX P w) P w KF.K mg base ["size"] "check_small" (defScope s_check_small) f cdv A outer sh H E) (defBody s_check_small) (tS ⟨call sub wf tbl k, sub, mg, fun cls d _ H => E cls d H⟩ wf p_check_small) := by
  have hu := hu65 hr
  unfold p_check_small
  exact (dSs_cons (dS_drop (dE_call F.f_check_size rfl hr (takes_of rfl rfl rfl rfl) rfl (dA_cons (dE_var (pv 0)) dA_nil)))
    (dSs_one (dS_if (dT_cmp opC_gt (dE_bin opB_mul (dE_ix (dE_var (pv 0)) dE_int) (dE_ix (dE_var (pv 0)) dE_int)) (dE_gint rfl T.g_MAX_CELLS) (nomark _)) (dSs_one (dS_raise T.x_TooLarge rfl rfl (takes_of rfl rfl rfl rfl) rfl)) dSs_nil)))
theorem b_ascending_starts (T : Txt mg) (F : Fns P w mg base k) {f : Addr} {cdv : Value} {A : Around} {outer : List Env} {sh : Shared} {H : Hp} {E : XK} (hr : Room k (A.deeper (envOfC "ascending_starts" (defScope s_ascending_starts) sh.heap.objs.size f cdv))) :
    PSs (cxOf (L2.CX P w) P w KF.K mg base ["size", "result", "time", "longer", "order", "filled", "cell", "row"] "ascending_starts" (defScope s_ascending_starts) f cdv A outer sh H E) (defBody s_ascending_starts) (tS ⟨call sub wf tbl k, sub, mg, fun cls d _ H => E cls d H⟩ wf p_ascending_starts) := by
  have hu := hu65 hr
  unfold p_ascending_starts
  exact (dSs_cons (dS_set (i := 1) sc_ascending_starts.nd rfl (.inl rfl) (dE_lst (dA_cons (dE_lst dA_nil) dA_nil)))
    (dSs_cons (dS_for (passes_of rfl) rfl (dI_rng rfl T.n_range (dE_bin opB_mul (dE_ix (dE_var (pv 0)) dE_int) (dE_ix (dE_var (pv 0)) dE_int))) (dG_nm (pg_name (i := 2) sc_ascending_starts.nd rfl (.inl rfl))) (dSs_cons (dS_own (i := 3) sc_ascending_starts.nd rfl (.inl rfl) (dN_lst dA_nil))
    (dSs_cons (dS_for (passes_of rfl) rfl (dI_seq (dE_var (pv 1))) (dG_nm (pg_name (i := 4) sc_ascending_starts.nd rfl (.inr rfl))) (dSs_cons (dS_setLc (i := 5) rfl sc_ascending_starts.nd rfl rfl (sw_true rfl rfl rfl (by decide +kernel)) (dI_rng rfl T.n_range (dE_ix (dE_var (pv 0)) dE_int)) (blkOk_by (own := [("row", 7)]) (N := ["size", "result", "time", "longer", "order", "filled", "cell", "row"]) (sc := defScope s_ascending_starts) (by decide +kernel)) (fun _ _ _ _ _ => (dG_nm (pg_name (i := 7) sc_ascending_starts.nd rfl (by first | exact .inl rfl | exact .inr rfl)))) (fun _ _ _ _ _ => dT_non) (fun _ _ _ _ _ => (dE_bltB callF_len rfl T.n_len (by decide +kernel) (dA_cons (dE_lc rfl sc_ascending_starts.nd (dI_seq (dE_var (pv 4))) (blkOk_by (own := [("cell", 6)]) (by rfl)) (fun _ _ _ _ _ => (dG_nm (pg_name (i := 6) sc_ascending_starts.nd rfl (by first | exact .inl rfl | exact .inr rfl)))) (fun _ _ _ _ _ => (dT_som (dT_cmp (opC_eq hu) (dE_ix (dE_var (pv 6)) dE_int) (dE_var (pv 7)) (nomark _)))) (fun _ _ _ _ _ => (dE_var (pv 6)))) dA_nil))))
    (dSs_one (dS_for (passes_of rfl) rfl (dI_rng rfl T.n_range (dE_ix (dE_var (pv 0)) dE_int)) (dG_nm (pg_name (i := 7) sc_ascending_starts.nd rfl (.inl rfl))) (dSs_one (dS_if (PW.pt (dW_and (dT_cmp (opC_lt hu) (dE_ix (dE_var (pv 5)) (dE_var (pv 7))) (dE_ix (dE_var (pv 0)) dE_int) (nomark _)) (dW_and1 (PW.pt (dW_or (dT_cmp (opC_eq hu) (dE_var (pv 7)) dE_int (nomark _)) (dW_or1 (dT_cmp opC_gt (dE_ix (dE_var (pv 5)) (dE_bin opB_sub (dE_var (pv 7)) dE_int)) (dE_ix (dE_var (pv 5)) (dE_var (pv 7))) (nomark _)))))))) (dSs_one (dS_app (pv 3) (dE_bin opB_add (dE_var (pv 4)) (dE_lst (dA_cons (dE_tup (dA_cons (dE_var (pv 7)) (dA_cons (dE_ix (dE_var (pv 5)) (dE_var (pv 7))) dA_nil))) dA_nil))))) dSs_nil))))))
    (dSs_one (dS_frz (dS_set (i := 1) sc_ascending_starts.nd rfl (.inl rfl) (dE_var (pv 3))))))))
    (dSs_one (dS_ret (dE_lc rfl sc_ascending_starts.nd (dI_seq (dE_var (pv 1))) (blkOk_by (own := [("order", 4)]) (N := ["size", "result", "time", "longer", "order", "filled", "cell", "row"]) (sc := defScope s_ascending_starts) (by decide +kernel)) (fun _ _ _ _ _ => (dG_nm (pg_name (i := 4) sc_ascending_starts.nd rfl (by first | exact .inl rfl | exact .inr rfl)))) (fun _ _ _ _ _ => dT_non) (fun _ _ _ _ _ => (dE_bltT callF_tuple rfl T.n_tuple (by decide +kernel) (dA_cons (dE_var (pv 4)) dA_nil))))))))
theorem b_standard_orders (T : Txt mg) (F : Fns P w mg base k) {f : Addr} {cdv : Value} {A : Around} {outer : List Env} {sh : Shared} {H : Hp} {E : XK} (hr : Room k (A.deeper (envOfC "standard_orders" (defScope s_standard_orders) sh.heap.objs.size f cdv))) :
    PSs (cxOf (L2.CX P w) P w KF.K mg base ["size", "order"] "standard_orders" (defScope s_standard_orders) f cdv A outer sh H E) (defBody s_standard_orders) (tS ⟨call sub wf tbl k, sub, mg, fun cls d _ H => E cls d H⟩ wf p_standard_orders) := by
  have hu := hu65 hr
  unfold p_standard_orders
  exact (dSs_cons (dS_drop (dE_call F.f_check_small rfl hr (takes_of rfl rfl rfl rfl) rfl (dA_cons (dE_var (pv 0)) dA_nil)))
    (dSs_one (dS_ret (dE_blgB (callG_sorted hu) rfl T.n_sorted (by decide +kernel) (dA_cons (dE_lc rfl sc_standard_orders.nd (dI_seq (dE_call F.f_ascending_starts rfl hr (takes_of rfl rfl rfl rfl) rfl (dA_cons (dE_var (pv 0)) dA_nil))) (blkOk_by (own := [("order", 1)]) (N := ["size", "order"]) (sc := defScope s_standard_orders) (by decide +kernel)) (fun _ _ _ _ _ => (dG_nm (pg_name (i := 1) sc_standard_orders.nd rfl (by first | exact .inl rfl | exact .inr rfl)))) (fun _ _ _ _ _ => (dT_som (dT_cmp opC_isnt (dE_ix (dE_call F.f_settle rfl hr takes0 rfl (dA_cons (dE_var (pv 0)) (dA_cons (dE_call F.f_chain rfl hr takes0 rfl (dA_cons (dE_var (pv 1)) dA_nil)) dA_nil))) dE_int) dE_non (nomark _)))) (fun _ _ _ _ _ => (dE_var (pv 1)))) dA_nil)))))
theorem b_permutations (T : Txt mg) (F : Fns P w mg base k) {f : Addr} {cdv : Value} {A : Around} {outer : List Env} {sh : Shared} {H : Hp} {E : XK} (hr : Room k (A.deeper (envOfC "permutations" (defScope s_permutations) sh.heap.objs.size f cdv))) :
    PSs (cxOf (L2.CX P w) P w KF.K mg base ["count", "result", "time", "longer", "one", "number"] "permutations" (defScope s_permutations) f cdv A outer sh H E) (defBody s_permutations) (tS ⟨call sub wf tbl k, sub, mg, fun cls d _ H => E cls d H⟩ wf p_permutations) := by
  have hu := hu65 hr
  unfold p_permutations
  exact (dSs_cons (dS_set (i := 1) sc_permutations.nd rfl (.inl rfl) (dE_lst (dA_cons (dE_tup dA_nil) dA_nil)))
    (dSs_cons (dS_for (passes_of rfl) rfl (dI_rng rfl T.n_range (dE_var (pv 0))) (dG_nm (pg_name (i := 2) sc_permutations.nd rfl (.inl rfl))) (dSs_cons (dS_own (i := 3) sc_permutations.nd rfl (.inl rfl) (dN_lst dA_nil))
    (dSs_cons (dS_for (passes_of rfl) rfl (dI_seq (dE_var (pv 1))) (dG_nm (pg_name (i := 4) sc_permutations.nd rfl (.inr rfl))) (dSs_one (dS_ext (pv 3) (dE_lc rfl sc_permutations.nd (dI_rng rfl T.n_range (dE_var (pv 0))) (blkOk_by (own := [("number", 5)]) (N := ["count", "result", "time", "longer", "one", "number"]) (sc := defScope s_permutations) (by decide +kernel)) (fun _ _ _ _ _ => (dG_nm (pg_name (i := 5) sc_permutations.nd rfl (by first | exact .inl rfl | exact .inr rfl)))) (fun _ _ _ _ _ => (dT_som (dT_cmp (opC_notin hu) (dE_var (pv 5)) (dE_var (pv 4)) (by rfl)))) (fun _ _ _ _ _ => (dE_bin opB_add (dE_var (pv 4)) (dE_tup (dA_cons (dE_var (pv 5)) dA_nil))))))))
    (dSs_one (dS_frz (dS_set (i := 1) sc_permutations.nd rfl (.inl rfl) (dE_var (pv 3))))))))
    (dSs_one (dS_ret (dE_var (pv 1))))))
theorem b_count_orders (T : Txt mg) (F : Fns P w mg base k) {f : Addr} {cdv : Value} {A : Around} {outer : List Env} {sh : Shared} {H : Hp} {E : XK} (hr : Room k (A.deeper (envOfC "count_orders" (defScope s_count_orders) sh.heap.objs.size f cdv))) :
    PSs (cxOf (L2.CX P w) P w KF.K mg base ["size"] "count_orders" (defScope s_count_orders) f cdv A outer sh H E) (defBody s_count_orders) (tS ⟨call sub wf tbl k, sub, mg, fun cls d _ H => E cls d H⟩ wf p_count_orders) := by
  have hu := hu65 hr
  unfold p_count_orders
  exact (dSs_one (dS_ret (dE_bin opB_mul (dE_bin opB_mul (dE_bltB callF_len rfl T.n_len (by decide +kernel) (dA_cons (dE_call F.f_standard_orders rfl hr (takes_of rfl rfl rfl rfl) rfl (dA_cons (dE_var (pv 0)) dA_nil)) dA_nil)) (dE_bltB callF_len rfl T.n_len (by decide +kernel) (dA_cons (dE_call F.f_permutations rfl hr (takes_of rfl rfl rfl rfl) rfl (dA_cons (dE_ix (dE_var (pv 0)) dE_int) dA_nil)) dA_nil))) (dE_bltB callF_len rfl T.n_len (by decide +kernel) (dA_cons (dE_call F.f_permutations rfl hr (takes_of rfl rfl rfl rfl) rfl (dA_cons (dE_ix (dE_var (pv 0)) dE_int) dA_nil)) dA_nil)))))
theorem b_law (T : Txt mg) (F : Fns P w mg base k) {f : Addr} {cdv : Value} {A : Around} {outer : List Env} {sh : Shared} {H : Hp} {E : XK} (hr : Room k (A.deeper (envOfC "law" (defScope s_law) sh.heap.objs.size f cdv))) :
    PSs (cxOf (L2.CX P w) P w KF.K mg base ["script", "draws", "size", "due", "time", "longer", "order", "cell", "left", "up", "ready"] "law" (defScope s_law) f cdv A outer sh H E) (defBody s_law) (tS ⟨call sub wf tbl k, sub, mg, fun cls d _ H => E cls d H⟩ wf p_law) := by
  have hu := hu65 hr
  unfold p_law
  exact (dSs_cons (dS_set (i := 1) sc_law.nd rfl (.inl rfl) (dE_call F.f__law_row rfl hr (takes_of rfl rfl rfl rfl) rfl (dA_cons (dE_var (pv 0)) (dA_cons dE_int dA_nil))))
    (dSs_cons (dS_set (i := 2) sc_law.nd rfl (.inr rfl) (dE_ix (dE_lst (dA_cons (dE_tup (dA_cons dE_int (dA_cons dE_int dA_nil))) (dA_cons (dE_tup (dA_cons dE_int (dA_cons dE_int dA_nil))) (dA_cons (dE_tup (dA_cons dE_int (dA_cons dE_int dA_nil))) (dA_cons (dE_tup (dA_cons dE_int (dA_cons dE_int dA_nil))) (dA_cons (dE_tup (dA_cons dE_int (dA_cons dE_int dA_nil))) (dA_cons (dE_tup (dA_cons dE_int (dA_cons dE_int dA_nil))) (dA_cons (dE_tup (dA_cons dE_int (dA_cons dE_int dA_nil))) (dA_cons (dE_tup (dA_cons dE_int (dA_cons dE_int dA_nil))) dA_nil))))))))) (dE_bin opB_mod (dE_ix (dE_var (pv 1)) dE_int) dE_int)))
    (dSs_cons (dS_set (i := 3) sc_law.nd rfl (.inl rfl) (dE_lst (dA_cons (dE_tup dA_nil) dA_nil)))
    (dSs_cons (dS_for (passes_of rfl) rfl (dI_rng rfl T.n_range (dE_bin opB_mul (dE_ix (dE_var (pv 2)) dE_int) (dE_ix (dE_var (pv 2)) dE_int))) (dG_nm (pg_name (i := 4) sc_law.nd rfl (.inl rfl))) (dSs_cons (dS_own (i := 5) sc_law.nd rfl (.inl rfl) (dN_lst dA_nil))
    (dSs_cons (dS_for (passes_of rfl) rfl (dI_seq (dE_var (pv 3))) (dG_nm (pg_name (i := 6) sc_law.nd rfl (.inl rfl))) (dSs_one (dS_for (passes_of rfl) rfl (dI_seq (dE_call F.f__law_cells rfl hr (takes_of rfl rfl rfl rfl) rfl (dA_cons (dE_var (pv 2)) dA_nil))) (dG_nm (pg_name (i := 7) sc_law.nd rfl (.inl rfl))) (dSs_cons (dS_par (i := 8) (j := 9) rfl sc_law.nd rfl rfl (by decide) rfl rfl (dE_tup (dA_cons (dE_ix (dE_var (pv 7)) dE_int) (dA_cons (dE_bin opB_sub (dE_ix (dE_var (pv 7)) dE_int) dE_int) dA_nil))) (dE_tup (dA_cons (dE_bin opB_sub (dE_ix (dE_var (pv 7)) dE_int) dE_int) (dA_cons (dE_ix (dE_var (pv 7)) dE_int) dA_nil))) (by rfl))
    (dSs_cons (dS_set (i := 10) sc_law.nd rfl (.inl rfl) (dE_and (dE_or (dE_cmp (opC_eq hu) (dE_ix (dE_var (pv 7)) dE_int) dE_int (nomark _)) (dE_one (dE_cmp (opC_in hu) (dE_var (pv 8)) (dE_var (pv 6)) (by rfl)))) (dE_one (dE_or (dE_cmp (opC_eq hu) (dE_ix (dE_var (pv 7)) dE_int) dE_int (nomark _)) (dE_one (dE_cmp (opC_in hu) (dE_var (pv 9)) (dE_var (pv 6)) (by rfl)))))))
    (dSs_one (dS_if (PW.pt (dW_and (dT_cmp (opC_notin hu) (dE_var (pv 7)) (dE_var (pv 6)) (by rfl)) (dW_and1 (dT_val (dE_var (pv 10)))))) (dSs_one (dS_app (pv 5) (dE_bin opB_add (dE_var (pv 6)) (dE_tup (dA_cons (dE_var (pv 7)) dA_nil))))) dSs_nil)))))))
    (dSs_one (dS_frz (dS_set (i := 3) sc_law.nd rfl (.inl rfl) (dE_var (pv 5))))))))
    (dSs_cons (dS_if (dT_cmp (opC_ne hu) (dE_bltB callF_len rfl T.n_len (by decide +kernel) (dA_cons (dE_var (pv 3)) dA_nil)) (dE_ix (dE_lst (dA_cons dE_int (dA_cons dE_int (dA_cons dE_int (dA_cons dE_int (dA_cons dE_int (dA_cons dE_int (dA_cons dE_int (dA_cons dE_int dA_nil))))))))) (dE_bin opB_mod (dE_ix (dE_var (pv 1)) dE_int) dE_int)) (nomark _)) (dSs_one (dS_ret dE_bl)) dSs_nil)
    (dSs_cons (dS_setLc (i := 3) rfl sc_law.nd rfl rfl (sw_true rfl rfl rfl (by decide +kernel)) (dI_seq (dE_var (pv 3))) (blkOk_by (own := [("order", 6)]) (N := ["script", "draws", "size", "due", "time", "longer", "order", "cell", "left", "up", "ready"]) (sc := defScope s_law) (by decide +kernel)) (fun _ _ _ _ _ => (dG_nm (pg_name (i := 6) sc_law.nd rfl (by first | exact .inl rfl | exact .inr rfl)))) (fun _ _ _ _ _ => (dT_som (dT_val (dE_call F.f_is_additive rfl hr takes0 rfl (dA_cons (dE_var (pv 2)) (dA_cons (dE_var (pv 6)) dA_nil)))))) (fun _ _ _ _ _ => (dE_var (pv 6))))
    (dSs_cons (dS_if (PW.pt (dW_or (dT_cmp (opC_ne hu) (dE_call F.f_standard_orders rfl hr (takes_of rfl rfl rfl rfl) rfl (dA_cons (dE_var (pv 2)) dA_nil)) (dE_blgB (callG_sorted hu) rfl T.n_sorted (by decide +kernel) (dA_cons (dE_var (pv 3)) dA_nil)) (nomark _)) (dW_or1 (dT_cmp (opC_ne hu) (dE_bltB callF_len rfl T.n_len (by decide +kernel) (dA_cons (dE_var (pv 3)) dA_nil)) (dE_ix (dE_lst (dA_cons dE_int (dA_cons dE_int (dA_cons dE_int (dA_cons dE_int (dA_cons dE_int (dA_cons dE_int (dA_cons dE_int (dA_cons dE_int dA_nil))))))))) (dE_bin opB_mod (dE_ix (dE_var (pv 1)) dE_int) dE_int)) (nomark _))))) (dSs_one (dS_ret dE_bl)) dSs_nil)
    (dSs_one (dS_ret (dE_cmp (opC_eq hu) (dE_call F.f_count_orders rfl hr (takes_of rfl rfl rfl rfl) rfl (dA_cons (dE_var (pv 2)) dA_nil)) (dE_ix (dE_lst (dA_cons dE_int (dA_cons dE_int (dA_cons dE_int (dA_cons dE_int (dA_cons dE_int (dA_cons dE_int (dA_cons dE_int (dA_cons dE_int dA_nil))))))))) (dE_bin opB_mod (dE_ix (dE_var (pv 1)) dE_int) dE_int)) (nomark _)))))))))))
/-- where the defs stand -/
structure Ats (mg : Str → Option Value) : Prop where
  dummy : True
  a__law_cell : At KF.K mg "_law_cell" s__law_cell ["script", "k"]
  a__law_row : At KF.K mg "_law_row" s__law_row ["script", "at"]
  a__law_cells : At KF.K mg "_law_cells" s__law_cells ["size"]
  a_in_range : At KF.K mg "in_range" s_in_range ["value", "low", "high"]
  a_is_pair : At KF.K mg "is_pair" s_is_pair ["value", "high", "other"]
  a_is_size : At KF.K mg "is_size" s_is_size ["value"]
  a_check_size : At KF.K mg "check_size" s_check_size ["size"]
  a_all_cells : At KF.K mg "all_cells" s_all_cells ["size"]
  a_is_same : At KF.K mg "is_same" s_is_same ["one", "cell"]
  a_is_order : At KF.K mg "is_order" s_is_order ["size", "value"]
  a_check_order : At KF.K mg "check_order" s_check_order ["size", "order"]
  a_difference : At KF.K mg "difference" s_difference ["size", "left", "right"]
  a_equation_of : At KF.K mg "equation_of" s_equation_of ["size", "comparisons", "number"]
  a_pick_column : At KF.K mg "pick_column" s_pick_column ["table", "columns"]
  a_pick_row : At KF.K mg "pick_row" s_pick_row ["table", "basis", "column"]
  a_exchange : At KF.K mg "exchange" s_exchange ["table", "row", "column", "scale"]
  a_solve : At KF.K mg "solve" s_solve ["equations", "columns"]
  a_greatest_divisor : At KF.K mg "greatest_divisor" s_greatest_divisor ["numbers"]
  a_shortened : At KF.K mg "shortened" s_shortened ["numbers"]
  a_settle : At KF.K mg "settle" s_settle ["size", "comparisons"]
  a_chain : At KF.K mg "chain" s_chain ["order"]
  a_is_additive : At KF.K mg "is_additive" s_is_additive ["size", "order"]
  a_check_small : At KF.K mg "check_small" s_check_small ["size"]
  a_ascending_starts : At KF.K mg "ascending_starts" s_ascending_starts ["size"]
  a_standard_orders : At KF.K mg "standard_orders" s_standard_orders ["size"]
  a_permutations : At KF.K mg "permutations" s_permutations ["count"]
  a_count_orders : At KF.K mg "count_orders" s_count_orders ["size"]
  a_law : At KF.K mg "law" s_law ["script"]
theorem fns_ok (T : Txt mg) (A : Ats mg) : ∀ k, Fns P w mg base k
  | 0 => ⟨trivial, A.a__law_cell.zero, A.a__law_row.zero, A.a__law_cells.zero, A.a_in_range.zero, A.a_is_pair.zero, A.a_is_size.zero, A.a_check_size.zero, A.a_all_cells.zero, A.a_is_same.zero, A.a_is_order.zero, A.a_check_order.zero, A.a_difference.zero, A.a_equation_of.zero, A.a_pick_column.zero, A.a_pick_row.zero, A.a_exchange.zero, A.a_solve.zero, A.a_greatest_divisor.zero, A.a_shortened.zero, A.a_settle.zero, A.a_chain.zero, A.a_is_additive.zero, A.a_check_small.zero, A.a_ascending_starts.zero, A.a_standard_orders.zero, A.a_permutations.zero, A.a_count_orders.zero, A.a_law.zero⟩
  | k + 1 =>
    let F := fns_ok T A k
    ⟨trivial, A.a__law_cell.succ sc__law_cell t__law_cell (by decide) (fun f cdv B outer sh H E hr => b__law_cell T F hr),
      A.a__law_row.succ sc__law_row t__law_row (by decide) (fun f cdv B outer sh H E hr => b__law_row T F hr),
      A.a__law_cells.succ sc__law_cells t__law_cells (by decide) (fun f cdv B outer sh H E hr => b__law_cells T F hr),
      A.a_in_range.succ sc_in_range t_in_range (by decide) (fun f cdv B outer sh H E hr => b_in_range T F hr),
      A.a_is_pair.succ sc_is_pair t_is_pair (by decide) (fun f cdv B outer sh H E hr => b_is_pair T F hr),
      A.a_is_size.succ sc_is_size t_is_size (by decide) (fun f cdv B outer sh H E hr => b_is_size T F hr),
      A.a_check_size.succ sc_check_size t_check_size (by decide) (fun f cdv B outer sh H E hr => b_check_size T F hr),
      A.a_all_cells.succ sc_all_cells t_all_cells (by decide) (fun f cdv B outer sh H E hr => b_all_cells T F hr),
      A.a_is_same.succ sc_is_same t_is_same (by decide) (fun f cdv B outer sh H E hr => b_is_same T F hr),
      A.a_is_order.succ sc_is_order t_is_order (by decide) (fun f cdv B outer sh H E hr => b_is_order T F hr),
      A.a_check_order.succ sc_check_order t_check_order (by decide) (fun f cdv B outer sh H E hr => b_check_order T F hr),
      A.a_difference.succ sc_difference t_difference (by decide) (fun f cdv B outer sh H E hr => b_difference T F hr),
      A.a_equation_of.succ sc_equation_of t_equation_of (by decide) (fun f cdv B outer sh H E hr => b_equation_of T F hr),
      A.a_pick_column.succ sc_pick_column t_pick_column (by decide) (fun f cdv B outer sh H E hr => b_pick_column T F hr),
      A.a_pick_row.succ sc_pick_row t_pick_row (by decide) (fun f cdv B outer sh H E hr => b_pick_row T F hr),
      A.a_exchange.succ sc_exchange t_exchange (by decide) (fun f cdv B outer sh H E hr => b_exchange T F hr),
      A.a_solve.succ sc_solve t_solve (by decide) (fun f cdv B outer sh H E hr => b_solve T F hr),
      A.a_greatest_divisor.succ sc_greatest_divisor t_greatest_divisor (by decide) (fun f cdv B outer sh H E hr => b_greatest_divisor T F hr),
      A.a_shortened.succ sc_shortened t_shortened (by decide) (fun f cdv B outer sh H E hr => b_shortened T F hr),
      A.a_settle.succ sc_settle t_settle (by decide) (fun f cdv B outer sh H E hr => b_settle T F hr),
      A.a_chain.succ sc_chain t_chain (by decide) (fun f cdv B outer sh H E hr => b_chain T F hr),
      A.a_is_additive.succ sc_is_additive t_is_additive (by decide) (fun f cdv B outer sh H E hr => b_is_additive T F hr),
      A.a_check_small.succ sc_check_small t_check_small (by decide) (fun f cdv B outer sh H E hr => b_check_small T F hr),
      A.a_ascending_starts.succ sc_ascending_starts t_ascending_starts (by decide) (fun f cdv B outer sh H E hr => b_ascending_starts T F hr),
      A.a_standard_orders.succ sc_standard_orders t_standard_orders (by decide) (fun f cdv B outer sh H E hr => b_standard_orders T F hr),
      A.a_permutations.succ sc_permutations t_permutations (by decide) (fun f cdv B outer sh H E hr => b_permutations T F hr),
      A.a_count_orders.succ sc_count_orders t_count_orders (by decide) (fun f cdv B outer sh H E hr => b_count_orders T F hr),
      A.a_law.succ sc_law t_law (by decide) (fun f cdv B outer sh H E hr => b_law T F hr)⟩
end
end K14

set_option Elab.async false
set_option linter.all false
set_option maxRecDepth 100000
set_option maxHeartbeats 4000000
namespace K14
open PySem L2 Mp Pg
open PyProof.Rows hiding St
theorem all_mk {P : Program} {w : World} {K : PySem.W.Frag} {h : Heap} {mg : Str → Option Value} {fa : Addr} (X : K.In h) (G : h.Ns mainGlobals mg) (hfa : mg "law" = some (.ref fa))
    (n_abs : PySem.W.nsIn K mainGlobals "abs" = some none)
    (n_bool : PySem.W.nsIn K mainGlobals "bool" = some none)
    (n_enumerate : PySem.W.nsIn K mainGlobals "enumerate" = some none)
    (n_int : PySem.W.nsIn K mainGlobals "int" = some none)
    (n_isinstance : PySem.W.nsIn K mainGlobals "isinstance" = some none)
    (n_len : PySem.W.nsIn K mainGlobals "len" = some none)
    (n_max : PySem.W.nsIn K mainGlobals "max" = some none)
    (n_range : PySem.W.nsIn K mainGlobals "range" = some none)
    (n_sorted : PySem.W.nsIn K mainGlobals "sorted" = some none)
    (n_sum : PySem.W.nsIn K mainGlobals "sum" = some none)
    (n_tuple : PySem.W.nsIn K mainGlobals "tuple" = some none)
    (n_zip : PySem.W.nsIn K mainGlobals "zip" = some none)
    (g_ABOVE : StrF K "ABOVE" "above")
    (g_EQUAL : StrF K "EQUAL" "equal")
    (g_MAX_CELLS : IntF K "MAX_CELLS" 9)
    (g_MAX_LINES : IntF K "MAX_LINES" 4)
    (eg : ExcG K)
    (x_InvalidOrder : ExcF K "InvalidOrder")
    (x_InvalidSize : ExcF K "InvalidSize")
    (x_TooLarge : ExcF K "TooLarge")
    (p_InvalidOrder_InvalidOrder : ExcP K "InvalidOrder" "InvalidOrder" (sub "InvalidOrder" "InvalidOrder"))
    (p_InvalidOrder_InvalidSize : ExcP K "InvalidOrder" "InvalidSize" (sub "InvalidOrder" "InvalidSize"))
    (p_InvalidOrder_TooLarge : ExcP K "InvalidOrder" "TooLarge" (sub "InvalidOrder" "TooLarge"))
    (p_InvalidSize_InvalidOrder : ExcP K "InvalidSize" "InvalidOrder" (sub "InvalidSize" "InvalidOrder"))
    (p_InvalidSize_InvalidSize : ExcP K "InvalidSize" "InvalidSize" (sub "InvalidSize" "InvalidSize"))
    (p_InvalidSize_TooLarge : ExcP K "InvalidSize" "TooLarge" (sub "InvalidSize" "TooLarge"))
    (p_TooLarge_InvalidOrder : ExcP K "TooLarge" "InvalidOrder" (sub "TooLarge" "InvalidOrder"))
    (p_TooLarge_InvalidSize : ExcP K "TooLarge" "InvalidSize" (sub "TooLarge" "InvalidSize"))
    (p_TooLarge_TooLarge : ExcP K "TooLarge" "TooLarge" (sub "TooLarge" "TooLarge"))
    (d__law_cell : DefF K "_law_cell" s__law_cell)
    (d__law_row : DefF K "_law_row" s__law_row)
    (d__law_cells : DefF K "_law_cells" s__law_cells)
    (d_in_range : DefF K "in_range" s_in_range)
    (d_is_pair : DefF K "is_pair" s_is_pair)
    (d_is_size : DefF K "is_size" s_is_size)
    (d_check_size : DefF K "check_size" s_check_size)
    (d_all_cells : DefF K "all_cells" s_all_cells)
    (d_is_same : DefF K "is_same" s_is_same)
    (d_is_order : DefF K "is_order" s_is_order)
    (d_check_order : DefF K "check_order" s_check_order)
    (d_difference : DefF K "difference" s_difference)
    (d_equation_of : DefF K "equation_of" s_equation_of)
    (d_pick_column : DefF K "pick_column" s_pick_column)
    (d_pick_row : DefF K "pick_row" s_pick_row)
    (d_exchange : DefF K "exchange" s_exchange)
    (d_solve : DefF K "solve" s_solve)
    (d_greatest_divisor : DefF K "greatest_divisor" s_greatest_divisor)
    (d_shortened : DefF K "shortened" s_shortened)
    (d_settle : DefF K "settle" s_settle)
    (d_chain : DefF K "chain" s_chain)
    (d_is_additive : DefF K "is_additive" s_is_additive)
    (d_check_small : DefF K "check_small" s_check_small)
    (d_ascending_starts : DefF K "ascending_starts" s_ascending_starts)
    (d_standard_orders : DefF K "standard_orders" s_standard_orders)
    (d_permutations : DefF K "permutations" s_permutations)
    (d_count_orders : DefF K "count_orders" s_count_orders)
    (d_law : DefF K "law" s_law) :
    ∃ fd : FuncData, (∀ (s : Shared) (v : Value), BindsTo s fd ⟨[v], []⟩ [("script", v)]) ∧ ∀ base : Heap, K.In base → base.Ns mainGlobals mg → FnOk P w K mg base (L2.CX P w) 20 fa fd ["script"] (spL K) := by
  letI kf : KF := ⟨K⟩
  have ok_InvalidOrder : ∃ C, XcOk K mg sub xNames "InvalidOrder" C := x_InvalidOrder.ok X G eg (fun d hd => by simp only [xNames, List.mem_cons, List.not_mem_nil, or_false] at hd; rcases hd with rfl | rfl | rfl <;> assumption) (fun d hd => by simp only [xNames, List.mem_cons, List.not_mem_nil, or_false] at hd; rcases hd with rfl | rfl | rfl <;> assumption)
  have ok_InvalidSize : ∃ C, XcOk K mg sub xNames "InvalidSize" C := x_InvalidSize.ok X G eg (fun d hd => by simp only [xNames, List.mem_cons, List.not_mem_nil, or_false] at hd; rcases hd with rfl | rfl | rfl <;> assumption) (fun d hd => by simp only [xNames, List.mem_cons, List.not_mem_nil, or_false] at hd; rcases hd with rfl | rfl | rfl <;> assumption)
  have ok_TooLarge : ∃ C, XcOk K mg sub xNames "TooLarge" C := x_TooLarge.ok X G eg (fun d hd => by simp only [xNames, List.mem_cons, List.not_mem_nil, or_false] at hd; rcases hd with rfl | rfl | rfl <;> assumption) (fun d hd => by simp only [xNames, List.mem_cons, List.not_mem_nil, or_false] at hd; rcases hd with rfl | rfl | rfl <;> assumption)
  have T : @Txt kf mg := ⟨trivial, PySem.W.mg_none_of X G n_abs, PySem.W.mg_none_of X G n_bool, PySem.W.mg_none_of X G n_enumerate, PySem.W.mg_none_of X G n_int, PySem.W.mg_none_of X G n_isinstance, PySem.W.mg_none_of X G n_len, PySem.W.mg_none_of X G n_max, PySem.W.mg_none_of X G n_range, PySem.W.mg_none_of X G n_sorted, PySem.W.mg_none_of X G n_sum, PySem.W.mg_none_of X G n_tuple, PySem.W.mg_none_of X G n_zip, g_ABOVE.mg X G, g_EQUAL.mg X G, g_MAX_CELLS.mg X G, g_MAX_LINES.mg X G, ok_InvalidOrder, x_InvalidOrder.mg X G, ok_InvalidSize, x_InvalidSize.mg X G, ok_TooLarge, x_TooLarge.mg X G, (fun d hd => by simp only [xNames, List.mem_cons, List.not_mem_nil, or_false] at hd; rcases hd with rfl | rfl | rfl <;> assumption)⟩
  have A : @Ats kf mg := ⟨trivial, d__law_cell.at X G (fun F => F.binds (ps := ["script", "k"]) fun _ _ _ _ _ _ us hl => match us, hl with | [_, _], _ => rfl),
    d__law_row.at X G (fun F => F.binds (ps := ["script", "at"]) fun _ _ _ _ _ _ us hl => match us, hl with | [_, _], _ => rfl),
    d__law_cells.at X G (fun F => F.binds (ps := ["size"]) fun _ _ _ _ _ _ us hl => match us, hl with | [_], _ => rfl),
    d_in_range.at X G (fun F => F.binds (ps := ["value", "low", "high"]) fun _ _ _ _ _ _ us hl => match us, hl with | [_, _, _], _ => rfl),
    d_is_pair.at X G (fun F => F.binds (ps := ["value", "high", "other"]) fun _ _ _ _ _ _ us hl => match us, hl with | [_, _, _], _ => rfl),
    d_is_size.at X G (fun F => F.binds (ps := ["value"]) fun _ _ _ _ _ _ us hl => match us, hl with | [_], _ => rfl),
    d_check_size.at X G (fun F => F.binds (ps := ["size"]) fun _ _ _ _ _ _ us hl => match us, hl with | [_], _ => rfl),
    d_all_cells.at X G (fun F => F.binds (ps := ["size"]) fun _ _ _ _ _ _ us hl => match us, hl with | [_], _ => rfl),
    d_is_same.at X G (fun F => F.binds (ps := ["one", "cell"]) fun _ _ _ _ _ _ us hl => match us, hl with | [_, _], _ => rfl),
    d_is_order.at X G (fun F => F.binds (ps := ["size", "value"]) fun _ _ _ _ _ _ us hl => match us, hl with | [_, _], _ => rfl),
    d_check_order.at X G (fun F => F.binds (ps := ["size", "order"]) fun _ _ _ _ _ _ us hl => match us, hl with | [_, _], _ => rfl),
    d_difference.at X G (fun F => F.binds (ps := ["size", "left", "right"]) fun _ _ _ _ _ _ us hl => match us, hl with | [_, _, _], _ => rfl),
    d_equation_of.at X G (fun F => F.binds (ps := ["size", "comparisons", "number"]) fun _ _ _ _ _ _ us hl => match us, hl with | [_, _, _], _ => rfl),
    d_pick_column.at X G (fun F => F.binds (ps := ["table", "columns"]) fun _ _ _ _ _ _ us hl => match us, hl with | [_, _], _ => rfl),
    d_pick_row.at X G (fun F => F.binds (ps := ["table", "basis", "column"]) fun _ _ _ _ _ _ us hl => match us, hl with | [_, _, _], _ => rfl),
    d_exchange.at X G (fun F => F.binds (ps := ["table", "row", "column", "scale"]) fun _ _ _ _ _ _ us hl => match us, hl with | [_, _, _, _], _ => rfl),
    d_solve.at X G (fun F => F.binds (ps := ["equations", "columns"]) fun _ _ _ _ _ _ us hl => match us, hl with | [_, _], _ => rfl),
    d_greatest_divisor.at X G (fun F => F.binds (ps := ["numbers"]) fun _ _ _ _ _ _ us hl => match us, hl with | [_], _ => rfl),
    d_shortened.at X G (fun F => F.binds (ps := ["numbers"]) fun _ _ _ _ _ _ us hl => match us, hl with | [_], _ => rfl),
    d_settle.at X G (fun F => F.binds (ps := ["size", "comparisons"]) fun _ _ _ _ _ _ us hl => match us, hl with | [_, _], _ => rfl),
    d_chain.at X G (fun F => F.binds (ps := ["order"]) fun _ _ _ _ _ _ us hl => match us, hl with | [_], _ => rfl),
    d_is_additive.at X G (fun F => F.binds (ps := ["size", "order"]) fun _ _ _ _ _ _ us hl => match us, hl with | [_, _], _ => rfl),
    d_check_small.at X G (fun F => F.binds (ps := ["size"]) fun _ _ _ _ _ _ us hl => match us, hl with | [_], _ => rfl),
    d_ascending_starts.at X G (fun F => F.binds (ps := ["size"]) fun _ _ _ _ _ _ us hl => match us, hl with | [_], _ => rfl),
    d_standard_orders.at X G (fun F => F.binds (ps := ["size"]) fun _ _ _ _ _ _ us hl => match us, hl with | [_], _ => rfl),
    d_permutations.at X G (fun F => F.binds (ps := ["count"]) fun _ _ _ _ _ _ us hl => match us, hl with | [_], _ => rfl),
    d_count_orders.at X G (fun F => F.binds (ps := ["size"]) fun _ _ _ _ _ _ us hl => match us, hl with | [_], _ => rfl),
    d_law.at X G (fun F => F.binds (ps := ["script"]) fun _ _ _ _ _ _ us hl => match us, hl with | [_], _ => rfl)⟩
  obtain ⟨fa1, fd, F, h1, _, _⟩ := A.a_law
  rw [hfa] at h1
  cases h1
  have hF : ∀ base, FnOk P w K mg base (L2.CX P w) 20 fa fd ["script"] (spL K) := fun base => law_fn rfl (fn_body (tbl := tbl) (sub := sub) (wf := wf) (k := 19) F sc_law t_law (by decide) (fun cdv B outer sh H E hr => b_law T (fns_ok T A 19) hr)) law_true
  obtain ⟨oc, od, kV, doc, pm, an, cdv, ct, osl, rfl, lk, hcd⟩ := F.ex
  exact ⟨_, fun s v => .of_eq rfl, fun base _ _ => hF base⟩
end K14
open PySem PySem.W PyProof.Rows
set_option maxRecDepth 100000 in
set_option maxHeartbeats 0 in
theorem PySem.Challenge.cw_additiveorders_k14_whole_standard_orders_holds : PySem.Challenge.rw_additiveorders_k14_whole_standard_orders.Holds := by
  w_on; o_law; k_head; (case hw => w_witness2)
  k_fill
  refine L2.walk_of (l := PySem.Challenge.rw_additiveorders_k14_whole_standard_orders) (n := 63) (k := 20) (x := "script") (CX := fun w => L2.CX PySem.Challenge.rw_additiveorders_k14_whole_standard_orders.prog w) (sp := fun w => Mp.spL _) rfl (by decide) rfl ⟨rfl, by decide, by decide⟩ (fun w h Y => PySem.W.kIn_of Y) ?F (fun _ _ a ns hl _ hS => ⟨a, ns, rfl, hS, hl, fun _ => rfl⟩) (fun _ _ _ _ _ h => by obtain ⟨_, _, _, _, _, _, _, _, _, _, _, _, z⟩ := h; exact z)
  case F =>
    intro w mg fa h KX G hmg
    refine' K14.all_mk KX G hmg ?n_abs ?n_bool ?n_enumerate ?n_int ?n_isinstance ?n_len ?n_max ?n_range ?n_sorted ?n_sum ?n_tuple ?n_zip ?g_ABOVE ?g_EQUAL ?g_MAX_CELLS ?g_MAX_LINES ?eg ?x_InvalidOrder ?x_InvalidSize ?x_TooLarge ?p_InvalidOrder_InvalidOrder ?p_InvalidOrder_InvalidSize ?p_InvalidOrder_TooLarge ?p_InvalidSize_InvalidOrder ?p_InvalidSize_InvalidSize ?p_InvalidSize_TooLarge ?p_TooLarge_InvalidOrder ?p_TooLarge_InvalidSize ?p_TooLarge_TooLarge ?d__law_cell ?d__law_row ?d__law_cells ?d_in_range ?d_is_pair ?d_is_size ?d_check_size ?d_all_cells ?d_is_same ?d_is_order ?d_check_order ?d_difference ?d_equation_of ?d_pick_column ?d_pick_row ?d_exchange ?d_solve ?d_greatest_divisor ?d_shortened ?d_settle ?d_chain ?d_is_additive ?d_check_small ?d_ascending_starts ?d_standard_orders ?d_permutations ?d_count_orders ?d_law
    (case n_abs => k_is)
    (case n_bool => k_is)
    (case n_enumerate => k_is)
    (case n_int => k_is)
    (case n_isinstance => k_is)
    (case n_len => k_is)
    (case n_max => k_is)
    (case n_range => k_is)
    (case n_sorted => k_is)
    (case n_sum => k_is)
    (case n_tuple => k_is)
    (case n_zip => k_is)
    (case g_ABOVE => refine' Mp.StrF.mk ?z; (case z => k_is))
    (case g_EQUAL => refine' Mp.StrF.mk ?z; (case z => k_is))
    (case g_MAX_CELLS => refine' Mp.IntF.mk ?z; (case z => k_is))
    (case g_MAX_LINES => refine' Mp.IntF.mk ?z; (case z => k_is))
    (case eg => exact ⟨by k_is, by k_is⟩)
    (case x_InvalidOrder => refine' Mp.ExcF.mk ?y1 ?y2 ?y3 ?y4 ?y5 ?y6 ?y7 ?y8 ?y9 ?y10 ?y11 ?y12; (case y1 => k_is); (case y2 => k_exc); (case y3 => k_is); (case y4 => k_is); (case y5 => k_is); (case y6 => k_is); (case y7 => k_is); (case y8 => k_is); (case y9 => k_is); (case y10 => k_is); (case y11 => k_is); (case y12 => first | rfl | k_is))
    (case x_InvalidSize => refine' Mp.ExcF.mk ?y1 ?y2 ?y3 ?y4 ?y5 ?y6 ?y7 ?y8 ?y9 ?y10 ?y11 ?y12; (case y1 => k_is); (case y2 => k_exc); (case y3 => k_is); (case y4 => k_is); (case y5 => k_is); (case y6 => k_is); (case y7 => k_is); (case y8 => k_is); (case y9 => k_is); (case y10 => k_is); (case y11 => k_is); (case y12 => first | rfl | k_is))
    (case x_TooLarge => refine' Mp.ExcF.mk ?y1 ?y2 ?y3 ?y4 ?y5 ?y6 ?y7 ?y8 ?y9 ?y10 ?y11 ?y12; (case y1 => k_is); (case y2 => k_exc); (case y3 => k_is); (case y4 => k_is); (case y5 => k_is); (case y6 => k_is); (case y7 => k_is); (case y8 => k_is); (case y9 => k_is); (case y10 => k_is); (case y11 => k_is); (case y12 => first | rfl | k_is))
    (case p_InvalidOrder_InvalidOrder => refine' Mp.ExcP.mk ?y1 ?y2 ?y3; (case y1 => k_is); (case y2 => k_is); (case y3 => first | k_is | rfl))
    (case p_InvalidOrder_InvalidSize => refine' Mp.ExcP.mk ?y1 ?y2 ?y3; (case y1 => k_is); (case y2 => k_is); (case y3 => first | k_is | rfl))
    (case p_InvalidOrder_TooLarge => refine' Mp.ExcP.mk ?y1 ?y2 ?y3; (case y1 => k_is); (case y2 => k_is); (case y3 => first | k_is | rfl))
    (case p_InvalidSize_InvalidOrder => refine' Mp.ExcP.mk ?y1 ?y2 ?y3; (case y1 => k_is); (case y2 => k_is); (case y3 => first | k_is | rfl))
    (case p_InvalidSize_InvalidSize => refine' Mp.ExcP.mk ?y1 ?y2 ?y3; (case y1 => k_is); (case y2 => k_is); (case y3 => first | k_is | rfl))
    (case p_InvalidSize_TooLarge => refine' Mp.ExcP.mk ?y1 ?y2 ?y3; (case y1 => k_is); (case y2 => k_is); (case y3 => first | k_is | rfl))
    (case p_TooLarge_InvalidOrder => refine' Mp.ExcP.mk ?y1 ?y2 ?y3; (case y1 => k_is); (case y2 => k_is); (case y3 => first | k_is | rfl))
    (case p_TooLarge_InvalidSize => refine' Mp.ExcP.mk ?y1 ?y2 ?y3; (case y1 => k_is); (case y2 => k_is); (case y3 => first | k_is | rfl))
    (case p_TooLarge_TooLarge => refine' Mp.ExcP.mk ?y1 ?y2 ?y3; (case y1 => k_is); (case y2 => k_is); (case y3 => first | k_is | rfl))
    (case d__law_cell => refine' Mp.DefF.mk ?y1 ?y2 ?y3 ?y4; (case y1 => k_is); (case y2 => k_is); (case y3 => k_is); (case y4 => k_is))
    (case d__law_row => refine' Mp.DefF.mk ?y1 ?y2 ?y3 ?y4; (case y1 => k_is); (case y2 => k_is); (case y3 => k_is); (case y4 => k_is))
    (case d__law_cells => refine' Mp.DefF.mk ?y1 ?y2 ?y3 ?y4; (case y1 => k_is); (case y2 => k_is); (case y3 => k_is); (case y4 => k_is))
    (case d_in_range => refine' Mp.DefF.mk ?y1 ?y2 ?y3 ?y4; (case y1 => k_is); (case y2 => k_is); (case y3 => k_is); (case y4 => k_is))
    (case d_is_pair => refine' Mp.DefF.mk ?y1 ?y2 ?y3 ?y4; (case y1 => k_is); (case y2 => k_is); (case y3 => k_is); (case y4 => k_is))
    (case d_is_size => refine' Mp.DefF.mk ?y1 ?y2 ?y3 ?y4; (case y1 => k_is); (case y2 => k_is); (case y3 => k_is); (case y4 => k_is))
    (case d_check_size => refine' Mp.DefF.mk ?y1 ?y2 ?y3 ?y4; (case y1 => k_is); (case y2 => k_is); (case y3 => k_is); (case y4 => k_is))
    (case d_all_cells => refine' Mp.DefF.mk ?y1 ?y2 ?y3 ?y4; (case y1 => k_is); (case y2 => k_is); (case y3 => k_is); (case y4 => k_is))
    (case d_is_same => refine' Mp.DefF.mk ?y1 ?y2 ?y3 ?y4; (case y1 => k_is); (case y2 => k_is); (case y3 => k_is); (case y4 => k_is))
    (case d_is_order => refine' Mp.DefF.mk ?y1 ?y2 ?y3 ?y4; (case y1 => k_is); (case y2 => k_is); (case y3 => k_is); (case y4 => k_is))
    (case d_check_order => refine' Mp.DefF.mk ?y1 ?y2 ?y3 ?y4; (case y1 => k_is); (case y2 => k_is); (case y3 => k_is); (case y4 => k_is))
    (case d_difference => refine' Mp.DefF.mk ?y1 ?y2 ?y3 ?y4; (case y1 => k_is); (case y2 => k_is); (case y3 => k_is); (case y4 => k_is))
    (case d_equation_of => refine' Mp.DefF.mk ?y1 ?y2 ?y3 ?y4; (case y1 => k_is); (case y2 => k_is); (case y3 => k_is); (case y4 => k_is))
    (case d_pick_column => refine' Mp.DefF.mk ?y1 ?y2 ?y3 ?y4; (case y1 => k_is); (case y2 => k_is); (case y3 => k_is); (case y4 => k_is))
    (case d_pick_row => refine' Mp.DefF.mk ?y1 ?y2 ?y3 ?y4; (case y1 => k_is); (case y2 => k_is); (case y3 => k_is); (case y4 => k_is))
    (case d_exchange => refine' Mp.DefF.mk ?y1 ?y2 ?y3 ?y4; (case y1 => k_is); (case y2 => k_is); (case y3 => k_is); (case y4 => k_is))
    (case d_solve => refine' Mp.DefF.mk ?y1 ?y2 ?y3 ?y4; (case y1 => k_is); (case y2 => k_is); (case y3 => k_is); (case y4 => k_is))
    (case d_greatest_divisor => refine' Mp.DefF.mk ?y1 ?y2 ?y3 ?y4; (case y1 => k_is); (case y2 => k_is); (case y3 => k_is); (case y4 => k_is))
    (case d_shortened => refine' Mp.DefF.mk ?y1 ?y2 ?y3 ?y4; (case y1 => k_is); (case y2 => k_is); (case y3 => k_is); (case y4 => k_is))
    (case d_settle => refine' Mp.DefF.mk ?y1 ?y2 ?y3 ?y4; (case y1 => k_is); (case y2 => k_is); (case y3 => k_is); (case y4 => k_is))
    (case d_chain => refine' Mp.DefF.mk ?y1 ?y2 ?y3 ?y4; (case y1 => k_is); (case y2 => k_is); (case y3 => k_is); (case y4 => k_is))
    (case d_is_additive => refine' Mp.DefF.mk ?y1 ?y2 ?y3 ?y4; (case y1 => k_is); (case y2 => k_is); (case y3 => k_is); (case y4 => k_is))
    (case d_check_small => refine' Mp.DefF.mk ?y1 ?y2 ?y3 ?y4; (case y1 => k_is); (case y2 => k_is); (case y3 => k_is); (case y4 => k_is))
    (case d_ascending_starts => refine' Mp.DefF.mk ?y1 ?y2 ?y3 ?y4; (case y1 => k_is); (case y2 => k_is); (case y3 => k_is); (case y4 => k_is))
    (case d_standard_orders => refine' Mp.DefF.mk ?y1 ?y2 ?y3 ?y4; (case y1 => k_is); (case y2 => k_is); (case y3 => k_is); (case y4 => k_is))
    (case d_permutations => refine' Mp.DefF.mk ?y1 ?y2 ?y3 ?y4; (case y1 => k_is); (case y2 => k_is); (case y3 => k_is); (case y4 => k_is))
    (case d_count_orders => refine' Mp.DefF.mk ?y1 ?y2 ?y3 ?y4; (case y1 => k_is); (case y2 => k_is); (case y3 => k_is); (case y4 => k_is))
    (case d_law => refine' Mp.DefF.mk ?y1 ?y2 ?y3 ?y4; (case y1 => k_is); (case y2 => k_is); (case y3 => k_is); (case y4 => k_is))
