import PyProof.Rows.All
import Wide.All
import OpenK.AllK
import Wide.FinOn
import HandS.ForMost
import HandS.TupAny
import HandS.DictComp
import HandS.Flow
import HandS.IsInst
import KE.SortData
import KE.DatumOrd
import HandS.DictTup
import HandS.ListItems
import KE.KDictPairs
import HandS.Dict
import HandS.Text
import KE.GoesMore
import HandS.EndBits
import HandS.Defaults
import PySem.Challenge.RW_mapwise_k78_whole_names_over_scales
section
set_option autoImplicit false
set_option linter.all false
/-! A small language of data, as trees, with its evaluator. Pure: no model in sight. -/
namespace MW
abbrev S := List Nat
/-- data: lists and dicts as values -/
inductive D where
  | non | bl (b : Bool) | int (i : Int) | str (x : S)
  | lst (xs : List D) | tup (xs : List D) | ctup (p : Bool) (xs : List D)
  | dct (t : Bool) (ks vs : List D)
  | pool
  | ins (c : S) (ns : List S) (vs : List D)
  deriving Inhabited
/-- the state of the drawing pool -/
abbrev G := Int × Int × Int
inductive Res (α : Type) where
  | ok (a : α) (g : G) | exc (c : S) (fs : List D) (g : G) | bad
def Res.bind {α β : Type} (r : Res α) (f : α → G → Res β) : Res β := match r with
  | .ok a g => f a g
  | .exc c fs g => .exc c fs g
  | .bad => .bad
def Res.noexc {α : Type} (r : Res α) : Res α := match r with
  | .ok a g => .ok a g
  | _ => .bad
def ofO {α : Type} (o : Option α) (g : G) : Res α := match o with
  | some a => .ok a g
  | none => .bad
inductive Slot where
  | no | val (d : D) | own (d : D)
abbrev Env := List Slot


/-! ### operations on data -/
mutual
/-- python's == on data without dicts -/
def eqD : D → D → Bool
  | .non, y => match y with | .non => true | _ => false
  | .bl a, y => match y with | .bl b => a == b | .int j => (if a then 1 else 0) == j | _ => false
  | .int i, y => match y with | .int j => i == j | .bl b => i == (if b then 1 else 0) | _ => false
  | .str x, y => match y with | .str z => x == z | _ => false
  | .lst xs, y => match y with | .lst ys => eqL xs ys | _ => false
  | .tup xs, y => match y with | .tup ys => eqL xs ys | .ctup _ ys => eqL xs ys | _ => false
  | .ctup _ xs, y => match y with | .tup ys => eqL xs ys | .ctup _ ys => eqL xs ys | _ => false
  | .dct _ _ _, _ => false
  | .pool, _ => false
  | .ins _ _ _, _ => false
def eqL : List D → List D → Bool
  | [], ys => match ys with | [] => true | _ :: _ => false
  | x :: xs, ys => match ys with | [] => false | y :: ys => eqD x y && eqL xs ys
end
mutual
/-- no dict, no object within -/
def plainD : D → Bool
  | .non => true | .bl _ => true | .int _ => true | .str _ => true
  | .lst xs => plainL xs
  | .tup xs => plainL xs
  | .ctup _ xs => plainL xs
  | .dct _ _ _ => false
  | .pool => false
  | .ins _ _ _ => false
def plainL : List D → Bool
  | [] => true
  | x :: xs => plainD x && plainL xs
end
mutual
def depD : D → Nat
  | .non => 0 | .bl _ => 0 | .int _ => 0 | .str _ => 0
  | .lst xs => depL xs + 1
  | .tup xs => depL xs + 1
  | .ctup _ xs => depL xs + 1
  | .dct _ _ _ => 0
  | .pool => 0
  | .ins _ _ _ => 0
def depL : List D → Nat
  | [] => 0
  | x :: xs => max (depD x) (depL xs)
end
def okD (d : D) : Bool := plainD d && decide (depD d ≤ 60)
def eqO (x y : D) : Option Bool := if okD x && okD y then some (eqD x y) else none
mutual
def toks : D → List (Int ⊕ List Nat)
  | .non => []
  | .bl b => [.inl (if b = true then 1 else 0)]
  | .int n => [.inl n]
  | .str x => [.inr x]
  | .lst xs => toksL xs
  | .tup xs => toksL xs
  | .ctup _ xs => toksL xs
  | .dct _ _ _ => []
  | .pool => []
  | .ins _ _ _ => []
def toksL : List D → List (Int ⊕ List Nat)
  | [] => [.inl 0]
  | x :: xs => .inl 1 :: (toks x ++ toksL xs)
end
mutual
def alikeD : D → D → Bool
  | .non, y => match y with | .non => true | _ => false
  | .bl _, y => match y with | .bl _ => true | _ => false
  | .int _, y => match y with | .int _ => true | _ => false
  | .str _, y => match y with | .str _ => true | _ => false
  | .lst xs, y => match y with | .lst ys => alikeL xs ys | _ => false
  | .tup xs, y => match y with | .tup ys => alikeL xs ys | .ctup _ ys => alikeL xs ys | _ => false
  | .ctup _ xs, y => match y with | .tup ys => alikeL xs ys | .ctup _ ys => alikeL xs ys | _ => false
  | .dct _ _ _, _ => false
  | .pool, _ => false
  | .ins _ _ _, _ => false
def alikeL : List D → List D → Bool
  | [], _ => true
  | x :: xs, ys => match ys with | [] => true | y :: ys => alikeD x y && alikeL xs ys
end
def tokLt : Int ⊕ List Nat → Int ⊕ List Nat → Bool
  | .inl a, .inl b => decide (a < b)
  | .inr a, .inr b => decide (a < b)
  | .inl _, .inr _ => true
  | .inr _, .inl _ => false
def lexT : List (Int ⊕ List Nat) → List (Int ⊕ List Nat) → Bool
  | [], [] => false
  | [], _ :: _ => true
  | _ :: _, [] => false
  | x :: xs, y :: ys => tokLt x y || (!tokLt y x && lexT xs ys)
/-- python's < on alike data -/
def ltD (x y : D) : Bool := lexT (toks x) (toks y)
def isNon : D → Bool
  | .non => true | _ => false
def ltO (x y : D) : Option Bool := if okD x && okD y && alikeD x y && alikeD y x && !isNon x && !isNon y then some (ltD x y) else none
def allAlike (ds : List D) : Bool := ds.all fun x => ds.all fun y => alikeD x y
def isTup1 : D → Bool
  | .tup (_ :: _) => true | .ctup _ (_ :: _) => true | _ => false
def isOther : D → Bool
  | .non => false | .tup _ => false | .ctup _ _ => false | _ => true
def sortable (ds : List D) : Bool := ds.all isTup1 || ds.all isOther
def sortO (ds : List D) : Option (List D) :=
  if ds.all okD && allAlike ds && sortable ds then some (ds.mergeSort fun a b => !ltD b a) else none

def truth : D → Option Bool
  | .non => some false
  | .bl b => some b
  | .int i => some (i != 0)
  | .str x => if decide (x.length ≤ 16777216) then some (!x.isEmpty) else none
  | .lst xs => some (!xs.isEmpty)
  | .tup xs => some (!xs.isEmpty)
  | .ctup _ xs => some (!xs.isEmpty)
  | .dct false ks _ => some (!ks.isEmpty)
  | _ => none
/-- keys of dicts: numbers, texts; tuples of these -/
def flatK : D → Bool
  | .int _ => true | .str _ => true | _ => false
def keyOk (t : Bool) : D → Bool
  | .int _ => !t
  | .str _ => !t
  | .tup (x :: xs) => t && (x :: xs).all flatK
  | _ => false
mutual
def sameD : D → D → Bool
  | .int i, y => match y with | .int j => i == j | _ => false
  | .str x, y => match y with | .str z => x == z | _ => false
  | .tup xs, y => match y with | .tup ys => sameL xs ys | _ => false
  | .non, _ => false
  | .bl _, _ => false
  | .lst _, _ => false
  | .ctup _ _, _ => false
  | .dct _ _ _, _ => false
  | .pool, _ => false
  | .ins _ _ _, _ => false
def sameL : List D → List D → Bool
  | [], ys => match ys with | [] => true | _ :: _ => false
  | x :: xs, ys => match ys with | [] => false | y :: ys => sameD x y && sameL xs ys
end
def dget (k : D) : List D → List D → Option D
  | a :: ks, v :: vs => if sameD a k then some v else dget k ks vs
  | _, _ => none
def dset (k v : D) : List D → List D → List D
  | a :: ks, w :: vs => (if sameD a k then v else w) :: dset k v ks vs
  | _, _ => []
def dput (k v : D) (ks vs : List D) : List D × List D := if ks.any (fun a => sameD a k) then (ks, dset k v ks vs) else (ks ++ [k], vs ++ [v])
def seqIx (i : Int) (n : Nat) : Option Nat := if 0 ≤ i then (if i < n then some i.toNat else none) else if -n ≤ i then some (i + n).toNat else none
def idxD : D → D → Option D
  | .lst xs, .int i => (seqIx i xs.length).bind fun j => xs[j]?
  | .tup xs, .int i => (seqIx i xs.length).bind fun j => xs[j]?
  | .ctup _ xs, .int i => (seqIx i xs.length).bind fun j => xs[j]?
  | .str x, .int i => if decide (x.length ≤ 16777216) then (seqIx i x.length).bind fun j => (x[j]?).map fun c => .str [c] else none
  | .dct t ks vs, k => if keyOk t k then dget k ks vs else none
  | _, _ => none
/-- the ends of a slice -/
def sIx (n : Nat) (dflt : Nat) : Option Int → Nat
  | none => dflt
  | some i => if 0 ≤ i then min i.toNat n else (i + n).toNat
def cutL {α : Type} (xs : List α) (lo hi : Option Int) : List α :=
  (xs.drop (sIx xs.length 0 lo)).take (sIx xs.length xs.length hi - sIx xs.length 0 lo)
def slcD (d : D) (lo hi : Option Int) : Option D := match d with
  | .lst xs => some (.lst (cutL xs lo hi))
  | .tup xs => some (.tup (cutL xs lo hi))
  | .str x => if decide (x.length ≤ 16777216) then some (.str (cutL x lo hi)) else none
  | _ => none

inductive Op where | add | sub | mul | fdiv | mod
inductive Cp where | eq | ne | lt | le | gt | ge | is | isn | inn | nin
def small (i : Int) : Bool := decide (i.natAbs < 18446744073709551616)
def binD : Op → D → D → Option D
  | .add, .int i, .int j => some (.int (i + j))
  | .sub, .int i, .int j => some (.int (i - j))
  | .mul, .int i, .int j => if small i || small j then some (.int (i * j)) else none
  | .fdiv, .int i, .int j => if 0 < j && decide (j < 1073741824) then some (.int (i / j)) else none
  | .mod, .int i, .int j => if 0 < j then some (.int (i % j)) else none
  | .add, .str x, .str y => if decide (x.length + y.length ≤ 16777216) then some (.str (x ++ y)) else none
  | .add, .lst x, .lst y => if decide (x.length + y.length ≤ 16777216) then some (.lst (x ++ y)) else none
  | .add, .tup x, .tup y => if decide (x.length + y.length ≤ 16777216) then some (.tup (x ++ y)) else none
  | .mul, .lst x, .int j => if decide (j ≤ 1000000) && decide (x.length * j.toNat ≤ 16777216) && decide (-1000000 ≤ j) then some (.lst (List.replicate j.toNat x).flatten) else none
  | _, _, _ => none
def inO (x : D) : D → Option Bool
  | .lst xs => if okD x && okD (.lst xs) then some (xs.any fun y => eqD y x) else none
  | .tup xs => if okD x && okD (.tup xs) then some (xs.any fun y => eqD y x) else none
  | .ctup p xs => if okD x && okD (.ctup p xs) then some (xs.any fun y => eqD y x) else none
  | .dct t ks vs => if keyOk t x then some (dget x ks vs).isSome else none
  | _ => none
def isD (x : D) : D → Option Bool
  | .non => some (isNon x)
  | _ => none
def cmpD : Cp → D → D → Option Bool
  | .eq, x, y => eqO x y
  | .ne, x, y => (eqO x y).map (!·)
  | .lt, x, y => ltO x y
  | .gt, x, y => ltO y x
  | .le, x, y => (ltO y x).map (!·)
  | .ge, x, y => (ltO x y).map (!·)
  | .is, x, y => isD x y
  | .isn, x, y => (isD x y).map (!·)
  | .inn, x, y => inO x y
  | .nin, x, y => (inO x y).map (!·)
/-- the two parts of a pair -/
def pairD : D → Option (D × D)
  | .tup [k, v] => some (k, v)
  | .ctup _ [k, v] => some (k, v)
  | _ => none
/-- pairs, put into a dict one behind another -/
def pairsD : List D → List D × List D → Option (List D × List D)
  | [], acc => some acc
  | x :: xs, acc => match pairD x with
    | some (k, v) => if keyOk false k then pairsD xs (dput k v acc.1 acc.2) else none
    | none => none
/-- builtins of one argument -/
inductive B1 where | len | sorted | tuple | list | int | abs | str | bool | any | all | sum | min | max | dict | ptuple
def boolsD : List D → Option (List Bool)
  | [] => some []
  | .bl b :: r => (boolsD r).map (b :: ·)
  | _ :: _ => none
def intsD : List D → Option (List Int)
  | [] => some []
  | .int b :: r => (intsD r).map (b :: ·)
  | _ :: _ => none
def itoS (i : Int) : S := (toString i).toList.map Char.toNat
def minI : List Int → Option Int
  | [] => none
  | n :: ns => some (ns.foldl (fun a b => if b < a then b else a) n)
def maxI : List Int → Option Int
  | [] => none
  | n :: ns => some (ns.foldl (fun a b => if a < b then b else a) n)
def b1D : B1 → D → Option D
  | .len, .lst xs => some (.int xs.length)
  | .len, .tup xs => some (.int xs.length)
  | .len, .ctup _ xs => some (.int xs.length)
  | .len, .str xs => if decide (xs.length ≤ 16777216) then some (.int xs.length) else none
  | .len, .dct false ks _ => some (.int ks.length)
  | .sorted, .lst xs => (sortO xs).map .lst
  | .sorted, .dct false ks _ => (sortO ks).map .lst
  | .tuple, .lst xs => some (.tup xs)
  | .tuple, .tup xs => some (.tup xs)
  | .list, .lst xs => some (.lst xs)
  | .list, .tup xs => some (.lst xs)
  | .list, .ctup _ xs => some (.lst xs)
  | .int, .int i => some (.int i)
  | .int, .bl b => some (.int (if b then 1 else 0))
  | .abs, .int i => some (.int (if i < 0 then -i else i))
  | .str, .int i => if decide (i.natAbs < 10000000000) then some (.str (itoS i)) else none
  | .bool, .int i => some (.bl (i != 0))
  | .bool, .bl b => some (.bl b)
  | .any, .lst xs => (boolsD xs).map fun bs => .bl (bs.any id)
  | .all, .lst xs => (boolsD xs).map fun bs => .bl (bs.all id)
  | .sum, .lst xs => (intsD xs).map fun ns => .int ns.sum
  | .min, .lst xs => ((intsD xs).bind minI).map .int
  | .max, .lst xs => ((intsD xs).bind maxI).map .int
  | .dict, .dct false ks vs => some (.dct false ks vs)
  | .dict, .lst xs => (pairsD xs ([], [])).map fun p => .dct false p.1 p.2
  | .dict, .ctup true xs => (pairsD xs ([], [])).map fun p => .dct false p.1 p.2
  | .ptuple, .lst xs => some (.ctup true xs)
  | _, _ => none
inductive B2 where | min | max
def b2D : B2 → D → D → Option D
  | .max, .int i, .int j => some (.int (if j > i then j else i))
  | .min, .int i, .int j => some (.int (if j < i then j else i))
  | _, _, _ => none
inductive Ty where | int | bool | str | list | tuple | dict
def isiD : D → Ty → Option Bool
  | .int _, t => some (match t with | .int => true | _ => false)
  | .bl _, t => some (match t with | .int => true | .bool => true | _ => false)
  | .str _, t => some (match t with | .str => true | _ => false)
  | .lst _, t => some (match t with | .list => true | _ => false)
  | .tup _, t => some (match t with | .tuple => true | _ => false)
  | .dct false _ _, t => some (match t with | .dict => true | _ => false)
  | .non, t => some false
  | _, _ => none
/-- methods -/
def m1D : String → D → D → Option D
  | "get", .dct t ks vs, k => if keyOk t k then some ((dget k ks vs).getD .non) else none
  | _, _, _ => none
def m2D : String → D → D → D → Option D
  | "get", .dct t ks vs, k, d => if keyOk t k then some ((dget k ks vs).getD d) else none
  | _, _, _, _ => none
def enumL (i : Nat) : List D → List D
  | [] => []
  | x :: xs => .tup [.int i, x] :: enumL (i + 1) xs
def zipL : List D → List D → List D
  | x :: xs, y :: ys => .tup [x, y] :: zipL xs ys
  | _, _ => []
def rngL (lo : Int) (n : Nat) : List D := (List.range n).map fun (i : Nat) => D.int (lo + (i : Int))

/-! ### the syntax -/
inductive T where
  | nm (i : Nat) | tup (r : T) | tnil | tcons (a r : T)
inductive E where
  | v (i : Nat) | gv (x : String) | k (d : D)
  | bin (o : Op) (a b : E) | neg (a : E) | not (a : E) | cmp (c : Cp) (a b : E) | cmp2 (c c' : Cp) (a b d : E)
  | and (a b : E) | or (a b : E) | ite (t a b : E)
  | anil | acons (a r : E) | tup (as : E) | lst (as : E) | dK | dT | disp (ks vs : E)
  | idx (a i : E) | slc (a lo hi : E) | nth
  | call (f : String) (as : E) (j : Nat)
  | b1 (f : B1) (a : E) | b2 (f : B2) (a b : E) | isi (a : E) (t : Ty)
  | m1 (m : String) (o a : E) | m2 (m : String) (o a b : E)
  | lc (elt : E) (tg : T) (it test : E) (own : List Nat)
  | lc2 (elt : E) (tg : T) (it test : E) (tg1 : T) (it1 test1 : E) (own own1 : List Nat)
  | dcv (key val : E) (i j : Nat) (tg : T) (own own1 : List Nat)
  | dc (key val : E) (tg : T) (it test : E) (own : List Nat)
  | rng1 (a : E) | rng2 (a b : E) | rng3 (a b c : E) | enum (a : E) | zip (a b : E) | items (a : E) | values (a : E)
  | sitems (a : E)
  | fld (a : E) (f : S)
inductive C where
  | nil | seq (a r : C)
  | asg (t : T) (e : E) | own (i : Nat) (e : E) | app (i : Nat) (e : E) | ext (i : Nat) (e : E) | put (i : Nat) (k v : E) | setL (i : Nat) (k v : E)
  | frz (is : List Nat) | drop (is : List Nat)
  | ex (e : E) | aug (i : Nat) (o : Op) (e : E)
  | if_ (t : E) (a b : C) | for_ (t : T) (it : E) (body : C) | while_ (t : E) (body : C)
  | ret (e : E) | retN | pass | brk | cont
  | rais (cls : S) (as : E) | tryx (body : C) (cls : S) (i : Option Nat) (h : C)

structure Ctx where
  call : String → List D → G → Res D
  dfl : String → Nat → List D
  const : String → Option D

def bindT : T → D → Env → Option Env
  | .nm i, d, ρ => if i < ρ.length then some (ρ.set i (.val d)) else none
  | .tup r, d, ρ => match d with
    | .tup xs => bindT r (.lst xs) ρ
    | .ctup _ xs => bindT r (.lst xs) ρ
    | _ => none
  | .tnil, d, ρ => match d with | .lst [] => some ρ | _ => none
  | .tcons a r, d, ρ => match d with
    | .lst (x :: xs) => (bindT a x ρ).bind fun ρ1 => bindT r (.lst xs) ρ1
    | _ => none
def wipeE : List Nat → Env → Env
  | [], ρ => ρ
  | i :: is, ρ => (wipeE is ρ).set i .no
def frzE : List Nat → Env → Env
  | [], ρ => ρ
  | i :: is, ρ => match (frzE is ρ)[i]? with
    | some (.own d) => (frzE is ρ).set i (.val d)
    | _ => frzE is ρ
/-- a name whose object is being built may be read, not kept -/
def brw (c : E) (ρ : Env) (g : G) (r : Res D) : Res D := match c with
  | .v i => match ρ[i]? with
    | some (.own d) => .ok d g
    | _ => r
  | _ => r

def brwI (c : E) (ρ : Env) (g : G) (r : Res D) : Res D := match c with
  | .v i => match ρ[i]? with
    | some (.own (.lst xs)) => .ok (.lst xs) g
    | _ => r
  | .enum (.v i) => match ρ[i]? with
    | some (.own (.lst xs)) => .ok (.lst (enumL 0 xs)) g
    | _ => r
  | _ => r
def slotsT : T → List Nat
  | .nm i => [i]
  | .tup r => slotsT r
  | .tnil => []
  | .tcons a r => slotsT a ++ slotsT r
/-- what a for walks: a dict by its name alone -/
def itemsE (it : E) (x : D) : Option (List D) := match x with
  | .lst xs => some xs
  | .tup xs => some xs
  | .ctup _ xs => some xs
  | .dct false ks _ => match it with
    | .v _ => some ks
    | _ => none
  | _ => none
section loops
def lcL (tg : T) (test : Env → G → Res D) (elt : Env → G → Res D) : List D → Env → G → Res (List D)
  | [], _, g => .ok [] g
  | d :: ds, ρ, g => match bindT tg d ρ with
    | none => .bad
    | some ρ1 => (test ρ1 g).bind fun t g1 => match truth t with
      | none => .bad
      | some false => lcL tg test elt ds ρ g1
      | some true => (elt ρ1 g1).bind fun x g2 => (lcL tg test elt ds ρ g2).bind fun xs g3 => .ok (x :: xs) g3
/-- the lists of the turns, one behind another -/
def lcF (tg : T) (test : Env → G → Res D) (inner : Env → G → Res (List D)) : List D → Env → G → Res (List D)
  | [], _, g => .ok [] g
  | d :: ds, ρ, g => match bindT tg d ρ with
    | none => .bad
    | some ρ1 => (test ρ1 g).bind fun t g1 => match truth t with
      | none => .bad
      | some false => lcF tg test inner ds ρ g1
      | some true => (inner ρ1 g1).bind fun x g2 => (lcF tg test inner ds ρ g2).bind fun xs g3 => .ok (x ++ xs) g3
def dcL (tg : T) (test : Env → G → Res D) (key val : Env → G → Res D) : List D → Env → G → List D × List D → Res (List D × List D)
  | [], _, g, acc => .ok acc g
  | d :: ds, ρ, g, acc => match bindT tg d ρ with
    | none => .bad
    | some ρ1 => (test ρ1 g).bind fun t g1 => match truth t with
      | none => .bad
      | some false => dcL tg test key val ds ρ g1 acc
      | some true => (key ρ1 g1).bind fun k g2 => (val ρ1 g2).bind fun x g3 => if keyOk false k then dcL tg test key val ds ρ g3 (dput k x acc.1 acc.2) else .bad
/-- the dicts of a dict's values, walked one behind another -/
def dcF (tg : T) (inner : Env → G → List D × List D → Res (List D × List D)) : List D → Env → G → List D × List D → Res (List D × List D)
  | [], _, g, acc => .ok acc g
  | d :: ds, ρ, g, acc => match bindT tg d ρ with
    | none => .bad
    | some ρ1 => (inner ρ1 g acc).bind fun a g1 => dcF tg inner ds ρ g1 a
end loops
def dispL : List D → List D → List D × List D → Option (List D × List D)
  | [], [], acc => some acc
  | k :: ks, v :: vs, acc => if keyOk false k then dispL ks vs (dput k v acc.1 acc.2) else none
  | _, _, _ => none
/-- a part of a slice: not written, or a number -/
def intE (c : E) : D → Option (Option Int)
  | .int i => some (some i)
  | .non => match c with
    | .nth => some none
    | _ => none
  | _ => none

def evalE (P : Ctx) : E → Env → G → Res D
  | .v i, ρ, g => match ρ[i]? with | some (.val d) => .ok d g | _ => .bad
  | .gv x, _, g => ofO (P.const x) g
  | .k d, _, g => .ok d g
  | .bin o a b, ρ, g => (brw a ρ g (evalE P a ρ g)).bind fun x g1 => (brw b ρ g1 (evalE P b ρ g1)).bind fun y g2 => ofO (binD o x y) g2
  | .neg a, ρ, g => (evalE P a ρ g).bind fun x g1 => match x with | .int i => .ok (.int (-i)) g1 | _ => .bad
  | .not a, ρ, g => (brw a ρ g (evalE P a ρ g)).bind fun x g1 => ofO ((truth x).map fun b => .bl (!b)) g1
  | .cmp c a b, ρ, g => (brw a ρ g (evalE P a ρ g)).bind fun x g1 => (brw b ρ g1 (evalE P b ρ g1)).bind fun y g2 => ofO ((cmpD c x y).map .bl) g2
  | .cmp2 c c' a b d, ρ, g => (evalE P a ρ g).bind fun x g1 => (evalE P b ρ g1).bind fun y g2 => match cmpD c x y with
    | none => .bad
    | some false => .ok (.bl false) g2
    | some true => (evalE P d ρ g2).bind fun z g3 => ofO ((cmpD c' y z).map .bl) g3
  | .and a b, ρ, g => (evalE P a ρ g).bind fun x g1 => match truth x with
    | none => .bad
    | some false => .ok x g1
    | some true => evalE P b ρ g1
  | .or a b, ρ, g => (evalE P a ρ g).bind fun x g1 => match truth x with
    | none => .bad
    | some true => .ok x g1
    | some false => evalE P b ρ g1
  | .ite t a b, ρ, g => (brw t ρ g (evalE P t ρ g)).bind fun x g1 => match truth x with
    | none => .bad
    | some true => evalE P a ρ g1
    | some false => evalE P b ρ g1
  | .anil, _, g => .ok (.lst []) g
  | .acons a r, ρ, g => (evalE P a ρ g).bind fun x g1 => (evalE P r ρ g1).bind fun y g2 => match y with
    | .lst xs => .ok (.lst (x :: xs)) g2
    | _ => .bad
  | .tup as, ρ, g => (evalE P as ρ g).bind fun y g1 => match y with
    | .lst xs => if decide (xs.length ≤ 16777216) then .ok (.tup xs) g1 else .bad
    | _ => .bad
  | .lst as, ρ, g => (evalE P as ρ g).bind fun y g1 => match y with
    | .lst xs => if decide (xs.length ≤ 16777216) then .ok (.lst xs) g1 else .bad
    | _ => .bad
  | .dK, _, g => .ok (.dct false [] []) g
  | .dT, _, g => .ok (.dct true [] []) g
  | .disp ks vs, ρ, g => (evalE P ks ρ g).bind fun x g1 => (evalE P vs ρ g1).bind fun y g2 => match x, y with
    | .lst kl, .lst vl => ofO ((dispL kl vl ([], [])).map fun p => .dct false p.1 p.2) g2
    | _, _ => .bad
  | .idx a i, ρ, g => (brw a ρ g (evalE P a ρ g)).bind fun x g1 => (evalE P i ρ g1).bind fun y g2 => ofO (idxD x y) g2
  | .nth, _, g => .ok .non g
  | .slc a lo hi, ρ, g => (brw a ρ g (evalE P a ρ g)).bind fun x g1 => (evalE P lo ρ g1).bind fun y g2 => (evalE P hi ρ g2).bind fun z g3 => match intE lo y, intE hi z with
    | some l, some h => ofO (slcD x l h) g3
    | _, _ => .bad
  | .call f as j, ρ, g => (evalE P as ρ g).bind fun y g1 => match y with
    | .lst xs => P.call f (xs ++ P.dfl f j) g1
    | _ => .bad
  | .b1 f a, ρ, g => (brw a ρ g (evalE P a ρ g)).bind fun x g1 => ofO (b1D f x) g1
  | .b2 f a b, ρ, g => (evalE P a ρ g).bind fun x g1 => (evalE P b ρ g1).bind fun y g2 => ofO (b2D f x y) g2
  | .isi a t, ρ, g => (brw a ρ g (evalE P a ρ g)).bind fun x g1 => ofO ((isiD x t).map .bl) g1
  | .m1 m o a, ρ, g => (brw o ρ g (evalE P o ρ g)).bind fun x g1 => (evalE P a ρ g1).bind fun y g2 => ofO (m1D m x y) g2
  | .m2 m o a b, ρ, g => (brw o ρ g (evalE P o ρ g)).bind fun x g1 => (evalE P a ρ g1).bind fun y g2 => (evalE P b ρ g2).bind fun z g3 => ofO (m2D m x y z) g3
  | .lc elt tg it test own, ρ, g => (brwI it ρ g (evalE P it ρ g)).bind fun x g1 => match itemsE it x with
    | none => .bad
    | some ds => if decide (ds.length ≤ 16777216) then (lcL tg (fun ρ g => evalE P test ρ g) (fun ρ g => evalE P elt ρ g) ds (wipeE own ρ) g1).noexc.bind fun xs g2 => .ok (.lst xs) g2 else .bad
  | .lc2 elt tg it test tg1 it1 test1 own own1, ρ, g => (brwI it ρ g (evalE P it ρ g)).bind fun x g1 => match itemsE it x with
    | none => .bad
    | some ds => (lcF tg (fun ρ g => evalE P test ρ g) (fun ρ g => (evalE P it1 ρ g).bind fun x1 g2 => match itemsE .nth x1 with
        | none => .bad
        | some ds1 => lcL tg1 (fun ρ g => evalE P test1 ρ g) (fun ρ g => evalE P elt ρ g) ds1 (wipeE own1 ρ) g2) ds (wipeE own ρ) g1).noexc.bind fun xs g2 => if decide (xs.length ≤ 16777216) then .ok (.lst xs) g2 else .bad
  | .dc key val tg it test own, ρ, g => (brwI it ρ g (evalE P it ρ g)).bind fun x g1 => match itemsE it x with
    | none => .bad
    | some ds => if decide (ds.length ≤ 16777216) then (dcL tg (fun ρ g => evalE P test ρ g) (fun ρ g => evalE P key ρ g) (fun ρ g => evalE P val ρ g) ds (wipeE own ρ) g1 ([], [])).noexc.bind fun p g2 => .ok (.dct false p.1 p.2) g2 else .bad
  | .dcv key val i j tg own own1, ρ, g => match ρ[i]? with
    | some (.val (.dct false _ vs)) => (dcF (.nm j) (fun ρ g acc => match ρ[j]? with
        | some (.val (.dct false ks1 _)) => dcL tg (fun _ g => .ok (.bl true) g) (fun ρ g => evalE P key ρ g) (fun ρ g => evalE P val ρ g) ks1 (wipeE own1 ρ) g acc
        | _ => .bad) vs (wipeE own ρ) g ([], [])).noexc.bind fun p g2 => if decide (p.1.length < 16777216) then .ok (.dct false p.1 p.2) g2 else .bad
    | _ => .bad
  | .rng1 a, ρ, g => (evalE P a ρ g).bind fun x g1 => match x with
    | .int i => if decide (-4611686018427387904 ≤ i) && decide (i.toNat ≤ 16777216) then .ok (.lst (rngL 0 i.toNat)) g1 else .bad
    | _ => .bad
  | .rng2 a b, ρ, g => (evalE P a ρ g).bind fun x g1 => (evalE P b ρ g1).bind fun y g2 => match x, y with
    | .int i, .int j => if decide (-4611686018427387904 ≤ i) && decide (i < 4611686018427387904) && decide (-4611686018427387904 ≤ j) && decide (j < 4611686018427387904) && decide ((j - i).toNat ≤ 16777216) then .ok (.lst (rngL i (j - i).toNat)) g2 else .bad
    | _, _ => .bad
  | .rng3 a b c, ρ, g => (evalE P a ρ g).bind fun x g1 => (evalE P b ρ g1).bind fun y g2 => (evalE P c ρ g2).bind fun z g3 => match x, y, z with
    | .int i, .int j, .int (-1) => if decide (-4611686018427387904 ≤ i) && decide (i < 4611686018427387904) && decide (-4611686018427387904 ≤ j) && decide (j < 4611686018427387904) && decide ((i - j).toNat ≤ 16777216) then .ok (.lst ((List.range (i - j).toNat).map fun (n : Nat) => D.int (i - (n : Int)))) g3 else .bad
    | _, _, _ => .bad
  | .enum a, ρ, g => (evalE P a ρ g).bind fun x g1 => match x with
    | .lst xs => .ok (.lst (enumL 0 xs)) g1
    | .tup xs => .ok (.lst (enumL 0 xs)) g1
    | .ctup _ xs => .ok (.lst (enumL 0 xs)) g1
    | _ => .bad
  | .zip a b, ρ, g => (evalE P a ρ g).bind fun x g1 => (evalE P b ρ g1).bind fun y g2 => match x, y with
    | .lst xs, .lst ys => .ok (.lst (zipL xs ys)) g2
    | _, _ => .bad
  | .items a, ρ, g => (evalE P a ρ g).bind fun x g1 => match x with
    | .dct false ks vs => .ok (.lst (zipL ks vs)) g1
    | _ => .bad
  | .values a, ρ, g => (evalE P a ρ g).bind fun x g1 => match x with
    | .dct false _ vs => .ok (.lst vs) g1
    | _ => .bad
  | .sitems a, ρ, g => (evalE P a ρ g).bind fun x g1 => match x with
    | .dct false ks vs => ofO ((sortO (zipL ks vs)).map .lst) g1
    | _ => .bad
  | .fld a f, ρ, g => (evalE P a ρ g).bind fun x g1 => match x with
    | .ins _ ns vs => ofO (((ns.zip vs).find? fun p => p.1 == f).map (·.2)) g1
    | _ => .bad

inductive Out where
  | nx (ρ : Env) | rt (d : D) | bk (ρ : Env) | ct (ρ : Env)
def forL (tg : T) (body : Env → G → Res Out) : List D → Env → G → Res Out
  | [], ρ, g => .ok (.nx ρ) g
  | d :: ds, ρ, g => match bindT tg d ρ with
    | none => .bad
    | some ρ1 => (body ρ1 g).bind fun o g1 => match o with
      | .nx ρ2 => forL tg body ds ρ2 g1
      | .ct ρ2 => forL tg body ds ρ2 g1
      | .bk ρ2 => .ok (.nx ρ2) g1
      | .rt d => .ok (.rt d) g1
def whileL (test : Env → G → Res D) (body : Env → G → Res Out) : Nat → Env → G → Res Out
  | 0, _, _ => .bad
  | n + 1, ρ, g => (test ρ g).bind fun t g1 => match truth t with
    | none => .bad
    | some false => .ok (.nx ρ) g1
    | some true => (body ρ g1).bind fun o g2 => match o with
      | .nx ρ2 => whileL test body n ρ2 g2
      | .ct ρ2 => whileL test body n ρ2 g2
      | .bk ρ2 => .ok (.nx ρ2) g2
      | .rt d => .ok (.rt d) g2

def evalC (P : Ctx) : C → Env → G → Res Out
  | .nil, ρ, g => .ok (.nx ρ) g
  | .seq a r, ρ, g => (evalC P a ρ g).bind fun o g1 => match o with
    | .nx ρ1 => evalC P r ρ1 g1
    | o => .ok o g1
  | .asg t e, ρ, g => (evalE P e ρ g).bind fun d g1 => ofO ((bindT t d ρ).map .nx) g1
  | .own i e, ρ, g => (evalE P e ρ g).bind fun d g1 => match d with
    | .lst xs => if i < ρ.length then .ok (.nx (ρ.set i (.own (.lst xs)))) g1 else .bad
    | .dct t ks vs => if i < ρ.length then .ok (.nx (ρ.set i (.own (.dct t ks vs)))) g1 else .bad
    | _ => .bad
  | .app i e, ρ, g => (evalE P e ρ g).bind fun d g1 => match ρ[i]? with
    | some (.own (.lst xs)) => if decide (xs.length < 16777216) then .ok (.nx (ρ.set i (.own (.lst (xs ++ [d]))))) g1 else .bad
    | _ => .bad
  | .ext i e, ρ, g => (evalE P e ρ g).bind fun d g1 => match ρ[i]?, d with
    | some (.own (.lst xs)), .lst ys => if decide (xs.length + ys.length ≤ 16777216) then .ok (.nx (ρ.set i (.own (.lst (xs ++ ys))))) g1 else .bad
    | _, _ => .bad
  | .put i k v, ρ, g => (evalE P v ρ g).bind fun d g1 => (evalE P k ρ g1).bind fun kd g2 => match ρ[i]? with
    | some (.own (.dct t ks vs)) => if keyOk t kd && decide (ks.length < 16777216) then .ok (.nx (ρ.set i (.own (.dct t (dput kd d ks vs).1 (dput kd d ks vs).2)))) g2 else .bad
    | _ => .bad
  | .setL i k v, ρ, g => (evalE P v ρ g).bind fun d g1 => (evalE P k ρ g1).bind fun kd g2 => match ρ[i]?, kd with
    | some (.own (.lst xs)), .int j => match seqIx j xs.length with
      | some n => .ok (.nx (ρ.set i (.own (.lst (xs.set n d))))) g2
      | none => .bad
    | _, _ => .bad
  | .frz is, ρ, g => .ok (.nx (frzE is ρ)) g
  | .drop is, ρ, g => .ok (.nx (wipeE is ρ)) g
  | .ex e, ρ, g => (evalE P e ρ g).bind fun _ g1 => .ok (.nx ρ) g1
  | .aug i o e, ρ, g => match ρ[i]? with
    | some (.val x) => (evalE P e ρ g).bind fun y g1 => match binD o x y with
      | some (.int z) => .ok (.nx (ρ.set i (.val (.int z)))) g1
      | _ => .bad
    | _ => .bad
  | .if_ t a b, ρ, g => (brw t ρ g (evalE P t ρ g)).bind fun x g1 => match truth x with
    | none => .bad
    | some true => evalC P a ρ g1
    | some false => evalC P b ρ g1
  | .for_ t it body, ρ, g => (evalE P it ρ g).bind fun x g1 => match itemsE it x with
    | none => .bad
    | some ds => forL t (fun ρ g => evalC P body ρ g) ds ρ g1
  | .while_ t body, ρ, g => whileL (fun ρ g => brw t ρ g (evalE P t ρ g)) (fun ρ g => evalC P body ρ g) 1099511627776 ρ g
  | .ret e, ρ, g => (evalE P e ρ g).bind fun d g1 => .ok (.rt d) g1
  | .retN, _, g => .ok (.rt .non) g
  | .pass, ρ, g => .ok (.nx ρ) g
  | .brk, ρ, g => .ok (.bk ρ) g
  | .cont, ρ, g => .ok (.ct ρ) g
  | .rais cls as, ρ, g => (evalE P as ρ g).bind fun y g1 => match y with
    | .lst xs => .exc cls xs g1
    | _ => .bad
  | .tryx _ _ _ _, _, _ => .bad

structure FDef where
  np : Nat
  n : Nat
  body : C
structure Prog where
  defs : String → Option FDef
  prim : String → Option (Nat × (List D → G → Res D))
  dfl : String → Nat → List D
  const : String → Option D
def startE (n : Nat) (ds : List D) : Env := ds.map .val ++ List.replicate (n - ds.length) .no
def fin : Res Out → Res D
  | .ok (.rt d) g => .ok d g
  | .ok (.nx _) g => .ok .non g
  | .ok _ _ => .bad
  | .exc c fs g => .exc c fs g
  | .bad => .bad
def run (P : Prog) : Nat → String → List D → G → Res D
  | 0, _, _, _ => .bad
  | k + 1, f, ds, g => match P.prim f with
    | some (l, F) => if l ≤ k + 1 then F ds g else .bad
    | none => match P.defs f with
      | some fd => if ds.length = fd.np then fin (evalC ⟨run P k, P.dfl, P.const⟩ fd.body (startE fd.n ds) g) else .bad
      | none => .bad
end MW

end
section
set_option autoImplicit false
namespace MW
/-! ### the drawing pool of the laws -/
def lawMixed (number place : Int) : Int :=
  let first := (number * 410338673998125441398711 + place * 736418259301774563982039 + 295075153872261839517363) % 618970019642690137449562111
  let second := (first * first + 7 * first + place) % 162259276829213363391578010288127
  let third := (second * second + first) % 618970019642690137449562111
  second * 618970019642690137449562111 + third
def lawCell (scr : List Int) (place : Int) : Int := scr.getD (place % (scr.length : Int)).toNat 0
def lawRest (scr : List Int) (place fills : Int) : Int :=
  let number := if 0 < scr.length then lawCell scr place else 0
  let number := if number < 0 then 1 - 2 * number else number
  if fills = 0 ∧ place < scr.length ∧ 1000000000000000000 ≤ number then number - 1000000000000000000
  else lawMixed (number + fills * 1000003) place
def poolNew (scr : List Int) : G := (0, lawRest scr 0 0, 0)
def poolNext (scr : List Int) (g : G) : G := (g.1 + 1, lawRest scr (g.1 + 1) 0, 0)
def poolFill (scr : List Int) (g : G) : G := if g.2.1 ≤ 1 then (g.1, lawRest scr g.1 (g.2.2 + 1), g.2.2 + 1) else g
def poolDraw (scr : List Int) (g : G) (lim : Int) : Int × G :=
  ((poolFill scr g).2.1 % lim, ((poolFill scr g).1, (poolFill scr g).2.1 / lim, (poolFill scr g).2.2))
/-- how long a number is -/
def btN (z : Int) : Nat := if z == 0 then 0 else z.natAbs.log2 + 1
def okScr (scr : List Int) : Bool := scr.all fun z => decide (btN z ≤ 1048576)
def okG (g : G) : Bool := decide (0 ≤ g.1) && decide (g.1 < 1099511627776) && decide (0 ≤ g.2.2) && decide (g.2.2 < 1099511627776)
def primNext (scr : List Int) : List D → G → Res D
  | [.pool], g => if okScr scr && okG g then .ok .non (poolNext scr g) else .bad
  | _, _ => .bad
def primDraw (scr : List Int) : List D → G → Res D
  | [.pool, .int lim], g => if okScr scr && okG g && decide (0 < lim) && decide (lim < 1073741824) then .ok (.int (poolDraw scr g lim).1) (poolDraw scr g lim).2 else .bad
  | _, _ => .bad
def prims (scr : List Int) : String → Option (Nat × (List D → G → Res D)) := fun f =>
  if f = "_law_next" then some (3, primNext scr) else
  if f = "_law_draw" then some (3, primDraw scr) else none
abbrev prog (defs : String → Option FDef) (dfl : String → Nat → List D) (const : String → Option D) (scr : List Int) : Prog := ⟨defs, prims scr, dfl, const⟩
/-- the law behind its first row, pool made -/
def runLaw (P : Prog) (k : Nat) (scr : List Int) (fd : FDef) : Res D :=
  fin (evalC ⟨run P k, P.dfl, P.const⟩ fd.body ((startE fd.n []).set 1 (.val .pool)) (poolNew scr))
end MW

end
section
set_option Elab.async false
set_option linter.all false
set_option maxRecDepth 100000
set_option maxHeartbeats 4000000
namespace MW
/-! ### how terms run, rule by rule -/
section
variable {P : Ctx} {ρ ρ1 : Env} {g g1 g2 g3 : G} {a b c : E} {x y z d : D} {i : Nat}
theorem ev_v (h : ρ[i]? = some (.val d)) : evalE P (.v i) ρ g = .ok d g := by simp only [evalE, h]
theorem ev_k : evalE P (.k d) ρ g = .ok d g := by simp only [evalE]
theorem ev_gv {n : String} (h : P.const n = some d) : evalE P (.gv n) ρ g = .ok d g := by simp only [evalE, h, ofO]
theorem ev_brw (h : evalE P a ρ g = .ok x g1) : brw a ρ g (evalE P a ρ g) = .ok x g1 := by
  cases a with
  | v i =>
    simp only [brw]
    split
    · rename_i e
      simp only [evalE, e] at h
      cases h
    · exact h
  | _ => exact h
theorem ev_brwI (h : evalE P a ρ g = .ok x g1) : brwI a ρ g (evalE P a ρ g) = .ok x g1 := by
  unfold brwI
  split
  · split
    · rename_i e
      simp only [evalE, e] at h
      cases h
    · exact h
  · split
    · rename_i e
      simp only [evalE, e] at h
      cases h
    · exact h
  · exact h
theorem ev_bin {o : Op} (ha : evalE P a ρ g = .ok x g1) (hb : evalE P b ρ g1 = .ok y g2) (h : binD o x y = some z) : evalE P (.bin o a b) ρ g = .ok z g2 := by
  simp only [evalE, ev_brw ha, Res.bind, ev_brw hb, h, ofO]
theorem ev_neg {n : Int} (ha : evalE P a ρ g = .ok (.int n) g1) : evalE P (.neg a) ρ g = .ok (.int (-n)) g1 := by
  simp only [evalE, ha, Res.bind]
theorem ev_cmp {o : Cp} {v : Bool} (ha : evalE P a ρ g = .ok x g1) (hb : evalE P b ρ g1 = .ok y g2) (h : cmpD o x y = some v) : evalE P (.cmp o a b) ρ g = .ok (.bl v) g2 := by
  simp only [evalE, ev_brw ha, Res.bind, ev_brw hb, h, ofO, Option.map]
theorem ev_not {v : Bool} (ha : evalE P a ρ g = .ok x g1) (h : truth x = some v) : evalE P (.not a) ρ g = .ok (.bl (!v)) g1 := by
  simp only [evalE, ev_brw ha, Res.bind, h, ofO, Option.map]
/-- and, or of bools that leave the pool as it is -/
theorem ev_and {v w : Bool} (ha : evalE P a ρ g = .ok (.bl v) g1) (hb : evalE P b ρ g1 = .ok (.bl w) g1) : evalE P (.and a b) ρ g = .ok (.bl (v && w)) g1 := by
  simp only [evalE, ha, Res.bind, truth]
  cases v
  · rfl
  · exact hb
theorem ev_or {v w : Bool} (ha : evalE P a ρ g = .ok (.bl v) g1) (hb : evalE P b ρ g1 = .ok (.bl w) g1) : evalE P (.or a b) ρ g = .ok (.bl (v || w)) g1 := by
  simp only [evalE, ha, Res.bind, truth]
  cases v
  · exact hb
  · rfl
theorem ev_anil : evalE P .anil ρ g = .ok (.lst []) g := by simp only [evalE]
theorem ev_acons {xs : List D} (ha : evalE P a ρ g = .ok x g1) (hb : evalE P b ρ g1 = .ok (.lst xs) g2) : evalE P (.acons a b) ρ g = .ok (.lst (x :: xs)) g2 := by
  simp only [evalE, ha, Res.bind, hb]
theorem ev_tup {xs : List D} (ha : evalE P a ρ g = .ok (.lst xs) g1) (h : decide (xs.length ≤ 16777216) = true) : evalE P (.tup a) ρ g = .ok (.tup xs) g1 := by
  simp only [evalE, ha, Res.bind, h, if_true]
theorem ev_lst {xs : List D} (ha : evalE P a ρ g = .ok (.lst xs) g1) (h : decide (xs.length ≤ 16777216) = true) : evalE P (.lst a) ρ g = .ok (.lst xs) g1 := by
  simp only [evalE, ha, Res.bind, h, if_true]
theorem ev_idx (ha : evalE P a ρ g = .ok x g1) (hb : evalE P b ρ g1 = .ok y g2) (h : idxD x y = some z) : evalE P (.idx a b) ρ g = .ok z g2 := by
  simp only [evalE, ev_brw ha, Res.bind, hb, h, ofO]
theorem ev_call {f : String} {j : Nat} {xs : List D} (ha : evalE P a ρ g = .ok (.lst xs) g1) (h : P.call f (xs ++ P.dfl f j) g1 = .ok z g2) : evalE P (.call f a j) ρ g = .ok z g2 := by
  simp only [evalE, ha, Res.bind, h]
theorem ev_b1 {f : B1} (ha : evalE P a ρ g = .ok x g1) (h : b1D f x = some z) : evalE P (.b1 f a) ρ g = .ok z g1 := by
  simp only [evalE, ev_brw ha, Res.bind, h, ofO]
theorem ev_isi {t : Ty} {v : Bool} (ha : evalE P a ρ g = .ok x g1) (h : isiD x t = some v) : evalE P (.isi a t) ρ g = .ok (.bl v) g1 := by
  simp only [evalE, ev_brw ha, Res.bind, h, ofO, Option.map]
theorem ev_sitems {ks vs es : List D} (ha : evalE P a ρ g = .ok (.dct false ks vs) g1) (h : sortO (zipL ks vs) = some es) : evalE P (.sitems a) ρ g = .ok (.lst es) g1 := by
  simp only [evalE, ha, Res.bind, h, ofO, Option.map]
theorem ev_rng1 {n : Int} (ha : evalE P a ρ g = .ok (.int n) g1) (h1 : -4611686018427387904 ≤ n) (h2 : n.toNat ≤ 16777216) : evalE P (.rng1 a) ρ g = .ok (.lst (rngL 0 n.toNat)) g1 := by
  simp only [evalE, ha, Res.bind]
  rw [if_pos]
  simp [h1, h2]
theorem ev_rng2 {n m : Int} (ha : evalE P a ρ g = .ok (.int n) g1) (hb : evalE P b ρ g1 = .ok (.int m) g2) (h1 : -4611686018427387904 ≤ n ∧ n < 4611686018427387904) (h2 : -4611686018427387904 ≤ m ∧ m < 4611686018427387904) (h3 : (m - n).toNat ≤ 16777216) : evalE P (.rng2 a b) ρ g = .ok (.lst (rngL n (m - n).toNat)) g2 := by
  simp only [evalE, ha, hb, Res.bind]
  rw [if_pos]
  simp [h1.1, h1.2, h2.1, h2.2, h3]
/-- a comprehension whose test and item leave the pool as it is -/
theorem lcL_ok {tg : T} {test elt : Env → G → Res D} {p : D → Bool} {f : D → D} : ∀ {ds : List D}, (∀ d ∈ ds, ∃ ρ1, bindT tg d ρ = some ρ1 ∧ test ρ1 g = .ok (.bl (p d)) g ∧ (p d = true → elt ρ1 g = .ok (f d) g)) → lcL tg test elt ds ρ g = .ok ((ds.filter p).map f) g
  | [], _ => rfl
  | d :: ds, h => by
    obtain ⟨ρ1, h1, h2, h3⟩ := h d (List.mem_cons_self ..)
    have ih := lcL_ok (ds := ds) fun d hd => h d (List.mem_cons_of_mem _ hd)
    simp only [lcL, h1, h2, Res.bind, truth]
    cases q : p d with
    | false => simp [List.filter_cons, q, ih]
    | true => simp [List.filter_cons, q, ih, h3 q, Res.bind]
theorem ev_lc {elt it test : E} {tg : T} {own : List Nat} {ds : List D} {p : D → Bool} {f : D → D} (hi : evalE P it ρ g = .ok x g1) (hd : itemsE it x = some ds) (hz : ds.length ≤ 16777216)
    (h : ∀ d ∈ ds, ∃ ρ1, bindT tg d (wipeE own ρ) = some ρ1 ∧ evalE P test ρ1 g1 = .ok (.bl (p d)) g1 ∧ (p d = true → evalE P elt ρ1 g1 = .ok (f d) g1)) : evalE P (.lc elt tg it test own) ρ g = .ok (.lst ((ds.filter p).map f)) g1 := by
  simp only [evalE, ev_brwI hi, Res.bind, hd]
  rw [if_pos (decide_eq_true hz), lcL_ok h]
  rfl
/-! statements -/
variable {t : T} {e : E} {r : C} {c1 c2 : C} {o : Out}
theorem seq_nx (h : evalC P c1 ρ g = .ok (.nx ρ1) g1) : evalC P (.seq c1 r) ρ g = evalC P r ρ1 g1 := by simp only [evalC, h, Res.bind]
theorem seq_rt (h : evalC P c1 ρ g = .ok (.rt d) g1) : evalC P (.seq c1 r) ρ g = .ok (.rt d) g1 := by simp only [evalC, h, Res.bind]
theorem st_asg (h : evalE P e ρ g = .ok d g1) (hb : bindT t d ρ = some ρ1) : evalC P (.asg t e) ρ g = .ok (.nx ρ1) g1 := by simp only [evalC, h, Res.bind, hb, ofO, Option.map]
theorem st_ret (h : evalE P e ρ g = .ok d g1) : evalC P (.ret e) ρ g = .ok (.rt d) g1 := by simp only [evalC, h, Res.bind]
theorem st_if {v : Bool} (h : evalE P e ρ g = .ok x g1) (hx : truth x = some v) : evalC P (.if_ e c1 c2) ρ g = if v = true then evalC P c1 ρ g1 else evalC P c2 ρ g1 := by
  simp only [evalC, ev_brw h, Res.bind, hx]
  cases v <;> rfl
theorem st_drop {is : List Nat} : evalC P (.drop is) ρ g = .ok (.nx (wipeE is ρ)) g := by simp only [evalC]
theorem st_frz {is : List Nat} : evalC P (.frz is) ρ g = .ok (.nx (frzE is ρ)) g := by simp only [evalC]
theorem st_nil : evalC P .nil ρ g = .ok (.nx ρ) g := by simp only [evalC]
theorem st_ex (h : evalE P e ρ g = .ok d g1) : evalC P (.ex e) ρ g = .ok (.nx ρ) g1 := by simp only [evalC, h, Res.bind]
theorem st_ownL {xs : List D} (h : evalE P e ρ g = .ok (.lst xs) g1) (hi : i < ρ.length) : evalC P (.own i e) ρ g = .ok (.nx (ρ.set i (.own (.lst xs)))) g1 := by simp only [evalC, h, Res.bind, hi, if_true]
theorem st_ownD {tt : Bool} {ks vs : List D} (h : evalE P e ρ g = .ok (.dct tt ks vs) g1) (hi : i < ρ.length) : evalC P (.own i e) ρ g = .ok (.nx (ρ.set i (.own (.dct tt ks vs)))) g1 := by simp only [evalC, h, Res.bind, hi, if_true]
theorem st_app {xs : List D} (h : evalE P e ρ g = .ok d g1) (hi : ρ[i]? = some (.own (.lst xs))) (hz : xs.length < 16777216) : evalC P (.app i e) ρ g = .ok (.nx (ρ.set i (.own (.lst (xs ++ [d]))))) g1 := by
  simp only [evalC, h, Res.bind, hi]
  rw [if_pos (decide_eq_true hz)]
theorem st_put {k v : E} {tt : Bool} {ks vs : List D} {kd : D} (hv : evalE P v ρ g = .ok d g1) (hk : evalE P k ρ g1 = .ok kd g2) (hi : ρ[i]? = some (.own (.dct tt ks vs))) (ok : keyOk tt kd = true) (hz : ks.length < 16777216) :
    evalC P (.put i k v) ρ g = .ok (.nx (ρ.set i (.own (.dct tt (dput kd d ks vs).1 (dput kd d ks vs).2)))) g2 := by
  simp only [evalC, hv, Res.bind, hk, hi]
  rw [if_pos]
  simp [ok, hz]
theorem st_for {it : E} {body : C} {ds : List D} (hi : evalE P it ρ g = .ok x g1) (hd : itemsE it x = some ds) : evalC P (.for_ t it body) ρ g = forL t (fun ρ g => evalC P body ρ g) ds ρ g1 := by
  simp only [evalC, hi, Res.bind, hd]
/-- a for by an invariant -/
theorem for_inv {body : Env → G → Res Out} (I : Nat → Env → G → Prop) : ∀ {ds : List D} (k : Nat) {ρ : Env} {g : G}, I k ρ g → (∀ j d ρ g, ds[j]? = some d → I (k + j) ρ g → ∃ ρ1, bindT t d ρ = some ρ1 ∧ ∃ ρ2 g2, (body ρ1 g = .ok (.nx ρ2) g2 ∨ body ρ1 g = .ok (.ct ρ2) g2) ∧ I (k + j + 1) ρ2 g2) →
    ∃ ρ' g', forL t body ds ρ g = .ok (.nx ρ') g' ∧ I (k + ds.length) ρ' g'
  | [], k, ρ, g, h, _ => ⟨ρ, g, rfl, h⟩
  | d :: ds, k, ρ, g, h, st => by
    obtain ⟨ρ1, h1, ρ2, g2, h2, h3⟩ := st 0 d ρ g rfl h
    obtain ⟨ρ', g', h4, h5⟩ := for_inv I (ds := ds) (k + 1) (ρ := ρ2) (g := g2) h3 fun j d ρ g hd hI => by
      have := st (j + 1) d ρ g (by simpa using hd) (by rw [show k + (j + 1) = k + 1 + j by omega]; exact hI)
      rw [show k + (j + 1) + 1 = k + 1 + j + 1 by omega] at this
      exact this
    refine ⟨ρ', g', ?_, by rw [List.length_cons, show k + (ds.length + 1) = k + 1 + ds.length by omega]; exact h5⟩
    simp only [forL, h1]
    rcases h2 with h2 | h2 <;> simp only [h2, Res.bind, h4]
end
end MW
namespace MW
section
variable {P : Ctx} {ρ ρ1 : Env} {g g1 g2 g3 : G} {a b c : E} {x y z d : D} {i : Nat}
theorem lcL_okM {α : Type} {tg : T} {test elt : Env → G → Res D} {enc : α → D} {p : α → Bool} {f : α → D} : ∀ {xs : List α}, (∀ x ∈ xs, ∃ ρ1, bindT tg (enc x) ρ = some ρ1 ∧ test ρ1 g = .ok (.bl (p x)) g ∧ (p x = true → elt ρ1 g = .ok (f x) g)) → lcL tg test elt (xs.map enc) ρ g = .ok ((xs.filter p).map f) g
  | [], _ => rfl
  | d :: ds, h => by
    obtain ⟨ρ1, h1, h2, h3⟩ := h d (List.mem_cons_self ..)
    have ih := lcL_okM (xs := ds) fun d hd => h d (List.mem_cons_of_mem _ hd)
    simp only [List.map_cons, lcL, h1, h2, Res.bind, truth]
    cases q : p d with
    | false => simp [List.filter_cons, q, ih]
    | true => simp [List.filter_cons, q, ih, h3 q, Res.bind]
theorem ev_lcM {α : Type} {enc : α → D} {xs : List α} {elt it test : E} {tg : T} {own : List Nat} {p : α → Bool} {f : α → D} (hi : evalE P it ρ g = .ok x g1) (hd : itemsE it x = some (xs.map enc)) (hz : xs.length ≤ 16777216)
    (h : ∀ x ∈ xs, ∃ ρ1, bindT tg (enc x) (wipeE own ρ) = some ρ1 ∧ evalE P test ρ1 g1 = .ok (.bl (p x)) g1 ∧ (p x = true → evalE P elt ρ1 g1 = .ok (f x) g1)) : evalE P (.lc elt tg it test own) ρ g = .ok (.lst ((xs.filter p).map f)) g1 := by
  simp only [evalE, ev_brwI hi, Res.bind, hd]
  rw [if_pos (decide_eq_true (by simpa using hz)), lcL_okM h]
  rfl
theorem filter_yes {α : Type} (xs : List α) : xs.filter (fun _ => true) = xs := by simp
variable {e : E} {r c1 c2 : C}
theorem seq_ift (h : evalE P e ρ g = .ok x g1) (hx : truth x = some true) (hc : evalC P c1 ρ g1 = .ok (.rt d) g2) : evalC P (.seq (.if_ e c1 c2) r) ρ g = .ok (.rt d) g2 := by
  refine seq_rt ?_
  rw [st_if h hx, if_pos rfl, hc]
theorem seq_ifn (h : evalE P e ρ g = .ok x g1) (hx : truth x = some false) (hc : evalC P c2 ρ g1 = .ok (.nx ρ1) g2) : evalC P (.seq (.if_ e c1 c2) r) ρ g = evalC P r ρ1 g2 := by
  refine seq_nx ?_
  rw [st_if h hx, if_neg (by decide), hc]
theorem seq_ify (h : evalE P e ρ g = .ok x g1) (hx : truth x = some true) (hc : evalC P c1 ρ g1 = .ok (.nx ρ1) g2) : evalC P (.seq (.if_ e c1 c2) r) ρ g = evalC P r ρ1 g2 := by
  refine seq_nx ?_
  rw [st_if h hx, if_pos rfl, hc]
/-! sorting -/
theorem sort_str (ns : List S) : ∃ sn : List S, sortO (ns.map .str) = some (sn.map .str) ∧ sn.Perm ns := by
  have ok : ((ns.map D.str).all okD && allAlike (ns.map D.str) && sortable (ns.map D.str)) = true := by
    simp only [allAlike, sortable, Bool.and_eq_true, Bool.or_eq_true, List.all_eq_true, List.mem_map]
    refine ⟨⟨?_, ?_⟩, .inr ?_⟩
    · rintro _ ⟨a, _, rfl⟩; rfl
    · rintro _ ⟨a, _, rfl⟩ _ ⟨b, _, rfl⟩; rfl
    · rintro _ ⟨a, _, rfl⟩; rfl
  have pm := List.mergeSort_perm (ns.map D.str) fun a b => !ltD b a
  have all : ∀ d ∈ (ns.map D.str).mergeSort fun a b => !ltD b a, ∃ s, d = .str s := fun d hd => by
    obtain ⟨s, _, rfl⟩ := List.mem_map.mp (pm.mem_iff.mp hd)
    exact ⟨s, rfl⟩
  let un : D → S := fun d => match d with | .str s => s | _ => []
  refine ⟨((ns.map D.str).mergeSort fun a b => !ltD b a).map un, ?_, ?_⟩
  · unfold sortO
    rw [if_pos ok, List.map_map]
    congr 1
    refine (List.map_id' _).symm.trans (List.map_congr_left fun d hd => ?_)
    obtain ⟨s, rfl⟩ := all d hd
    rfl
  · have := pm.map un
    rw [List.map_map] at this
    exact this.trans (by rw [show (un ∘ D.str) = id from rfl, List.map_id])
theorem any_bl (bs : List Bool) : b1D .any (.lst (bs.map .bl)) = some (.bl (bs.any id)) := by
  have : boolsD (bs.map .bl) = some bs := by
    induction bs with
    | nil => rfl
    | cons b bs ih => simp only [List.map_cons, boolsD, ih, Option.map]
  simp only [b1D, this, Option.map]
end
end MW
namespace MW
section
variable {P : Ctx} {ρ ρ1 : Env} {g g1 g2 g3 : G} {a b c : E} {x y z d : D} {i : Nat}
theorem any_fresh {n : S} : ∀ {ys : List S}, n ∉ ys → (ys.map D.str).any (fun a => sameD a (.str n)) = false
  | [], _ => rfl
  | y :: ys, h => by
    simp only [List.mem_cons, not_or] at h
    simp only [List.map_cons, List.any_cons, sameD, any_fresh h.2, Bool.or_false, beq_eq_false_iff_ne]
    exact fun e => h.1 e.symm
theorem dput_fresh {n : S} {v : D} {ys : List S} {vs : List D} (h : n ∉ ys) : dput (.str n) v (ys.map .str) vs = ((ys ++ [n]).map .str, vs ++ [v]) := by
  unfold dput
  rw [any_fresh h]
  simp
theorem dcL_str {tg : T} {test key val : Env → G → Res D} {f : S → D} : ∀ {xs ys : List S} {vs : List D}, (ys ++ xs).Nodup → (∀ n ∈ xs, ∃ ρ1, bindT tg (.str n) ρ = some ρ1 ∧ test ρ1 g = .ok (.bl true) g ∧ key ρ1 g = .ok (.str n) g ∧ val ρ1 g = .ok (f n) g) →
    dcL tg test key val (xs.map .str) ρ g (ys.map .str, vs) = .ok ((ys ++ xs).map .str, vs ++ xs.map f) g
  | [], ys, vs, _, _ => by simp [dcL]
  | n :: xs, ys, vs, nd, h => by
    obtain ⟨ρ1, h1, h2, h3, h4⟩ := h n (List.mem_cons_self ..)
    have hn : n ∉ ys := fun hm => by
      rw [List.nodup_append] at nd
      exact nd.2.2 n hm n (List.mem_cons_self ..) rfl
    simp only [List.map_cons, dcL, h1, h2, h3, h4, Res.bind, truth, keyOk, Bool.not_false, if_true]
    rw [dput_fresh hn]
    have := dcL_str (tg := tg) (test := test) (key := key) (val := val) (f := f) (xs := xs) (ys := ys ++ [n]) (vs := vs ++ [f n]) (by simpa using nd) fun m hm => h m (List.mem_cons_of_mem _ hm)
    simpa using this
theorem ev_dcS {xs : List S} {key val it test : E} {tg : T} {own : List Nat} {f : S → D} (hi : evalE P it ρ g = .ok x g1) (hd : itemsE it x = some (xs.map .str)) (hz : xs.length ≤ 16777216) (nd : xs.Nodup)
    (h : ∀ n ∈ xs, ∃ ρ1, bindT tg (.str n) (wipeE own ρ) = some ρ1 ∧ evalE P test ρ1 g1 = .ok (.bl true) g1 ∧ evalE P key ρ1 g1 = .ok (.str n) g1 ∧ evalE P val ρ1 g1 = .ok (f n) g1) : evalE P (.dc key val tg it test own) ρ g = .ok (.dct false (xs.map .str) (xs.map f)) g1 := by
  simp only [evalE, ev_brwI hi, Res.bind, hd]
  rw [if_pos (decide_eq_true (by simpa using hz))]
  have := dcL_str (tg := tg) (test := fun ρ g => evalE P test ρ g) (key := fun ρ g => evalE P key ρ g) (val := fun ρ g => evalE P val ρ g) (f := f) (xs := xs) (ys := []) (vs := []) (ρ := wipeE own ρ) (g := g1) (by simpa using nd) h
  simp only [List.map_nil, List.nil_append] at this
  rw [this]
  rfl
end
end MW

end
section
set_option Elab.async false
set_option linter.all false
set_option maxRecDepth 100000
set_option maxHeartbeats 2000000
namespace MW
open PySem PySem.Spec PyProof.Rows L2

/-! ### data in the heap -/
def toStr (x : S) : Str := ⟨x.toArray⟩
def kD : Key → D
  | .inl i => .int i
  | .inr x => .str x.cps.toList
theorem toStr_of (x : Str) : toStr x.cps.toList = x := by cases x; simp [toStr]
theorem toStr_inj {x y : S} (h : toStr x = toStr y) : x = y := by
  have := congrArg (fun z : Str => z.cps.toList) h
  simpa [toStr] using this
theorem toStr_len (x : S) : (toStr x).length = x.length := by simp [toStr, Str.length]
theorem toStr_app (x y : S) : toStr (x ++ y) = toStr x ++ toStr y := by
  show (⟨(x ++ y).toArray⟩ : Str) = ⟨x.toArray ++ y.toArray⟩
  simp

/-- a tuple without a dict of its own -/
def PlainT (K : PySem.W.Frag) (F : Hp) (a : Addr) : Prop := (∃ o xs, F a = some (.frz o (.tup xs)) ∧ o.dict = none) ∨ ∃ o, K.lookup a = some o ∧ o.dict = none
section
variable (K : PySem.W.Frag) (ap : Addr) (F : Hp)
mutual
/-- what a value stands for, by the part of the heap that stands still -/
inductive Rep : D → V → Prop
  | non : Rep .non .non
  | bl (b : Bool) : Rep (.bl b) (.bl b)
  | int (i : Int) : Rep (.int i) (.int i)
  | str (x : S) : Rep (.str x) (.str (toStr x))
  | lst {a : Addr} {vs : List V} {ds : List D} : F a = some (.lst vs) → RepL ds vs → Rep (.lst ds) (.ref a)
  | tup {a : Addr} {vs : List V} {ds : List D} : F a = some (.tup vs) → RepL ds vs → Rep (.tup ds) (.ref a)
  | tup0 {a : Addr} : SqT K F a [] → Rep (.tup []) (.ref a)
  | ctup {a : Addr} {vs : List V} {ds : List D} {p : Bool} : SqT K F a vs → (p = true → PlainT K F a) → RepL ds vs → Rep (.ctup p ds) (.ref a)
  | dctK {a : Addr} {kvs : List (Key × V)} {ks vs : List D} : F a = some (.dK kvs) → ks = kvs.map (fun p => kD p.1) → RepL vs (kvs.map (·.2)) → Rep (.dct false ks vs) (.ref a)
  | dctT {a : Addr} {kvs : List (List Key × V)} {ks vs : List D} : F a = some (.dT kvs) → ks = kvs.map (fun p => .tup (p.1.map kD)) → RepL vs (kvs.map (·.2)) → Rep (.dct true ks vs) (.ref a)
  | pool : Rep .pool (.ref ap)
inductive RepL : List D → List V → Prop
  | nil : RepL [] []
  | cons {d : D} {v : V} {ds : List D} {vs : List V} : Rep d v → RepL ds vs → RepL (d :: ds) (v :: vs)
end
end

/-- a part that stands still grows -/
def Ex (H H' : Hp) : Prop := ∀ a o, H a = some o → H' a = some o
theorem Ex.refl (H : Hp) : Ex H H := fun _ _ h => h
theorem Ex.trans {H H1 H2 : Hp} (a : Ex H H1) (b : Ex H1 H2) : Ex H H2 := fun x o h => b x o (a x o h)
theorem Ex.new {H : Hp} {p : Addr} {o : HO} (h : H p = none) : Ex H (upd H p o) := fun a u e => by
  rw [upd_ne (ne_of_none e h)]; exact e
/-- all but the pool is kept -/
def ExP (ap : Addr) (H H' : Hp) : Prop := ∀ a o, a ≠ ap → H a = some o → H' a = some o
theorem ExP.refl (ap : Addr) (H : Hp) : ExP ap H H := fun _ _ _ h => h
theorem ExP.trans {ap : Addr} {H H1 H2 : Hp} (a : ExP ap H H1) (b : ExP ap H1 H2) : ExP ap H H2 := fun x o n h => b x o n (a x o n h)
theorem Ex.p {ap : Addr} {H H' : Hp} (e : Ex H H') : ExP ap H H' := fun a o _ h => e a o h
def IsDct (o : HO) : Prop := (∃ kvs, o = .dK kvs) ∨ ∃ kvs, o = .dT kvs
/-- the still part, in the heap; a dict may be locked -/
def ExF (F H : Hp) : Prop := ∀ a o, F a = some o → H a = some o ∨ (IsDct o ∧ ∃ od, H a = some (.frz od o))
theorem ExF.refl (F : Hp) : ExF F F := fun _ _ h => .inl h

section
variable {K : PySem.W.Frag} {ap : Addr} {F F' H : Hp}
mutual
theorem Rep.mono (e : Ex F F') : ∀ {d : D} {v : V}, Rep K ap F d v → Rep K ap F' d v
  | _, _, .non => .non
  | _, _, .bl b => .bl b
  | _, _, .int i => .int i
  | _, _, .str x => .str x
  | _, _, .lst h r => .lst (e _ _ h) (RepL.mono e r)
  | _, _, .tup h r => .tup (e _ _ h) (RepL.mono e r)
  | _, _, .tup0 h => .tup0 (by
      rcases h with (h | ⟨o, h⟩) | h
      · exact .inl (.inl (e _ _ h))
      · exact .inl (.inr ⟨o, e _ _ h⟩)
      · exact .inr h)
  | _, _, .ctup h hp r => .ctup (by
      rcases h with (h | ⟨o, h⟩) | h
      · exact .inl (.inl (e _ _ h))
      · exact .inl (.inr ⟨o, e _ _ h⟩)
      · exact .inr h) (fun z => by
      rcases hp z with ⟨o, xs, h1, h2⟩ | h
      · exact .inl ⟨o, xs, e _ _ h1, h2⟩
      · exact .inr h) (RepL.mono e r)
  | _, _, .dctK h k r => .dctK (e _ _ h) k (RepL.mono e r)
  | _, _, .dctT h k r => .dctT (e _ _ h) k (RepL.mono e r)
  | _, _, .pool => .pool
theorem RepL.mono (e : Ex F F') : ∀ {ds : List D} {vs : List V}, RepL K ap F ds vs → RepL K ap F' ds vs
  | _, _, .nil => .nil
  | _, _, .cons h t => .cons (Rep.mono e h) (RepL.mono e t)
end
theorem RepL.len : ∀ {ds : List D} {vs : List V}, RepL K ap F ds vs → ds.length = vs.length
  | _, _, .nil => rfl
  | _, _, .cons _ t => by simp [RepL.len t]
theorem RepL.app : ∀ {ds es : List D} {vs ws : List V}, RepL K ap F ds vs → RepL K ap F es ws → RepL K ap F (ds ++ es) (vs ++ ws)
  | _, _, _, _, .nil, r => r
  | _, _, _, _, .cons h t, r => .cons h (RepL.app t r)
theorem RepL.one {d : D} {v : V} (h : Rep K ap F d v) : RepL K ap F [d] [v] := .cons h .nil
theorem RepL.at : ∀ {ds : List D} {vs : List V} {i : Nat} {v : V}, RepL K ap F ds vs → vs[i]? = some v → ∃ d, ds[i]? = some d ∧ Rep K ap F d v
  | _, _, _, _, .nil, e => by simp at e
  | _, _, 0, _, .cons h _, e => by simp at e; subst e; exact ⟨_, rfl, h⟩
  | _, _, i + 1, v, .cons _ t, e => by
    obtain ⟨d, h1, h2⟩ := RepL.at (i := i) (v := v) t (by simpa using e)
    exact ⟨d, by simpa using h1, h2⟩
theorem RepL.at' : ∀ {ds : List D} {vs : List V} {i : Nat} {d : D}, RepL K ap F ds vs → ds[i]? = some d → ∃ v, vs[i]? = some v ∧ Rep K ap F d v
  | _, _, _, _, .nil, e => by simp at e
  | _, _, 0, _, .cons h _, e => by simp at e; subst e; exact ⟨_, rfl, h⟩
  | _, _, i + 1, v, .cons _ t, e => by
    obtain ⟨d, h1, h2⟩ := RepL.at' (i := i) (d := v) t (by simpa using e)
    exact ⟨d, by simpa using h1, h2⟩
theorem RepL.take (n : Nat) : ∀ {ds : List D} {vs : List V}, RepL K ap F ds vs → RepL K ap F (ds.take n) (vs.take n) := by
  induction n with
  | zero => intro ds vs _; simp; exact .nil
  | succ n ih =>
    intro ds vs h
    cases h with
    | nil => simp; exact .nil
    | cons a t => simp; exact .cons a (ih t)
theorem RepL.drop (n : Nat) : ∀ {ds : List D} {vs : List V}, RepL K ap F ds vs → RepL K ap F (ds.drop n) (vs.drop n) := by
  induction n with
  | zero => intro ds vs h; simpa using h
  | succ n ih =>
    intro ds vs h
    cases h with
    | nil => simp; exact .nil
    | cons a t => simp; exact ih t
theorem RepL.set (i : Nat) {d : D} {v : V} (h : Rep K ap F d v) : ∀ {ds : List D} {vs : List V}, RepL K ap F ds vs → RepL K ap F (ds.set i d) (vs.set i v) := by
  induction i with
  | zero =>
    intro ds vs r
    cases r with
    | nil => exact .nil
    | cons a t => exact .cons h t
  | succ n ih =>
    intro ds vs r
    cases r with
    | nil => exact .nil
    | cons a t => exact .cons a (ih t)
theorem RepL.rep {ds : List D} {vs : List V} (h : RepL K ap F ds vs) : ∀ k : Nat, RepL K ap F (List.replicate k ds).flatten (List.replicate k vs).flatten
  | 0 => by simp; exact .nil
  | k + 1 => by simp [List.replicate_succ]; exact h.app (RepL.rep h k)
theorem ExF.lst (e : ExF F H) {a : Addr} {xs : List V} (h : F a = some (.lst xs)) : H a = some (.lst xs) := by
  rcases e a _ h with h | ⟨h, _⟩
  · exact h
  · rcases h with ⟨k, h⟩ | ⟨k, h⟩ <;> cases h
theorem ExF.tup (e : ExF F H) {a : Addr} {xs : List V} (h : F a = some (.tup xs)) : H a = some (.tup xs) := by
  rcases e a _ h with h | ⟨h, _⟩
  · exact h
  · rcases h with ⟨k, h⟩ | ⟨k, h⟩ <;> cases h
theorem ExF.sqT (e : ExF F H) {a : Addr} {xs : List V} (h : SqT K F a xs) : SqT K H a xs := by
  rcases h with (h | ⟨o, h⟩) | h
  · exact .inl (.inl (e.tup h))
  · rcases e a _ h with h | ⟨h, _⟩
    · exact .inl (.inr ⟨o, h⟩)
    · rcases h with ⟨k, h⟩ | ⟨k, h⟩ <;> cases h
  · exact .inr h
theorem ExF.sqL (e : ExF F H) {a : Addr} {xs : List V} (h : SqL K F a xs) : SqL K H a xs := by
  rcases h with (h | ⟨o, h⟩) | h
  · exact .inl (.inl (e.lst h))
  · rcases e a _ h with h | ⟨h, _⟩
    · exact .inl (.inr ⟨o, h⟩)
    · rcases h with ⟨k, h⟩ | ⟨k, h⟩ <;> cases h
  · exact .inr h
theorem ExF.dK (e : ExF F H) {a : Addr} {kvs : List (Key × V)} (h : F a = some (.dK kvs)) : Rd H a (.dK kvs) := by
  rcases e a _ h with h | ⟨_, od, h⟩
  · exact .inl h
  · exact .inr ⟨od, h⟩
theorem ExF.dT (e : ExF F H) {a : Addr} {kvs : List (List Key × V)} (h : F a = some (.dT kvs)) : Rd H a (.dT kvs) := by
  rcases e a _ h with h | ⟨_, od, h⟩
  · exact .inl h
  · exact .inr ⟨od, h⟩
theorem ExF.grow {H' : Hp} (e : ExF F H) (k : Ex H H') : ExF F H' := fun a o h => by
  rcases e a o h with h | ⟨d, od, h⟩
  · exact .inl (k a _ h)
  · exact .inr ⟨d, od, k a _ h⟩
theorem ExF.growP {H' : Hp} (e : ExF F H) (hp : F ap = none) (k : ExP ap H H') : ExF F H' := fun a o h => by
  have ne : a ≠ ap := fun z => by rw [z, hp] at h; cases h
  rcases e a o h with h | ⟨d, od, h⟩
  · exact .inl (k a _ ne h)
  · exact .inr ⟨d, od, k a _ ne h⟩
theorem ExF.free (e : ExF F H) {p : Addr} (h : H p = none) : F p = none := by
  cases q : F p with
  | none => rfl
  | some o =>
    rcases e p o q with z | ⟨_, od, z⟩ <;> rw [z] at h <;> cases h
/-- a new object, still from now on -/
theorem ExF.new (e : ExF F H) {p : Addr} {o : HO} (h : H p = none) : ExF (upd F p o) (upd H p o) := fun a u q => by
  by_cases hz : a = p
  · subst hz; rw [upd_same] at q; cases q; exact .inl upd_same
  · rw [upd_ne hz] at q
    rcases e a u q with z | ⟨d, od, z⟩
    · exact .inl (by rw [upd_ne hz]; exact z)
    · exact .inr ⟨d, od, by rw [upd_ne hz]; exact z⟩
end

/-! ### the state -/
/-- what is fixed through a def's body: the written part, the pool's place, the script, the heap and its still part at the entry -/
structure Fx where
  K : PySem.W.Frag
  ap : Addr
  scr : List Int
  H0 : Hp
  F0 : Hp
def PoolOk (fx : Fx) (F H : Hp) (g : G) : Prop := F fx.ap = none ∧ ∃ a, SqL fx.K F a (fx.scr.map V.int) ∧ H fx.ap = some (.lst [.ref a, .int g.1, .int g.2.1, .int g.2.2])
/-- an object that is being built -/
def OwnOk (fx : Fx) (F H : Hp) (d : D) (p : Addr) : Prop := match d with
  | .lst ds => ∃ vs, H p = some (.lst vs) ∧ RepL fx.K fx.ap F ds vs
  | .dct false ks vs => ∃ kvs, H p = some (.dK kvs) ∧ ks = kvs.map (fun p => kD p.1) ∧ RepL fx.K fx.ap F vs (kvs.map (·.2))
  | .dct true ks vs => ∃ kvs : List (List Key × V), H p = some (.dT kvs) ∧ ks = kvs.map (fun p => .tup (p.1.map kD)) ∧ RepL fx.K fx.ap F vs (kvs.map (·.2))
  | _ => False
def SlotOk (fx : Fx) (F H : Hp) (s : Slot) (x : Option (Option V)) : Prop := match s with
  | .no => True
  | .val d => ∃ v, x = some (some v) ∧ Rep fx.K fx.ap F d v
  | .own d => ∃ p, x = some (some (.ref p)) ∧ F p = none ∧ p ≠ fx.ap ∧ fx.H0 p = none ∧ OwnOk fx F H d p
/-- the dicts that are walked now: their place, object, content -/
abbrev Lk := List (Addr × Obj × HO)
def LkOk (fx : Fx) (lk : Lk) (F H : Hp) : Prop := ∀ e ∈ lk, H e.1 = some (.frz e.2.1 e.2.2) ∧ F e.1 = some e.2.2 ∧ IsDct e.2.2 ∧ ∀ o, fx.H0 e.1 = some o → o = e.2.2
structure SR (fx : Fx) (lk : Lk) (σ : L2.St) (F H : Hp) (ρ : Env) (g : G) : Prop where
  exF : ExF F H
  ex0 : Ex fx.F0 F
  base : ∀ a o, a ≠ fx.ap → a ∉ lk.map (·.1) → fx.H0 a = some o → H a = some o
  lock : LkOk fx lk F H
  new : ∀ a o, F a = some o → fx.F0 a = some o ∨ fx.H0 a = none
  len : σ.length = ρ.length
  sl : ∀ (i : Nat) (s : Slot), ρ[i]? = some s → SlotOk fx F H s σ[i]?
  dis : ∀ (i j : Nat) (d e : D) (p : Addr), ρ[i]? = some (.own d) → ρ[j]? = some (.own e) → σ[i]? = some (some (.ref p)) → σ[j]? = some (some (.ref p)) → i = j
  pool : PoolOk fx F H g
  fz : ∀ a u od u', F a = some u → IsDct u → H a = some (.frz od u') → a ∈ lk.map (·.1) ∨ fx.H0 a = some (.frz od u')
theorem OwnOk.mono {fx : Fx} {F F' H H' : Hp} {d : D} {p : Addr} (e : Ex F F') (k : ∀ o, H p = some o → H' p = some o) (h : OwnOk fx F H d p) : OwnOk fx F' H' d p := by
  cases d with
  | lst ds => obtain ⟨vs, h1, h2⟩ := h; exact ⟨vs, k _ h1, h2.mono e⟩
  | dct t ks vs =>
    cases t with
    | false => obtain ⟨kvs, h1, h2, h3⟩ := h; exact ⟨kvs, k _ h1, h2, h3.mono e⟩
    | true => obtain ⟨kvs, h1, h2, h3⟩ := h; exact ⟨kvs, k _ h1, h2, h3.mono e⟩
  | _ => exact h
theorem OwnOk.there {fx : Fx} {F H : Hp} {d : D} {p : Addr} (h : OwnOk fx F H d p) : ∃ o, H p = some o := by
  cases d with
  | lst ds => obtain ⟨vs, h1, h2⟩ := h; exact ⟨_, h1⟩
  | dct t ks vs =>
    cases t with
    | false => obtain ⟨kvs, h1, h2, h3⟩ := h; exact ⟨_, h1⟩
    | true => obtain ⟨kvs, h1, h2, h3⟩ := h; exact ⟨_, h1⟩
  | _ => exact h.elim
/-- a value that may be an object that is being built -/
def BR (fx : Fx) (F H : Hp) (d : D) (v : V) : Prop := Rep fx.K fx.ap F d v ∨ ∃ p, v = .ref p ∧ p ≠ fx.ap ∧ OwnOk fx F H d p

/-- what is wanted of a result -/
def Acc {α : Type} (Kk : α → G → Prop) (Xk : S → List D → G → Prop) : Res α → Prop
  | .ok a g => Kk a g
  | .exc c fs g => Xk c fs g
  | .bad => False
theorem Acc.bind {α β : Type} {Kk : β → G → Prop} {Xk : S → List D → G → Prop} {r : Res α} {f : α → G → Res β} : Acc Kk Xk (r.bind f) ↔ Acc (fun a g => Acc Kk Xk (f a g)) Xk r := by
  cases r <;> exact Iff.rfl
theorem Acc.imp {α : Type} {Kk Kk' : α → G → Prop} {Xk Xk' : S → List D → G → Prop} {r : Res α} (h : Acc Kk Xk r) (hk : ∀ a g, Kk a g → Kk' a g) (hx : ∀ c fs g, Xk c fs g → Xk' c fs g) : Acc Kk' Xk' r := by
  cases r with
  | ok a g => exact hk _ _ h
  | exc c fs g => exact hx _ _ _ h
  | bad => exact h
theorem Acc.ofO {α : Type} {Kk : α → G → Prop} {Xk : S → List D → G → Prop} {o : Option α} {g : G} : Acc Kk Xk (MW.ofO o g) ↔ ∃ a, o = some a ∧ Kk a g := by
  cases o with
  | none => simp [MW.ofO, Acc]
  | some a => simp [MW.ofO, Acc]
/-- no exception is wished for -/
def noX : S → List D → G → Prop := fun _ _ _ => False
/-- a step of an expression: all is kept but the pool, what is new and still was free -/
structure GP (ap : Addr) (F H F' H' : Hp) : Prop where
  f : Ex F F'
  h : ExP ap H H'
  nw : ∀ a o, a ≠ ap → F' a = some o → F a = some o ∨ (H a = none ∧ H' a = some o)
theorem GP.refl {ap : Addr} {F H : Hp} : GP ap F H F H := ⟨Ex.refl _, ExP.refl _ _, fun _ _ _ h => .inl h⟩
theorem GP.trans {ap : Addr} {F H F1 H1 F2 H2 : Hp} (a : GP ap F H F1 H1) (b : GP ap F1 H1 F2 H2) : GP ap F H F2 H2 :=
  ⟨a.f.trans b.f, a.h.trans b.h, fun x o n h => by
    rcases b.nw x o n h with z | ⟨z, y⟩
    · rcases a.nw x o n z with z | ⟨z, y⟩
      · exact .inl z
      · exact .inr ⟨z, b.h x o n y⟩
    · right
      cases q : H x with
      | none => exact ⟨rfl, y⟩
      | some u => rw [a.h x u n q] at z; cases z⟩
end MW

end
section
set_option Elab.async false
set_option linter.all false
set_option maxRecDepth 100000
set_option maxHeartbeats 2000000
namespace MW
open PySem PySem.Spec PyProof.Rows L2

/-! ### data as the library's -/
mutual
def toPy : D → PyData
  | .non => .none
  | .bl b => .bool b
  | .int i => .int i
  | .str x => .str (toStr x)
  | .lst xs => .list (toPyL xs)
  | .tup xs => .tuple (toPyL xs)
  | .ctup _ xs => .tuple (toPyL xs)
  | .dct _ _ _ => .none
  | .pool => .none
  | .ins _ _ _ => .none
def toPyL : List D → List PyData
  | [] => []
  | x :: xs => toPy x :: toPyL xs
end
theorem toPyL_map : ∀ xs : List D, toPyL xs = xs.map toPy
  | [] => by simp [toPyL]
  | x :: xs => by simp [toPyL, toPyL_map xs]
mutual
theorem plain_py : ∀ d : D, (toPy d).plain = true
  | .non => by simp [toPy, PyData.plain]
  | .bl _ => by simp [toPy, PyData.plain]
  | .int _ => by simp [toPy, PyData.plain]
  | .str _ => by simp [toPy, PyData.plain]
  | .lst xs => by simp [toPy, PyData.plain, plain_pyL xs]
  | .tup xs => by simp [toPy, PyData.plain, plain_pyL xs]
  | .ctup _ xs => by simp [toPy, PyData.plain, plain_pyL xs]
  | .dct _ _ _ => by simp [toPy, PyData.plain]
  | .pool => by simp [toPy, PyData.plain]
  | .ins _ _ _ => by simp [toPy, PyData.plain]
theorem plain_pyL : ∀ ds : List D, PyData.plainAll (toPyL ds) = true
  | [] => by simp [toPyL, PyData.plainAll]
  | x :: xs => by simp [toPyL, PyData.plainAll, plain_py x, plain_pyL xs]
end
mutual
theorem dep_py : ∀ d : D, (toPy d).depth = depD d
  | .non => by simp [toPy, PyData.depth, depD]
  | .bl _ => by simp [toPy, PyData.depth, depD]
  | .int _ => by simp [toPy, PyData.depth, depD]
  | .str _ => by simp [toPy, PyData.depth, depD]
  | .lst xs => by simp [toPy, PyData.depth, depD, dep_pyL xs]; try omega
  | .tup xs => by simp [toPy, PyData.depth, depD, dep_pyL xs]; try omega
  | .ctup _ xs => by simp [toPy, PyData.depth, depD, dep_pyL xs]; try omega
  | .dct _ _ _ => by simp [toPy, PyData.depth, depD]
  | .pool => by simp [toPy, PyData.depth, depD]
  | .ins _ _ _ => by simp [toPy, PyData.depth, depD]
theorem dep_pyL : ∀ ds : List D, PyData.depthAll (toPyL ds) = depL ds
  | [] => by simp [toPyL, PyData.depthAll, depL]
  | x :: xs => by simp [toPyL, PyData.depthAll, depL, dep_py x, dep_pyL xs]
end
theorem toStr_beq (x y : S) : (toStr x == toStr y) = (x == y) := by
  by_cases h : x = y
  · subst h; simp
  · have : toStr x ≠ toStr y := fun e => h (toStr_inj e)
    rw [beq_eq_false_iff_ne.mpr this, beq_eq_false_iff_ne.mpr h]
mutual
theorem eq_py : ∀ d e : D, plainD d = true → plainD e = true → PyData.eqv (toPy d) (toPy e) = eqD d e
  | .non, e, _, h => by cases e <;> simp [toPy, PyData.eqv, eqD, plainD] at h ⊢
  | .bl a, e, _, h => by cases e <;> simp [toPy, PyData.eqv, eqD, plainD] at h ⊢
  | .int a, e, _, h => by cases e <;> simp [toPy, PyData.eqv, eqD, plainD] at h ⊢
  | .str x, e, _, h => by cases e <;> simp [toPy, PyData.eqv, eqD, plainD, toStr_beq] at h ⊢
  | .lst xs, e, h1, h => by
    cases e <;> (simp [plainD] at h1) <;> (try simp [plainD] at h) <;> simp [toPy, PyData.eqv, eqD]
    exact eq_pyL _ _ h1 h
  | .tup xs, e, h1, h => by
    cases e <;> (simp [plainD] at h1) <;> (try simp [plainD] at h) <;> (try simp [toPy, PyData.eqv, eqD]) <;> exact eq_pyL _ _ h1 h
  | .ctup _ xs, e, h1, h => by
    cases e <;> (simp [plainD] at h1) <;> (try simp [plainD] at h) <;> (try simp [toPy, PyData.eqv, eqD]) <;> exact eq_pyL _ _ h1 h
  | .dct _ _ _, _, h, _ => by simp [plainD] at h
  | .pool, _, h, _ => by simp [plainD] at h
  | .ins _ _ _, _, h, _ => by simp [plainD] at h
theorem eq_pyL : ∀ ds es : List D, plainL ds = true → plainL es = true → PyData.eqvAll (toPyL ds) (toPyL es) = eqL ds es
  | [], es, _, _ => by cases es <;> simp [toPyL, PyData.eqvAll, eqL]
  | x :: xs, es, h1, h2 => by
    cases es with
    | nil => simp [toPyL, PyData.eqvAll, eqL]
    | cons y ys =>
      simp [plainL] at h1 h2
      simp [toPyL, PyData.eqvAll, eqL, eq_py x y h1.1 h2.1, eq_pyL xs ys h1.2 h2.2]
end
mutual
theorem toks_py : ∀ d : D, PySem.W.keyToks (toPy d) = toks d
  | .non => by simp [toPy, PySem.W.keyToks, toks]
  | .bl b => by cases b <;> simp [toPy, PySem.W.keyToks, toks]
  | .int _ => by simp [toPy, PySem.W.keyToks, toks]
  | .str _ => by simp [toPy, PySem.W.keyToks, toks, toStr]
  | .lst xs => by simp [toPy, PySem.W.keyToks, toks, toks_pyL xs]
  | .tup xs => by simp [toPy, PySem.W.keyToks, toks, toks_pyL xs]
  | .ctup _ xs => by simp [toPy, PySem.W.keyToks, toks, toks_pyL xs]
  | .dct _ _ _ => by simp [toPy, PySem.W.keyToks, toks]
  | .pool => by simp [toPy, PySem.W.keyToks, toks]
  | .ins _ _ _ => by simp [toPy, PySem.W.keyToks, toks]
theorem toks_pyL : ∀ ds : List D, PySem.W.keyToksAll (toPyL ds) = toksL ds
  | [] => by simp [toPyL, PySem.W.keyToksAll, toksL]
  | x :: xs => by simp [toPyL, PySem.W.keyToksAll, toksL, toks_py x, toks_pyL xs]
end
theorem tokLt_eq (x y : Int ⊕ List Nat) : itemOrd.blt x y = tokLt x y := by
  cases x <;> cases y <;> rfl
theorem lexT_eq : ∀ xs ys : List (Int ⊕ List Nat), PyProof.Rows.lexLt itemOrd xs ys = lexT xs ys
  | [], [] => rfl
  | [], _ :: _ => rfl
  | _ :: _, [] => rfl
  | x :: xs, y :: ys => by
    rw [lex_cons, lexT, lexT_eq xs ys, tokLt_eq, tokLt_eq]
theorem lt_py (d e : D) : PySem.W.dataLt (toPy d) (toPy e) = ltD d e := by
  unfold PySem.W.dataLt ltD
  rw [lexT_eq, toks_py, toks_py]
mutual
theorem alike_py : ∀ d e : D, plainD d = true → plainD e = true → PySem.W.alike (toPy d) (toPy e) = alikeD d e
  | .non, e, _, h => by cases e <;> simp [toPy, PySem.W.alike, alikeD, plainD] at h ⊢
  | .bl a, e, _, h => by cases e <;> simp [toPy, PySem.W.alike, alikeD, plainD] at h ⊢
  | .int a, e, _, h => by cases e <;> simp [toPy, PySem.W.alike, alikeD, plainD] at h ⊢
  | .str x, e, _, h => by cases e <;> simp [toPy, PySem.W.alike, alikeD, plainD] at h ⊢
  | .lst xs, e, h1, h => by
    cases e <;> (simp [plainD] at h1) <;> (try simp [plainD] at h) <;> simp [toPy, PySem.W.alike, alikeD]
    exact alike_pyL _ _ h1 h
  | .tup xs, e, h1, h => by
    cases e <;> (simp [plainD] at h1) <;> (try simp [plainD] at h) <;> (try simp [toPy, PySem.W.alike, alikeD]) <;> exact alike_pyL _ _ h1 h
  | .ctup _ xs, e, h1, h => by
    cases e <;> (simp [plainD] at h1) <;> (try simp [plainD] at h) <;> (try simp [toPy, PySem.W.alike, alikeD]) <;> exact alike_pyL _ _ h1 h
  | .dct _ _ _, _, h, _ => by simp [plainD] at h
  | .pool, _, h, _ => by simp [plainD] at h
  | .ins _ _ _, _, h, _ => by simp [plainD] at h
theorem alike_pyL : ∀ ds es : List D, plainL ds = true → plainL es = true → PySem.W.alikeAll (toPyL ds) (toPyL es) = alikeL ds es
  | [], es, _, _ => by cases es <;> simp [toPyL, PySem.W.alikeAll, alikeL]
  | x :: xs, es, h1, h2 => by
    cases es with
    | nil => simp [toPyL, PySem.W.alikeAll, alikeL]
    | cons y ys =>
      simp [plainL] at h1 h2
      simp [toPyL, PySem.W.alikeAll, alikeL, alike_py x y h1.1 h2.1, alike_pyL xs ys h1.2 h2.2]
end
theorem okD_plain {d : D} (h : okD d = true) : plainD d = true := by
  unfold okD at h; rw [Bool.and_eq_true] at h; exact h.1
theorem okD_dep {d : D} (h : okD d = true) : depD d ≤ 60 := by
  unfold okD at h; rw [Bool.and_eq_true] at h; exact of_decide_eq_true h.2

section
variable {fx : Fx} {F H : Hp}
mutual
/-- a value stands for data of the library's kind -/
theorem Rep.dp (e : ExF F H) : ∀ {d : D} {v : V}, plainD d = true → Rep fx.K fx.ap F d v → Dp fx.K H v (toPy d)
  | _, _, _, .non => by simp only [toPy]; exact .non
  | _, _, _, .bl b => by simp only [toPy]; exact .bl b
  | _, _, _, .int i => by simp only [toPy]; exact .int i
  | _, _, _, .str x => by simp only [toPy]; exact .str _
  | _, _, p, .lst h r => by
    simp only [toPy]
    exact .lst (SqL.of (e.lst h)) (RepL.dp e (by simpa [plainD] using p) r)
  | _, _, p, .tup h r => by
    simp only [toPy]
    exact .tup (SqT.of (e.tup h)) (RepL.dp e (by simpa [plainD] using p) r)
  | _, _, _, .tup0 h => by simp only [toPy, toPyL]; exact .tup (e.sqT h) .nil
  | _, _, p, .ctup h _ r => by
    simp only [toPy]
    exact .tup (e.sqT h) (RepL.dp e (by simpa [plainD] using p) r)
  | _, _, p, .dctK _ _ _ => by simp [plainD] at p
  | _, _, p, .dctT _ _ _ => by simp [plainD] at p
  | _, _, p, .pool => by simp [plainD] at p
theorem RepL.dp (e : ExF F H) : ∀ {ds : List D} {vs : List V}, plainL ds = true → RepL fx.K fx.ap F ds vs → DpAll fx.K H vs (toPyL ds)
  | _, _, _, .nil => by simp only [toPyL]; exact .nil
  | _, _, p, .cons h t => by
    simp [plainL] at p
    simp only [toPyL]
    exact .cons (Rep.dp e p.1 h) (RepL.dp e p.2 t)
end
theorem BR.dp (e : ExF F H) {d : D} {v : V} (p : plainD d = true) (h : BR fx F H d v) : Dp fx.K H v (toPy d) := by
  rcases h with h | ⟨a, rfl, _, h⟩
  · exact h.dp e p
  · cases d with
    | lst ds =>
      obtain ⟨vs, h1, h2⟩ := h
      simp only [toPy]
      exact .lst (SqL.of h1) (h2.dp e (by simpa [plainD] using p))
    | dct t ks vs => simp [plainD] at p
    | _ => exact h.elim
end
end MW

end
section
set_option Elab.async false
set_option linter.all false
set_option maxRecDepth 100000
set_option maxHeartbeats 2000000
namespace MW
open PySem PySem.Spec PyProof.Rows L2

/-- a step that keeps all that stands, and stills new objects alone -/
structure Grow (F H F' H' : Hp) : Prop where
  f : Ex F F'
  h : Ex H H'
  ex : ExF F' H'
  nw : ∀ a o, F' a = some o → F a = some o ∨ (H a = none ∧ H' a = some o)
theorem Grow.refl {F H : Hp} (e : ExF F H) : Grow F H F H := ⟨Ex.refl _, Ex.refl _, e, fun _ _ h => .inl h⟩
theorem Grow.new {F H : Hp} (e : ExF F H) {p : Addr} (o : HO) (h : H p = none) : Grow F H (upd F p o) (upd H p o) :=
  ⟨Ex.new (e.free h), Ex.new h, e.new h, fun a u q => by
    by_cases z : a = p
    · subst z; exact .inr ⟨h, by rw [upd_same] at q ⊢; exact q⟩
    · rw [upd_ne z] at q; exact .inl q⟩
/-- a still dict of now is as locked as it was -/
theorem fz_of {F H F' H' : Hp} {a : Addr} {u : HO} (ex : ExF F H) (hp : ∀ o, H a = some o → H' a = some o) (nw : F a = some u ∨ (H a = none ∧ H' a = some u)) (hu : IsDct u) {od : Obj} {u' : HO} (h : H' a = some (.frz od u')) : F a = some u ∧ H a = some (.frz od u') := by
  rcases nw with z | ⟨_, z⟩
  · refine ⟨z, ?_⟩
    rcases ex a u z with q | ⟨_, o, q⟩
    · rw [hp _ q] at h
      rcases hu with ⟨k, rfl⟩ | ⟨k, rfl⟩ <;> cases h
    · have := hp _ q
      rw [h] at this
      rw [q, ← this]
  · rw [z] at h
    rcases hu with ⟨k, rfl⟩ | ⟨k, rfl⟩ <;> cases h
theorem SR.grow {fx : Fx} {lk : Lk} {σ : L2.St} {F H F' H' : Hp} {ρ : Env} {g : G} (I : SR fx lk σ F H ρ g) (w : Grow F H F' H') : SR fx lk σ F' H' ρ g := by
  have nf : ∀ p, F p = none → (∃ o, H p = some o) → F' p = none := fun p hp ⟨o, ho⟩ => by
    cases q : F' p with
    | none => rfl
    | some u =>
      rcases w.nw p u q with z | ⟨z, _⟩
      · rw [hp] at z; cases z
      · rw [ho] at z; cases z
  refine ⟨w.ex, I.ex0.trans w.f, fun a o n1 n2 q => w.h _ _ (I.base a o n1 n2 q), fun e he => ?_, fun a o q => ?_, I.len, fun i s e => ?_, I.dis, ?_, fun a u od u' h1 h2 h3 => let ⟨z1, z2⟩ := fz_of (F' := F') I.exF (fun o => w.h a o) (w.nw a u h1) h2 h3; I.fz a u od u' z1 h2 z2⟩
  · obtain ⟨h1, h2, h3, h4⟩ := I.lock e he
    exact ⟨w.h _ _ h1, w.f _ _ h2, h3, h4⟩
  · rcases w.nw a o q with z | ⟨z, _⟩
    · exact I.new a o z
    · right
      cases q0 : fx.H0 a with
      | none => rfl
      | some u =>
        by_cases ha : a = fx.ap
        · subst ha
          obtain ⟨_, b, _, hb⟩ := I.pool
          rw [hb] at z; cases z
        · by_cases hl : a ∈ lk.map (·.1)
          · obtain ⟨e, he, rfl⟩ := List.mem_map.mp hl
            rw [(I.lock e he).1] at z; cases z
          · rw [I.base a u ha hl q0] at z; cases z
  · have k := I.sl i s e
    cases s with
    | no => trivial
    | val d => obtain ⟨v, h1, h2⟩ := k; exact ⟨v, h1, h2.mono w.f⟩
    | own d =>
      obtain ⟨p, h1, h2, h3, h4, h5⟩ := k
      exact ⟨p, h1, nf p h2 h5.there, h3, h4, h5.mono w.f (w.h p)⟩
  · obtain ⟨h1, a, h2, h3⟩ := I.pool
    refine ⟨nf _ h1 ⟨_, h3⟩, a, ?_, w.h _ _ h3⟩
    rcases h2 with (h2 | ⟨o, h2⟩) | h2
    · exact .inl (.inl (w.f _ _ h2))
    · exact .inl (.inr ⟨o, w.f _ _ h2⟩)
    · exact .inr h2

theorem Grow.gp {ap : Addr} {F H F' H' : Hp} (w : Grow F H F' H') : GP ap F H F' H' := ⟨w.f, w.h.p, fun a o _ h => w.nw a o h⟩
/-- what is wanted of a value -/
def Kv (fx : Fx) (F H : Hp) (z : D) (Q : VK) : Prop := ∀ v H' F', Grow F H F' H' → Rep fx.K fx.ap F' z v → Q v H'
section
variable {fx : Fx} {F H : Hp} {d e z : D} {x y v : V} {Q : VK}
theorem Kv.here (ex : ExF F H) (k : Kv fx F H z Q) (r : Rep fx.K fx.ap F z v) : Q v H := k v H F (Grow.refl ex) r
theorem Kv.newL (ex : ExF F H) {ds : List D} {xs : List V} (k : Kv fx F H (.lst ds) Q) (r : RepL fx.K fx.ap F ds xs) : ∀ p, H p = none → Q (.ref p) (upd H p (.lst xs)) :=
  fun p hp => k _ _ _ (Grow.new ex _ hp) (.lst upd_same (r.mono (Ex.new (ex.free hp))))
theorem Kv.newT (ex : ExF F H) {ds : List D} {xs : List V} (k : Kv fx F H (.tup ds) Q) (r : RepL fx.K fx.ap F ds xs) : ∀ p, H p = none → Q (.ref p) (upd H p (.tup xs)) :=
  fun p hp => k _ _ _ (Grow.new ex _ hp) (.tup upd_same (r.mono (Ex.new (ex.free hp))))
theorem Kv.newK (ex : ExF F H) {ks vs : List D} {kvs : List (Key × V)} (k : Kv fx F H (.dct false ks vs) Q) (hk : ks = kvs.map (fun p => kD p.1)) (r : RepL fx.K fx.ap F vs (kvs.map (·.2))) : ∀ p, H p = none → Q (.ref p) (upd H p (.dK kvs)) :=
  fun p hp => k _ _ _ (Grow.new ex _ hp) (.dctK upd_same hk (r.mono (Ex.new (ex.free hp))))
/-! what a value looks like -/
theorem BR.non (h : BR fx F H .non x) : x = .non := by
  rcases h with h | ⟨_, _, _, h⟩
  · cases h; rfl
  · exact h.elim
theorem BR.bl {b : Bool} (h : BR fx F H (.bl b) x) : x = .bl b := by
  rcases h with h | ⟨_, _, _, h⟩
  · cases h; rfl
  · exact h.elim
theorem BR.int {i : Int} (h : BR fx F H (.int i) x) : x = .int i := by
  rcases h with h | ⟨_, _, _, h⟩
  · cases h; rfl
  · exact h.elim
theorem BR.str {s : S} (h : BR fx F H (.str s) x) : x = .str (toStr s) := by
  rcases h with h | ⟨_, _, _, h⟩
  · cases h; rfl
  · exact h.elim
theorem BR.lst (ex : ExF F H) {ds : List D} (h : BR fx F H (.lst ds) x) : ∃ p vs, x = .ref p ∧ H p = some (.lst vs) ∧ RepL fx.K fx.ap F ds vs := by
  rcases h with h | ⟨p, rfl, _, vs, h1, h2⟩
  · cases h with
    | lst h r => exact ⟨_, _, rfl, ex.lst h, r⟩
  · exact ⟨p, vs, rfl, h1, h2⟩
theorem BR.tup (ex : ExF F H) {ds : List D} (h : BR fx F H (.tup ds) x) : ∃ p vs, x = .ref p ∧ SqT fx.K H p vs ∧ RepL fx.K fx.ap F ds vs ∧ Rep fx.K fx.ap F (.tup ds) x := by
  rcases h with h | ⟨_, _, _, h⟩
  · cases h with
    | tup h r => exact ⟨_, _, rfl, SqT.of (ex.tup h), r, .tup h r⟩
    | tup0 h => exact ⟨_, _, rfl, ex.sqT h, .nil, .tup0 h⟩
  · exact h.elim
theorem BR.ctup (ex : ExF F H) {ds : List D} {pl : Bool} (h : BR fx F H (.ctup pl ds) x) : ∃ p vs, x = .ref p ∧ SqT fx.K H p vs ∧ RepL fx.K fx.ap F ds vs := by
  rcases h with h | ⟨_, _, _, h⟩
  · cases h with
    | ctup h _ r => exact ⟨_, _, rfl, ex.sqT h, r⟩
  · exact h.elim
theorem BR.dK (ex : ExF F H) {ks vs : List D} (h : BR fx F H (.dct false ks vs) x) : ∃ p kvs, x = .ref p ∧ Rd H p (.dK kvs) ∧ ks = kvs.map (fun p => kD p.1) ∧ RepL fx.K fx.ap F vs (kvs.map (·.2)) := by
  rcases h with h | ⟨p, rfl, _, kvs, h1, h2, h3⟩
  · cases h with
    | dctK h k r => exact ⟨_, _, rfl, ex.dK h, k, r⟩
  · exact ⟨p, kvs, rfl, .inl h1, h2, h3⟩
theorem BR.dT (ex : ExF F H) {ks vs : List D} (h : BR fx F H (.dct true ks vs) x) : ∃ p, ∃ kvs : List (List Key × V), x = .ref p ∧ Rd H p (.dT kvs) ∧ ks = kvs.map (fun p => .tup (p.1.map kD)) ∧ RepL fx.K fx.ap F vs (kvs.map (·.2)) := by
  rcases h with h | ⟨p, rfl, _, kvs, h1, h2, h3⟩
  · cases h with
    | dctT h k r => exact ⟨_, _, rfl, ex.dT h, k, r⟩
  · exact ⟨p, kvs, rfl, .inl h1, h2, h3⟩
theorem BR.grow {F' H' : Hp} (w : Grow F H F' H') (h : BR fx F H d x) : BR fx F' H' d x := by
  rcases h with h | ⟨p, e, n, h⟩
  · exact .inl (h.mono w.f)
  · exact .inr ⟨p, e, n, h.mono w.f (w.h p)⟩
theorem BR.growP {F' H' : Hp} (f : Ex F F') (k : ExP fx.ap H H') (h : BR fx F H d x) : BR fx F' H' d x := by
  rcases h with h | ⟨p, e, n, h⟩
  · exact .inl (h.mono f)
  · exact .inr ⟨p, e, n, h.mono f fun o q => k p o n q⟩
end

/-! ### two-place operations -/
def opP : Op → Operator
  | .add => .Add | .sub => .Sub | .mul => .Mult | .fdiv => .FloorDiv | .mod => .Mod
def rBin (fx : Fx) (o : Op) : R2 := fun x y H Q => ∃ F d e z, ExF F H ∧ BR fx F H d x ∧ BR fx F H e y ∧ binD o d e = some z ∧ Kv fx F H z Q
theorem small_of {i : Int} (h : small i = true) : -(2 ^ 64) < i ∧ i < 2 ^ 64 := by
  unfold small at h
  have := of_decide_eq_true h
  omega
theorem op_bin {X : Cx} {fx : Fx} (hK : X.K = fx.K) (o : Op) : OpR X (binaryOp (opP o)) (rBin fx o) := by
  intro pins s σ H x y v u Q I rx ry h
  obtain ⟨F, d, e, z, ex, hx, hy, hz, k⟩ := h
  have hl : sizeLine = 16777216 := sizeLine_eq
  cases o <;> cases d <;> cases e <;> simp only [binD, Option.some.injEq, reduceCtorEq] at hz
  case add.int.int i j =>
    subst hz; cases hx.int; cases hy.int
    exact op_add pins s σ H _ _ v u Q I rx ry ⟨_, _, rfl, rfl, k.here ex (.int _)⟩
  case add.str.str a b =>
    cases hx.str; cases hy.str
    split at hz
    · rename_i hs
      cases hz
      have hs := of_decide_eq_true hs
      refine op_add_str pins s σ H _ _ v u Q I rx ry ⟨_, _, rfl, rfl, by rw [toStr_len, toStr_len]; omega, ?_⟩
      rw [← toStr_app]
      exact k.here ex (.str _)
    · cases hz
  case add.lst.lst a b =>
    split at hz
    · rename_i hs
      cases hz
      have hs := of_decide_eq_true hs
      obtain ⟨p, vs, rfl, h1, r1⟩ := hx.lst ex
      obtain ⟨q, ws, rfl, h2, r2⟩ := hy.lst ex
      exact op_cat pins s σ H _ _ v u Q I rx ry ⟨_, _, _, _, rfl, rfl, h1, h2, by rw [← r1.len, ← r2.len]; omega, k.newL ex (r1.app r2)⟩
    · cases hz
  case add.tup.tup a b =>
    split at hz
    · rename_i hs
      cases hz
      have hs := of_decide_eq_true hs
      obtain ⟨p, vs, rfl, h1, r1, w1⟩ := hx.tup ex
      obtain ⟨q, ws, rfl, h2, r2, w2⟩ := hy.tup ex
      refine op_catA pins s σ H _ _ v u Q I rx ry ⟨_, _, vs, ws, rfl, rfl, by rw [hK]; exact h1, by rw [hK]; exact h2, by rw [← r1.len, ← r2.len]; omega, fun e0 => ?_, fun _ e0 => ?_, fun _ _ => k.newT ex (r1.app r2)⟩
      · subst e0; cases r1
        exact k.here ex w2
      · subst e0; cases r2
        rw [List.append_nil] at k
        exact k.here ex w1
    · cases hz
  case sub.int.int i j =>
    subst hz; cases hx.int; cases hy.int
    exact op_sub pins s σ H _ _ v u Q I rx ry ⟨_, _, rfl, rfl, k.here ex (.int _)⟩
  case mul.int.int i j =>
    split at hz
    · rename_i hs
      cases hz; cases hx.int; cases hy.int
      refine op_mul pins s σ H _ _ v u Q I rx ry ⟨_, _, rfl, rfl, ?_, k.here ex (.int _)⟩
      rw [Bool.or_eq_true] at hs
      rcases hs with hs | hs
      · exact .inl (small_of hs)
      · exact .inr (small_of hs)
    · cases hz
  case mul.lst.int a j =>
    split at hz
    · rename_i hs
      cases hz; cases hy.int
      obtain ⟨p, vs, rfl, h1, r1⟩ := hx.lst ex
      simp only [Bool.and_eq_true, decide_eq_true_eq] at hs
      exact op_rep pins s σ H _ _ v u Q I rx ry ⟨_, _, _, rfl, rfl, h1, by omega, by omega, by rw [← r1.len]; omega, k.newL ex (r1.rep _)⟩
    · cases hz
  case fdiv.int.int i j =>
    split at hz
    · rename_i hs
      cases hz; cases hx.int; cases hy.int
      simp only [Bool.and_eq_true, decide_eq_true_eq] at hs
      exact op_fdiv pins s σ H _ _ v u Q I rx ry ⟨_, _, rfl, rfl, ⟨hs.1, hs.2⟩, k.here ex (.int _)⟩
    · cases hz
  case mod.int.int i j =>
    split at hz
    · rename_i hs
      cases hz; cases hx.int; cases hy.int
      exact op_mod pins s σ H _ _ v u Q I rx ry ⟨_, _, rfl, rfl, hs, k.here ex (.int _)⟩
    · cases hz
/-! ### comparisons -/
def cpP : Cp → CmpOp
  | .eq => .Eq | .ne => .NotEq | .lt => .Lt | .le => .LtE | .gt => .Gt | .ge => .GtE | .is => .Is | .isn => .IsNot | .inn => .In | .nin => .NotIn
def rCmp (fx : Fx) (c : Cp) : R2 := fun x y H Q => ∃ F d e b, ExF F H ∧ BR fx F H d x ∧ BR fx F H e y ∧ cmpD c d e = some b ∧ Q (.bl b) H
theorem py_ne_none {d : D} (h : plainD d = true) (n : isNon d = false) : toPy d ≠ .none := by
  cases d <;> simp [toPy, plainD, isNon] at h n ⊢
theorem ltO_some {x y : D} {b : Bool} (h : ltO x y = some b) : okD x = true ∧ okD y = true ∧ alikeD x y = true ∧ alikeD y x = true ∧ isNon x = false ∧ isNon y = false ∧ ltD x y = b := by
  unfold ltO at h
  split at h
  · rename_i q
    simp only [Bool.and_eq_true, Bool.not_eq_true'] at q
    exact ⟨q.1.1.1.1.1, q.1.1.1.1.2, q.1.1.1.2, q.1.1.2, q.1.2, q.2, Option.some.inj h⟩
  · cases h
theorem eqO_some {x y : D} {b : Bool} (h : eqO x y = some b) : okD x = true ∧ okD y = true ∧ eqD x y = b := by
  unfold eqO at h
  split at h
  · rename_i q
    rw [Bool.and_eq_true] at q
    exact ⟨q.1, q.2, Option.some.inj h⟩
  · cases h
section
variable {X : Cx} {fx : Fx} {pins : List (Addr × Obj)} {σ : L2.St} {s : Shared} {F H : Hp}
theorem BR.reads (hK : X.K = fx.K) (I : Inv X pins σ H s) (ex : ExF F H) {d : D} {x : V} {u : Value} (p : plainD d = true) (h : BR fx F H d x) (r : RelV x u) : ∃ as, Reads s.heap u (toPy d) as := by
  have := h.dp ex p
  rw [← hK] at this
  exact Dp.reads I _ _ _ this r
theorem mapnot {o : Option Bool} {b : Bool} (h : o.map (!·) = some b) : o = some (!b) := by
  cases o with
  | none => cases h
  | some c => cases h; simp
theorem in_py {x : D} : ∀ {ys : List D}, plainD x = true → plainL ys = true → ((toPyL ys).any fun z => PyData.eqv z (toPy x)) = ys.any fun y => eqD y x
  | [], _, _ => by simp [toPyL]
  | y :: ys, p, q => by
    simp [plainL] at q
    simp [toPyL, List.any_cons, eq_py y x q.1 p, in_py p q.2]
theorem keyR {v : V} {k : Key} (r : Rep fx.K fx.ap F (kD k) v) : v = kV k := by
  cases k with
  | inl i => cases r; rfl
  | inr z =>
    cases r
    show V.str (toStr z.cps.toList) = V.str z
    rw [toStr_of]
theorem keyD {x : D} {v : V} {k : Key} (h : kD k = x) (r : BR fx F H x v) : v = kV k := by
  cases k with
  | inl i => subst h; exact r.int
  | inr z => subst h; rw [r.str, toStr_of]; rfl
theorem key_of_flat {x : D} (h : flatK x = true) : ∃ k, kD k = x := by
  cases x with
  | int i => exact ⟨.inl i, rfl⟩
  | str z => exact ⟨.inr (toStr z), by simp [kD, toStr]⟩
  | _ => simp [flatK] at h
theorem keys_of_flat : ∀ {xs : List D}, xs.all flatK = true → ∃ ks : List Key, ks.map kD = xs
  | [], _ => ⟨[], rfl⟩
  | x :: xs, h => by
    simp at h
    obtain ⟨k, hk⟩ := key_of_flat h.1
    obtain ⟨ks, hks⟩ := keys_of_flat (xs := xs) (by simpa using h.2)
    exact ⟨k :: ks, by simp [hk, hks]⟩
theorem kD_inj {a b : Key} (h : kD a = kD b) : a = b := by
  cases a <;> cases b <;> simp [kD] at h
  · rw [h]
  · rename_i x y
    have : toStr x.cps.toList = toStr y.cps.toList := by simp [h]
    rw [toStr_of, toStr_of] at this
    rw [this]
theorem same_key (a b : Key) : sameD (kD a) (kD b) = decide (a = b) := by
  by_cases h : a = b
  · subst h
    cases a <;> simp [kD, sameD]
  · have : kD a ≠ kD b := fun e => h (kD_inj e)
    rw [decide_eq_false h]
    cases a <;> cases b <;> simp [kD, sameD] at this ⊢ <;> exact this
theorem same_keys : ∀ (a b : List Key), sameL (a.map kD) (b.map kD) = decide (a = b)
  | [], [] => by simp [sameL]
  | [], _ :: _ => by simp [sameL]
  | _ :: _, [] => by simp [sameL]
  | a :: as, b :: bs => by
    simp only [List.map_cons, sameL, same_key, same_keys as bs, List.cons.injEq, Bool.decide_and]
theorem dget_K (k : Key) : ∀ {kvs : List (Key × V)} {vs : List D}, RepL fx.K fx.ap F vs (kvs.map (·.2)) →
    (valV kvs k = none ∧ dget (kD k) (kvs.map (fun p => kD p.1)) vs = none) ∨ ∃ v d, valV kvs k = some v ∧ dget (kD k) (kvs.map (fun p => kD p.1)) vs = some d ∧ Rep fx.K fx.ap F d v
  | [], vs, r => by
    cases r
    exact .inl ⟨rfl, by simp [dget]⟩
  | p :: kvs, vs, r => by
    cases r with
    | cons h t =>
      rename_i d ds
      simp only [List.map_cons, dget, same_key]
      by_cases e : p.1 = k
      · exact .inr ⟨_, d, valV_pos e, by simp [e], h⟩
      · rw [valV_neg e]
        simp only [e, decide_false, Bool.false_eq_true, if_false]
        exact dget_K k t
theorem dget_T (k : List Key) : ∀ {kvs : List (List Key × V)} {vs : List D}, RepL fx.K fx.ap F vs (kvs.map (·.2)) →
    (valV kvs k = none ∧ dget (.tup (k.map kD)) (kvs.map (fun p => .tup (p.1.map kD))) vs = none) ∨ ∃ v d, valV kvs k = some v ∧ dget (.tup (k.map kD)) (kvs.map (fun p => .tup (p.1.map kD))) vs = some d ∧ Rep fx.K fx.ap F d v
  | [], vs, r => by
    cases r
    exact .inl ⟨rfl, by simp [dget]⟩
  | p :: kvs, vs, r => by
    cases r with
    | cons h t =>
      rename_i d ds
      simp only [List.map_cons, dget, sameD, same_keys]
      by_cases e : p.1 = k
      · exact .inr ⟨_, d, valV_pos e, by simp [e], h⟩
      · rw [valV_neg e]
        simp only [e, decide_false, Bool.false_eq_true, if_false]
        exact dget_T k t
theorem reps_keys : ∀ {ks : List Key} {vs : List V}, RepL fx.K fx.ap F (ks.map kD) vs → vs = ks.map kV
  | [], _, .nil => rfl
  | k :: ks, _, .cons h t => by
    rw [List.map_cons, reps_keys t, keyR h]
/-- what a dict tells of a key -/
theorem dict_get (ex : ExF F H) {t : Bool} {ks vs : List D} {x y : V} {k : D} (hd : BR fx F H (.dct t ks vs) x) (hk : BR fx F H k y) (ok : keyOk t k = true) :
    ∃ a o, x = .ref a ∧ DGet H a y o ∧ IsD H a ∧ ((o = none ∧ dget k ks vs = none) ∨ ∃ v d, o = some v ∧ dget k ks vs = some d ∧ Rep fx.K fx.ap F d v) := by
  cases t with
  | false =>
    obtain ⟨p, kvs, rfl, h1, rfl, r⟩ := hd.dK ex
    have hf : flatK k = true := by
      cases k with
      | tup zs => cases zs <;> simp [keyOk] at ok
      | _ => simp [keyOk, flatK] at ok ⊢
    obtain ⟨ky, rfl⟩ := key_of_flat hf
    have e := keyD rfl hk
    subst e
    refine ⟨p, valV kvs ky, rfl, .inl ⟨kvs, ky, h1, rfl, rfl⟩, .inl ⟨kvs, h1⟩, ?_⟩
    rcases dget_K ky r with ⟨h2, h3⟩ | ⟨v, d, h2, h3, h4⟩
    · exact .inl ⟨h2, h3⟩
    · exact .inr ⟨v, d, h2, h3, h4⟩
  | true =>
    obtain ⟨p, kvs, rfl, h1, rfl, r⟩ := hd.dT ex
    cases k with
    | tup zs =>
      cases zs with
      | nil => simp [keyOk] at ok
      | cons z zs =>
        simp only [keyOk, Bool.true_and] at ok
        obtain ⟨ky, e⟩ := keys_of_flat ok
        rcases hk with hk | ⟨_, _, _, hk⟩
        · cases hk with
          | tup h r2 =>
            rw [← e] at r2 ⊢
            have := reps_keys r2
            subst this
            refine ⟨p, valV kvs ky, rfl, .inr ⟨kvs, ky, _, h1, rfl, ex.tup h, rfl⟩, .inr ⟨kvs, h1⟩, ?_⟩
            rcases dget_T ky r with ⟨h2, h3⟩ | ⟨v, d, h2, h3, h4⟩
            · exact .inl ⟨h2, h3⟩
            · exact .inr ⟨v, d, h2, h3, h4⟩
        · exact hk.elim
    | _ => simp [keyOk] at ok
end
end MW

end
section
set_option Elab.async false
set_option linter.all false
set_option maxRecDepth 100000
set_option maxHeartbeats 2000000
namespace MW
open PySem PySem.Spec PyProof.Rows L2
section
variable {X : Cx} {fx : Fx}
theorem fin_b {pins : List (Addr × Obj)} {σ : L2.St} {H : Hp} {s : Shared} {Q : VK} {k k' : Bool} (I : Inv X pins σ H s) (q : Q (.bl k) H) (e : k' = k) : EP X pins σ Q (.bool k') s := by
  subst e; exact ⟨.bl k', H, I, rfl, q⟩
theorem isi_ints {x y : D} {b : Bool} (h : ltO x y = some b) {i j : Int} (hx : x = .int i) (hy : y = .int j) : b = decide (i < j) := by
  subst hx hy
  obtain ⟨_, _, _, _, _, _, e⟩ := ltO_some h
  rw [← e]
  simp only [ltD, toks, lexT, tokLt, Bool.and_false, Bool.or_false]
theorem op_cmp (hK : X.K = fx.K) (hu : X.A.units + 100 < cLine) (c : Cp) : OpR X (compareOp (cpP c)) (rCmp fx c) := by
  intro pins s σ H x y v u Q I rx ry h
  obtain ⟨F, d, e, b, ex, hx, hy, hz, q⟩ := h
  have ucl : ∀ {m n : Nat}, m ≤ 61 → X.A.units + min m n < cLine := fun {m n} hm => by
    have := Nat.min_le_left m n
    omega
  cases c with
  | eq =>
    obtain ⟨o1, o2, hb⟩ := eqO_some hz
    obtain ⟨as, r1⟩ := hx.reads hK I ex (okD_plain o1) rx
    obtain ⟨bs, r2⟩ := hy.reads hK I ex (okD_plain o2) ry
    refine SeqAt.eq_plain r1 r2 (plain_py _) (plain_py _) (ucl (by rw [dep_py]; have := okD_dep o1; omega)) (fin_b I q ?_)
    rw [eq_py _ _ (okD_plain o1) (okD_plain o2), hb]
  | ne =>
    obtain ⟨o1, o2, hb⟩ := eqO_some (mapnot hz)
    obtain ⟨as, r1⟩ := hx.reads hK I ex (okD_plain o1) rx
    obtain ⟨bs, r2⟩ := hy.reads hK I ex (okD_plain o2) ry
    refine SeqAt.ne_plain r1 r2 (plain_py _) (plain_py _) (ucl (by rw [dep_py]; have := okD_dep o1; omega)) (fin_b I q ?_)
    rw [eq_py _ _ (okD_plain o1) (okD_plain o2), hb, Bool.not_not]
  | lt =>
    obtain ⟨o1, o2, a1, a2, n1, n2, hb⟩ := ltO_some hz
    obtain ⟨as, r1⟩ := hx.reads hK I ex (okD_plain o1) rx
    obtain ⟨bs, r2⟩ := hy.reads hK I ex (okD_plain o2) ry
    refine PySem.W.lt_data r1 r2 (by rw [alike_py _ _ (okD_plain o1) (okD_plain o2)]; exact a1) (py_ne_none (okD_plain o1) n1) (ucl (by rw [dep_py]; have := okD_dep o1; omega)) (fin_b I q ?_)
    rw [lt_py, hb]
  | gt =>
    obtain ⟨o1, o2, a1, a2, n1, n2, hb⟩ := ltO_some hz
    obtain ⟨as, r1⟩ := hx.reads hK I ex (okD_plain o2) rx
    obtain ⟨bs, r2⟩ := hy.reads hK I ex (okD_plain o1) ry
    refine PySem.W.gt_data r1 r2 (by rw [alike_py _ _ (okD_plain o2) (okD_plain o1)]; exact a2) (py_ne_none (okD_plain o2) n2) (ucl (by rw [dep_py]; have := okD_dep o2; omega)) (fin_b I q ?_)
    rw [lt_py, hb]
  | le =>
    obtain ⟨o1, o2, a1, a2, n1, n2, hb⟩ := ltO_some (mapnot hz)
    obtain ⟨as, r1⟩ := hx.reads hK I ex (okD_plain o2) rx
    obtain ⟨bs, r2⟩ := hy.reads hK I ex (okD_plain o1) ry
    refine PySem.W.le_data r1 r2 (by rw [alike_py _ _ (okD_plain o2) (okD_plain o1)]; exact a2) (py_ne_none (okD_plain o2) n2) (ucl (by rw [dep_py]; have := okD_dep o2; omega)) (fin_b I q ?_)
    rw [lt_py, hb, Bool.not_not]
  | ge =>
    obtain ⟨o1, o2, a1, a2, n1, n2, hb⟩ := ltO_some (mapnot hz)
    obtain ⟨as, r1⟩ := hx.reads hK I ex (okD_plain o1) rx
    obtain ⟨bs, r2⟩ := hy.reads hK I ex (okD_plain o2) ry
    refine PySem.W.ge_data r1 r2 (by rw [alike_py _ _ (okD_plain o1) (okD_plain o2)]; exact a1) (py_ne_none (okD_plain o1) n1) (ucl (by rw [dep_py]; have := okD_dep o1; omega)) (fin_b I q ?_)
    rw [lt_py, hb, Bool.not_not]
  | is =>
    have he : e = .non ∧ b = isNon d := by
      cases e <;> simp [cmpD, isD] at hz ⊢
      exact hz.symm
    obtain ⟨rfl, rfl⟩ := he
    refine op_isN pins s σ H _ _ v u Q I rx ry ⟨hy.non, ?_⟩
    have : decide (x = V.non) = isNon d := by
      cases d with
      | non => rw [hx.non]; rfl
      | _ =>
        refine decide_eq_false fun e0 => ?_
        subst e0
        rcases hx with hx | ⟨_, h, _⟩
        · cases hx
        · cases h
    rw [this]; exact q
  | isn =>
    have he : e = .non ∧ (!b) = isNon d := by
      have hz := mapnot hz
      cases e <;> simp [isD] at hz ⊢
      rw [hz, Bool.not_not]
    obtain ⟨rfl, hb⟩ := he
    refine op_notN pins s σ H _ _ v u Q I rx ry ⟨hy.non, ?_⟩
    have : decide (x = V.non) = isNon d := by
      cases d with
      | non => rw [hx.non]; rfl
      | _ =>
        refine decide_eq_false fun e0 => ?_
        subst e0
        rcases hx with hx | ⟨_, h, _⟩
        · cases hx
        · cases h
    rw [this, ← hb, Bool.not_not]; exact q
  | inn =>
    cases e with
    | lst ys =>
      simp only [cmpD, inO] at hz
      split at hz
      · rename_i ho
        rw [Bool.and_eq_true] at ho
        cases hz
        have p2 : plainL ys = true := by simpa [plainD] using okD_plain ho.2
        obtain ⟨as, r1⟩ := hx.reads hK I ex (okD_plain ho.1) rx
        obtain ⟨bs, r2⟩ := hy.reads hK I ex (okD_plain ho.2) ry
        simp only [toPy] at r2
        refine SeqAt.in_list_data r2 r1 (plain_pyL _) (plain_py _) ?_ (fin_b I q (in_py (okD_plain ho.1) p2))
        have := okD_dep ho.2
        simp only [depD] at this
        have h2 := Nat.min_le_left (PyData.depthAll (toPyL ys)) (toPy d).depth
        rw [dep_pyL] at h2 ⊢
        omega
      · cases hz
    | tup ys =>
      simp only [cmpD, inO] at hz
      split at hz
      · rename_i ho
        rw [Bool.and_eq_true] at ho
        cases hz
        have p2 : plainL ys = true := by simpa [plainD] using okD_plain ho.2
        obtain ⟨as, r1⟩ := hx.reads hK I ex (okD_plain ho.1) rx
        obtain ⟨bs, r2⟩ := hy.reads hK I ex (okD_plain ho.2) ry
        simp only [toPy] at r2
        refine SeqAt.in_tuple_data r2 r1 (plain_pyL _) (plain_py _) ?_ (fin_b I q (in_py (okD_plain ho.1) p2))
        have := okD_dep ho.2
        simp only [depD] at this
        have h2 := Nat.min_le_left (PyData.depthAll (toPyL ys)) (toPy d).depth
        rw [dep_pyL] at h2 ⊢
        omega
      · cases hz
    | ctup pl ys =>
      simp only [cmpD, inO] at hz
      split at hz
      · rename_i ho
        rw [Bool.and_eq_true] at ho
        cases hz
        have p2 : plainL ys = true := by simpa [plainD] using okD_plain ho.2
        obtain ⟨as, r1⟩ := hx.reads hK I ex (okD_plain ho.1) rx
        obtain ⟨bs, r2⟩ := hy.reads hK I ex (okD_plain ho.2) ry
        simp only [toPy] at r2
        refine SeqAt.in_tuple_data r2 r1 (plain_pyL _) (plain_py _) ?_ (fin_b I q (in_py (okD_plain ho.1) p2))
        have := okD_dep ho.2
        simp only [depD] at this
        have h2 := Nat.min_le_left (PyData.depthAll (toPyL ys)) (toPy d).depth
        rw [dep_pyL] at h2 ⊢
        omega
      · cases hz
    | dct t ks vs =>
      simp only [cmpD, inO] at hz
      split at hz
      · rename_i ho
        cases hz
        obtain ⟨a, o, rfl, g, _, w⟩ := dict_get ex hy hx ho
        cases ry
        refine d_in (by omega) I g rx fun s' I' => fin_b I' q ?_
        rcases w with ⟨rfl, h2⟩ | ⟨v, d, rfl, h2, _⟩ <;> rw [h2] <;> rfl
      · cases hz
    | _ => simp [cmpD, inO] at hz
  | nin =>
    have hz := mapnot hz
    cases e with
    | lst ys =>
      simp only [inO] at hz
      split at hz
      · rename_i ho
        rw [Bool.and_eq_true] at ho
        have p2 : plainL ys = true := by simpa [plainD] using okD_plain ho.2
        obtain ⟨as, r1⟩ := hx.reads hK I ex (okD_plain ho.1) rx
        obtain ⟨bs, r2⟩ := hy.reads hK I ex (okD_plain ho.2) ry
        simp only [toPy] at r2
        refine SeqAt.notIn_list_data r2 r1 (plain_pyL _) (plain_py _) ?_ (fin_b I q (by rw [in_py (okD_plain ho.1) p2, Option.some.inj hz, Bool.not_not]))
        have := okD_dep ho.2
        simp only [depD] at this
        have h2 := Nat.min_le_left (PyData.depthAll (toPyL ys)) (toPy d).depth
        rw [dep_pyL] at h2 ⊢
        omega
      · cases hz
    | tup ys =>
      simp only [inO] at hz
      split at hz
      · rename_i ho
        rw [Bool.and_eq_true] at ho
        have p2 : plainL ys = true := by simpa [plainD] using okD_plain ho.2
        obtain ⟨as, r1⟩ := hx.reads hK I ex (okD_plain ho.1) rx
        obtain ⟨bs, r2⟩ := hy.reads hK I ex (okD_plain ho.2) ry
        simp only [toPy] at r2
        refine SeqAt.notIn_tuple_data r2 r1 (plain_pyL _) (plain_py _) ?_ (fin_b I q (by rw [in_py (okD_plain ho.1) p2, Option.some.inj hz, Bool.not_not]))
        have := okD_dep ho.2
        simp only [depD] at this
        have h2 := Nat.min_le_left (PyData.depthAll (toPyL ys)) (toPy d).depth
        rw [dep_pyL] at h2 ⊢
        omega
      · cases hz
    | ctup pl ys =>
      simp only [inO] at hz
      split at hz
      · rename_i ho
        rw [Bool.and_eq_true] at ho
        have p2 : plainL ys = true := by simpa [plainD] using okD_plain ho.2
        obtain ⟨as, r1⟩ := hx.reads hK I ex (okD_plain ho.1) rx
        obtain ⟨bs, r2⟩ := hy.reads hK I ex (okD_plain ho.2) ry
        simp only [toPy] at r2
        refine SeqAt.notIn_tuple_data r2 r1 (plain_pyL _) (plain_py _) ?_ (fin_b I q (by rw [in_py (okD_plain ho.1) p2, Option.some.inj hz, Bool.not_not]))
        have := okD_dep ho.2
        simp only [depD] at this
        have h2 := Nat.min_le_left (PyData.depthAll (toPyL ys)) (toPy d).depth
        rw [dep_pyL] at h2 ⊢
        omega
      · cases hz
    | dct t ks vs =>
      simp only [inO] at hz
      split at hz
      · rename_i ho
        obtain ⟨a, o, rfl, g, _, w⟩ := dict_get ex hy hx ho
        cases ry
        refine d_notIn (by omega) I g rx fun s' I' => fin_b I' q ?_
        have hz := Option.some.inj hz
        rcases w with ⟨rfl, h2⟩ | ⟨v, d, rfl, h2, _⟩ <;> rw [h2] at hz <;> (rw [← Bool.not_not (b := b), ← hz]; rfl)
      · cases hz
    | _ => simp [inO] at hz

/-! ### truth -/
def rTru (fx : Fx) : V → Hp → (Bool → Hp → Prop) → Prop := fun x H Q => ∃ F d b, ExF F H ∧ BR fx F H d x ∧ truth d = some b ∧ Q b H
theorem tru_ok (hK : X.K = fx.K) : TruR X (rTru fx) := by
  intro pins s σ H x v Q I rx h
  obtain ⟨F, d, b, ex, hx, ht, q⟩ := h
  have hs : sizeLine = 16777216 := sizeLine_eq
  have len63 : (16777216 : Nat) < 2 ^ 63 := by decide
  cases d with
  | non => cases ht; cases hx.non; cases rx; exact truthy_none ⟨H, I, q⟩
  | bl b => cases ht; cases hx.bl; cases rx; exact wpAny_truthy_bool ⟨H, I, q⟩
  | int i => cases ht; cases hx.int; obtain ⟨t, rfl⟩ := rx; exact PySem.P.truthy_int ⟨H, I, q⟩
  | str z =>
    simp only [truth] at ht
    split at ht
    · rename_i hl
      have hl := of_decide_eq_true hl
      cases ht; cases hx.str; obtain ⟨t, rfl⟩ := rx
      refine PySem.P.truthy_str (by rw [toStr_len]; omega) ⟨H, I.tok _, ?_⟩
      rw [toStr_len]
      have : (((z.length : Nat) : Int) != 0) = !z.isEmpty := by cases z <;> simp <;> omega
      rw [this]; exact q
    · cases ht
  | lst ds =>
    cases ht
    obtain ⟨p, vs, rfl, h1, r⟩ := hx.lst ex
    refine L2.tru_ok pins s σ H _ v Q I rx ⟨_, .inl ⟨vs, SqL.of h1, rfl⟩, ?_⟩
    cases r <;> exact q
  | tup ds =>
    cases ht
    obtain ⟨p, vs, rfl, h1, r, _⟩ := hx.tup ex
    refine L2.tru_ok pins s σ H _ v Q I rx ⟨_, .inr (.inl ⟨vs, by rw [hK]; exact h1, rfl⟩), ?_⟩
    cases r <;> exact q
  | ctup pl ds =>
    cases ht
    obtain ⟨p, vs, rfl, h1, r⟩ := hx.ctup ex
    refine L2.tru_ok pins s σ H _ v Q I rx ⟨_, .inr (.inl ⟨vs, by rw [hK]; exact h1, rfl⟩), ?_⟩
    cases r <;> exact q
  | dct t ks vs =>
    cases t with
    | true => cases ht
    | false =>
      cases ht
      obtain ⟨p, kvs, rfl, h1, rfl, r⟩ := hx.dK ex
      cases rx
      refine d_truth I h1 fun s' I' => ⟨H, I', ?_⟩
      have : (!kvs.isEmpty) = !(kvs.map fun p => kD p.1).isEmpty := by cases kvs <;> rfl
      rw [this]; exact q
  | _ => cases ht
end
end MW

end
section
set_option Elab.async false
set_option linter.all false
set_option maxRecDepth 100000
set_option maxHeartbeats 2000000
namespace MW
open PySem PySem.Spec PyProof.Rows L2
section
variable {X : Cx} {fx : Fx} {F H : Hp}
/-- a value of the machine stands for d -/
def RV (fx : Fx) (F : Hp) (v : Value) (d : D) : Prop := ∃ x, RelV x v ∧ Rep fx.K fx.ap F d x
theorem each_of : ∀ {ds : List D} {vs : List V} {us : List Value}, RepL fx.K fx.ap F ds vs → Vals vs us → PySem.W.EachIs (RV fx F) us ds
  | _, _, _, .nil, .nil => .nil
  | _, _, _, .cons h t, .cons a b => .cons ⟨_, a, h⟩ (each_of t b)
theorem of_each {ds : List D} {us : List Value} (e : PySem.W.EachIs (RV fx F) us ds) : ∃ vs, Vals vs us ∧ RepL fx.K fx.ap F ds vs := by
  induction e with
  | nil => exact ⟨[], .nil, .nil⟩
  | cons h t ih =>
    obtain ⟨x, h1, h2⟩ := h
    obtain ⟨vs, q1, q2⟩ := ih
    exact ⟨x :: vs, .cons h1 q1, .cons h2 q2⟩
theorem le_py : PySem.W.dataLe false toPy = fun (a b : D) => !ltD b a := by
  funext a b
  show (!(listOrd itemOrd).blt (PySem.W.keyToks (toPy b)) (PySem.W.keyToks (toPy a))) = _
  have : (listOrd itemOrd).blt (PySem.W.keyToks (toPy b)) (PySem.W.keyToks (toPy a)) = PySem.W.dataLt (toPy b) (toPy a) := rfl
  rw [this, lt_py]
theorem sortO_some {ds es : List D} (h : sortO ds = some es) : ds.all okD = true ∧ allAlike ds = true ∧ sortable ds = true ∧ es = ds.mergeSort fun a b => !ltD b a := by
  unfold sortO at h
  split at h
  · rename_i q
    rw [Bool.and_eq_true, Bool.and_eq_true] at q
    exact ⟨q.1.1, q.1.2, q.2, (Option.some.inj h).symm⟩
  · cases h
theorem alikes {ds : List D} (h1 : ds.all okD = true) (h2 : allAlike ds = true) : PySem.W.AllAlike (ds.map toPy) := by
  intro a ha b hb
  obtain ⟨x, hx, rfl⟩ := List.mem_map.mp ha
  obtain ⟨y, hy, rfl⟩ := List.mem_map.mp hb
  rw [alike_py _ _ (okD_plain (List.all_eq_true.mp h1 x hx)) (okD_plain (List.all_eq_true.mp h1 y hy))]
  exact List.all_eq_true.mp (List.all_eq_true.mp h2 x hx) y hy
theorem sortables {ds : List D} (h1 : ds.all okD = true) (h : sortable ds = true) : PySem.W.Sortable (ds.map toPy) := by
  unfold sortable at h
  rw [Bool.or_eq_true] at h
  rcases h with h | h
  · refine .inl fun d hd => ?_
    obtain ⟨x, hx, rfl⟩ := List.mem_map.mp hd
    have := List.all_eq_true.mp h x hx
    cases x with
    | tup xs => cases xs <;> simp [isTup1, toPy, toPyL] at this ⊢
    | ctup pl xs => cases xs <;> simp [isTup1, toPy, toPyL] at this ⊢
    | _ => simp [isTup1] at this
  · refine .inr fun d hd => ?_
    obtain ⟨x, hx, rfl⟩ := List.mem_map.mp hd
    have := List.all_eq_true.mp h x hx
    have p := okD_plain (List.all_eq_true.mp h1 x hx)
    cases x <;> simp [isOther, toPy, plainD] at this p ⊢
theorem reads_each (hK : X.K = fx.K) {pins : List (Addr × Obj)} {σ : L2.St} {s : Shared} (I : Inv X pins σ H s) (ex : ExF F H) {ds : List D} {us : List Value} (h : ds.all okD = true) (e : PySem.W.EachIs (RV fx F) us ds) : PySem.W.EachIs (fun v b => ∃ as, Reads s.heap v (toPy b) as) us ds := by
  induction e with
  | nil => exact .nil
  | cons h1 t ih =>
    simp only [List.all_cons, Bool.and_eq_true] at h
    obtain ⟨x, r, w⟩ := h1
    exact .cons (BR.reads hK I ex (okD_plain h.1) (.inl w) r) (ih h.2)
mutual
theorem reads_lt {h : Heap} : ∀ (d : PyData) (v : Value) (as : List Addr), Reads h v d as → ∀ a ∈ as, a < h.objs.size
  | .none, _, _, .none, _, m => by cases m
  | .bool _, _, _, .bool _, _, m => by cases m
  | .int _, _, _, .int _ _, _, m => by cases m
  | .str _, _, _, .str _ _, _, m => by cases m
  | .list xs, _, _, .list h1 h2 h3 h4, a, m => by
    rcases List.mem_cons.mp m with e | m
    · subst e; exact Heap.lt_size h1
    · exact readsA_lt xs _ _ h4 a m
  | .tuple xs, _, _, .tuple h1 h2 h3 h4, a, m => readsA_lt xs _ _ h4 a m
  | .dict kvs, _, _, .dict h1 h2 h3 h4 h5, a, m => by
    rcases List.mem_append.mp m with m | m
    · rcases List.mem_cons.mp m with e | m
      · subst e; exact Heap.lt_size h1
      · exact readsA_lt (kvs.map (·.1)) _ _ h4 a m
    · exact readsA_lt (kvs.map (·.2)) _ _ h5 a m
theorem readsA_lt {h : Heap} : ∀ (ds : List PyData) (vs : List Value) (as : List Addr), ReadsAll h vs ds as → ∀ a ∈ as, a < h.objs.size
  | [], _, _, .nil, _, m => by cases m
  | d :: ds, _, _, .cons h1 h2, a, m => by
    rcases List.mem_append.mp m with m | m
    · exact reads_lt d _ _ h1 a m
    · exact readsA_lt ds _ _ h2 a m
end
/-- sorted(xs), xs a list -/
def rSortedL (fx : Fx) : List V → Hp → VK → Prop := fun xs H Q => ∃ F x ds es, xs = [x] ∧ ExF F H ∧ BR fx F H (.lst ds) x ∧ sortO ds = some es ∧ Kv fx F H (.lst es) Q
theorem cr_sortedL (hK : X.K = fx.K) (hu : X.A.units + 100 < cLine) : CallR X (.builtin "sorted") (rSortedL fx) := by
  intro pins s σ H xs us Q I r h
  obtain ⟨F, x, ds, es, rfl, ex, hx, hs, k⟩ := h
  obtain ⟨u, rfl, rx⟩ := vals1 r
  obtain ⟨p, vs, rfl, h1, r1⟩ := hx.lst ex
  cases rx
  obtain ⟨o1, o2, o3, rfl⟩ := sortO_some hs
  obtain ⟨hz, its, n, rv, ho⟩ := (show ObjOk X.prog X.w H s.heap p (.lst vs) from I.hok p _ h1)
  have e := each_of r1 rv
  have hl : ds.length ≤ sizeLine := by rw [r1.len]; exact hz
  refine PySem.W.sorted_data (enc := toPy) (R := RV fx F) (vs := its) (bs := ds) (show PlainL s.heap p its.toArray from ⟨_, n, ho, rfl, rfl, rfl⟩).isList e (reads_each hK I ex o1 e) (alikes o1 o2) (sortables o1 o3) hl (fun b hb => ?_) fun out ho' eo => ?_
  · have := okD_dep (List.all_eq_true.mp o1 b hb)
    rw [dep_py]; omega
  · rw [le_py] at eo
    obtain ⟨ws, q1, q2⟩ := of_each eo
    obtain ⟨e', he'⟩ := PyProof.Rows.sortedAll_at s.heap its out.toArray
    have wl : ws.length ≤ sizeLine := by rw [← q2.len, List.length_mergeSort]; exact hl
    have hn : H (s.heap.objs.size + 1) = none := I.hok.fresh (Nat.le_succ _)
    refine ⟨.ref (s.heap.objs.size + 1), upd H (s.heap.objs.size + 1) (.lst ws), I.laid (t' := s.toks) (fun b u q => PyProof.Rows.sortedAll_old q) (Nat.le_succ _) ⟨wl, out, e', q1, he'⟩, rfl, k.newL ex q2 _ hn⟩

/-! ### sorted keys -/
/-- the values that were collected, laid as a list, sorted -/
theorem sort_laid (hK : X.K = fx.K) {pins : List (Addr × Obj)} {σ : L2.St} {s : Shared} {A : Around} {E : Value → Shared → Prop} {us : List Value} {ds es : List D} {Q : VK} (I : Inv X pins σ H s) (ex : ExF F H) (hu : A.units + 100 < cLine)
    (hl : us.length ≤ sizeLine) (e : PySem.W.EachIs (RV fx F) us ds) (hs : sortO ds = some es) (k : Kv fx F H (.lst es) Q) :
    wpAny (model X.prog X.w) A (call (.builtin "list.sort") [.ref s.heap.objs.size]) (fun _ s' => EP X pins σ Q (.ref s.heap.objs.size) s') E { s with heap := s.heap.push (seqObj "list" us.toArray 0) } := by
  obtain ⟨o1, o2, o3, rfl⟩ := sortO_some hs
  have hL : ds.length ≤ sizeLine := by rw [← e.length]; exact hl
  have ho : (s.heap.push (seqObj "list" us.toArray 0)).get? s.heap.objs.size = some (seqObj "list" us.toArray 0) := Heap.get?_push_size _ rfl
  have er := reads_each hK I ex o1 e
  have er2 : PySem.W.EachIs (fun v b => ∃ as, Reads (s.heap.push (seqObj "list" us.toArray 0)) v (toPy b) as ∧ s.heap.objs.size ∉ as) us ds := er.mono fun v b ⟨as, r⟩ => by
    refine ⟨as, PyProof.Rows.Reads.keeps (fun _ _ q => Heap.get?_push_of_some _ q) r, fun z => ?_⟩
    have := reads_lt _ _ _ r _ z
    exact Nat.lt_irrefl _ this
  refine PySem.W.list_sort_data (s := { s with heap := s.heap.push (seqObj "list" us.toArray 0) }) (enc := toPy) (R := RV fx F) (vs := us) (bs := ds) ho e er2 (alikes o1 o2) (sortables o1 o3) hL (fun b hb => ?_) fun out ho' eo => ?_
  · have := okD_dep (List.all_eq_true.mp o1 b hb)
    rw [dep_py]; omega
  · rw [le_py] at eo
    obtain ⟨ws, q1, q2⟩ := of_each eo
    obtain ⟨e', he'⟩ := PyProof.Rows.sortedHeap_at (vs := us) (out := out.toArray) ho
    have wl : ws.length ≤ sizeLine := by rw [← q2.len, List.length_mergeSort]; exact hL
    have hn : H s.heap.objs.size = none := I.hok.fresh (Nat.le_refl _)
    refine ⟨.ref s.heap.objs.size, upd H s.heap.objs.size (.lst ws), I.laid (t' := s.toks) (fun b u q => ?_) (Nat.le_refl _) ⟨wl, out, e', q1, he'⟩, rfl, k.newL ex q2 _ hn⟩
    have hb : b < s.heap.objs.size := Heap.lt_size q
    show (sortedHeap (s.heap.push (seqObj "list" us.toArray 0)) s.heap.objs.size us out.toArray).get? b = some u
    rw [PyProof.Rows.sortedHeap_old (Nat.ne_of_lt hb) (by rw [size_push']; exact Nat.lt_succ_of_lt hb)]
    exact Heap.get?_push_of_some _ q
def strsD : List D → Option (List S)
  | [] => some []
  | .str x :: r => (strsD r).map (x :: ·)
  | _ :: _ => none
theorem strsD_some : ∀ {ds : List D} {xs : List S}, strsD ds = some xs → ds = xs.map .str
  | [], xs, h => by simp [strsD] at h; subst h; rfl
  | d :: ds, xs, h => by
    cases d with
    | str x =>
      simp only [strsD] at h
      cases e : strsD ds with
      | none => rw [e] at h; cases h
      | some ys => rw [e] at h; cases h; rw [strsD_some e]; rfl
    | _ => simp [strsD] at h
theorem intsD_some : ∀ {ds : List D} {xs : List Int}, intsD ds = some xs → ds = xs.map .int
  | [], xs, h => by simp [intsD] at h; subst h; rfl
  | d :: ds, xs, h => by
    cases d with
    | int x =>
      simp only [intsD] at h
      cases e : intsD ds with
      | none => rw [e] at h; cases h
      | some ys => rw [e] at h; cases h; rw [intsD_some e]; rfl
    | _ => simp [intsD] at h
theorem boolsD_some : ∀ {ds : List D} {xs : List Bool}, boolsD ds = some xs → ds = xs.map .bl
  | [], xs, h => by simp [boolsD] at h; subst h; rfl
  | d :: ds, xs, h => by
    cases d with
    | bl x =>
      simp only [boolsD] at h
      cases e : boolsD ds with
      | none => rw [e] at h; cases h
      | some ys => rw [e] at h; cases h; rw [boolsD_some e]; rfl
    | _ => simp [boolsD] at h
end
end MW

end
section
set_option Elab.async false
set_option linter.all false
set_option maxRecDepth 100000
set_option maxHeartbeats 2000000
namespace MW
open PySem PySem.Spec PyProof.Rows L2
section
variable {X : Cx} {fx : Fx} {F H : Hp}
theorem rep_key (k : Key) : Rep fx.K fx.ap F (kD k) (kV k) := by
  cases k with
  | inl i => exact .int i
  | inr x =>
    have := Rep.str (K := fx.K) (ap := fx.ap) (F := F) x.cps.toList
    rw [toStr_of] at this
    exact this
/-- the dict's keys as values -/
theorem each_keys {kvs : List (Key × V)} {acc : List Value} (hl : acc.length = kvs.length) (h : ∀ (j : Nat) (v : Value), acc[j]? = some v → ∃ k, (kvs.map (·.1))[j]? = some k ∧ keyIs k v = true) :
    PySem.W.EachIs (RV fx F) acc (kvs.map fun p => kD p.1) := by
  induction acc generalizing kvs with
  | nil =>
    cases kvs with
    | nil => exact .nil
    | cons _ _ => simp at hl
  | cons v acc ih =>
    cases kvs with
    | nil => simp at hl
    | cons p kvs =>
      refine .cons ?_ (ih (by simpa using hl) fun j w e => ?_)
      · obtain ⟨k, e, hk⟩ := h 0 v rfl
        simp at e
        subst e
        exact ⟨kV p.1, relV_key hk, rep_key p.1⟩
      · exact h (j + 1) w (by simpa using e)
/-- sorted(d), a dict's keys -/
def rSortedD (fx : Fx) : List V → Hp → VK → Prop := fun xs H Q => ∃ F x ks vs es, xs = [x] ∧ ExF F H ∧ BR fx F H (.dct false ks vs) x ∧ sortO ks = some es ∧ Kv fx F H (.lst es) Q
theorem cr_sortedD (hK : X.K = fx.K) (hcalm : X.calm = true) (hu : X.A.units + 110 < cLine) : CallR X (.builtin "sorted") (rSortedD fx) := by
  intro pins s σ H xs us Q I r q
  obtain ⟨F, x, ks, ws, es, rfl, ex, hx, hs, k⟩ := q
  obtain ⟨u, rfl, rx⟩ := vals1 r
  obtain ⟨a, kvs, rfl, hd, rfl, r1⟩ := hx.dK ex
  cases rx
  obtain ⟨z, lo, vs, rel, dd⟩ := dk_rd I.hok hd
  obtain ⟨ep, hat⟩ := dd.dictAt
  have hl : vs.length = kvs.length := rel.length.symm
  have h16 : vs.length ≤ sizeLine := by omega
  refine Calls.call_function_entry PyProof.Rows.kind_sorted PyProof.Rows.plain_sorted PyProof.Rows.entry_sorted (PyProof.Rows.args_sorted1 _) ?_
  unfold Builtin.«sorted»
  refine wpAny_bind (m := checkCount "sorted" 1 1 _) (wpAny_pure ?_)
  refine wpAny_bind (PySem.W.kdu_collect (A := X.A.in1) (PySem.W.kdl_dict (knd := mixKind X.prog X.w) (kvs := vs) (ep := ep) lo) (I.ok.hd hcalm) hat h16 fun h' tk acc hk hacc => ?_)
  have hal : acc.toList.length = kvs.length := by rw [Array.length_toList, hacc.1, hl]
  have e : PySem.W.EachIs (RV fx F) acc.toList (kvs.map fun p => kD p.1) := each_keys hal fun j v e => by
    obtain ⟨k, x, e1, e2⟩ := hacc.2 j v (by rw [← Array.getElem?_toList]; exact e)
    refine ⟨k, ?_, e2⟩
    rw [rel.keys, List.getElem?_map, e1]; rfl
  have I1 : Inv X pins σ H { s with heap := h', toks := tk } := I.kept hk
  refine wpAny_bind (wpAny_newList ?_ (by rw [hal]; exact z))
  refine wpAny_bind (wpAny_holding (wpAny_mono (sort_laid (A := X.A.in1) hK I1 ex (by show X.A.units + 1 + 100 < cLine; omega) (by rw [hal]; exact z) e hs k) (fun _ s' hq => ?_) fun _ _ e => e))
  exact wpAny_pure ⟨_, rfl, hq⟩

/-! ### sorted(d.items()) -/
/-- the pairs that were made are tracked -/
theorem pairs_laid {pins : List (Addr × Obj)} {σ : L2.St} {s : Shared} {h' : Heap} {tk : Nat} {lo : Addr} {kvs : List (Key × V)} {vs : List (Key × Value)} {es : Array DictEntry} {as : List Addr} (I : Inv X pins σ H s)
    (kv : KV kvs vs) (pr : Pairs (mixKind X.prog X.w) es.toList vs) (hlo : s.heap.objs.size ≤ lo) (hk : ∀ b o, s.heap.get? b = some o → h'.get? b = some o) (hl : as.length = es.size) (hG : DT.Made es lo h' as) :
    ∃ H' : Hp, (∀ b o, H b = some o → H' b = some o) ∧ (∀ t ∈ as, H t = none) ∧ (∀ b, b ∉ as → H' b = H b) ∧ Paired (fun (t : Addr) (q : Key × V) => H' t = some (.tup [kV q.1, q.2])) as kvs ∧ Inv X pins σ H' { s with heap := h', toks := tk } := by
  have lk : kvs.length = vs.length := Paired.length kv
  have le : es.size = vs.length := by have := pr.length; rw [Array.length_toList] at this; exact this
  have nd : as.Nodup := List.Pairwise.imp (fun {a b} (h : a < b) => Nat.ne_of_lt h) hG.rise
  have new : ∀ t ∈ as, H t = none := fun t ht => I.hok.fresh (Nat.le_trans hlo (Nat.le_of_lt (hG.above t ht)))
  have atP := LiI.putT_at as kvs H (by omega) nd
  have off : ∀ b, b ∉ as → LiI.putT H as kvs b = H b := fun b h1 => LiI.putT_off as kvs _ h1
  have kp : ∀ b u, H b = some u → (LiI.putT H as kvs) b = some u := fun b u e => by
    rw [off b (fun z => by rw [new b z] at e; cases e)]
    exact e
  have prg : ∀ {es : List DictEntry} {vs : List (Key × Value)}, Pairs (mixKind X.prog X.w) es vs → ∀ (j : Nat) (e : DictEntry), es[j]? = some e → ∃ k, vs[j]? = some (k, e.val) ∧ keyIs k e.key = true := by
    intro es vs p
    induction p with
    | nil => intro j e h; simp at h
    | @cons e0 kv0 es0 vs0 h1 h2 t ih =>
      intro j e h
      cases j with
      | zero =>
        simp at h; subst h
        refine ⟨kv0.1, ?_, h1⟩
        rw [h2]; rfl
      | succ j => exact ih j e (by simpa using h)
  refine ⟨LiI.putT H as kvs, kp, new, off, atP, ?_⟩
  have low : ∀ b o, s.heap.get? b = some o → b ∉ as := fun b o e z => absurd (Heap.lt_size e) (Nat.not_lt.mpr (Nat.le_trans hlo (Nat.le_of_lt (hG.above b z))))
  refine I.call' (ch := []) rfl ⟨fun b o q _ _ _ => hk b o q, fun b o q _ _ _ => ⟨o.slots, hk b o q⟩, fun b o q n _ => ?_, fun b o q _ => ⟨o, hk b o q⟩, fun b xs q => kp b _ q, fun b o u q => kp b _ q, fun b ps q => ⟨#[], by rw [kp b _ q]; simp⟩⟩ (fun b u q => ?_) I.bare fun b z => by simp at z
  · rw [off b (low b o q)]
    exact n
  · by_cases hb : b ∈ as
    · obtain ⟨j, pk, e1, e2, e3⟩ := LiI.paired_ix atP hb
      rw [e3] at q
      cases q
      obtain ⟨en, f1, f3⟩ := hG.pairs j b e1
      obtain ⟨k, f2, f4⟩ := prg pr j en (by rw [Array.getElem?_toList]; exact f1)
      obtain ⟨qv, g1, g2, g3⟩ := LiI.paired_get kv e2
      rw [f2] at g1
      cases g1
      refine ⟨by show 2 ≤ sizeLine; decide, [en.key, en.val], .cons ?_ (.cons g3 .nil), ⟨_, f3, rfl, _, rfl⟩⟩
      rw [g2]
      exact relV_key f4
    · rw [off b hb] at q
      exact (I.hok b u q).stay (fun d v _ y => hk d v y) (fun d y => kp d _ y) fun d xs y => kp d _ y
theorem each_pairs {F' : Hp} (ef : Ex F F') : ∀ {as : List Addr} {kvs : List (Key × V)} {ds : List D}, Paired (fun (t : Addr) (q : Key × V) => F' t = some (.tup [kV q.1, q.2])) as kvs → RepL fx.K fx.ap F ds (kvs.map (·.2)) →
    PySem.W.EachIs (RV fx F') (as.map Value.ref) (zipL (kvs.map fun p => kD p.1) ds)
  | _, _, _, .nil, .nil => by simp only [List.map_nil, zipL]; exact .nil
  | _, _, _, .cons h t, .cons r rs => by
    simp only [List.map_cons, zipL]
    exact .cons ⟨V.ref _, rfl, .tup h (.cons (rep_key _) (.cons (r.mono ef) .nil))⟩ (each_pairs ef t rs)
/-- sorted(e.items()) -/
def tSortedItems (fx : Fx) (te : TE) : TE := fun σ H Q => te σ H fun x H1 => ∃ F ks vs es, ExF F H1 ∧ BR fx F H1 (.dct false ks vs) x ∧ sortO (zipL ks vs) = some es ∧ Kv fx F H1 (.lst es) Q
theorem pe_sortedItems {e : Expr} {te : TE} {p apos cpos pos : Pos} (hK : X.K = fx.K) (hc : X.calm = true) (hu : X.A.units + 110 < cLine) (he : PE X e te) (hg : Gl X "sorted") (hm : X.mg "sorted" = none)
    (hbase : attributeBase e "items" X.env (eval e X.env) = eval e X.env) (hline : (apos.endLine == cpos.line) = true) :
    PE X (.Call (.Name "sorted" p) [.Call (.Attribute e "items" apos) [] [] cpos] [] pos) (tSortedItems fx te) := by
  have hs : starEach [.Call (.Attribute e "items" apos) [] [] cpos] X.env = (false, eval (.Call (.Attribute e "items" apos) [] [] cpos) X.env) :: starEach [] X.env := by rfl
  refine ⟨fun pins s σ H Q I hq => ?_⟩
  refine wpAny_Call_Name_kw (ld_blt I hg hm boot_sorted ?_)
  refine PyProof.Rows.callWith_builtin1 ?_ hs rfl
  rw [hs]
  show wpAny _ _ (spliced ((false, eval (.Call (.Attribute e "items" apos) [] [] cpos) X.env) :: backTo pos (starEach [] X.env))) _ _ s
  refine Calls.spliced_cons ?_
  refine wpAny_Call_method (T := "dict") (id := "dict.items") hbase rfl hline PySem.F.plainAttrs_dict PySem.F.slot_dict_items PySem.F.type_dict_items (thn (he.run pins s σ H _ I hq) fun u s1 ⟨x, H1, I1, rx, F, ks, ws, es, ex, hx, hso, k⟩ => ?_)
  obtain ⟨d, kvs, rfl, hd, rfl, rr⟩ := hx.dK ex
  obtain rfl : u = Value.ref d := rx
  obtain ⟨hz, hs0, vs, kv, hdo⟩ := dk_rd I1.hok hd
  have lk : kvs.length = vs.length := Paired.length kv
  have I2 : Inv X pins σ H1 { s1 with heap := s1.heap.push { cls := .type "dict_items", data := .fields #[.ref d] } } := I1.kept (t' := s1.toks) fun b ob q => Heap.get?_push_of_some _ q
  refine ⟨hdo.typeIs, hdo.mapOf.noDict, ?_⟩
  show wpAny _ _ (callWith cpos (.builtin "dict.items") [.ref d] [] []) _ X.xe s1
  refine method_meetsIn PySem.F.slot_dict_items PySem.F.entry_dict_items rfl (PySem.evalArgs_none ⟨rfl, hdo.typeIs, PySem.F.args_dict_items_1 _, _, meets_dict_items (mixKind X.prog X.w) d hs0, ⟨vs, hdo⟩, ?_⟩)
  refine Calls.spliced_nil ?_
  obtain ⟨o, en, ep, ho, hxd, hdt, hko, hpr, hnd⟩ := id hdo
  have hsz : en.size = vs.length := by have := hpr.length; rw [Array.length_toList] at this; exact this
  refine DT.sortedI (es := en) (ep := ep) (d := d) (I1.ok.hd hc) ⟨_, Heap.get?_push_size _ rfl, rfl, rfl⟩ ⟨o, Heap.get?_push_of_some _ ho, hxd, hdt⟩ (by omega) fun h' tk as hk hlt hl hG => ?_
  obtain ⟨H', k1, k2, k3, k4, J⟩ := pairs_laid (tk := tk) I2 kv hpr (Nat.le_refl _) hk hl hG
  -- the still part with the pairs
  have hF : ∀ b, b ∈ as → F b = none := fun b hb => ex.free (k2 b hb)
  have lak : as.length = kvs.length := by omega
  have nd : as.Nodup := List.Pairwise.imp (fun {a b} (h : a < b) => Nat.ne_of_lt h) hG.rise
  have ef : Ex F (LiI.putT F as kvs) := fun b u q => by
    rw [LiI.putT_off as kvs _ (fun z => by rw [hF b z] at q; cases q)]
    exact q
  have atF := LiI.putT_at as kvs F lak nd
  have g : Grow F H1 (LiI.putT F as kvs) H' := by
    refine ⟨ef, k1, fun b u q => ?_, fun b u q => ?_⟩
    · by_cases hb : b ∈ as
      · obtain ⟨j, pk, e1, e2, e3⟩ := LiI.paired_ix atF hb
        obtain ⟨pk', e2', e3'⟩ := LiI.paired_get k4 e1
        rw [e2] at e2'
        cases e2'
        rw [e3] at q
        cases q
        exact .inl e3'
      · rw [LiI.putT_off as kvs _ hb] at q
        rcases ex b u q with z | ⟨z, od, y⟩
        · exact .inl (k1 _ _ z)
        · exact .inr ⟨z, od, k1 _ _ y⟩
    · by_cases hb : b ∈ as
      · obtain ⟨j, pk, e1, e2, e3⟩ := LiI.paired_ix atF hb
        obtain ⟨pk', e2', e3'⟩ := LiI.paired_get k4 e1
        rw [e2] at e2'
        cases e2'
        rw [e3] at q
        cases q
        exact .inr ⟨k2 b hb, e3'⟩
      · rw [LiI.putT_off as kvs _ hb] at q
        exact .inl q
  have ea := each_pairs (fx := fx) ef atF rr
  refine thn (sort_laid (A := X.A.in1) hK J g.ex (by show X.A.units + 1 + 100 < cLine; omega) (by rw [List.length_map]; omega) ea hso (fun v H2 F2 g2 r2 => k v H2 F2 ⟨g.f.trans g2.f, g.h.trans g2.h, g2.ex, fun b u q => ?_⟩ r2)) fun _ s' hq => hq
  rcases g2.nw b u q with z | ⟨z, zz⟩
  · rcases g.nw b u z with z | ⟨z, y⟩
    · exact .inl z
    · exact .inr ⟨z, g2.h b u y⟩
  · right
    cases y : H1 b with
    | none => exact ⟨rfl, zz⟩
    | some w => rw [k1 _ _ y] at z; cases z
end
end MW

end
section
set_option Elab.async false
set_option linter.all false
set_option maxRecDepth 100000
set_option maxHeartbeats 4000000
namespace MW
open PySem PySem.Spec PyProof.Rows L2
/-! ### plain tuples, dicts made of pairs -/
section
variable {fx : Fx} {P : Ctx} {X : Cx}
theorem any_K (k : Key) (kvs : List (Key × V)) : (kvs.map fun p => kD p.1).any (fun a => sameD a (kD k)) = kvs.any fun kv => decide (kv.1 = k) := by
  induction kvs with
  | nil => rfl
  | cons p r ih => simp only [List.map_cons, List.any_cons, same_key, ih]
theorem dset_K {F : Hp} {k : Key} {d : D} {v : V} (r : Rep fx.K fx.ap F d v) : ∀ {kvs : List (Key × V)} {vs : List D}, RepL fx.K fx.ap F vs (kvs.map (·.2)) →
    RepL fx.K fx.ap F (dset (kD k) d (kvs.map fun p => kD p.1) vs) ((kvs.map fun kv => if kv.1 = k then (kv.1, v) else kv).map (·.2))
  | [], _, .nil => .nil
  | p :: kvs, _, .cons (d := d0) h t => by
    simp only [List.map_cons, dset, same_key]
    refine .cons ?_ (dset_K r t)
    by_cases e : p.1 = k
    · simp only [e, decide_true, if_true]; exact r
    · simp only [e, decide_false, Bool.false_eq_true, if_false]; exact h
theorem dput_K {F : Hp} {k : Key} {d : D} {v : V} (r : Rep fx.K fx.ap F d v) {kvs : List (Key × V)} {vs : List D} (h : RepL fx.K fx.ap F vs (kvs.map (·.2))) :
    (dput (kD k) d (kvs.map fun p => kD p.1) vs).1 = (putK kvs k v).map (fun p => kD p.1) ∧ RepL fx.K fx.ap F (dput (kD k) d (kvs.map fun p => kD p.1) vs).2 ((putK kvs k v).map (·.2)) := by
  unfold dput putK
  rw [any_K]
  by_cases e : (kvs.any fun kv => decide (kv.1 = k)) = true
  · simp only [e, if_true]
    refine ⟨?_, dset_K r h⟩
    rw [List.map_map]
    refine List.map_congr_left fun p _ => ?_
    by_cases e : p.1 = k <;> simp [e]
  · simp only [e]
    simp only [Bool.false_eq_true, if_false, List.map_append, List.map_cons, List.map_nil, true_and]
    exact h.app (RepL.one r)
theorem key_ok_flat {k : D} (ok : keyOk false k = true) : ∃ ky, kD ky = k := by
  apply key_of_flat
  cases k with
  | tup zs => cases zs <;> simp [keyOk] at ok
  | _ => simp [keyOk, flatK] at ok ⊢

theorem call_ptuple : CallR X (.type "tuple") (fun xs H Q => ∃ p ys, xs = [.ref p] ∧ SqL X.K H p ys ∧ ∀ l o, H l = none → o.dict = none → Q (.ref l) (upd H l (.frz o (.tup ys)))) := by
  intro pins s σ H xs us Q I r h
  obtain ⟨p, ys, rfl, hq, q⟩ := h
  obtain ⟨u, rfl, rx⟩ := vals1 r
  cases rx
  obtain ⟨its, r', pl, hz⟩ := I.list hq
  have hlen := r'.length
  apply call_tuple_list pl.isList (fun h' kp => ?_) (by simp only [List.size_toArray]; omega)
  have I1 : Inv X pins σ H { s with heap := h' } := I.kept (t' := s.toks) kp
  let o : Obj := { cls := .type "tuple", data := .seq its.toArray }
  have I2 : Inv X pins σ (upd H h'.objs.size (.frz o (.tup ys))) { s with heap := h'.push o } := by
    apply I1.laid (t' := s.toks) (fun b o e => Heap.get?_push_of_some _ e) (Nat.le_refl _)
    exact ⟨Heap.get?_push_size _ rfl, hz, its, r', IsTup.new _ _⟩
  exact ⟨.ref h'.objs.size, _, I2, rfl, q _ _ (I1.hok.fresh (Nat.le_refl _)) rfl⟩
theorem newPT {F H : Hp} {Q : VK} (ex : ExF F H) {ds : List D} {xs : List V} (k : Kv fx F H (.ctup true ds) Q) (r : RepL fx.K fx.ap F ds xs) : ∀ p o, H p = none → o.dict = none → Q (.ref p) (upd H p (.frz o (.tup xs))) :=
  fun p o hp ho => k _ _ _ (Grow.new ex _ hp) (.ctup (.inl (.inr ⟨o, upd_same⟩)) (fun _ => .inl ⟨o, xs, upd_same, ho⟩) (r.mono (Ex.new (ex.free hp))))
theorem pairs2 {pins : List (Addr × Obj)} {σ : L2.St} {H : Hp} {s : Shared} (I : Inv X pins σ H s) : ∀ {ps : List Addr} {kvs : List (Key × V)}, Paired (fun p kv => SqT X.K H p [kV kv.1, kv.2]) ps kvs →
    ∃ (prs : List (Key × Value)) (uvs : List (Value × Value)), KV kvs prs ∧ prs.length = ps.length ∧ uvs.length = ps.length ∧ ∀ (j : Nat) (u v : Value), uvs[j]? = some (u, v) → ∃ b k, ps[j]? = some b ∧ prs[j]? = some (k, v) ∧ IsTup s.heap b #[u, v] ∧ keyIs k u = true
  | _, _, .nil => ⟨[], [], .nil, rfl, rfl, fun j u v e => by simp at e⟩
  | _, _, .cons (a := p) (b := kv) h t => by
    obtain ⟨prs, uvs, r, l1, l2, hp⟩ := pairs2 I t
    obtain ⟨its, rv, ht, _⟩ := I.tuple h
    obtain ⟨u, y, rfl, ru, ry⟩ := vals2 rv
    refine ⟨(kv.1, y) :: prs, (u, y) :: uvs, .cons ⟨rfl, ry⟩ r, by simp [l1], by simp [l2], fun j a b e => ?_⟩
    cases j with
    | zero =>
      cases e
      exact ⟨p, kv.1, rfl, rfl, ht, kV_is (P := X.prog) (w := X.w) ru⟩
    | succ j => exact hp j a b (by simpa using e)
theorem call_dictPT (hcalm : X.calm = true) : CallR X (.type "dict") (fun xs H Q => ∃ (a : Addr) (ps : List Addr) (kvs : List (Key × V)), xs = [.ref a] ∧ SqT X.K H a (ps.map V.ref) ∧ PlainT X.K H a ∧ Paired (fun p kv => SqT X.K H p [kV kv.1, kv.2]) ps kvs ∧
    ∀ p, H p = none → Q (.ref p) (upd H p (.dK (mergeK [] kvs)))) := by
  intro pins s σ H xs us Q I r q
  obtain ⟨a, ps, kvs, rfl, hq, hpl, hp, q⟩ := q
  obtain ⟨u, rfl, rx⟩ := vals1 r
  cases rx
  obtain ⟨its, rv, pl, hz⟩ := I.tuple hq
  cases refs_at rv
  obtain ⟨prs, uvs, rel, l1, l2, hpr⟩ := pairs2 I hp
  rw [List.length_map] at hz
  have plain : PySem.PlainSeq "tuple" s.heap a (ps.map Value.ref).toArray := by
    obtain ⟨o, ho, hc, n, hd⟩ := pl
    have e : ∃ o', s.heap.get? a = some o' ∧ o'.dict = none := by
      rcases hpl with ⟨o', xs, h1, h2⟩ | ⟨o', h1, h2⟩
      · exact ⟨o', (I.hok a _ h1).1, h2⟩
      · exact ⟨o', I.kIn a o' h1, h2⟩
    obtain ⟨o', e1, e2⟩ := e
    rw [ho] at e1; cases e1
    exact ⟨o, n, ho, hc, e2, hd⟩
  have items : PySem.PairItems s.heap (ps.map Value.ref).toArray (fun j => ps.getD j 0) uvs := by
    refine ⟨by simp [l2], fun j k v e => ?_⟩
    obtain ⟨b, k', h1, h2, h3, h4⟩ := hpr j k v e
    have hb : ps.getD j 0 = b := by simp [List.getD, h1]
    refine ⟨by simp [h1], .inl ?_⟩
    show s.heap.IsTuple (ps.getD j 0) #[k, v]
    rw [hb]
    obtain ⟨o, e1, e2, n, e3⟩ := h3
    exact ⟨o, e1, e2, n, e3⟩
  refine PySem.call_dict_pairs (knd := mixKind X.prog X.w) (kvs := prs) (PySem.PairArg.tuple a (ps.map Value.ref).toArray (fun j => ps.getD j 0) uvs) (I.ok.hd hcalm) ⟨plain, items⟩ ⟨by rw [l1, l2], fun i key v e => ?_⟩ (by rw [l2]; exact hz) fun h' tk hd' k => ?_
  · obtain ⟨b, k', h1, h2, h3, h4⟩ := hpr i key v e
    exact ⟨k', h2, h4⟩
  · have hm : (s.heap.objs.size == sysModules) = false := beq_eq_false_iff_ne.mpr (Nat.ne_of_gt I.big)
    have hlen : (mergeK [] kvs).length ≤ sizeLine := by
      have := length_mergeK kvs []
      have := rel.length
      simp at *
      omega
    exact ⟨.ref s.heap.objs.size, upd H s.heap.objs.size (.dK (mergeK [] kvs)), I.laid (t' := tk) (fun b o e => k b o (by simp) e) (Nat.le_refl _) (show ObjOk X.prog X.w _ _ _ (.dK (mergeK [] kvs)) from ⟨hlen, hm, merged [] prs, KV.merge rel .nil, hd'⟩), rfl, q _ (I.hok.fresh (Nat.le_refl _))⟩
/-- pairs in the heap and as data -/
theorem pair_rep {F H : Hp} (hK : X.K = fx.K) (ex : ExF F H) {d k v : D} {x : V} (h : pairD d = some (k, v)) (r : Rep fx.K fx.ap F d x) : ∃ p y z, x = .ref p ∧ SqT X.K H p [y, z] ∧ Rep fx.K fx.ap F k y ∧ Rep fx.K fx.ap F v z := by
  unfold pairD at h
  split at h
  · cases h
    obtain ⟨p, vs, rfl, h1, r1, _⟩ := BR.tup ex (fx := fx) (.inl r)
    cases r1 with | cons a t => cases t with | cons b t => cases t with | nil => exact ⟨p, _, _, rfl, by rw [hK]; exact h1, a, b⟩
  · cases h
    obtain ⟨p, vs, rfl, h1, r1⟩ := BR.ctup ex (fx := fx) (.inl r)
    cases r1 with | cons a t => cases t with | cons b t => cases t with | nil => exact ⟨p, _, _, rfl, by rw [hK]; exact h1, a, b⟩
  · cases h
theorem pairs_rep {F H : Hp} (hK : X.K = fx.K) (ex : ExF F H) : ∀ {ds : List D} {vs : List V} {kvs0 : List (Key × V)} {as ks ws : List D}, RepL fx.K fx.ap F ds vs → RepL fx.K fx.ap F as (kvs0.map (·.2)) → pairsD ds (kvs0.map (fun p => kD p.1), as) = some (ks, ws) →
    ∃ (ps : List Addr) (kvs : List (Key × V)), vs = ps.map V.ref ∧ Paired (fun p kv => SqT X.K H p [kV kv.1, kv.2]) ps kvs ∧ ks = (mergeK kvs0 kvs).map (fun p => kD p.1) ∧ RepL fx.K fx.ap F ws ((mergeK kvs0 kvs).map (·.2))
  | [], _, kvs0, as, ks, ws, .nil, r0, h => by
    cases h
    exact ⟨[], [], rfl, .nil, rfl, r0⟩
  | d :: ds, _, kvs0, as, ks, ws, .cons (v := x) rd t, r0, h => by
    simp only [pairsD] at h
    cases e : pairD d with
    | none => rw [e] at h; cases h
    | some q =>
      obtain ⟨k, v⟩ := q
      rw [e] at h
      dsimp only at h
      split at h
      · rename_i hok
        obtain ⟨ky, rfl⟩ := key_ok_flat hok
        obtain ⟨p, y, z, rfl, h1, r1, r2⟩ := pair_rep hK ex e rd
        have hv := keyR r1
        subst hv
        obtain ⟨q1, q2⟩ := dput_K (k := ky) r2 r0
        rw [show dput (kD ky) v (kvs0.map fun p => kD p.1) as = ((putK kvs0 ky z).map (fun p => kD p.1), (dput (kD ky) v (kvs0.map fun p => kD p.1) as).2) from Prod.ext q1 rfl] at h
        obtain ⟨ps, kvs, rfl, hp, e1, e2⟩ := pairs_rep hK ex t q2 h
        exact ⟨p :: ps, (ky, z) :: kvs, rfl, .cons h1 hp, e1, e2⟩
      · cases h
end
end MW

end
section
set_option Elab.async false
set_option linter.all false
set_option maxRecDepth 100000
set_option maxHeartbeats 2000000
namespace MW
open PySem PySem.Spec PyProof.Rows L2
def fB1 : B1 → Value
  | .len => .builtin "len" | .sorted => .builtin "sorted" | .tuple => .type "tuple" | .list => .type "list" | .int => .type "int" | .abs => .builtin "abs" | .str => .type "str" | .bool => .type "bool"
  | .any => .builtin "any" | .all => .builtin "all" | .sum => .builtin "sum" | .min => .builtin "min" | .max => .builtin "max" | .dict => .type "dict" | .ptuple => .type "tuple"
def rB1 (fx : Fx) (f : B1) : List V → Hp → VK → Prop := fun xs H Q => ∃ F x d z, xs = [x] ∧ ExF F H ∧ BR fx F H d x ∧ b1D f d = some z ∧ Kv fx F H z Q
section
variable {X : Cx} {fx : Fx} {F H : Hp}
theorem ints_of_rep {ns : List Int} {vs : List V} (r : RepL fx.K fx.ap F (ns.map .int) vs) : vs = ns.map V.int := by
  induction ns generalizing vs with
  | nil => cases r; rfl
  | cons n ns ih => cases r with | cons h t => cases h; rw [ih t]; rfl
theorem bls_of_rep {ns : List Bool} {vs : List V} (r : RepL fx.K fx.ap F (ns.map .bl) vs) : vs = ns.map V.bl := by
  induction ns generalizing vs with
  | nil => cases r; rfl
  | cons n ns ih => cases r with | cons h t => cases h; rw [ih t]; rfl
theorem foldmin_spec : ∀ (ns : List Int) (n : Int), (ns.foldl (fun a b => if b < a then b else a) n) ∈ n :: ns ∧ ∀ y ∈ n :: ns, (ns.foldl (fun a b => if b < a then b else a) n) ≤ y
  | [], n => by simp
  | m :: ns, n => by
    by_cases c : m < n
    · have e : (m :: ns).foldl (fun a b => if b < a then b else a) n = ns.foldl (fun a b => if b < a then b else a) m := by rw [List.foldl_cons, if_pos c]
      rw [e]
      obtain ⟨h1, h2⟩ := foldmin_spec ns m
      refine ⟨List.mem_cons_of_mem _ h1, fun y hy => ?_⟩
      have h3 := h2 m List.mem_cons_self
      rcases List.mem_cons.mp hy with e | hy
      · omega
      · exact h2 y hy
    · have e : (m :: ns).foldl (fun a b => if b < a then b else a) n = ns.foldl (fun a b => if b < a then b else a) n := by rw [List.foldl_cons, if_neg c]
      rw [e]
      obtain ⟨h1, h2⟩ := foldmin_spec ns n
      have h3 := h2 n List.mem_cons_self
      refine ⟨?_, fun y hy => ?_⟩
      · rcases List.mem_cons.mp h1 with e | h1
        · rw [e]; exact List.mem_cons_self
        · exact List.mem_cons_of_mem _ (List.mem_cons_of_mem _ h1)
      · rcases List.mem_cons.mp hy with e | hy
        · omega
        · rcases List.mem_cons.mp hy with e | hy
          · omega
          · exact h2 y (List.mem_cons_of_mem _ hy)
theorem foldmax_spec : ∀ (ns : List Int) (n : Int), (ns.foldl (fun a b => if a < b then b else a) n) ∈ n :: ns ∧ ∀ y ∈ n :: ns, y ≤ (ns.foldl (fun a b => if a < b then b else a) n)
  | [], n => by simp
  | m :: ns, n => by
    by_cases c : n < m
    · have e : (m :: ns).foldl (fun a b => if a < b then b else a) n = ns.foldl (fun a b => if a < b then b else a) m := by rw [List.foldl_cons, if_pos c]
      rw [e]
      obtain ⟨h1, h2⟩ := foldmax_spec ns m
      refine ⟨List.mem_cons_of_mem _ h1, fun y hy => ?_⟩
      have h3 := h2 m List.mem_cons_self
      rcases List.mem_cons.mp hy with e | hy
      · omega
      · exact h2 y hy
    · have e : (m :: ns).foldl (fun a b => if a < b then b else a) n = ns.foldl (fun a b => if a < b then b else a) n := by rw [List.foldl_cons, if_neg c]
      rw [e]
      obtain ⟨h1, h2⟩ := foldmax_spec ns n
      have h3 := h2 n List.mem_cons_self
      refine ⟨?_, fun y hy => ?_⟩
      · rcases List.mem_cons.mp h1 with e | h1
        · rw [e]; exact List.mem_cons_self
        · exact List.mem_cons_of_mem _ (List.mem_cons_of_mem _ h1)
      · rcases List.mem_cons.mp hy with e | hy
        · omega
        · rcases List.mem_cons.mp hy with e | hy
          · omega
          · exact h2 y (List.mem_cons_of_mem _ hy)
theorem omap {α β : Type} {o : Option α} {f : α → β} {z : β} (h : o.map f = some z) : ∃ a, o = some a ∧ f a = z := by
  cases o with
  | none => cases h
  | some a => exact ⟨a, rfl, Option.some.inj h⟩
theorem obind {α β : Type} {o : Option α} {f : α → Option β} {z : β} (h : o.bind f = some z) : ∃ a, o = some a ∧ f a = some z := by
  cases o with
  | none => cases h
  | some a => exact ⟨a, rfl, h⟩
theorem itoS_str (i : Int) : toStr (itoS i) = (toString i : String) := by
  unfold itoS toStr
  exact (Str.ofString_eq_toList _).symm
theorem cr_b1 (hK : X.K = fx.K) (hc : X.calm = true) (hu : X.A.units + 110 < cLine) (f : B1) : CallR X (fB1 f) (rB1 fx f) := by
  intro pins s σ H xs us Q I r h
  obtain ⟨F, x, d, z, rfl, ex, hx, hz, k⟩ := h
  have hs : sizeLine = 16777216 := sizeLine_eq
  cases f with
  | len =>
    have go : ∀ n : Nat, LenV X.K x H n → z = .int n → wpAny (model X.prog X.w) X.A (call (.builtin "len") us) (EP X pins σ Q) X.xe s := fun n hn e => by
      subst e
      exact call_len pins s σ H _ us Q I r ⟨x, n, rfl, hn, k.here ex (.int _)⟩
    cases d with
    | lst ds =>
      cases hz
      obtain ⟨p, vs, rfl, h1, r1⟩ := hx.lst ex
      exact go _ (.inl ⟨vs, SqL.of h1, rfl⟩) (by rw [r1.len])
    | tup ds =>
      cases hz
      obtain ⟨p, vs, rfl, h1, r1, _⟩ := hx.tup ex
      exact go _ (.inr ⟨vs, by rw [hK]; exact h1, rfl⟩) (by rw [r1.len])
    | ctup pl ds =>
      cases hz
      obtain ⟨p, vs, rfl, h1, r1⟩ := hx.ctup ex
      exact go _ (.inr ⟨vs, by rw [hK]; exact h1, rfl⟩) (by rw [r1.len])
    | str y =>
      simp only [b1D] at hz
      split at hz
      · rename_i hl
        have hl := of_decide_eq_true hl
        cases hz
        cases hx.str
        exact go _ ⟨by rw [toStr_len]; omega, rfl⟩ (by rw [toStr_len])
      · cases hz
    | dct t ks vs =>
      cases t with
      | true => cases hz
      | false =>
        cases hz
        obtain ⟨p, kvs, rfl, h1, rfl, r1⟩ := hx.dK ex
        obtain ⟨u, rfl, rx⟩ := vals1 r
        cases rx
        refine d_len I h1 fun t s' I' => ⟨.int kvs.length, H, I', ⟨t, rfl⟩, ?_⟩
        rw [List.length_map] at k
        exact k.here ex (.int _)
    | _ => simp [b1D] at hz
  | sorted =>
    cases d with
    | lst ds =>
      obtain ⟨es, h1, rfl⟩ := omap hz
      exact cr_sortedL hK (by omega) pins s σ H _ us Q I r ⟨F, x, ds, es, rfl, ex, hx, h1, k⟩
    | dct t ks vs =>
      cases t with
      | true => cases hz
      | false =>
        obtain ⟨es, h1, rfl⟩ := omap hz
        exact cr_sortedD hK hc hu pins s σ H _ us Q I r ⟨F, x, ks, vs, es, rfl, ex, hx, h1, k⟩
    | _ => simp [b1D] at hz
  | tuple =>
    cases d with
    | lst ds =>
      cases hz
      obtain ⟨p, vs, rfl, h1, r1⟩ := hx.lst ex
      exact call_tuple_of pins s σ H _ us Q I r ⟨p, vs, rfl, .inl ⟨SqL.of h1, k.newT ex r1⟩⟩
    | tup ds =>
      cases hz
      obtain ⟨p, vs, rfl, h1, r1, w⟩ := hx.tup ex
      exact call_tuple_of pins s σ H _ us Q I r ⟨p, vs, rfl, .inr ⟨by rw [hK]; exact h1, k.here ex w⟩⟩
    | _ => simp [b1D] at hz
  | list =>
    cases d with
    | lst ds =>
      cases hz
      obtain ⟨p, vs, rfl, h1, r1⟩ := hx.lst ex
      exact call_list_of pins s σ H _ us Q I r ⟨p, vs, rfl, .inl (SqL.of h1), k.newL ex r1⟩
    | tup ds =>
      cases hz
      obtain ⟨p, vs, rfl, h1, r1, w⟩ := hx.tup ex
      exact call_list_of pins s σ H _ us Q I r ⟨p, vs, rfl, .inr (by rw [hK]; exact h1), k.newL ex r1⟩
    | ctup pl ds =>
      cases hz
      obtain ⟨p, vs, rfl, h1, r1⟩ := hx.ctup ex
      exact call_list_of pins s σ H _ us Q I r ⟨p, vs, rfl, .inr (by rw [hK]; exact h1), k.newL ex r1⟩
    | _ => simp [b1D] at hz
  | int =>
    cases d with
    | int i => cases hz; cases hx.int; exact call_int1 pins s σ H _ us Q I r (.inl ⟨i, rfl, k.here ex (.int _)⟩)
    | bl b => cases hz; cases hx.bl; exact call_int1 pins s σ H _ us Q I r (.inr ⟨b, rfl, k.here ex (.int _)⟩)
    | _ => simp [b1D] at hz
  | abs =>
    cases d with
    | int i => cases hz; cases hx.int; exact call_abs pins s σ H _ us Q I r ⟨i, rfl, k.here ex (.int _)⟩
    | _ => simp [b1D] at hz
  | str =>
    cases d with
    | int i =>
      simp only [b1D] at hz
      split at hz
      · rename_i hl
        have hl := of_decide_eq_true hl
        cases hz; cases hx.int
        refine call_str_int pins s σ H _ us Q I r ⟨i, rfl, ?_, ?_⟩
        · have : i.natAbs < 2 ^ 34 := by omega
          have := PySem.Flt.log2_lt_of (by decide : 0 < 34) this
          omega
        · have := k.here ex (Rep.str _)
          rw [itoS_str] at this
          exact this
      · cases hz
    | _ => simp [b1D] at hz
  | bool =>
    cases d with
    | int i => cases hz; cases hx.int; exact call_bool1 pins s σ H _ us Q I r (.inl ⟨i, rfl, k.here ex (.bl _)⟩)
    | bl b => cases hz; cases hx.bl; exact call_bool1 pins s σ H _ us Q I r (.inr ⟨b, rfl, k.here ex (.bl _)⟩)
    | _ => simp [b1D] at hz
  | any =>
    cases d with
    | lst ds =>
      obtain ⟨bs, h1, rfl⟩ := omap hz
      have := boolsD_some h1; subst this
      obtain ⟨p, vs, rfl, h1, r1⟩ := hx.lst ex
      have := bls_of_rep r1; subst this
      exact cr_any hc pins s σ H _ us Q I r ⟨p, bs, rfl, SqL.of h1, k.here ex (.bl _)⟩
    | _ => simp [b1D] at hz
  | all =>
    cases d with
    | lst ds =>
      obtain ⟨bs, h1, rfl⟩ := omap hz
      have := boolsD_some h1; subst this
      obtain ⟨p, vs, rfl, h1, r1⟩ := hx.lst ex
      have := bls_of_rep r1; subst this
      exact cr_all hc pins s σ H _ us Q I r ⟨p, bs, rfl, SqL.of h1, k.here ex (.bl _)⟩
    | _ => simp [b1D] at hz
  | sum =>
    cases d with
    | lst ds =>
      obtain ⟨bs, h1, rfl⟩ := omap hz
      have := intsD_some h1; subst this
      obtain ⟨p, vs, rfl, h1, r1⟩ := hx.lst ex
      have := ints_of_rep r1; subst this
      exact cr_sum hc pins s σ H _ us Q I r ⟨p, bs, rfl, SqL.of h1, k.here ex (.int _)⟩
    | _ => simp [b1D] at hz
  | min =>
    cases d with
    | lst ds =>
      obtain ⟨m, h0, rfl⟩ := omap hz
      obtain ⟨ns, h0', h2⟩ := obind h0
      have := intsD_some h0'; subst this
      clear h0 h0' hz
      obtain ⟨p, vs, rfl, h1, r1⟩ := hx.lst ex
      have := ints_of_rep r1; subst this
      cases ns with
      | nil => cases h2
      | cons n ns =>
        cases h2
        obtain ⟨f1, f2⟩ := foldmin_spec ns n
        refine cr_min hc pins s σ H _ us Q I r ⟨p, n :: ns, rfl, SqL.of h1, by simp, fun m hm hle => ?_⟩
        have e1 := hle _ f1
        have e2 := f2 _ hm
        have : m = ns.foldl (fun a b => if b < a then b else a) n := by omega
        rw [this]
        exact k.here ex (.int _)
    | _ => simp [b1D] at hz
  | max =>
    cases d with
    | lst ds =>
      obtain ⟨m, h0, rfl⟩ := omap hz
      obtain ⟨ns, h0', h2⟩ := obind h0
      have := intsD_some h0'; subst this
      clear h0 h0' hz
      obtain ⟨p, vs, rfl, h1, r1⟩ := hx.lst ex
      have := ints_of_rep r1; subst this
      cases ns with
      | nil => cases h2
      | cons n ns =>
        cases h2
        obtain ⟨f1, f2⟩ := foldmax_spec ns n
        refine cr_max hc pins s σ H _ us Q I r ⟨p, n :: ns, rfl, SqL.of h1, by simp, fun m hm hle => ?_⟩
        have e1 := hle _ f1
        have e2 := f2 _ hm
        have : m = ns.foldl (fun a b => if a < b then b else a) n := by omega
        rw [this]
        exact k.here ex (.int _)
    | _ => simp [b1D] at hz
  | dict =>
    cases d with
    | dct t ks vs =>
      cases t with
      | true => cases hz
      | false =>
        cases hz
        obtain ⟨p, kvs, rfl, h1, rfl, r1⟩ := hx.dK ex
        exact call_dictD pins s σ H _ us Q I r ⟨p, kvs, rfl, h1, k.newK ex rfl r1⟩
    | lst ds =>
      obtain ⟨q, h0, rfl⟩ := omap hz
      obtain ⟨p, vs, rfl, h1, r1⟩ := hx.lst ex
      obtain ⟨ps, kvs, rfl, hp, e1, e2⟩ := pairs_rep (kvs0 := []) hK ex r1 .nil h0
      exact call_dictP hc pins s σ H _ us Q I r ⟨p, ps, kvs, rfl, SqL.of h1, hp, k.newK ex e1 e2⟩
    | ctup pl ds =>
      cases pl with
      | false => simp [b1D] at hz
      | true =>
        obtain ⟨q, h0, rfl⟩ := omap hz
        rcases hx with hx | ⟨_, _, _, hx⟩
        · cases hx with
          | ctup h1 h2 r1 =>
            obtain ⟨ps, kvs, rfl, hp, e1, e2⟩ := pairs_rep (kvs0 := []) hK ex r1 .nil h0
            refine call_dictPT hc pins s σ H _ us Q I r ⟨_, ps, kvs, rfl, by rw [hK]; exact ex.sqT h1, ?_, hp, k.newK ex e1 e2⟩
            rcases h2 rfl with ⟨o, xs, g1, g2⟩ | ⟨o, g1, g2⟩
            · left
              rcases ex _ _ g1 with g | ⟨z, _⟩
              · exact ⟨o, xs, g, g2⟩
              · rcases z with ⟨_, z⟩ | ⟨_, z⟩ <;> cases z
            · exact .inr ⟨o, by rw [hK]; exact g1, g2⟩
        · exact hx.elim
    | _ => simp [b1D] at hz
  | ptuple =>
    cases d with
    | lst ds =>
      cases hz
      obtain ⟨p, vs, rfl, h1, r1⟩ := hx.lst ex
      exact call_ptuple pins s σ H _ us Q I r ⟨p, vs, rfl, SqL.of h1, newPT ex k r1⟩
    | _ => simp [b1D] at hz
def rB2 (fx : Fx) (f : B2) : List V → Hp → VK → Prop := fun xs H Q => ∃ F x y d e z, xs = [x, y] ∧ ExF F H ∧ BR fx F H d x ∧ BR fx F H e y ∧ b2D f d e = some z ∧ Kv fx F H z Q
def fB2 : B2 → Value | .min => .builtin "min" | .max => .builtin "max"
theorem cr_b2 (hc : X.calm = true) (f : B2) : CallR X (fB2 f) (rB2 fx f) := by
  intro pins s σ H xs us Q I r h
  obtain ⟨F, x, y, d, e, z, rfl, ex, hx, hy, hz, k⟩ := h
  cases f <;> cases d <;> cases e <;> simp [b2D] at hz
  · subst hz; cases hx.int; cases hy.int
    exact call_min2 hc pins s σ H _ us Q I r ⟨_, _, rfl, k.here ex (.int _)⟩
  · subst hz; cases hx.int; cases hy.int
    exact call_max2 hc pins s σ H _ us Q I r ⟨_, _, rfl, k.here ex (.int _)⟩
/-! ### isinstance -/
def tyS : Ty → String | .int => "int" | .bool => "bool" | .str => "str" | .list => "list" | .tuple => "tuple" | .dict => "dict"
def rIsiD (fx : Fx) (t : Ty) : List V → Hp → VK → Prop := fun xs H Q => ∃ F x d b, xs = [x, .ty (tyS t)] ∧ ExF F H ∧ BR fx F H d x ∧ isiD d t = some b ∧ Q (.bl b) H
theorem sqT_ty {K : PySem.W.Frag} {p : Addr} {vs : List V} (h : SqT K H p vs) : TyX K H (.ref p) (.type "tuple") := by
  rcases h with (h | ⟨o, h⟩) | ⟨o, its, n, h1, h2, h3⟩
  · exact .base (.tup h)
  · exact .fTuple h
  · exact .kTuple h1 h2
theorem cr_isi (hK : X.K = fx.K) (t : Ty) : CallR X (.builtin "isinstance") (rIsiD fx t) := by
  intro pins s σ H xs us Q I r h
  obtain ⟨F, x, d, b, rfl, ex, hx, hb, q⟩ := h
  have go : ∀ (a : String), TyX X.K H x (.type a) → kitB a (tyS t) = some b → wpAny (model X.prog X.w) X.A (call (.builtin "isinstance") us) (EP X pins σ Q) X.xe s := fun a h1 h2 =>
    call_isi pins s σ H _ us Q I r ⟨x, _, _, _, b, rfl, .ty _, h1, kit_ty h2, q⟩
  cases d with
  | non => cases hx.non; cases hb; exact go "NoneType" (.base .non) (by cases t <;> decide +kernel)
  | bl v => cases hx.bl; cases hb; exact go "bool" (.base (.bl _)) (by cases t <;> decide +kernel)
  | int v => cases hx.int; cases hb; exact go "int" (.base (.int _)) (by cases t <;> decide +kernel)
  | str v => cases hx.str; cases hb; exact go "str" (.base (.str _)) (by cases t <;> decide +kernel)
  | lst ds =>
    obtain ⟨p, vs, rfl, h1, _⟩ := hx.lst ex
    cases hb; exact go "list" (.base (.lst h1)) (by cases t <;> decide +kernel)
  | tup ds =>
    obtain ⟨p, vs, rfl, h1, _⟩ := hx.tup ex
    cases hb; exact go "tuple" (sqT_ty (by rw [hK]; exact h1)) (by cases t <;> decide +kernel)
  | dct tt ks vs =>
    cases tt with
    | true => cases hb
    | false =>
      obtain ⟨p, kvs, rfl, h1, _⟩ := hx.dK ex
      cases hb
      rcases h1 with h1 | ⟨o, h1⟩
      · exact go "dict" (.base (.dK h1)) (by cases t <;> decide +kernel)
      · exact go "dict" (.fDict h1) (by cases t <;> decide +kernel)
  | _ => cases hb
end
end MW

end
section
set_option Elab.async false
set_option linter.all false
set_option maxRecDepth 100000
set_option maxHeartbeats 2000000
namespace MW
open PySem PySem.Spec PyProof.Rows L2

/-! ### does a term tell what the text says? -/
def visB (sc : Scope) (x : Str) : Bool := match sc.names.lookup x with
  | some .local => true | some .cell => true | some .free => true | _ => false
def locB (sc : Scope) (x : Str) : Bool := match sc.names.lookup x with
  | some .local => true | some .cell => true | _ => false
def glB (sc : Scope) (x : Str) : Bool := match sc.names.lookup x with
  | some .globalImplicit => true | _ => false
def isStar : Expr → Bool | .Starred _ _ => true | _ => false
def isSet : Expr → Bool | .Set _ _ _ => true | _ => false
def isSlice : Expr → Bool | .Slice _ _ _ _ => true | _ => false
def isComp : Expr → Bool | .ListComp _ _ _ _ => true | .SetComp _ _ _ _ => true | .DictComp _ _ _ _ _ => true | _ => false
/-- an expression whose truth is that of its value -/
def plainT : Expr → Bool
  | .Name _ _ => true | .Call _ _ _ _ => true | .Subscript _ _ _ => true | .Attribute _ _ _ => true | .Constant _ _ _ => true | .List _ _ => true | .Tuple _ _ _ => true | .BinOp _ _ _ _ => true
  | .ListComp _ _ _ _ => true | .DictComp _ _ _ _ _ => true | .Dict _ _ _ => true | _ => false
def opB : Op → Operator → Bool
  | .add, .Add => true | .sub, .Sub => true | .mul, .Mult => true | .fdiv, .FloorDiv => true | .mod, .Mod => true | _, _ => false
def cpB : Cp → CmpOp → Bool
  | .eq, .Eq => true | .ne, .NotEq => true | .lt, .Lt => true | .le, .LtE => true | .gt, .Gt => true | .ge, .GtE => true
  | .is, .Is => true | .isn, .IsNot => true | .inn, .In => true | .nin, .NotIn => true | _, _ => false
def constB : D → Const → Bool
  | .non, .none => true
  | .bl b, .bool c => b == c
  | .int i, .int j => decide (i = j)
  | .str x, .str y => decide (toStr x = y)
  | _, _ => false
def b1S : B1 → String
  | .len => "len" | .sorted => "sorted" | .tuple => "tuple" | .list => "list" | .int => "int" | .abs => "abs" | .str => "str" | .bool => "bool"
  | .any => "any" | .all => "all" | .sum => "sum" | .min => "min" | .max => "max" | .dict => "dict" | .ptuple => "tuple"
def b2S : B2 → String | .min => "min" | .max => "max"
/-- the built-in names that the terms may use -/
def bnames : List String := ["len", "sorted", "tuple", "list", "int", "abs", "str", "bool", "any", "all", "sum", "min", "max", "dict", "isinstance", "range", "enumerate", "zip"]
def okName (x : Str) : Bool := !(x == ("__debug__" : Str)) && !(x == ("__classdict__" : Str)) && !(x == ("__name__" : Str))

/-- the parts of a list comprehension of two clauses -/
structure Lc2P where
  x : Expr
  t : Expr
  i : Expr
  ifs : List Expr
  t1 : Expr
  i1 : Expr
  ifs1 : List Expr
  scope : Scope
  pos : Pos
def lc2P : Expr → Option Lc2P
  | .ListComp x [⟨t, i, ifs, 0⟩, ⟨t1, i1, ifs1, 0⟩] scope pos => some ⟨x, t, i, ifs, t1, i1, ifs1, scope, pos⟩
  | _ => none
theorem lc2P_is {e : Expr} {q : Lc2P} (h : lc2P e = some q) : e = .ListComp q.x [⟨q.t, q.i, q.ifs, 0⟩, ⟨q.t1, q.i1, q.ifs1, 0⟩] q.scope q.pos := by
  unfold lc2P at h
  split at h
  · cases h; rfl
  · cases h
/-- the parts of {x: y for t in z.values() for t1 in u} -/
structure DcvP where
  x : Expr
  y : Expr
  t : Str
  tp : Pos
  z : Str
  zp : Pos
  f : Str
  ap : Pos
  cp : Pos
  t1 : Expr
  u : Str
  up : Pos
  scope : Scope
  pos : Pos
def dcvP : Expr → Option DcvP
  | .DictComp x y [⟨.Name t tp, .Call (.Attribute (.Name z zp) f ap) [] [] cp, [], 0⟩, ⟨t1, .Name u up, [], 0⟩] scope pos => some ⟨x, y, t, tp, z, zp, f, ap, cp, t1, u, up, scope, pos⟩
  | _ => none
theorem dcvP_is {e : Expr} {q : DcvP} (h : dcvP e = some q) : e = .DictComp q.x q.y [⟨.Name q.t q.tp, .Call (.Attribute (.Name q.z q.zp) q.f q.ap) [] [] q.cp, [], 0⟩, ⟨q.t1, .Name q.u q.up, [], 0⟩] q.scope q.pos := by
  unfold dcvP at h
  split at h
  · cases h; rfl
  · cases h
/-- no call of super alone -/
def superB : Expr → Bool | .Call _ _ _ _ => false | _ => true
section
variable (N : List Str)
def chkT : T → Expr → Scope → Bool
  | .nm i, e, sc => match e with | .Name x _ => decide (N[i]? = some x) && locB sc x | _ => false
  | .tup r, e, sc => match e with | .Tuple es _ _ => chkTs r es sc | _ => false
  | .tnil, _, _ => false
  | .tcons _ _, _, _ => false
where
  chkTs : T → List Expr → Scope → Bool
  | .tnil, es, _ => match es with | [] => true | _ => false
  | .tcons a r, es, sc => match es with | e :: es => !isStar e && chkT a e sc && chkTs r es sc | [] => false
  | .nm _, _, _ => false
  | .tup _, _, _ => false

def isV : E → Bool | .v _ => true | _ => false
/-- pairs are walked by a written tuple -/
def itOk : E → Expr → Bool
  | .enum _, .Tuple _ _ _ => true | .enum _, _ => false
  | .zip _ _, .Tuple _ _ _ => true | .zip _ _, _ => false
  | .items _, .Tuple _ _ _ => true | .items _, _ => false
  | _, _ => true
/-- a comprehension's own names with their places -/
def ownN (own : List Nat) : List (Str × Nat) := own.map fun i => (N.getD i "", i)
def isNone : Expr → Bool | .Constant .none _ _ => true | _ => false
def optE (f : Expr → Bool) : Option Expr → E → Bool
  | none, .k .non => true
  | some e, c => f e && !isNone e
  | _, _ => false
/-- a walk in a second clause: no dict by its name -/
def noLk : E → Bool
  | .items _ => false
  | .values _ => false
  | _ => true
def chkN (i : Nat) (x : Str) (sc : Scope) : Bool := decide (N[i]? = some x) && visB sc x && okName x
mutual
def chkE : E → Bool → Expr → Scope → Bool
  | .v i, m, e, sc => match e with
    | .Name x _ => decide (N[i]? = some x) && visB sc x && okName x
    | _ => false
  | .gv y, m, e, sc => match e with
    | .Name x _ => decide (x = Str.ofString y) && glB sc x && okName x
    | _ => false
  | .k d, m, e, _ => match e with
    | .Constant c _ _ => constB d c
    | _ => false
  | .bin o a b, m, e, sc => match e with
    | .BinOp l op r _ => opB o op && chkE a false l sc && chkE b false r sc
    | _ => false
  | .neg a, m, e, sc => match e with
    | .UnaryOp .USub l _ => chkE a false l sc
    | _ => false
  | .not a, m, e, sc => match e with
    | .UnaryOp .Not l _ => chkE a false l sc
    | _ => false
  | .cmp c a b, m, e, sc => match e with
    | .Compare l [op] [r] _ => cpB c op && chkE a false l sc && chkE b false r sc && !isSet r
    | _ => false
  | .cmp2 c c' a b d, m, e, sc => match e with
    | .Compare l [op, op'] [r, q] _ => cpB c op && cpB c' op' && chkE a false l sc && chkE b false r sc && chkE d false q sc && !isSet q
    | _ => false
  | .and a b, m, e, sc => match e with
    | .BoolOp .And (x :: y :: r) pos => chkE a false x sc && (match r with
      | [] => chkE b false y sc
      | _ :: _ => chkE b false (.BoolOp .And (y :: r) pos) sc)
    | _ => false
  | .or a b, m, e, sc => match e with
    | .BoolOp .Or (x :: y :: r) pos => chkE a false x sc && (match r with
      | [] => chkE b false y sc
      | _ :: _ => chkE b false (.BoolOp .Or (y :: r) pos) sc)
    | _ => false
  | .ite t a b, m, e, sc => match e with
    | .IfExp c x y _ => chkE t false c sc && chkE a false x sc && chkE b false y sc
    | _ => false
  | .tup as, m, e, sc => match e with
    | .Tuple es _ _ => chkA as es sc
    | _ => false
  | .lst as, m, e, sc => match e with
    | .List es _ => chkA as es sc
    | _ => false
  | .dK, m, e, _ => match e with
    | .Dict [] [] _ => true
    | _ => false
  | .dT, m, e, _ => match e with
    | .Dict [] [] _ => true
    | _ => false
  | .idx a i, m, e, sc => match e with
    | .Subscript x y _ => chkE a false x sc && chkE i false y sc && !isSlice y
    | _ => false
  | .slc a lo hi, m, e, sc => match e with
    | .Subscript x (.Slice l h none _) _ => chkE a false x sc &&
      (match l, lo with
        | none, .nth => true
        | some y, _ => chkE lo false y sc
        | _, _ => false) &&
      (match h, hi with
        | none, .nth => true
        | some y, _ => chkE hi false y sc
        | _, _ => false)
    | _ => false
  | .call f as _, m, e, sc => match e with
    | .Call (.Name x _) es [] _ => decide (x = Str.ofString f) && glB sc x && okName x && chkA as es sc
    | _ => false
  | .b1 f a, m, e, sc => match e with
    | .Call (.Name x _) [y] [] _ => decide (x = Str.ofString (b1S f)) && glB sc x && chkE a false y sc && !isStar y
    | _ => false
  | .b2 f a b, m, e, sc => match e with
    | .Call (.Name x _) [y, z] [] _ => decide (x = Str.ofString (b2S f)) && glB sc x && chkE a false y sc && chkE b false z sc && !isStar y && !isStar z
    | _ => false
  | .isi a t, m, e, sc => match e with
    | .Call (.Name x _) [y, .Name z _] [] _ => decide (x = Str.ofString "isinstance") && glB sc x && chkE a false y sc && !isStar y && decide (z = Str.ofString (tyS t)) && glB sc z
    | _ => false
  | .m1 mm o a, m, e, sc => match e with
    | .Call (.Attribute x f ap) [y] [] cp => decide (mm = "get") && decide (f = Str.ofString "get") && chkE o false x sc && chkE a false y sc && !isStar y && decide (ap.endLine = cp.line) && superB x
    | _ => false
  | .m2 mm o a b, m, e, sc => match e with
    | .Call (.Attribute x f ap) [y, z] [] cp => decide (mm = "get") && decide (f = Str.ofString "get") && chkE o false x sc && chkE a false y sc && chkE b false z sc && !isStar y && !isStar z && decide (ap.endLine = cp.line) && superB x
    | _ => false
  | .lc elt tg it test own, m, e, sc => match e with
    | .ListComp x [⟨t, i, ifs, 0⟩] scope _ => blkC N sc scope (ownN N own) && chkE it true i sc && itOk it t && chkT N tg t scope && (slotsT tg).all (fun i => own.contains i) && chkE elt false x (relS scope sc) &&
      (match ifs, test with
        | [], .k (.bl true) => true
        | [c], _ => chkE test false c (relS scope sc)
        | _, _ => false)
    | _ => false
  | .dc key val tg it test own, m, e, sc => match e with
    | .DictComp x y [⟨t, i, ifs, 0⟩] scope _ => blkC N sc scope (ownN N own) && chkE it true i sc && itOk it t && chkT N tg t scope && (slotsT tg).all (fun i => own.contains i) && chkE key false x (relS scope sc) && chkE val false y (relS scope sc) &&
      (match ifs, test with
        | [], .k (.bl true) => true
        | [c], _ => chkE test false c (relS scope sc)
        | _, _ => false)
    | _ => false
  | .lc2 elt tg it test tg1 it1 test1 own own1, m, e, sc => match lc2P e with
    | some q => blkC N sc q.scope (ownN N own) && chkE it true q.i sc && itOk it q.t && chkT N tg q.t q.scope && (slotsT tg).all (fun i => own.contains i) && own1.all (fun i => own.contains i) &&
      chkE it1 true q.i1 (relS q.scope sc) && itOk it1 q.t1 && noLk it1 && chkT N tg1 q.t1 q.scope && (slotsT tg1).all (fun i => own1.contains i) && chkE elt false q.x (relS q.scope sc) &&
      (match q.ifs, test with
        | [], .k (.bl true) => true
        | [c], _ => chkE test false c (relS q.scope sc)
        | _, _ => false) &&
      (match q.ifs1, test1 with
        | [], .k (.bl true) => true
        | [c], _ => chkE test1 false c (relS q.scope sc)
        | _, _ => false)
    | none => false
  | .dcv key val i0 j0 tg own own1, m, e, sc => match dcvP e with
    | some q => blkC N sc q.scope (ownN N own) && decide (q.f = Str.ofString "values") && decide (q.ap.endLine = q.cp.line) && chkN N i0 q.z sc &&
      decide (N[j0]? = some q.t) && locB q.scope q.t && own.contains j0 && chkN N j0 q.u (relS q.scope sc) && own1.all (fun i => own.contains i) && !own1.contains j0 && chkT N tg q.t1 q.scope && (slotsT tg).all (fun i => own1.contains i) && chkE key false q.x (relS q.scope sc) && chkE val false q.y (relS q.scope sc)
    | none => false
  | .sitems a, m, e, sc => match e with
    | .Call (.Name x _) [.Call (.Attribute y f ap) [] [] cp] [] _ => decide (x = Str.ofString "sorted") && glB sc x && decide (f = Str.ofString "items") && chkE a false y sc && decide (ap.endLine = cp.line) && superB y
    | _ => false
  | .rng1 a, m, e, sc => match e with
    | .Call (.Name x _) [y] [] _ => m && decide (x = Str.ofString "range") && glB sc x && chkE a false y sc && !isStar y
    | _ => false
  | .rng2 a b, m, e, sc => match e with
    | .Call (.Name x _) [y, z] [] _ => m && decide (x = Str.ofString "range") && glB sc x && chkE a false y sc && chkE b false z sc && !isStar y && !isStar z
    | _ => false
  | .rng3 a b c, m, e, sc => match e with
    | .Call (.Name x _) [y, z, w] [] _ => m && decide (x = Str.ofString "range") && glB sc x && chkE a false y sc && chkE b false z sc && chkE c false w sc && !isStar y && !isStar z && !isStar w
    | _ => false
  | .enum a, m, e, sc => match e with
    | .Call (.Name x _) [y] [] _ => m && decide (x = Str.ofString "enumerate") && glB sc x && chkE a false y sc && !isStar y
    | _ => false
  | .zip a b, m, e, sc => match e with
    | .Call (.Name x _) [y, z] [] _ => m && decide (x = Str.ofString "zip") && glB sc x && chkE a false y sc && chkE b false z sc && !isStar y && !isStar z
    | _ => false
  | .items a, m, e, sc => match e with
    | .Call (.Attribute y f ap) [] [] cp => m && decide (f = Str.ofString "items") && isV a && chkE a false y sc && decide (ap.endLine = cp.line)
    | _ => false
  | .values a, m, e, sc => match e with
    | .Call (.Attribute y f ap) [] [] cp => m && decide (f = Str.ofString "values") && isV a && chkE a false y sc && decide (ap.endLine = cp.line)
    | _ => false
  | _, _, _, _ => false
def chkA : E → List Expr → Scope → Bool
  | .anil, es, _ => match es with
    | [] => true
    | _ :: _ => false
  | .acons a r, es, sc => match es with
    | e :: es => !isStar e && chkE a false e sc && chkA r es sc
    | [] => false
  | _, _, _ => false
end
end
end MW

end
section
set_option Elab.async false
set_option linter.all false
set_option maxRecDepth 100000
set_option maxHeartbeats 2000000
namespace MW
open PySem PySem.Spec PyProof.Rows L2

theorem _root_.L2.PE.weak {X : Cx} {e : Expr} {t t' : TE} (h : PE X e t) (w : ∀ σ H Q, t' σ H Q → t σ H Q) : PE X e t' := ⟨fun pins s σ H Q I q => h.run pins s σ H Q I (w σ H Q q)⟩
theorem _root_.L2.PE.or {X : Cx} {e : Expr} {t t' : TE} (h : PE X e t) (h' : PE X e t') : PE X e (fun σ H Q => t σ H Q ∨ t' σ H Q) := ⟨fun pins s σ H Q I q => by
  rcases q with q | q
  · exact h.run pins s σ H Q I q
  · exact h'.run pins s σ H Q I q⟩
theorem _root_.L2.PT.weak {X : Cx} {e : Expr} {t t' : TT} (h : PT X e t) (w : ∀ σ H Q, t' σ H Q → t σ H Q) : PT X e t' := ⟨fun pins s σ H Q I q => h.run pins s σ H Q I (w σ H Q q)⟩
theorem _root_.L2.PA.weak {X : Cx} {e : List Expr} {t t' : TA} (h : PA X e t) (w : ∀ σ H Q, t' σ H Q → t σ H Q) : PA X e t' := ⟨fun pos pins s σ H Q I q => h.run pos pins s σ H Q I (w σ H Q q)⟩
theorem _root_.L2.PI.weak {X : Cx} {tg e : Expr} {t t' : TI} (h : PI X tg e t) (w : ∀ σ H Q, t' σ H Q → t σ H Q) : PI X tg e t' := ⟨fun pins s σ H Q I q => h.run pins s σ H Q I (w σ H Q q)⟩
theorem _root_.L2.PI.or {X : Cx} {tg e : Expr} {t t' : TI} (h : PI X tg e t) (h' : PI X tg e t') : PI X tg e (fun σ H Q => t σ H Q ∨ t' σ H Q) := ⟨fun pins s σ H Q I q => by
  rcases q with q | q
  · exact h.run pins s σ H Q I q
  · exact h'.run pins s σ H Q I q⟩

/-! ### readings -/
def KE (fx : Fx) (lk : Lk) (σ : L2.St) (F H : Hp) (ρ : Env) (Q : VK) (d : D) (g' : G) : Prop := ∀ v H' F', SR fx lk σ F' H' ρ g' → GP fx.ap F H F' H' → Rep fx.K fx.ap F' d v → Q v H'
def KB (fx : Fx) (lk : Lk) (σ : L2.St) (F H : Hp) (ρ : Env) (Q : VK) (d : D) (g' : G) : Prop := ∀ v H' F', SR fx lk σ F' H' ρ g' → GP fx.ap F H F' H' → BR fx F' H' d v → Q v H'
def KT (fx : Fx) (lk : Lk) (σ : L2.St) (F H : Hp) (ρ : Env) (Q : Bool → Hp → Prop) (d : D) (g' : G) : Prop := ∃ b, truth d = some b ∧ ∀ H' F', SR fx lk σ F' H' ρ g' → GP fx.ap F H F' H' → Q b H'
def KA (fx : Fx) (lk : Lk) (σ : L2.St) (F H : Hp) (ρ : Env) (Q : List V → Hp → Prop) (d : D) (g' : G) : Prop := ∃ ds, d = .lst ds ∧ ∀ vs H' F', SR fx lk σ F' H' ρ g' → GP fx.ap F H F' H' → RepL fx.K fx.ap F' ds vs → Q vs H'
def tE (fx : Fx) (P : Ctx) (c : E) : TE := fun σ H Q => ∃ lk F ρ g, SR fx lk σ F H ρ g ∧ Acc (KE fx lk σ F H ρ Q) noX (evalE P c ρ g)
def tBr (fx : Fx) (P : Ctx) (c : E) : TE := fun σ H Q => ∃ lk F ρ g, SR fx lk σ F H ρ g ∧ Acc (KB fx lk σ F H ρ Q) noX (brw c ρ g (evalE P c ρ g))
def tTs (fx : Fx) (P : Ctx) (c : E) : TT := fun σ H Q => ∃ lk F ρ g, SR fx lk σ F H ρ g ∧ Acc (KT fx lk σ F H ρ Q) noX (brw c ρ g (evalE P c ρ g))
def tAr (fx : Fx) (P : Ctx) (c : E) : TA := fun σ H Q => ∃ lk F ρ g, SR fx lk σ F H ρ g ∧ Acc (KA fx lk σ F H ρ Q) noX (evalE P c ρ g)

/-- a def's promise, told by the evaluator: args, pool -/
def spD (K : PySem.W.Frag) (call : List Int → List D → G → Res D) : Sp := fun vs H Q _ => ∃ (scr : List Int) (ap : Addr) (F : Hp) (ds : List D) (g : G), ExF F H ∧ PoolOk ⟨K, ap, scr, H, F⟩ F H g ∧ RepL K ap F ds vs ∧
  Acc (fun d g' => ∀ v H' F', ExF F' H' → GP ap F H F' H' → PoolOk ⟨K, ap, scr, H, F⟩ F' H' g' → Rep K ap F' d v → Q v H') noX (call scr ds g)

/-- what is asked of the place where the code stands -/
structure GoodX (fx : Fx) (P : Ctx) (N : List Str) (sc : Scope) (X : Cx) : Prop where
  hN : X.N = N
  nd : N.Nodup
  K : X.K = fx.K
  calm : X.calm = true
  room : X.A.units + 200 < cLine
  hsc : X.env.scope = sc
  kind : sc.kind = .function
  blt : ∀ x ∈ bnames, X.mg (Str.ofString x) = none
  const : ∀ x d, P.const x = some d → ∃ u v, X.mg (Str.ofString x) = some u ∧ RelV v u ∧ ∀ ap F, Rep fx.K ap F d v
  call : ∀ f j, (∀ xs g, P.call f xs g = .bad) ∨ ∃ (a : Addr) (fd : FuncData) (ps : List Str) (k : Nat) (ds : List Value) (dvs : List V) (cl : List Int → List D → G → Res D), FnOk X.prog X.w X.K X.mg X.base CX0 k a fd ps (spD fx.K cl) ∧ cl fx.scr = P.call f ∧ Room k X.A ∧
    X.mg (Str.ofString f) = some (.ref a) ∧ PySem.W.keepIn X.K (.ref a) = true ∧ Binds X.K fd ps ds ∧ Vals dvs ds ∧ ∀ ap F, RepL fx.K ap F (P.dfl f j) dvs
theorem GoodX.blk {fx : Fx} {P : Ctx} {N : List Str} {sc : Scope} {X : Cx} (h : GoodX fx P N sc X) (scope : Scope) (hk : scope.kind = .function) (s : Shared) (H : Hp) (C : Addr) (cl : List (Str × Addr)) (fp : List Addr) :
    GoodX fx P N (relS scope sc) (X.blk s H scope (compEnvC scope cl C X.env) fp) := by
  refine ⟨h.hN, h.nd, h.K, h.calm, h.room, ?_, hk, h.blt, h.const, h.call⟩
  show relS scope X.env.scope = relS scope sc
  rw [h.hsc]

section
variable {fx : Fx} {P : Ctx} {lk : Lk} {σ : L2.St} {F H : Hp} {ρ : Env} {g : G} {X : Cx} {Q : VK}
theorem seqB {α : Type} {Kk : α → G → Prop} {a : E} {f : D → G → Res α} (I : SR fx lk σ F H ρ g) (h : Acc Kk noX ((brw a ρ g (evalE P a ρ g)).bind f))
    (k : ∀ d g' v H' F', SR fx lk σ F' H' ρ g' → GP fx.ap F H F' H' → BR fx F' H' d v → Acc Kk noX (f d g') → Q v H') : tBr fx P a σ H Q :=
  ⟨lk, F, ρ, g, I, (Acc.bind.mp h).imp (fun d g' hk v H' F' I' e r => k d g' v H' F' I' e r hk) fun _ _ _ x => x⟩
theorem seqE {α : Type} {Kk : α → G → Prop} {a : E} {f : D → G → Res α} (I : SR fx lk σ F H ρ g) (h : Acc Kk noX ((evalE P a ρ g).bind f))
    (k : ∀ d g' v H' F', SR fx lk σ F' H' ρ g' → GP fx.ap F H F' H' → Rep fx.K fx.ap F' d v → Acc Kk noX (f d g') → Q v H') : tE fx P a σ H Q :=
  ⟨lk, F, ρ, g, I, (Acc.bind.mp h).imp (fun d g' hk v H' F' I' e r => k d g' v H' F' I' e r hk) fun _ _ _ x => x⟩
theorem seqT {α : Type} {Kk : α → G → Prop} {a : E} {f : D → G → Res α} {Qb : Bool → Hp → Prop} (I : SR fx lk σ F H ρ g) (h : Acc Kk noX ((brw a ρ g (evalE P a ρ g)).bind f))
    (k : ∀ d g', Acc Kk noX (f d g') → ∃ b, truth d = some b ∧ ∀ H' F', SR fx lk σ F' H' ρ g' → GP fx.ap F H F' H' → Qb b H') : tTs fx P a σ H Qb :=
  ⟨lk, F, ρ, g, I, (Acc.bind.mp h).imp (fun d g' hk => k d g' hk) fun _ _ _ x => x⟩
theorem seqA {α : Type} {Kk : α → G → Prop} {a : E} {f : D → G → Res α} {Qa : List V → Hp → Prop} (I : SR fx lk σ F H ρ g) (h : Acc Kk noX ((evalE P a ρ g).bind f))
    (k : ∀ d g', Acc Kk noX (f d g') → ∃ ds, d = .lst ds ∧ ∀ vs H' F', SR fx lk σ F' H' ρ g' → GP fx.ap F H F' H' → RepL fx.K fx.ap F' ds vs → Qa vs H') : tAr fx P a σ H Qa :=
  ⟨lk, F, ρ, g, I, (Acc.bind.mp h).imp (fun d g' hk => k d g' hk) fun _ _ _ x => x⟩
/-- a name without an object being built: brw does nothing -/
theorem brw_ok {c : E} {Kk : D → G → Prop} (h : Acc Kk noX (evalE P c ρ g)) : Acc Kk noX (brw c ρ g (evalE P c ρ g)) := by
  cases c with
  | v i =>
    simp only [brw]
    split
    · rename_i e
      simp only [evalE, e] at h
      exact h.elim
    · exact h
  | _ => exact h
theorem tE_of_tBr {c : E} {e : Expr} (hE : PE X e (tE fx P c)) (hv : ∀ i, c = .v i → PE X e (tVar i)) : PE X e (tBr fx P c) := by
  cases c with
  | v i =>
    refine (hE.or (hv i rfl)).weak fun σ H Q h => ?_
    obtain ⟨lk, F, ρ, g, I, h⟩ := h
    simp only [brw] at h
    split at h
    · rename_i d e
      right
      obtain ⟨p, h1, h2, h3, h4, h5⟩ := I.sl _ _ e
      exact ⟨_, h1, h _ _ _ I GP.refl (.inr ⟨p, rfl, h3, h5⟩)⟩
    · left
      exact ⟨lk, F, ρ, g, I, h.imp (fun d g' hk v H' F' I' e r => hk v H' F' I' e (.inl r)) fun _ _ _ x => x⟩
  | _ => exact hE.weak fun σ H Q ⟨lk, F, ρ, g, I, h⟩ => ⟨lk, F, ρ, g, I, h.imp (fun d g' hk v H' F' I' e r => hk v H' F' I' e (.inl r)) fun _ _ _ x => x⟩
/-- the growth of a value's rule, behind a step -/
theorem KE.kv {lk : Lk} {F0 H0 : Hp} {d : D} {g' : G} (k : KE fx lk σ F0 H0 ρ Q d g') (I : SR fx lk σ F H ρ g') (e : GP fx.ap F0 H0 F H) : Kv fx F H d Q := fun v H' F' w r => k v H' F' (I.grow w) (e.trans w.gp) r
/-! ### truth as a test, not -/
theorem pt_tru {a : Expr} {ta : TE} (hK : X.K = fx.K) (ha : PE X a ta) (he : ∀ whole, isTrue a X.env whole = (do let v ← whole; standAt a.pos; holding [v] (truthy v))) :
    PT X a (fun σ H Q => ta σ H fun x H' => rTru fx x H' Q) := by
  refine ⟨fun pins s σ H Q I h => ?_⟩
  exact isTrue_plain (thn (ha.run pins s σ H _ I h) fun v s1 ⟨x, H1, I1, r1, q1⟩ => tru_ok hK pins s1 σ H1 x v Q I1 r1 q1) (he _)
theorem plainT_is {a : Expr} (h : plainT a = true) (env : PySem.Env) : ∀ whole, isTrue a env whole = (do let v ← whole; standAt a.pos; holding [v] (truthy v)) := by
  cases a <;> first | (simp [plainT] at h; done) | exact fun _ => rfl
theorem pe_notD {a : Expr} {ta : TE} {pos : Pos} (hK : X.K = fx.K) (ha : PE X a ta) : PE X (.UnaryOp .Not a pos) (fun σ H Q => ta σ H fun x H1 => rTru fx x H1 fun b H2 => Q (.bl (!b)) H2) := by
  refine ⟨fun pins s σ H Q I h => ?_⟩
  refine UnaryOp_ (thn (ha.run pins s σ H _ I h) fun v s1 ⟨x, H1, I1, r1, q1⟩ => ?_)
  exact not_of (thn (tru_ok hK pins s1 σ H1 x v _ I1 r1 q1) fun c s2 ⟨H2, I2, q2⟩ => ⟨.bl (!c), H2, I2, rfl, q2⟩)
theorem pe_andD {a b : Expr} {rest : List Expr} {ta tb : TE} {pos : Pos} (hK : X.K = fx.K) (ha : PE X a ta) (hb : PE X (.BoolOp .And (b :: rest) pos) tb) :
    PE X (.BoolOp .And (a :: b :: rest) pos) (fun σ H Q => ta σ H fun x H1 => rTru fx x H1 fun c H2 => if c = true then tb σ H2 Q else Q x H2) := by
  refine ⟨fun pins s σ H Q I h => ?_⟩
  refine BoolOp_and (thn (ha.run pins s σ H _ I h) fun v s1 ⟨x, H1, I1, r1, q1⟩ => ?_)
  refine thn (tru_ok hK pins s1 σ H1 x v _ I1 r1 q1) fun c s2 ⟨H2, I2, q2⟩ => ?_
  cases c with
  | true => exact hb.run pins s2 σ H2 Q I2 q2
  | false => exact ⟨x, H2, I2, r1, q2⟩
theorem pe_orD {a b : Expr} {rest : List Expr} {ta tb : TE} {pos : Pos} (hK : X.K = fx.K) (ha : PE X a ta) (hb : PE X (.BoolOp .Or (b :: rest) pos) tb) :
    PE X (.BoolOp .Or (a :: b :: rest) pos) (fun σ H Q => ta σ H fun x H1 => rTru fx x H1 fun c H2 => if c = true then Q x H2 else tb σ H2 Q) := by
  refine ⟨fun pins s σ H Q I h => ?_⟩
  refine BoolOp_or (thn (ha.run pins s σ H _ I h) fun v s1 ⟨x, H1, I1, r1, q1⟩ => ?_)
  refine thn (tru_ok hK pins s1 σ H1 x v _ I1 r1 q1) fun c s2 ⟨H2, I2, q2⟩ => ?_
  cases c with
  | true => exact ⟨x, H2, I2, r1, q2⟩
  | false => exact hb.run pins s2 σ H2 Q I2 q2
end
/-! ### stars, slices, marks: what the syntax is not -/
theorem star_cons {e : Expr} (h : isStar e = false) (es : List Expr) (env : PySem.Env) : starEach (e :: es) env = (false, eval e env) :: starEach es env := by
  cases e <;> first | (simp [isStar] at h; done) | rfl
theorem backTo_any (pos : Pos) (ts : List (Bool × Sem Value)) : (backTo pos ts).any (·.1) = ts.any (·.1) := by
  induction ts with
  | nil => rfl
  | cons t ts ih =>
    show (t.1 || (backTo pos ts).any (·.1)) = (t.1 || ts.any (·.1))
    rw [ih]
theorem noStars {N : List Str} {sc : Scope} : ∀ {c : E} {es : List Expr}, chkA N c es sc = true → ∀ (env : PySem.Env) (pos : Pos), (backTo pos (starEach es env)).any (·.1) = false := by
  intro c es h env pos
  rw [backTo_any]
  induction es generalizing c with
  | nil => rfl
  | cons e es ih =>
    cases c <;> first | (simp [chkA] at h; done) | skip
    simp only [chkA, Bool.and_eq_true, Bool.not_eq_true'] at h
    rw [star_cons h.1.1]
    exact ih h.2
theorem noSet {op : CmpOp} {e : Expr} (h : isSet e = false) : behindInMarks op e = false := by
  cases e <;> first | (simp [isSet] at h; done) | rfl
theorem plainIx {e : Expr} (h : isSlice e = false) : PlainIx e := by
  cases e <;> first | (simp [isSlice] at h; done) | exact fun _ _ => rfl
theorem noSl {e : Expr} (h : isSlice e = false) : NoSl e := by
  cases e <;> first | (simp [isSlice] at h; done) | exact fun _ _ => rfl
theorem noSuper {e : Expr} (h : superB e = true) (f : Str) (env : PySem.Env) : attributeBase e f env (eval e env) = eval e env := by
  cases e <;> first | (simp [superB] at h; done) | rfl
end MW

end
section
set_option Elab.async false
set_option linter.all false
set_option maxRecDepth 100000
set_option maxHeartbeats 2000000
namespace MW
open PySem PySem.Spec PyProof.Rows L2
theorem Acc.none {α : Type} {Xk : S → List D → G → Prop} {r : Res α} (hx : ∀ c fs g, Xk c fs g → False) (h : Acc (fun _ _ => False) Xk r) : False := by
  cases r with
  | ok a g => exact h
  | exc c fs g => exact hx _ _ _ h
  | bad => exact h
theorem noX_f (c : S) (fs : List D) (g : G) : noX c fs g → False := id
section
variable {fx : Fx} {P : Ctx} {X : Cx} {pos : Pos}
theorem KE.mono {lk : Lk} {σ : L2.St} {F0 H0 F H : Hp} {ρ : Env} {Q : VK} {d : D} {g' : G} (e : GP fx.ap F0 H0 F H) (k : KE fx lk σ F0 H0 ρ Q d g') : KE fx lk σ F H ρ Q d g' := fun v H' F' I e' r => k v H' F' I (e.trans e') r
/-! ### names, constants -/
theorem e_v {i : Nat} {e : Expr} (h : PE X e (tVar i)) : PE X e (tE fx P (.v i)) := h.weak fun σ H Q ⟨lk, F, ρ, g, I, h⟩ => by
  simp only [evalE] at h
  split at h
  · rename_i d e
    obtain ⟨v, h1, h2⟩ := I.sl _ _ e
    exact ⟨v, h1, h _ _ _ I GP.refl h2⟩
  · exact h.elim
theorem e_gv {x : String} {e : Expr} (hx : ∀ d, P.const x = some d → ∃ v, PE X e (tC v) ∧ ∀ ap F, Rep fx.K ap F d v) : PE X e (tE fx P (.gv x)) := by
  cases q : P.const x with
  | none =>
    exact ⟨fun pins s σ H Q I ⟨lk, F, ρ, g, I', h⟩ => by simp only [evalE, q] at h; exact h.elim⟩
  | some d =>
    obtain ⟨v, h1, h2⟩ := hx d q
    refine h1.weak fun σ H Q ⟨lk, F, ρ, g, I, h⟩ => ?_
    simp only [evalE, q] at h
    exact h _ _ _ I GP.refl (h2 _ _)
theorem e_k {d : D} {c : Const} {j} (h : constB d c = true) : PE X (.Constant c j pos) (tE fx P (.k d)) := by
  have go : ∀ {v : V}, PE X (.Constant c j pos) (tC v) → (∀ F, Rep fx.K fx.ap F d v) → PE X (.Constant c j pos) (tE fx P (.k d)) := fun h1 h2 => h1.weak fun σ H Q ⟨lk, F, ρ, g, I, h⟩ => by
    simp only [evalE] at h
    exact h _ _ _ I GP.refl (h2 _)
  cases d <;> cases c <;> simp [constB] at h
  · exact go pe_non fun _ => .non
  · subst h; exact go pe_bl fun _ => .bl _
  · subst h; exact go pe_int fun _ => .int _
  · subst h; exact go pe_str fun _ => .str _
/-! ### operations -/
variable {a b c : E} {l r q : Expr}
theorem e_bin {o : Op} (hK : X.K = fx.K) (ha : PE X l (tBr fx P a)) (hb : PE X r (tBr fx P b)) : PE X (.BinOp l (opP o) r pos) (tE fx P (.bin o a b)) := (pe_op (op_bin hK o) ha hb).weak fun σ H Q ⟨lk, F, ρ, g, I, h⟩ => by
  simp only [evalE] at h
  refine seqB I h fun d1 g1 v1 H1 F1 I1 e1 r1 h1 => ?_
  refine seqB I1 h1 fun d2 g2 v2 H2 F2 I2 e2 r2 h2 => ?_
  obtain ⟨z, hz, k⟩ := Acc.ofO.mp h2
  exact ⟨F2, d1, d2, z, I2.exF, r1.growP e2.f e2.h, r2, hz, k.kv I2 (e1.trans e2)⟩
theorem KE.here {lk : Lk} {σ : L2.St} {F0 H0 F H : Hp} {ρ : Env} {Q : VK} {d : D} {g' : G} {v : V} (k : KE fx lk σ F0 H0 ρ Q d g') (I : SR fx lk σ F H ρ g') (e : GP fx.ap F0 H0 F H) (r : Rep fx.K fx.ap F d v) : Q v H := k _ _ _ I e r
theorem e_neg (ha : PE X l (tE fx P a)) : PE X (.UnaryOp .USub l pos) (tE fx P (.neg a)) := (pe_un un_neg ha).weak fun σ H Q ⟨lk, F, ρ, g, I, h⟩ => by
  simp only [evalE] at h
  refine seqE I h fun d1 g1 v1 H1 F1 I1 e1 r1 h1 => ?_
  cases d1 <;> first | exact h1.elim | skip
  cases r1
  exact ⟨_, rfl, KE.here h1 I1 e1 (.int _)⟩
theorem e_not (hK : X.K = fx.K) (ha : PE X l (tBr fx P a)) : PE X (.UnaryOp .Not l pos) (tE fx P (.not a)) := (pe_notD hK ha).weak fun σ H Q ⟨lk, F, ρ, g, I, h⟩ => by
  simp only [evalE] at h
  refine seqB I h fun d1 g1 v1 H1 F1 I1 e1 r1 h1 => ?_
  obtain ⟨z, hz, k⟩ := Acc.ofO.mp h1
  obtain ⟨t, ht, rfl⟩ := omap hz
  exact ⟨F1, d1, t, I1.exF, r1, ht, KE.here k I1 e1 (.bl _)⟩
theorem t_not (ha : PT X l (tTs fx P a)) : PT X (.UnaryOp .Not l pos) (tTs fx P (.not a)) := (pt_not ha).weak fun σ H Q ⟨lk, F, ρ, g, I, h⟩ => by
  simp only [brw, evalE] at h
  refine seqT I h fun d1 g1 h1 => ?_
  obtain ⟨z, hz, k⟩ := Acc.ofO.mp h1
  obtain ⟨t, ht, rfl⟩ := omap hz
  obtain ⟨u, hu, k⟩ := k
  simp only [truth, Option.some.injEq] at hu
  subst hu
  exact ⟨t, ht, fun H' F' I' e' => k H' F' I' e'⟩
theorem e_cmp {o : Cp} (hK : X.K = fx.K) (hu : X.A.units + 100 < cLine) (ha : PE X l (tBr fx P a)) (hb : PE X r (tBr fx P b)) (hm : behindInMarks (cpP o) r = false) : PE X (.Compare l [cpP o] [r] pos) (tE fx P (.cmp o a b)) := (pe_cmpR (op_cmp hK hu o) ha hb hm).weak fun σ H Q ⟨lk, F, ρ, g, I, h⟩ => by
  simp only [evalE] at h
  refine seqB I h fun d1 g1 v1 H1 F1 I1 e1 r1 h1 => ?_
  refine seqB I1 h1 fun d2 g2 v2 H2 F2 I2 e2 r2 h2 => ?_
  obtain ⟨z, hz, k⟩ := Acc.ofO.mp h2
  obtain ⟨t, ht, rfl⟩ := omap hz
  exact ⟨F2, d1, d2, t, I2.exF, r1.growP e2.f e2.h, r2, ht, KE.here k I2 (e1.trans e2) (.bl _)⟩
theorem t_cmp {o : Cp} (hK : X.K = fx.K) (hu : X.A.units + 100 < cLine) (ha : PE X l (tBr fx P a)) (hb : PE X r (tBr fx P b)) (hm : behindInMarks (cpP o) r = false) : PT X (.Compare l [cpP o] [r] pos) (tTs fx P (.cmp o a b)) := (pt_cmpR (op_cmp hK hu o) ha hb hm).weak fun σ H Q ⟨lk, F, ρ, g, I, h⟩ => by
  simp only [brw, evalE] at h
  refine seqB I h fun d1 g1 v1 H1 F1 I1 e1 r1 h1 => ?_
  refine seqB I1 h1 fun d2 g2 v2 H2 F2 I2 e2 r2 h2 => ?_
  obtain ⟨z, hz, k⟩ := Acc.ofO.mp h2
  obtain ⟨t, ht, rfl⟩ := omap hz
  obtain ⟨u, hu, k⟩ := k
  simp only [truth, Option.some.injEq] at hu
  subst hu
  exact ⟨F2, d1, d2, t, I2.exF, r1.growP e2.f e2.h, r2, ht, t, rfl, k _ _ I2 (e1.trans e2)⟩
theorem e_cmp2 {o o' : Cp} (hK : X.K = fx.K) (hu : X.A.units + 100 < cLine) (ha : PE X l (tE fx P a)) (hb : PE X r (tE fx P b)) (hc : PE X q (tE fx P c)) (hm : lastMarks [cpP o, cpP o'] [r, q] = false) :
    PE X (.Compare l [cpP o, cpP o'] [r, q] pos) (tE fx P (.cmp2 o o' a b c)) := (pe_chain (op_cmp hK hu o) (op_cmp hK hu o') ha hb hc hm).weak fun σ H Q ⟨lk, F, ρ, g, I, h⟩ => by
  simp only [evalE] at h
  refine seqE I h fun d1 g1 v1 H1 F1 I1 e1 r1 h1 => ?_
  refine seqE I1 h1 fun d2 g2 v2 H2 F2 I2 e2 r2 h2 => ?_
  cases z : cmpD o d1 d2 with
  | none => rw [z] at h2; exact h2.elim
  | some t =>
    rw [z] at h2
    refine ⟨F2, d1, d2, t, I2.exF, .inl (r1.mono e2.f), .inl r2, z, t, rfl, ?_⟩
    cases t with
    | false => exact KE.here h2 I2 (e1.trans e2) (.bl _)
    | true =>
      refine seqE I2 h2 fun d3 g3 v3 H3 F3 I3 e3 r3 h3 => ?_
      obtain ⟨z, hz, k⟩ := Acc.ofO.mp h3
      obtain ⟨t, ht, rfl⟩ := omap hz
      exact ⟨F3, d2, d3, t, I3.exF, .inl (r2.mono e3.f), .inl r3, ht, KE.here k I3 ((e1.trans e2).trans e3) (.bl _)⟩
theorem t_cmp2 {o o' : Cp} (hK : X.K = fx.K) (hu : X.A.units + 100 < cLine) (ha : PE X l (tE fx P a)) (hb : PE X r (tE fx P b)) (hc : PE X q (tE fx P c)) (hm : lastMarks [cpP o, cpP o'] [r, q] = false) :
    PT X (.Compare l [cpP o, cpP o'] [r, q] pos) (tTs fx P (.cmp2 o o' a b c)) := (pt_chain (op_cmp hK hu o) (op_cmp hK hu o') ha hb hc hm).weak fun σ H Q ⟨lk, F, ρ, g, I, h⟩ => by
  simp only [brw, evalE] at h
  refine seqE I h fun d1 g1 v1 H1 F1 I1 e1 r1 h1 => ?_
  refine seqE I1 h1 fun d2 g2 v2 H2 F2 I2 e2 r2 h2 => ?_
  cases z : cmpD o d1 d2 with
  | none => rw [z] at h2; exact h2.elim
  | some t =>
    rw [z] at h2
    refine ⟨F2, d1, d2, t, I2.exF, .inl (r1.mono e2.f), .inl r2, z, t, rfl, ?_⟩
    cases t with
    | false =>
      obtain ⟨u, hu, k⟩ := h2
      simp only [truth, Option.some.injEq] at hu
      subst hu
      exact ⟨false, rfl, k _ _ I2 (e1.trans e2)⟩
    | true =>
      refine seqE I2 h2 fun d3 g3 v3 H3 F3 I3 e3 r3 h3 => ?_
      obtain ⟨z, hz, k⟩ := Acc.ofO.mp h3
      obtain ⟨t, ht, rfl⟩ := omap hz
      obtain ⟨u, hu, k⟩ := k
      simp only [truth, Option.some.injEq] at hu
      subst hu
      exact ⟨F3, d2, d3, t, I3.exF, .inl (r2.mono e3.f), .inl r3, ht, t, rfl, k _ _ I3 ((e1.trans e2).trans e3)⟩
/-! ### and, or, if -/
variable {x y : Expr} {rest : List Expr}
theorem e_and (hK : X.K = fx.K) (ha : PE X x (tE fx P a)) (hb : PE X (.BoolOp .And (y :: rest) pos) (tE fx P b)) : PE X (.BoolOp .And (x :: y :: rest) pos) (tE fx P (.and a b)) := (pe_andD hK ha hb).weak fun σ H Q ⟨lk, F, ρ, g, I, h⟩ => by
  simp only [evalE] at h
  refine seqE I h fun d1 g1 v1 H1 F1 I1 e1 r1 h1 => ?_
  cases z : truth d1 with
  | none => rw [z] at h1; exact h1.elim
  | some t =>
    rw [z] at h1
    refine ⟨F1, d1, t, I1.exF, .inl r1, z, ?_⟩
    cases t with
    | false => exact KE.here h1 I1 e1 r1
    | true => exact ⟨lk, F1, ρ, g1, I1, h1.imp (fun d g k => KE.mono e1 k) fun _ _ _ x => x⟩
theorem e_or (hK : X.K = fx.K) (ha : PE X x (tE fx P a)) (hb : PE X (.BoolOp .Or (y :: rest) pos) (tE fx P b)) : PE X (.BoolOp .Or (x :: y :: rest) pos) (tE fx P (.or a b)) := (pe_orD hK ha hb).weak fun σ H Q ⟨lk, F, ρ, g, I, h⟩ => by
  simp only [evalE] at h
  refine seqE I h fun d1 g1 v1 H1 F1 I1 e1 r1 h1 => ?_
  cases z : truth d1 with
  | none => rw [z] at h1; exact h1.elim
  | some t =>
    rw [z] at h1
    refine ⟨F1, d1, t, I1.exF, .inl r1, z, ?_⟩
    cases t with
    | true => exact KE.here h1 I1 e1 r1
    | false => exact ⟨lk, F1, ρ, g1, I1, h1.imp (fun d g k => KE.mono e1 k) fun _ _ _ x => x⟩
theorem KT.mono {lk : Lk} {σ : L2.St} {F0 H0 F H : Hp} {ρ : Env} {Q : Bool → Hp → Prop} {d : D} {g' : G} (e : GP fx.ap F0 H0 F H) (k : KT fx lk σ F0 H0 ρ Q d g') : KT fx lk σ F H ρ Q d g' := by
  obtain ⟨b, h, k⟩ := k
  exact ⟨b, h, fun H' F' I' e' => k H' F' I' (e.trans e')⟩
theorem PW.weak {X : Cx} {e : Expr} {t t' : TT} (h : PW X e t) (w : ∀ σ H Q, t' σ H Q → t σ H Q) : PW X e t' := ⟨fun wh pins s σ H Q I q => h.run wh pins s σ H Q I (w σ H Q q)⟩
theorem t_and (ha : PT X x (tTs fx P a)) (hb : PW X (.BoolOp .And (y :: rest) pos) (tTs fx P b)) : PW X (.BoolOp .And (x :: y :: rest) pos) (tTs fx P (.and a b)) := PW.weak (pw_and ha hb) fun σ H Q ⟨lk, F, ρ, g, I, h⟩ => by
  simp only [brw, evalE] at h
  refine ⟨lk, F, ρ, g, I, brw_ok ((Acc.bind.mp h).imp (fun d1 g1 h1 => ?_) fun _ _ _ x => x)⟩
  cases z : truth d1 with
  | none => rw [z] at h1; exact h1.elim
  | some t =>
    rw [z] at h1
    refine ⟨t, z, fun H1 F1 I1 e1 => ?_⟩
    cases t with
    | false =>
      obtain ⟨u, hu, k⟩ := h1
      rw [z] at hu; cases hu
      exact k _ _ I1 e1
    | true => exact ⟨lk, F1, ρ, g1, I1, brw_ok (h1.imp (fun d g k => KT.mono e1 k) fun _ _ _ x => x)⟩
theorem t_or (ha : PT X x (tTs fx P a)) (hb : PW X (.BoolOp .Or (y :: rest) pos) (tTs fx P b)) : PW X (.BoolOp .Or (x :: y :: rest) pos) (tTs fx P (.or a b)) := PW.weak (pw_or ha hb) fun σ H Q ⟨lk, F, ρ, g, I, h⟩ => by
  simp only [brw, evalE] at h
  refine ⟨lk, F, ρ, g, I, brw_ok ((Acc.bind.mp h).imp (fun d1 g1 h1 => ?_) fun _ _ _ x => x)⟩
  cases z : truth d1 with
  | none => rw [z] at h1; exact h1.elim
  | some t =>
    rw [z] at h1
    refine ⟨t, z, fun H1 F1 I1 e1 => ?_⟩
    cases t with
    | true =>
      obtain ⟨u, hu, k⟩ := h1
      rw [z] at hu; cases hu
      exact k _ _ I1 e1
    | false => exact ⟨lk, F1, ρ, g1, I1, brw_ok (h1.imp (fun d g k => KT.mono e1 k) fun _ _ _ x => x)⟩
theorem e_ite (ht : PT X q (tTs fx P c)) (ha : PE X l (tE fx P a)) (hb : PE X r (tE fx P b)) : PE X (.IfExp q l r pos) (tE fx P (.ite c a b)) := (pe_ifExp ht ha hb).weak fun σ H Q ⟨lk, F, ρ, g, I, h⟩ => by
  simp only [evalE] at h
  refine seqT I h fun d1 g1 h1 => ?_
  cases z : truth d1 with
  | none => rw [z] at h1; exact h1.elim
  | some t =>
    rw [z] at h1
    refine ⟨t, rfl, fun H1 F1 I1 e1 => ?_⟩
    cases t with
    | true => exact ⟨lk, F1, ρ, g1, I1, h1.imp (fun d g k => KE.mono e1 k) fun _ _ _ x => x⟩
    | false => exact ⟨lk, F1, ρ, g1, I1, h1.imp (fun d g k => KE.mono e1 k) fun _ _ _ x => x⟩
theorem t_ite (ht : PT X q (tTs fx P c)) (ha : PT X l (tTs fx P a)) (hb : PT X r (tTs fx P b)) : PT X (.IfExp q l r pos) (tTs fx P (.ite c a b)) := by
  refine ⟨fun pins s σ H Q I0 ⟨lk, F, ρ, g, I, h⟩ => ?_⟩
  simp only [brw, evalE] at h
  refine isTrue_IfExp (thn (ht.run pins s σ H (fun t H1 => if t = true then tTs fx P a σ H1 Q else tTs fx P b σ H1 Q) I0 ?_) fun d s1 ⟨H1, I1, q1⟩ => ?_)
  · refine seqT I h fun d1 g1 h1 => ?_
    cases z : truth d1 with
    | none => rw [z] at h1; exact h1.elim
    | some t =>
      rw [z] at h1
      refine ⟨t, rfl, fun H1 F1 I1 e1 => ?_⟩
      cases t with
      | true => exact ⟨lk, F1, ρ, g1, I1, brw_ok (h1.imp (fun d g k => KT.mono e1 k) fun _ _ _ x => x)⟩
      | false => exact ⟨lk, F1, ρ, g1, I1, brw_ok (h1.imp (fun d g k => KT.mono e1 k) fun _ _ _ x => x)⟩
  · cases d with
    | true => exact ha.run pins s1 σ H1 Q I1 q1
    | false => exact hb.run pins s1 σ H1 Q I1 q1
/-- the truth of a value -/
theorem pt_of (hK : X.K = fx.K) (h : PE X l (tBr fx P c)) (he : ∀ whole, isTrue l X.env whole = (do let v ← whole; standAt l.pos; holding [v] (truthy v))) : PT X l (tTs fx P c) :=
  (pt_tru hK h he).weak fun σ H Q ⟨lk, F, ρ, g, I, h⟩ => ⟨lk, F, ρ, g, I, h.imp (fun d g' ⟨b, hb, k⟩ v H' F' I' e r => ⟨F', d, b, I'.exF, r, hb, k H' F' I' e⟩) fun _ _ _ x => x⟩
/-! ### arguments, displays -/
theorem a_nil : PA X [] (tAr fx P .anil) := pa_nil.weak fun σ H Q ⟨lk, F, ρ, g, I, h⟩ => by
  simp only [evalE] at h
  obtain ⟨ds, e, k⟩ := h
  cases e
  exact k _ _ _ I GP.refl .nil
theorem a_cons {es : List Expr} (ha : PE X l (tE fx P a)) (hb : PA X es (tAr fx P b)) (hs : starEach (l :: es) X.env = (false, eval l X.env) :: starEach es X.env) : PA X (l :: es) (tAr fx P (.acons a b)) := (pa_cons ha hb hs).weak fun σ H Q ⟨lk, F, ρ, g, I, h⟩ => by
  simp only [evalE] at h
  refine seqE I h fun d1 g1 v1 H1 F1 I1 e1 r1 h1 => ?_
  refine seqA I1 h1 fun d2 g2 h2 => ?_
  cases d2 <;> first | exact h2.elim | skip
  rename_i xs
  obtain ⟨ds, e, k⟩ := h2
  cases e
  exact ⟨xs, rfl, fun vs H2 F2 I2 e2 r2 => k _ _ _ I2 (e1.trans e2) (.cons (r1.mono e2.f) r2)⟩
theorem e_tup {es : List Expr} {x1} (ha : PA X es (tAr fx P a)) : PE X (.Tuple es x1 pos) (tE fx P (.tup a)) := (pe_tup ha).weak fun σ H Q ⟨lk, F, ρ, g, I, h⟩ => by
  simp only [evalE] at h
  refine seqA I h fun d1 g1 h1 => ?_
  cases d1 <;> first | exact h1.elim | skip
  rename_i xs
  refine ⟨xs, rfl, fun vs H1 F1 I1 e1 r1 => ?_⟩
  dsimp only at h1
  split at h1
  · rename_i z
    have z := of_decide_eq_true z
    refine ⟨by rw [← r1.len, sizeLine_eq]; exact z, fun p hp => ?_⟩
    exact (KE.kv h1 I1 e1).newT I1.exF r1 p hp
  · exact h1.elim
theorem e_lst {es : List Expr} (ha : PA X es (tAr fx P a)) : PE X (.List es pos) (tE fx P (.lst a)) := (pe_lst ha).weak fun σ H Q ⟨lk, F, ρ, g, I, h⟩ => by
  simp only [evalE] at h
  refine seqA I h fun d1 g1 h1 => ?_
  cases d1 <;> first | exact h1.elim | skip
  rename_i xs
  refine ⟨xs, rfl, fun vs H1 F1 I1 e1 r1 => ?_⟩
  dsimp only at h1
  split at h1
  · rename_i z
    have z := of_decide_eq_true z
    refine ⟨by rw [← r1.len, sizeLine_eq]; exact z, fun p hp => ?_⟩
    exact (KE.kv h1 I1 e1).newL I1.exF r1 p hp
  · exact h1.elim
theorem e_dK : PE X (.Dict [] [] pos) (tE fx P .dK) := pe_dnewK.weak fun σ H Q ⟨lk, F, ρ, g, I, h⟩ => by
  simp only [evalE] at h
  exact fun p hp => (KE.kv h I GP.refl).newK I.exF rfl .nil p hp
theorem e_dT : PE X (.Dict [] [] pos) (tE fx P .dT) := pe_dnewT.weak fun σ H Q ⟨lk, F, ρ, g, I, h⟩ => by
  simp only [evalE] at h
  exact fun p hp => KE.kv h I GP.refl _ _ _ (Grow.new I.exF _ hp) (.dctT (kvs := []) upd_same rfl .nil)
/-! ### subscripts -/
theorem ixN_eq (n : Nat) (i : Int) : ixN n i = seqIx i n := by
  unfold ixN seqIx
  by_cases h0 : 0 ≤ i
  · simp only [h0, if_true]
  · simp only [h0, if_false]
theorem at_rep {F : Hp} {ds : List D} {vs : List V} {i : Int} {z : D} (h : ((seqIx i ds.length).bind fun j => ds[j]?) = some z) (r : RepL fx.K fx.ap F ds vs) : ∃ v, atI vs i = some v ∧ Rep fx.K fx.ap F z v := by
  obtain ⟨j, h1, h2⟩ := obind h
  obtain ⟨v, h3, h4⟩ := r.at' h2
  refine ⟨v, ?_, h4⟩
  unfold atI
  rw [ixN_eq, ← r.len, h1]
  exact h3
theorem ix_dict (hu : X.A.units + 1 < cLine) : IxR X (fun x y H Q => ∃ a v, x = .ref a ∧ DGet H a y (some v) ∧ Q v H) := by
  intro value slice pins s σ H x y v u Q I rx ry h hs
  obtain ⟨a, w, rfl, hg, q⟩ := h
  obtain rfl : v = Value.ref a := rx
  exact tail_any (dict_typeIs I hg) PySem.F.slot_dict_getitem.lookup (d_getItem hu I hg ry fun w' s3 I3 rw' => ⟨w, H, I3, rw', q⟩) hs
def rIxD (fx : Fx) : R2 := fun x y H Q => ∃ F d e z, ExF F H ∧ BR fx F H d x ∧ Rep fx.K fx.ap F e y ∧ idxD d e = some z ∧ Kv fx F H z Q
theorem ix_all (hK : X.K = fx.K) (hu : X.A.units + 1 < cLine) : IxR X (rIxD fx) := by
  intro value slice pins s σ H x y v u Q I rx ry h hs
  obtain ⟨F, d, e, z, ex, hx, hy, hz, k⟩ := h
  have hl : sizeLine = 16777216 := sizeLine_eq
  cases d <;> try (simp only [idxD, reduceCtorEq] at hz; done)
  case str zs =>
    cases e <;> simp only [idxD, reduceCtorEq] at hz
    cases hx.str; cases hy
    split at hz
    · rename_i hs2
      have hs2 := of_decide_eq_true hs2
      obtain ⟨j, h1, h2⟩ := obind hz
      obtain ⟨c, h3, rfl⟩ := omap h2
      refine ix_str value slice pins s σ H _ _ v u Q I rx ry ⟨toStr zs, _, c, rfl, rfl, by rw [toStr_len]; omega, ?_, k.here ex (.str _)⟩ hs
      show ((ixN _ _).bind _) = _
      rw [ixN_eq]
      show ((seqIx _ zs.length).bind fun j => zs[j]?) = _
      rw [h1]; exact h3
    · cases hz
  case lst xs =>
    cases e <;> simp only [idxD, reduceCtorEq] at hz
    cases hy
    obtain ⟨p, vs, rfl, h1, r1⟩ := hx.lst ex
    obtain ⟨w, h2, h3⟩ := at_rep hz r1
    exact ix_list value slice pins s σ H _ _ v u Q I rx ry ⟨p, vs, _, w, rfl, rfl, SqL.of h1, h2, k.here ex h3⟩ hs
  case tup xs =>
    cases e <;> simp only [idxD, reduceCtorEq] at hz
    cases hy
    obtain ⟨p, vs, rfl, h1, r1, _⟩ := hx.tup ex
    obtain ⟨w, h2, h3⟩ := at_rep hz r1
    exact ix_tup value slice pins s σ H _ _ v u Q I rx ry ⟨p, vs, _, w, rfl, rfl, by rw [hK]; exact h1, h2, k.here ex h3⟩ hs
  case ctup pl xs =>
    cases e <;> simp only [idxD, reduceCtorEq] at hz
    cases hy
    obtain ⟨p, vs, rfl, h1, r1⟩ := hx.ctup ex
    obtain ⟨w, h2, h3⟩ := at_rep hz r1
    exact ix_tup value slice pins s σ H _ _ v u Q I rx ry ⟨p, vs, _, w, rfl, rfl, by rw [hK]; exact h1, h2, k.here ex h3⟩ hs
  case dct t ks vs =>
    simp only [idxD] at hz
    split at hz
    · rename_i ok
      obtain ⟨a, o, rfl, h1, h2, h3⟩ := dict_get ex hx (.inl hy) ok
      rcases h3 with ⟨_, h4⟩ | ⟨w, d, rfl, h4, h5⟩
      · rw [h4] at hz; cases hz
      · rw [h4] at hz; cases hz
        exact ix_dict hu value slice pins s σ H _ _ v u Q I rx ry ⟨a, w, rfl, h1, k.here ex h5⟩ hs
    · cases hz
theorem e_idx (hK : X.K = fx.K) (hu : X.A.units + 1 < cLine) (ha : PE X l (tBr fx P a)) (hb : PE X r (tE fx P b)) (hs : PlainIx r) : PE X (.Subscript l r pos) (tE fx P (.idx a b)) :=
  (pe_ix (ix_all hK hu) ha hb hs).weak fun σ H Q ⟨lk, F, ρ, g, I, h⟩ => by
  simp only [evalE] at h
  refine seqB I h fun d1 g1 v1 H1 F1 I1 e1 r1 h1 => ?_
  refine seqE I1 h1 fun d2 g2 v2 H2 F2 I2 e2 r2 h2 => ?_
  obtain ⟨z, hz, k⟩ := Acc.ofO.mp h2
  exact ⟨F2, d1, d2, z, I2.exF, r1.growP e2.f e2.h, r2, hz, KE.kv k I2 (e1.trans e2)⟩
/-! ### slices -/
def tPo (fx : Fx) (P : Ctx) (c : E) : TO := fun σ H Q => ∃ lk F ρ g, SR fx lk σ F H ρ g ∧ Acc (fun d g' => ∃ o, intE c d = some o ∧ ∀ H' F', SR fx lk σ F' H' ρ g' → GP fx.ap F H F' H' → Q o H') noX (evalE P c ρ g)
theorem _root_.L2.PO.weak {X : Cx} {e : Option Expr} {t t' : TO} (h : PO X e t) (w : ∀ σ H Q, t' σ H Q → t σ H Q) : PO X e t' := ⟨fun pins s σ H Q I q => h.run pins s σ H Q I (w σ H Q q)⟩
theorem o_none : PO X none (tPo fx P .nth) := po_none.weak fun σ H Q ⟨lk, F, ρ, g, I, h⟩ => by
  simp only [evalE] at h
  obtain ⟨o, ho, k⟩ := h
  cases ho
  exact k _ _ I GP.refl
theorem o_some (hn : ∀ d, c = .nth → d = D.non → False) (ha : PE X l (tE fx P c)) : PO X (some l) (tPo fx P c) := (po_some ha).weak fun σ H Q ⟨lk, F, ρ, g, I, h⟩ => by
  refine ⟨lk, F, ρ, g, I, h.imp (fun d g1 ⟨o, ho, k⟩ v H' F' I' e r => ?_) fun _ _ _ x => x⟩
  cases d <;> simp only [intE, reduceCtorEq] at ho
  · cases c <;> first | (cases ho; done) | exact (hn _ rfl rfl).elim
  · cases ho; cases r
    exact ⟨_, rfl, k _ _ I' e⟩
theorem sIx_eq (n k : Nat) (hk : k ≤ n) (o : Option Int) : sIx n k o = HT.sIx n k o := by
  cases o with
  | none => simp [sIx, HT.sIx]
  | some i =>
    simp only [sIx, HT.sIx]
    split <;> split <;> omega
def rSlD (fx : Fx) : V → Option Int → Option Int → Hp → VK → Prop := fun x lo hi H Q => ∃ F d z, ExF F H ∧ BR fx F H d x ∧ slcD d lo hi = some z ∧ Kv fx F H z Q
theorem cut_rep {F : Hp} {ds : List D} {vs : List V} {lo hi : Option Int} (r : RepL fx.K fx.ap F ds vs) : RepL fx.K fx.ap F (cutL ds lo hi) (cutV vs lo hi) := by
  unfold cutL cutV
  rw [r.len, sIx_eq _ _ (Nat.zero_le _), sIx_eq _ _ (Nat.le_refl _)]
  exact (r.drop _).take _
end
end MW

end
section
set_option Elab.async false
set_option linter.all false
set_option maxRecDepth 100000
set_option maxHeartbeats 2000000
namespace MW
open PySem PySem.Spec PyProof.Rows L2
section
variable {fx : Fx} {P : Ctx} {X : Cx} {pos : Pos} {a b c : E} {l r q : Expr}
theorem cutS_toStr (x : S) (lo hi : Option Int) : cutS (toStr x) lo hi = toStr (cutL x lo hi) := by
  show (⟨((x.drop (HT.sIx (toStr x).length 0 lo)).take (HT.sIx (toStr x).length (toStr x).length hi - HT.sIx (toStr x).length 0 lo)).toArray⟩ : Str) = ⟨(cutL x lo hi).toArray⟩
  unfold cutL
  rw [toStr_len, sIx_eq _ _ (Nat.zero_le _), sIx_eq _ _ (Nat.le_refl _)]
theorem cutL_whole {α : Type} (xs : List α) (lo hi : Option Int) (h : HT.sIx xs.length 0 lo = 0 ∧ HT.sIx xs.length xs.length hi = xs.length) : cutL xs lo hi = xs := by
  unfold cutL
  rw [sIx_eq _ _ (Nat.zero_le _), sIx_eq _ _ (Nat.le_refl _), h.1, h.2]
  simp
theorem sl_all (hK : X.K = fx.K) : SlR X (rSlD fx) := by
  intro pins s σ H x v vl vu lo hi sl Q I rx hs pl pu h
  obtain ⟨F, d, z, ex, hx, hz, k⟩ := h
  have hl : sizeLine = 16777216 := sizeLine_eq
  cases d <;> simp only [slcD, reduceCtorEq] at hz
  case str zs =>
    split at hz
    · rename_i h2
      have h2 := of_decide_eq_true h2
      cases hz
      cases hx.str
      refine sl_str pins s σ H _ v vl vu lo hi sl Q I rx hs pl pu ⟨toStr zs, rfl, by rw [toStr_len]; omega, ?_⟩
      rw [cutS_toStr]
      exact k.here ex (.str _)
    · cases hz
  case lst xs =>
    cases hz
    obtain ⟨p, vs, rfl, h1, r1⟩ := hx.lst ex
    exact sl_list pins s σ H _ v vl vu lo hi sl Q I rx hs pl pu ⟨p, vs, rfl, SqL.of h1, k.newL ex (cut_rep r1)⟩
  case tup xs =>
    cases hz
    obtain ⟨p, vs, rfl, h1, r1, r2⟩ := hx.tup ex
    refine sl_tupA pins s σ H _ v vl vu lo hi sl Q I rx hs pl pu ⟨p, vs, rfl, by rw [hK]; exact h1, fun hw => ?_, fun _ => k.newT ex (cut_rep r1)⟩
    rw [← r1.len] at hw
    rw [cutL_whole xs lo hi hw] at k
    exact k.here ex r2
theorem e_slc {lo hi : Option Expr} {p2 : Pos} (hK : X.K = fx.K) (ha : PE X l (tBr fx P a)) (hl : PO X lo (tPo fx P b)) (hh : PO X hi (tPo fx P c)) : PE X (.Subscript l (.Slice lo hi none p2) pos) (tE fx P (.slc a b c)) :=
  (pe_slice (sl_all hK) ha hl hh).weak fun σ H Q ⟨lk, F, ρ, g, I, h⟩ => by
  simp only [evalE] at h
  refine seqB I h fun d1 g1 v1 H1 F1 I1 e1 r1 h1 => ?_
  refine ⟨lk, F1, ρ, g1, I1, (Acc.bind.mp h1).imp (fun d2 g2 h2 => ?_) fun _ _ _ x => x⟩
  cases q2 : intE b d2 with
  | none =>
    refine (Acc.none noX_f ((Acc.bind.mp h2).imp (fun d3 g3 h3 => ?_) fun _ _ _ x => x)).elim
    rw [q2] at h3; exact h3
  | some o2 =>
    refine ⟨o2, rfl, fun H2 F2 I2 e2 => ?_⟩
    refine ⟨lk, F2, ρ, g2, I2, (Acc.bind.mp h2).imp (fun d3 g3 h3 => ?_) fun _ _ _ x => x⟩
    rw [q2] at h3
    cases q3 : intE c d3 with
    | none => rw [q3] at h3; exact h3.elim
    | some o3 =>
      rw [q3] at h3
      refine ⟨o3, rfl, fun H3 F3 I3 e3 => ?_⟩
      obtain ⟨z, hz, k⟩ := Acc.ofO.mp h3
      exact ⟨F3, d1, z, I3.exF, (r1.growP e2.f e2.h).growP e3.f e3.h, hz, KE.kv k I3 ((e1.trans e2).trans e3)⟩
/-! ### get -/
theorem BR.isD {F H : Hp} {t : Bool} {ks vs : List D} {x : V} (ex : ExF F H) (h : BR fx F H (.dct t ks vs) x) : ∃ p, x = .ref p ∧ IsD H p := by
  cases t with
  | false => obtain ⟨p, kvs, e, h1, _⟩ := h.dK ex; exact ⟨p, e, .inl ⟨kvs, h1⟩⟩
  | true => obtain ⟨p, kvs, e, h1, _⟩ := h.dT ex; exact ⟨p, e, .inr ⟨kvs, h1⟩⟩
theorem get_bad {m : String} {d y : D} (h : ∀ t ks vs, d ≠ .dct t ks vs) : m1D m d y = none := by
  unfold m1D
  split
  · exact (h _ _ _ rfl).elim
  · rfl
theorem get_bad2 {m : String} {d y z : D} (h : ∀ t ks vs, d ≠ .dct t ks vs) : m2D m d y z = none := by
  unfold m2D
  split
  · exact (h _ _ _ rfl).elim
  · rfl
theorem dct_or (d : D) : (∃ t ks vs, d = .dct t ks vs) ∨ ∀ t ks vs, d ≠ .dct t ks vs := by
  cases d with
  | dct t ks vs => exact .inl ⟨t, ks, vs, rfl⟩
  | _ => exact .inr fun _ _ _ h => by cases h
theorem e_get1 {apos : Pos} (hu : X.A.units + 1 < cLine) (ha : PE X l (tBr fx P a)) (hb : PE X r (tE fx P b)) (m : M1 X l "get" apos r pos) : PE X (.Call (.Attribute l "get" apos) [r] [] pos) (tE fx P (.m1 "get" a b)) :=
  (pe_dget1 hu ha hb m).weak fun σ H Q ⟨lk, F, ρ, g, I, h⟩ => by
  simp only [evalE] at h
  refine seqB I h fun d1 g1 v1 H1 F1 I1 e1 r1 h1 => ?_
  rcases dct_or d1 with ⟨t, ks, vs, rfl⟩ | hn
  · obtain ⟨p, rfl, hp⟩ := BR.isD I1.exF r1
    refine ⟨p, rfl, hp, ?_⟩
    refine seqE I1 h1 fun d2 g2 v2 H2 F2 I2 e2 r2 h2 => ?_
    obtain ⟨z, hz, k⟩ := Acc.ofO.mp h2
    simp only [m1D] at hz
    split at hz
    · rename_i ok
      obtain ⟨p', o, e, g1, g2, g3⟩ := dict_get I2.exF (r1.growP e2.f e2.h) (.inl r2) ok
      cases e
      refine ⟨o, g1, ?_⟩
      cases hz
      rcases g3 with ⟨rfl, h4⟩ | ⟨w, d, rfl, h4, h5⟩
      · rw [h4] at k; exact KE.here k I2 (e1.trans e2) .non
      · rw [h4] at k; exact KE.here k I2 (e1.trans e2) h5
    · cases hz
  · refine (Acc.none noX_f ((Acc.bind.mp h1).imp (fun d2 g2 h2 => ?_) fun _ _ _ x => x)).elim
    rw [get_bad hn] at h2; exact h2
theorem e_get2 {apos : Pos} (hu : X.A.units + 1 < cLine) (ha : PE X l (tBr fx P a)) (hb : PE X r (tE fx P b)) (hc : PE X q (tE fx P c)) (m : M2 X l "get" apos r q pos) : PE X (.Call (.Attribute l "get" apos) [r, q] [] pos) (tE fx P (.m2 "get" a b c)) :=
  (pe_dget2 hu ha hb hc m).weak fun σ H Q ⟨lk, F, ρ, g, I, h⟩ => by
  simp only [evalE] at h
  refine seqB I h fun d1 g1 v1 H1 F1 I1 e1 r1 h1 => ?_
  rcases dct_or d1 with ⟨t, ks, vs, rfl⟩ | hn
  · obtain ⟨p, rfl, hp⟩ := BR.isD I1.exF r1
    refine ⟨p, rfl, hp, ?_⟩
    refine seqE I1 h1 fun d2 g2 v2 H2 F2 I2 e2 r2 h2 => ?_
    refine seqE I2 h2 fun d3 g3 v3 H3 F3 I3 e3 r3 h3 => ?_
    obtain ⟨z, hz, k⟩ := Acc.ofO.mp h3
    simp only [m2D] at hz
    split at hz
    · rename_i ok
      obtain ⟨p', o, e, g1, g2, g3⟩ := dict_get I3.exF ((r1.growP e2.f e2.h).growP e3.f e3.h) (.inl (r2.mono e3.f)) ok
      cases e
      refine ⟨o, g1, ?_⟩
      cases hz
      rcases g3 with ⟨rfl, h4⟩ | ⟨w, d, rfl, h4, h5⟩
      · rw [h4] at k; exact KE.here k I3 ((e1.trans e2).trans e3) r3
      · rw [h4] at k; exact KE.here k I3 ((e1.trans e2).trans e3) h5
    · cases hz
  · refine (Acc.none noX_f ((Acc.bind.mp h1).imp (fun d2 g2 h2 => ?_) fun _ _ _ x => x)).elim
    refine Acc.none noX_f ((Acc.bind.mp h2).imp (fun d3 g3 h3 => ?_) fun _ _ _ x => x)
    rw [get_bad2 hn] at h3; exact h3
theorem m1_ok {apos : Pos} (hb : superB l = true) (hs : isStar r = false) (hl : apos.endLine = pos.line) (f : Str) : M1 X l f apos r pos := by
  have hs' := star_cons hs [] X.env
  refine ⟨noSuper hb _ _, ?_, by simp [hl], ?_⟩
  · rw [hs']; rfl
  · rw [hs']; rfl
theorem m2_ok {apos : Pos} (hb : superB l = true) (hs : isStar r = false) (hs2 : isStar q = false) (hl : apos.endLine = pos.line) (f : Str) : M2 X l f apos r q pos := by
  have hs' := star_cons hs [q] X.env
  have hs2' := star_cons hs2 [] X.env
  refine ⟨noSuper hb _ _, ?_, by simp [hl], ?_⟩
  · rw [hs', hs2']; rfl
  · rw [hs', hs2']; rfl
/-! ### builtins -/
theorem boot_b1 (f : B1) : bootBuiltins (Str.ofString (b1S f)) = some (fB1 f) := by cases f <;> decide +kernel
theorem boot_b2 (f : B2) : bootBuiltins (Str.ofString (b2S f)) = some (fB2 f) := by cases f <;> decide +kernel
theorem boot_isi : bootBuiltins (Str.ofString "isinstance") = some (.builtin "isinstance") := by decide +kernel
theorem boot_ty (t : Ty) : bootBuiltins (Str.ofString (tyS t)) = some (.type (tyS t)) := by cases t <;> decide +kernel
theorem ne_b1 (f : B1) : Str.ofString (b1S f) ≠ "__name__" ∧ (Str.ofString (b1S f) == ("__debug__" : Str)) = false := by cases f <;> decide +kernel
theorem ne_b2 (f : B2) : Str.ofString (b2S f) ≠ "__name__" ∧ (Str.ofString (b2S f) == ("__debug__" : Str)) = false := by cases f <;> decide +kernel
theorem ne_ty (f : Ty) : Str.ofString (tyS f) ≠ "__name__" ∧ (Str.ofString (tyS f) == ("__debug__" : Str)) = false := by cases f <;> decide +kernel
theorem ne_isi : Str.ofString "isinstance" ≠ "__name__" ∧ (Str.ofString "isinstance" == ("__debug__" : Str)) = false := by decide +kernel
theorem pe_callF {f : Value} {x : Str} {p : Pos} {e : Expr} {es : List Expr} {t : TA} {rr : List V → Hp → VK → Prop} (hf : (∃ id, f = .builtin id) ∨ ∃ T, f = .type T) (hc : CallR X f rr) (hg : Gl X x) (hm : X.mg x = none) (hv : bootBuiltins x = some f) (ha : PA X (e :: es) t)
    (hn : x ≠ "__name__" ∧ (x == ("__debug__" : Str)) = false) (he : starEach (e :: es) X.env = (false, eval e X.env) :: starEach es X.env) (hpl : (backTo pos (starEach es X.env)).any (·.1) = false) : PE X (.Call (.Name x p) (e :: es) [] pos) (tCB rr t) := by
  rcases hf with ⟨id, rfl⟩ | ⟨T, rfl⟩
  · exact pe_callB hc hg hm hv ha hn.1 hn.2 he hpl
  · exact pe_callTy hc hg hm hv ha hn.1 hn.2 he hpl
theorem fB1_k (f : B1) : (∃ id, fB1 f = .builtin id) ∨ ∃ T, fB1 f = .type T := by cases f <;> first | exact .inl ⟨_, rfl⟩ | exact .inr ⟨_, rfl⟩
theorem fB2_k (f : B2) : (∃ id, fB2 f = .builtin id) ∨ ∃ T, fB2 f = .type T := by cases f <;> first | exact .inl ⟨_, rfl⟩ | exact .inr ⟨_, rfl⟩
theorem e_b1 {f : B1} {p : Pos} (hK : X.K = fx.K) (hc : X.calm = true) (hu : X.A.units + 110 < cLine) (ha : PE X l (tBr fx P a)) (hg : Gl X (Str.ofString (b1S f))) (hm : X.mg (Str.ofString (b1S f)) = none) (hs : isStar l = false) :
    PE X (.Call (.Name (Str.ofString (b1S f)) p) [l] [] pos) (tE fx P (.b1 f a)) := (pe_callF (fB1_k f) (cr_b1 hK hc hu f) hg hm (boot_b1 f) (pa_cons ha pa_nil (star_cons hs [] X.env)) (ne_b1 f) (star_cons hs [] X.env) rfl).weak fun σ H Q ⟨lk, F, ρ, g, I, h⟩ => by
  simp only [evalE] at h
  refine seqB I h fun d1 g1 v1 H1 F1 I1 e1 r1 h1 => ?_
  obtain ⟨z, hz, k⟩ := Acc.ofO.mp h1
  exact ⟨F1, v1, d1, z, rfl, I1.exF, r1, hz, KE.kv k I1 e1⟩
theorem e_b2 {f : B2} {p : Pos} (hc : X.calm = true) (ha : PE X l (tE fx P a)) (hb : PE X r (tE fx P b)) (hg : Gl X (Str.ofString (b2S f))) (hm : X.mg (Str.ofString (b2S f)) = none) (hs : isStar l = false) (hs2 : isStar r = false) :
    PE X (.Call (.Name (Str.ofString (b2S f)) p) [l, r] [] pos) (tE fx P (.b2 f a b)) := (pe_callF (fB2_k f) (cr_b2 hc f) hg hm (boot_b2 f) (pa_cons ha (pa_cons hb pa_nil (star_cons hs2 [] X.env)) (star_cons hs [r] X.env)) (ne_b2 f) (star_cons hs [r] X.env) (by rw [star_cons hs2 []]; rfl)).weak fun σ H Q ⟨lk, F, ρ, g, I, h⟩ => by
  simp only [evalE] at h
  refine seqE I h fun d1 g1 v1 H1 F1 I1 e1 r1 h1 => ?_
  refine seqE I1 h1 fun d2 g2 v2 H2 F2 I2 e2 r2 h2 => ?_
  obtain ⟨z, hz, k⟩ := Acc.ofO.mp h2
  exact ⟨F2, v1, v2, d1, d2, z, rfl, I2.exF, .inl (r1.mono e2.f), .inl r2, hz, KE.kv k I2 (e1.trans e2)⟩
theorem e_isi {t : Ty} {p p2 : Pos} (hK : X.K = fx.K) (ha : PE X l (tBr fx P a)) (hg : Gl X (Str.ofString "isinstance")) (hm : X.mg (Str.ofString "isinstance") = none) (hg2 : Gl X (Str.ofString (tyS t))) (hm2 : X.mg (Str.ofString (tyS t)) = none) (hs : isStar l = false) :
    PE X (.Call (.Name (Str.ofString "isinstance") p) [l, .Name (Str.ofString (tyS t)) p2] [] pos) (tE fx P (.isi a t)) :=
  (pe_callF (.inl ⟨_, rfl⟩) (cr_isi hK t) hg hm boot_isi (pa_cons ha (pa_cons (pe_bltn (v := .ty (tyS t)) hg2 hm2 (boot_ty t) rfl (ne_ty t).1 (ne_ty t).2) pa_nil rfl) (star_cons hs _ X.env)) ne_isi (star_cons hs _ X.env) rfl).weak fun σ H Q ⟨lk, F, ρ, g, I, h⟩ => by
  simp only [evalE] at h
  refine seqB I h fun d1 g1 v1 H1 F1 I1 e1 r1 h1 => ?_
  obtain ⟨z, hz, k⟩ := Acc.ofO.mp h1
  obtain ⟨u, hu, rfl⟩ := omap hz
  exact ⟨F1, v1, d1, u, rfl, I1.exF, r1, hu, KE.here k I1 e1 (.bl _)⟩
theorem e_sitems {p apos cpos : Pos} (hK : X.K = fx.K) (hc : X.calm = true) (hu : X.A.units + 110 < cLine) (ha : PE X l (tE fx P a)) (hg : Gl X "sorted") (hm : X.mg "sorted" = none) (hb : superB l = true) (hl : apos.endLine = cpos.line) :
    PE X (.Call (.Name "sorted" p) [.Call (.Attribute l "items" apos) [] [] cpos] [] pos) (tE fx P (.sitems a)) := (pe_sortedItems hK hc hu ha hg hm (noSuper hb _ _) (by simp [hl])).weak fun σ H Q ⟨lk, F, ρ, g, I, h⟩ => by
  simp only [evalE] at h
  refine seqE I h fun d1 g1 v1 H1 F1 I1 e1 r1 h1 => ?_
  cases d1 <;> first | exact h1.elim | skip
  rename_i t ks vs
  cases t <;> first | exact h1.elim | skip
  obtain ⟨z, hz, k⟩ := Acc.ofO.mp h1
  obtain ⟨es, h2, rfl⟩ := omap hz
  exact ⟨F1, ks, vs, es, I1.exF, .inl r1, h2, KE.kv k I1 e1⟩
end
/-! ### calls -/
/-- behind a step that a call makes, the state -/
theorem SR.gp {fx : Fx} {lk : Lk} {σ : L2.St} {F H F' H' : Hp} {ρ : Env} {g g' : G} (I : SR fx lk σ F H ρ g) (ex : ExF F' H') (w : GP fx.ap F H F' H') (p : PoolOk fx F' H' g') : SR fx lk σ F' H' ρ g' := by
  have pn : F fx.ap = none := I.pool.1
  have nf : ∀ p, p ≠ fx.ap → F p = none → (∃ o, H p = some o) → F' p = none := fun p np hp ⟨o, ho⟩ => by
    cases q : F' p with
    | none => rfl
    | some u =>
      rcases w.nw p u np q with z | ⟨z, _⟩
      · rw [hp] at z; cases z
      · rw [ho] at z; cases z
  have lkp : ∀ e ∈ lk, e.1 ≠ fx.ap := fun e he z => by
    have := (I.lock e he).2.1
    rw [z, pn] at this; cases this
  refine ⟨ex, I.ex0.trans w.f, fun a o n1 n2 q => w.h _ _ n1 (I.base a o n1 n2 q), fun e he => ?_, fun a o q => ?_, I.len, fun i s e => ?_, I.dis, p, fun a u od u' h1 h2 h3 => by
    have na : a ≠ fx.ap := fun z => by rw [z, p.1] at h1; cases h1
    obtain ⟨z1, z2⟩ := fz_of (F' := F') I.exF (fun o => w.h a o na) (w.nw a u na h1) h2 h3
    exact I.fz a u od u' z1 h2 z2⟩
  · obtain ⟨h1, h2, h3, h4⟩ := I.lock e he
    exact ⟨w.h _ _ (lkp e he) h1, w.f _ _ h2, h3, h4⟩
  · by_cases ha : a = fx.ap
    · subst ha; rw [p.1] at q; cases q
    rcases w.nw a o ha q with z | ⟨z, _⟩
    · exact I.new a o z
    · right
      cases q0 : fx.H0 a with
      | none => rfl
      | some u =>
        by_cases hl : a ∈ lk.map (·.1)
        · obtain ⟨e, he, rfl⟩ := List.mem_map.mp hl
          rw [(I.lock e he).1] at z; cases z
        · rw [I.base a u ha hl q0] at z; cases z
  · have k := I.sl i s e
    cases s with
    | no => trivial
    | val d => obtain ⟨v, h1, h2⟩ := k; exact ⟨v, h1, h2.mono w.f⟩
    | own d =>
      obtain ⟨p, h1, h2, h3, h4, h5⟩ := k
      exact ⟨p, h1, nf p h3 h2 h5.there, h3, h4, h5.mono w.f fun o => w.h p o h3⟩
section
variable {fx : Fx} {P : Ctx} {X : Cx} {pos : Pos} {a : E} {N : List Str} {sc : Scope}
theorem call_tail {f : String} {j : Nat} {lk : Lk} {σ : L2.St} {F H F1 H1 : Hp} {ρ : Env} {g1 : G} {Q : VK} {xs : List D} {vs dvs : List V} {cl : List Int → List D → G → Res D} {Ex : XK} (I1 : SR fx lk σ F1 H1 ρ g1) (e1 : GP fx.ap F H F1 H1) (r1 : RepL fx.K fx.ap F1 xs vs)
    (hcl : cl fx.scr = P.call f) (hrep : ∀ ap F, RepL fx.K ap F (P.dfl f j) dvs) (h1 : Acc (KE fx lk σ F H ρ Q) noX (P.call f (xs ++ P.dfl f j) g1)) : spD fx.K cl (vs ++ dvs) H1 Q Ex := by
  refine ⟨fx.scr, fx.ap, F1, xs ++ P.dfl f j, g1, I1.exF, I1.pool, r1.app (hrep _ _), ?_⟩
  rw [hcl]
  refine Acc.imp h1 (fun d g' k v H' F' ex' w p' rv => ?_) fun _ _ _ x => x
  exact k v H' F' (I1.gp ex' w p') (e1.trans w) rv
theorem e_bad {f : String} {j : Nat} {e : Expr} (hbad : ∀ xs g, P.call f xs g = .bad) : PE X e (tE fx P (.call f a j)) := by
  refine ⟨fun pins s σ H Q I ⟨lk, F, ρ, g, I', h⟩ => ?_⟩
  simp only [evalE] at h
  refine (Acc.none noX_f ((Acc.bind.mp h).imp (fun d2 g2 h2 => ?_) fun _ _ _ x => x)).elim
  cases d2 <;> first | exact h2.elim | skip
  dsimp only at h2
  rw [hbad] at h2; exact h2
theorem e_call0 {f : String} {j : Nat} {p : Pos} (Gd : GoodX fx P N sc X) (hg : Gl X (Str.ofString f)) (hd : (Str.ofString f == ("__debug__" : Str)) = false) :
    PE X (.Call (.Name (Str.ofString f) p) [] [] pos) (tE fx P (.call f .anil j)) := by
  rcases Gd.call f j with hbad | ⟨ad, fd, ps, k, ds, dvs, cl, Fn, hcl, hr, hm, hk, hb, hdv, hrep⟩
  · exact e_bad hbad
  · refine (pe_call0 (E := fun _ _ _ => False) Fn hr hg hm hk hb hdv pass0 hd).weak fun σ H Q ⟨lk, F, ρ, g, I, h⟩ => ?_
    simp only [evalE] at h
    exact call_tail (xs := []) (Ex := fun _ _ _ => False) I GP.refl .nil hcl hrep h
theorem e_callN {f : String} {j : Nat} {p : Pos} {e : Expr} {es : List Expr} (Gd : GoodX fx P N sc X) (ha : PA X (e :: es) (tAr fx P a)) (hg : Gl X (Str.ofString f)) (hd : (Str.ofString f == ("__debug__" : Str)) = false)
    (hs : starEach (e :: es) X.env = (false, eval e X.env) :: starEach es X.env) (hpl : (backTo pos (starEach es X.env)).any (·.1) = false) : PE X (.Call (.Name (Str.ofString f) p) (e :: es) [] pos) (tE fx P (.call f a j)) := by
  rcases Gd.call f j with hbad | ⟨ad, fd, ps, k, ds, dvs, cl, Fn, hcl, hr, hm, hk, hb, hdv, hrep⟩
  · exact e_bad hbad
  · refine (pe_call (E := fun _ _ _ => False) Fn hr hg hm hk hb hdv pass0 ha hd hs hpl).weak fun σ H Q ⟨lk, F, ρ, g, I, h⟩ => ?_
    simp only [evalE] at h
    refine seqA I h fun d1 g1 h1 => ?_
    cases d1 <;> first | exact h1.elim | skip
    rename_i xs
    exact ⟨xs, rfl, fun vs H1 F1 I1 e1 r1 => call_tail I1 e1 r1 hcl hrep h1⟩
end
end MW

end
section
set_option Elab.async false
set_option linter.all false
set_option maxRecDepth 100000
set_option maxHeartbeats 2000000
namespace MW
open PySem PySem.Spec PyProof.Rows L2

/-! ### names forgotten -/
theorem wipe_get_in {σ : L2.St} {i : Nat} : ∀ {vs : List Nat}, i ∈ vs → (wipe σ vs)[i]? = none ∨ (wipe σ vs)[i]? = some none
  | [], h => by simp at h
  | v :: vs, h => by
    show ((wipe σ vs).set v none)[i]? = none ∨ ((wipe σ vs).set v none)[i]? = some none
    by_cases e : v = i
    · subst e
      by_cases hv : v < (wipe σ vs).length
      · right; rw [List.getElem?_set_self hv]
      · left; rw [List.getElem?_eq_none (by simpa using hv)]
    · rw [List.getElem?_set_ne e]
      rcases List.mem_cons.mp h with h | h
      · exact (e h.symm).elim
      · exact wipe_get_in h
theorem wipe_get_out {σ : L2.St} {i : Nat} : ∀ {vs : List Nat}, i ∉ vs → (wipe σ vs)[i]? = σ[i]?
  | [], _ => rfl
  | v :: vs, h => by
    show ((wipe σ vs).set v none)[i]? = σ[i]?
    simp only [List.mem_cons, not_or] at h
    rw [List.getElem?_set_ne (Ne.symm h.1)]
    exact wipe_get_out h.2
theorem wipe_eq {σ σ' : L2.St} {vs : List Nat} (hl : σ.length = σ'.length) (h : ∀ i, i ∉ vs → σ[i]? = σ'[i]?) : wipe σ vs = wipe σ' vs := by
  apply List.ext_getElem?
  intro i
  by_cases hi : i ∈ vs
  · by_cases hlt : i < σ.length
    · have h1 : i < (wipe σ vs).length := by rw [wipe_length]; exact hlt
      have h2 : i < (wipe σ' vs).length := by rw [wipe_length, ← hl]; exact hlt
      rcases wipe_get_in (σ := σ) hi with a | a
      · rw [List.getElem?_eq_getElem h1] at a; cases a
      · rcases wipe_get_in (σ := σ') hi with b | b
        · rw [List.getElem?_eq_getElem h2] at b; cases b
        · rw [a, b]
    · rw [List.getElem?_eq_none (by rw [wipe_length]; omega), List.getElem?_eq_none (by rw [wipe_length]; omega)]
  · rw [wipe_get_out hi, wipe_get_out hi, h i hi]
theorem wipe_wipe {σ : L2.St} {vs : List Nat} : wipe (wipe σ vs) vs = wipe σ vs := wipe_eq (by rw [wipe_length]) fun i hi => wipe_get_out hi
theorem SR.slot0 {fx : Fx} {lk : Lk} {σ : L2.St} {F H : Hp} {ρ : Env} {g : G} (I : SR fx lk σ F H ρ g) (i : Nat) : SR fx lk (σ.set i none) F H (ρ.set i .no) g := by
  refine ⟨I.exF, I.ex0, I.base, I.lock, I.new, by simp [I.len], fun j s e => ?_, fun j k d e p h1 h2 h3 h4 => ?_, I.pool, I.fz⟩
  · by_cases h : i = j
    · subst h
      by_cases hi : i < ρ.length
      · rw [List.getElem?_set_self hi] at e; cases e; trivial
      · rw [List.getElem?_eq_none (by simpa using hi)] at e; cases e
    · rw [List.getElem?_set_ne h] at e ⊢
      exact I.sl j s e
  · have ne : ∀ {j d}, (ρ.set i Slot.no)[j]? = some (.own d) → i ≠ j := fun {j d} e z => by
      subst z
      by_cases hi : i < ρ.length
      · rw [List.getElem?_set_self hi] at e; cases e
      · rw [List.getElem?_eq_none (by simpa using hi)] at e; cases e
    have n1 := ne h1
    have n2 := ne h2
    rw [List.getElem?_set_ne n1] at h1 h3
    rw [List.getElem?_set_ne n2] at h2 h4
    exact I.dis j k d e p h1 h2 h3 h4
theorem SR.wiped {fx : Fx} {lk : Lk} {σ : L2.St} {F H : Hp} {ρ : Env} {g : G} (I : SR fx lk σ F H ρ g) : ∀ vs : List Nat, SR fx lk (wipe σ vs) F H (wipeE vs ρ) g
  | [] => I
  | v :: vs => (I.wiped vs).slot0 v
/-! ### a name gets a value -/
theorem SR.slotV {fx : Fx} {lk : Lk} {σ : L2.St} {F H : Hp} {ρ : Env} {g : G} (I : SR fx lk σ F H ρ g) (i : Nat) {d : D} {v : V} (r : Rep fx.K fx.ap F d v) (hi : i < ρ.length) : SR fx lk (σ.set i (some v)) F H (ρ.set i (.val d)) g := by
  refine ⟨I.exF, I.ex0, I.base, I.lock, I.new, by simp [I.len], fun j s e => ?_, fun j k d0 e p h1 h2 h3 h4 => ?_, I.pool, I.fz⟩
  · by_cases h : i = j
    · subst h
      rw [List.getElem?_set_self hi] at e; cases e
      exact ⟨v, by rw [List.getElem?_set_self (by rw [I.len]; exact hi)], r⟩
    · rw [List.getElem?_set_ne h] at e ⊢
      exact I.sl j s e
  · have ne : ∀ {j d'}, (ρ.set i (Slot.val d))[j]? = some (.own d') → i ≠ j := fun {j d'} e z => by
      subst z
      rw [List.getElem?_set_self hi] at e; cases e
    have n1 := ne h1
    have n2 := ne h2
    rw [List.getElem?_set_ne n1] at h1 h3
    rw [List.getElem?_set_ne n2] at h2 h4
    exact I.dis j k d0 e p h1 h2 h3 h4
/-! ### targets -/
def Off (is : List Nat) (σ σ' : L2.St) : Prop := σ.length = σ'.length ∧ ∀ i, i ∉ is → σ[i]? = σ'[i]?
theorem Off.wipe {is vs : List Nat} {σ σ' : L2.St} (h : Off is σ σ') (hs : ∀ i ∈ is, i ∈ vs) : L2.wipe σ' vs = L2.wipe σ vs := (wipe_eq h.1 fun i hi => h.2 i fun z => hi (hs i z)).symm
def tGd (fx : Fx) (tg : T) : TG := fun v σ H Q => ∃ lk F ρ g d ρ', SR fx lk σ F H ρ g ∧ Rep fx.K fx.ap F d v ∧ bindT tg d ρ = some ρ' ∧ ∀ σ', SR fx lk σ' F H ρ' g → Off (slotsT tg) σ σ' → Q σ' H
def tGsd (fx : Fx) (tg : T) : TGs := fun vs σ H Q => ∃ lk F ρ g ds ρ', SR fx lk σ F H ρ g ∧ RepL fx.K fx.ap F ds vs ∧ bindT tg (.lst ds) ρ = some ρ' ∧ ∀ σ', SR fx lk σ' F H ρ' g → Off (slotsT tg) σ σ' → Q σ' H
theorem _root_.L2.PG.weak {X : Cx} {e : Expr} {t t' : TG} (h : PG X e t) (w : ∀ v σ H Q, t' v σ H Q → t v σ H Q) : PG X e t' := ⟨fun pins s σ H v u Q I r q => h.run pins s σ H v u Q I r (w v σ H Q q)⟩
theorem _root_.L2.PGs.weak {X : Cx} {e : List Expr} {t t' : TGs} (h : PGs X e t) (w : ∀ v σ H Q, t' v σ H Q → t v σ H Q) : PGs X e t' := ⟨fun pins s σ H v u Q I r q => h.run pins s σ H v u Q I r (w v σ H Q q)⟩
theorem ass_cons {e : Expr} (h : isStar e = false) (es : List Expr) (env : PySem.Env) : assignEach (e :: es) env = (false, assign e env) :: assignEach es env := by
  cases e <;> first | (simp [isStar] at h; done) | rfl
theorem bind_tup {tg : T} {d : D} {ρ ρ' : Env} (h : bindT (.tup tg) d ρ = some ρ') : ∃ ds, (d = .tup ds ∨ ∃ pl, d = .ctup pl ds) ∧ bindT tg (.lst ds) ρ = some ρ' := by
  cases d <;> simp only [bindT, reduceCtorEq] at h
  · exact ⟨_, .inl rfl, h⟩
  · exact ⟨_, .inr ⟨_, rfl⟩, h⟩
theorem bind_len {tg : T} : ∀ {ds : List D} {ρ ρ' : Env} {es : List Expr} {N : List Str} {sc : Scope}, chkT.chkTs N tg es sc = true → bindT tg (.lst ds) ρ = some ρ' → ds.length = es.length := by
  induction tg with
  | nm _ => intro ds ρ ρ' es N sc h; simp [chkT.chkTs] at h
  | tup _ _ => intro ds ρ ρ' es N sc h; simp [chkT.chkTs] at h
  | tnil =>
    intro ds ρ ρ' es N sc h hb
    cases es with
    | cons _ _ => simp [chkT.chkTs] at h
    | nil =>
      cases ds with
      | nil => rfl
      | cons _ _ => simp [bindT] at hb
  | tcons a r _ ih =>
    intro ds ρ ρ' es N sc h hb
    cases es with
    | nil => simp [chkT.chkTs] at h
    | cons e es =>
      simp only [chkT.chkTs, Bool.and_eq_true] at h
      cases ds with
      | nil => simp [bindT] at hb
      | cons x xs =>
        simp only [bindT] at hb
        obtain ⟨ρ1, _, h2⟩ := obind hb
        simp only [List.length_cons, ih h.2 h2]
theorem pg_all {X : Cx} {fx : Fx} {N : List Str} {sc : Scope} (hN : X.N = N) (nd : N.Nodup) (hK : X.K = fx.K) (hc : X.calm = true) (hl : ∀ x, locB sc x = true → Loc X.env.scope x ∧ (X.fn x = true ∨ X.env.scope.names.lookup x = some .local)) : ∀ tg : T,
    (∀ e, chkT N tg e sc = true → PG X e (tGd fx tg)) ∧ (∀ es, chkT.chkTs N tg es sc = true → PGs X es (tGsd fx tg) ∧ (assignEach es X.env).length = es.length ∧ (assignEach es X.env).findIdx? (·.1) = none) := by
  intro tg
  induction tg with
  | nm i =>
    refine ⟨fun e h => ?_, fun es h => by simp [chkT.chkTs] at h⟩
    simp only [chkT] at h
    split at h
    · simp only [Bool.and_eq_true, decide_eq_true_eq] at h
      obtain ⟨l1, l2⟩ := hl _ h.2
      refine (pg_name (by rw [hN]; exact nd) (by rw [hN]; exact h.1) l1 l2).weak fun v σ H Q ⟨lk, F, ρ, g, d, ρ', I, r, hb, k⟩ => ?_
      simp only [bindT] at hb
      split at hb
      · rename_i hi
        cases hb
        refine k _ (I.slotV i r hi) ⟨by simp, fun j hj => ?_⟩
        simp only [slotsT, List.mem_singleton] at hj
        rw [List.getElem?_set_ne (Ne.symm hj)]
      · cases hb
    · cases h
  | tup r ih =>
    refine ⟨fun e h => ?_, fun es h => by simp [chkT.chkTs] at h⟩
    simp only [chkT] at h
    split at h
    · rename_i es k pos
      obtain ⟨h1, h2, h3⟩ := ih.2 _ h
      refine (pg_tup hc h1 h2 h3).weak fun v σ H Q ⟨lk, F, ρ, g, d, ρ', I, rr, hb, k⟩ => ?_
      obtain ⟨ds, hd, hb⟩ := bind_tup hb
      have hlen := bind_len h hb
      have : ∃ a vs, v = .ref a ∧ SqT X.K H a vs ∧ RepL fx.K fx.ap F ds vs := by
        rcases hd with rfl | ⟨pl, rfl⟩
        · obtain ⟨p, vs, e, h1, r1, _⟩ := BR.tup I.exF (fx := fx) (.inl rr)
          exact ⟨p, vs, e, by rw [hK]; exact h1, r1⟩
        · obtain ⟨p, vs, e, h1, r1⟩ := BR.ctup I.exF (fx := fx) (.inl rr)
          exact ⟨p, vs, e, by rw [hK]; exact h1, r1⟩
      obtain ⟨a, vs, e, h4, r1⟩ := this
      exact ⟨a, vs, e, h4, by rw [← r1.len]; exact hlen, lk, F, ρ, g, ds, ρ', I, r1, hb, k⟩
    · cases h
  | tnil =>
    refine ⟨fun e h => by simp [chkT] at h, fun es h => ?_⟩
    cases es with
    | cons _ _ => simp [chkT.chkTs] at h
    | nil =>
      refine ⟨pgs_nil.weak fun v σ H Q ⟨lk, F, ρ, g, ds, ρ', I, r, hb, k⟩ => ?_, rfl, rfl⟩
      cases ds with
      | cons _ _ => simp [bindT] at hb
      | nil =>
        cases r
        simp only [bindT, Option.some.injEq] at hb
        subst hb
        exact ⟨rfl, k _ I ⟨rfl, fun _ _ => rfl⟩⟩
  | tcons a r iha ihr =>
    refine ⟨fun e h => by simp [chkT] at h, fun es h => ?_⟩
    cases es with
    | nil => simp [chkT.chkTs] at h
    | cons e es =>
      simp only [chkT.chkTs, Bool.and_eq_true, Bool.not_eq_true'] at h
      obtain ⟨⟨h1, h2⟩, h3⟩ := h
      obtain ⟨q1, q2, q3⟩ := ihr.2 es h3
      have hs := ass_cons h1 es X.env
      refine ⟨(pgs_cons (iha.1 e h2) q1 (by rw [hs]; rfl)).weak fun v σ H Q ⟨lk, F, ρ, g, ds, ρ', I, rr, hb, k⟩ => ?_, by rw [hs]; simp [q2], by rw [hs]; simp [List.findIdx?_cons, q3]⟩
      cases ds with
      | nil => simp [bindT] at hb
      | cons x xs =>
        cases rr with
        | cons rx rxs =>
          simp only [bindT] at hb
          obtain ⟨ρ1, hb1, hb2⟩ := obind hb
          refine ⟨_, _, rfl, lk, F, ρ, g, x, ρ1, I, rx, hb1, fun σ1 I1 o1 => ?_⟩
          refine ⟨lk, F, ρ1, g, xs, ρ', I1, rxs, hb2, fun σ2 I2 o2 => k σ2 I2 ?_⟩
          refine ⟨o1.1.trans o2.1, fun i hi => ?_⟩
          simp only [slotsT, List.mem_append, not_or] at hi
          rw [o1.2 i hi.1, o2.2 i hi.2]
/-! ### locks -/
theorem SR.locked {fx : Fx} {lk : Lk} {σ : L2.St} {F H : Hp} {ρ : Env} {g : G} {d : Addr} {u : HO} (I : SR fx lk σ F H ρ g) (hF : F d = some u) (hH : H d = some u) (hu : IsDct u) (od : Obj) : SR fx ((d, od, u) :: lk) σ F (upd H d (.frz od u)) ρ g ∧ d ∉ lk.map (·.1) := by
  have nf : ∀ o, u ≠ .frz o u := fun o z => by
    rcases hu with ⟨k, rfl⟩ | ⟨k, rfl⟩ <;> cases z
  have nlk : d ∉ lk.map (·.1) := fun h => by
    obtain ⟨e, he, rfl⟩ := List.mem_map.mp h
    have := (I.lock e he).1
    rw [hH] at this
    rcases hu with ⟨k, rfl⟩ | ⟨k, rfl⟩ <;> cases this
  have dap : d ≠ fx.ap := fun z => by rw [z, I.pool.1] at hF; cases hF
  refine ⟨⟨fun a o h => ?_, I.ex0, fun a o n1 n2 q => ?_, fun e he => ?_, I.new, I.len, fun i s e => ?_, I.dis, ⟨I.pool.1, ?_⟩, fun a v od' u' h1 h2 h3 => by
    by_cases z : a = d
    · exact .inl (by simp [z])
    · rw [upd_ne z] at h3
      rcases I.fz a v od' u' h1 h2 h3 with q | q
      · exact .inl (List.mem_cons_of_mem _ q)
      · exact .inr q⟩, nlk⟩
  · by_cases z : a = d
    · subst z; rw [hF] at h; cases h; exact .inr ⟨hu, od, upd_same⟩
    · rw [upd_ne z]; exact I.exF a o h
  · simp only [List.map_cons, List.mem_cons, not_or] at n2
    rw [upd_ne n2.1]
    exact I.base a o n1 n2.2 q
  · rcases List.mem_cons.mp he with rfl | he
    · refine ⟨upd_same, hF, hu, fun o ho => ?_⟩
      have := I.base d o dap nlk ho
      rw [hH] at this; cases this; rfl
    · obtain ⟨h1, h2, h3, h4⟩ := I.lock e he
      refine ⟨by rw [upd_ne (fun z => nlk (List.mem_map.mpr ⟨e, he, z⟩))]; exact h1, h2, h3, h4⟩
  · have k := I.sl i s e
    cases s with
    | no => trivial
    | val d => exact k
    | own d =>
      obtain ⟨p, h1, h2, h3, h4, h5⟩ := k
      refine ⟨p, h1, h2, h3, h4, h5.mono (Ex.refl _) fun o q => ?_⟩
      rw [upd_ne (fun z => by rw [z, hF] at h2; cases h2)]; exact q
  · obtain ⟨a, h2, h3⟩ := I.pool.2
    exact ⟨a, h2, by rw [upd_ne (Ne.symm dap)]; exact h3⟩
theorem SR.unlocked {fx : Fx} {lk : Lk} {σ : L2.St} {F H : Hp} {ρ : Env} {g : G} {d : Addr} {u : HO} {od : Obj} (I : SR fx ((d, od, u) :: lk) σ F H ρ g) (nlk : d ∉ lk.map (·.1)) : SR fx lk σ F (upd H d u) ρ g := by
  obtain ⟨l1, l2, l3, l4⟩ := I.lock _ (List.mem_cons_self ..)
  dsimp only at l1 l2 l3 l4
  have dap : d ≠ fx.ap := fun z => by rw [z, I.pool.1] at l2; cases l2
  refine ⟨fun a o h => ?_, I.ex0, fun a o n1 n2 q => ?_, fun e he => ?_, I.new, I.len, fun i s e => ?_, I.dis, ⟨I.pool.1, ?_⟩, fun a v od' u' h1 h2 h3 => by
    by_cases z : a = d
    · subst z
      rw [upd_same] at h3
      rcases l3 with ⟨k, rfl⟩ | ⟨k, rfl⟩ <;> cases h3
    · rw [upd_ne z] at h3
      rcases I.fz a v od' u' h1 h2 h3 with q | q
      · simp only [List.map_cons, List.mem_cons] at q
        rcases q with q | q
        · exact (z q).elim
        · exact .inl q
      · exact .inr q⟩
  · by_cases z : a = d
    · subst z; rw [l2] at h; cases h; exact .inl upd_same
    · rw [upd_ne z]; exact I.exF a o h
  · by_cases z : a = d
    · subst z; rw [upd_same, l4 o q]
    · rw [upd_ne z]
      exact I.base a o n1 (by simp only [List.map_cons, List.mem_cons, not_or]; exact ⟨z, n2⟩) q
  · obtain ⟨h1, h2, h3, h4⟩ := I.lock e (List.mem_cons_of_mem _ he)
    exact ⟨by rw [upd_ne (fun z => nlk (List.mem_map.mpr ⟨e, he, z⟩))]; exact h1, h2, h3, h4⟩
  · have k := I.sl i s e
    cases s with
    | no => trivial
    | val d => exact k
    | own d =>
      obtain ⟨p, h1, h2, h3, h4, h5⟩ := k
      refine ⟨p, h1, h2, h3, h4, h5.mono (Ex.refl _) fun o q => ?_⟩
      rw [upd_ne (fun z => by rw [z, l2] at h2; cases h2)]; exact q
  · obtain ⟨a, h2, h3⟩ := I.pool.2
    exact ⟨a, h2, by rw [upd_ne (Ne.symm dap)]; exact h3⟩
theorem GP.unlocked {ap : Addr} {F H F' H' : Hp} {d : Addr} {u : HO} {od : Obj} (hH : H d = some u) (e : GP ap F (upd H d (.frz od u)) F' H') : GP ap F H F' (upd H' d u) := by
  refine ⟨e.f, fun a o n h => ?_, fun a o n h => ?_⟩
  · by_cases z : a = d
    · subst z; rw [hH] at h; cases h; exact upd_same
    · rw [upd_ne z]; exact e.h a o n (by rw [upd_ne z]; exact h)
  · rcases e.nw a o n h with q | ⟨q, y⟩
    · exact .inl q
    · by_cases z : a = d
      · subst z; rw [upd_same] at q; cases q
      · rw [upd_ne z] at q ⊢; exact .inr ⟨q, y⟩
end MW

end
section
set_option Elab.async false
set_option linter.all false
set_option maxRecDepth 100000
set_option maxHeartbeats 4000000
namespace MW
open PySem PySem.Spec PyProof.Rows L2
/-! ### enumerate over a tuple -/
theorem enum_newT (l : Addr) (items : Array Value) (n : Nat) (dct : Option Addr) (sl : Array (Option Value)) :
    Meets (Builtin.«enumerate.__new__» ⟨[.type "enumerate", .ref l], []⟩) (fun _ R s => s.heap.get? l = some { cls := .type "tuple", dict := dct, data := .seq items n, slots := sl } ∧
      R (.ok (.ret (.ref (s.heap.push { cls := .type "tuple_iterator", data := .fields #[.ref l, .int 0 0] }).objs.size)))
        { s with heap := (s.heap.push { cls := .type "tuple_iterator", data := .fields #[.ref l, .int 0 0] }).push { cls := .type "enumerate", data := .fields #[.none, .bool false, .ref s.heap.objs.size, rawInt 0, .none, .none] } }) :=
  .of_wp fun prog w A R s h => by
    obtain ⟨hp, g, d, tk, os⟩ := s
    obtain ⟨hl, h⟩ := h
    have hsub := sub_enumerate
    have hL : (⟨hp, g, d, tk, os⟩ : Shared).heap.IsTuple l items := ⟨_, hl, rfl, n, rfl⟩
    wp_walk
    refine wpAny_stack_any fun st => wpAny_pure ?_
    split
    · rename_i c _ _ _ _ _
      cases (c == Value.type "enumerate")
      · wp_walk using wpAny_pyIter_tuple hL
        exact ⟨_, rfl, h⟩
      · wp_walk using wpAny_pyIter_tuple hL
        exact ⟨_, rfl, h⟩
    · wp_walk using wpAny_pyIter_tuple hL
      exact ⟨_, rfl, h⟩

section
variable {prog : Program} {w : World} {A : Around} {E : Value → Shared → Prop} {s : Shared}
theorem call_enumT {l : Addr} {items : Array Value} {Q : Value → Shared → Prop} (hL : s.heap.IsTuple l items)
    (h : ∀ h', IsEnum h' (s.heap.objs.size + 1) s.heap.objs.size 0 .none → h'.IsTupleIter s.heap.objs.size l 0 → h'.objs.size = s.heap.objs.size + 2 →
      (∀ b o, s.heap.get? b = some o → h'.get? b = some o) → Q (.ref (s.heap.objs.size + 1)) { s with heap := h' }) :
    wpAny (model prog w) A (call (.type "enumerate") [.ref l]) Q E s := by
  obtain ⟨⟨c, dct, dt, sl⟩, hl, hc, n, hd⟩ := hL
  replace hc : c = .type "tuple" := hc
  replace hd : dt = .seq items n := hd
  subst hc hd
  refine callType_new F.called_enumerate (by decide) (F.typeCall_enumerate_1 _) (F.newCall_enumerate_1 _) (fun obj => F.args_object_init_2 obj _) F.entry_enumerate_new
    (enum_newT l items n dct sl) ⟨hl, ?_⟩
  have hz : (s.heap.push { cls := .type "tuple_iterator", data := .fields #[.ref l, .int 0 0] }).objs.size = s.heap.objs.size + 1 := Heap.size_push ..
  show _ ∧ _
  rw [hz]
  have he : IsEnum ((s.heap.push { cls := .type "tuple_iterator", data := .fields #[.ref l, .int 0 0] }).push
      { cls := .type "enumerate", data := .fields #[.none, .bool false, .ref s.heap.objs.size, rawInt 0, .none, .none] }) (s.heap.objs.size + 1) s.heap.objs.size 0 .none := by
    have := Heap.get?_push_size (s.heap.push { cls := .type "tuple_iterator", data := .fields #[.ref l, .int 0 0] })
      (o := { cls := .type "enumerate", data := .fields #[.none, .bool false, .ref s.heap.objs.size, rawInt 0, .none, .none] }) rfl
    rw [hz] at this; exact this
  refine ⟨⟨_, he, rfl⟩, h _ he ⟨_, Heap.get?_push_of_some _ (Heap.get?_push_size _ rfl), rfl, rfl⟩ (by rw [Heap.size_push, hz]) fun b o x => Heap.get?_push_of_some _ (Heap.get?_push_of_some _ x)⟩
end
def IteT (K : PySem.W.Frag) (a : Addr) : It :=
  ⟨fun i H => ∃ (xs : List V) (x : V), SqT K H a xs ∧ xs[i]? = some x, fun i H v H' => ∃ T x, v = .ref T ∧ H T = none ∧ H' = upd H T (.tup [.int (i : Nat), x]) ∧ ∀ xs, SqT K H a xs → xs[i]? = some x, fun i H => ∃ xs : List V, SqT K H a xs ∧ xs.length ≤ i⟩
theorem ext_ne {h : Heap} {e a : Addr} {o o' : Obj} (h1 : h.get? e = some o) (h2 : h.get? a = some o') (hc : o.cls ≠ o'.cls) : e ≠ a := by
  rintro rfl
  rw [h1] at h2
  exact hc (congrArg Obj.cls (Option.some.inj h2))
theorem turn_enumT {P : Program} {w : World} {K : PySem.W.Frag} {elts : List Expr} {kk : Nat} {tpos : Pos} (a e it : Addr) :
    Turn P w K (.Tuple elts kk tpos) (IteT K a) [e, it] e (fun i h => (∃ old, IsEnum h e it ((i : Nat) : Int) old) ∧ h.IsTupleIter it a i ∧ e ≠ it) where
  mem := by simp
  obj := fun i h st b hb => by
    obtain ⟨⟨old, he⟩, ⟨o, ho, hc, hd⟩, _⟩ := st
    have e' : b = e ∨ b = it := by simpa using hb
    rcases e' with z | z
    · rw [z]; exact ⟨_, he, fun v q => nomatch q⟩
    · rw [z]; exact ⟨o, ho, fun v q => by rw [hd] at q; cases q⟩
  keep := fun i h h' st k => let ⟨⟨old, he⟩, hi, hne⟩ := st; ⟨⟨old, k e (by simp) _ he⟩, hi.at fun o q => k it (by simp) o q, hne⟩
  item := by
    intro X hP hw hK hc i pins s σ H E I hf st hg
    subst hP hw hK
    obtain ⟨⟨old, he⟩, hit, hne⟩ := st
    obtain ⟨xs, x, hq, hx⟩ := hg
    obtain ⟨its, rv, p, hz⟩ := I.tuple hq
    obtain ⟨u, hu, ru⟩ := rv.get hx
    have hel : e < s.heap.objs.size := Heap.lt_size he
    have hil : it < s.heap.objs.size := by obtain ⟨_, q, _⟩ := hit; exact Heap.lt_size q
    obtain ⟨ot, hot, hct, _⟩ := id p
    obtain ⟨oi, hoi, hci, _⟩ := id hit
    have hea : e ≠ a := ext_ne he hot (by rw [hct]; show Value.type "enumerate" ≠ Value.type "tuple"; decide)
    have hai : a ≠ it := ext_ne hot hoi (by rw [hct, hci]; decide)
    have hlt : i < its.toArray.size := by
      have : its[i]? = some u := hu
      rcases List.getElem?_eq_some_iff.mp this with ⟨h, _⟩
      simpa using h
    have D : Draws X.prog X.w X.A.in1 it [it, a] its.toArray.size (fun i v => its.toArray[i]? = some v) (fun i h => h.IsTupleIter it a i ∧ h.IsTuple a its.toArray) := Draws.tuple (A := X.A.in1) (I.ok.hd hc) it a hai its.toArray
    refine wpAny_pyNext_enum_itemD D he ⟨hit, p⟩ hlt hne (by simp [hne, hea]) fun u' h' tk hP ho hst' hT hsz hk => ?_
    obtain rfl : u' = u := by
      have h1 : its[i]? = some u := hu
      have h2 : its.toArray[i]? = some u' := hP
      simp [h1] at h2
      exact h2.symm
    refine ⟨_, rfl, wpAny_letOwnedTupleGo_enum (s := { s with heap := h', toks := tk + 1 }) ho fun h'' he' sb => ?_⟩
    have hT2 : h''.get? s.heap.objs.size = some { cls := .type "tuple", data := .seq #[.int i tk, u'] } := (sb.2 _ (Nat.ne_of_gt hel)).trans hT
    have new : ObjOk X.prog X.w (upd H s.heap.objs.size (.tup [.int (i : Nat), x])) h'' s.heap.objs.size (.tup [.int (i : Nat), x]) :=
      ⟨by show 2 ≤ sizeLine; decide, [.int i tk, u'], .cons ⟨_, rfl⟩ (.cons ru .nil), ⟨_, hT2, rfl, _, rfl⟩⟩
    have I1 : Inv X pins σ (upd H s.heap.objs.size (.tup [.int (i : Nat), x])) { s with heap := h'', toks := tk + 1 } :=
      I.turnedNew (ch := [e, it]) (fun b ob hb q => (sb.2 b (fun z => hb (by simp [z]))).trans (hk b ob (fun z => hb (by simp [z])) (fun z => hb (by simp [z])) q)) hf (Nat.le_refl _) new
    refine ⟨.ref s.heap.objs.size, _, I1, rfl, ⟨_, x, rfl, I.hok.fresh (Nat.le_refl _), rfl, fun ys hy => by rw [I.tuple_inj hy hq]; exact hx⟩, ⟨⟨u', ?_⟩, hst'.1.at fun o q => (sb.2 it (Ne.symm hne)).trans q, hne⟩, fun b hb => ?_⟩
    · have e1 : ((i + 1 : Nat) : Int) = (i : Int) + 1 := by omega
      rw [e1]; exact he'
    · have hb' : b < s.heap.objs.size := by
        have e' : b = e ∨ b = it := by simpa using hb
        rcases e' with z | z
        · rw [z]; exact hel
        · rw [z]; exact hil
      rw [upd_ne (Nat.ne_of_lt hb')]
      exact (hf b hb).1
  done := by
    intro X hP hw hK hc i pins s σ H E I hf st hg
    subst hP hw hK
    obtain ⟨⟨old, he⟩, hit, hne⟩ := st
    obtain ⟨xs, hq, hx⟩ := hg
    obtain ⟨its, rv, p, hz⟩ := I.tuple hq
    obtain ⟨f0, f1, f2, f3, f4, f5⟩ := hf it (by simp)
    have hl := rv.length
    obtain ⟨ot, hot, hct, _⟩ := id p
    obtain ⟨oi, hoi, hci, _⟩ := id hit
    have hai : a ≠ it := ext_ne hot hoi (by rw [hct, hci]; decide)
    have hT : s.TypeIs (.ref e) "enumerate" := ⟨_, he, rfl⟩
    unfold pyNext
    refine wpAny_bind (wpAny_attempt (wpAny_callSpecial?_slot (name := Str.ofString "__next__") hT F.slot_enumerate_next
      (wpAny_call_entry F.slot_enumerate_next hT F.entry_enumerate_next ?_ (F.args_enumerate_next_1 _))))
    show wpAny _ _ (field (.ref e) 2 >>= _) _ _ _
    refine wpAny_bind (wpAny_field he rfl (x := .ref it) rfl ?_)
    refine wpAny_bind (wpAny_nextOf_tuple_end (A := X.A.in1) (I.ok.hd hc) hit p (by simp; omega) fun h' x he' hx' => ?_)
    obtain ⟨o, ho, hcx⟩ := hx'
    refine wpAny_bind (wpAny_isInstance (T := "StopIteration") (b := true) ⟨o, ho, hcx⟩ isSubtype_stop ?_)
    exact wpAny_pure (s := { s with heap := h' }) ⟨rfl, I.turned (t' := s.toks) (fun b o hb q => he' b o hb q) f0 f1 f3 f4 f5⟩
  self := fun A i s Q E st h => let ⟨⟨_, he⟩, _⟩ := st; wpAny_pyIter_enum he h
def iEnumT (K : PySem.W.Frag) (ta : TA) : TI := fun σ H R => ta σ H fun vs H1 => ∃ a xs, vs = [.ref a] ∧ SqT K H1 a xs ∧ R (IteT K a) H1
theorem pi_enumT {X : Cx} {e : Expr} {ta : TA} {p pos tpos : Pos} {elts : List Expr} {kk : Nat} (hg : Gl X "enumerate") (hm : X.mg "enumerate" = none) (ha : PA X [e] ta) (hs : starEach [e] X.env = [(false, eval e X.env)] := by rfl) :
    PI X (.Tuple elts kk tpos) (.Call (.Name "enumerate" p) [e] [] pos) (fun σ H R => ta σ H fun vs H1 => (∃ a xs, vs = [.ref a] ∧ SqL X.K H1 a xs ∧ R (Ite X.K a) H1) ∨ ∃ a xs, vs = [.ref a] ∧ SqT X.K H1 a xs ∧ R (IteT X.K a) H1) := by
  refine ⟨fun pins s σ H R I h => ?_⟩
  refine Call_ (ld_blt I hg hm boot_enumerate (PyProof.Rows.callWith_type1 (thn (ha.run pos pins s σ H _ I h) fun us s1 ⟨vs, H1, I1, r1, q1⟩ => ?_) hs rfl))
  rcases q1 with q1 | q1
  · obtain ⟨a, xs, ex, hq, q⟩ := q1
    subst ex
    cases r1 with
    | cons r rr =>
      cases rr
      cases r
      obtain ⟨its, rv, p', hz⟩ := I1.list hq
      refine call_enumerate_list p'.isList fun h' he hit hsz hk => wpAny_pyIter_enum he ?_
      have I2 : Inv X pins σ H1 { s1 with heap := h' } := I1.kept (t' := s1.toks) hk
      refine ⟨s1.heap.objs.size + 1, [s1.heap.objs.size + 1, s1.heap.objs.size], _, _, H1, rfl, I2, turn_enum a (s1.heap.objs.size + 1) s1.heap.objs.size, ⟨⟨.none, he⟩, hit, Nat.succ_ne_self _⟩, fun b hb => ?_, q⟩
      have e' : b = s1.heap.objs.size + 1 ∨ b = s1.heap.objs.size := by simpa using hb
      have hle : s1.heap.objs.size ≤ b := by
        rcases e' with z | z
        · rw [z]; exact Nat.le_add_right _ _
        · rw [z]; exact Nat.le_refl _
      exact I1.fpOk hle (I1.hok.fresh hle)
  · obtain ⟨a, xs, ex, hq, q⟩ := q1
    subst ex
    cases r1 with
    | cons r rr =>
      cases rr
      cases r
      obtain ⟨its, rv, p', hz⟩ := I1.tuple hq
      refine call_enumT p' fun h' he hit hsz hk => wpAny_pyIter_enum he ?_
      have I2 : Inv X pins σ H1 { s1 with heap := h' } := I1.kept (t' := s1.toks) hk
      refine ⟨s1.heap.objs.size + 1, [s1.heap.objs.size + 1, s1.heap.objs.size], _, _, H1, rfl, I2, turn_enumT a (s1.heap.objs.size + 1) s1.heap.objs.size, ⟨⟨.none, he⟩, hit, Nat.succ_ne_self _⟩, fun b hb => ?_, q⟩
      have e' : b = s1.heap.objs.size + 1 ∨ b = s1.heap.objs.size := by simpa using hb
      have hle : s1.heap.objs.size ≤ b := by
        rcases e' with z | z
        · rw [z]; exact Nat.le_add_right _ _
        · rw [z]; exact Nat.le_refl _
      exact I1.fpOk hle (I1.hok.fresh hle)
end MW

end
section
set_option Elab.async false
set_option linter.all false
set_option maxRecDepth 100000
set_option maxHeartbeats 2000000
namespace MW
open PySem PySem.Spec PyProof.Rows L2

/-! ### what is walked -/
/-- what a walk asks of a later state; own: nothing that is being built may change -/
structure OkI (own : Bool) (fx : Fx) (lk : Lk) (F1 H1 F H : Hp) : Prop where
  f : Ex F1 F
  ex : ExF F H
  fz : ∀ a od u, a ≠ fx.ap → a ∈ lk.map (·.1) ∨ fx.H0 a = some (.frz od u) → H1 a = some (.frz od u) → H a = some (.frz od u)
  own : own = true → ExP fx.ap H1 H
def Wk (own : Bool) (fx : Fx) (lk : Lk) (F1 H1 : Hp) (J : It) (ds : List D) : Prop := ∀ F H, OkI own fx lk F1 H1 F H → J.stop ds.length H ∧ ∀ i d, ds[i]? = some d → J.go i H ∧ ∀ x H', J.yld i H x H' → ∃ F', Grow F H F' H' ∧ Rep fx.K fx.ap F' d x
/-- the name whose dict is walked -/
def lockN : E → Option Nat
  | .v i => some i
  | .items (.v i) => some i
  | .values (.v i) => some i
  | _ => none
def LockedFor (c : E) (σ : L2.St) (ρ : Env) (H : Hp) : Prop := ∀ i p ks vs, lockN c = some i → σ[i]? = some (some (.ref p)) → ρ[i]? = some (.val (.dct false ks vs)) → ∃ od u, H p = some (.frz od u)
def itR (own : Bool) (P : Ctx) (c : E) (ρ : Env) (g : G) : Res D := if own = true then brwI c ρ g (evalE P c ρ g) else evalE P c ρ g
def tI (own : Bool) (fx : Fx) (P : Ctx) (c : E) : TI := fun σ H R => ∃ lk F ρ g, SR fx lk σ F H ρ g ∧ LockedFor c σ ρ H ∧
  Acc (fun d g' => ∃ ds, itemsE c d = some ds ∧ ∀ J F' H', SR fx lk σ F' H' ρ g' → GP fx.ap F H F' H' → Wk own fx lk F' H' J ds → R J H') noX (itR own P c ρ g)
theorem Acc.self {α : Type} {Kk : α → G → Prop} {Xk : S → List D → G → Prop} {r : Res α} {d : α} {g : G} (h : Acc Kk Xk r) (e : r = .ok d g) : Acc (fun a b => a = d ∧ b = g ∧ Kk a b) Xk r := by
  subst e; exact ⟨rfl, rfl, h⟩
section
variable {fx : Fx} {P : Ctx} {X : Cx} {own : Bool} {lk : Lk}
theorem wk_list {F1 H1 : Hp} {a : Addr} {ds : List D} {vs : List V} (hK : X.K = fx.K) (h : F1 a = some (.lst vs) ∨ (own = true ∧ a ≠ fx.ap ∧ H1 a = some (.lst vs))) (r : RepL fx.K fx.ap F1 ds vs) : Wk own fx lk F1 H1 (Itl X.K a) ds := by
  intro F H ok
  have hq : H a = some (.lst vs) := by
    rcases h with h | ⟨h1, h2, h3⟩
    · exact ok.ex.lst (ok.f _ _ h)
    · exact ok.own h1 _ _ h2 h3
  have r' := r.mono ok.f
  refine ⟨⟨vs, SqL.of hq, by rw [r.len]; exact Nat.le_refl _⟩, fun i d hd => ?_⟩
  obtain ⟨v, hv, rv⟩ := r'.at' hd
  refine ⟨⟨vs, v, SqL.of hq, hv⟩, fun x H' ⟨e, hy⟩ => ?_⟩
  subst e
  have := hy _ (SqL.of hq)
  rw [hv] at this; cases this
  exact ⟨F, Grow.refl ok.ex, rv⟩
theorem wk_tup {F1 H1 : Hp} {a : Addr} {ds : List D} {vs : List V} (hK : X.K = fx.K) (ex : ExF F1 H1) (h : SqT fx.K F1 a vs) (r : RepL fx.K fx.ap F1 ds vs) : Wk own fx lk F1 H1 (Itt X.K a) ds := by
  intro F H ok
  have hq : SqT X.K H a vs := by
    rw [hK]
    refine ok.ex.sqT ?_
    rcases h with (h | ⟨o, h⟩) | h
    · exact .inl (.inl (ok.f _ _ h))
    · exact .inl (.inr ⟨o, ok.f _ _ h⟩)
    · exact .inr h
  have r' := r.mono ok.f
  refine ⟨⟨vs, hq, by rw [r.len]; exact Nat.le_refl _⟩, fun i d hd => ?_⟩
  obtain ⟨v, hv, rv⟩ := r'.at' hd
  refine ⟨⟨vs, v, hq, hv⟩, fun x H' ⟨e, hy⟩ => ?_⟩
  subst e
  have := hy _ hq
  rw [hv] at this; cases this
  exact ⟨F, Grow.refl ok.ex, rv⟩
theorem wk_rng {F1 H1 : Hp} (lo : Int) (n : Nat) : Wk own fx lk F1 H1 (Itr lo n) (rngL lo n) := by
  intro F H ok
  refine ⟨by show n ≤ _; simp [rngL], fun i d hd => ?_⟩
  have hi : i < n := by
    have := (List.getElem?_eq_some_iff.mp hd).1
    simpa [rngL] using this
  refine ⟨hi, fun x H' ⟨e, hx⟩ => ?_⟩
  subst e
  have : d = .int (lo + i) := by
    simp [rngL, List.getElem?_range hi] at hd
    exact hd.symm
  subst this; subst hx
  exact ⟨F, Grow.refl ok.ex, .int _⟩
theorem wk_rngD {F1 H1 : Hp} (lo : Int) (n : Nat) : Wk own fx lk F1 H1 (Itc lo (-1) n) ((List.range n).map fun (k : Nat) => D.int (lo - (k : Int))) := by
  intro F H ok
  refine ⟨by show n ≤ _; simp, fun i d hd => ?_⟩
  have hi : i < n := by
    have := (List.getElem?_eq_some_iff.mp hd).1
    simpa using this
  refine ⟨hi, fun x H' ⟨e, hx⟩ => ?_⟩
  subst e
  have : d = .int (lo - i) := by
    simp [List.getElem?_range hi] at hd
    exact hd.symm
  subst this; subst hx
  refine ⟨F, Grow.refl ok.ex, ?_⟩
  have : lo + (i : Int) * -1 = lo - i := by omega
  rw [this]
  exact .int _
theorem enumL_len : ∀ (xs : List D) (i : Nat), (enumL i xs).length = xs.length
  | [], _ => rfl
  | _ :: xs, i => by simp [enumL, enumL_len xs]
theorem enumL_get : ∀ (xs : List D) (k i : Nat) (d : D), (enumL k xs)[i]? = some d → ∃ x, xs[i]? = some x ∧ d = .tup [.int ((k + i : Nat) : Int), x]
  | [], k, i, d, h => by simp [enumL] at h
  | x :: xs, k, 0, d, h => by simp [enumL] at h; exact ⟨x, rfl, h.symm⟩
  | x :: xs, k, i + 1, d, h => by
    simp only [enumL, List.getElem?_cons_succ] at h ⊢
    obtain ⟨y, h1, h2⟩ := enumL_get xs (k + 1) i d h
    refine ⟨y, h1, ?_⟩
    rw [h2, show k + 1 + i = k + (i + 1) by omega]
theorem wk_enum {F1 H1 : Hp} {a : Addr} {ds : List D} {vs : List V} (hK : X.K = fx.K) (h : F1 a = some (.lst vs) ∨ (own = true ∧ a ≠ fx.ap ∧ H1 a = some (.lst vs))) (r : RepL fx.K fx.ap F1 ds vs) : Wk own fx lk F1 H1 (Ite X.K a) (enumL 0 ds) := by
  intro F H ok
  have hq : H a = some (.lst vs) := by
    rcases h with h | ⟨h1, h2, h3⟩
    · exact ok.ex.lst (ok.f _ _ h)
    · exact ok.own h1 _ _ h2 h3
  have r' := r.mono ok.f
  refine ⟨⟨vs, SqL.of hq, by rw [enumL_len, r.len]; exact Nat.le_refl _⟩, fun i d hd => ?_⟩
  obtain ⟨y, hy, rfl⟩ := enumL_get _ _ _ _ hd
  obtain ⟨v, hv, rv⟩ := r'.at' hy
  refine ⟨⟨vs, v, SqL.of hq, hv⟩, fun x H' ⟨T, w, ex, hT, hH, hw⟩ => ?_⟩
  subst ex; subst hH
  have := hw _ (SqL.of hq)
  rw [hv] at this; cases this
  refine ⟨_, Grow.new ok.ex _ hT, .tup upd_same (.cons ?_ (.cons (rv.mono (Ex.new (ok.ex.free hT))) .nil))⟩
  rw [Nat.zero_add]
  exact .int _
theorem wk_enumT {F1 H1 : Hp} {a : Addr} {ds : List D} {vs : List V} (hK : X.K = fx.K) (h : SqT fx.K F1 a vs) (r : RepL fx.K fx.ap F1 ds vs) : Wk own fx lk F1 H1 (IteT X.K a) (enumL 0 ds) := by
  intro F H ok
  have hq : SqT X.K H a vs := by
    rw [hK]
    refine ok.ex.sqT ?_
    rcases h with (h | ⟨o, h⟩) | h
    · exact .inl (.inl (ok.f _ _ h))
    · exact .inl (.inr ⟨o, ok.f _ _ h⟩)
    · exact .inr h
  have r' := r.mono ok.f
  refine ⟨⟨vs, hq, by rw [enumL_len, r.len]; exact Nat.le_refl _⟩, fun i d hd => ?_⟩
  obtain ⟨y, hy, rfl⟩ := enumL_get _ _ _ _ hd
  obtain ⟨v, hv, rv⟩ := r'.at' hy
  refine ⟨⟨vs, v, hq, hv⟩, fun x H' ⟨T, w, ex, hT, hH, hw⟩ => ?_⟩
  subst ex; subst hH
  have := hw _ hq
  rw [hv] at this; cases this
  refine ⟨_, Grow.new ok.ex _ hT, .tup upd_same (.cons ?_ (.cons (rv.mono (Ex.new (ok.ex.free hT))) .nil))⟩
  rw [Nat.zero_add]
  exact .int _
theorem zipL_get : ∀ (xs ys : List D) (i : Nat) (d : D), (zipL xs ys)[i]? = some d → ∃ x y, xs[i]? = some x ∧ ys[i]? = some y ∧ d = .tup [x, y]
  | [], ys, i, d, h => by simp [zipL] at h
  | x :: xs, [], i, d, h => by simp [zipL] at h
  | x :: xs, y :: ys, 0, d, h => by simp [zipL] at h; exact ⟨x, y, rfl, rfl, h.symm⟩
  | x :: xs, y :: ys, i + 1, d, h => by
    simp only [zipL, List.getElem?_cons_succ] at h ⊢
    exact zipL_get xs ys i d h
theorem zipL_len : ∀ (xs ys : List D), (zipL xs ys).length = min xs.length ys.length
  | [], ys => by simp [zipL]
  | x :: xs, [] => by simp [zipL]
  | x :: xs, y :: ys => by simp [zipL, zipL_len xs ys]
theorem wk_zip {F1 H1 : Hp} {a b : Addr} {ds es : List D} {vs ws : List V} (hK : X.K = fx.K) (h : F1 a = some (.lst vs)) (h2 : F1 b = some (.lst ws)) (r : RepL fx.K fx.ap F1 ds vs) (r2 : RepL fx.K fx.ap F1 es ws) : Wk own fx lk F1 H1 (Itz X.K a b) (zipL ds es) := by
  intro F H ok
  have hq := ok.ex.lst (ok.f _ _ h)
  have hq2 := ok.ex.lst (ok.f _ _ h2)
  refine ⟨⟨vs, ws, SqL.of hq, SqL.of hq2, by rw [zipL_len, r.len, r2.len]; omega⟩, fun i d hd => ?_⟩
  obtain ⟨x, y, hx, hy, rfl⟩ := zipL_get _ _ _ _ hd
  obtain ⟨v, hv, rv⟩ := (r.mono ok.f).at' hx
  obtain ⟨w, hw, rw'⟩ := (r2.mono ok.f).at' hy
  refine ⟨⟨vs, ws, v, w, SqL.of hq, SqL.of hq2, hv, hw⟩, fun z H' ⟨T, v', w', ez, hT, hH, h5, h6⟩ => ?_⟩
  subst ez; subst hH
  have := h5 _ (SqL.of hq)
  rw [hv] at this; cases this
  have := h6 _ (SqL.of hq2)
  rw [hw] at this; cases this
  have e := Ex.new (o := HO.tup [v, w]) (ok.ex.free hT)
  exact ⟨_, Grow.new ok.ex _ hT, .tup upd_same (.cons (rv.mono e) (.cons (rw'.mono e) .nil))⟩
theorem wk_keys {F1 H1 : Hp} {d : Addr} {od : Obj} {kvs : List (Key × V)} (hdp : d ≠ fx.ap) (hl : d ∈ lk.map (·.1) ∨ fx.H0 d = some (.frz od (.dK kvs))) (h : H1 d = some (.frz od (.dK kvs))) : Wk own fx lk F1 H1 (Itk d od kvs) (kvs.map fun p => kD p.1) := by
  intro F H ok
  have hq := ok.fz _ _ _ hdp hl h
  refine ⟨⟨hq, by simp⟩, fun i x hd => ?_⟩
  have hi : i < kvs.length := by
    have := (List.getElem?_eq_some_iff.mp hd).1
    simpa using this
  refine ⟨⟨hq, hi⟩, fun y H' ⟨e, k, v, hk, hy⟩ => ?_⟩
  subst e; subst hy
  refine ⟨F, Grow.refl ok.ex, ?_⟩
  rw [List.getElem?_map, hk] at hd
  cases hd
  exact rep_key k
theorem wk_vals {F1 H1 : Hp} {d : Addr} {od : Obj} {kvs : List (Key × V)} (hdp : d ≠ fx.ap) (hl : d ∈ lk.map (·.1) ∨ fx.H0 d = some (.frz od (.dK kvs))) {vs : List D} (h : H1 d = some (.frz od (.dK kvs))) (r : RepL fx.K fx.ap F1 vs (kvs.map (·.2))) : Wk own fx lk F1 H1 (Itd d od kvs) vs := by
  intro F H ok
  have hq := ok.fz _ _ _ hdp hl h
  refine ⟨⟨hq, by rw [r.len]; simp⟩, fun i x hd => ?_⟩
  have hi : i < kvs.length := by
    have := (List.getElem?_eq_some_iff.mp hd).1
    rw [r.len] at this; simpa using this
  refine ⟨⟨hq, hi⟩, fun y H' ⟨e, k, hk⟩ => ?_⟩
  subst e
  obtain ⟨v, hv, rv⟩ := (r.mono ok.f).at' hd
  rw [List.getElem?_map, hk] at hv
  cases hv
  exact ⟨F, Grow.refl ok.ex, rv⟩
theorem wk_items {F1 H1 : Hp} {d : Addr} {od : Obj} {kvs : List (Key × V)} (hdp : d ≠ fx.ap) (hl : d ∈ lk.map (·.1) ∨ fx.H0 d = some (.frz od (.dK kvs))) {vs : List D} (h : H1 d = some (.frz od (.dK kvs))) (r : RepL fx.K fx.ap F1 vs (kvs.map (·.2))) : Wk own fx lk F1 H1 (Iti d od kvs) (zipL (kvs.map fun p => kD p.1) vs) := by
  intro F H ok
  have hq := ok.fz _ _ _ hdp hl h
  refine ⟨⟨hq, by rw [zipL_len, r.len]; simp⟩, fun i x hd => ?_⟩
  obtain ⟨a, b, ha, hb, rfl⟩ := zipL_get _ _ _ _ hd
  have hi : i < kvs.length := by
    have := (List.getElem?_eq_some_iff.mp ha).1
    simpa using this
  refine ⟨⟨hq, hi⟩, fun y H' ⟨T, k, v, hk, hy, hT, hH⟩ => ?_⟩
  subst hy; subst hH
  rw [List.getElem?_map, hk] at ha
  cases ha
  obtain ⟨w, hw, rw'⟩ := (r.mono ok.f).at' hb
  rw [List.getElem?_map, hk] at hw
  cases hw
  exact ⟨_, Grow.new ok.ex _ hT, .tup upd_same (.cons (rep_key k) (.cons (rw'.mono (Ex.new (ok.ex.free hT))) .nil))⟩
/-! ### the walks by their text -/
variable {t e : Expr} {c : E} {pos : Pos}
theorem i_bad (h : ∀ own ρ g, itR own P c ρ g = .bad) {own : Bool} : PI X t e (tI own fx P c) := ⟨fun pins s σ H Q I ⟨lk, F, ρ, g, _, _, q⟩ => by rw [h] at q; exact q.elim⟩
theorem itR_cases {own : Bool} (ρ : Env) (g : G) (hn : ∀ a, c ≠ .enum a) : itR own P c ρ g = evalE P c ρ g ∨ (own = true ∧ ∃ i xs, c = .v i ∧ ρ[i]? = some (.own (.lst xs)) ∧ itR own P c ρ g = .ok (.lst xs) g) := by
  unfold itR
  cases own with
  | false => exact .inl rfl
  | true =>
    simp only [if_true]
    unfold brwI
    split
    · rename_i i
      split
      · rename_i xs e
        exact .inr ⟨trivial, i, xs, rfl, e, rfl⟩
      · exact .inl rfl
    · exact (hn _ rfl).elim
    · exact .inl rfl
/-- a list, a tuple, a dict by its name -/
theorem i_val (hK : X.K = fx.K) (hn : ∀ a, c ≠ .enum a) (hE : PE X e (tE fx P c)) (hv : ∀ i, c = .v i → PE X e (tVar i)) (hl : ∀ i, lockN c = some i → c = .v i) : PI X t e (tI own fx P c) := by
  refine ⟨fun pins s σ H R I0 ⟨lk, F, ρ, g, I, L, h⟩ => ?_⟩
  rcases itR_cases (P := P) (own := own) ρ g hn with he | ⟨ho, i, xs, rfl, hi, he⟩
  · rw [he] at h
    cases hq : evalE P c ρ g with
    | bad => rw [hq] at h; exact h.elim
    | exc _ _ _ => rw [hq] at h; exact h.elim
    | ok d0 g0 =>
      have h := h.self hq
      obtain ⟨ds0, hds, _⟩ : ∃ ds, itemsE c d0 = some ds ∧ True := by
        have h' := h
        rw [hq] at h'
        obtain ⟨_, _, ds, h1, _⟩ := h'
        exact ⟨ds, h1, trivial⟩
      unfold itemsE at hds
      split at hds
      · -- a list
        cases hds
        refine (pi_list hE).run pins s σ H R I0 ⟨lk, F, ρ, g, I, h.imp (fun d g1 ⟨e1, e2, ds, h1, k⟩ v H' F' I' e r => ?_) fun _ _ _ x => x⟩
        subst e1; subst e2
        cases h1
        obtain ⟨p, vs, rfl, h1, r1⟩ := BR.lst I'.exF (fx := fx) (.inl r)
        cases r with
        | lst hF rr => exact ⟨_, rfl, ⟨_, SqL.of (I'.exF.lst hF)⟩, k _ _ _ I' e (wk_list hK (.inl hF) rr)⟩
      · cases hds
        refine (pi_tup hE).run pins s σ H R I0 ⟨lk, F, ρ, g, I, h.imp (fun d g1 ⟨e1, e2, ds, h1, k⟩ v H' F' I' e r => ?_) fun _ _ _ x => x⟩
        subst e1; subst e2
        cases h1
        cases r with
        | tup hF rr => exact ⟨_, rfl, ⟨_, by rw [hK]; exact SqT.of (I'.exF.tup hF)⟩, k _ _ _ I' e (wk_tup hK I'.exF (SqT.of hF) rr)⟩
        | tup0 hF => exact ⟨_, rfl, ⟨_, by rw [hK]; exact I'.exF.sqT hF⟩, k _ _ _ I' e (wk_tup hK I'.exF hF .nil)⟩
      · cases hds
        refine (pi_tup hE).run pins s σ H R I0 ⟨lk, F, ρ, g, I, h.imp (fun d g1 ⟨e1, e2, ds, h1, k⟩ v H' F' I' e r => ?_) fun _ _ _ x => x⟩
        subst e1; subst e2
        cases h1
        cases r with
        | ctup hF _ rr => exact ⟨_, rfl, ⟨_, by rw [hK]; exact I'.exF.sqT hF⟩, k _ _ _ I' e (wk_tup hK I'.exF hF rr)⟩
      · rename_i ks vs
        cases c with
        | v i =>
          cases hds
          simp only [evalE] at hq
          split at hq
          · rename_i d hi
            cases hq
            obtain ⟨v, hv1, hv2⟩ := I.sl _ _ hi
            have h' : Acc _ _ (evalE P (.v i) ρ g) := h
            simp only [evalE, hi] at h'
            obtain ⟨_, _, ds, h1, k⟩ := h'
            cases h1
            cases hv2 with
            | dctK hF hk rr =>
              obtain ⟨od, u, hz⟩ := L i _ _ _ rfl hv1 hi
              rcases I.exF _ _ hF with z | ⟨_, od', z⟩
              · rw [hz] at z; cases z
              · subst hk
                exact (pi_keys (hv i rfl)).run pins s σ H R I0 ⟨_, hv1, _, od', rfl, .inl ⟨_, z, k _ _ _ I GP.refl (wk_keys (fun z => by rw [z, I.pool.1] at hF; cases hF) (I.fz _ _ _ _ hF (.inl ⟨_, rfl⟩) z) z)⟩⟩
          · cases hq
        | _ => cases hds
      · cases hds
  · rw [he] at h
    obtain ⟨ds, h1, k⟩ := h
    cases h1
    obtain ⟨p, h1, h2, h3, h4, vs, h5, h6⟩ := I.sl _ _ hi
    exact (pi_list (hv i rfl)).run pins s σ H R I0 ⟨_, h1, p, rfl, ⟨vs, SqL.of h5⟩, k _ _ _ I GP.refl (wk_list hK (.inr ⟨ho, h3, h5⟩) h6)⟩
end
end MW

end
section
set_option Elab.async false
set_option linter.all false
set_option maxRecDepth 100000
set_option maxHeartbeats 2000000
namespace MW
open PySem PySem.Spec PyProof.Rows L2
section
variable {fx : Fx} {P : Ctx} {X : Cx} {own : Bool} {t l r q : Expr} {a b c : E} {pos p apos : Pos}
theorem i_rng1 (hg : Gl X "range") (hm : X.mg "range" = none) (ha : PE X l (tE fx P a)) (hs : isStar l = false) : PI X t (.Call (.Name "range" p) [l] [] pos) (tI own fx P (.rng1 a)) :=
  (pi_range1 hg hm (pa_cons ha pa_nil (star_cons hs [] X.env)) (star_cons hs [] X.env)).weak fun σ H R ⟨lk, F, ρ, g, I, L, h⟩ => by
  rw [show itR own P (.rng1 a) ρ g = evalE P (.rng1 a) ρ g by cases own <;> rfl] at h
  simp only [evalE] at h
  refine seqE I h fun d1 g1 v1 H1 F1 I1 e1 r1 h1 => ?_
  cases d1 <;> first | exact h1.elim | skip
  rename_i i
  cases r1
  dsimp only at h1
  split at h1
  · rename_i hb
    simp only [Bool.and_eq_true, decide_eq_true_eq] at hb
    obtain ⟨ds, h2, k⟩ := h1
    cases h2
    exact ⟨i, rfl, by omega, by omega, k _ _ _ I1 e1 (wk_rng 0 i.toNat)⟩
  · exact h1.elim
theorem i_rng2 (hg : Gl X "range") (hm : X.mg "range" = none) (ha : PE X l (tE fx P a)) (hb : PE X r (tE fx P b)) (hs : isStar l = false) (hs2 : isStar r = false) : PI X t (.Call (.Name "range" p) [l, r] [] pos) (tI own fx P (.rng2 a b)) :=
  (pi_range2 hg hm (pa_cons ha (pa_cons hb pa_nil (star_cons hs2 [] X.env)) (star_cons hs [r] X.env)) (by rw [star_cons hs [r], star_cons hs2 []]; rfl) (star_cons hs2 [] X.env)).weak fun σ H R ⟨lk, F, ρ, g, I, L, h⟩ => by
  rw [show itR own P (.rng2 a b) ρ g = evalE P (.rng2 a b) ρ g by cases own <;> rfl] at h
  simp only [evalE] at h
  refine seqE I h fun d1 g1 v1 H1 F1 I1 e1 r1 h1 => ?_
  refine seqE I1 h1 fun d2 g2 v2 H2 F2 I2 e2 r2 h2 => ?_
  cases d1 <;> first | exact h2.elim | skip
  cases d2 <;> first | exact h2.elim | skip
  rename_i i j
  cases r1; cases r2
  dsimp only at h2
  split at h2
  · rename_i hb
    simp only [Bool.and_eq_true, decide_eq_true_eq] at hb
    obtain ⟨ds, h3, k⟩ := h2
    cases h3
    exact ⟨i, j, rfl, by omega, k _ _ _ I2 (e1.trans e2) (wk_rng i (j - i).toNat)⟩
  · exact h2.elim
theorem i_rng3 (hg : Gl X "range") (hm : X.mg "range" = none) (ha : PE X l (tE fx P a)) (hb : PE X r (tE fx P b)) (hc : PE X q (tE fx P c)) (hs : isStar l = false) (hs2 : isStar r = false) (hs3 : isStar q = false) : PI X t (.Call (.Name "range" p) [l, r, q] [] pos) (tI own fx P (.rng3 a b c)) :=
  (pi_range3 hg hm (pa_cons ha (pa_cons hb (pa_cons hc pa_nil (star_cons hs3 [] X.env)) (star_cons hs2 [q] X.env)) (star_cons hs [r, q] X.env)) (star_cons hs [r, q] X.env) (by rw [star_cons hs2 [q], star_cons hs3 []]; rfl)).weak fun σ H R ⟨lk, F, ρ, g, I, L, h⟩ => by
  rw [show itR own P (.rng3 a b c) ρ g = evalE P (.rng3 a b c) ρ g by cases own <;> rfl] at h
  simp only [evalE] at h
  refine seqE I h fun d1 g1 v1 H1 F1 I1 e1 r1 h1 => ?_
  refine seqE I1 h1 fun d2 g2 v2 H2 F2 I2 e2 r2 h2 => ?_
  refine seqE I2 h2 fun d3 g3 v3 H3 F3 I3 e3 r3 h3 => ?_
  cases d1 <;> first | exact h3.elim | skip
  cases d2 <;> first | exact h3.elim | skip
  cases d3 <;> first | exact h3.elim | skip
  rename_i i j k0
  cases r1; cases r2; cases r3
  split at h3
  · rename_i e4 e5 e6
    cases e4; cases e5; cases e6
    split at h3
    · rename_i hb
      simp only [Bool.and_eq_true, decide_eq_true_eq] at hb
      obtain ⟨ds, h4, k⟩ := h3
      cases h4
      exact ⟨i, j, -1, (i - j).toNat, rfl, RgC.neg (by omega) (by omega) (by omega) (by omega), k _ _ _ I3 ((e1.trans e2).trans e3) (wk_rngD i (i - j).toNat)⟩
    · exact h3.elim
  · exact h3.elim
theorem i_enum {elts : List Expr} {kk : Nat} {tpos : Pos} (hK : X.K = fx.K) (hg : Gl X "enumerate") (hm : X.mg "enumerate" = none) (ha : PE X l (tE fx P a)) (hv : ∀ i, a = .v i → PE X l (tVar i)) (hs : isStar l = false) : PI X (.Tuple elts kk tpos) (.Call (.Name "enumerate" p) [l] [] pos) (tI own fx P (.enum a)) := by
  refine ⟨fun pins s σ H R I0 ⟨lk, F, ρ, g, I, L, h⟩ => ?_⟩
  have hc : itR own P (.enum a) ρ g = evalE P (.enum a) ρ g ∨ (own = true ∧ ∃ i xs, a = .v i ∧ ρ[i]? = some (.own (.lst xs)) ∧ itR own P (.enum a) ρ g = .ok (.lst (enumL 0 xs)) g) := by
    unfold itR
    cases own with
    | false => exact .inl rfl
    | true =>
      simp only [if_true]
      unfold brwI
      split
      · rename_i h0; cases h0
      · rename_i i h0
        cases h0
        split
        · rename_i xs e
          exact .inr ⟨trivial, i, xs, rfl, e, rfl⟩
        · exact .inl rfl
      · exact .inl rfl
  rcases hc with he | ⟨ho, i, xs, rfl, hi, he⟩
  · rw [he] at h
    refine (pi_enumT hg hm (pa_cons ha pa_nil (star_cons hs [] X.env)) (star_cons hs [] X.env)).run pins s σ H R I0 ?_
    simp only [evalE] at h
    refine seqE I h fun d1 g1 v1 H1 F1 I1 e1 r1 h1 => ?_
    cases d1 <;> first | exact h1.elim | skip
    · obtain ⟨ds, h2, k⟩ := h1
      cases h2
      cases r1 with
      | lst hF rr => exact .inl ⟨_, _, rfl, SqL.of (I1.exF.lst hF), k _ _ _ I1 e1 (wk_enum hK (.inl hF) rr)⟩
    · obtain ⟨ds, h2, k⟩ := h1
      cases h2
      cases r1 with
      | tup0 hF => exact .inr ⟨_, _, rfl, by rw [hK]; exact I1.exF.sqT hF, k _ _ _ I1 e1 (wk_enumT hK hF .nil)⟩
      | tup hF rr => exact .inr ⟨_, _, rfl, by rw [hK]; exact SqT.of (I1.exF.tup hF), k _ _ _ I1 e1 (wk_enumT hK (SqT.of hF) rr)⟩
    · obtain ⟨ds, h2, k⟩ := h1
      cases h2
      cases r1 with
      | ctup hF _ rr => exact .inr ⟨_, _, rfl, by rw [hK]; exact I1.exF.sqT hF, k _ _ _ I1 e1 (wk_enumT hK hF rr)⟩
  · rw [he] at h
    obtain ⟨ds, h1, k⟩ := h
    cases h1
    obtain ⟨p', h1, h2, h3, h4, vs, h5, h6⟩ := I.sl _ _ hi
    exact (pi_enumT hg hm (pa_cons (hv i rfl) pa_nil (star_cons hs [] X.env)) (star_cons hs [] X.env)).run pins s σ H R I0 ⟨_, h1, .inl ⟨p', vs, rfl, SqL.of h5, k _ _ _ I GP.refl (wk_enum hK (.inr ⟨ho, h3, h5⟩) h6)⟩⟩
theorem i_zip {elts : List Expr} {kk : Nat} {tpos : Pos} (hK : X.K = fx.K) (hg : Gl X "zip") (hm : X.mg "zip" = none) (ha : PE X l (tE fx P a)) (hb : PE X r (tE fx P b)) (hs : isStar l = false) (hs2 : isStar r = false) : PI X (.Tuple elts kk tpos) (.Call (.Name "zip" p) [l, r] [] pos) (tI own fx P (.zip a b)) :=
  (pi_zip hg hm (pa_cons ha (pa_cons hb pa_nil (star_cons hs2 [] X.env)) (star_cons hs [r] X.env)) (star_cons hs [r] X.env) (by rw [star_cons hs2 []]; rfl)).weak fun σ H R ⟨lk, F, ρ, g, I, L, h⟩ => by
  rw [show itR own P (.zip a b) ρ g = evalE P (.zip a b) ρ g by cases own <;> rfl] at h
  simp only [evalE] at h
  refine seqE I h fun d1 g1 v1 H1 F1 I1 e1 r1 h1 => ?_
  refine seqE I1 h1 fun d2 g2 v2 H2 F2 I2 e2 r2 h2 => ?_
  cases d1 <;> first | exact h2.elim | skip
  cases d2 <;> first | exact h2.elim | skip
  obtain ⟨ds, h3, k⟩ := h2
  cases h3
  cases r1 with
  | lst hF rr =>
    cases r2 with
    | lst hF2 rr2 => exact ⟨_, _, _, _, rfl, SqL.of (I2.exF.lst (e2.f _ _ hF)), SqL.of (I2.exF.lst hF2), k _ _ _ I2 (e1.trans e2) (wk_zip hK (e2.f _ _ hF) hF2 (rr.mono e2.f) rr2)⟩
theorem dict_locked {lk : Lk} {σ : L2.St} {F H : Hp} {ρ : Env} {g : G} {i : Nat} {ks vs : List D} (I : SR fx lk σ F H ρ g) (L : LockedFor c σ ρ H) (hl : lockN c = some i) (hi : ρ[i]? = some (.val (.dct false ks vs))) :
    ∃ p od kvs, σ[i]? = some (some (.ref p)) ∧ (p ≠ fx.ap ∧ (p ∈ lk.map (·.1) ∨ fx.H0 p = some (.frz od (.dK kvs)))) ∧ H p = some (.frz od (.dK kvs)) ∧ ks = kvs.map (fun p => kD p.1) ∧ RepL fx.K fx.ap F vs (kvs.map (·.2)) := by
  obtain ⟨v, hv1, hv2⟩ := I.sl _ _ hi
  cases hv2 with
  | dctK hF hk rr =>
    obtain ⟨od, u, hz⟩ := L i _ _ _ hl hv1 hi
    rcases I.exF _ _ hF with z | ⟨_, od', z⟩
    · rw [hz] at z; cases z
    · exact ⟨_, od', _, hv1, ⟨fun z => (by rw [z, I.pool.1] at hF; cases hF), I.fz _ _ _ _ hF (.inl ⟨_, rfl⟩) z⟩, z, hk, rr⟩
theorem val_v {i : Nat} {ρ : Env} {g : G} {Kk : D → G → Prop} (h : Acc Kk noX (evalE P (.v i) ρ g)) : ∃ d, ρ[i]? = some (.val d) ∧ Kk d g := by
  simp only [evalE] at h
  split at h
  · rename_i d e
    exact ⟨d, e, h⟩
  · exact h.elim
theorem i_items {i : Nat} {elts : List Expr} {kk : Nat} {tpos : Pos} (hv : PE X l (tVar i)) (hb : superB l = true) (hl : apos.endLine = pos.line) : PI X (.Tuple elts kk tpos) (.Call (.Attribute l "items" apos) [] [] pos) (tI own fx P (.items (.v i))) :=
  (pi_items hv (noSuper hb _ _) (by simp [hl])).weak fun σ H R ⟨lk, F, ρ, g, I, L, h⟩ => by
  rw [show itR own P (.items (.v i)) ρ g = evalE P (.items (.v i)) ρ g by cases own <;> rfl] at h
  change Acc _ _ ((evalE P (.v i) ρ g).bind _) at h
  obtain ⟨d, hd, h⟩ := val_v (Acc.bind.mp h)
  cases d <;> first | exact h.elim | skip
  rename_i t ks vs
  cases t <;> first | exact h.elim | skip
  obtain ⟨ds, h1, k⟩ := h
  cases h1
  obtain ⟨p, od, kvs, z1, ⟨z4, z5⟩, z2, rfl, z3⟩ := dict_locked I L rfl hd
  exact ⟨_, z1, p, od, kvs, rfl, z2, k _ _ _ I GP.refl (wk_items z4 z5 z2 z3)⟩
theorem i_values {i : Nat} (hv : PE X l (tVar i)) (hb : superB l = true) (hl : apos.endLine = pos.line) : PI X t (.Call (.Attribute l "values" apos) [] [] pos) (tI own fx P (.values (.v i))) :=
  (pi_values hv (noSuper hb _ _) (by simp [hl])).weak fun σ H R ⟨lk, F, ρ, g, I, L, h⟩ => by
  rw [show itR own P (.values (.v i)) ρ g = evalE P (.values (.v i)) ρ g by cases own <;> rfl] at h
  change Acc _ _ ((evalE P (.v i) ρ g).bind _) at h
  obtain ⟨d, hd, h⟩ := val_v (Acc.bind.mp h)
  cases d <;> first | exact h.elim | skip
  rename_i t ks vs
  cases t <;> first | exact h.elim | skip
  obtain ⟨ds, h1, k⟩ := h
  cases h1
  obtain ⟨p, od, kvs, z1, ⟨z4, z5⟩, z2, rfl, z3⟩ := dict_locked I L rfl hd
  exact ⟨_, z1, p, od, kvs, rfl, z2, k _ _ _ I GP.refl (wk_vals z4 z5 z2 z3)⟩
/-! ### is a dict to be locked? -/
theorem lock_or {lk : Lk} {σ : L2.St} {F H : Hp} {ρ : Env} {g : G} (I : SR fx lk σ F H ρ g) (c : E) : LockedFor c σ ρ H ∨ ∃ d u, F d = some u ∧ H d = some u ∧ IsDct u ∧ ∀ od, LockedFor c σ ρ (upd H d (.frz od u)) := by
  by_cases h : LockedFor c σ ρ H
  · exact .inl h
  · right
    unfold LockedFor at h
    simp only [Classical.not_forall] at h
    obtain ⟨i, p, ks, vs, hl, hs, hr, hn⟩ := h
    obtain ⟨v, hv1, hv2⟩ := I.sl _ _ hr
    rw [hs] at hv1; cases hv1
    cases hv2 with
    | dctK hF hk rr =>
      rename_i kvs
      have hH : H p = some (.dK kvs) := by
        rcases I.exF _ _ hF with z | ⟨_, od', z⟩
        · exact z
        · exact (hn ⟨_, _, z⟩).elim
      refine ⟨p, _, hF, hH, .inl ⟨kvs, rfl⟩, fun od i' p' ks' vs' hl' hs' hr' => ?_⟩
      rw [hl] at hl'; cases hl'
      rw [hs] at hs'; cases hs'
      exact ⟨od, _, upd_same⟩
end
end MW

end
section
set_option Elab.async false
set_option linter.all false
set_option maxRecDepth 100000
set_option maxHeartbeats 2000000
namespace MW
open PySem PySem.Spec PyProof.Rows L2
theorem Acc.noexc {α : Type} {Kk : α → G → Prop} {Xk : S → List D → G → Prop} {r : Res α} (h : Acc Kk Xk r.noexc) : Acc Kk noX r := by
  cases r with
  | ok a g => exact h
  | exc c fs g => exact h.elim
  | bad => exact h.elim
section
variable {fx : Fx} {P : Ctx} {X : Cx}
/-- the state through a comprehension: from where it began, with the new object at A -/
structure LcAt (fx : Fx) (F1 H1 : Hp) (A : Addr) (H F : Hp) (g : G) (o : HO) : Prop where
  gp : GP fx.ap F1 H1 F H
  ex : ExF F H
  pool : PoolOk fx F H g
  at_ : H A = some o
  fr : F A = none
theorem LcAt.step {F1 H1 H F H' F' : Hp} {A : Addr} {g g' : G} {o : HO} (L : LcAt fx F1 H1 A H F g o) (hA : A ≠ fx.ap) (e : GP fx.ap F H F' H') (ex : ExF F' H') (p : PoolOk fx F' H' g') : LcAt fx F1 H1 A H' F' g' o :=
  ⟨L.gp.trans e, ex, p, e.h _ _ hA L.at_, by
    cases q : F' A with
    | none => rfl
    | some u =>
      rcases e.nw _ _ hA q with z | ⟨z, _⟩
      · rw [L.fr] at z; cases z
      · rw [L.at_] at z; cases z⟩
theorem LcAt.put {F1 H1 H F : Hp} {A : Addr} {g : G} {o : HO} (L : LcAt fx F1 H1 A H F g o) (hA : A ≠ fx.ap) (hn : H1 A = none) (o' : HO) : LcAt fx F1 H1 A (upd H A o') F g o' := by
  refine ⟨⟨L.gp.f, fun a u n q => ?_, fun a u n q => ?_⟩, fun a u q => ?_, ⟨L.pool.1, ?_⟩, upd_same, L.fr⟩
  · rw [upd_ne (fun z => by rw [z, hn] at q; cases q)]
    exact L.gp.h a u n q
  · rw [upd_ne (fun z => by rw [z, L.fr] at q; cases q)]
    exact L.gp.nw a u n q
  · rw [upd_ne (fun z => by rw [z, L.fr] at q; cases q)]
    exact L.ex a u q
  · obtain ⟨a, h2, h3⟩ := L.pool.2
    exact ⟨a, h2, by rw [upd_ne (Ne.symm hA)]; exact h3⟩
theorem SqL.monoF {K : PySem.W.Frag} {F F' : Hp} {a : Addr} {xs : List V} (e : Ex F F') (h : SqL K F a xs) : SqL K F' a xs := by
  rcases h with (h | ⟨o, h⟩) | h
  · exact .inl (.inl (e _ _ h))
  · exact .inl (.inr ⟨o, e _ _ h⟩)
  · exact .inr h
/-- the new object is still from now on -/
theorem LcAt.fin {F1 H1 H F : Hp} {A : Addr} {g : G} {o : HO} (L : LcAt fx F1 H1 A H F g o) (hA : A ≠ fx.ap) (hn : H1 A = none) : ExF (upd F A o) H ∧ GP fx.ap F1 H1 (upd F A o) H ∧ PoolOk fx (upd F A o) H g ∧ Ex F (upd F A o) := by
  have e : Ex F (upd F A o) := Ex.new L.fr
  refine ⟨fun a u q => ?_, ⟨L.gp.f.trans e, L.gp.h, fun a u n q => ?_⟩, ⟨by rw [upd_ne (Ne.symm hA)]; exact L.pool.1, ?_⟩, e⟩
  · by_cases z : a = A
    · subst z; rw [upd_same] at q; cases q; exact .inl L.at_
    · rw [upd_ne z] at q; exact L.ex a u q
  · by_cases z : a = A
    · subst z; rw [upd_same] at q; cases q; exact .inr ⟨hn, L.at_⟩
    · rw [upd_ne z] at q; exact L.gp.nw a u n q
  · obtain ⟨a, h2, h3⟩ := L.pool.2
    exact ⟨a, SqL.monoF e h2, h3⟩
theorem LcAt.start {F1 H1 : Hp} {A : Addr} {g : G} (ex : ExF F1 H1) (p : PoolOk fx F1 H1 g) (hA : A ≠ fx.ap) (hn : H1 A = none) (o : HO) : LcAt fx F1 H1 A (upd H1 A o) F1 g o := by
  refine ⟨⟨Ex.refl _, fun a u n q => ?_, fun a u n q => .inl q⟩, fun a u q => ?_, ⟨p.1, ?_⟩, upd_same, ex.free hn⟩
  · rw [upd_ne (fun z => by rw [z, hn] at q; cases q)]; exact q
  · rw [upd_ne (fun z => by rw [z, ex.free hn] at q; cases q)]
    exact ex a u q
  · obtain ⟨a, h2, h3⟩ := p.2
    exact ⟨a, h2, by rw [upd_ne (Ne.symm hA)]; exact h3⟩
theorem OkI.of {own : Bool} {lk : Lk} {F1 H1 F H : Hp} (e : GP fx.ap F1 H1 F H) (ex : ExF F H) : OkI own fx lk F1 H1 F H :=
  ⟨e.f, ex, fun a od u n _ h => e.h _ _ n h, fun _ => e.h⟩
theorem drop_at {α : Type} {xs : List α} {i : Nat} (h : i < xs.length) : xs.drop i = xs[i] :: xs.drop (i + 1) := by
  rw [List.drop_eq_getElem_cons h]
theorem lc_loop {elt test : E} {tg : T} {own : List Nat} {lk : Lk} {σ : L2.St} {F1 H1 F0 H0 : Hp} {ρ : Env} {g1 : G} {Q : VK} {J : It} {ds : List D} {A : Addr} (I1 : SR fx lk σ F1 H1 ρ g1) (wk : Wk true fx lk F1 H1 J ds) (hn : H1 A = none) (hz : ds.length ≤ 16777216)
    (hsub : ∀ i ∈ slotsT tg, i ∈ own) (e0 : GP fx.ap F0 H0 F1 H1) (h : Acc (fun xs g2 => KE fx lk σ F0 H0 ρ Q (.lst xs) g2) noX (lcL tg (fun ρ g => evalE P test ρ g) (fun ρ g => evalE P elt ρ g) ds (wipeE own ρ) g1)) :
    ∃ W : Nat → Nat → Hp → Prop, (∃ m, W 0 m (upd H1 A (.lst []))) ∧ ∀ i m H, W i m H →
      (J.stop i H ∧ Q (.ref A) H) ∨ (J.go i H ∧ ∃ Nx : Hp → Prop, (∀ H', Nx H' → ∃ m', m' < m ∧ W (i + 1) m' H') ∧ ∀ x H', J.yld i H x H' → tGd fx tg x (wipe σ own) H' fun σ2 H2 => wipe σ2 own = wipe σ own ∧ tTs fx P test σ2 H2 fun b H3 =>
        if b = true then tE fx P elt σ2 H3 fun y H4 => ∃ acc, H4 A = some (.lst acc) ∧ acc.length < sizeLine ∧ Nx (upd H4 A (.lst (acc ++ [y]))) else Nx H3) := by
  have hl : sizeLine = 16777216 := sizeLine_eq
  have hA : A ≠ fx.ap := fun z => by
    obtain ⟨_, b, _, hb⟩ := I1.pool
    rw [z, hb] at hn; cases hn
  have hfz : ∀ od u, H1 fx.ap ≠ some (.frz od u) := fun od u z => by
    obtain ⟨_, b, _, hb⟩ := I1.pool
    rw [hb] at z; cases z
  let Wd : Nat → Hp → Prop := fun i H => ∃ F g acc vs, LcAt fx F1 H1 A H F g (.lst vs) ∧ RepL fx.K fx.ap F acc vs ∧ acc.length ≤ i ∧
    Acc (fun xs g2 => KE fx lk σ F0 H0 ρ Q (.lst (acc ++ xs)) g2) noX (lcL tg (fun ρ g => evalE P test ρ g) (fun ρ g => evalE P elt ρ g) (ds.drop i) (wipeE own ρ) g)
  refine ⟨fun i m H => m = ds.length - i ∧ i ≤ ds.length ∧ Wd i H, ⟨ds.length, by simp, Nat.zero_le _, F1, g1, [], [], LcAt.start I1.exF I1.pool hA hn _, .nil, Nat.zero_le _, by simpa using h⟩, ?_⟩
  rintro i m H ⟨rfl, hi, F, g, acc, vs, L, r, hacc, h⟩
  have ok := OkI.of (own := true) (lk := lk) L.gp L.ex
  by_cases hlt : i < ds.length
  · right
    obtain ⟨hgo, hy⟩ := (wk F H ok).2 i ds[i] (by simp [hlt])
    refine ⟨hgo, Wd (i + 1), fun H' w => ⟨ds.length - (i + 1), by omega, rfl, hlt, w⟩, fun x H' yl => ?_⟩
    obtain ⟨F2, w, rx⟩ := hy x H' yl
    rw [drop_at hlt] at h
    simp only [lcL] at h
    have Iw : SR fx lk (wipe σ own) F H (wipeE own ρ) g := (I1.wiped own).gp L.ex L.gp L.pool
    have Iw2 := Iw.grow w
    have L2 := L.step hA w.gp w.ex Iw2.pool
    cases hb : bindT tg ds[i] (wipeE own ρ) with
    | none => rw [hb] at h; exact h.elim
    | some ρ1 =>
      rw [hb] at h
      refine ⟨lk, F2, _, g, _, ρ1, Iw2, rx, hb, fun σ2 I2 off => ⟨?_, ?_⟩⟩
      · rw [off.wipe hsub, wipe_wipe]
      refine ⟨lk, F2, ρ1, g, I2, brw_ok ((Acc.bind.mp h).imp (fun tv g3 h3 => ?_) fun _ _ _ x => x)⟩
      cases z : truth tv with
      | none => rw [z] at h3; exact h3.elim
      | some b =>
        rw [z] at h3
        refine ⟨b, z, fun H3 F3 I3 e3 => ?_⟩
        have L3 := L2.step hA e3 I3.exF I3.pool
        have r3 : RepL fx.K fx.ap F3 acc vs := (r.mono w.f).mono e3.f
        cases b with
        | false => exact ⟨F3, g3, acc, vs, L3, r3, by omega, h3⟩
        | true =>
          refine ⟨lk, F3, ρ1, g3, I3, (Acc.bind.mp h3).imp (fun ev g4 h4 v H4 F4 I4 e4 r4 => ?_) fun _ _ _ x => x⟩
          have L4 := L3.step hA e4 I4.exF I4.pool
          have r5 : RepL fx.K fx.ap F4 acc vs := r3.mono e4.f
          refine ⟨vs, L4.at_, by rw [← r3.len]; omega, F4, g4, acc ++ [ev], vs ++ [v], L4.put hA hn _, r5.app (RepL.one r4), by simp; omega, ?_⟩
          refine (Acc.bind.mp h4).imp (fun xs g5 h5 => ?_) fun _ _ _ x => x
          have h5 : KE fx lk σ F0 H0 ρ Q (.lst (acc ++ ev :: xs)) g5 := h5
          rw [List.append_assoc]
          exact h5
  · left
    have e : i = ds.length := by omega
    subst e
    refine ⟨(wk F H ok).1, ?_⟩
    rw [List.drop_length] at h
    have h : KE fx lk σ F0 H0 ρ Q (.lst (acc ++ [])) g := h
    rw [List.append_nil] at h
    obtain ⟨f1, f2, f3, f4⟩ := L.fin hA hn
    exact h _ _ _ (I1.gp f1 f2 f3) (e0.trans f2) (.lst upd_same (r.mono f4))

/-! ### the readings of comprehensions -/
def tLcR (fx : Fx) (P : Ctx) (it c : E) : TE := fun σ H Q => ∃ lk F ρ g, SR fx lk σ F H ρ g ∧ LockedFor it σ ρ H ∧ Acc (KE fx lk σ F H ρ Q) noX (evalE P c ρ g)
theorem lc_read {elt test it : E} {tg : T} {own : List Nat} (hsub : ∀ i ∈ slotsT tg, i ∈ own) {σ : L2.St} {H : Hp} {Q : VK} (h : tLcR fx P it (.lc elt tg it test own) σ H Q) : tLc (tI true fx P it) (tGd fx tg) (tTs fx P test) (tE fx P elt) own σ H Q := by
  obtain ⟨lk, F, ρ, g, I, L, h⟩ := h
  simp only [evalE] at h
  refine ⟨lk, F, ρ, g, I, L, (Acc.bind.mp h).imp (fun d g1 h1 => ?_) fun _ _ _ x => x⟩
  cases z : itemsE it d with
  | none => rw [z] at h1; exact h1.elim
  | some ds =>
    rw [z] at h1
    refine ⟨ds, rfl, fun J F1 H1 I1 e1 wk A hn => ?_⟩
    dsimp only at h1
    split at h1
    · rename_i hz
      exact lc_loop I1 wk hn (of_decide_eq_true hz) hsub e1 ((Acc.bind.mp h1).imp (fun xs g2 h2 => h2) fun _ _ _ x => x).noexc
    · exact h1.elim
/-- a reading under the lock of the dict that is walked, or without -/
theorem lock_read {it c : E} {σ : L2.St} {H : Hp} {Q : VK} {tX : TE} (hX : ∀ σ H Q, tLcR fx P it c σ H Q → tX σ H Q) (h : tE fx P c σ H Q) : tX σ H Q ∨ tLockE tX σ H Q := by
  obtain ⟨lk, F, ρ, g, I, h⟩ := h
  rcases lock_or I it with L | ⟨d, u, hF, hH, hu, L⟩
  · exact .inl (hX _ _ _ ⟨lk, F, ρ, g, I, L, h⟩)
  · refine .inr ⟨d, u, hH, ?_, fun od => hX _ _ _ ?_⟩
    · rcases hu with ⟨k, rfl⟩ | ⟨k, rfl⟩ <;> trivial
    · obtain ⟨I1, nlk⟩ := I.locked hF hH hu od
      refine ⟨_, F, ρ, g, I1, L od, h.imp (fun dd g1 k v H' F' I' e r => ?_) fun _ _ _ x => x⟩
      exact ⟨(I'.lock _ (List.mem_cons_self ..)).1, k _ _ _ (I'.unlocked nlk) (e.unlocked hH) r⟩
theorem own_map (N : List Str) (own : List Nat) : (ownN N own).map (·.2) = own := by
  unfold ownN
  rw [List.map_map]
  exact List.map_id' _
variable {pos : Pos} {N : List Str}
theorem e_lc {elt test it : E} {tg : T} {own : List Nat} {x t i : Expr} {ifs : List Expr} {scope : Scope} (hsub : ∀ i ∈ slotsT tg, i ∈ own)
    (h : PE X (.ListComp x [⟨t, i, ifs, 0⟩] scope pos) (tLc (tI true fx P it) (tGd fx tg) (tTs fx P test) (tE fx P elt) ((ownN N own).map (·.2)))) : PE X (.ListComp x [⟨t, i, ifs, 0⟩] scope pos) (tE fx P (.lc elt tg it test own)) := by
  rw [own_map] at h
  exact (h.or (pe_lock h)).weak fun σ H Q q => lock_read (fun _ _ _ => lc_read hsub) q
end
end MW

end
section
set_option Elab.async false
set_option linter.all false
set_option maxRecDepth 100000
set_option maxHeartbeats 2000000
namespace MW
open PySem PySem.Spec PyProof.Rows L2
section
variable {fx : Fx} {P : Ctx} {X : Cx}
theorem any_T (k : List Key) (kvs : List (List Key × V)) : (kvs.map fun p => D.tup (p.1.map kD)).any (fun a => sameD a (.tup (k.map kD))) = kvs.any fun kv => decide (kv.1 = k) := by
  induction kvs with
  | nil => rfl
  | cons p r ih => simp only [List.map_cons, List.any_cons, sameD, same_keys, ih]
theorem dset_T {F : Hp} {k : List Key} {d : D} {v : V} (r : Rep fx.K fx.ap F d v) : ∀ {kvs : List (List Key × V)} {vs : List D}, RepL fx.K fx.ap F vs (kvs.map (·.2)) →
    RepL fx.K fx.ap F (dset (.tup (k.map kD)) d (kvs.map fun p => .tup (p.1.map kD)) vs) ((kvs.map fun kv => if kv.1 = k then (kv.1, v) else kv).map (·.2))
  | [], _, .nil => .nil
  | p :: kvs, _, .cons (d := d0) h t => by
    simp only [List.map_cons, dset, sameD, same_keys]
    refine .cons ?_ (dset_T r t)
    by_cases e : p.1 = k
    · simp only [e, decide_true, if_true]; exact r
    · simp only [e, decide_false, Bool.false_eq_true, if_false]; exact h
theorem dput_T {F : Hp} {k : List Key} {d : D} {v : V} (r : Rep fx.K fx.ap F d v) {kvs : List (List Key × V)} {vs : List D} (h : RepL fx.K fx.ap F vs (kvs.map (·.2))) :
    (dput (.tup (k.map kD)) d (kvs.map fun p => .tup (p.1.map kD)) vs).1 = (putK kvs k v).map (fun p => .tup (p.1.map kD)) ∧ RepL fx.K fx.ap F (dput (.tup (k.map kD)) d (kvs.map fun p => .tup (p.1.map kD)) vs).2 ((putK kvs k v).map (·.2)) := by
  unfold dput putK
  rw [any_T]
  by_cases e : (kvs.any fun kv => decide (kv.1 = k)) = true
  · simp only [e, if_true]
    refine ⟨?_, dset_T r h⟩
    rw [List.map_map]
    refine List.map_congr_left fun p _ => ?_
    by_cases e : p.1 = k <;> simp [e]
  · simp only [e]
    simp only [Bool.false_eq_true, if_false, List.map_append, List.map_cons, List.map_nil, true_and]
    exact h.app (RepL.one r)
theorem dput_len (k v : D) (ks vs : List D) : (dput k v ks vs).1.length ≤ ks.length + 1 := by
  unfold dput
  split <;> simp
theorem dc_loop {key val test : E} {tg : T} {own : List Nat} {lk : Lk} {σ : L2.St} {F1 H1 F0 H0 : Hp} {ρ : Env} {g1 : G} {Q : VK} {J : It} {ds : List D} {A : Addr} (I1 : SR fx lk σ F1 H1 ρ g1) (wk : Wk true fx lk F1 H1 J ds) (hn : H1 A = none) (hz : ds.length ≤ 16777216)
    (hsub : ∀ i ∈ slotsT tg, i ∈ own) (e0 : GP fx.ap F0 H0 F1 H1) (h : Acc (fun xs g2 => KE fx lk σ F0 H0 ρ Q (.dct false xs.1 xs.2) g2) noX (dcL tg (fun ρ g => evalE P test ρ g) (fun ρ g => evalE P key ρ g) (fun ρ g => evalE P val ρ g) ds (wipeE own ρ) g1 ([], []))) :
    ∃ W : Nat → Nat → Hp → Prop, (∃ m, W 0 m (upd H1 A (.dK []))) ∧ ∀ i m H, W i m H →
      (J.stop i H ∧ Q (.ref A) H) ∨ (J.go i H ∧ ∃ Nx : Hp → Prop, (∀ H', Nx H' → ∃ m', m' < m ∧ W (i + 1) m' H') ∧ ∀ x H', J.yld i H x H' → tGd fx tg x (wipe σ own) H' fun σ2 H2 => wipe σ2 own = wipe σ own ∧ tTs fx P test σ2 H2 fun b H3 =>
        if b = true then tE fx P key σ2 H3 fun y H4 => tE fx P val σ2 H4 fun z H5 => ∃ kvs k, y = kV k ∧ H5 A = some (.dK kvs) ∧ kvs.length < sizeLine ∧ Nx (upd H5 A (.dK (putK kvs k z))) else Nx H3) := by
  have hl : sizeLine = 16777216 := sizeLine_eq
  have hA : A ≠ fx.ap := fun z => by
    obtain ⟨_, b, _, hb⟩ := I1.pool
    rw [z, hb] at hn; cases hn
  have hfz : ∀ od u, H1 fx.ap ≠ some (.frz od u) := fun od u z => by
    obtain ⟨_, b, _, hb⟩ := I1.pool
    rw [hb] at z; cases z
  let Wd : Nat → Hp → Prop := fun i H => ∃ F g ks vs kvs, LcAt fx F1 H1 A H F g (.dK kvs) ∧ ks = kvs.map (fun p => kD p.1) ∧ RepL fx.K fx.ap F vs (kvs.map (·.2)) ∧ ks.length ≤ i ∧
    Acc (fun xs g2 => KE fx lk σ F0 H0 ρ Q (.dct false xs.1 xs.2) g2) noX (dcL tg (fun ρ g => evalE P test ρ g) (fun ρ g => evalE P key ρ g) (fun ρ g => evalE P val ρ g) (ds.drop i) (wipeE own ρ) g (ks, vs))
  refine ⟨fun i m H => m = ds.length - i ∧ i ≤ ds.length ∧ Wd i H, ⟨ds.length, by simp, Nat.zero_le _, F1, g1, [], [], [], LcAt.start I1.exF I1.pool hA hn _, rfl, .nil, Nat.zero_le _, by simpa using h⟩, ?_⟩
  rintro i m H ⟨rfl, hi, F, g, ks, vs, kvs, L, hk, r, hacc, h⟩
  have ok := OkI.of (own := true) (lk := lk) L.gp L.ex
  by_cases hlt : i < ds.length
  · right
    obtain ⟨hgo, hy⟩ := (wk F H ok).2 i ds[i] (by simp [hlt])
    refine ⟨hgo, Wd (i + 1), fun H' w => ⟨ds.length - (i + 1), by omega, rfl, hlt, w⟩, fun x H' yl => ?_⟩
    obtain ⟨F2, w, rx⟩ := hy x H' yl
    rw [drop_at hlt] at h
    simp only [dcL] at h
    have Iw : SR fx lk (wipe σ own) F H (wipeE own ρ) g := (I1.wiped own).gp L.ex L.gp L.pool
    have Iw2 := Iw.grow w
    have L2 := L.step hA w.gp w.ex Iw2.pool
    cases hb : bindT tg ds[i] (wipeE own ρ) with
    | none => rw [hb] at h; exact h.elim
    | some ρ1 =>
      rw [hb] at h
      refine ⟨lk, F2, _, g, _, ρ1, Iw2, rx, hb, fun σ2 I2 off => ⟨?_, ?_⟩⟩
      · rw [off.wipe hsub, wipe_wipe]
      refine ⟨lk, F2, ρ1, g, I2, brw_ok ((Acc.bind.mp h).imp (fun tv g3 h3 => ?_) fun _ _ _ x => x)⟩
      cases z : truth tv with
      | none => rw [z] at h3; exact h3.elim
      | some b =>
        rw [z] at h3
        refine ⟨b, z, fun H3 F3 I3 e3 => ?_⟩
        have L3 := L2.step hA e3 I3.exF I3.pool
        have r3 : RepL fx.K fx.ap F3 vs (kvs.map (·.2)) := (r.mono w.f).mono e3.f
        cases b with
        | false => exact ⟨F3, g3, ks, vs, kvs, L3, hk, r3, by omega, h3⟩
        | true =>
          refine ⟨lk, F3, ρ1, g3, I3, (Acc.bind.mp h3).imp (fun kd g4 h4 v4 H4 F4 I4 e4 r4 => ?_) fun _ _ _ x => x⟩
          have L4 := L3.step hA e4 I4.exF I4.pool
          refine ⟨lk, F4, ρ1, g4, I4, (Acc.bind.mp h4).imp (fun ed g5 h5 v H5 F5 I5 e5 r5 => ?_) fun _ _ _ x => x⟩
          have L5 := L4.step hA e5 I5.exF I5.pool
          split at h5
          · rename_i hok
            obtain ⟨ky, rfl⟩ := key_ok_flat hok
            have hv := keyR r4
            have r6 : RepL fx.K fx.ap F5 vs (kvs.map (·.2)) := (r3.mono e4.f).mono e5.f
            subst hk
            obtain ⟨q1, q2⟩ := dput_K (k := ky) r5 r6
            refine ⟨kvs, ky, hv, L5.at_, by have : (kvs.map fun p => kD p.1).length = kvs.length := by simp
                                            omega, F5, g5, _, _, _, L5.put hA hn _, rfl, q2, ?_, ?_⟩
            · rw [← q1]
              exact Nat.le_trans (dput_len _ _ _ _) (by omega)
            · rw [← q1]
              exact h5
          · exact h5.elim
  · left
    have e : i = ds.length := by omega
    subst e
    refine ⟨(wk F H ok).1, ?_⟩
    rw [List.drop_length] at h
    have h : KE fx lk σ F0 H0 ρ Q (.dct false ks vs) g := h
    obtain ⟨f1, f2, f3, f4⟩ := L.fin hA hn
    exact h _ _ _ (I1.gp f1 f2 f3) (e0.trans f2) (.dctK upd_same hk (r.mono f4))
theorem dc_read {key val test it : E} {tg : T} {own : List Nat} (hsub : ∀ i ∈ slotsT tg, i ∈ own) {σ : L2.St} {H : Hp} {Q : VK} (h : tLcR fx P it (.dc key val tg it test own) σ H Q) : tDc (tI true fx P it) (tGd fx tg) (tTs fx P test) (tE fx P key) (tE fx P val) own σ H Q := by
  obtain ⟨lk, F, ρ, g, I, L, h⟩ := h
  simp only [evalE] at h
  refine ⟨lk, F, ρ, g, I, L, (Acc.bind.mp h).imp (fun d g1 h1 => ?_) fun _ _ _ x => x⟩
  cases z : itemsE it d with
  | none => rw [z] at h1; exact h1.elim
  | some ds =>
    rw [z] at h1
    refine ⟨ds, rfl, fun J F1 H1 I1 e1 wk A hn => ?_⟩
    dsimp only at h1
    split at h1
    · rename_i hz
      exact dc_loop I1 wk hn (of_decide_eq_true hz) hsub e1 ((Acc.bind.mp h1).imp (fun xs g2 h2 => h2) fun _ _ _ x => x).noexc
    · exact h1.elim
variable {pos : Pos} {N : List Str}
theorem e_dc {key val test it : E} {tg : T} {own : List Nat} {x y t i : Expr} {ifs : List Expr} {scope : Scope} (hsub : ∀ i ∈ slotsT tg, i ∈ own)
    (h : PE X (.DictComp x y [⟨t, i, ifs, 0⟩] scope pos) (tDc (tI true fx P it) (tGd fx tg) (tTs fx P test) (tE fx P key) (tE fx P val) ((ownN N own).map (·.2)))) : PE X (.DictComp x y [⟨t, i, ifs, 0⟩] scope pos) (tE fx P (.dc key val tg it test own)) := by
  rw [own_map] at h
  exact (h.or (pe_lock h)).weak fun σ H Q q => lock_read (fun _ _ _ => dc_read hsub) q
/-! ### tests of a comprehension -/
theorem _root_.L2.PTs.weak {X : Cx} {e : List Expr} {t t' : TT} (h : PTs X e t) (w : ∀ σ H Q, t' σ H Q → t σ H Q) : PTs X e t' := ⟨fun pins s σ H Q I q => h.run pins s σ H Q I (w σ H Q q)⟩
theorem ts_nil : PTs X [] (tTs fx P (.k (.bl true))) := pts_nil.weak fun σ H Q ⟨lk, F, ρ, g, I, h⟩ => by
  simp only [brw, evalE] at h
  obtain ⟨b, h1, k⟩ := h
  simp only [truth, Option.some.injEq] at h1
  subst h1
  exact k _ _ I GP.refl
/-! ### no sets -/
theorem noFold {e : Expr} (h : isSet e = false) (env : PySem.Env) (x : Value) : foldedSetIterable e env x = pure x := by
  cases e <;> first | (simp [isSet] at h; done) | rfl
end
end MW

end
section
set_option Elab.async false
set_option linter.all false
set_option maxRecDepth 100000
set_option maxHeartbeats 4000000
namespace MW
open PySem PySem.Spec PyProof.Rows L2
/-! ### a dict comprehension of two clauses -/
abbrev dcE (kx vx t0 i0 t1 i1 : Expr) (c0 c1 : List Expr) (sc : Scope) (pos : Pos) : Expr := .DictComp kx vx [⟨t0, i0, c0, 0⟩, ⟨t1, i1, c1, 0⟩] sc pos
theorem turnD0 (kx vx t0 i0 t1 i1 : Expr) (c0 c1 : List Expr) (sc : Scope) (pos : Pos) (it : Value) (D : Addr) (env : PySem.Env) :
    compTurn (dcE kx vx t0 i0 t1 i1 c0 c1 sc pos) 0 it (.ref D) env = (standAt i0.pos >>= fun _ => pyNext it >>= fun r => match r with
      | none => pure (.done .next)
      | some v => letOwnedTupleGo t0 it v >>= fun _ => assign t0 env v >>= fun _ =>
        (forIn c0 true fun c r => if r = true then do let ok ← isTrue c env (eval c env); pure (ForInStep.yield ok) else pure (ForInStep.yield r)) >>= fun ok =>
        if ok = true then (do
          let x ← eval i1 env
          standAt i1.pos
          let x ← foldedSetIterable i1 env x
          let _ ← runOwn (.compStart (dcE kx vx t0 i0 t1 i1 c0 c1 sc pos) 1 (← holding [x] (pyIter x)) (.ref D) env) env
          again (.compLoop (dcE kx vx t0 i0 t1 i1 c0 c1 sc pos) 0 it (.ref D) env))
        else again (.compLoop (dcE kx vx t0 i0 t1 i1 c0 c1 sc pos) 0 it (.ref D) env)) := by rfl
theorem turnD1 (kx vx t0 i0 t1 i1 : Expr) (c0 c1 : List Expr) (sc : Scope) (pos : Pos) (it : Value) (D : Addr) (env : PySem.Env) :
    compTurn (dcE kx vx t0 i0 t1 i1 c0 c1 sc pos) 1 it (.ref D) env = (standAt i1.pos >>= fun _ => pyNext it >>= fun r => match r with
      | none => pure (.done .next)
      | some v => letOwnedTupleGo t1 it v >>= fun _ => assign t1 env v >>= fun _ =>
        (forIn c1 true fun c r => if r = true then do let ok ← isTrue c env (eval c env); pure (ForInStep.yield ok) else pure (ForInStep.yield r)) >>= fun ok =>
        if ok = true then (do
          (do
            let kv ← eval kx env
            let vv ← holding [kv] (eval vx env)
            standAt { kx.pos with endLine := vx.pos.endLine, endCol := vx.pos.endCol }
            holding [kv, vv] (dictSet D kv vv))
          again (.compLoop (dcE kx vx t0 i0 t1 i1 c0 c1 sc pos) 1 it (.ref D) env))
        else again (.compLoop (dcE kx vx t0 i0 t1 i1 c0 c1 sc pos) 1 it (.ref D) env)) := by rfl
section
variable {prog : Program} {w : World} {A : Around} {R : Result → Shared → Prop} {s : Shared} {kx vx t0 i0 t1 i1 : Expr} {c0 c1 : List Expr} {sc : Scope} {pos : Pos} {it : Value} {D : Addr} {env : PySem.Env}
/-- how a turn of a clause goes on behind its store and its tests -/
def TurnOf (prog : Program) (w : World) (A : Around) (env : PySem.Env) (R : Result → Shared → Prop) (tg : Expr) (tests : List Expr) (it : Value) (yes no : Shared → Prop) (s : Shared) : Prop :=
  wpAny (model prog w) A (pyNext it) (fun r s₁ => match r with
    | none => R (.ok .next) s₁
    | some v => wpAny (model prog w) A (letOwnedTupleGo tg it v) (fun _ s₂ => wpAny (model prog w) A (assign tg env v) (fun _ s₃ =>
        wpAny (model prog w) A (forIn tests true fun c r => if r = true then do let ok ← isTrue c env (eval c env); pure (ForInStep.yield ok) else pure (ForInStep.yield r)) (fun ok s₄ => if ok = true then yes s₄ else no s₄)
          (notedBy (model prog w) A env fun e s' => R (.error e) s') s₃) (notedBy (model prog w) A env fun e s' => R (.error e) s') s₂) (notedBy (model prog w) A env fun e s' => R (.error e) s') s₁)
    (notedBy (model prog w) A env fun e s' => R (.error e) s') s
theorem loopD0 (hs : ∀ x, foldedSetIterable i1 env x = pure x) (J : Nat → Shared → Prop)
    (turn : ∀ n s, J n s → TurnOf prog w A env R t0 c0 it (fun s₁ => wpAny (model prog w) A (eval i1 env) (fun x s₂ => wpAny (model prog w) A (pyIter x) (fun it1 s₃ =>
      codeAny (model prog w) A (.compStart (dcE kx vx t0 i0 t1 i1 c0 c1 sc pos) 1 it1 (.ref D) env) (fun r s' => match r with
        | .ok _ => ∃ m, m < n ∧ J m s'
        | .error _ => False) s₃) (notedBy (model prog w) A env fun e s' => R (.error e) s') s₂) (notedBy (model prog w) A env fun e s' => R (.error e) s') s₁) (fun s₁ => ∃ m, m < n ∧ J m s₁) s)
    (n : Nat) (h : J n s) : codeAny (model prog w) A (.compLoop (dcE kx vx t0 i0 t1 i1 c0 c1 sc pos) 0 it (.ref D) env) R s := by
  apply codeAny_loop rfl J _ n h
  intro n s hJ
  show wpAny _ A ((compTurn (dcE kx vx t0 i0 t1 i1 c0 c1 sc pos) 0 it (.ref D) env).onRaise (fun x => do noteFrame x env; theTreesLotGoes x)) _ _ s
  apply wpAny_noted
  rw [turnD0]
  apply wpAny_bind
  apply wpAny_standAt
  apply wpAny_bind
  apply wpAny_mono (turn n s hJ) _ fun _ _ z => z
  intro r s₁ h₁
  cases r with
  | none => exact wpAny_pure h₁
  | some v =>
    apply wpAny_bind
    apply wpAny_mono h₁ _ fun _ _ z => z
    intro _ s₂ h₂
    apply wpAny_bind
    apply wpAny_mono h₂ _ fun _ _ z => z
    intro _ s₃ h₃
    apply wpAny_bind
    apply wpAny_mono h₃ _ fun _ _ z => z
    intro ok s₄ h₄
    cases ok with
    | false => exact wpAny_pure ⟨rfl, h₄⟩
    | true =>
      apply wpAny_bind
      apply wpAny_mono h₄ _ fun _ _ z => z
      intro x s₅ h₅
      apply wpAny_bind
      apply wpAny_standAt
      apply wpAny_bind
      apply wpAny_of_eq (hs x)
      apply wpAny_bind
      apply wpAny_holding
      apply wpAny_mono h₅ _ fun _ _ z => z
      intro it1 s₆ h₆
      apply wpAny_bind
      refine wpAny_runOwn ?_
      rw [Around.mark_none]
      apply codeAny_mono h₆
      intro r s' hr
      cases r with
      | ok f => exact wpAny_pure ⟨rfl, hr⟩
      | error e => exact hr.elim
theorem loopD1 (J : Nat → Shared → Prop)
    (turn : ∀ n s, J n s → TurnOf prog w A env R t1 c1 it (fun s₁ => wpAny (model prog w) A (eval kx env) (fun kv s₂ => wpAny (model prog w) A (eval vx env) (fun vv s₃ =>
      wpAny (model prog w) A (dictSet D kv vv) (fun _ s₄ => ∃ m, m < n ∧ J m s₄) (notedBy (model prog w) A env fun e s' => R (.error e) s') s₃) (notedBy (model prog w) A env fun e s' => R (.error e) s') s₂) (notedBy (model prog w) A env fun e s' => R (.error e) s') s₁) (fun s₁ => ∃ m, m < n ∧ J m s₁) s)
    (n : Nat) (h : J n s) : codeAny (model prog w) A (.compLoop (dcE kx vx t0 i0 t1 i1 c0 c1 sc pos) 1 it (.ref D) env) R s := by
  apply codeAny_loop rfl J _ n h
  intro n s hJ
  show wpAny _ A ((compTurn (dcE kx vx t0 i0 t1 i1 c0 c1 sc pos) 1 it (.ref D) env).onRaise (fun x => do noteFrame x env; theTreesLotGoes x)) _ _ s
  apply wpAny_noted
  rw [turnD1]
  apply wpAny_bind
  apply wpAny_standAt
  apply wpAny_bind
  apply wpAny_mono (turn n s hJ) _ fun _ _ z => z
  intro r s₁ h₁
  cases r with
  | none => exact wpAny_pure h₁
  | some v =>
    apply wpAny_bind
    apply wpAny_mono h₁ _ fun _ _ z => z
    intro _ s₂ h₂
    apply wpAny_bind
    apply wpAny_mono h₂ _ fun _ _ z => z
    intro _ s₃ h₃
    apply wpAny_bind
    apply wpAny_mono h₃ _ fun _ _ z => z
    intro ok s₄ h₄
    cases ok with
    | false => exact wpAny_pure ⟨rfl, h₄⟩
    | true =>
      apply wpAny_bind
      apply wpAny_bind
      apply wpAny_mono h₄ _ fun _ _ z => z
      intro kv s₅ h₅
      apply wpAny_bind
      apply wpAny_holding
      apply wpAny_mono h₅ _ fun _ _ z => z
      intro vv s₆ h₆
      apply wpAny_bind
      apply wpAny_standAt
      apply wpAny_holding
      apply wpAny_mono h₆ _ fun _ _ z => z
      intro _ s₇ h₇
      exact wpAny_pure ⟨rfl, h₇⟩
theorem startD1 (h0 : codeAny (model prog w) A (.compLoop (dcE kx vx t0 i0 t1 i1 c0 c1 sc pos) 1 it (.ref D) env) R s)
    (h : wpAny (model prog w) A (pyIter it) (fun it' s' => codeAny (model prog w) A (.compLoop (dcE kx vx t0 i0 t1 i1 c0 c1 sc pos) 1 it' (.ref D) env) R s') (notedBy (model prog w) A env fun x s' => R (.error x) s') s) :
    codeAny (model prog w) A (.compStart (dcE kx vx t0 i0 t1 i1 c0 c1 sc pos) 1 it (.ref D) env) R s := by
  apply codeAny_of_tree
  show wpAny _ _ ((compStart (dcE kx vx t0 i0 t1 i1 c0 c1 sc pos) 1 it (.ref D) env).onRaise (fun x => do noteFrame x env; standAt theWindowsPlace)) _ _ s
  apply wpAny_notedAt
  unfold compStart
  show wpAny _ _ (ask >>= _) _ _ s
  apply wpAny_bind
  apply wpAny_askSetting
  apply wpAny_ite
  split
  · first
      | exact wpAny_bind (wpAny_pure (wpAny_pure (And.intro rfl h0)))
      | exact wpAny_pure (And.intro rfl h0)
  · apply wpAny_bind
    apply wpAny_rule
    show wpAny _ _ (standAt i1.pos >>= _) _ _ s
    apply wpAny_bind
    apply wpAny_standAt
    apply wpAny_bind
    apply wpAny_mono h _ fun _ _ z => z
    intro it' s' h'
    exact wpAny_pure (And.intro rfl h')
end
end MW

end
section
set_option Elab.async false
set_option linter.all false
set_option maxRecDepth 100000
set_option maxHeartbeats 4000000
namespace MW
open PySem PySem.Spec PyProof.Rows L2
/-- what the second clause's loop asks, until the first clause's turn is over (Nx) -/
def tIn (wi1 : TI) (g1 : TG) (tt1 : TT) (tk tv : TE) (vs1 : List Nat) (D : Addr) (Nx : Hp → Prop) : L2.St → Hp → Prop := fun σ2 H3 => wi1 σ2 H3 fun J1 H4 => ∃ W1 : Nat → Nat → Hp → Prop, (∃ m, W1 0 m H4) ∧ ∀ j k H, W1 j k H →
  (J1.stop j H ∧ Nx H) ∨ (J1.go j H ∧ ∃ Nx1 : Hp → Prop, (∀ H', Nx1 H' → ∃ k', k' < k ∧ W1 (j + 1) k' H') ∧ ∀ x H', J1.yld j H x H' → g1 x (wipe σ2 vs1) H' fun σ3 H5 => wipe σ3 vs1 = wipe σ2 vs1 ∧ tt1 σ3 H5 fun b H6 =>
    if b = true then tk σ3 H6 fun y H7 => tv σ3 H7 fun z H8 => ∃ kvs k, y = kV k ∧ H8 D = some (.dK kvs) ∧ kvs.length < sizeLine ∧ Nx1 (upd H8 D (.dK (putK kvs k z))) else Nx1 H6)
def tDc2 (wi : TI) (g : TG) (tt : TT) (wi1 : TI) (g1 : TG) (tt1 : TT) (tk tv : TE) (vs vs1 : List Nat) : TE := fun σ H Q => wi σ H fun J H1 => ∀ D, H1 D = none → ∃ W : Nat → Nat → Hp → Prop, (∃ m, W 0 m (upd H1 D (.dK []))) ∧ ∀ i m H, W i m H →
  (J.stop i H ∧ Q (.ref D) H) ∨ (J.go i H ∧ ∃ Nx : Hp → Prop, (∀ H', Nx H' → ∃ m', m' < m ∧ W (i + 1) m' H') ∧ ∀ x H', J.yld i H x H' → g x (wipe σ vs) H' fun σ2 H2 => wipe σ2 vs = wipe σ vs ∧ tt σ2 H2 fun b H3 =>
    if b = true then tIn wi1 g1 tt1 tk tv vs1 D Nx σ2 H3 else Nx H3)
/-- the places where a block's parts stand -/
abbrev AtBlk (X : Cx) (scope : Scope) (P : Cx → Prop) : Prop := ∀ (s : Shared) (H : Hp) (C : Addr) (cl : List (Str × Addr)) (fp : List Addr), P (X.blk s H scope (compEnvC scope cl C X.env) fp)
theorem dc2_core {X : Cx} {pins : List (Addr × Obj)} {s : Shared} {σ : L2.St} {H : Hp} {Q : VK} {kx vx tg iter tg1 iter1 : Expr} {ifs ifs1 : List Expr} {scope : Scope} {own : List (Str × Nat)} {vs1 : List Nat} {pos pos' : Pos} {wi wi1 : TI} {g g1 : TG} {tt tt1 : TT} {tk tv : TE} {use : Option (Value → Sem Unit)} {Qf : Value → Shared → Prop}
    (hc : X.calm = true) (hN : X.N.Nodup) (I : Inv X pins σ H s) (hi : PI X tg iter wi) (ok : BlkOk X.N X.env.scope scope own) (hv : ∀ i ∈ vs1, i ∈ own.map (·.2))
    (hg : AtBlk X scope fun Y => PG Y tg g) (ht : AtBlk X scope fun Y => PTs Y ifs tt) (hk : AtBlk X scope fun Y => PE Y kx tk) (he : AtBlk X scope fun Y => PE Y vx tv) (hs : ∀ x, foldedSetIterable iter X.env x = pure x)
    (hi1 : AtBlk X scope fun Y => PI Y tg1 iter1 wi1) (hg1 : AtBlk X scope fun Y => PG Y tg1 g1) (ht1 : AtBlk X scope fun Y => PTs Y ifs1 tt1) (hs1 : ∀ env x, foldedSetIterable iter1 env x = pure x)
    (h : tDc2 wi g tt wi1 g1 tt1 tk tv (own.map (·.2)) vs1 σ H Q)
    (back : ∀ D C s' m H', Inv X pins σ H' s' → Q (.ref D) H' → s'.heap.Ns C m → FpOk X pins H' C → compPost (model X.prog X.w) X.A X.xe use Qf (.ref D) C (.ok .next) s') :
    wpAny (model X.prog X.w) X.A (comprehension (dcE kx vx tg iter tg1 iter1 ifs ifs1 scope pos) scope X.env pos' newDict false (eval iter X.env) use) Qf X.xe s := by
  have hfree : ∀ y ∈ scope.names, y.2 = .free → ∃ c, X.env.cells.lookup y.1 = some c := fun y hy e => by
    rcases ok.free y hy e with k | k
    · exact I.ok.has _ (.inl k)
    · exact I.ok.has _ (.inr k)
  refine wpAny_comprehension_free (use := use) rfl hs (closure_ok hfree) ok.kind (fun y hy e => by rw [ok.uniq y hy, e]) (thn (hi.run pins s σ H _ I h) fun xv s1 hx => thn hx ?_)
  rintro itv s2 ⟨it, fp, tn, J, H2, rfl, I2, T, st2, f2, q⟩
  refine wpAny_newObj_type (newEnv_comp ?_)
  generalize hD : s2.heap.objs.size = D
  have hDn : H2 D = none := I2.hok.fresh (Nat.le_of_eq hD)
  obtain ⟨W, ⟨m0, w0⟩, turn⟩ := q D hDn
  generalize hs3 : ({ s2 with heap := s2.heap.push { cls := .type "dict", data := .dict #[] } } : Shared) = s3
  have I3 : Inv X pins σ (upd H2 D (.dK [])) s3 := by
    rw [← hs3]
    refine I2.laid (t' := s2.toks) (fun b o e => Heap.get?_push_of_some _ e) (Nat.le_of_eq hD) ?_
    rw [← hD]
    exact dk_empty s2.heap I2.big
  have h3 : s3.heap = s2.heap.push { cls := .type "dict", data := .dict #[] } := by rw [← hs3]
  have sz : ∀ b ∈ fp, b < s2.heap.objs.size := fun b hb => let ⟨o, e, _⟩ := T.obj _ _ st2 b hb; Heap.lt_size e
  have f3 : ∀ b ∈ fp, FpOk X pins (upd H2 D (.dK [])) b ∧ b < s3.heap.objs.size := fun b hb => by
    have hlt := sz b hb
    have hne : b ≠ D := by rw [← hD]; exact Nat.ne_of_lt hlt
    exact ⟨⟨by rw [upd_ne hne]; exact (f2 b hb).1, (f2 b hb).2⟩, by rw [h3, Heap.size_push]; exact Nat.lt_succ_of_lt hlt⟩
  have st3 : tn 0 s3.heap := T.keep _ _ _ st2 fun b _ o e => by rw [h3]; exact Heap.get?_push_of_some _ e
  have I4 := block_start I3 ok hN f3
  let cs := cellsFrom (s3.heap.objs.size + 1) scope.names (cloFrom X.env.cells scope.names [])
  have pg := hg s3 (upd H2 D (.dK [])) s3.heap.objs.size cs fp
  have pt := ht s3 (upd H2 D (.dK [])) s3.heap.objs.size cs fp
  have pk := hk s3 (upd H2 D (.dK [])) s3.heap.objs.size cs fp
  have pe := he s3 (upd H2 D (.dK [])) s3.heap.objs.size cs fp
  have pi1 := hi1 s3 (upd H2 D (.dK [])) s3.heap.objs.size cs fp
  have pg1 := hg1 s3 (upd H2 D (.dK [])) s3.heap.objs.size cs fp
  have pt1 := ht1 s3 (upd H2 D (.dK [])) s3.heap.objs.size cs fp
  show codeAny _ _ (.compStart (dcE kx vx tg iter tg1 iter1 ifs ifs1 scope pos) 0 (.ref it) (.ref D) (compEnvC scope cs s3.heap.objs.size X.env)) (compPost (model X.prog X.w) X.A X.xe use Qf (.ref D) s3.heap.objs.size) { s3 with heap := pushCells (s3.heap.push { cls := .type "dict", data := .dict #[] }) scope.names }
  have nfp : ∀ b ∈ fp, (upd H2 D (.dK [])) b = none := fun b hb => (f3 b hb).1.1
  generalize hce : compEnvC scope cs s3.heap.objs.size X.env = ce at I4 pg pt pk pe pi1 pg1 pt1 ⊢
  have cL : ce.locals = s3.heap.objs.size := by subst hce; rfl
  generalize hH3 : upd H2 D (.dK []) = H3 at I3 I4 pg pt pk pe pi1 pg1 pt1 w0 nfp f3
  generalize hs4 : ({ s3 with heap := pushCells (s3.heap.push { cls := .type "dict", data := .dict #[] }) scope.names } : Shared) = s4 at I4 ⊢
  have st4 : tn 0 s4.heap := T.keep _ _ _ st3 fun b _ o e => by rw [← hs4]; exact pushCells_keeps _ _ _ _ (Heap.get?_push_of_some _ e)
  let Y := X.blk s3 H3 scope ce fp
  let σw := wipe σ (own.map (·.2))
  have stat : ∀ {σ' : L2.St} {H' : Hp} {s' : Shared}, Inv Y [] σ' H' s' → (∀ b ∈ fp, H' b = none) → ∀ b ∈ fp, FpOk Y [] H' b := fun {σ' H' s'} I' hn b hb =>
    ⟨hn b hb, (I'.ok.exf b hb).1, I'.ok.exfs b hb, .inl hb, fun x c e => (I'.ok.exf b hb).2 x c e, fun p hp => absurd (show p ∈ ([] : List (Addr × Obj)) ++ [] from hp) (by simp)⟩
  let Out : Nat → Shared → Prop := fun n s' => ∃ i H', Inv Y [] σw H' s' ∧ tn i s'.heap ∧ (∀ b ∈ fp, H' b = none) ∧ W i n H'
  have loop : codeAny (model X.prog X.w) X.A (.compLoop (dcE kx vx tg iter tg1 iter1 ifs ifs1 scope pos) 0 (.ref it) (.ref D) ce) (compPost (model X.prog X.w) X.A X.xe use Qf (.ref D) s3.heap.objs.size) s4 := by
    refine loopD0 (hs1 ce) Out ?_ m0 ⟨0, H3, I4, st4, nfp, w0⟩
    rintro n s5 ⟨i, H5, I5, st5, n5, w5⟩
    rcases turn i n H5 w5 with ⟨stop, qq⟩ | ⟨go, Nx, hNx, step⟩
    · have td := T.done Y rfl rfl rfl hc i [] s5 _ H5 (fun _ _ => False) I5 (stat I5 n5) st5 stop
      refine thnF td ?_
      rintro r s6 ⟨rfl, I6⟩
      have I7 : Inv X pins σ H5 s6 := I3.call' (ch := fp) I6.os I6.base I6.hok I6.bare fun b hb => ⟨(f3 b hb).1.2.2.2.1, (f3 b hb).1.2.1, (f3 b hb).1.2.2.2.2.1, (f3 b hb).1.2.2.2.2.2⟩
      have nC : H5 s3.heap.objs.size = none := by
        have z : H5 ce.locals = none := I6.free
        rwa [cL] at z
      obtain ⟨m, hn, _⟩ := I6.loc
      have hn : s6.heap.Ns ce.locals m := hn
      rw [cL] at hn
      exact back D s3.heap.objs.size s6 m H5 I7 qq hn (I3.fpOk (Nat.le_refl _) nC)
    · have ti := T.item Y rfl rfl rfl hc i [] s5 _ H5 (fun _ _ => False) I5 (stat I5 n5) st5 go
      refine thnF ti ?_
      rintro r s6 ⟨u, rfl, h6⟩
      refine thnF h6 ?_
      rintro _ s7 ⟨x, H7, I7, r7, y7, st7, n7⟩
      have I7' := I7.pinned (stat I7 n7) (T.obj _ _ st7)
      refine thnF (pg.run _ s7 _ H7 x u _ I7' r7 (step x H7 y7)) ?_
      rintro _ s8 ⟨σ8, H8, I8, hw8, q8⟩
      refine thnF (pt.run _ s8 σ8 H8 _ I8 q8) ?_
      rintro b s9 ⟨H9, I9, q9⟩
      have over : ∀ {σ9 : L2.St} {s' : Shared} {H' : Hp}, Inv Y ([] ++ pinsAt fp s7.heap) σ9 H' s' → σw.length = σ9.length → (∀ (j : Nat) v, σw[j]? = some (some v) → σ9[j]? = some (some v)) → Nx H' → ∃ m, m < n ∧ Out m s' := fun {σ9 s' H'} I' hl hk nx => by
        obtain ⟨m', hm, w'⟩ := hNx H' nx
        have pin' : ∀ b ∈ fp, ∀ o, s7.heap.get? b = some o → s'.heap.get? b = some o ∧ H' b = none := fun b hb o e =>
          have z := I'.pin (b, o) (List.mem_append_right _ (List.mem_append_right _ (mem_pinsAt hb e)))
          ⟨z.1, z.2.1⟩
        exact ⟨m', hm, i + 1, H', (I'.unpinned (pins := [])).weak hl hk, T.keep _ _ _ st7 fun b hb o e => (pin' b hb o e).1, fun b hb => let ⟨o, e, _⟩ := T.obj _ _ st7 b hb; (pin' b hb o e).2, w'⟩
      have hl8 : σw.length = σ8.length := by
        show (wipe σ (own.map (·.2))).length = _
        rw [← hw8, wipe_length]
      have hk8 : ∀ (j : Nat) v, σw[j]? = some (some v) → σ8[j]? = some (some v) := fun j v e => by
        have e : (wipe σ (own.map (·.2)))[j]? = some (some v) := e
        rw [← hw8] at e
        exact (wipe_some e).1
      have hk9 : ∀ (j : Nat) v, σw[j]? = some (some v) → (wipe σ8 vs1)[j]? = some (some v) := fun j v e => by
        have e : (wipe σ (own.map (·.2)))[j]? = some (some v) := e
        rw [← hw8] at e
        obtain ⟨e1, e2⟩ := wipe_some e
        rw [wipe_out fun z => e2 (hv j z)]
        exact e1
      cases b with
      | false =>
        simp only [Bool.false_eq_true, if_false] at q9 ⊢
        exact over I9 hl8 hk8 q9
      | true =>
        simp only [if_true] at q9 ⊢
        unfold tIn at q9
        refine thnF (pi1.run _ s9 σ8 H9 _ I9 q9) ?_
        intro xv s10 hx
        refine thnF hx ?_
        rintro itv s11 ⟨it1, fp1, tn1, J1, H11, rfl, I11, T1, st11, f11, W1, ⟨m1, w1⟩, turn1⟩
        have stat1 : ∀ {H' : Hp}, (∀ b ∈ fp1, H' b = none) → ∀ b ∈ fp1, FpOk Y ([] ++ pinsAt fp s7.heap) H' b := fun hn b hb => ⟨hn b hb, (f11 b hb).2⟩
        let In : Nat → Shared → Prop := fun k s' => ∃ j H', Inv Y ([] ++ pinsAt fp s7.heap) (wipe σ8 vs1) H' s' ∧ tn1 j s'.heap ∧ (∀ b ∈ fp1, H' b = none) ∧ W1 j k H'
        have loop1 : codeAny (model X.prog X.w) X.A (.compLoop (dcE kx vx tg iter tg1 iter1 ifs ifs1 scope pos) 1 (.ref it1) (.ref D) ce)
            (fun r s' => match r with
              | .ok _ => ∃ m, m < n ∧ Out m s'
              | .error _ => False) s11 := by
          refine loopD1 In ?_ m1 ⟨0, H11, I11.weak (wipe_length _ _) (fun j v e => (wipe_some e).1), st11, fun b hb => (f11 b hb).1, w1⟩
          rintro k s12 ⟨j, H12, I12, st12, n12, w12⟩
          rcases turn1 j k H12 w12 with ⟨stop1, nx1⟩ | ⟨go1, Nx1, hNx1, step1⟩
          · refine thnF (T1.done Y rfl rfl rfl hc j _ s12 (wipe σ8 vs1) H12 (fun _ _ => False) I12 (stat1 n12) st12 stop1) ?_
            rintro r s13 ⟨rfl, I13⟩
            exact over I13 (hl8.trans (wipe_length σ8 vs1).symm) hk9 nx1
          · refine thnF (T1.item Y rfl rfl rfl hc j _ s12 (wipe σ8 vs1) H12 (fun _ _ => False) I12 (stat1 n12) st12 go1) ?_
            rintro r s13 ⟨u1, rfl, h13⟩
            refine thnF h13 ?_
            rintro _ s14 ⟨x1, H14, I14, r14, y14, st14, n14⟩
            have I14' := I14.pinned (stat1 n14) (T1.obj _ _ st14)
            refine thnF (pg1.run _ s14 (wipe σ8 vs1) H14 x1 u1 _ I14' r14 (step1 x1 H14 y14)) ?_
            rintro _ s15 ⟨σ15, H15, I15, hw15, q15⟩
            refine thnF (pt1.run _ s15 σ15 H15 _ I15 q15) ?_
            rintro b1 s16 ⟨H16, I16, q16⟩
            have over1 : ∀ {s' : Shared} {H' : Hp}, Inv Y (([] ++ pinsAt fp s7.heap) ++ pinsAt fp1 s14.heap) σ15 H' s' → Nx1 H' → ∃ m, m < k ∧ In m s' := fun {s' H'} I' nx => by
              obtain ⟨m', hm, w'⟩ := hNx1 H' nx
              have pin' : ∀ b ∈ fp1, ∀ o, s14.heap.get? b = some o → s'.heap.get? b = some o ∧ H' b = none := fun b hb o e =>
                have z := I'.pin (b, o) (List.mem_append_right _ (List.mem_append_right _ (mem_pinsAt hb e)))
                ⟨z.1, z.2.1⟩
              exact ⟨m', hm, j + 1, H', I'.unpinned.weak (by rw [← hw15, wipe_length]) (fun j v e => by rw [← hw15] at e; exact (wipe_some e).1), T1.keep _ _ _ st14 fun b hb o e => (pin' b hb o e).1,
                fun b hb => let ⟨o, e, _⟩ := T1.obj _ _ st14 b hb; (pin' b hb o e).2, w'⟩
            cases b1 with
            | false =>
              simp only [Bool.false_eq_true, if_false] at q16 ⊢
              exact over1 I16 q16
            | true =>
              simp only [if_true] at q16 ⊢
              refine thnF (pk.run _ s16 σ15 H16 _ I16 q16) ?_
              rintro z s17 ⟨yk, H17, I17, r17, q17⟩
              refine thnF (pe.run _ s17 σ15 H17 _ I17 q17) ?_
              rintro z2 s18 ⟨yv, H18, I18, r18, kvs, ky, rfl, hD18, hz18, nx⟩
              exact d_dictSet (X := Y) I18 hD18 hz18 r17 r18 fun s19 I19 => over1 I19 nx
        exact startD1 loop1 (T1.self X.A 0 _ _ _ st11 loop1)
  exact codeAny_compStart_dict loop (T.self X.A 0 _ _ _ st4 loop)
theorem pe_dc2 {X : Cx} {kx vx tg iter tg1 iter1 : Expr} {ifs ifs1 : List Expr} {scope : Scope} {own : List (Str × Nat)} {vs1 : List Nat} {pos : Pos} {wi wi1 : TI} {g g1 : TG} {tt tt1 : TT} {tk tv : TE} (hc : X.calm = true) (hN : X.N.Nodup) (hi : PI X tg iter wi) (ok : BlkOk X.N X.env.scope scope own) (hv : ∀ i ∈ vs1, i ∈ own.map (·.2))
    (hg : AtBlk X scope fun Y => PG Y tg g) (ht : AtBlk X scope fun Y => PTs Y ifs tt) (hk : AtBlk X scope fun Y => PE Y kx tk) (he : AtBlk X scope fun Y => PE Y vx tv) (hs : ∀ x, foldedSetIterable iter X.env x = pure x)
    (hi1 : AtBlk X scope fun Y => PI Y tg1 iter1 wi1) (hg1 : AtBlk X scope fun Y => PG Y tg1 g1) (ht1 : AtBlk X scope fun Y => PTs Y ifs1 tt1) (hs1 : ∀ env x, foldedSetIterable iter1 env x = pure x) :
    PE X (dcE kx vx tg iter tg1 iter1 ifs ifs1 scope pos) (tDc2 wi g tt wi1 g1 tt1 tk tv (own.map (·.2)) vs1) := by
  refine ⟨fun pins s σ H Q I h => ?_⟩
  rw [arm_eval_DictComp]
  apply dc2_core hc hN I hi ok hv hg ht hk he hs hi1 hg1 ht1 hs1 h
  intro D C s' m H' I' q hn f
  refine ⟨m, hn, fun h'' sb => ?_⟩
  obtain ⟨f0, f1, f2, f3, f4, f5⟩ := f
  exact ⟨.ref D, H', I'.turned (t' := s'.toks) (fun b o hb e => (sb.2 b hb).trans e) f0 f1 f3 f4 f5, rfl, q⟩
end MW

end
section
set_option Elab.async false
set_option linter.all false
set_option maxRecDepth 100000
set_option maxHeartbeats 4000000
namespace MW
open PySem PySem.Spec PyProof.Rows L2
section
variable {fx : Fx} {P : Ctx} {X : Cx}
theorem Acc.ex {α : Type} {Kk : α → G → Prop} {r : Res α} (h : Acc Kk noX r) : ∃ a g, r = .ok a g ∧ Kk a g := by
  cases r with
  | ok a g => exact ⟨a, g, rfl, h⟩
  | exc c fs g => exact h.elim
  | bad => exact h.elim
theorem bind_own {tg : T} : ∀ {d : D} {ρ ρ' : Env} {i : Nat} {e : D}, bindT tg d ρ = some ρ' → ρ'[i]? = some (.own e) → ρ[i]? = some (.own e) := by
  induction tg with
  | nm j =>
    intro d ρ ρ' i e h q
    simp only [bindT] at h
    split at h
    · cases h
      by_cases z : j = i
      · subst z
        rename_i hj
        rw [List.getElem?_set_self hj] at q
        cases q
      · rwa [List.getElem?_set_ne z] at q
    · cases h
  | tup r ih =>
    intro d ρ ρ' i e h q
    obtain ⟨ds, _, hb⟩ := bind_tup h
    exact ih hb q
  | tnil =>
    intro d ρ ρ' i e h q
    simp only [bindT] at h
    split at h
    · cases h; exact q
    · cases h
  | tcons a r iha ihr =>
    intro d ρ ρ' i e h q
    simp only [bindT] at h
    split at h
    · obtain ⟨ρ1, h1, h2⟩ := obind h
      exact iha h1 (ihr h2 q)
    · cases h
theorem wipeE_own : ∀ {vs : List Nat} {ρ : Env} {i : Nat} {e : D}, (wipeE vs ρ)[i]? = some (.own e) → ρ[i]? = some (.own e) ∧ i ∉ vs
  | [], _, _, _, h => ⟨h, by simp⟩
  | v :: vs, ρ, i, e, h => by
    simp only [wipeE] at h
    by_cases z : v = i
    · subst z
      by_cases hl : v < (wipeE vs ρ).length
      · rw [List.getElem?_set_self hl] at h; cases h
      · rw [List.getElem?_eq_none (by simp; omega)] at h; cases h
    · rw [List.getElem?_set_ne z] at h
      obtain ⟨h1, h2⟩ := wipeE_own h
      exact ⟨h1, by simp [h2, Ne.symm z]⟩
/-- an object that no name knows is written -/
theorem SR.putA {lk : Lk} {σ : L2.St} {F H : Hp} {ρ : Env} {g : G} {A : Addr} {o : HO} (I : SR fx lk σ F H ρ g) (hF : F A = none) (h0 : fx.H0 A = none) (hA : A ≠ fx.ap) (hn : ∀ (i : Nat) (e : D), ρ[i]? = some (.own e) → σ[i]? ≠ some (some (.ref A))) : SR fx lk σ F (upd H A o) ρ g := by
  refine ⟨fun a u q => ?_, I.ex0, fun a u n1 n2 q => ?_, fun e he => ?_, I.new, I.len, fun i s q => ?_, I.dis, ⟨I.pool.1, ?_⟩, fun a u od u' h1 h2 h3 => ?_⟩
  · rw [upd_ne (fun z => by rw [z, hF] at q; cases q)]; exact I.exF a u q
  · rw [upd_ne (fun z => by rw [z, h0] at q; cases q)]; exact I.base a u n1 n2 q
  · obtain ⟨l1, l2, l3, l4⟩ := I.lock e he
    exact ⟨by rw [upd_ne (fun z => by rw [z, hF] at l2; cases l2)]; exact l1, l2, l3, l4⟩
  · have k := I.sl i s q
    cases s with
    | no => trivial
    | val d => exact k
    | own d =>
      obtain ⟨p, k1, k2, k3, k4, k5⟩ := k
      refine ⟨p, k1, k2, k3, k4, k5.mono (Ex.refl _) fun o' z => ?_⟩
      rw [upd_ne (fun z => hn i d q (by rw [k1, z]))]; exact z
  · obtain ⟨a, h2, h3⟩ := I.pool.2
    exact ⟨a, h2, by rw [upd_ne (Ne.symm hA)]; exact h3⟩
  · rw [upd_ne (fun z => by rw [z, hF] at h1; cases h1)] at h3
    exact I.fz a u od u' h1 h2 h3
theorem OkI.ofF {lk : Lk} {σ : L2.St} {ρ : Env} {F1 H1 F H : Hp} {g : G} (e : Ex F1 F) (ex : ExF F H) (k : ∀ a od u, a ≠ fx.ap → H1 a = some (.frz od u) → H a = some (.frz od u)) : OkI false fx lk F1 H1 F H :=
  ⟨e, ex, fun a od u n _ h => k a od u n h, fun h => by cases h⟩
/-- what the new object's place is: free ahead, of no name -/
structure Fr (fx : Fx) (F1 H1 : Hp) (A : Addr) : Prop where
  n1 : H1 A = none
  n0 : fx.H0 A = none
  ap : A ≠ fx.ap
theorem Fr.of {lk : Lk} {σ : L2.St} {F1 H1 : Hp} {ρ : Env} {g1 : G} {A : Addr} (I1 : SR fx lk σ F1 H1 ρ g1) (hn : H1 A = none) : Fr fx F1 H1 A := by
  have hA : A ≠ fx.ap := fun z => by
    obtain ⟨_, b, _, hb⟩ := I1.pool
    rw [z, hb] at hn; cases hn
  refine ⟨hn, ?_, hA⟩
  cases q : fx.H0 A with
  | none => rfl
  | some u =>
    exfalso
    by_cases m : A ∈ lk.map (·.1)
    · obtain ⟨e, he, rfl⟩ := List.mem_map.mp m
      rw [(I1.lock e he).1] at hn; cases hn
    · rw [I1.base A u hA m q] at hn; cases hn
theorem Fr.own {lk : Lk} {σ : L2.St} {F1 H1 : Hp} {ρ : Env} {g1 : G} {A : Addr} (I1 : SR fx lk σ F1 H1 ρ g1) (hn : H1 A = none) {i : Nat} {e : D} (h : ρ[i]? = some (.own e)) : σ[i]? ≠ some (some (.ref A)) := fun z => by
  obtain ⟨p, k1, k2, k3, k4, k5⟩ := I1.sl i _ h
  rw [k1] at z
  cases z
  obtain ⟨o, ho⟩ := k5.there
  rw [hn] at ho; cases ho
theorem Fr.own2 {lk : Lk} {σ σ2 : L2.St} {F1 H1 : Hp} {ρ ρ1 : Env} {g1 : G} {A : Addr} {own : List Nat} {tg : T} {d : D} (I1 : SR fx lk σ F1 H1 ρ g1) (hn : H1 A = none) (hb : bindT tg d (wipeE own ρ) = some ρ1) (hw : wipe σ2 own = wipe σ own) {i : Nat} {e : D} (h : ρ1[i]? = some (.own e)) : σ2[i]? ≠ some (some (.ref A)) := by
  obtain ⟨h1, h2⟩ := wipeE_own (bind_own hb h)
  have : σ2[i]? = σ[i]? := by rw [← wipe_out (σ := σ2) h2, hw, wipe_out h2]
  rw [this]
  exact Fr.own I1 hn h1

/-- what the whole list is wanted for -/
def Kf (fx : Fx) (lk : Lk) (σ : L2.St) (F0 H0 : Hp) (ρ : Env) (Q : VK) (xs : List D) (g2 : G) : Prop := xs.length ≤ 16777216 ∧ KE fx lk σ F0 H0 ρ Q (.lst xs) g2
/-- the state through the inner loop -/
structure In2 (fx : Fx) (lk : Lk) (F1 H1 : Hp) (A : Addr) (σ : L2.St) (ρ : Env) (H F : Hp) (g : G) (o : HO) : Prop where
  I : SR fx lk σ F H ρ g
  L : LcAt fx F1 H1 A H F g o
theorem lc2_loop {elt test it1 test1 : E} {tg tg1 : T} {own own1 : List Nat} {lk : Lk} {σ : L2.St} {F1 H1 F0 H0 : Hp} {ρ : Env} {g1 : G} {Q : VK} {J : It} {ds : List D} {A : Addr} (I1 : SR fx lk σ F1 H1 ρ g1) (wk : Wk true fx lk F1 H1 J ds) (hn : H1 A = none)
    (hsub : ∀ i ∈ slotsT tg, i ∈ own) (hsub1 : ∀ i ∈ slotsT tg1, i ∈ own1) (hlk : noLk it1 = true) (e0 : GP fx.ap F0 H0 F1 H1)
    (h : Acc (fun xs g2 => Kf fx lk σ F0 H0 ρ Q xs g2) noX (lcF tg (fun ρ g => evalE P test ρ g) (fun ρ g => (evalE P it1 ρ g).bind fun x1 g2 => match itemsE .nth x1 with
        | none => .bad
        | some ds1 => lcL tg1 (fun ρ g => evalE P test1 ρ g) (fun ρ g => evalE P elt ρ g) ds1 (wipeE own1 ρ) g2) ds (wipeE own ρ) g1)) :
    ∃ W : Nat → Nat → Hp → Prop, (∃ m, W 0 m (upd H1 A (.lst []))) ∧ ∀ i m H, W i m H →
      (J.stop i H ∧ Q (.ref A) H) ∨ (J.go i H ∧ ∃ Nx : Hp → Prop, (∀ H', Nx H' → ∃ m', m' < m ∧ W (i + 1) m' H') ∧ ∀ x H', J.yld i H x H' → tGd fx tg x (wipe σ own) H' fun σ2 H2 => wipe σ2 own = wipe σ own ∧ tTs fx P test σ2 H2 fun b H3 =>
        if b = true then tI false fx P it1 σ2 H3 fun J1 H4 => ∃ W1 : Nat → Nat → Hp → Prop, (∃ m, W1 0 m H4) ∧ ∀ j k H, W1 j k H →
          (J1.stop j H ∧ Nx H) ∨ (J1.go j H ∧ ∃ Nx1 : Hp → Prop, (∀ H', Nx1 H' → ∃ k', k' < k ∧ W1 (j + 1) k' H') ∧ ∀ x H', J1.yld j H x H' → tGd fx tg1 x (wipe σ2 own1) H' fun σ3 H5 => wipe σ3 own1 = wipe σ2 own1 ∧ tTs fx P test1 σ3 H5 fun b H6 =>
            if b = true then tE fx P elt σ3 H6 fun y H7 => ∃ acc, H7 A = some (.lst acc) ∧ acc.length < sizeLine ∧ Nx1 (upd H7 A (.lst (acc ++ [y]))) else Nx1 H6)
        else Nx H3) := by
  have hl : sizeLine = 16777216 := sizeLine_eq
  obtain ⟨_, hA0, hA⟩ := Fr.of I1 hn
  generalize hin : (fun ρ g => (evalE P it1 ρ g).bind fun x1 g2 => match itemsE .nth x1 with
        | none => Res.bad
        | some ds1 => lcL tg1 (fun ρ g => evalE P test1 ρ g) (fun ρ g => evalE P elt ρ g) ds1 (wipeE own1 ρ) g2) = inner at h
  have hin' : ∀ ρ g, inner ρ g = (evalE P it1 ρ g).bind fun x1 g2 => match itemsE .nth x1 with
        | none => Res.bad
        | some ds1 => lcL tg1 (fun ρ g => evalE P test1 ρ g) (fun ρ g => evalE P elt ρ g) ds1 (wipeE own1 ρ) g2 := fun ρ g => by rw [← hin]
  let Wd : Nat → Hp → Prop := fun i H => ∃ F g acc vs, LcAt fx F1 H1 A H F g (.lst vs) ∧ RepL fx.K fx.ap F acc vs ∧
    Acc (fun xs g2 => Kf fx lk σ F0 H0 ρ Q (acc ++ xs) g2) noX (lcF tg (fun ρ g => evalE P test ρ g) inner (ds.drop i) (wipeE own ρ) g)
  refine ⟨fun i m H => m = ds.length - i ∧ i ≤ ds.length ∧ Wd i H, ⟨ds.length, by simp, Nat.zero_le _, F1, g1, [], [], LcAt.start I1.exF I1.pool hA hn _, .nil, by simpa using h⟩, ?_⟩
  rintro i m H ⟨rfl, hi, F, g, acc, vs, L, r, h⟩
  have ok := OkI.of (own := true) (lk := lk) L.gp L.ex
  by_cases hlt : i < ds.length
  · right
    obtain ⟨hgo, hy⟩ := (wk F H ok).2 i ds[i] (by simp [hlt])
    refine ⟨hgo, Wd (i + 1), fun H' w => ⟨ds.length - (i + 1), by omega, rfl, hlt, w⟩, fun x H' yl => ?_⟩
    obtain ⟨F2, w, rx⟩ := hy x H' yl
    rw [drop_at hlt] at h
    simp only [lcF] at h
    have Iw : SR fx lk (wipe σ own) F H (wipeE own ρ) g := (I1.wiped own).gp L.ex L.gp L.pool
    have Iw2 := Iw.grow w
    have L2 := L.step hA w.gp w.ex Iw2.pool
    cases hb : bindT tg ds[i] (wipeE own ρ) with
    | none => rw [hb] at h; exact h.elim
    | some ρ1 =>
      rw [hb] at h
      refine ⟨lk, F2, _, g, _, ρ1, Iw2, rx, hb, fun σ2 I2 off => ?_⟩
      have hw2 : wipe σ2 own = wipe σ own := by rw [off.wipe hsub, wipe_wipe]
      refine ⟨hw2, lk, F2, ρ1, g, I2, brw_ok ((Acc.bind.mp h).imp (fun tv g3 h3 => ?_) fun _ _ _ x => x)⟩
      cases z : truth tv with
      | none => rw [z] at h3; exact h3.elim
      | some b =>
        rw [z] at h3
        refine ⟨b, z, fun H3 F3 I3 e3 => ?_⟩
        have L3 := L2.step hA e3 I3.exF I3.pool
        have r3 : RepL fx.K fx.ap F3 acc vs := (r.mono w.f).mono e3.f
        cases b with
        | false => exact ⟨F3, g3, acc, vs, L3, r3, h3⟩
        | true =>
          dsimp only at h3
          rw [hin'] at h3
          have h3 := Acc.bind.mp (Acc.bind.mp h3)
          refine ⟨lk, F3, ρ1, g3, I3, ?_, ?_⟩
          · intro i0 p ks ws hl0 hs0 hr0
            exfalso
            cases it1 <;> first | (simp [lockN] at hl0; done) | (simp [noLk] at hlk; done) | skip
            simp only [lockN, Option.some.injEq] at hl0
            subst hl0
            simp only [evalE, hr0] at h3
            exact h3.elim
          refine h3.imp (fun x1 g4 h4 => ?_) fun _ _ _ x => x
          cases hz : itemsE .nth x1 with
          | none => rw [hz] at h4; exact h4.elim
          | some ds1 =>
            rw [hz] at h4
            have hz' : itemsE it1 x1 = some ds1 := by
              cases x1 <;> simp only [itemsE, reduceCtorEq] at hz ⊢ <;> first | exact hz | skip
              rename_i t _ _
              cases t <;> simp at hz
            refine ⟨ds1, hz', fun J1 F4 H4 I4 e4 wk1 => ?_⟩
            have L4 := L3.step hA e4 I4.exF I4.pool
            have r4 : RepL fx.K fx.ap F4 acc vs := r3.mono e4.f
            have noA : ∀ (i : Nat) (e : D), (wipeE own1 ρ1)[i]? = some (.own e) → (wipe σ2 own1)[i]? ≠ some (some (.ref A)) := fun i e q => by
              obtain ⟨q1, q2⟩ := wipeE_own q
              rw [wipe_out q2]
              exact Fr.own2 I1 hn hb hw2 q1
            let W1 : Nat → Hp → Prop := fun j H => ∃ F g acc vs, In2 fx lk F1 H1 A (wipe σ2 own1) (wipeE own1 ρ1) H F g (.lst vs) ∧ RepL fx.K fx.ap F acc vs ∧ Ex F4 F ∧ (∀ a od u, a ≠ fx.ap → H4 a = some (.frz od u) → H a = some (.frz od u)) ∧
              Acc (fun xs g3 => Acc (fun ys g2 => Kf fx lk σ F0 H0 ρ Q (acc ++ (xs ++ ys)) g2) noX (lcF tg (fun ρ g => evalE P test ρ g) inner (ds.drop (i + 1)) (wipeE own ρ) g3)) noX (lcL tg1 (fun ρ g => evalE P test1 ρ g) (fun ρ g => evalE P elt ρ g) (ds1.drop j) (wipeE own1 ρ1) g)
            refine ⟨fun j k H => k = ds1.length - j ∧ j ≤ ds1.length ∧ W1 j H, ⟨ds1.length, by simp, Nat.zero_le _, F4, g4, acc, vs, ⟨I4.wiped own1, L4⟩, r4, Ex.refl _, fun _ _ _ _ z => z, ?_⟩, ?_⟩
            · rw [List.drop_zero]
              exact h4.imp (fun xs g5 h5 => Acc.bind.mp h5) fun _ _ _ x => x
            rintro j k H5 ⟨rfl, hj, F5, g5, acc5, vs5, ⟨I5, L5⟩, r5, ex5, fz5, h5⟩
            have ok1 : OkI false fx lk F4 H4 F5 H5 := ⟨ex5, I5.exF, fun a od u n _ z => fz5 a od u n z, fun z => by cases z⟩
            by_cases hlt1 : j < ds1.length
            · right
              obtain ⟨hgo1, hy1⟩ := (wk1 F5 H5 ok1).2 j ds1[j] (by simp [hlt1])
              refine ⟨hgo1, W1 (j + 1), fun H' w => ⟨ds1.length - (j + 1), by omega, rfl, hlt1, w⟩, fun x H6 yl1 => ?_⟩
              obtain ⟨F6, w6, rx6⟩ := hy1 x H6 yl1
              rw [drop_at hlt1] at h5
              simp only [lcL] at h5
              have I6 := I5.grow w6
              have L6 := L5.step hA w6.gp w6.ex I6.pool
              cases hb1 : bindT tg1 ds1[j] (wipeE own1 ρ1) with
              | none => rw [hb1] at h5; exact h5.elim
              | some ρ3 =>
                rw [hb1] at h5
                refine ⟨lk, F6, _, g5, _, ρ3, I6, rx6, hb1, fun σ3 I7 off1 => ?_⟩
                have hw3 : wipe σ3 own1 = wipe σ2 own1 := by rw [off1.wipe hsub1, wipe_wipe]
                refine ⟨hw3, lk, F6, ρ3, g5, I7, brw_ok ((Acc.bind.mp h5).imp (fun tv1 g7 h7 => ?_) fun _ _ _ x => x)⟩
                cases z1 : truth tv1 with
                | none => rw [z1] at h7; exact h7.elim
                | some b1 =>
                  rw [z1] at h7
                  refine ⟨b1, z1, fun H8 F8 I8 e8 => ?_⟩
                  have L8 := L6.step hA e8 I8.exF I8.pool
                  have J8 := I6.gp I8.exF e8 I8.pool
                  have r8 : RepL fx.K fx.ap F8 acc5 vs5 := (r5.mono w6.f).mono e8.f
                  have fz8 : ∀ a od u, a ≠ fx.ap → H4 a = some (.frz od u) → H8 a = some (.frz od u) := fun a od u n z => e8.h _ _ n (w6.h _ _ (fz5 a od u n z))
                  cases b1 with
                  | false => exact ⟨F8, g7, acc5, vs5, ⟨J8, L8⟩, r8, (ex5.trans w6.f).trans e8.f, fz8, h7⟩
                  | true =>
                    refine ⟨lk, F8, ρ3, g7, I8, (Acc.bind.mp h7).imp (fun ev g9 h9 v H9 F9 I9 e9 r9 => ?_) fun _ _ _ x => x⟩
                    have L9 := L8.step hA e9 I9.exF I9.pool
                    have J9 := J8.gp I9.exF e9 I9.pool
                    have r10 : RepL fx.K fx.ap F9 acc5 vs5 := r8.mono e9.f
                    have hacc : acc5.length < 16777216 := by
                      obtain ⟨xs, ga, _, q⟩ := (Acc.bind.mp h9).ex
                      have q : Acc (fun ys g2 => Kf fx lk σ F0 H0 ρ Q (acc5 ++ (ev :: xs ++ ys)) g2) noX (lcF tg (fun ρ g => evalE P test ρ g) inner (ds.drop (i + 1)) (wipeE own ρ) ga) := q
                      obtain ⟨ys, gb, _, q2⟩ := q.ex
                      have := q2.1
                      simp at this
                      omega
                    refine ⟨vs5, L9.at_, by rw [← r10.len]; omega, F9, g9, acc5 ++ [ev], vs5 ++ [v], ⟨J9.putA L9.fr hA0 hA noA, L9.put hA hn _⟩, r10.app (RepL.one r9), ((ex5.trans w6.f).trans e8.f).trans e9.f, fun a od u n z => ?_, ?_⟩
                    · have q := e9.h _ _ n (fz8 a od u n z)
                      rw [upd_ne (fun e => by rw [e, L9.at_] at q; cases q)]
                      exact q
                    · refine (Acc.bind.mp h9).imp (fun xs ga h10 => ?_) fun _ _ _ x => x
                      have h10 : Acc (fun ys g2 => Kf fx lk σ F0 H0 ρ Q (acc5 ++ (ev :: xs ++ ys)) g2) noX _ := h10
                      exact h10.imp (fun ys gb q => by simpa using q) fun _ _ _ x => x
            · left
              have e : j = ds1.length := by omega
              subst e
              refine ⟨(wk1 F5 H5 ok1).1, F5, g5, acc5, vs5, L5, r5, ?_⟩
              rw [List.drop_length] at h5
              have h5 : Acc (fun ys g2 => Kf fx lk σ F0 H0 ρ Q (acc5 ++ ([] ++ ys)) g2) noX _ := h5
              exact h5
  · left
    have e : i = ds.length := by omega
    subst e
    refine ⟨(wk F H ok).1, ?_⟩
    rw [List.drop_length] at h
    have h : Kf fx lk σ F0 H0 ρ Q (acc ++ []) g := h
    rw [List.append_nil] at h
    obtain ⟨f1, f2, f3, f4⟩ := L.fin hA hn
    exact h.2 _ _ _ (I1.gp f1 f2 f3) (e0.trans f2) (.lst upd_same (r.mono f4))
theorem lc2_read {elt test it it1 test1 : E} {tg tg1 : T} {own own1 : List Nat} (hsub : ∀ i ∈ slotsT tg, i ∈ own) (hsub1 : ∀ i ∈ slotsT tg1, i ∈ own1) (hlk : noLk it1 = true) {σ : L2.St} {H : Hp} {Q : VK} (h : tLcR fx P it (.lc2 elt tg it test tg1 it1 test1 own own1) σ H Q) :
    tLc2 (tI true fx P it) (tGd fx tg) (tTs fx P test) (tI false fx P it1) (tGd fx tg1) (tTs fx P test1) (tE fx P elt) own own1 σ H Q := by
  obtain ⟨lk, F, ρ, g, I, L, h⟩ := h
  simp only [evalE] at h
  refine ⟨lk, F, ρ, g, I, L, (Acc.bind.mp h).imp (fun d g1 h1 => ?_) fun _ _ _ x => x⟩
  cases z : itemsE it d with
  | none => rw [z] at h1; exact h1.elim
  | some ds =>
    rw [z] at h1
    refine ⟨ds, rfl, fun J F1 H1 I1 e1 wk A hn => ?_⟩
    refine lc2_loop I1 wk hn hsub hsub1 hlk e1 ((Acc.bind.mp h1).imp (fun xs g2 h2 => ?_) fun _ _ _ x => x).noexc
    split at h2
    · rename_i hz
      exact ⟨of_decide_eq_true hz, h2⟩
    · exact h2.elim
variable {pos : Pos} {N : List Str}
theorem e_lc2 {elt test it it1 test1 : E} {tg tg1 : T} {own own1 : List Nat} {x t i t1 i1 : Expr} {ifs ifs1 : List Expr} {scope : Scope} (hsub : ∀ i ∈ slotsT tg, i ∈ own) (hsub1 : ∀ i ∈ slotsT tg1, i ∈ own1) (hlk : noLk it1 = true)
    (h : PE X (.ListComp x [⟨t, i, ifs, 0⟩, ⟨t1, i1, ifs1, 0⟩] scope pos) (tLc2 (tI true fx P it) (tGd fx tg) (tTs fx P test) (tI false fx P it1) (tGd fx tg1) (tTs fx P test1) (tE fx P elt) ((ownN N own).map (·.2)) own1)) :
    PE X (.ListComp x [⟨t, i, ifs, 0⟩, ⟨t1, i1, ifs1, 0⟩] scope pos) (tE fx P (.lc2 elt tg it test tg1 it1 test1 own own1)) := by
  rw [own_map] at h
  exact (h.or (pe_lock h)).weak fun σ H Q q => lock_read (fun _ _ _ => lc2_read hsub hsub1 hlk) q
end
end MW

end
section
set_option Elab.async false
set_option linter.all false
set_option maxRecDepth 100000
set_option maxHeartbeats 4000000
namespace MW
open PySem PySem.Spec PyProof.Rows L2
theorem dput_len2 (k v : D) (ks vs : List D) : ks.length ≤ (dput k v ks vs).1.length := by
  unfold dput
  split <;> simp
theorem dcL_len {tg : T} {test key val : Env → G → Res D} {ρ : Env} : ∀ {ds : List D} {g g' : G} {acc p : List D × List D}, dcL tg test key val ds ρ g acc = .ok p g' → acc.1.length ≤ p.1.length
  | [], g, g', acc, p, h => by cases h; exact Nat.le_refl _
  | d :: ds, g, g', acc, p, h => by
    simp only [dcL] at h
    split at h
    · cases h
    · rename_i ρ1 _
      cases e1 : test ρ1 g with
      | ok t g1 =>
        rw [e1] at h
        simp only [Res.bind] at h
        split at h
        · cases h
        · exact dcL_len h
        · cases e2 : key ρ1 g1 with
          | ok k g2 =>
            rw [e2] at h
            simp only at h
            cases e3 : val ρ1 g2 with
            | ok x g3 =>
              rw [e3] at h
              simp only at h
              split at h
              · exact Nat.le_trans (dput_len2 _ _ _ _) (dcL_len h)
              · cases h
            | exc _ _ _ => rw [e3] at h; cases h
            | bad => rw [e3] at h; cases h
          | exc _ _ _ => rw [e2] at h; cases h
          | bad => rw [e2] at h; cases h
      | exc _ _ _ => rw [e1] at h; cases h
      | bad => rw [e1] at h; cases h
theorem dcF_len {tg : T} {inner : Env → G → List D × List D → Res (List D × List D)} (hi : ∀ ρ g acc p g', inner ρ g acc = .ok p g' → acc.1.length ≤ p.1.length) {ρ : Env} : ∀ {ds : List D} {g g' : G} {acc p : List D × List D}, dcF tg inner ds ρ g acc = .ok p g' → acc.1.length ≤ p.1.length
  | [], g, g', acc, p, h => by cases h; exact Nat.le_refl _
  | d :: ds, g, g', acc, p, h => by
    simp only [dcF] at h
    split at h
    · cases h
    · rename_i ρ1 _
      cases e1 : inner ρ1 g acc with
      | ok a g1 =>
        rw [e1] at h
        exact Nat.le_trans (hi _ _ _ _ _ e1) (dcF_len hi h)
      | exc _ _ _ => rw [e1] at h; cases h
      | bad => rw [e1] at h; cases h
section
variable {fx : Fx} {P : Ctx} {X : Cx}
/-- a reading under some locks -/
inductive Lks (t : TE) (σ : L2.St) : Hp → VK → Prop
  | here {H : Hp} {Q : VK} : t σ H Q → Lks t σ H Q
  | lock {H : Hp} {Q : VK} (d : Addr) (u : HO) : H d = some u → Mut (some u) → (∀ od, Lks t σ (upd H d (.frz od u)) fun v H' => H' d = some (.frz od u) ∧ Q v (upd H' d u)) → Lks t σ H Q
theorem pe_locks {e : Expr} {t : TE} (h : PE X e t) : PE X e (fun σ H Q => Lks t σ H Q) := by
  refine ⟨fun pins s σ H Q I hw => ?_⟩
  induction hw generalizing pins s with
  | here q => exact h.run pins s σ _ _ I q
  | lock d u hd mu _ ih =>
    obtain ⟨od, I1⟩ := I.lock hd mu
    refine thn (ih od pins s I1) fun v s1 ⟨x, H1, I2, r, e2, q⟩ => ?_
    exact ⟨x, _, I2.unlock e2 (I.nofrz hd mu), r, q⟩
/-- the dicts at these places are locked -/
def LkAt (F H : Hp) (L : List Addr) : Prop := ∀ p ∈ L, ∀ u, F p = some u → IsDct u → ∃ od, H p = some (.frz od u)
theorem locks_read {c : E} {σ : L2.St} {F : Hp} {ρ : Env} {g : G} {tX : TE} : ∀ (L done : List Addr) {lk : Lk} {H : Hp} {Q : VK}, (∀ lk' H' Q', SR fx lk' σ F H' ρ g → LkAt F H' (L ++ done) → Acc (KE fx lk' σ F H' ρ Q') noX (evalE P c ρ g) → tX σ H' Q') →
    SR fx lk σ F H ρ g → LkAt F H done → Acc (KE fx lk σ F H ρ Q) noX (evalE P c ρ g) → Lks tX σ H Q
  | [], done, lk, H, Q, hX, I, hd, h => .here (hX _ _ _ I (by simpa using hd) h)
  | p :: L, done, lk, H, Q, hX, I, hd, h => by
    have next : ∀ {lk' : Lk} {H' : Hp} {Q' : VK}, SR fx lk' σ F H' ρ g → LkAt F H' (p :: done) → Acc (KE fx lk' σ F H' ρ Q') noX (evalE P c ρ g) → Lks tX σ H' Q' := fun I' hd' h' =>
      locks_read L (p :: done) (fun lk' H' Q' a b d => hX lk' H' Q' a (fun q hq => b q (by
        simp only [List.cons_append, List.mem_cons, List.mem_append] at hq ⊢
        rcases hq with h | h | h
        · exact .inr (.inl h)
        · exact .inl h
        · exact .inr (.inr h))) d) I' hd' h'
    by_cases hu : ∃ u, F p = some u ∧ IsDct u
    · obtain ⟨u, hF, hu⟩ := hu
      rcases I.exF p u hF with hH | ⟨_, od, hH⟩
      · refine .lock p u hH (by rcases hu with ⟨k, rfl⟩ | ⟨k, rfl⟩ <;> trivial) fun od => ?_
        obtain ⟨I1, nlk⟩ := I.locked hF hH hu od
        refine next I1 (fun q hq v hv hdv => ?_) (h.imp (fun dd g1 k v H' F' I' e r => ?_) fun _ _ _ x => x)
        · by_cases z : q = p
          · subst z
            rw [hF] at hv; cases hv
            exact ⟨od, upd_same⟩
          · rcases List.mem_cons.mp hq with hq | hq
            · exact (z hq).elim
            · rw [upd_ne z]; exact hd q hq v hv hdv
        · exact ⟨(I'.lock _ (List.mem_cons_self ..)).1, k _ _ _ (I'.unlocked nlk) (e.unlocked hH) r⟩
      · refine next I (fun q hq v hv hdv => ?_) h
        by_cases z : q = p
        · subst z
          rw [hF] at hv; cases hv
          exact ⟨od, hH⟩
        · rcases List.mem_cons.mp hq with hq | hq
          · exact (z hq).elim
          · exact hd q hq v hv hdv
    · refine next I (fun q hq v hv hdv => ?_) h
      rcases List.mem_cons.mp hq with rfl | hq
      · exact (hu ⟨v, hv, hdv⟩).elim
      · exact hd q hq v hv hdv
/-- what the whole dict is wanted for -/
def Kd (fx : Fx) (lk : Lk) (σ : L2.St) (F0 H0 : Hp) (ρ : Env) (Q : VK) (p : List D × List D) (g2 : G) : Prop := p.1.length < 16777216 ∧ KE fx lk σ F0 H0 ρ Q (.dct false p.1 p.2) g2
theorem dcv_loop {key val : E} {j0 : Nat} {tg : T} {own own1 : List Nat} {lk : Lk} {σ : L2.St} {F1 H1 : Hp} {ρ : Env} {g1 : G} {Q : VK} {vs0 : List D} {A p0 : Addr} {od0 : Obj} {kvs0 : List (Key × V)} (I1 : SR fx lk σ F1 H1 ρ g1) (hn : H1 A = none)
    (hp0 : p0 ≠ fx.ap) (hH : H1 p0 = some (.frz od0 (.dK kvs0))) (hr : RepL fx.K fx.ap F1 vs0 (kvs0.map (·.2))) (hl0 : ∀ p, .ref p ∈ kvs0.map (·.2) → ∀ u, F1 p = some u → IsDct u → ∃ od, H1 p = some (.frz od u))
    (hj : j0 ∈ own) (hj1 : j0 ∉ own1) (hsub1 : ∀ i ∈ slotsT tg, i ∈ own1)
    (h : Acc (fun p g2 => Kd fx lk σ F1 H1 ρ Q p g2) noX (dcF (.nm j0) (fun ρ g acc => match ρ[j0]? with
        | some (.val (.dct false ks1 _)) => dcL tg (fun _ g => .ok (.bl true) g) (fun ρ g => evalE P key ρ g) (fun ρ g => evalE P val ρ g) ks1 (wipeE own1 ρ) g acc
        | _ => .bad) vs0 (wipeE own ρ) g1 ([], []))) :
    ∃ W : Nat → Nat → Hp → Prop, (∃ m, W 0 m (upd H1 A (.dK []))) ∧ ∀ i m H, W i m H →
      ((Itd p0 od0 kvs0).stop i H ∧ Q (.ref A) H) ∨ ((Itd p0 od0 kvs0).go i H ∧ ∃ Nx : Hp → Prop, (∀ H', Nx H' → ∃ m', m' < m ∧ W (i + 1) m' H') ∧ ∀ x H', (Itd p0 od0 kvs0).yld i H x H' → gName j0 x (wipe σ own) H' fun σ2 H2 => wipe σ2 own = wipe σ own ∧ tYes σ2 H2 fun b H3 =>
        if b = true then tIn (iKeys (tVar j0)) (tGd fx tg) tYes (tE fx P key) (tE fx P val) own1 A Nx σ2 H3 else Nx H3) := by
  have hl : sizeLine = 16777216 := sizeLine_eq
  obtain ⟨_, hA0, hA⟩ := Fr.of I1 hn
  generalize hin : (fun (ρ : Env) (g : G) (acc : List D × List D) => match ρ[j0]? with
        | some (.val (.dct false ks1 _)) => dcL tg (fun _ g => .ok (.bl true) g) (fun ρ g => evalE P key ρ g) (fun ρ g => evalE P val ρ g) ks1 (wipeE own1 ρ) g acc
        | _ => Res.bad) = inner at h
  have hin' : ∀ (ρ : Env) (g : G) (acc : List D × List D), inner ρ g acc = match ρ[j0]? with
        | some (.val (.dct false ks1 _)) => dcL tg (fun _ g => .ok (.bl true) g) (fun ρ g => evalE P key ρ g) (fun ρ g => evalE P val ρ g) ks1 (wipeE own1 ρ) g acc
        | _ => Res.bad := fun ρ g acc => by rw [← hin]
  have inl : ∀ ρ g acc p g', inner ρ g acc = .ok p g' → acc.1.length ≤ p.1.length := fun ρ g acc p g' e => by
    rw [hin'] at e
    split at e
    · exact dcL_len e
    · cases e
  have vlen : vs0.length = kvs0.length := by rw [hr.len]; simp
  let Wd : Nat → Hp → Prop := fun i H => ∃ F g ks vs kvs, LcAt fx F1 H1 A H F g (.dK kvs) ∧ ks = kvs.map (fun p => kD p.1) ∧ RepL fx.K fx.ap F vs (kvs.map (·.2)) ∧
    Acc (fun p g2 => Kd fx lk σ F1 H1 ρ Q p g2) noX (dcF (.nm j0) inner (vs0.drop i) (wipeE own ρ) g (ks, vs))
  refine ⟨fun i m H => m = vs0.length - i ∧ i ≤ vs0.length ∧ Wd i H, ⟨vs0.length, by simp, Nat.zero_le _, F1, g1, [], [], [], LcAt.start I1.exF I1.pool hA hn _, rfl, .nil, by simpa using h⟩, ?_⟩
  rintro i m H ⟨rfl, hi, F, g, ks, vs, kvs, L, hk, r, h⟩
  have hH' : H p0 = some (.frz od0 (.dK kvs0)) := L.gp.h _ _ hp0 hH
  by_cases hlt : i < vs0.length
  · right
    refine ⟨⟨hH', by omega⟩, Wd (i + 1), fun H' w => ⟨vs0.length - (i + 1), by omega, rfl, hlt, w⟩, ?_⟩
    rintro x H' ⟨e, k0, hx⟩
    subst e
    obtain ⟨x', hx', rx⟩ := hr.at' (i := i) (d := vs0[i]) (by simp [hlt])
    rw [List.getElem?_map, hx] at hx'
    cases hx'
    rw [drop_at hlt] at h
    simp only [dcF] at h
    have Iw : SR fx lk (wipe σ own) F H' (wipeE own ρ) g := (I1.wiped own).gp L.ex L.gp L.pool
    cases hb : bindT (.nm j0) vs0[i] (wipeE own ρ) with
    | none => rw [hb] at h; exact h.elim
    | some ρ1 =>
      rw [hb] at h
      dsimp only at h
      have h := Acc.bind.mp h
      rw [hin'] at h
      have hb0 := hb
      simp only [bindT] at hb
      split at hb
      · rename_i hjl
        cases hb
        rw [List.getElem?_set_self hjl] at h
        have I2 := Iw.slotV j0 (rx.mono L.gp.f) hjl
        have hw2 : wipe ((wipe σ own).set j0 (some x)) own = wipe σ own := by
          have off : Off (slotsT (.nm j0)) (wipe σ own) ((wipe σ own).set j0 (some x)) := ⟨by simp, fun j hj => by
            simp only [slotsT, List.mem_singleton] at hj
            rw [List.getElem?_set_ne (Ne.symm hj)]⟩
          rw [off.wipe (fun i hi => by simp [slotsT] at hi; rw [hi]; exact hj), wipe_wipe]
        refine ⟨hw2, ?_⟩
        dsimp only [tYes]
        rw [if_pos rfl]
        cases hd : vs0[i] with
        | dct t ks1 ws1 =>
          cases t with
          | true => rw [hd] at h; exact h.elim
          | false =>
            rw [hd] at h rx I2
            dsimp only at h
            cases rx with
            | dctK hF1 hk1 rr1 =>
              rename_i p1 kvs1
              obtain ⟨od1, hod1⟩ := hl0 p1 (List.mem_map.mpr ⟨_, List.mem_of_getElem? hx, rfl⟩) _ hF1 (.inl ⟨_, rfl⟩)
              have p1ap : p1 ≠ fx.ap := fun z => by rw [z, I1.pool.1] at hF1; cases hF1
              have hp1 : H' p1 = some (.frz od1 (.dK kvs1)) := L.gp.h _ _ p1ap hod1
              have hsl : ((wipe σ own).set j0 (some (.ref p1)))[j0]? = some (some (.ref p1)) := by
                rw [List.getElem?_set_self (by rw [Iw.len]; exact hjl)]
              have noA : ∀ (i : Nat) (e : D), (wipeE own1 ((wipeE own ρ).set j0 (.val (.dct false ks1 ws1))))[i]? = some (.own e) → (wipe ((wipe σ own).set j0 (some (.ref p1))) own1)[i]? ≠ some (some (.ref A)) := fun i e q => by
                obtain ⟨q1, q2⟩ := wipeE_own q
                rw [wipe_out q2]
                exact Fr.own2 (tg := .nm j0) (d := .dct false ks1 ws1) (own := own) I1 hn (by simp only [bindT, hjl, if_true]) hw2 q1
              refine ⟨.ref p1, hsl, p1, od1, rfl, .inl ⟨kvs1, hp1, ?_⟩⟩
              let W1 : Nat → Hp → Prop := fun j H => ∃ F g ks vs kvs, In2 fx lk F1 H1 A (wipe ((wipe σ own).set j0 (some (.ref p1))) own1) (wipeE own1 ((wipeE own ρ).set j0 (.val (.dct false ks1 ws1)))) H F g (.dK kvs) ∧ ks = kvs.map (fun p => kD p.1) ∧ RepL fx.K fx.ap F vs (kvs.map (·.2)) ∧
                Acc (fun a g1 => Acc (fun p g2 => Kd fx lk σ F1 H1 ρ Q p g2) noX (dcF (.nm j0) inner (vs0.drop (i + 1)) (wipeE own ρ) g1 a)) noX (dcL tg (fun _ g => .ok (.bl true) g) (fun ρ g => evalE P key ρ g) (fun ρ g => evalE P val ρ g) (ks1.drop j) (wipeE own1 ((wipeE own ρ).set j0 (.val (.dct false ks1 ws1)))) g (ks, vs))
              have l1 : ks1.length = kvs1.length := by rw [hk1]; simp
              refine ⟨fun j k H => k = ks1.length - j ∧ j ≤ ks1.length ∧ W1 j H, ⟨ks1.length, by simp, Nat.zero_le _, F, g, ks, vs, kvs, ⟨I2.wiped own1, L⟩, hk, r, by rw [List.drop_zero]; exact h⟩, ?_⟩
              rintro j k H5 ⟨rfl, hj5, F5, g5, ks5, vs5, kvs5, ⟨I5, L5⟩, hk5, r5, h5⟩
              have hp5 : H5 p1 = some (.frz od1 (.dK kvs1)) := L5.gp.h _ _ p1ap hod1
              by_cases hlt1 : j < ks1.length
              · right
                refine ⟨⟨hp5, by omega⟩, W1 (j + 1), fun H' w => ⟨ks1.length - (j + 1), by omega, rfl, hlt1, w⟩, ?_⟩
                rintro x H6 ⟨e, ky, vy, hky, rfl⟩
                subst e
                have hkj : ks1[j] = kD ky := by
                  have : ks1[j]? = some (kD ky) := by rw [hk1, List.getElem?_map, hky]; rfl
                  rw [List.getElem?_eq_getElem hlt1] at this
                  exact Option.some.inj this
                rw [drop_at hlt1] at h5
                simp only [dcL, hkj] at h5
                cases hb1 : bindT tg (kD ky) (wipeE own1 ((wipeE own ρ).set j0 (.val (.dct false ks1 ws1)))) with
                | none => rw [hb1] at h5; exact h5.elim
                | some ρ3 =>
                  rw [hb1] at h5
                  refine ⟨lk, F5, _, g5, _, ρ3, I5, rep_key ky, hb1, fun σ3 I7 off1 => ?_⟩
                  have hw3 : wipe σ3 own1 = wipe ((wipe σ own).set j0 (some (.ref p1))) own1 := by rw [off1.wipe hsub1, wipe_wipe]
                  refine ⟨hw3, ?_⟩
                  dsimp only [tYes]
                  rw [if_pos rfl]
                  simp only [Res.bind, truth] at h5
                  refine ⟨lk, F5, ρ3, g5, I7, (Acc.bind.mp h5).imp (fun kd g9 h9 v9 H9 F9 I9 e9 r9 => ?_) fun _ _ _ x => x⟩
                  have L9 := L5.step hA e9 I9.exF I9.pool
                  have J9 := I5.gp I9.exF e9 I9.pool
                  refine ⟨lk, F9, ρ3, g9, I9, (Acc.bind.mp h9).imp (fun ed g10 h10 v10 H10 F10 I10 e10 r10 => ?_) fun _ _ _ x => x⟩
                  have L10 := L9.step hA e10 I10.exF I10.pool
                  have J10 := J9.gp I10.exF e10 I10.pool
                  split at h10
                  · rename_i hok
                    obtain ⟨ky2, rfl⟩ := key_ok_flat hok
                    have hv := keyR r9
                    have r11 : RepL fx.K fx.ap F10 vs5 (kvs5.map (·.2)) := (r5.mono e9.f).mono e10.f
                    subst hk5
                    obtain ⟨q1, q2⟩ := dput_K (k := ky2) r10 r11
                    have hacc : kvs5.length < 16777216 := by
                      obtain ⟨a, ga, ea, q⟩ := h10.ex
                      have m1 := dcL_len ea
                      have m2 := dput_len2 (kD ky2) ed (kvs5.map fun p => kD p.1) vs5
                      obtain ⟨b, gb, eb, q3⟩ := Acc.ex q
                      have m3 := dcF_len inl eb
                      have m4 := q3.1
                      rw [List.length_map] at m2
                      omega
                    refine ⟨kvs5, ky2, hv, L10.at_, by omega, F10, g10, _, _, _, ⟨J10.putA L10.fr hA0 hA noA, L10.put hA hn _⟩, rfl, q2, ?_⟩
                    rw [← q1]
                    exact h10
                  · exact h10.elim
              · left
                have e : j = ks1.length := by omega
                subst e
                refine ⟨⟨hp5, by omega⟩, F5, g5, ks5, vs5, kvs5, L5, hk5, r5, ?_⟩
                rw [List.drop_length] at h5
                exact h5
        | _ => rw [hd] at h; exact h.elim
      · cases hb
  · left
    have e : i = vs0.length := by omega
    subst e
    refine ⟨⟨hH', by omega⟩, ?_⟩
    rw [List.drop_length] at h
    have h : Kd fx lk σ F1 H1 ρ Q (ks, vs) g := h
    obtain ⟨f1, f2, f3, f4⟩ := L.fin hA hn
    exact h.2 _ _ _ (I1.gp f1 f2 f3) f2 (.dctK upd_same hk (r.mono f4))
def refsOf : List V → List Addr
  | [] => []
  | .ref p :: vs => p :: refsOf vs
  | _ :: vs => refsOf vs
theorem refsOf_mem {p : Addr} : ∀ {vs : List V}, V.ref p ∈ vs → p ∈ refsOf vs
  | [], h => by cases h
  | v :: vs, h => by
    rcases List.mem_cons.mp h with rfl | h2
    · exact List.mem_cons_self ..
    · have ih := refsOf_mem h2
      cases v <;> simp only [refsOf, List.mem_cons] <;> first | exact ih | exact Or.inr ih
theorem dcv_read {key val : E} {i0 j0 : Nat} {tg : T} {own own1 : List Nat} (hj : j0 ∈ own) (hj1 : j0 ∉ own1) (hsub1 : ∀ i ∈ slotsT tg, i ∈ own1) {σ : L2.St} {H : Hp} {Q : VK} (h : tE fx P (.dcv key val i0 j0 tg own own1) σ H Q) :
    Lks (tDc2 (iVals (tVar i0)) (gName j0) tYes (iKeys (tVar j0)) (tGd fx tg) tYes (tE fx P key) (tE fx P val) own own1) σ H Q := by
  obtain ⟨lk, F, ρ, g, I, h⟩ := h
  cases hρ : ρ[i0]? with
  | none => simp only [evalE, hρ] at h; exact h.elim
  | some s =>
    cases s with
    | no => simp only [evalE, hρ] at h; exact h.elim
    | own d => simp only [evalE, hρ] at h; exact h.elim
    | val d =>
      cases d with
      | dct t ks vs0 =>
        cases t with
        | true => simp only [evalE, hρ] at h; exact h.elim
        | false =>
          obtain ⟨v, hv1, hv2⟩ := I.sl _ _ hρ
          cases hv2 with
          | dctK hF hk rr =>
            rename_i p0 kvs0
            refine locks_read (p0 :: refsOf (kvs0.map (·.2))) [] (fun lk' H' Q' I' L' h' => ?_) I (fun _ hp => by cases hp) h
            obtain ⟨od0, hH0⟩ := L' p0 (by simp) _ hF (.inl ⟨_, rfl⟩)
            have p0ap : p0 ≠ fx.ap := fun z => by rw [z, I.pool.1] at hF; cases hF
            refine ⟨_, hv1, p0, od0, kvs0, rfl, hH0, fun A hn => ?_⟩
            refine dcv_loop I' hn p0ap hH0 rr (fun p hp u hu hd => L' p (by simp [refsOf_mem hp]) u hu hd) hj hj1 hsub1 ?_
            simp only [evalE, hρ] at h'
            refine ((Acc.bind.mp h').imp (fun q g2 h2 => ?_) fun _ _ _ x => x).noexc
            split at h2
            · rename_i hz
              exact ⟨of_decide_eq_true hz, h2⟩
            · exact h2.elim
      | _ => simp only [evalE, hρ] at h; exact h.elim
variable {pos : Pos} {N : List Str}
theorem e_dcv {key val : E} {i0 j0 : Nat} {tg : T} {own own1 : List Nat} {x y t i t1 i1 : Expr} {scope : Scope} (hj : j0 ∈ own) (hj1 : j0 ∉ own1) (hsub1 : ∀ i ∈ slotsT tg, i ∈ own1)
    (h : PE X (dcE x y t i t1 i1 [] [] scope pos) (tDc2 (iVals (tVar i0)) (gName j0) tYes (iKeys (tVar j0)) (tGd fx tg) tYes (tE fx P key) (tE fx P val) ((ownN N own).map (·.2)) own1)) :
    PE X (dcE x y t i t1 i1 [] [] scope pos) (tE fx P (.dcv key val i0 j0 tg own own1)) := by
  rw [own_map] at h
  exact (pe_locks h).weak fun σ H Q q => dcv_read hj hj1 hsub1 q
end
end MW

end
section
set_option Elab.async false
set_option linter.all false
set_option maxRecDepth 100000
set_option maxHeartbeats 4000000
namespace MW
open PySem PySem.Spec PyProof.Rows L2
section
variable {fx : Fx} {P : Ctx} {N : List Str}
structure AllE (fx : Fx) (P : Ctx) (N : List Str) (c : E) : Prop where
  pe : ∀ X sc, GoodX fx P N sc X → ∀ e, chkE N c false e sc = true → PE X e (tE fx P c)
  pt : ∀ X sc, GoodX fx P N sc X → ∀ e, chkE N c false e sc = true → PT X e (tTs fx P c)
  pw : ∀ X sc, GoodX fx P N sc X → ∀ op es pos, chkE N c false (.BoolOp op es pos) sc = true → PW X (.BoolOp op es pos) (tTs fx P c)
  pa : ∀ X sc, GoodX fx P N sc X → ∀ es, chkA N c es sc = true → PA X es (tAr fx P c)
  pi : ∀ own X sc, GoodX fx P N sc X → ∀ e t, chkE N c true e sc = true → itOk c t = true → PI X t e (tI own fx P c)
  pv : ∀ X sc, GoodX fx P N sc X → ∀ e, chkE N c false e sc = true → ∀ i, c = .v i → PE X e (tVar i)
theorem AllE.br {c : E} (A : AllE fx P N c) {X : Cx} {sc : Scope} (G : GoodX fx P N sc X) {e : Expr} (h : chkE N c false e sc = true) : PE X e (tBr fx P c) := tE_of_tBr (A.pe X sc G e h) (A.pv X sc G e h)
theorem GoodX.gl {X : Cx} {sc : Scope} (G : GoodX fx P N sc X) {x : Str} (h : glB sc x = true) : Gl X x := by
  show X.env.scope.names.lookup x = _
  rw [G.hsc]
  unfold glB at h
  split at h
  · assumption
  · cases h
theorem GoodX.vis {X : Cx} {sc : Scope} (G : GoodX fx P N sc X) {x : Str} (h : visB sc x = true) : Vis X.env.scope x := by
  rw [G.hsc]
  unfold visB at h
  unfold Vis
  split at h <;> first | (cases h; done) | skip
  · rename_i e; exact .inl e
  · rename_i e; exact .inr (.inl e)
  · rename_i e; exact .inr (.inr e)
theorem okName_is {x : Str} (h : okName x = true) : (x == ("__debug__" : Str)) = false ∧ (x == ("__classdict__" : Str)) = false ∧ (x == ("__name__" : Str)) = false := by
  unfold okName at h
  simp only [Bool.and_eq_true, Bool.not_eq_true'] at h
  exact ⟨h.1.1, h.1.2, h.2⟩
def plainIs (e : Expr) : Prop := ∀ env whole, isTrue e env whole = (do let v ← whole; standAt e.pos; holding [v] (truthy v))
theorem AllE.plain {c : E} (hpe : ∀ X sc, GoodX fx P N sc X → ∀ e, chkE N c false e sc = true → PE X e (tE fx P c)) (hpl : ∀ e sc, chkE N c false e sc = true → plainIs e) (hb : ∀ op es pos sc, chkE N c false (.BoolOp op es pos) sc = false)
    (hmode : ∀ e sc, chkE N c true e sc = chkE N c false e sc) (hA : ∀ es sc, chkA N c es sc = false) (hnv : ∀ i, c ≠ .v i) (hlk : lockN c = none) (hen : ∀ a, c ≠ .enum a) : AllE fx P N c where
  pe := hpe
  pt := fun X sc G e h => pt_of G.K (tE_of_tBr (hpe X sc G e h) fun i z => (hnv i z).elim) (hpl e sc h X.env)
  pw := fun X sc G op es pos h => by rw [hb] at h; cases h
  pa := fun X sc G es h => by rw [hA] at h; cases h
  pi := fun own X sc G e t h ho => i_val G.K hen (hpe X sc G e (by rw [← hmode]; exact h)) (fun i z => (hnv i z).elim) (fun i z => by rw [hlk] at z; cases z)
  pv := fun X sc G e h i z => (hnv i z).elim
theorem AllE.test {c : E} (hpe : ∀ X sc, GoodX fx P N sc X → ∀ e, chkE N c false e sc = true → PE X e (tE fx P c)) (hpt : ∀ X sc, GoodX fx P N sc X → ∀ e, chkE N c false e sc = true → PT X e (tTs fx P c))
    (hb : ∀ X sc, GoodX fx P N sc X → ∀ op es pos, chkE N c false (.BoolOp op es pos) sc = true → PW X (.BoolOp op es pos) (tTs fx P c))
    (hmode : ∀ e sc, chkE N c true e sc = chkE N c false e sc) (hA : ∀ es sc, chkA N c es sc = false) (hnv : ∀ i, c ≠ .v i) (hlk : lockN c = none) (hen : ∀ a, c ≠ .enum a) : AllE fx P N c where
  pe := hpe
  pt := hpt
  pw := hb
  pa := fun X sc G es h => by rw [hA] at h; cases h
  pi := fun own X sc G e t h ho => i_val G.K hen (hpe X sc G e (by rw [← hmode]; exact h)) (fun i z => (hnv i z).elim) (fun i z => by rw [hlk] at z; cases z)
  pv := fun X sc G e h i z => (hnv i z).elim
theorem AllE.iter {c : E} (h0 : ∀ e sc, chkE N c false e sc = false) (hA : ∀ es sc, chkA N c es sc = false) (hnv : ∀ i, c ≠ .v i) (hpi : ∀ own X sc, GoodX fx P N sc X → ∀ e t, chkE N c true e sc = true → itOk c t = true → PI X t e (tI own fx P c)) : AllE fx P N c where
  pe := fun X sc G e h => by rw [h0] at h; cases h
  pt := fun X sc G e h => by rw [h0] at h; cases h
  pw := fun X sc G op es pos h => by rw [h0] at h; cases h
  pa := fun X sc G es h => by rw [hA] at h; cases h
  pi := hpi
  pv := fun X sc G e h i z => (hnv i z).elim
theorem plain_no {e : Expr} (h : plainT e = true) : plainIs e := fun env => plainT_is h env
theorem opB_is {o : Op} {op : Operator} (h : opB o op = true) : op = opP o := by cases o <;> cases op <;> first | rfl | (simp [opB] at h; done)
theorem cpB_is {o : Cp} {op : CmpOp} (h : cpB o op = true) : op = cpP o := by cases o <;> cases op <;> first | rfl | (simp [cpB] at h; done)
theorem blk_locs {X : Cx} {sc scope : Scope} (G : GoodX fx P N sc X) (s : Shared) (H : Hp) (C : Addr) (cl : List (Str × Addr)) (fp : List Addr) : ∀ x, locB scope x = true →
    Loc (X.blk s H scope (compEnvC scope cl C X.env) fp).env.scope x ∧ ((X.blk s H scope (compEnvC scope cl C X.env) fp).fn x = true ∨ (X.blk s H scope (compEnvC scope cl C X.env) fp).env.scope.names.lookup x = some .local) := by
  intro x h
  unfold locB at h
  split at h <;> first | (cases h; done) | skip
  · rename_i e
    have : (relS scope X.env.scope).names.lookup x = some .local := lookup_relS_keep (by decide) e
    exact ⟨.inl this, .inr this⟩
  · rename_i e
    have : (relS scope X.env.scope).names.lookup x = some .cell := lookup_relS_keep (by decide) e
    refine ⟨.inr this, .inl ?_⟩
    show (scope.names.lookup x == some NameKind.cell) = true
    rw [e]; rfl
variable {a b c d : E}
theorem A_v (i : Nat) : AllE fx P N (.v i) := by
  have go : ∀ X sc, GoodX fx P N sc X → ∀ m e, chkE N (.v i) m e sc = true → PE X e (tVar i) ∧ plainIs e ∧ isSet e = false := fun X sc G m e h => by
    simp only [chkE] at h
    split at h
    · simp only [Bool.and_eq_true, decide_eq_true_eq] at h
      obtain ⟨⟨h1, h2⟩, h3⟩ := h
      obtain ⟨o1, o2, o3⟩ := okName_is h3
      exact ⟨pe_var (by rw [G.hN]; exact h1) (G.vis h2) o1 o2, plain_no rfl, rfl⟩
    · cases h
  exact {
    pe := fun X sc G e h => e_v (go X sc G _ e h).1
    pt := fun X sc G e h => pt_of G.K (tE_of_tBr (e_v (go X sc G _ e h).1) fun j z => by cases z; exact (go X sc G _ e h).1) ((go X sc G _ e h).2.1 X.env)
    pw := fun X sc G op es pos h => by simp [chkE] at h
    pa := fun X sc G es h => by simp [chkA] at h
    pi := fun own X sc G e t h ho => i_val G.K (fun _ z => by cases z) (e_v (go X sc G _ e h).1) (fun j z => by cases z; exact (go X sc G _ e h).1) (fun j z => by cases z; rfl)
    pv := fun X sc G e h j z => by cases z; exact (go X sc G _ e h).1 }
theorem A_gv (y : String) : AllE fx P N (.gv y) := by
  refine AllE.plain (fun X sc G e h => ?_) (fun e sc h => ?_) (fun _ _ _ _ => rfl) (fun _ _ => rfl) (fun _ _ => rfl) (fun _ z => by cases z) rfl (fun _ z => by cases z)
  · simp only [chkE] at h
    split at h
    · simp only [Bool.and_eq_true, decide_eq_true_eq] at h
      obtain ⟨⟨rfl, h2⟩, h3⟩ := h
      obtain ⟨o1, o2, o3⟩ := okName_is h3
      refine e_gv fun dd hd => ?_
      obtain ⟨u, v, q1, q2, q3⟩ := G.const y dd hd
      exact ⟨v, pe_glob (G.gl h2) q1 q2 o1, q3⟩
    · cases h
  · simp only [chkE] at h
    split at h
    · exact plain_no rfl
    · cases h
theorem A_k (y : D) : AllE fx P N (.k y) := by
  refine AllE.plain (fun X sc G e h => ?_) (fun e sc h => ?_) (fun _ _ _ _ => rfl) (fun _ _ => rfl) (fun _ _ => rfl) (fun _ z => by cases z) rfl (fun _ z => by cases z)
  · simp only [chkE] at h
    split at h
    · exact e_k h
    · cases h
  · simp only [chkE] at h
    split at h
    · exact plain_no rfl
    · cases h
theorem A_bin (o : Op) (ha : AllE fx P N a) (hb : AllE fx P N b) : AllE fx P N (.bin o a b) := by
  refine AllE.plain (fun X sc G e h => ?_) (fun e sc h => ?_) (fun _ _ _ _ => rfl) (fun _ _ => rfl) (fun _ _ => rfl) (fun _ z => by cases z) rfl (fun _ z => by cases z)
  · simp only [chkE] at h
    split at h
    · simp only [Bool.and_eq_true] at h
      obtain ⟨⟨h1, h2⟩, h3⟩ := h
      rw [opB_is h1]
      exact e_bin G.K (ha.br G h2) (hb.br G h3)
    · cases h
  · simp only [chkE] at h
    split at h
    · exact plain_no rfl
    · cases h
theorem A_neg (ha : AllE fx P N a) : AllE fx P N (.neg a) := by
  refine AllE.plain (fun X sc G e h => ?_) (fun e sc h => ?_) (fun _ _ _ _ => rfl) (fun _ _ => rfl) (fun _ _ => rfl) (fun _ z => by cases z) rfl (fun _ z => by cases z)
  · simp only [chkE] at h
    split at h
    · exact e_neg (ha.pe X sc G _ h)
    · cases h
  · simp only [chkE] at h
    split at h
    · exact fun _ _ => rfl
    · cases h
theorem A_not (ha : AllE fx P N a) : AllE fx P N (.not a) := by
  refine AllE.test (fun X sc G e h => ?_) (fun X sc G e h => ?_) (fun _ _ _ _ _ _ h => by simp [chkE] at h) (fun _ _ => rfl) (fun _ _ => rfl) (fun _ z => by cases z) rfl (fun _ z => by cases z)
  · simp only [chkE] at h
    split at h
    · exact e_not G.K (ha.br G h)
    · cases h
  · simp only [chkE] at h
    split at h
    · exact t_not (ha.pt X sc G _ h)
    · cases h
theorem GoodX.u {X : Cx} {sc : Scope} (G : GoodX fx P N sc X) (k : Nat) (hk : k ≤ 200) : X.A.units + k < cLine := by have := G.room; omega
theorem A_cmp (o : Cp) (ha : AllE fx P N a) (hb : AllE fx P N b) : AllE fx P N (.cmp o a b) := by
  refine AllE.test (fun X sc G e h => ?_) (fun X sc G e h => ?_) (fun _ _ _ _ _ _ h => by simp [chkE] at h) (fun _ _ => rfl) (fun _ _ => rfl) (fun _ z => by cases z) rfl (fun _ z => by cases z)
  · simp only [chkE] at h
    split at h
    · simp only [Bool.and_eq_true, Bool.not_eq_true'] at h
      obtain ⟨⟨⟨h1, h2⟩, h3⟩, h4⟩ := h
      rw [cpB_is h1]
      exact e_cmp G.K (G.u 100 (by omega)) (ha.br G h2) (hb.br G h3) (noSet h4)
    · cases h
  · simp only [chkE] at h
    split at h
    · simp only [Bool.and_eq_true, Bool.not_eq_true'] at h
      obtain ⟨⟨⟨h1, h2⟩, h3⟩, h4⟩ := h
      rw [cpB_is h1]
      exact t_cmp G.K (G.u 100 (by omega)) (ha.br G h2) (hb.br G h3) (noSet h4)
    · cases h
theorem A_cmp2 (o o' : Cp) (ha : AllE fx P N a) (hb : AllE fx P N b) (hd : AllE fx P N d) : AllE fx P N (.cmp2 o o' a b d) := by
  refine AllE.test (fun X sc G e h => ?_) (fun X sc G e h => ?_) (fun _ _ _ _ _ _ h => by simp [chkE] at h) (fun _ _ => rfl) (fun _ _ => rfl) (fun _ z => by cases z) rfl (fun _ z => by cases z)
  · simp only [chkE] at h
    split at h
    · simp only [Bool.and_eq_true, Bool.not_eq_true'] at h
      obtain ⟨⟨⟨⟨⟨h1, h2⟩, h3⟩, h4⟩, h5⟩, h6⟩ := h
      rw [cpB_is h1, cpB_is h2]
      exact e_cmp2 G.K (G.u 100 (by omega)) (ha.pe X sc G _ h3) (hb.pe X sc G _ h4) (hd.pe X sc G _ h5) (noSet h6)
    · cases h
  · simp only [chkE] at h
    split at h
    · simp only [Bool.and_eq_true, Bool.not_eq_true'] at h
      obtain ⟨⟨⟨⟨⟨h1, h2⟩, h3⟩, h4⟩, h5⟩, h6⟩ := h
      rw [cpB_is h1, cpB_is h2]
      exact t_cmp2 G.K (G.u 100 (by omega)) (ha.pe X sc G _ h3) (hb.pe X sc G _ h4) (hd.pe X sc G _ h5) (noSet h6)
    · cases h
theorem A_and (ha : AllE fx P N a) (hb : AllE fx P N b) : AllE fx P N (.and a b) := by
  have hw : ∀ X sc, GoodX fx P N sc X → ∀ e, chkE N (.and a b) false e sc = true → PW X e (tTs fx P (.and a b)) := fun X sc G e h => by
    simp only [chkE] at h
    split at h
    · rename_i x y r pos
      simp only [Bool.and_eq_true] at h
      obtain ⟨h1, h2⟩ := h
      cases r with
      | nil => exact t_and (ha.pt X sc G _ h1) (pw_and1 (hb.pt X sc G _ h2))
      | cons z r => exact t_and (ha.pt X sc G _ h1) (hb.pw X sc G _ _ _ h2)
    · cases h
  refine AllE.test (fun X sc G e h => ?_) (fun X sc G e h => (hw X sc G e h).pt) (fun X sc G op es pos h => hw X sc G _ h) (fun _ _ => rfl) (fun _ _ => rfl) (fun _ z => by cases z) rfl (fun _ z => by cases z)
  simp only [chkE] at h
  split at h
  · rename_i x y r pos
    simp only [Bool.and_eq_true] at h
    obtain ⟨h1, h2⟩ := h
    cases r with
    | nil => exact e_and G.K (ha.pe X sc G _ h1) (pe_one (hb.pe X sc G _ h2))
    | cons z r => exact e_and G.K (ha.pe X sc G _ h1) (hb.pe X sc G _ h2)
  · cases h
theorem A_or (ha : AllE fx P N a) (hb : AllE fx P N b) : AllE fx P N (.or a b) := by
  have hw : ∀ X sc, GoodX fx P N sc X → ∀ e, chkE N (.or a b) false e sc = true → PW X e (tTs fx P (.or a b)) := fun X sc G e h => by
    simp only [chkE] at h
    split at h
    · rename_i x y r pos
      simp only [Bool.and_eq_true] at h
      obtain ⟨h1, h2⟩ := h
      cases r with
      | nil => exact t_or (ha.pt X sc G _ h1) (pw_or1 (hb.pt X sc G _ h2))
      | cons z r => exact t_or (ha.pt X sc G _ h1) (hb.pw X sc G _ _ _ h2)
    · cases h
  refine AllE.test (fun X sc G e h => ?_) (fun X sc G e h => (hw X sc G e h).pt) (fun X sc G op es pos h => hw X sc G _ h) (fun _ _ => rfl) (fun _ _ => rfl) (fun _ z => by cases z) rfl (fun _ z => by cases z)
  simp only [chkE] at h
  split at h
  · rename_i x y r pos
    simp only [Bool.and_eq_true] at h
    obtain ⟨h1, h2⟩ := h
    cases r with
    | nil => exact e_or G.K (ha.pe X sc G _ h1) (pe_one (hb.pe X sc G _ h2))
    | cons z r => exact e_or G.K (ha.pe X sc G _ h1) (hb.pe X sc G _ h2)
  · cases h
theorem A_ite (ht : AllE fx P N c) (ha : AllE fx P N a) (hb : AllE fx P N b) : AllE fx P N (.ite c a b) := by
  refine AllE.test (fun X sc G e h => ?_) (fun X sc G e h => ?_) (fun _ _ _ _ _ _ h => by simp [chkE] at h) (fun _ _ => rfl) (fun _ _ => rfl) (fun _ z => by cases z) rfl (fun _ z => by cases z)
  · simp only [chkE] at h
    split at h
    · simp only [Bool.and_eq_true] at h
      exact e_ite (ht.pt X sc G _ h.1.1) (ha.pe X sc G _ h.1.2) (hb.pe X sc G _ h.2)
    · cases h
  · simp only [chkE] at h
    split at h
    · simp only [Bool.and_eq_true] at h
      exact t_ite (ht.pt X sc G _ h.1.1) (ha.pt X sc G _ h.1.2) (hb.pt X sc G _ h.2)
    · cases h
theorem A_none (c : E) (h0 : ∀ m e sc, chkE N c m e sc = false) (hA : ∀ es sc, chkA N c es sc = false) : AllE fx P N c where
  pe := fun X sc G e h => by rw [h0] at h; cases h
  pt := fun X sc G e h => by rw [h0] at h; cases h
  pw := fun X sc G op es pos h => by rw [h0] at h; cases h
  pa := fun X sc G es h => by rw [hA] at h; cases h
  pi := fun own X sc G e t h => by rw [h0] at h; cases h
  pv := fun X sc G e h => by rw [h0] at h; cases h
theorem A_anil : AllE fx P N .anil where
  pe := fun X sc G e h => by simp [chkE] at h
  pt := fun X sc G e h => by simp [chkE] at h
  pw := fun X sc G op es pos h => by simp [chkE] at h
  pa := fun X sc G es h => by
    cases es with
    | nil => exact a_nil
    | cons _ _ => simp [chkA] at h
  pi := fun own X sc G e t h => by simp [chkE] at h
  pv := fun X sc G e h => by simp [chkE] at h
theorem A_acons (ha : AllE fx P N a) (hb : AllE fx P N b) : AllE fx P N (.acons a b) where
  pe := fun X sc G e h => by simp [chkE] at h
  pt := fun X sc G e h => by simp [chkE] at h
  pw := fun X sc G op es pos h => by simp [chkE] at h
  pa := fun X sc G es h => by
    cases es with
    | nil => simp [chkA] at h
    | cons e es =>
      simp only [chkA, Bool.and_eq_true, Bool.not_eq_true'] at h
      exact a_cons (ha.pe X sc G _ h.1.2) (hb.pa X sc G _ h.2) (star_cons h.1.1 _ _)
  pi := fun own X sc G e t h => by simp [chkE] at h
  pv := fun X sc G e h => by simp [chkE] at h
theorem A_tup (ha : AllE fx P N a) : AllE fx P N (.tup a) := by
  refine AllE.plain (fun X sc G e h => ?_) (fun e sc h => ?_) (fun _ _ _ _ => rfl) (fun _ _ => rfl) (fun _ _ => rfl) (fun _ z => by cases z) rfl (fun _ z => by cases z)
  · simp only [chkE] at h
    split at h
    · exact e_tup (ha.pa X sc G _ h)
    · cases h
  · simp only [chkE] at h
    split at h
    · exact plain_no rfl
    · cases h
theorem A_lst (ha : AllE fx P N a) : AllE fx P N (.lst a) := by
  refine AllE.plain (fun X sc G e h => ?_) (fun e sc h => ?_) (fun _ _ _ _ => rfl) (fun _ _ => rfl) (fun _ _ => rfl) (fun _ z => by cases z) rfl (fun _ z => by cases z)
  · simp only [chkE] at h
    split at h
    · exact e_lst (ha.pa X sc G _ h)
    · cases h
  · simp only [chkE] at h
    split at h
    · exact plain_no rfl
    · cases h
theorem A_dK : AllE fx P N .dK := by
  refine AllE.plain (fun X sc G e h => ?_) (fun e sc h => ?_) (fun _ _ _ _ => rfl) (fun _ _ => rfl) (fun _ _ => rfl) (fun _ z => by cases z) rfl (fun _ z => by cases z)
  · simp only [chkE] at h
    split at h
    · exact e_dK
    · cases h
  · simp only [chkE] at h
    split at h
    · exact plain_no rfl
    · cases h
theorem A_dT : AllE fx P N .dT := by
  refine AllE.plain (fun X sc G e h => ?_) (fun e sc h => ?_) (fun _ _ _ _ => rfl) (fun _ _ => rfl) (fun _ _ => rfl) (fun _ z => by cases z) rfl (fun _ z => by cases z)
  · simp only [chkE] at h
    split at h
    · exact e_dT
    · cases h
  · simp only [chkE] at h
    split at h
    · exact plain_no rfl
    · cases h
theorem A_idx (ha : AllE fx P N a) (hb : AllE fx P N b) : AllE fx P N (.idx a b) := by
  refine AllE.plain (fun X sc G e h => ?_) (fun e sc h => ?_) (fun _ _ _ _ => rfl) (fun _ _ => rfl) (fun _ _ => rfl) (fun _ z => by cases z) rfl (fun _ z => by cases z)
  · simp only [chkE] at h
    split at h
    · simp only [Bool.and_eq_true, Bool.not_eq_true'] at h
      exact e_idx G.K (G.u 1 (by omega)) (ha.br G h.1.1) (hb.pe X sc G _ h.1.2) (plainIx h.2)
    · cases h
  · simp only [chkE] at h
    split at h
    · exact plain_no rfl
    · cases h
theorem A_slc (ha : AllE fx P N a) (hb : AllE fx P N b) (hc : AllE fx P N c) : AllE fx P N (.slc a b c) := by
  have nn : ∀ {c : E} {e : Expr} {sc : Scope}, chkE N c false e sc = true → ∀ d, c = .nth → d = D.non → False := fun h d z _ => by
    subst z; simp [chkE] at h
  refine AllE.plain (fun X sc G e h => ?_) (fun e sc h => ?_) (fun _ _ _ _ => rfl) (fun _ _ => rfl) (fun _ _ => rfl) (fun _ z => by cases z) rfl (fun _ z => by cases z)
  · simp only [chkE] at h
    split at h
    · simp only [Bool.and_eq_true] at h
      obtain ⟨⟨h1, h2⟩, h3⟩ := h
      refine e_slc G.K (ha.br G h1) ?_ ?_
      · split at h2
        · exact o_none
        · exact o_some (nn h2) (hb.pe X sc G _ h2)
        · cases h2
      · split at h3
        · exact o_none
        · exact o_some (nn h3) (hc.pe X sc G _ h3)
        · cases h3
    · cases h
  · simp only [chkE] at h
    split at h
    · exact plain_no rfl
    · cases h
end
end MW

end
section
set_option Elab.async false
set_option linter.all false
set_option maxRecDepth 100000
set_option maxHeartbeats 4000000
namespace MW
open PySem PySem.Spec PyProof.Rows L2
section
variable {fx : Fx} {P : Ctx} {N : List Str} {a b c d : E}
theorem GoodX.bl {X : Cx} {sc : Scope} (G : GoodX fx P N sc X) (x : String) (h : bnames.contains x = true) : X.mg (Str.ofString x) = none := G.blt x (by simpa using h)
theorem A_b1 (f : B1) (ha : AllE fx P N a) : AllE fx P N (.b1 f a) := by
  refine AllE.plain (fun X sc G e h => ?_) (fun e sc h => ?_) (fun _ _ _ _ => rfl) (fun _ _ => rfl) (fun _ _ => rfl) (fun _ z => by cases z) rfl (fun _ z => by cases z)
  · simp only [chkE] at h
    split at h
    · simp only [Bool.and_eq_true, decide_eq_true_eq, Bool.not_eq_true'] at h
      obtain ⟨⟨⟨rfl, h2⟩, h3⟩, h4⟩ := h
      exact e_b1 G.K G.calm (G.u 110 (by omega)) (ha.br G h3) (G.gl h2) (G.bl _ (by cases f <;> decide +kernel)) h4
    · cases h
  · simp only [chkE] at h
    split at h
    · exact plain_no rfl
    · cases h
theorem A_b2 (f : B2) (ha : AllE fx P N a) (hb : AllE fx P N b) : AllE fx P N (.b2 f a b) := by
  refine AllE.plain (fun X sc G e h => ?_) (fun e sc h => ?_) (fun _ _ _ _ => rfl) (fun _ _ => rfl) (fun _ _ => rfl) (fun _ z => by cases z) rfl (fun _ z => by cases z)
  · simp only [chkE] at h
    split at h
    · simp only [Bool.and_eq_true, decide_eq_true_eq, Bool.not_eq_true'] at h
      obtain ⟨⟨⟨⟨⟨rfl, h2⟩, h3⟩, h4⟩, h5⟩, h6⟩ := h
      exact e_b2 G.calm (ha.pe X sc G _ h3) (hb.pe X sc G _ h4) (G.gl h2) (G.bl _ (by cases f <;> decide +kernel)) h5 h6
    · cases h
  · simp only [chkE] at h
    split at h
    · exact plain_no rfl
    · cases h
theorem A_isi (t : Ty) (ha : AllE fx P N a) : AllE fx P N (.isi a t) := by
  refine AllE.plain (fun X sc G e h => ?_) (fun e sc h => ?_) (fun _ _ _ _ => rfl) (fun _ _ => rfl) (fun _ _ => rfl) (fun _ z => by cases z) rfl (fun _ z => by cases z)
  · simp only [chkE] at h
    split at h
    · simp only [Bool.and_eq_true, decide_eq_true_eq, Bool.not_eq_true'] at h
      obtain ⟨⟨⟨⟨⟨rfl, h2⟩, h3⟩, h4⟩, rfl⟩, h6⟩ := h
      exact e_isi G.K (ha.br G h3) (G.gl h2) (G.bl _ (by decide +kernel)) (G.gl h6) (G.bl _ (by cases t <;> decide +kernel)) h4
    · cases h
  · simp only [chkE] at h
    split at h
    · exact plain_no rfl
    · cases h
theorem A_m1 (m : String) (ha : AllE fx P N a) (hb : AllE fx P N b) : AllE fx P N (.m1 m a b) := by
  refine AllE.plain (fun X sc G e h => ?_) (fun e sc h => ?_) (fun _ _ _ _ => rfl) (fun _ _ => rfl) (fun _ _ => rfl) (fun _ z => by cases z) rfl (fun _ z => by cases z)
  · simp only [chkE] at h
    split at h
    · simp only [Bool.and_eq_true, decide_eq_true_eq, Bool.not_eq_true'] at h
      obtain ⟨⟨⟨⟨⟨⟨rfl, rfl⟩, h3⟩, h4⟩, h5⟩, h6⟩, h7⟩ := h
      exact e_get1 (G.u 1 (by omega)) (ha.br G h3) (hb.pe X sc G _ h4) (m1_ok h7 h5 h6 _)
    · cases h
  · simp only [chkE] at h
    split at h
    · exact plain_no rfl
    · cases h
theorem A_m2 (m : String) (ha : AllE fx P N a) (hb : AllE fx P N b) (hc : AllE fx P N c) : AllE fx P N (.m2 m a b c) := by
  refine AllE.plain (fun X sc G e h => ?_) (fun e sc h => ?_) (fun _ _ _ _ => rfl) (fun _ _ => rfl) (fun _ _ => rfl) (fun _ z => by cases z) rfl (fun _ z => by cases z)
  · simp only [chkE] at h
    split at h
    · simp only [Bool.and_eq_true, decide_eq_true_eq, Bool.not_eq_true'] at h
      obtain ⟨⟨⟨⟨⟨⟨⟨⟨rfl, rfl⟩, h3⟩, h4⟩, h5⟩, h6⟩, h7⟩, h8⟩, h9⟩ := h
      exact e_get2 (G.u 1 (by omega)) (ha.br G h3) (hb.pe X sc G _ h4) (hc.pe X sc G _ h5) (m2_ok h9 h6 h7 h8 _)
    · cases h
  · simp only [chkE] at h
    split at h
    · exact plain_no rfl
    · cases h
theorem noStars' {c : E} {es : List Expr} {sc : Scope} (h : chkA N c es sc = true) (env : PySem.Env) (pos : Pos) : ∀ e r, es = e :: r → starEach (e :: r) env = (false, eval e env) :: starEach r env ∧ (backTo pos (starEach r env)).any (·.1) = false := by
  rintro e r rfl
  cases c <;> first | (simp [chkA] at h; done) | skip
  simp only [chkA, Bool.and_eq_true, Bool.not_eq_true'] at h
  exact ⟨star_cons h.1.1 _ _, noStars h.2 env pos⟩
theorem A_call (f : String) (j : Nat) (ha : AllE fx P N a) : AllE fx P N (.call f a j) := by
  refine AllE.plain (fun X sc G e h => ?_) (fun e sc h => ?_) (fun _ _ _ _ => rfl) (fun _ _ => rfl) (fun _ _ => rfl) (fun _ z => by cases z) rfl (fun _ z => by cases z)
  · simp only [chkE] at h
    split at h
    · rename_i x p es pos
      simp only [Bool.and_eq_true, decide_eq_true_eq, Bool.not_eq_true'] at h
      obtain ⟨⟨⟨rfl, h2⟩, h3⟩, h4⟩ := h
      cases es with
      | nil =>
        have : a = .anil := by cases a <;> first | rfl | (simp [chkA] at h4; done)
        subst this
        exact e_call0 G (G.gl h2) (okName_is h3).1
      | cons e r =>
        obtain ⟨q1, q2⟩ := noStars' h4 X.env pos e r rfl
        exact e_callN G (ha.pa X sc G _ h4) (G.gl h2) (okName_is h3).1 q1 q2
    · cases h
  · simp only [chkE] at h
    split at h
    · exact plain_no rfl
    · cases h
theorem iter_noset {c : E} {m : Bool} {e : Expr} {sc : Scope} (h : chkE N c m e sc = true) : isSet e = false := by
  cases e <;> first | rfl | skip
  cases c <;> (simp [chkE, lc2P, dcvP] at h)
theorem A_lc (tg : T) (own : List Nat) {elt it test : E} (he : AllE fx P N elt) (hi : AllE fx P N it) (ht : AllE fx P N test) : AllE fx P N (.lc elt tg it test own) := by
  refine AllE.plain (fun X sc G e h => ?_) (fun e sc h => ?_) (fun _ _ _ _ => rfl) (fun _ _ => rfl) (fun _ _ => rfl) (fun _ z => by cases z) rfl (fun _ z => by cases z)
  · simp only [chkE] at h
    split at h
    · rename_i x t i ifs scope pos
      simp only [Bool.and_eq_true] at h
      obtain ⟨⟨⟨⟨⟨⟨h1, h2⟩, h3⟩, h4⟩, h5⟩, h6⟩, h7⟩ := h
      have ok := blkOk_by h1
      rw [← G.hsc, ← G.hN] at ok
      refine e_lc (N := N) (fun i hi => by simpa using List.all_eq_true.mp h5 i hi) (pe_lc G.calm (by rw [G.hN]; exact G.nd) (hi.pi true X sc G _ _ h2 h3) (by rw [G.hN] at ok ⊢; exact ok) ?_ ?_ ?_ (noFold (iter_noset h2) _))
      · exact fun s H C cl fp => (pg_all (X := X.blk s H scope (compEnvC scope cl C X.env) fp) (sc := scope) (N := N) G.hN G.nd G.K G.calm (blk_locs G s H C cl fp) tg).1 t h4
      · intro s H C cl fp
        have G' := G.blk scope ok.kind s H C cl fp
        split at h7
        · exact ts_nil
        · exact pts_one (ht.pt _ _ G' _ h7)
        · cases h7
      · exact fun s H C cl fp => he.pe _ _ (G.blk scope ok.kind s H C cl fp) _ h6
    · cases h
  · simp only [chkE] at h
    split at h
    · exact plain_no rfl
    · cases h
theorem A_lc2 (tg tg1 : T) (own own1 : List Nat) {elt it test it1 test1 : E} (he : AllE fx P N elt) (hi : AllE fx P N it) (ht : AllE fx P N test) (hi1 : AllE fx P N it1) (ht1 : AllE fx P N test1) : AllE fx P N (.lc2 elt tg it test tg1 it1 test1 own own1) := by
  refine AllE.plain (fun X sc G e h => ?_) (fun e sc h => ?_) (fun _ _ _ _ => rfl) (fun _ _ => rfl) (fun _ _ => rfl) (fun _ z => by cases z) rfl (fun _ z => by cases z)
  · simp only [chkE] at h
    split at h
    · rename_i q hq
      rw [lc2P_is hq]
      obtain ⟨x, t, i, ifs, t1, i1, ifs1, scope, pos⟩ := q
      simp only [Bool.and_eq_true] at h
      obtain ⟨⟨⟨⟨⟨⟨⟨⟨⟨⟨⟨⟨⟨h1, h2⟩, h3⟩, h4⟩, h5⟩, h5b⟩, k2⟩, k3⟩, knl⟩, k4⟩, k5⟩, h6⟩, h7⟩, k7⟩ := h
      have ok := blkOk_by h1
      rw [← G.hsc, ← G.hN] at ok
      refine e_lc2 (N := N) (fun i hi => by simpa using List.all_eq_true.mp h5 i hi) (fun i hi => by simpa using List.all_eq_true.mp k5 i hi) knl
        (pe_lc2 G.calm (by rw [G.hN]; exact G.nd) (hi.pi true X sc G _ _ h2 h3) (by rw [G.hN] at ok ⊢; exact ok) (fun i hi => by rw [own_map]; simpa using List.all_eq_true.mp h5b i hi) ?_ ?_ ?_ ?_ ?_ ?_ (noFold (iter_noset h2) _) (fun env => noFold (iter_noset k2) env))
      · exact fun s H C cl fp => (pg_all (X := X.blk s H scope (compEnvC scope cl C X.env) fp) (sc := scope) (N := N) G.hN G.nd G.K G.calm (blk_locs G s H C cl fp) tg).1 t h4
      · intro s H C cl fp
        have G' := G.blk scope ok.kind s H C cl fp
        split at h7
        · exact ts_nil
        · exact pts_one (ht.pt _ _ G' _ h7)
        · cases h7
      · exact fun s H C cl fp => hi1.pi false _ _ (G.blk scope ok.kind s H C cl fp) _ _ k2 k3
      · exact fun s H C cl fp => (pg_all (X := X.blk s H scope (compEnvC scope cl C X.env) fp) (sc := scope) (N := N) G.hN G.nd G.K G.calm (blk_locs G s H C cl fp) tg1).1 t1 k4
      · intro s H C cl fp
        have G' := G.blk scope ok.kind s H C cl fp
        split at k7
        · exact ts_nil
        · exact pts_one (ht1.pt _ _ G' _ k7)
        · cases k7
      · exact fun s H C cl fp => he.pe _ _ (G.blk scope ok.kind s H C cl fp) _ h6
    · cases h
  · simp only [chkE] at h
    split at h
    · rename_i q hq
      rw [lc2P_is hq]
      exact plain_no rfl
    · cases h
theorem A_dcv (tg : T) (i0 j0 : Nat) (own own1 : List Nat) {key val : E} (hk : AllE fx P N key) (he : AllE fx P N val) : AllE fx P N (.dcv key val i0 j0 tg own own1) := by
  have nm : ∀ {X : Cx} {sc : Scope} {i : Nat} {x : Str} {p : Pos}, GoodX fx P N sc X → chkN N i x sc = true → PE X (.Name x p) (tVar i) := fun {X sc i x p} G h => by
    unfold chkN at h
    simp only [Bool.and_eq_true, decide_eq_true_eq] at h
    obtain ⟨⟨h1, h2⟩, h3⟩ := h
    obtain ⟨q1, q2, q3⟩ := okName_is h3
    exact pe_var (by rw [G.hN]; exact h1) (G.vis h2) q1 q2
  refine AllE.plain (fun X sc G e h => ?_) (fun e sc h => ?_) (fun _ _ _ _ => rfl) (fun _ _ => rfl) (fun _ _ => rfl) (fun _ z => by cases z) rfl (fun _ z => by cases z)
  · simp only [chkE] at h
    split at h
    · rename_i q hq
      rw [dcvP_is hq]
      obtain ⟨x, y, t, tp, z, zp, f, ap, cp, t1, u, up, scope, pos⟩ := q
      simp only [Bool.and_eq_true, decide_eq_true_eq, Bool.not_eq_true'] at h
      obtain ⟨⟨⟨⟨⟨⟨⟨⟨⟨⟨⟨⟨⟨h1, rfl⟩, h3⟩, h4⟩, h5⟩, h6⟩, h7⟩, h8⟩, h9⟩, h10⟩, h11⟩, h12⟩, h13⟩, h14⟩ := h
      have ok := blkOk_by h1
      rw [← G.hsc, ← G.hN] at ok
      refine e_dcv (N := N) (by simpa using h7) (by simpa using h10) (fun i hi => by simpa using List.all_eq_true.mp h12 i hi)
        (pe_dc2 G.calm (by rw [G.hN]; exact G.nd) (pi_values (nm G h4) rfl (by simp [h3])) (by rw [G.hN] at ok ⊢; exact ok) (fun i hi => by rw [own_map]; simpa using List.all_eq_true.mp h9 i hi) ?_ ?_ ?_ ?_ (fun _ => rfl) ?_ ?_ ?_ (fun _ _ => rfl))
      · intro s H C cl fp
        obtain ⟨q1, q2⟩ := blk_locs G s H C cl fp t h6
        exact pg_name (X := X.blk s H scope (compEnvC scope cl C X.env) fp) (by rw [G.hN]; exact G.nd) (by rw [G.hN]; exact h5) q1 q2
      · exact fun s H C cl fp => pts_nil
      · exact fun s H C cl fp => hk.pe _ _ (G.blk scope ok.kind s H C cl fp) _ h13
      · exact fun s H C cl fp => he.pe _ _ (G.blk scope ok.kind s H C cl fp) _ h14
      · exact fun s H C cl fp => pi_keys (nm (G.blk scope ok.kind s H C cl fp) h8)
      · exact fun s H C cl fp => (pg_all (X := X.blk s H scope (compEnvC scope cl C X.env) fp) (sc := scope) (N := N) G.hN G.nd G.K G.calm (blk_locs G s H C cl fp) tg).1 t1 h11
      · exact fun s H C cl fp => pts_nil
    · cases h
  · simp only [chkE] at h
    split at h
    · rename_i q hq
      rw [dcvP_is hq]
      exact plain_no rfl
    · cases h
theorem A_dc (tg : T) (own : List Nat) {key val it test : E} (hk : AllE fx P N key) (he : AllE fx P N val) (hi : AllE fx P N it) (ht : AllE fx P N test) : AllE fx P N (.dc key val tg it test own) := by
  refine AllE.plain (fun X sc G e h => ?_) (fun e sc h => ?_) (fun _ _ _ _ => rfl) (fun _ _ => rfl) (fun _ _ => rfl) (fun _ z => by cases z) rfl (fun _ z => by cases z)
  · simp only [chkE] at h
    split at h
    · rename_i x y t i ifs scope pos
      simp only [Bool.and_eq_true] at h
      obtain ⟨⟨⟨⟨⟨⟨⟨h1, h2⟩, h3⟩, h4⟩, h5⟩, h6⟩, h8⟩, h7⟩ := h
      have ok := blkOk_by h1
      rw [← G.hsc, ← G.hN] at ok
      refine e_dc (N := N) (fun i hi => by simpa using List.all_eq_true.mp h5 i hi) (pe_dc G.calm (by rw [G.hN]; exact G.nd) (hi.pi true X sc G _ _ h2 h3) (by rw [G.hN] at ok ⊢; exact ok) ?_ ?_ ?_ ?_ (noFold (iter_noset h2) _))
      · exact fun s H C cl fp => (pg_all (X := X.blk s H scope (compEnvC scope cl C X.env) fp) (sc := scope) (N := N) G.hN G.nd G.K G.calm (blk_locs G s H C cl fp) tg).1 t h4
      · intro s H C cl fp
        have G' := G.blk scope ok.kind s H C cl fp
        split at h7
        · exact ts_nil
        · exact pts_one (ht.pt _ _ G' _ h7)
        · cases h7
      · exact fun s H C cl fp => hk.pe _ _ (G.blk scope ok.kind s H C cl fp) _ h6
      · exact fun s H C cl fp => he.pe _ _ (G.blk scope ok.kind s H C cl fp) _ h8
    · cases h
  · simp only [chkE] at h
    split at h
    · exact plain_no rfl
    · cases h
theorem A_sitems (ha : AllE fx P N a) : AllE fx P N (.sitems a) := by
  refine AllE.plain (fun X sc G e h => ?_) (fun e sc h => ?_) (fun _ _ _ _ => rfl) (fun _ _ => rfl) (fun _ _ => rfl) (fun _ z => by cases z) rfl (fun _ z => by cases z)
  · simp only [chkE] at h
    split at h
    · simp only [Bool.and_eq_true, decide_eq_true_eq, Bool.not_eq_true'] at h
      obtain ⟨⟨⟨⟨⟨rfl, h2⟩, rfl⟩, h4⟩, h5⟩, h6⟩ := h
      exact e_sitems G.K G.calm (G.u 110 (by omega)) (ha.pe X sc G _ h4) (G.gl h2) (G.bl _ (by decide +kernel)) h6 h5
    · cases h
  · simp only [chkE] at h
    split at h
    · exact plain_no rfl
    · cases h
theorem false_iter {c : E} (h : ∀ e sc, chkE N c false e sc = true → False) : ∀ e sc, chkE N c false e sc = false := fun e sc => by
  cases q : chkE N c false e sc with
  | false => rfl
  | true => exact (h e sc q).elim
theorem A_rng1 (ha : AllE fx P N a) : AllE fx P N (.rng1 a) := by
  refine AllE.iter (false_iter fun e sc h => ?_) (fun _ _ => rfl) (fun _ z => by cases z) (fun own X sc G e t h ho => ?_)
  · simp only [chkE] at h
    split at h <;> simp at h
  · simp only [chkE] at h
    split at h
    · simp only [Bool.and_eq_true, decide_eq_true_eq, Bool.not_eq_true', Bool.true_and] at h
      obtain ⟨⟨⟨rfl, h2⟩, h3⟩, h4⟩ := h
      exact i_rng1 (G.gl h2) (G.bl _ (by decide +kernel)) (ha.pe X sc G _ h3) h4
    · cases h
theorem A_rng2 (ha : AllE fx P N a) (hb : AllE fx P N b) : AllE fx P N (.rng2 a b) := by
  refine AllE.iter (false_iter fun e sc h => ?_) (fun _ _ => rfl) (fun _ z => by cases z) (fun own X sc G e t h ho => ?_)
  · simp only [chkE] at h
    split at h <;> simp at h
  · simp only [chkE] at h
    split at h
    · simp only [Bool.and_eq_true, decide_eq_true_eq, Bool.not_eq_true', Bool.true_and] at h
      obtain ⟨⟨⟨⟨⟨rfl, h2⟩, h3⟩, h4⟩, h5⟩, h6⟩ := h
      exact i_rng2 (G.gl h2) (G.bl _ (by decide +kernel)) (ha.pe X sc G _ h3) (hb.pe X sc G _ h4) h5 h6
    · cases h
theorem A_rng3 (ha : AllE fx P N a) (hb : AllE fx P N b) (hc : AllE fx P N c) : AllE fx P N (.rng3 a b c) := by
  refine AllE.iter (false_iter fun e sc h => ?_) (fun _ _ => rfl) (fun _ z => by cases z) (fun own X sc G e t h ho => ?_)
  · simp only [chkE] at h
    split at h <;> simp at h
  · simp only [chkE] at h
    split at h
    · simp only [Bool.and_eq_true, decide_eq_true_eq, Bool.not_eq_true', Bool.true_and] at h
      obtain ⟨⟨⟨⟨⟨⟨⟨rfl, h2⟩, h3⟩, h4⟩, h5⟩, h6⟩, h7⟩, h8⟩ := h
      exact i_rng3 (G.gl h2) (G.bl _ (by decide +kernel)) (ha.pe X sc G _ h3) (hb.pe X sc G _ h4) (hc.pe X sc G _ h5) h6 h7 h8
    · cases h
theorem A_enum (ha : AllE fx P N a) : AllE fx P N (.enum a) := by
  refine AllE.iter (false_iter fun e sc h => ?_) (fun _ _ => rfl) (fun _ z => by cases z) (fun own X sc G e t h ho => ?_)
  · simp only [chkE] at h
    split at h <;> simp at h
  · simp only [chkE] at h
    split at h
    · simp only [Bool.and_eq_true, decide_eq_true_eq, Bool.not_eq_true', Bool.true_and] at h
      obtain ⟨⟨⟨rfl, h2⟩, h3⟩, h4⟩ := h
      cases t <;> first | (simp [itOk] at ho; done) | skip
      exact i_enum G.K (G.gl h2) (G.bl _ (by decide +kernel)) (ha.pe X sc G _ h3) (ha.pv X sc G _ h3) h4
    · cases h
theorem A_zip (ha : AllE fx P N a) (hb : AllE fx P N b) : AllE fx P N (.zip a b) := by
  refine AllE.iter (false_iter fun e sc h => ?_) (fun _ _ => rfl) (fun _ z => by cases z) (fun own X sc G e t h ho => ?_)
  · simp only [chkE] at h
    split at h <;> simp at h
  · simp only [chkE] at h
    split at h
    · simp only [Bool.and_eq_true, decide_eq_true_eq, Bool.not_eq_true', Bool.true_and] at h
      obtain ⟨⟨⟨⟨⟨rfl, h2⟩, h3⟩, h4⟩, h5⟩, h6⟩ := h
      cases t <;> first | (simp [itOk] at ho; done) | skip
      exact i_zip G.K (G.gl h2) (G.bl _ (by decide +kernel)) (ha.pe X sc G _ h3) (hb.pe X sc G _ h4) h5 h6
    · cases h
theorem v_super {i : Nat} {m : Bool} {e : Expr} {sc : Scope} (h : chkE N (.v i) m e sc = true) : superB e = true := by
  cases e <;> first | rfl | (simp [chkE] at h; done)
theorem A_items (ha : AllE fx P N a) : AllE fx P N (.items a) := by
  refine AllE.iter (false_iter fun e sc h => ?_) (fun _ _ => rfl) (fun _ z => by cases z) (fun own X sc G e t h ho => ?_)
  · simp only [chkE] at h
    split at h <;> simp at h
  · simp only [chkE] at h
    split at h
    · simp only [Bool.and_eq_true, decide_eq_true_eq, Bool.not_eq_true', Bool.true_and] at h
      obtain ⟨⟨⟨rfl, h2⟩, h3⟩, h4⟩ := h
      cases t <;> first | (simp [itOk] at ho; done) | skip
      cases a <;> first | (simp [isV] at h2; done) | skip
      exact i_items (ha.pv X sc G _ h3 _ rfl) (v_super h3) h4
    · cases h
theorem A_values (ha : AllE fx P N a) : AllE fx P N (.values a) := by
  refine AllE.iter (false_iter fun e sc h => ?_) (fun _ _ => rfl) (fun _ z => by cases z) (fun own X sc G e t h ho => ?_)
  · simp only [chkE] at h
    split at h <;> simp at h
  · simp only [chkE] at h
    split at h
    · simp only [Bool.and_eq_true, decide_eq_true_eq, Bool.not_eq_true', Bool.true_and] at h
      obtain ⟨⟨⟨rfl, h2⟩, h3⟩, h4⟩ := h
      cases a <;> first | (simp [isV] at h2; done) | skip
      exact i_values (ha.pv X sc G _ h3 _ rfl) (v_super h3) h4
    · cases h
theorem allE : ∀ c : E, AllE fx P N c := by
  intro c
  induction c with
  | v i => exact A_v i
  | gv x => exact A_gv x
  | k d => exact A_k d
  | bin o a b ha hb => exact A_bin o ha hb
  | neg a ha => exact A_neg ha
  | not a ha => exact A_not ha
  | cmp o a b ha hb => exact A_cmp o ha hb
  | cmp2 o o' a b d ha hb hd => exact A_cmp2 o o' ha hb hd
  | and a b ha hb => exact A_and ha hb
  | or a b ha hb => exact A_or ha hb
  | ite t a b ht ha hb => exact A_ite ht ha hb
  | anil => exact A_anil
  | acons a b ha hb => exact A_acons ha hb
  | tup a ha => exact A_tup ha
  | lst a ha => exact A_lst ha
  | dK => exact A_dK
  | dT => exact A_dT
  | disp a b _ _ => exact A_none _ (fun _ _ _ => rfl) (fun _ _ => rfl)
  | idx a b ha hb => exact A_idx ha hb
  | slc a b c ha hb hc => exact A_slc ha hb hc
  | nth => exact A_none _ (fun _ _ _ => rfl) (fun _ _ => rfl)
  | call f a j ha => exact A_call f j ha
  | b1 f a ha => exact A_b1 f ha
  | b2 f a b ha hb => exact A_b2 f ha hb
  | isi a t ha => exact A_isi t ha
  | m1 m a b ha hb => exact A_m1 m ha hb
  | m2 m a b c ha hb hc => exact A_m2 m ha hb hc
  | lc elt tg it test own he hi ht => exact A_lc tg own he hi ht
  | lc2 elt tg it test tg1 it1 test1 own own1 he hi ht hi1 ht1 => exact A_lc2 tg tg1 own own1 he hi ht hi1 ht1
  | dcv key val i0 j0 tg own own1 hk he => exact A_dcv tg i0 j0 own own1 hk he
  | dc key val tg it test own hk hv hi ht => exact A_dc tg own hk hv hi ht
  | rng1 a ha => exact A_rng1 ha
  | rng2 a b ha hb => exact A_rng2 ha hb
  | rng3 a b c ha hb hc => exact A_rng3 ha hb hc
  | enum a ha => exact A_enum ha
  | zip a b ha hb => exact A_zip ha hb
  | items a ha => exact A_items ha
  | values a ha => exact A_values ha
  | sitems a ha => exact A_sitems ha
  | fld a f _ => exact A_none _ (fun _ _ _ => rfl) (fun _ _ => rfl)
end
end MW

end
section
set_option Elab.async false
set_option linter.all false
set_option maxRecDepth 100000
set_option maxHeartbeats 4000000
namespace MW
open PySem PySem.Spec PyProof.Rows L2

/-! ### objects that are being built -/
theorem SR.slotO {fx : Fx} {lk : Lk} {σ : L2.St} {F H : Hp} {ρ : Env} {g : G} (I : SR fx lk σ F H ρ g) (i : Nat) {d : D} {p : Addr} (hi : i < ρ.length) (h1 : F p = none) (h2 : p ≠ fx.ap) (h3 : fx.H0 p = none) (h4 : OwnOk fx F H d p)
    (h5 : ∀ (j : Nat) (e : D) (q : Addr), ρ[j]? = some (.own e) → σ[j]? = some (some (.ref q)) → q ≠ p) : SR fx lk (σ.set i (some (.ref p))) F H (ρ.set i (.own d)) g := by
  have hs : (σ.set i (some (.ref p)))[i]? = some (some (.ref p)) := by rw [List.getElem?_set_self (by rw [I.len]; exact hi)]
  refine ⟨I.exF, I.ex0, I.base, I.lock, I.new, by simp [I.len], fun j s e => ?_, fun j k d0 e q z1 z2 z3 z4 => ?_, I.pool, I.fz⟩
  · by_cases h : i = j
    · subst h
      rw [List.getElem?_set_self hi] at e; cases e
      exact ⟨p, hs, h1, h2, h3, h4⟩
    · rw [List.getElem?_set_ne h] at e ⊢
      exact I.sl j s e
  · by_cases hj : i = j
    · subst hj
      by_cases hk : i = k
      · exact hk
      · rw [hs] at z3; cases z3
        rw [List.getElem?_set_ne hk] at z2 z4
        exact (h5 _ _ _ z2 z4 rfl).elim
    · by_cases hk : i = k
      · subst hk
        rw [hs] at z4; cases z4
        rw [List.getElem?_set_ne hj] at z1 z3
        exact (h5 _ _ _ z1 z3 rfl).elim
      · rw [List.getElem?_set_ne hj] at z1 z3
        rw [List.getElem?_set_ne hk] at z2 z4
        exact I.dis _ _ _ _ _ z1 z2 z3 z4
/-- a new object, not yet still -/
theorem SR.fresh {fx : Fx} {lk : Lk} {σ : L2.St} {F H : Hp} {ρ : Env} {g : G} (I : SR fx lk σ F H ρ g) {p : Addr} (hp : H p = none) (o : HO) :
    SR fx lk σ F (upd H p o) ρ g ∧ F p = none ∧ p ≠ fx.ap ∧ fx.H0 p = none ∧ ∀ (j : Nat) (e : D) (q : Addr), ρ[j]? = some (.own e) → σ[j]? = some (some (.ref q)) → q ≠ p := by
  have hF : F p = none := I.exF.free hp
  have hA : p ≠ fx.ap := fun z => by
    obtain ⟨_, b, _, hb⟩ := I.pool
    rw [z, hb] at hp; cases hp
  have hl : p ∉ lk.map (·.1) := fun h => by
    obtain ⟨e, he, rfl⟩ := List.mem_map.mp h
    rw [(I.lock e he).1] at hp; cases hp
  have h0 : fx.H0 p = none := by
    cases q : fx.H0 p with
    | none => rfl
    | some u => rw [I.base p u hA hl q] at hp; cases hp
  have kp : ∀ a o', H a = some o' → upd H p o a = some o' := fun a o' q => by rw [upd_ne (fun z => by rw [z, hp] at q; cases q)]; exact q
  refine ⟨⟨fun a u q => ?_, I.ex0, fun a u n1 n2 q => kp _ _ (I.base a u n1 n2 q), fun e he => ?_, I.new, I.len, fun i s e => ?_, I.dis, ⟨I.pool.1, ?_⟩, fun a u od u' z1 z2 z3 => ?_⟩, hF, hA, h0, fun j e q z1 z2 z3 => ?_⟩
  · rcases I.exF a u q with z | ⟨z, od, y⟩
    · exact .inl (kp _ _ z)
    · exact .inr ⟨z, od, kp _ _ y⟩
  · obtain ⟨h1, h2, h3, h4⟩ := I.lock e he
    exact ⟨kp _ _ h1, h2, h3, h4⟩
  · have k := I.sl i s e
    cases s with
    | no => trivial
    | val d => exact k
    | own d =>
      obtain ⟨q, h1, h2, h3, h4, h5⟩ := k
      exact ⟨q, h1, h2, h3, h4, h5.mono (Ex.refl _) fun o' => kp _ _⟩
  · obtain ⟨a, h2, h3⟩ := I.pool.2
    exact ⟨a, h2, kp _ _ h3⟩
  · rw [upd_ne (fun z => by rw [z, hF] at z1; cases z1)] at z3
    exact I.fz a u od u' z1 z2 z3
  · subst z3
    have k := I.sl _ _ z1
    obtain ⟨q', h1, h2, h3, h4, h5⟩ := k
    rw [z2] at h1; cases h1
    obtain ⟨o', ho⟩ := h5.there
    rw [ho] at hp; cases hp
/-- an object that is being built is written -/
theorem SR.write {fx : Fx} {lk : Lk} {σ : L2.St} {F H : Hp} {ρ : Env} {g : G} (I : SR fx lk σ F H ρ g) {i : Nat} {d d' : D} {p : Addr} {o : HO} (hi : ρ[i]? = some (.own d)) (hs : σ[i]? = some (some (.ref p))) (h4 : OwnOk fx F (upd H p o) d' p) : SR fx lk σ F (upd H p o) (ρ.set i (.own d')) g := by
  obtain ⟨q, h1, hF, hA, h0, h5⟩ := I.sl _ _ hi
  rw [hs] at h1; cases h1
  have hlt : i < ρ.length := (List.getElem?_eq_some_iff.mp hi).1
  have kp : ∀ a, a ≠ p → upd H p o a = H a := fun a n => upd_ne n
  have own' : ∀ {j : Nat} {e : D}, (ρ.set i (Slot.own d'))[j]? = some (.own e) → ∃ e', ρ[j]? = some (.own e') := fun {j e} z => by
    by_cases h : i = j
    · subst h; exact ⟨_, hi⟩
    · rw [List.getElem?_set_ne h] at z; exact ⟨_, z⟩
  refine ⟨fun a u q => ?_, I.ex0, fun a u n1 n2 q => ?_, fun e he => ?_, I.new, by simp [I.len], fun j s e => ?_, fun j k d0 e q z1 z2 z3 z4 => ?_, ⟨I.pool.1, ?_⟩, fun a u od u' z1 z2 z3 => ?_⟩
  · rw [kp a (fun z => by rw [z, hF] at q; cases q)]; exact I.exF a u q
  · rw [kp a (fun z => by rw [z, h0] at q; cases q)]; exact I.base a u n1 n2 q
  · obtain ⟨h1, h2, h3, h4⟩ := I.lock e he
    exact ⟨by rw [kp _ (fun z => by rw [z, hF] at h2; cases h2)]; exact h1, h2, h3, h4⟩
  · by_cases h : i = j
    · subst h
      rw [List.getElem?_set_self hlt] at e; cases e
      exact ⟨p, hs, hF, hA, h0, h4⟩
    · rw [List.getElem?_set_ne h] at e
      have k := I.sl j s e
      cases s with
      | no => trivial
      | val d => exact k
      | own d2 =>
        obtain ⟨q, q1, q2, q3, q4, q5⟩ := k
        refine ⟨q, q1, q2, q3, q4, q5.mono (Ex.refl _) fun o' y => ?_⟩
        rw [kp q (fun z => by subst z; exact h (I.dis _ _ _ _ _ hi e hs q1))]; exact y
  · obtain ⟨_, y1⟩ := own' z1
    obtain ⟨_, y2⟩ := own' z2
    exact I.dis _ _ _ _ _ y1 y2 z3 z4
  · obtain ⟨a, h2, h3⟩ := I.pool.2
    exact ⟨a, h2, by rw [kp _ (Ne.symm hA)]; exact h3⟩
  · rw [kp a (fun z => by rw [z, hF] at z1; cases z1)] at z3
    exact I.fz a u od u' z1 z2 z3
/-! ### ghosts -/
theorem SR.drop1 {fx : Fx} {lk : Lk} {σ : L2.St} {F H : Hp} {ρ : Env} {g : G} (I : SR fx lk σ F H ρ g) (i : Nat) : SR fx lk σ F H (ρ.set i .no) g := by
  have ne : ∀ {j : Nat} {d : D}, (ρ.set i Slot.no)[j]? = some (.own d) → ρ[j]? = some (.own d) := fun {j d} e => by
    by_cases h : i = j
    · subst h
      by_cases hi : i < ρ.length
      · rw [List.getElem?_set_self hi] at e; cases e
      · rw [List.getElem?_eq_none (by simpa using hi)] at e; cases e
    · rw [List.getElem?_set_ne h] at e; exact e
  refine ⟨I.exF, I.ex0, I.base, I.lock, I.new, by simp [I.len], fun j s e => ?_, fun j k d e p h1 h2 h3 h4 => I.dis j k d e p (ne h1) (ne h2) h3 h4, I.pool, I.fz⟩
  by_cases h : i = j
  · subst h
    by_cases hi : i < ρ.length
    · rw [List.getElem?_set_self hi] at e; cases e; trivial
    · rw [List.getElem?_eq_none (by simpa using hi)] at e; cases e
  · rw [List.getElem?_set_ne h] at e
    exact I.sl j s e
theorem SR.drops {fx : Fx} {lk : Lk} {σ : L2.St} {F H : Hp} {ρ : Env} {g : G} (I : SR fx lk σ F H ρ g) : ∀ is : List Nat, SR fx lk σ F H (wipeE is ρ) g
  | [] => I
  | i :: is => (I.drops is).drop1 i
/-- an object is built: it is still from now on -/
theorem SR.frz1 {fx : Fx} {lk : Lk} {σ : L2.St} {F H : Hp} {ρ : Env} {g : G} (I : SR fx lk σ F H ρ g) {i : Nat} {d : D} (hi : ρ[i]? = some (.own d)) : ∃ F', Ex F F' ∧ SR fx lk σ F' H (ρ.set i (.val d)) g := by
  obtain ⟨p, h1, hF, hA, h0, h5⟩ := I.sl _ _ hi
  have hlt : i < ρ.length := (List.getElem?_eq_some_iff.mp hi).1
  obtain ⟨o, ho⟩ := h5.there
  have e : Ex F (upd F p o) := Ex.new hF
  refine ⟨_, e, ?_⟩
  have rep : Rep fx.K fx.ap (upd F p o) d (.ref p) := by
    cases d with
    | lst ds =>
      obtain ⟨vs, z1, z2⟩ := h5
      rw [ho] at z1; cases z1
      exact .lst upd_same (z2.mono e)
    | dct t ks vs =>
      cases t with
      | false =>
        obtain ⟨kvs, z1, z2, z3⟩ := h5
        rw [ho] at z1; cases z1
        exact .dctK upd_same z2 (z3.mono e)
      | true =>
        obtain ⟨kvs, z1, z2, z3⟩ := h5
        rw [ho] at z1; cases z1
        exact .dctT upd_same z2 (z3.mono e)
    | _ => exact h5.elim
  have nfz : ∀ (od : Obj) (u : HO), o ≠ .frz od u := fun od u z => by
    subst z
    cases d with
    | lst ds => obtain ⟨vs, z1, z2⟩ := h5; rw [ho] at z1; cases z1
    | dct t ks vs =>
      cases t with
      | false => obtain ⟨kvs, z1, z2, z3⟩ := h5; rw [ho] at z1; cases z1
      | true => obtain ⟨kvs, z1, z2, z3⟩ := h5; rw [ho] at z1; cases z1
    | _ => exact h5.elim
  have own' : ∀ {j : Nat} {e : D}, (ρ.set i (Slot.val d))[j]? = some (.own e) → i ≠ j ∧ ρ[j]? = some (.own e) := fun {j e} z => by
    by_cases h : i = j
    · subst h; rw [List.getElem?_set_self hlt] at z; cases z
    · rw [List.getElem?_set_ne h] at z; exact ⟨h, z⟩
  refine ⟨fun a u q => ?_, I.ex0.trans e, I.base, fun l hl => ?_, fun a u q => ?_, by simp [I.len], fun j s z => ?_, fun j k d0 e0 q z1 z2 z3 z4 => I.dis _ _ _ _ _ (own' z1).2 (own' z2).2 z3 z4, ⟨?_, ?_⟩, fun a u od u' z1 z2 z3 => ?_⟩
  · by_cases z : a = p
    · subst z; rw [upd_same] at q; cases q; exact .inl ho
    · rw [upd_ne z] at q; exact I.exF a u q
  · obtain ⟨q1, q2, q3, q4⟩ := I.lock l hl
    exact ⟨q1, e _ _ q2, q3, q4⟩
  · by_cases z : a = p
    · subst z; exact .inr h0
    · rw [upd_ne z] at q; exact I.new a u q
  · by_cases h : i = j
    · subst h
      rw [List.getElem?_set_self hlt] at z; cases z
      exact ⟨_, h1, rep⟩
    · rw [List.getElem?_set_ne h] at z
      have k := I.sl j s z
      cases s with
      | no => trivial
      | val d => obtain ⟨v, q1, q2⟩ := k; exact ⟨v, q1, q2.mono e⟩
      | own d2 =>
        obtain ⟨q, q1, q2, q3, q4, q5⟩ := k
        refine ⟨q, q1, ?_, q3, q4, q5.mono e fun _ y => y⟩
        rw [upd_ne (fun y => by subst y; exact h (I.dis _ _ _ _ _ hi z h1 q1))]; exact q2
  · rw [upd_ne (Ne.symm hA)]; exact I.pool.1
  · obtain ⟨a, h2, h3⟩ := I.pool.2
    exact ⟨a, SqL.monoF e h2, h3⟩
  · by_cases z : a = p
    · subst z; rw [ho] at z3; cases z3; exact (nfz _ _ rfl).elim
    · rw [upd_ne z] at z1; exact I.fz a u od u' z1 z2 z3
theorem SR.frzs {fx : Fx} {lk : Lk} {σ : L2.St} {H : Hp} {ρ : Env} {g : G} : ∀ (is : List Nat) {F : Hp}, SR fx lk σ F H ρ g → ∃ F', Ex F F' ∧ SR fx lk σ F' H (frzE is ρ) g
  | [], F, I => ⟨F, Ex.refl _, I⟩
  | i :: is, F, I => by
    obtain ⟨F1, e1, I1⟩ := SR.frzs is I
    simp only [frzE]
    split
    · rename_i d hd
      obtain ⟨F2, e2, I2⟩ := I1.frz1 hd
      exact ⟨F2, e1.trans e2, I2⟩
    · exact ⟨F1, e1, I1⟩
end MW

end
section
set_option Elab.async false
set_option linter.all false
set_option maxRecDepth 100000
set_option maxHeartbeats 4000000
namespace MW
open PySem PySem.Spec PyProof.Rows L2

/-! ### do statements tell what the text says? -/
section
variable (N : List Str)
/-- a new object's display -/
def chkO : E → Expr → Scope → Bool
  | .lst as, e, sc => match e with | .List es _ => chkA N as es sc | _ => false
  | .dK, e, _ => match e with | .Dict [] [] _ => true | _ => false
  | .dT, e, _ => match e with | .Dict [] [] _ => true | _ => false
  | _, _, _ => false
def isTup : Expr → Bool | .Tuple _ _ _ => true | _ => false
/-- a comprehension that is stored where it is made -/
def swapB (e : Expr) (x : Str) (px : Pos) (sc : Scope) : Bool := match e with
  | .ListComp _ _ scope pos => decide (sc.names.lookup x = some .local) && (px.line == pos.line) && !(scope.names.any fun (n, k) => n == x && (k == .local || k == .cell))
  | .DictComp _ _ _ scope pos => decide (sc.names.lookup x = some .local) && (px.line == pos.line) && !(scope.names.any fun (n, k) => n == x && (k == .local || k == .cell))
  | _ => false
def plainSw (e : Expr) (x : Str) (px : Pos) (sc : Scope) : Bool := match e with
  | .ListComp _ _ scope pos => !decide (sc.names.lookup x = some .local) || !(px.line == pos.line)
  | .DictComp _ _ _ scope pos => !decide (sc.names.lookup x = some .local) || !(px.line == pos.line)
  | .SetComp _ _ _ _ => false
  | _ => true
/-- a, b = x, y: two plain names, values that are not all constants -/
def parB (e : Expr) (t : Expr) (sc : Scope) : Bool := match t, e with
  | .Tuple [.Name x px, .Name y py] _ _, .Tuple [a, b] _ _ => decide (sc.names.lookup x = some .local) && decide (sc.names.lookup y = some .local) && (py.line == px.line) && !(x == y) && !isStar a && !isStar b &&
      !(foldedForSure 8 a && foldedForSure 8 b) && !(constantsAlone 8 a && constantsAlone 8 b)
  | _, _ => false
def asgB (e : Expr) (t : Expr) (sc : Scope) : Bool := match t with
  | .Name x px => plainSw e x px sc || (swapB e x px sc && isLc e)
  | .Tuple _ _ _ => !isTup e || parB e t sc
  | _ => false
where
  isLc : Expr → Bool | .ListComp _ _ _ _ => true | .DictComp _ _ [_] _ _ => true | _ => false
mutual
def chkC : C → Stmt → Scope → Bool
  | .asg t e, st, sc => match st with
    | .Assign [tg] v _ => asgB v tg sc && chkT N t tg sc && chkE N e false v sc
    | _ => false
  | .own i e, st, sc => match st with
    | .Assign [.Name x _] v _ => decide (N[i]? = some x) && locB sc x && chkO N e v sc
    | _ => false
  | .app i e, st, sc => match st with
    | .Expr (.Call (.Attribute (.Name x _) f apos) [y] [] cpos) _ => decide (f = Str.ofString "append") && decide (N[i]? = some x) && visB sc x && okName x && chkE N e false y sc && !isStar y && decide (apos.endLine = cpos.line)
    | _ => false
  | .ext i e, st, sc => match st with
    | .Expr (.Call (.Attribute (.Name x _) f apos) [y] [] cpos) _ => decide (f = Str.ofString "extend") && decide (N[i]? = some x) && visB sc x && okName x && chkE N e false y sc && !isStar y && decide (apos.endLine = cpos.line)
    | _ => false
  | .put i k v, st, sc => match st with
    | .Assign [.Subscript (.Name x _) ke _] ve _ => decide (N[i]? = some x) && visB sc x && okName x && chkE N k false ke sc && chkE N v false ve sc
    | _ => false
  | .ex e, st, sc => match st with
    | .Expr v _ => !isComp v && chkE N e false v sc
    | _ => false
  | .aug i o e, st, sc => match st with
    | .AugAssign (.Name x _) op v _ => decide (N[i]? = some x) && locB sc x && opB o op && (match o with | .add => true | .sub => true | _ => false) && chkE N e false v sc
    | _ => false
  | .if_ t a b, st, sc => match st with
    | .If c p q _ => chkE N t false c sc && chkB a p sc && chkB b q sc
    | _ => false
  | .for_ t it body, st, sc => match st with
    | .For tg i p [] _ => chkE N it true i sc && itOk it tg && chkT N t tg sc && chkB body p sc
    | _ => false
  | .while_ t body, st, sc => match st with
    | .While c p [] _ => chkE N t false c sc && chkB body p sc
    | _ => false
  | .ret e, st, sc => match st with
    | .Return (some v) _ => chkE N e false v sc
    | _ => false
  | .retN, st, _ => match st with
    | .Return none _ => true
    | _ => false
  | .pass, st, _ => match st with
    | .Pass _ => true
    | _ => false
  | .brk, st, _ => match st with
    | .Break _ => true
    | _ => false
  | .cont, st, _ => match st with
    | .Continue _ => true
    | _ => false
  | _, _, _ => false
def chkB : C → List Stmt → Scope → Bool
  | .nil, sts, _ => match sts with | [] => true | _ :: _ => false
  | .seq a r, sts, sc => match a with
    | .frz _ => chkB r sts sc
    | .drop _ => chkB r sts sc
    | a => match sts with
      | st :: rest => chkC a st sc && chkB r rest sc
      | [] => false
  | _, _, _ => false
end
end
/-! ### the reading of statements -/
section
variable {fx : Fx} {P : Ctx} {X : Cx} {N : List Str} {sc : Scope}
def KC (fx : Fx) (lk : Lk) (F0 : Hp) (D : Ends) (o : Out) (g' : G) : Prop := match o with
  | .nx ρ' => ∀ σ' H' F', SR fx lk σ' F' H' ρ' g' → Ex F0 F' → D.nx σ' H'
  | .bk ρ' => ∀ σ' H' F', SR fx lk σ' F' H' ρ' g' → Ex F0 F' → D.bk σ' H'
  | .ct ρ' => ∀ σ' H' F', SR fx lk σ' F' H' ρ' g' → Ex F0 F' → D.ct σ' H'
  | .rt d => ∀ v σ' ρ' H' F', SR fx lk σ' F' H' ρ' g' → Ex F0 F' → Rep fx.K fx.ap F' d v → D.rt v H'
theorem KC.mono {lk : Lk} {F0 F1 : Hp} {D : Ends} {o : Out} {g : G} (e : Ex F0 F1) (k : KC fx lk F0 D o g) : KC fx lk F1 D o g := by
  cases o with
  | nx ρ => exact fun σ' H' F' I e' => k σ' H' F' I (e.trans e')
  | bk ρ => exact fun σ' H' F' I e' => k σ' H' F' I (e.trans e')
  | ct ρ => exact fun σ' H' F' I e' => k σ' H' F' I (e.trans e')
  | rt d => exact fun v σ' ρ' H' F' I e' => k v σ' ρ' H' F' I (e.trans e')
def tC (fx : Fx) (P : Ctx) (c : C) : TS := fun D σ H => ∃ lk F ρ g, SR fx lk σ F H ρ g ∧ Acc (KC fx lk F D) noX (evalC P c ρ g)
theorem _root_.L2.PS.weak {X : Cx} {e : Stmt} {t t' : TS} (h : PS X e t) (w : ∀ D σ H, t' D σ H → t D σ H) : PS X e t' := ⟨fun pins s σ H D I q => h.run pins s σ H D I (w D σ H q)⟩
theorem _root_.L2.PSs.weak {X : Cx} {e : List Stmt} {t t' : TS} (h : PSs X e t) (w : ∀ D σ H, t' D σ H → t D σ H) : PSs X e t' := ⟨fun pins s σ H D I q => h.run pins s σ H D I (w D σ H q)⟩
theorem _root_.L2.PS.or {X : Cx} {e : Stmt} {t t' : TS} (h : PS X e t) (h' : PS X e t') : PS X e (fun D σ H => t D σ H ∨ t' D σ H) := ⟨fun pins s σ H D I q => by
  rcases q with q | q
  · exact h.run pins s σ H D I q
  · exact h'.run pins s σ H D I q⟩
/-- what is asked where statements stand -/
structure GoodS (fx : Fx) (P : Ctx) (N : List Str) (sc : Scope) (X : Cx) : Prop extends GoodX fx P N sc X where
  loc : ∀ x, locB sc x = true → Loc X.env.scope x ∧ (X.fn x = true ∨ X.env.scope.names.lookup x = some .local)
  own : PassesOwn (model X.prog X.w) X.A X.env X.xe
theorem c_seq {a r : C} {st : Stmt} {rest : List Stmt} (ha : PS X st (tC fx P a)) (hr : PSs X rest (tC fx P r)) : PSs X (st :: rest) (tC fx P (.seq a r)) := (pss_cons ha hr).weak fun D σ H ⟨lk, F, ρ, g, I, h⟩ => by
  simp only [evalC] at h
  refine ⟨lk, F, ρ, g, I, (Acc.bind.mp h).imp (fun o g1 h1 => ?_) fun _ _ _ x => x⟩
  cases o with
  | nx ρ1 => exact fun σ' H' F' I' e' => ⟨lk, F', ρ1, g1, I', h1.imp (fun o g k => k.mono e') fun _ _ _ x => x⟩
  | bk ρ1 => exact h1
  | ct ρ1 => exact h1
  | rt d => exact h1
theorem c_frz {is : List Nat} {r : C} {rest : List Stmt} (hr : PSs X rest (tC fx P r)) : PSs X rest (tC fx P (.seq (.frz is) r)) := hr.weak fun D σ H ⟨lk, F, ρ, g, I, h⟩ => by
  simp only [evalC] at h
  obtain ⟨F', e', I'⟩ := I.frzs is
  have h : Acc (KC fx lk F D) noX (evalC P r (frzE is ρ) g) := h
  exact ⟨lk, F', _, g, I', Acc.imp h (fun o g k => k.mono e') fun _ _ _ x => x⟩
theorem c_drop {is : List Nat} {r : C} {rest : List Stmt} (hr : PSs X rest (tC fx P r)) : PSs X rest (tC fx P (.seq (.drop is) r)) := hr.weak fun D σ H ⟨lk, F, ρ, g, I, h⟩ => by
  simp only [evalC] at h
  have h : Acc (KC fx lk F D) noX (evalC P r (wipeE is ρ) g) := h
  exact ⟨lk, F, _, g, I.drops is, h⟩
theorem c_nil : PSs X [] (tC fx P .nil) := pss_nil.weak fun D σ H ⟨lk, F, ρ, g, I, h⟩ => by
  simp only [evalC] at h
  exact h _ _ _ I (Ex.refl _)
variable {pos : Pos} {e : Expr} {c : E}
theorem c_ret (h : PE X e (tE fx P c)) : PS X (.Return (some e) pos) (tC fx P (.ret c)) := (ps_ret h).weak fun D σ H ⟨lk, F, ρ, g, I, h⟩ => by
  simp only [evalC] at h
  exact ⟨lk, F, ρ, g, I, (Acc.bind.mp h).imp (fun d g1 k v H' F' I' e' r => k v σ ρ H' F' I' e'.f r) fun _ _ _ x => x⟩
theorem c_retN : PS X (.Return none pos) (tC fx P .retN) := ps_retN.weak fun D σ H ⟨lk, F, ρ, g, I, h⟩ => by
  simp only [evalC] at h
  exact h _ _ _ _ _ I (Ex.refl _) .non
theorem c_pass : PS X (.Pass pos) (tC fx P .pass) := ps_pass.weak fun D σ H ⟨lk, F, ρ, g, I, h⟩ => by
  simp only [evalC] at h
  exact h _ _ _ I (Ex.refl _)
theorem c_brk : PS X (.Break pos) (tC fx P .brk) := ps_break.weak fun D σ H ⟨lk, F, ρ, g, I, h⟩ => by
  simp only [evalC] at h
  exact h _ _ _ I (Ex.refl _)
theorem c_cont : PS X (.Continue pos) (tC fx P .cont) := ps_continue.weak fun D σ H ⟨lk, F, ρ, g, I, h⟩ => by
  simp only [evalC] at h
  exact h _ _ _ I (Ex.refl _)
theorem c_ex (h : PE X e (tE fx P c)) (hs : swapsWith e none pos.line X.env = pure false) : PS X (.Expr e pos) (tC fx P (.ex c)) := (ps_expr h hs).weak fun D σ H ⟨lk, F, ρ, g, I, h⟩ => by
  simp only [evalC] at h
  exact ⟨lk, F, ρ, g, I, (Acc.bind.mp h).imp (fun d g1 k v H' F' I' e' r => k σ H' F' I' e'.f) fun _ _ _ x => x⟩
theorem c_if {a b : C} {p q : List Stmt} (h : PT X e (tTs fx P c)) (ha : PSs X p (tC fx P a)) (hb : PSs X q (tC fx P b)) : PS X (.If e p q pos) (tC fx P (.if_ c a b)) := (ps_if h ha hb).weak fun D σ H ⟨lk, F, ρ, g, I, h⟩ => by
  simp only [evalC] at h
  refine seqT I h fun d1 g1 h1 => ?_
  cases z : truth d1 with
  | none => rw [z] at h1; exact h1.elim
  | some t =>
    rw [z] at h1
    refine ⟨t, rfl, fun H1 F1 I1 e1 => ?_⟩
    cases t with
    | true => exact ⟨lk, F1, ρ, g1, I1, h1.imp (fun d g k => k.mono e1.f) fun _ _ _ x => x⟩
    | false => exact ⟨lk, F1, ρ, g1, I1, h1.imp (fun d g k => k.mono e1.f) fun _ _ _ x => x⟩
/-! ### assignment -/
theorem asg_read {t : T} {D : Ends} {σ : L2.St} {H : Hp} (h : tC fx P (.asg t c) D σ H) : tAsg (tE fx P c) (tGd fx t) D σ H := by
  obtain ⟨lk, F, ρ, g, I, h⟩ := h
  simp only [evalC] at h
  refine ⟨lk, F, ρ, g, I, (Acc.bind.mp h).imp (fun d g1 k v H' F' I' e' r => ?_) fun _ _ _ x => x⟩
  obtain ⟨o, ho, k⟩ := Acc.ofO.mp k
  obtain ⟨ρ', hb, rfl⟩ := omap ho
  exact ⟨lk, F', ρ, g1, d, ρ', I', r, hb, fun σ' I2 _ => k σ' H' F' I2 e'.f⟩
theorem gname_read {i : Nat} {v : V} {σ : L2.St} {H : Hp} {Q : L2.St → Hp → Prop} (h : tGd fx (.nm i) v σ H Q) : gName i v σ H Q := by
  obtain ⟨lk, F, ρ, g, d, ρ', I, r, hb, k⟩ := h
  simp only [bindT] at hb
  split at hb
  · rename_i hi
    cases hb
    refine k _ (I.slotV i r hi) ⟨by simp, fun j hj => ?_⟩
    simp only [slotsT, List.mem_singleton] at hj
    rw [List.getElem?_set_ne (Ne.symm hj)]
  · cases hb
theorem tE.mono {σ : L2.St} {H : Hp} {Q Q' : VK} (h : tE fx P c σ H Q) (w : ∀ v H, Q v H → Q' v H) : tE fx P c σ H Q' := by
  obtain ⟨lk, F, ρ, g, I, h⟩ := h
  exact ⟨lk, F, ρ, g, I, h.imp (fun d g k v H' F' I' e r => w _ _ (k v H' F' I' e r)) fun _ _ _ x => x⟩
theorem sw_false {e : Expr} {x : Str} {px : Pos} {l : Nat} (G : GoodX fx P N sc X) (h : plainSw e x px sc = true) : swapsWith e (some (.Name x px)) l X.env = pure false := by
  have key : ∀ (scope : Scope) (pos : Pos), (!decide (sc.names.lookup x = some .local) || !(px.line == pos.line)) = true → (X.env.blockKind == .function && X.env.kindOf x == some .local && px.line == pos.line && !(scope.names.any fun (n, k) => n == x && (k == .local || k == .cell))) = false := fun scope pos h => by
    rw [Bool.or_eq_true] at h
    rcases h with h | h
    · have : (X.env.kindOf x == some .local) = false := by
        have h : decide (sc.names.lookup x = some .local) = false := by simpa using h
        have h := of_decide_eq_false h
        show (X.env.scope.names.lookup x == some .local) = false
        rw [G.hsc]
        simpa using h
      rw [this]; simp
    · have : (px.line == pos.line) = false := by simpa using h
      rw [this]; simp
  cases e <;> first | rfl | (simp [plainSw] at h; done) | skip
  · rename_i a b scope pos
    show (pure _ : Sem Bool) = _
    exact congrArg pure (key scope pos h)
  · rename_i a b d scope pos
    show (pure _ : Sem Bool) = _
    exact congrArg pure (key scope pos h)
theorem sole_tup {e : Expr} {es : List Expr} {k : Nat} {p : Pos} {l : Nat} : swapsWithSole [.Tuple es k p] e l X.env = pure false := by cases e <;> rfl
theorem stores_tup {e : Expr} {es : List Expr} {k : Nat} {p : Pos} (h : isTup e = false) : swappedStores [.Tuple es k p] e X.env = pure none := by
  cases e <;> first | rfl | (simp [isTup] at h; done)
end
end MW

end
section
set_option Elab.async false
set_option linter.all false
set_option maxRecDepth 100000
set_option maxHeartbeats 4000000
namespace MW
open PySem PySem.Spec PyProof.Rows L2
section
variable {fx : Fx} {P : Ctx} {X : Cx} {N : List Str} {sc : Scope} {pos : Pos} {e : Expr} {c : E}
theorem c_setLc {i : Nat} {x : Str} {px pc : Pos} {x1 t1 i1 : Expr} {ifs : List Expr} {scope : Scope} {elt it test : E} {tg : T} {own : List Nat} (G : GoodS fx P N sc X) (q1 : N[i]? = some x) (w1 : sc.names.lookup x = some .local) (w2 : (px.line == pc.line) = true)
    (w3 : (scope.names.any fun (n, k) => n == x && (k == .local || k == .cell)) = false) (h3 : chkE N (.lc elt tg it test own) false (.ListComp x1 [⟨t1, i1, ifs, 0⟩] scope pc) sc = true)
    (rd : ∀ D σ H, tC fx P (.asg (.nm i) (.lc elt tg it test own)) D σ H → tE fx P (.lc elt tg it test own) σ H (fun y H1 => gName i y σ H1 D.nx)) :
    PS X (.Assign [.Name x px] (.ListComp x1 [⟨t1, i1, ifs, 0⟩] scope pc) pos) (tC fx P (.asg (.nm i) (.lc elt tg it test own))) := by
  simp only [chkE, Bool.and_eq_true] at h3
  obtain ⟨⟨⟨⟨⟨⟨z1, z2⟩, z3⟩, z4⟩, z5⟩, z6⟩, z7⟩ := h3
  have ok := blkOk_by z1
  rw [← G.hsc, ← G.hN] at ok
  have hsub : ∀ i ∈ slotsT tg, i ∈ own := fun i hi => by simpa using List.all_eq_true.mp z5 i hi
  have ht : ∀ (s : Shared) (H : Hp) (C : Addr) (cl : List (Str × Addr)) (fp : List Addr), PTs (X.blk s H scope (compEnvC scope cl C X.env) fp) ifs (tTs fx P test) := fun s H C cl fp => by
    have G' := G.toGoodX.blk scope ok.kind s H C cl fp
    split at z7
    · exact ts_nil
    · exact pts_one ((allE test).pt _ _ G' _ z7)
    · cases z7
  have S := ps_setLc (spos := pos) (py := px) G.calm (by rw [G.hN]; exact G.nd) (by rw [G.hN]; exact q1) (by rw [G.hsc]; exact w1)
    (sw_true (by rw [G.hsc]; exact G.kind) (by rw [G.hsc]; exact w1) w2 w3) ((allE it).pi true X sc G.toGoodX _ _ z2 z3) (by rw [G.hN] at ok ⊢; exact ok)
    (fun s H C cl fp => (pg_all (X := X.blk s H scope (compEnvC scope cl C X.env) fp) (N := N) G.hN G.nd G.K G.calm (blk_locs G.toGoodX s H C cl fp) tg).1 _ z4)
    ht (fun s H C cl fp => (allE elt).pe _ _ (G.toGoodX.blk scope ok.kind s H C cl fp) _ z6) (noFold (iter_noset z2) _)
  rw [own_map] at S
  refine (S.or (ps_lock S)).weak fun D σ H h => ?_
  rcases lock_read (fun _ _ _ => lc_read hsub) (rd D σ H h) with q | q
  · exact .inl q
  · exact .inr q
theorem c_setLc2 {i : Nat} {x : Str} {px pc : Pos} {x1 t1 i1 t2 i2 : Expr} {ifs ifs2 : List Expr} {scope : Scope} {elt it test it1 test1 : E} {tg tg1 : T} {own own1 : List Nat} (G : GoodS fx P N sc X) (q1 : N[i]? = some x) (w1 : sc.names.lookup x = some .local) (w2 : (px.line == pc.line) = true)
    (w3 : (scope.names.any fun (n, k) => n == x && (k == .local || k == .cell)) = false) (h3 : chkE N (.lc2 elt tg it test tg1 it1 test1 own own1) false (.ListComp x1 [⟨t1, i1, ifs, 0⟩, ⟨t2, i2, ifs2, 0⟩] scope pc) sc = true)
    (rd : ∀ D σ H, tC fx P (.asg (.nm i) (.lc2 elt tg it test tg1 it1 test1 own own1)) D σ H → tE fx P (.lc2 elt tg it test tg1 it1 test1 own own1) σ H (fun y H1 => gName i y σ H1 D.nx)) :
    PS X (.Assign [.Name x px] (.ListComp x1 [⟨t1, i1, ifs, 0⟩, ⟨t2, i2, ifs2, 0⟩] scope pc) pos) (tC fx P (.asg (.nm i) (.lc2 elt tg it test tg1 it1 test1 own own1))) := by
  simp only [chkE, lc2P, Bool.and_eq_true] at h3
  obtain ⟨⟨⟨⟨⟨⟨⟨⟨⟨⟨⟨⟨⟨z1, z2⟩, z3⟩, z4⟩, z5⟩, z5b⟩, k2⟩, k3⟩, knl⟩, k4⟩, k5⟩, z6⟩, z7⟩, k7⟩ := h3
  have ok := blkOk_by z1
  rw [← G.hsc, ← G.hN] at ok
  have hsub : ∀ i ∈ slotsT tg, i ∈ own := fun i hi => by simpa using List.all_eq_true.mp z5 i hi
  have hsub1 : ∀ i ∈ slotsT tg1, i ∈ own1 := fun i hi => by simpa using List.all_eq_true.mp k5 i hi
  have ht : ∀ (s : Shared) (H : Hp) (C : Addr) (cl : List (Str × Addr)) (fp : List Addr), PTs (X.blk s H scope (compEnvC scope cl C X.env) fp) ifs (tTs fx P test) := fun s H C cl fp => by
    have G' := G.toGoodX.blk scope ok.kind s H C cl fp
    split at z7
    · exact ts_nil
    · exact pts_one ((allE test).pt _ _ G' _ z7)
    · cases z7
  have ht1 : ∀ (s : Shared) (H : Hp) (C : Addr) (cl : List (Str × Addr)) (fp : List Addr), PTs (X.blk s H scope (compEnvC scope cl C X.env) fp) ifs2 (tTs fx P test1) := fun s H C cl fp => by
    have G' := G.toGoodX.blk scope ok.kind s H C cl fp
    split at k7
    · exact ts_nil
    · exact pts_one ((allE test1).pt _ _ G' _ k7)
    · cases k7
  have S := ps_setLc2 (spos := pos) (py := px) (vs1 := own1) G.calm (by rw [G.hN]; exact G.nd) (by rw [G.hN]; exact q1) (by rw [G.hsc]; exact w1)
    (sw_true (by rw [G.hsc]; exact G.kind) (by rw [G.hsc]; exact w1) w2 w3) ((allE it).pi true X sc G.toGoodX _ _ z2 z3) (by rw [G.hN] at ok ⊢; exact ok) (fun i hi => by rw [own_map]; simpa using List.all_eq_true.mp z5b i hi)
    (fun s H C cl fp => (pg_all (X := X.blk s H scope (compEnvC scope cl C X.env) fp) (N := N) G.hN G.nd G.K G.calm (blk_locs G.toGoodX s H C cl fp) tg).1 _ z4) ht
    (fun s H C cl fp => (allE it1).pi false _ _ (G.toGoodX.blk scope ok.kind s H C cl fp) _ _ k2 k3)
    (fun s H C cl fp => (pg_all (X := X.blk s H scope (compEnvC scope cl C X.env) fp) (N := N) G.hN G.nd G.K G.calm (blk_locs G.toGoodX s H C cl fp) tg1).1 _ k4) ht1
    (fun s H C cl fp => (allE elt).pe _ _ (G.toGoodX.blk scope ok.kind s H C cl fp) _ z6) (noFold (iter_noset z2) _) (fun env => noFold (iter_noset k2) env)
  rw [own_map] at S
  refine (S.or (ps_lock S)).weak fun D σ H h => ?_
  rcases lock_read (fun _ _ _ => lc2_read hsub hsub1 knl) (rd D σ H h) with q | q
  · exact .inl q
  · exact .inr q
theorem sw_trueD {kx vx : Expr} {gs : List Comprehension} {scope : Scope} {pos py : Pos} {y : Str} {l : Nat} {env : PySem.Env} (hk : env.scope.kind = .function) (hy : env.scope.names.lookup y = some .local) (hl : (py.line == pos.line) = true)
    (ha : (scope.names.any fun (n, k) => n == y && (k == .local || k == .cell)) = false) : swapsWith (.DictComp kx vx gs scope pos) (some (.Name y py)) l env = pure true := by
  have ky : env.kindOf y = some .local := hy
  have hb : env.blockKind = .function := by unfold Env.blockKind; rw [hk]; rfl
  unfold swapsWith
  simp only [hb, ky, ha, Expr.pos, hl]
  rfl
/-- a dict comprehension that is stored where it is made -/
theorem ps_setDc {X : Cx} {i : Nat} {y : Str} {py : Pos} {kx vx tg iter : Expr} {ifs : List Expr} {scope : Scope} {own : List (Str × Nat)} {pos spos : Pos} {wi : TI} {g : TG} {tt : TT} {tk tv : TE} (hc : X.calm = true) (hN : X.N.Nodup) (hy : X.N[i]? = some y) (hyl : X.env.scope.names.lookup y = some .local)
    (hsw : swapsWith (.DictComp kx vx [⟨tg, iter, ifs, 0⟩] scope pos) (some (.Name y py)) spos.line X.env = pure true) (hi : PI X tg iter wi) (ok : BlkOk X.N X.env.scope scope own)
    (hg : AtBlk X scope fun Y => PG Y tg g) (ht : AtBlk X scope fun Y => PTs Y ifs tt) (hk : AtBlk X scope fun Y => PE Y kx tk) (he : AtBlk X scope fun Y => PE Y vx tv) (hs : ∀ x, foldedSetIterable iter X.env x = pure x) :
    PS X (.Assign [.Name y py] (.DictComp kx vx [⟨tg, iter, ifs, 0⟩] scope pos) spos) (tAsg (tDc wi g tt tk tv (own.map (·.2))) (gName i)) := by
  refine ⟨fun pins s σ H D I h => ?_⟩
  rw [exec_Assign_Name_used _ _ _ _ hsw]
  apply wpAny_bind
  apply wpAny_standAt
  refine wpAny_bind ?_
  show wpAny _ X.A (do let _ ← comprehension (.DictComp kx vx [⟨tg, iter, ifs, 0⟩] scope pos) scope X.env (firstIterPos [⟨tg, iter, ifs, 0⟩] pos) newDict false (eval iter X.env) (some (assign (.Name y py) X.env))) _ _ s
  have h : tDc wi g tt tk tv (own.map (·.2)) σ H (fun x H1 => gName i x σ H1 D.nx) := h
  refine wpAny_bind (thn (dc_core (Qf := fun _ s' => SP X pins D .next s') hc hN I hi ok hg ht hk he hs h ?_) fun _ s' hq => wpAny_pure (wpAny_pure hq))
  intro L C s' m H' I' q hn f
  show wpAny _ _ (assign (.Name y py) X.env (.ref L)) _ _ _
  apply wpAny_assign_Name
  refine store_ok2 (v := V.ref L) I' hN hy (.inl hyl) rfl (fun s2 I2 ⟨a, sb, ha⟩ => ?_) (.inr hyl)
  obtain ⟨f0, f1, f2, f3, f4, f5⟩ := f
  have haC : C ≠ a := by
    rcases ha with z | z
    · rw [z]; exact f1
    · exact fun e => f4 y a z e.symm
  exact ⟨m, hn.sameBut sb haC, fun h3 sb3 => ⟨_, H', I2.turned (t' := s2.toks) (fun b o hb e => (sb3.2 b hb).trans e) f0 f1 f3 f4 f5, q⟩⟩
theorem c_setDc {i : Nat} {x : Str} {px pc : Pos} {x1 y1 t1 i1 : Expr} {ifs : List Expr} {scope : Scope} {key val it test : E} {tg : T} {own : List Nat} (G : GoodS fx P N sc X) (q1 : N[i]? = some x) (w1 : sc.names.lookup x = some .local) (w2 : (px.line == pc.line) = true)
    (w3 : (scope.names.any fun (n, k) => n == x && (k == .local || k == .cell)) = false) (h3 : chkE N (.dc key val tg it test own) false (.DictComp x1 y1 [⟨t1, i1, ifs, 0⟩] scope pc) sc = true)
    (rd : ∀ D σ H, tC fx P (.asg (.nm i) (.dc key val tg it test own)) D σ H → tE fx P (.dc key val tg it test own) σ H (fun y H1 => gName i y σ H1 D.nx)) :
    PS X (.Assign [.Name x px] (.DictComp x1 y1 [⟨t1, i1, ifs, 0⟩] scope pc) pos) (tC fx P (.asg (.nm i) (.dc key val tg it test own))) := by
  simp only [chkE, Bool.and_eq_true] at h3
  obtain ⟨⟨⟨⟨⟨⟨⟨z1, z2⟩, z3⟩, z4⟩, z5⟩, z6⟩, z8⟩, z7⟩ := h3
  have ok := blkOk_by z1
  rw [← G.hsc, ← G.hN] at ok
  have hsub : ∀ i ∈ slotsT tg, i ∈ own := fun i hi => by simpa using List.all_eq_true.mp z5 i hi
  have ht : AtBlk X scope fun Y => PTs Y ifs (tTs fx P test) := fun s H C cl fp => by
    have G' := G.toGoodX.blk scope ok.kind s H C cl fp
    split at z7
    · exact ts_nil
    · exact pts_one ((allE test).pt _ _ G' _ z7)
    · cases z7
  have S := ps_setDc (spos := pos) (py := px) G.calm (by rw [G.hN]; exact G.nd) (by rw [G.hN]; exact q1) (by rw [G.hsc]; exact w1)
    (sw_trueD (by rw [G.hsc]; exact G.kind) (by rw [G.hsc]; exact w1) w2 w3) ((allE it).pi true X sc G.toGoodX _ _ z2 z3) (by rw [G.hN] at ok ⊢; exact ok)
    (fun s H C cl fp => (pg_all (X := X.blk s H scope (compEnvC scope cl C X.env) fp) (N := N) G.hN G.nd G.K G.calm (blk_locs G.toGoodX s H C cl fp) tg).1 _ z4)
    ht (fun s H C cl fp => (allE key).pe _ _ (G.toGoodX.blk scope ok.kind s H C cl fp) _ z6) (fun s H C cl fp => (allE val).pe _ _ (G.toGoodX.blk scope ok.kind s H C cl fp) _ z8) (noFold (iter_noset z2) _)
  rw [own_map] at S
  refine (S.or (ps_lock S)).weak fun D σ H h => ?_
  rcases lock_read (fun _ _ _ => dc_read hsub) (rd D σ H h) with q | q
  · exact .inl q
  · exact .inr q
theorem par_sw {x y : Str} {px py pt : Pos} {kt k2 : Nat} {pt2 : Pos} {a b : Expr} {env : PySem.Env} (hk : env.scope.kind = .function) (h1 : env.scope.names.lookup x = some .local) (h2 : env.scope.names.lookup y = some .local) (h3 : (py.line == px.line) = true) (h4 : (x == y) = false)
    (h5 : isStar a = false) (h6 : isStar b = false) (h7 : (foldedForSure 8 a && foldedForSure 8 b) = false) (h8 : (constantsAlone 8 a && constantsAlone 8 b) = false) :
    swappedStores [.Tuple [.Name x px, .Name y py] kt pt] (.Tuple [a, b] k2 pt2) env = pure (some [x, y]) := by
  have kx : env.kindOf x = some .local := h1
  have ky : env.kindOf y = some .local := h2
  have hb : env.blockKind = .function := by unfold Env.blockKind; rw [hk]; rfl
  have st : (([a, b] : List Expr).any fun | .Starred .. => true | _ => false) = false := by
    cases a <;> cases b <;> first | rfl | (simp [isStar] at h5; done) | (simp [isStar] at h6; done)
  have e1 : ([a, b].all (foldedForSure 8)) = false := by simpa using h7
  have e2 : ([a, b].all (constantsAlone 8)) = false := by simpa using h8
  have hxy : ¬ x = y := by simpa using h4
  have hl : (py.line == (Expr.Name x px).pos.line) = true := h3
  unfold swappedStores
  simp only [hb, st, e1, e2, List.filterMap_cons, List.filterMap_nil, kx, ky, List.head?_cons, Option.map_some, Option.getD_some, Expr.pos, h3, beq_self_eq_true, Bool.and_self, if_true, List.length_cons, List.length_nil]
  simp [List.eraseDups_cons, hxy, Ne.symm hxy]
  intro hs
  exfalso
  rcases hs with hs | hs
  · cases a <;> first | (simp [isStar] at h5; done) | (simp at hs; done)
  · cases b <;> first | (simp [isStar] at h6; done) | (simp at hs; done)
theorem c_par {i j : Nat} {x y : Str} {px py pt : Pos} {kt k2 : Nat} {pt2 : Pos} {a b : Expr} {ca cb : E} (G : GoodS fx P N sc X) (h : parB (.Tuple [a, b] k2 pt2) (.Tuple [.Name x px, .Name y py] kt pt) sc = true) (q1 : N[i]? = some x) (q2 : N[j]? = some y) (hc : chkA N (.acons ca (.acons cb .anil)) [a, b] sc = true) :
    PS X (.Assign [.Tuple [.Name x px, .Name y py] kt pt] (.Tuple [a, b] k2 pt2) pos) (tC fx P (.asg (.tup (.tcons (.nm i) (.tcons (.nm j) .tnil))) (.tup (.acons ca (.acons cb .anil))))) := by
  simp only [parB, Bool.and_eq_true, decide_eq_true_eq, Bool.not_eq_true'] at h
  obtain ⟨⟨⟨⟨⟨⟨⟨h1, h2⟩, h3⟩, h4⟩, h5⟩, h6⟩, h7⟩, h8⟩ := h
  have hij : i ≠ j := fun e => by
    subst e
    rw [q1] at q2
    cases q2
    simp at h4
  refine (ps_par G.calm (by rw [G.hN]; exact G.nd) (by rw [G.hN]; exact q1) (by rw [G.hN]; exact q2) hij (by rw [G.hsc]; exact h1) (by rw [G.hsc]; exact h2) ((allE (.acons ca (.acons cb .anil))).pa X sc G.toGoodX _ hc)
    (par_sw (by rw [G.hsc]; exact G.kind) (by rw [G.hsc]; exact h1) (by rw [G.hsc]; exact h2) h3 h4 h5 h6 h7 h8) (by rfl)).weak fun D σ H h => ?_
  obtain ⟨lk, F, ρ, g, I, h⟩ := h
  simp only [evalC] at h
  rw [show evalE P (.tup (.acons ca (.acons cb .anil))) ρ g = (evalE P (.acons ca (.acons cb .anil)) ρ g).bind fun y g1 => match y with
    | .lst xs => if decide (xs.length ≤ 16777216) then .ok (.tup xs) g1 else .bad
    | _ => .bad from rfl] at h
  refine ⟨lk, F, ρ, g, I, (Acc.bind.mp (Acc.bind.mp h)).imp (fun d g1 k => ?_) fun _ _ _ x => x⟩
  cases d <;> first | exact k.elim | skip
  rename_i ds
  refine ⟨ds, rfl, fun vs H1 F1 I1 e1 r1 => ?_⟩
  dsimp only at k
  split at k
  · obtain ⟨o, ho, k⟩ := Acc.ofO.mp k
    obtain ⟨ρ', hb, rfl⟩ := omap ho
    simp only [bindT] at hb
    cases ds with
    | nil => simp at hb
    | cons d1 ds =>
      simp only at hb
      obtain ⟨ρ1, hb1, hb⟩ := obind hb
      cases ds with
      | nil => simp at hb
      | cons d2 ds =>
        simp only at hb
        obtain ⟨ρ2, hb2, hb⟩ := obind hb
        cases ds with
        | cons _ _ => simp at hb
        | nil =>
          cases hb
          cases r1 with | cons r1 t1 => cases t1 with | cons r2 t2 => cases t2 with | nil =>
          rename_i v1 v2
          refine ⟨v1, v2, rfl, ?_⟩
          split at hb1
          · rename_i l1
            cases hb1
            split at hb2
            · rename_i l2
              cases hb2
              exact k _ H1 F1 ((I1.slotV i r1 l1).slotV j r2 l2) e1.f
            · cases hb2
          · cases hb1
  · exact k.elim
theorem c_asg {t : T} {tg : Expr} (G : GoodS fx P N sc X) (h1 : asgB e tg sc = true) (h2 : chkT N t tg sc = true) (h3 : chkE N c false e sc = true) : PS X (.Assign [tg] e pos) (tC fx P (.asg t c)) := by
  have he := (allE c).pe X sc G.toGoodX e h3
  have hg := (pg_all G.hN G.nd G.K G.calm G.loc t).1 tg h2
  cases tg <;> first | (simp [asgB] at h1; done) | skip
  case Tuple es k p =>
    simp only [asgB, Bool.or_eq_true, Bool.not_eq_true'] at h1
    rcases h1 with h1 | h1
    · refine (ps_asg he hg sole_tup (stores_tup h1) (by rfl)).weak fun D σ H h => asg_read h
    · have h1' := h1
      unfold parB at h1
      split at h1
      · rename_i x px y py kt pt a b k2 pt2 e1
        cases e1
        cases c <;> first | (simp [chkE, lc2P, dcvP] at h3; done) | skip
        rename_i as
        have h3' := h3
        simp only [chkE] at h3
        cases as <;> first | (simp [chkA] at h3; done) | skip
        rename_i ca r
        have h4 := h3
        simp only [chkA, Bool.and_eq_true] at h4
        cases r <;> first | (simp [chkA] at h4; done) | skip
        rename_i cb r
        have h5 := h4.2
        simp only [chkA, Bool.and_eq_true] at h5
        cases r <;> first | (simp [chkA] at h5; done) | skip
        cases t <;> first | (simp [chkT] at h2; done) | skip
        rename_i r
        simp only [chkT] at h2
        cases r <;> first | (simp [chkT.chkTs] at h2; done) | skip
        rename_i t1 r
        simp only [chkT.chkTs, Bool.and_eq_true] at h2
        obtain ⟨⟨_, g1⟩, h2⟩ := h2
        cases r <;> first | (simp [chkT.chkTs] at h2; done) | skip
        rename_i t2 r
        simp only [chkT.chkTs, Bool.and_eq_true] at h2
        obtain ⟨⟨_, g2⟩, h2⟩ := h2
        cases r <;> first | (simp [chkT.chkTs] at h2; done) | skip
        cases t1 <;> first | (simp [chkT] at g1; done) | skip
        cases t2 <;> first | (simp [chkT] at g2; done) | skip
        simp only [chkT, Bool.and_eq_true, decide_eq_true_eq] at g1 g2
        exact c_par G h1' g1.1 g2.1 h3
      · cases h1
  case Name x px =>
    cases t <;> first | (simp [chkT] at h2; done) | skip
    rename_i i
    have h2' := h2
    simp only [chkT, Bool.and_eq_true, decide_eq_true_eq] at h2'
    obtain ⟨q1, q2⟩ := h2'
    obtain ⟨l1, l2⟩ := G.loc _ q2
    have rd : ∀ D σ H, tC fx P (.asg (.nm i) c) D σ H → tE fx P c σ H (fun y H1 => gName i y σ H1 D.nx) := fun D σ H h => tE.mono (asg_read h) fun v H1 k => gname_read k
    simp only [asgB, Bool.or_eq_true, Bool.and_eq_true] at h1
    rcases h1 with h1 | ⟨h1, h4⟩
    · exact (ps_set (by rw [G.hN]; exact G.nd) (by rw [G.hN]; exact q1) l1 he (sw_false G.toGoodX h1) l2).weak rd
    · cases e <;> first | (simp [asgB.isLc] at h4; done) | skip
      · simp only [swapB, Bool.and_eq_true, decide_eq_true_eq, Bool.not_eq_true'] at h1
        obtain ⟨⟨w1, w2⟩, w3⟩ := h1
        cases c <;> first | (simp [chkE, dcvP] at h3; done) | skip
        · have h3' := h3
          simp only [chkE] at h3
          split at h3
          · rename_i h3e
            cases h3e
            exact c_setLc G q1 w1 w2 w3 h3' rd
          · cases h3
        · have h3' := h3
          simp only [chkE] at h3
          split at h3
          · rename_i q hq
            have hq := lc2P_is hq
            cases hq
            exact c_setLc2 G q1 w1 w2 w3 h3' rd
          · cases h3
      · simp only [swapB, Bool.and_eq_true, decide_eq_true_eq, Bool.not_eq_true'] at h1
        obtain ⟨⟨w1, w2⟩, w3⟩ := h1
        cases c <;> first | (simp [chkE, lc2P] at h3; done) | skip
        · exfalso
          simp only [chkE] at h3
          split at h3
          · rename_i q hq
            have hq := dcvP_is hq
            cases hq
            simp [asgB.isLc] at h4
          · cases h3
        · have h3' := h3
          simp only [chkE] at h3
          split at h3
          · rename_i h3e
            cases h3e
            exact c_setDc G q1 w1 w2 w3 h3' rd
          · cases h3
/-- a new object -/
def tEo (fx : Fx) (P : Ctx) (c : E) : TE := fun σ H Q => ∃ lk F ρ g, SR fx lk σ F H ρ g ∧ Acc (fun d g' => ∀ p H' F', SR fx lk σ F' H' ρ g' → Ex F F' → F' p = none → p ≠ fx.ap → fx.H0 p = none → OwnOk fx F' H' d p →
  (∀ (j : Nat) (e : D) (q : Addr), ρ[j]? = some (.own e) → σ[j]? = some (some (.ref q)) → q ≠ p) → Q (.ref p) H') noX (evalE P c ρ g)
theorem pe_own (G : GoodX fx P N sc X) (h : chkO N c e sc = true) : PE X e (tEo fx P c) := by
  cases c <;> first | (simp [chkO] at h; done) | skip
  · rename_i as
    simp only [chkO] at h
    split at h
    · refine (pe_lst ((allE as).pa X sc G _ h)).weak fun σ H Q ⟨lk, F, ρ, g, I, h⟩ => ?_
      simp only [evalE] at h
      refine seqA I h fun d1 g1 h1 => ?_
      cases d1 <;> first | exact h1.elim | skip
      rename_i xs
      refine ⟨xs, rfl, fun vs H1 F1 I1 e1 r1 => ?_⟩
      dsimp only at h1
      split at h1
      · rename_i z
        have z := of_decide_eq_true z
        refine ⟨by rw [← r1.len, sizeLine_eq]; exact z, fun p hp => ?_⟩
        obtain ⟨I2, f1, f2, f3, f4⟩ := I1.fresh hp (.lst vs)
        exact h1 p _ F1 I2 e1.f f1 f2 f3 ⟨vs, upd_same, r1⟩ f4
      · exact h1.elim
    · cases h
  · simp only [chkO] at h
    split at h
    · refine pe_dnewK.weak fun σ H Q ⟨lk, F, ρ, g, I, h⟩ => ?_
      simp only [evalE] at h
      refine fun p hp => ?_
      obtain ⟨I2, f1, f2, f3, f4⟩ := I.fresh hp (.dK [])
      exact h p _ F I2 (Ex.refl _) f1 f2 f3 ⟨[], upd_same, rfl, .nil⟩ f4
    · cases h
  · simp only [chkO] at h
    split at h
    · refine pe_dnewT.weak fun σ H Q ⟨lk, F, ρ, g, I, h⟩ => ?_
      simp only [evalE] at h
      refine fun p hp => ?_
      obtain ⟨I2, f1, f2, f3, f4⟩ := I.fresh hp (.dT [])
      exact h p _ F I2 (Ex.refl _) f1 f2 f3 ⟨[], upd_same, rfl, .nil⟩ f4
    · cases h
theorem own_plain (h : chkO N c e sc = true) {x : Str} {px : Pos} {l : Nat} : swapsWith e (some (.Name x px)) l X.env = pure false := by
  cases c <;> first | (simp [chkO] at h; done) | skip
  all_goals
    simp only [chkO] at h
    split at h
    · rfl
    · cases h
theorem c_own {i : Nat} {x : Str} {px : Pos} (G : GoodS fx P N sc X) (h1 : N[i]? = some x) (h2 : locB sc x = true) (h3 : chkO N c e sc = true) : PS X (.Assign [.Name x px] e pos) (tC fx P (.own i c)) := by
  obtain ⟨l1, l2⟩ := G.loc _ h2
  refine (ps_set (by rw [G.hN]; exact G.nd) (by rw [G.hN]; exact h1) l1 (pe_own G.toGoodX h3) (own_plain h3) l2).weak fun D σ H ⟨lk, F, ρ, g, I, h⟩ => ?_
  simp only [evalC] at h
  refine ⟨lk, F, ρ, g, I, (Acc.bind.mp h).imp (fun d g1 k p H' F' I' e' f1 f2 f3 f4 f5 => ?_) fun _ _ _ x => x⟩
  cases d <;> first | exact k.elim | skip
  · dsimp only at k
    split at k
    · rename_i hi
      exact k _ H' F' (I'.slotO i hi f1 f2 f3 f4 f5) e'
    · exact k.elim
  · dsimp only at k
    split at k
    · rename_i hi
      exact k _ H' F' (I'.slotO i hi f1 f2 f3 f4 f5) e'
    · exact k.elim
theorem own_or (ρ : Env) (i : Nat) : (∃ xs, ρ[i]? = some (.own (.lst xs))) ∨ ∀ xs, ρ[i]? ≠ some (.own (.lst xs)) := by
  by_cases h : ∃ xs, ρ[i]? = some (.own (.lst xs))
  · exact .inl h
  · exact .inr fun xs z => h ⟨xs, z⟩
theorem c_app {i : Nat} {x : Str} {px apos cpos : Pos} (G : GoodS fx P N sc X) (h1 : N[i]? = some x) (h2 : visB sc x = true) (h3 : okName x = true) (h4 : chkE N c false e sc = true) (h5 : isStar e = false) (h6 : apos.endLine = cpos.line) :
    PS X (.Expr (.Call (.Attribute (.Name x px) (Str.ofString "append") apos) [e] [] cpos) pos) (tC fx P (.app i c)) := by
  have hs := star_cons h5 [] X.env
  obtain ⟨o1, o2, o3⟩ := okName_is h3
  have pv : PE X (.Name x px) (tVar i) := pe_var (by rw [G.hN]; exact h1) (G.toGoodX.vis h2) o1 o2
  have B := pe_bm (cpos := cpos) (apos := apos) PySem.F.plainAttrs_list PySem.F.slot_list_append PySem.F.type_list_append mt_append pv (pa_cons ((allE c).pe X sc G.toGoodX e h4) pa_nil hs) (by rfl) (by rw [hs]; rfl) (by simp [h6]) hs (by rfl)
  refine (ps_expr B (by rfl)).weak fun D σ H ⟨lk, F, ρ, g, I, h⟩ => ?_
  simp only [evalC] at h
  rcases own_or ρ i with ⟨xs, hi⟩ | hn
  · obtain ⟨p, s1, s2, s3, s4, vs, s5, s6⟩ := I.sl _ _ hi
    refine ⟨_, s1, .inl ⟨rfl, vs, SqL.of s5⟩, lk, F, ρ, g, I, (Acc.bind.mp h).imp (fun d g1 k v H' F' I' e' r => ?_) fun _ _ _ x => x⟩
    rw [hi] at k
    dsimp only at k
    split at k
    · rename_i hz
      have hz := of_decide_eq_true hz
      obtain ⟨p', s1', s2', s3', s4', vs', s5', s6'⟩ := I'.sl _ _ hi
      rw [s1] at s1'; cases s1'
      refine ⟨p, vs', v, rfl, rfl, s5', by rw [← s6'.len, sizeLine_eq]; exact hz, ?_⟩
      exact k σ _ F' (I'.write hi s1 ⟨_, upd_same, s6'.app (RepL.one r)⟩) e'.f
    · exact k.elim
  · refine (Acc.none noX_f ((Acc.bind.mp h).imp (fun d g1 k => ?_) fun _ _ _ x => x)).elim
    split at k
    · rename_i xs hi
      exact hn _ hi
    · exact k
theorem c_ext {i : Nat} {x : Str} {px apos cpos : Pos} (G : GoodS fx P N sc X) (h1 : N[i]? = some x) (h2 : visB sc x = true) (h3 : okName x = true) (h4 : chkE N c false e sc = true) (h5 : isStar e = false) (h6 : apos.endLine = cpos.line) :
    PS X (.Expr (.Call (.Attribute (.Name x px) (Str.ofString "extend") apos) [e] [] cpos) pos) (tC fx P (.ext i c)) := by
  have hs := star_cons h5 [] X.env
  obtain ⟨o1, o2, o3⟩ := okName_is h3
  have pv : PE X (.Name x px) (tVar i) := pe_var (by rw [G.hN]; exact h1) (G.toGoodX.vis h2) o1 o2
  have B := pe_bm (cpos := cpos) (apos := apos) PySem.F.plainAttrs_list PySem.F.slot_list_extend PySem.F.type_list_extend mt_extend pv (pa_cons ((allE c).pe X sc G.toGoodX e h4) pa_nil hs) (by rfl) (by rw [hs]; rfl) (by simp [h6]) hs (by rfl)
  refine (ps_expr B (by rfl)).weak fun D σ H ⟨lk, F, ρ, g, I, h⟩ => ?_
  simp only [evalC] at h
  rcases own_or ρ i with ⟨xs, hi⟩ | hn
  · obtain ⟨p, s1, s2, s3, s4, vs, s5, s6⟩ := I.sl _ _ hi
    refine ⟨_, s1, .inl ⟨rfl, vs, SqL.of s5⟩, lk, F, ρ, g, I, (Acc.bind.mp h).imp (fun d g1 k v H' F' I' e' r => ?_) fun _ _ _ x => x⟩
    rw [hi] at k
    cases d <;> first | exact k.elim | skip
    rename_i ys
    dsimp only at k
    split at k
    · rename_i hz
      have hz := of_decide_eq_true hz
      obtain ⟨p', s1', s2', s3', s4', vs', s5', s6'⟩ := I'.sl _ _ hi
      rw [s1] at s1'; cases s1'
      cases r with
      | lst hF rr =>
        refine ⟨p, _, vs', _, rfl, rfl, s5', I'.exF.lst hF, by rw [← s6'.len, ← rr.len, sizeLine_eq]; exact hz, ?_⟩
        exact k σ _ F' (I'.write hi s1 ⟨_, upd_same, s6'.app rr⟩) e'.f
    · exact k.elim
  · refine (Acc.none noX_f ((Acc.bind.mp h).imp (fun d g1 k => ?_) fun _ _ _ x => x)).elim
    split at k
    · rename_i hi
      exact hn _ hi
    · exact k
theorem c_aug {i : Nat} {x : Str} {px : Pos} {o : Op} (G : GoodS fx P N sc X) (h1 : N[i]? = some x) (h2 : locB sc x = true) (ho : (match o with | .add => true | .sub => true | _ => false) = true) (h4 : chkE N c false e sc = true) :
    PS X (.AugAssign (.Name x px) (opP o) e pos) (tC fx P (.aug i o c)) := by
  obtain ⟨l1, l2⟩ := G.loc _ h2
  have he := (allE c).pe X sc G.toGoodX e h4
  have hN : X.N.Nodup := by rw [G.hN]; exact G.nd
  have hi : X.N[i]? = some x := by rw [G.hN]; exact h1
  have rd : ∀ (f : Int → Int → Int), (∀ a b z, binD o a b = some (.int z) → ∃ i j, a = .int i ∧ b = .int j ∧ z = f i j) → ∀ D σ H, tC fx P (.aug i o c) D σ H → tAug i (tE fx P c) (ipI f) D σ H := fun f hf D σ H ⟨lk, F, ρ, g, I, h⟩ => by
    simp only [evalC] at h
    split at h
    · rename_i d hd
      obtain ⟨v, s1, s2⟩ := I.sl _ _ hd
      refine ⟨v, s1, lk, F, ρ, g, I, (Acc.bind.mp h).imp (fun d1 g1 k v1 H' F' I' e' r => ?_) fun _ _ _ x => x⟩
      split at k
      · rename_i z hz
        obtain ⟨a, b, rfl, rfl, rfl⟩ := hf _ _ _ hz
        cases s2; cases r
        exact ⟨a, b, rfl, rfl, k _ H' F' (I'.slotV i (.int _) (List.getElem?_eq_some_iff.mp hd).1) e'.f⟩
      · exact k.elim
    · exact h.elim
  cases o <;> first | (cases ho; done) | skip
  · refine (ps_aug hN hi l1 he ip_add l2).weak (rd _ fun a b z hz => ?_)
    cases a <;> cases b <;> simp only [binD, Option.some.injEq, reduceCtorEq, D.int.injEq] at hz
    · exact ⟨_, _, rfl, rfl, hz.symm⟩
    all_goals (split at hz <;> cases hz)
  · refine (ps_aug hN hi l1 he ip_sub l2).weak (rd _ fun a b z hz => ?_)
    cases a <;> cases b <;> simp only [binD, Option.some.injEq, reduceCtorEq, D.int.injEq] at hz
    exact ⟨_, _, rfl, rfl, hz.symm⟩
end
end MW

end
section
set_option Elab.async false
set_option linter.all false
set_option maxRecDepth 100000
set_option maxHeartbeats 4000000
namespace MW
open PySem PySem.Spec PyProof.Rows L2
section
variable {fx : Fx} {P : Ctx} {X : Cx} {N : List Str} {sc : Scope} {pos : Pos} {e : Expr} {c : E}
theorem sw_sub {e a b : Expr} {p : Pos} {l : Nat} : swapsWith e (some (.Subscript a b p)) l X.env = pure false := by cases e <;> rfl
theorem ownd_or (ρ : Env) (i : Nat) : (∃ t ks vs, ρ[i]? = some (.own (.dct t ks vs))) ∨ ∀ t ks vs, ρ[i]? ≠ some (.own (.dct t ks vs)) := by
  by_cases h : ∃ t ks vs, ρ[i]? = some (.own (.dct t ks vs))
  · exact .inl h
  · exact .inr fun t ks vs z => h ⟨t, ks, vs, z⟩
theorem c_put {i : Nat} {x : Str} {px ps : Pos} {k v : E} {ke ve : Expr} (G : GoodS fx P N sc X) (h1 : N[i]? = some x) (h2 : visB sc x = true) (h3 : okName x = true) (h4 : chkE N k false ke sc = true) (h5 : chkE N v false ve sc = true) :
    PS X (.Assign [.Subscript (.Name x px) ke ps] ve pos) (tC fx P (.put i k v)) := by
  obtain ⟨o1, o2, o3⟩ := okName_is h3
  have pv : PE X (.Name x px) (tVar i) := pe_var (by rw [G.hN]; exact h1) (G.toGoodX.vis h2) o1 o2
  refine (ps_dput (G.toGoodX.u 1 (by omega)) pv ((allE k).pe X sc G.toGoodX ke h4) ((allE v).pe X sc G.toGoodX ve h5) sw_sub).weak fun D σ H ⟨lk, F, ρ, g, I, h⟩ => ?_
  simp only [evalC] at h
  rcases ownd_or ρ i with ⟨t, ks, vs, hi⟩ | hn
  · obtain ⟨p, s1, s2, s3, s4, s5⟩ := I.sl _ _ hi
    refine ⟨lk, F, ρ, g, I, (Acc.bind.mp h).imp (fun d g1 h1 w H1 F1 I1 e1 r1 => ?_) fun _ _ _ x => x⟩
    refine ⟨_, s1, lk, F1, ρ, g1, I1, (Acc.bind.mp h1).imp (fun kd g2 h2 y H2 F2 I2 e2 r2 => ?_) fun _ _ _ x => x⟩
    rw [hi] at h2
    dsimp only at h2
    obtain ⟨p', s1', s2', s3', s4', s5'⟩ := I2.sl _ _ hi
    rw [s1] at s1'; cases s1'
    split at h2
    · rename_i hz
      simp only [Bool.and_eq_true, decide_eq_true_eq] at hz
      obtain ⟨ok, hz⟩ := hz
      have r1' := r1.mono e2.f
      cases t with
      | false =>
        obtain ⟨kvs, z1, rfl, z3⟩ := s5'
        obtain ⟨ky, rfl⟩ := key_ok_flat ok
        have := keyR r2
        subst this
        obtain ⟨q1, q2⟩ := dput_K (k := ky) r1' z3
        refine ⟨p, _, rfl, .inl ⟨kvs, ky, z1, rfl, by rw [sizeLine_eq]; simpa using hz, rfl⟩, ?_⟩
        exact h2 σ _ F2 (I2.write hi s1 ⟨_, upd_same, q1, q2⟩) (e1.f.trans e2.f)
      | true =>
        obtain ⟨kvs, z1, rfl, z3⟩ := s5'
        cases kd with
        | tup zs =>
          cases zs with
          | nil => simp [keyOk] at ok
          | cons z zs =>
            simp only [keyOk, Bool.true_and] at ok
            obtain ⟨ky, e⟩ := keys_of_flat ok
            cases r2 with
            | tup hF rr =>
              rw [← e] at rr h2
              have := reps_keys rr
              subst this
              obtain ⟨q1, q2⟩ := dput_T (k := ky) r1' z3
              refine ⟨p, _, rfl, .inr ⟨kvs, ky, _, z1, rfl, I2.exF.tup hF, by rw [sizeLine_eq]; simpa using hz, rfl⟩, ?_⟩
              exact h2 σ _ F2 (I2.write hi s1 ⟨_, upd_same, q1, q2⟩) (e1.f.trans e2.f)
        | _ => simp [keyOk] at ok
    · exact h2.elim
  · refine (Acc.none noX_f ((Acc.bind.mp h).imp (fun d g1 h1 => ?_) fun _ _ _ x => x)).elim
    refine Acc.none noX_f ((Acc.bind.mp h1).imp (fun d g1 h2 => ?_) fun _ _ _ x => x)
    split at h2
    · rename_i hi
      exact hn _ _ _ hi
    · exact h2
/-! ### loops -/
theorem OkI.of_SR {lk : Lk} {σ1 σ : L2.St} {F1 H1 F H : Hp} {ρ1 ρ : Env} {g1 g : G} (I1 : SR fx lk σ1 F1 H1 ρ1 g1) (I : SR fx lk σ F H ρ g) (e : Ex F1 F) : OkI false fx lk F1 H1 F H := by
  refine ⟨e, I.exF, fun a od u n hl h => ?_, fun z => by cases z⟩
  by_cases hm : a ∈ lk.map (·.1)
  · obtain ⟨l, hl2, rfl⟩ := List.mem_map.mp hm
    have q1 := (I1.lock l hl2).1
    have q := (I.lock l hl2).1
    rw [h] at q1; rw [q, ← q1]
  · rcases hl with hl | hl
    · exact (hm hl).elim
    · exact I.base _ _ n hm hl
theorem for_loop {t : T} {body : C} {lk : Lk} {σ : L2.St} {F0 F1 H1 : Hp} {ρ : Env} {g1 : G} {D : Ends} {J : It} {ds : List MW.D} (I1 : SR fx lk σ F1 H1 ρ g1) (wk : Wk false fx lk F1 H1 J ds) (e0 : Ex F0 F1)
    (h : Acc (KC fx lk F0 D) noX (forL t (fun ρ g => evalC P body ρ g) ds ρ g1)) :
    ∃ W : Nat → Nat → L2.St → Hp → Prop, (∃ m, W 0 m σ H1) ∧ ∀ i m σ H, W i m σ H →
      (J.stop i H ∧ D.nx σ H) ∨ (J.go i H ∧ ∃ N : L2.St → Hp → Prop, (∀ σ' H', N σ' H' → ∃ m', m' < m ∧ W (i + 1) m' σ' H') ∧ ∀ x H', J.yld i H x H' → tGd fx t x σ H' fun σ2 H2 => tC fx P body { D with nx := N, ct := N, bk := D.nx } σ2 H2) := by
  let Wd : Nat → L2.St → Hp → Prop := fun i σ H => ∃ F ρ g, SR fx lk σ F H ρ g ∧ Ex F1 F ∧ Acc (KC fx lk F D) noX (forL t (fun ρ g => evalC P body ρ g) (ds.drop i) ρ g)
  refine ⟨fun i m σ H => m = ds.length - i ∧ i ≤ ds.length ∧ Wd i σ H, ⟨ds.length, by simp, Nat.zero_le _, F1, ρ, g1, I1, Ex.refl _, h.imp (fun o g k => k.mono e0) fun _ _ _ x => x⟩, ?_⟩
  rintro i m σ H ⟨rfl, hi, F, ρ, g, I, eF, h⟩
  have ok := OkI.of_SR I1 I eF
  by_cases hlt : i < ds.length
  · right
    obtain ⟨hgo, hy⟩ := (wk F H ok).2 i ds[i] (by simp [hlt])
    refine ⟨hgo, Wd (i + 1), fun σ' H' w => ⟨ds.length - (i + 1), by omega, rfl, hlt, w⟩, fun x H' yl => ?_⟩
    obtain ⟨F2, w, rx⟩ := hy x H' yl
    rw [drop_at hlt] at h
    simp only [forL] at h
    have I2 := I.grow w
    cases hb : bindT t ds[i] ρ with
    | none => rw [hb] at h; exact h.elim
    | some ρ1 =>
      rw [hb] at h
      refine ⟨lk, F2, ρ, g, _, ρ1, I2, rx, hb, fun σ2 I3 _ => ?_⟩
      refine ⟨lk, F2, ρ1, g, I3, (Acc.bind.mp h).imp (fun o g3 h3 => ?_) fun _ _ _ x => x⟩
      have e2 := eF.trans w.f
      cases o with
      | nx ρ2 => exact fun σ' H' F' I' e' => ⟨F', ρ2, g3, I', e2.trans e', Acc.imp h3 (fun o g k => k.mono (w.f.trans e')) fun _ _ _ x => x⟩
      | ct ρ2 => exact fun σ' H' F' I' e' => ⟨F', ρ2, g3, I', e2.trans e', Acc.imp h3 (fun o g k => k.mono (w.f.trans e')) fun _ _ _ x => x⟩
      | bk ρ2 => exact fun σ' H' F' I' e' => (show KC fx lk F D (.nx ρ2) g3 from h3) σ' H' F' I' (w.f.trans e')
      | rt d => exact fun v σ' ρ' H' F' I' e' r => (show KC fx lk F D (.rt d) g3 from h3) v σ' ρ' H' F' I' (w.f.trans e') r
  · left
    have e : i = ds.length := by omega
    subst e
    refine ⟨(wk F H ok).1, ?_⟩
    rw [List.drop_length] at h
    exact (show KC fx lk F D (.nx ρ) g from h) σ H F I (Ex.refl _)
def tForR (fx : Fx) (P : Ctx) (t : T) (it : E) (body : C) : TS := fun D σ H => ∃ lk F ρ g, SR fx lk σ F H ρ g ∧ LockedFor it σ ρ H ∧ Acc (KC fx lk F D) noX (evalC P (.for_ t it body) ρ g)
theorem for_read {t : T} {it : E} {body : C} {D : Ends} {σ : L2.St} {H : Hp} (h : tForR fx P t it body D σ H) : tFor (tI false fx P it) (tGd fx t) (tC fx P body) D σ H := by
  obtain ⟨lk, F, ρ, g, I, L, h⟩ := h
  simp only [evalC] at h
  refine ⟨lk, F, ρ, g, I, L, ?_⟩
  show Acc _ noX (evalE P it ρ g)
  refine (Acc.bind.mp h).imp (fun d g1 h1 => ?_) fun _ _ _ x => x
  cases z : itemsE it d with
  | none => rw [z] at h1; exact h1.elim
  | some ds =>
    rw [z] at h1
    exact ⟨ds, rfl, fun J F1 H1 I1 e1 wk => for_loop I1 wk e1.f h1⟩
theorem KC.lock {lk : Lk} {F : Hp} {D : Ends} {o : Out} {g : G} {d : Addr} {od : Obj} {u : HO} (nlk : d ∉ lk.map (·.1)) (k : KC fx lk F D o g) :
    KC fx ((d, od, u) :: lk) F ⟨fun σ' H' => H' d = some (.frz od u) ∧ D.nx σ' (upd H' d u), fun v H' => H' d = some (.frz od u) ∧ D.rt v (upd H' d u), fun σ' H' => H' d = some (.frz od u) ∧ D.bk σ' (upd H' d u), fun σ' H' => H' d = some (.frz od u) ∧ D.ct σ' (upd H' d u)⟩ o g := by
  cases o with
  | nx ρ => exact fun σ' H' F' I e => ⟨(I.lock _ (List.mem_cons_self ..)).1, k σ' _ F' (I.unlocked nlk) e⟩
  | bk ρ => exact fun σ' H' F' I e => ⟨(I.lock _ (List.mem_cons_self ..)).1, k σ' _ F' (I.unlocked nlk) e⟩
  | ct ρ => exact fun σ' H' F' I e => ⟨(I.lock _ (List.mem_cons_self ..)).1, k σ' _ F' (I.unlocked nlk) e⟩
  | rt d => exact fun v σ' ρ' H' F' I e r => ⟨(I.lock _ (List.mem_cons_self ..)).1, k v σ' ρ' _ F' (I.unlocked nlk) e r⟩
theorem c_for {t : T} {it : E} {body : C} {tg i : Expr} {p : List Stmt} (G : GoodS fx P N sc X) (h1 : chkE N it true i sc = true) (h2 : itOk it tg = true) (h3 : chkT N t tg sc = true) (hb : PSs X p (tC fx P body)) : PS X (.For tg i p [] pos) (tC fx P (.for_ t it body)) := by
  have S := ps_for (pos := pos) G.own G.calm ((allE it).pi false X sc G.toGoodX i tg h1 h2) ((pg_all G.hN G.nd G.K G.calm G.loc t).1 tg h3) hb (noFold (iter_noset h1) _)
  refine (S.or (ps_lock S)).weak fun D σ H ⟨lk, F, ρ, g, I, h⟩ => ?_
  rcases lock_or I it with L | ⟨d, u, hF, hH, hu, L⟩
  · exact .inl (for_read ⟨lk, F, ρ, g, I, L, h⟩)
  · refine .inr ⟨d, u, hH, ?_, fun od => for_read ?_⟩
    · rcases hu with ⟨k, rfl⟩ | ⟨k, rfl⟩ <;> trivial
    · obtain ⟨I1, nlk⟩ := I.locked hF hH hu od
      exact ⟨_, F, ρ, g, I1, L od, h.imp (fun o g k => k.lock nlk) fun _ _ _ x => x⟩
theorem c_while {t : E} {body : C} {tc : Expr} {p : List Stmt} (G : GoodS fx P N sc X) (h1 : PT X tc (tTs fx P t)) (hb : PSs X p (tC fx P body)) : PS X (.While tc p [] pos) (tC fx P (.while_ t body)) := by
  refine (ps_while (pos := pos) G.own h1 hb).weak fun D σ H ⟨lk, F, ρ, g, I, h⟩ => ?_
  simp only [evalC] at h
  generalize 1099511627776 = n at h
  refine ⟨fun m σ H => ∃ F ρ g, SR fx lk σ F H ρ g ∧ Acc (KC fx lk F D) noX (whileL (fun ρ g => brw t ρ g (evalE P t ρ g)) (fun ρ g => evalC P body ρ g) m ρ g), ⟨n, F, ρ, g, I, h⟩, ?_⟩
  rintro m σ H ⟨F, ρ, g, I, h⟩
  cases m with
  | zero => exact h.elim
  | succ m =>
    simp only [whileL] at h
    refine seqT I h fun d1 g1 h1 => ?_
    cases z : truth d1 with
    | none => rw [z] at h1; exact h1.elim
    | some b =>
      rw [z] at h1
      refine ⟨b, rfl, fun H1 F1 I1 e1 => ?_⟩
      cases b with
      | false => exact (show KC fx lk F D (.nx ρ) g1 from h1) σ H1 F1 I1 e1.f
      | true =>
        refine ⟨fun σ' H' => ∃ F ρ g, SR fx lk σ' F H' ρ g ∧ Acc (KC fx lk F D) noX (whileL (fun ρ g => brw t ρ g (evalE P t ρ g)) (fun ρ g => evalC P body ρ g) m ρ g), fun σ' H' w => ⟨m, Nat.lt_succ_self _, w⟩, ?_⟩
        refine ⟨lk, F1, ρ, g1, I1, (Acc.bind.mp h1).imp (fun o g3 h3 => ?_) fun _ _ _ x => x⟩
        cases o with
        | nx ρ2 => exact fun σ' H' F' I' e' => ⟨F', ρ2, g3, I', Acc.imp h3 (fun o g k => k.mono (e1.f.trans e')) fun _ _ _ x => x⟩
        | ct ρ2 => exact fun σ' H' F' I' e' => ⟨F', ρ2, g3, I', Acc.imp h3 (fun o g k => k.mono (e1.f.trans e')) fun _ _ _ x => x⟩
        | bk ρ2 => exact fun σ' H' F' I' e' => (show KC fx lk F D (.nx ρ2) g3 from h3) σ' H' F' I' (e1.f.trans e')
        | rt d => exact fun v σ' ρ' H' F' I' e' r => (show KC fx lk F D (.rt d) g3 from h3) v σ' ρ' H' F' I' (e1.f.trans e') r
/-! ### all statements -/
theorem noComp {e : Expr} (h : isComp e = false) {l : Nat} {env : PySem.Env} : swapsWith e none l env = pure false := by
  cases e <;> first | rfl | (simp [isComp] at h; done)
theorem allC (G : GoodS fx P N sc X) : ∀ c : C, (∀ st, chkC N c st sc = true → PS X st (tC fx P c)) ∧ (∀ sts, chkB N c sts sc = true → PSs X sts (tC fx P c)) := by
  have no : ∀ {c : C}, (∀ sts, chkB N c sts sc = false) → ∀ sts, chkB N c sts sc = true → PSs X sts (tC fx P c) := fun h sts z => by rw [h] at z; cases z
  have G' := G.toGoodX
  intro c
  induction c with
  | nil =>
    refine ⟨fun st h => by simp [chkC] at h, fun sts h => ?_⟩
    cases sts with
    | nil => exact c_nil
    | cons _ _ => simp [chkB] at h
  | seq a r iha ihr =>
    refine ⟨fun st h => by simp [chkC] at h, fun sts h => ?_⟩
    have go : (∀ is, a ≠ .frz is) → (∀ is, a ≠ .drop is) → PSs X sts (tC fx P (.seq a r)) := fun n1 n2 => by
      cases sts with
      | nil =>
        exfalso
        cases a <;> first | exact n1 _ rfl | exact n2 _ rfl | (simp [chkB] at h; done)
      | cons st rest =>
        have h' : chkC N a st sc = true ∧ chkB N r rest sc = true := by
          cases a <;> first | exact (n1 _ rfl).elim | exact (n2 _ rfl).elim | (simpa [chkB] using h)
        exact c_seq (iha.1 _ h'.1) (ihr.2 _ h'.2)
    cases a with
    | frz is =>
      simp only [chkB] at h
      exact c_frz (ihr.2 _ h)
    | drop is =>
      simp only [chkB] at h
      exact c_drop (ihr.2 _ h)
    | _ => exact go (fun _ z => by cases z) (fun _ z => by cases z)
  | asg t e =>
    refine ⟨fun st h => ?_, no fun _ => rfl⟩
    simp only [chkC] at h
    split at h
    · simp only [Bool.and_eq_true] at h
      exact c_asg G h.1.1 h.1.2 h.2
    · cases h
  | own i e =>
    refine ⟨fun st h => ?_, no fun _ => rfl⟩
    simp only [chkC] at h
    split at h
    · simp only [Bool.and_eq_true, decide_eq_true_eq] at h
      exact c_own G h.1.1 h.1.2 h.2
    · cases h
  | app i e =>
    refine ⟨fun st h => ?_, no fun _ => rfl⟩
    simp only [chkC] at h
    split at h
    · simp only [Bool.and_eq_true, decide_eq_true_eq, Bool.not_eq_true'] at h
      obtain ⟨⟨⟨⟨⟨⟨rfl, h1⟩, h2⟩, h3⟩, h4⟩, h5⟩, h6⟩ := h
      exact c_app G h1 h2 h3 h4 h5 h6
    · cases h
  | ext i e =>
    refine ⟨fun st h => ?_, no fun _ => rfl⟩
    simp only [chkC] at h
    split at h
    · simp only [Bool.and_eq_true, decide_eq_true_eq, Bool.not_eq_true'] at h
      obtain ⟨⟨⟨⟨⟨⟨rfl, h1⟩, h2⟩, h3⟩, h4⟩, h5⟩, h6⟩ := h
      exact c_ext G h1 h2 h3 h4 h5 h6
    · cases h
  | put i k v =>
    refine ⟨fun st h => ?_, no fun _ => rfl⟩
    simp only [chkC] at h
    split at h
    · simp only [Bool.and_eq_true, decide_eq_true_eq] at h
      obtain ⟨⟨⟨⟨h1, h2⟩, h3⟩, h4⟩, h5⟩ := h
      exact c_put G h1 h2 h3 h4 h5
    · cases h
  | setL => exact ⟨fun st h => by simp [chkC] at h, no fun _ => rfl⟩
  | frz => exact ⟨fun st h => by simp [chkC] at h, no fun _ => rfl⟩
  | drop => exact ⟨fun st h => by simp [chkC] at h, no fun _ => rfl⟩
  | ex e =>
    refine ⟨fun st h => ?_, no fun _ => rfl⟩
    simp only [chkC] at h
    split at h
    · simp only [Bool.and_eq_true, Bool.not_eq_true'] at h
      exact c_ex ((allE e).pe X sc G' _ h.2) (noComp h.1)
    · cases h
  | aug i o e =>
    refine ⟨fun st h => ?_, no fun _ => rfl⟩
    simp only [chkC] at h
    split at h
    · simp only [Bool.and_eq_true, decide_eq_true_eq] at h
      obtain ⟨⟨⟨⟨h1, h2⟩, h3⟩, h4⟩, h5⟩ := h
      rw [opB_is h3]
      exact c_aug G h1 h2 h4 h5
    · cases h
  | if_ t a b iha ihb =>
    refine ⟨fun st h => ?_, no fun _ => rfl⟩
    simp only [chkC] at h
    split at h
    · simp only [Bool.and_eq_true] at h
      exact c_if ((allE t).pt X sc G' _ h.1.1) (iha.2 _ h.1.2) (ihb.2 _ h.2)
    · cases h
  | for_ t it body ih =>
    refine ⟨fun st h => ?_, no fun _ => rfl⟩
    simp only [chkC] at h
    split at h
    · simp only [Bool.and_eq_true] at h
      exact c_for G h.1.1.1 h.1.1.2 h.1.2 (ih.2 _ h.2)
    · cases h
  | while_ t body ih =>
    refine ⟨fun st h => ?_, no fun _ => rfl⟩
    simp only [chkC] at h
    split at h
    · simp only [Bool.and_eq_true] at h
      exact c_while G ((allE t).pt X sc G' _ h.1) (ih.2 _ h.2)
    · cases h
  | ret e =>
    refine ⟨fun st h => ?_, no fun _ => rfl⟩
    simp only [chkC] at h
    split at h
    · exact c_ret ((allE e).pe X sc G' _ h)
    · cases h
  | retN =>
    refine ⟨fun st h => ?_, no fun _ => rfl⟩
    simp only [chkC] at h
    split at h
    · exact c_retN
    · cases h
  | pass =>
    refine ⟨fun st h => ?_, no fun _ => rfl⟩
    simp only [chkC] at h
    split at h
    · exact c_pass
    · cases h
  | brk =>
    refine ⟨fun st h => ?_, no fun _ => rfl⟩
    simp only [chkC] at h
    split at h
    · exact c_brk
    · cases h
  | cont =>
    refine ⟨fun st h => ?_, no fun _ => rfl⟩
    simp only [chkC] at h
    split at h
    · exact c_cont
    · cases h
  | rais => exact ⟨fun st h => by simp [chkC] at h, no fun _ => rfl⟩
  | tryx => exact ⟨fun st h => by simp [chkC] at h, no fun _ => rfl⟩
end
end MW

end
section
set_option Elab.async false
set_option linter.all false
set_option maxRecDepth 100000
set_option maxHeartbeats 4000000
namespace MW
open PySem PySem.Spec PyProof.Rows L2
section
variable {P : Program} {w : World} {K : PySem.W.Frag} {mg : Str → Option Value} {base : Heap}
/-- a def of the text, with its term -/
structure DefOk (P : Program) (w : World) (K : PySem.W.Frag) (mg : Str → Option Value) (base : Heap) (dfl : Nat → List D) (f : String) (fd : FDef) : Prop where
  ex : ∃ (a : Addr) (fdt : FuncData) (N ps : List Str) (st : Stmt), FnScope N ps (defScope st) ∧
    (∀ (k : Nat) (sp : Sp), (∀ vs H Q E, sp vs H Q E → vs.length = ps.length) →
      (∀ (cdv : Value) (A : Around) (outer : List PySem.Env) (s : Shared) (H : Hp) (vs : List V) (Q : VK) (E : XK), Room k (A.deeper (envOfC (Str.ofString f) (defScope st) s.heap.objs.size a cdv)) → sp vs H Q E →
        ∃ t, PSs (cxOf CX0 P w K mg base N (Str.ofString f) (defScope st) a cdv A outer s H E).nox (defBody st) t ∧ t { nx := fun _ H' => Q .non H', rt := Q } (start N vs) H) → FnOk P w K mg base CX0 (k + 1) a fdt ps sp) ∧
    mg (Str.ofString f) = some (.ref a) ∧ PySem.W.keepIn K (.ref a) = true ∧ fd.np = ps.length ∧ fd.n = N.length ∧ chkB N fd.body (defBody st) (defScope st) = true ∧
    ∀ j, ∃ ds dvs, Binds K fdt ps ds ∧ Vals dvs ds ∧ ∀ ap F, RepL K ap F (dfl j) dvs
structure PrimOk (P : Program) (w : World) (K : PySem.W.Frag) (mg : Str → Option Value) (base : Heap) (dfl : Nat → List D) (f : String) (l : Nat) (cl : List Int → List D → G → Res D) : Prop where
  ex : ∃ (a : Addr) (fdt : FuncData) (ps : List Str), FnOk P w K mg base CX0 l a fdt ps (spD K cl) ∧ mg (Str.ofString f) = some (.ref a) ∧ PySem.W.keepIn K (.ref a) = true ∧
    ∀ j, ∃ ds dvs, Binds K fdt ps ds ∧ Vals dvs ds ∧ ∀ ap F, RepL K ap F (dfl j) dvs
/-- the module behind its top -/
structure ModOk (P : Program) (w : World) (K : PySem.W.Frag) (mg : Str → Option Value) (base : Heap) (defs : String → Option FDef) (dfl : String → Nat → List D) (const : String → Option D) : Prop where
  blt : ∀ x ∈ bnames, mg (Str.ofString x) = none
  const : ∀ x d, const x = some d → ∃ u v, mg (Str.ofString x) = some u ∧ RelV v u ∧ ∀ ap F, Rep K ap F d v
  defs : ∀ f fd, defs f = some fd → DefOk P w K mg base (dfl f) f fd
  next : PrimOk P w K mg base (dfl "_law_next") "_law_next" 3 primNext
  draw : PrimOk P w K mg base (dfl "_law_draw") "_law_draw" 3 primDraw
variable {defs : String → Option FDef} {dfl : String → Nat → List D} {const : String → Option D}
theorem PrimOk.of (M : ModOk P w K mg base defs dfl const) {f : String} {scr : List Int} {l : Nat} {F : List D → G → Res D} (h : prims scr f = some (l, F)) : ∃ cl, cl scr = F ∧ PrimOk P w K mg base (dfl f) f l cl := by
  unfold prims at h
  split at h
  · rename_i e
    subst e; cases h
    exact ⟨primNext, rfl, M.next⟩
  · split at h
    · rename_i e
      subst e; cases h
      exact ⟨primDraw, rfl, M.draw⟩
    · cases h
theorem prims_none {scr scr' : List Int} {f : String} (h : prims scr f = none) : prims scr' f = none := by
  unfold prims at h ⊢
  split at h
  · cases h
  · split at h
    · cases h
    · rename_i h1 h2
      rw [if_neg h1, if_neg h2]
/-- the state at a def's entry -/
theorem SR.entry {scr : List Int} {ap : Addr} {H F : Hp} {ds : List D} {g : G} {vs : List V} {N : List Str} {n : Nat} (ex : ExF F H) (p : PoolOk ⟨K, ap, scr, H, F⟩ F H g) (r : RepL K ap F ds vs) (hn : n = N.length) (hd : ds.length ≤ n) : SR ⟨K, ap, scr, H, F⟩ [] (L2.start N vs) F H (startE n ds) g := by
  have hl := r.len
  refine ⟨ex, Ex.refl _, fun a o _ _ q => q, fun e he => (by cases he), fun a o q => .inl q, ?_, fun i s e => ?_, fun i j d e q h1 => ?_, p, fun a u od u' h1 h2 h3 => .inr h3⟩
  · simp [L2.start, startE]; omega
  · unfold startE at e
    by_cases hi : i < ds.length
    · rw [List.getElem?_append_left (by simpa using hi), List.getElem?_map] at e
      obtain ⟨d, hd, rfl⟩ := Option.map_eq_some_iff.mp e
      obtain ⟨v, hv, rv⟩ := r.at' hd
      refine ⟨v, ?_, rv⟩
      unfold L2.start
      rw [List.getElem?_append_left (by simpa [← hl] using hi), List.getElem?_map, hv]
      rfl
    · rw [List.getElem?_append_right (by simpa using hi)] at e
      have := List.mem_of_getElem? e
      rw [List.mem_replicate] at this
      rw [this.2]; trivial
  · exfalso
    unfold startE at h1
    by_cases hi : i < ds.length
    · rw [List.getElem?_append_left (by simpa using hi), List.getElem?_map] at h1
      obtain ⟨d, _, h⟩ := Option.map_eq_some_iff.mp h1
      cases h
    · rw [List.getElem?_append_right (by simpa using hi)] at h1
      have := List.mem_of_getElem? h1
      rw [List.mem_replicate] at this
      cases this.2
/-- at a def's end -/
theorem SR.leave {scr : List Int} {ap : Addr} {H F : Hp} {σ : L2.St} {F' H' : Hp} {ρ : Env} {g : G} (I : SR ⟨K, ap, scr, H, F⟩ [] σ F' H' ρ g) : GP ap F H F' H' := by
  refine ⟨I.ex0, fun a o n q => I.base a o n (by simp) q, fun a o n q => ?_⟩
  rcases I.new a o q with z | z
  · exact .inl z
  · right
    have z : H a = none := z
    refine ⟨z, ?_⟩
    rcases I.exF a o q with y | ⟨hu, od, y⟩
    · exact y
    · rcases I.fz a o od o q hu y with k | k
      · simp at k
      · have k : H a = _ := k
        rw [z] at k; cases k
theorem good_at (M : ModOk P w K mg base defs dfl const) {k : Nat} (ih : ∀ f fd, defs f = some fd → ∀ scr0, prims scr0 f = none → ∃ (a : Addr) (fdt : FuncData) (ps : List Str), FnOk P w K mg base CX0 k a fdt ps (spD K fun scr => run (prog defs dfl const scr) k f) ∧ mg (Str.ofString f) = some (.ref a) ∧ PySem.W.keepIn K (.ref a) = true ∧
    ∀ j, ∃ ds dvs, Binds K fdt ps ds ∧ Vals dvs ds ∧ ∀ ap F, RepL K ap F (dfl f j) dvs) {scr : List Int} {ap : Addr} {H F Hc : Hp} {N ps : List Str} {x : Str} {sc : Scope} (S : FnScope N ps sc) {a : Addr} {cdv : Value} {A : Around} {outer : List PySem.Env} {s : Shared} {E : XK}
    (hr : Room k (A.deeper (envOfC x sc s.heap.objs.size a cdv))) : GoodS ⟨K, ap, scr, H, F⟩ ⟨run (prog defs dfl const scr) k, dfl, const⟩ N sc (cxOf CX0 P w K mg base N x sc a cdv A outer s Hc E).nox := by
  refine ⟨⟨rfl, S.nd, rfl, rfl, ?_, rfl, S.kind, M.blt, M.const, fun f j => ?_⟩, fun y hy => ?_, PassesOwn.never⟩
  · have := hr.un
    show (A.deeper (envOfC x sc s.heap.objs.size a cdv)).units + 200 < cLine
    omega
  · cases k with
    | zero => exact .inl fun _ _ => rfl
    | succ k =>
      show (∀ xs g, run (prog defs dfl const scr) (k + 1) f xs g = .bad) ∨ _
      cases q : prims scr f with
      | some p =>
        obtain ⟨l, Fp⟩ := p
        by_cases hl : l ≤ k + 1
        · right
          obtain ⟨cl, hcl, pr⟩ := PrimOk.of M q
          obtain ⟨a', fdt, ps', Fn, h1, h2, h3⟩ := pr.ex
          obtain ⟨ds, dvs, h4, h5, h6⟩ := h3 j
          refine ⟨a', fdt, ps', l, ds, dvs, cl, Fn, ?_, hr.mono hl, h1, h2, h4, h5, fun ap F => h6 ap F⟩
          show cl scr = run (prog defs dfl const scr) (k + 1) f
          rw [hcl]
          funext ds g
          simp only [run, prog, q, hl, if_true]
        · left
          intro xs g
          simp only [run, prog, q, hl, if_false]
      | none =>
        cases q2 : defs f with
        | none =>
          left
          intro xs g
          simp only [run, prog, q, q2]
        | some fd =>
          right
          obtain ⟨a', fdt, ps', Fn, h1, h2, h3⟩ := ih f fd q2 scr q
          obtain ⟨ds, dvs, h4, h5, h6⟩ := h3 j
          exact ⟨a', fdt, ps', k + 1, ds, dvs, _, Fn, rfl, hr, h1, h2, h4, h5, fun ap F => h6 ap F⟩
  · unfold locB at hy
    split at hy
    · rename_i e; exact ⟨.inl e, .inl rfl⟩
    · rename_i e; exact ⟨.inr e, .inl rfl⟩
    · cases hy
/-- every def keeps the promise that the evaluator tells -/
theorem defs_ok (M : ModOk P w K mg base defs dfl const) : ∀ (k : Nat) (f : String) (fd : FDef), defs f = some fd → ∀ scr0, prims scr0 f = none → ∃ (a : Addr) (fdt : FuncData) (ps : List Str), FnOk P w K mg base CX0 k a fdt ps (spD K fun scr => run (prog defs dfl const scr) k f) ∧ mg (Str.ofString f) = some (.ref a) ∧ PySem.W.keepIn K (.ref a) = true ∧
    ∀ j, ∃ ds dvs, Binds K fdt ps ds ∧ Vals dvs ds ∧ ∀ ap F, RepL K ap F (dfl f j) dvs := by
  intro k
  induction k with
  | zero =>
    intro f fd hf scr0 hp
    obtain ⟨a, fdt, N, ps, st, S, rule, h1, h2, h3, h4, h5, h6⟩ := (M.defs f fd hf).ex
    have nope : ∀ vs H Q E, ¬ spD K (fun scr => run (prog defs dfl const scr) 0 f) vs H Q E := fun vs H Q E ⟨scr, ap, F, ds, g, _, _, _, h⟩ => h
    exact ⟨a, fdt, ps, ⟨fun vs H Q E h => (nope _ _ _ _ h).elim, fun A outer s H args us vs Q E _ _ _ _ h => (nope _ _ _ _ h).elim⟩, h1, h2, h6⟩
  | succ k ih =>
    intro f fd hf scr0 hp
    obtain ⟨a, fdt, N, ps, st, S, rule, h1, h2, h3, h4, h5, h6⟩ := (M.defs f fd hf).ex
    have unf : ∀ scr ds g, run (prog defs dfl const scr) (k + 1) f ds g = if ds.length = fd.np then fin (evalC ⟨run (prog defs dfl const scr) k, dfl, const⟩ fd.body (startE fd.n ds) g) else .bad := fun scr ds g => by
      simp only [run, prog, prims_none (scr' := scr) hp, hf]
    refine ⟨a, fdt, ps, rule k _ (fun vs H Q E h => ?_) (fun cdv A outer s H vs Q E hr h => ?_), h1, h2, h6⟩
    · obtain ⟨scr, ap, F, ds, g, ex, p, r, h⟩ := h
      change Acc _ noX (run (prog defs dfl const scr) (k + 1) f ds g) at h
      rw [unf] at h
      split at h
      · rename_i hl
        rw [← r.len, hl, h3]
      · exact h.elim
    · obtain ⟨scr, ap, F, ds, g, ex, p, r, h⟩ := h
      change Acc _ noX (run (prog defs dfl const scr) (k + 1) f ds g) at h
      rw [unf] at h
      split at h
      · rename_i hl
        have G := good_at (E := E) (outer := outer) (ap := ap) (scr := scr) (H := H) (F := F) (Hc := H) M ih S hr
        refine ⟨_, ((allC G fd.body).2 _ h5), [], F, startE fd.n ds, g, SR.entry ex p r h4 ?_, ?_⟩
        · have : ps.length ≤ N.length := by have := congrArg List.length S.pre; rw [List.length_take] at this; omega
          omega
        · cases q : evalC ⟨run (prog defs dfl const scr) k, dfl, const⟩ fd.body (startE fd.n ds) g with
          | bad => rw [q] at h; exact h.elim
          | exc c fs g' => rw [q] at h; exact h.elim
          | ok o g' =>
            rw [q] at h
            cases o with
            | rt d => exact fun v σ' ρ' H' F' I' e' rv => h v H' F' I'.exF I'.leave I'.pool rv
            | nx ρ' => exact fun σ' H' F' I' e' => h .non H' F' I'.exF I'.leave I'.pool .non
            | bk ρ' => exact h.elim
            | ct ρ' => exact h.elim
      · exact h.elim
end
end MW

end
section
set_option Elab.async false
set_option linter.all false
set_option maxRecDepth 100000
set_option maxHeartbeats 4000000
namespace MW
open PySem PySem.Spec PyProof.Rows L2
/-! ### the length of numbers -/
def bt (i : Int) : Nat := Builtin.Int.intBits i
theorem bt_le {i : Int} {n : Nat} : bt i ≤ n ↔ i.natAbs < 2 ^ n := by
  unfold bt Builtin.Int.intBits
  by_cases h : i = 0
  · subst h
    simp only [beq_self_eq_true, if_true, Nat.zero_le, Int.natAbs_zero, true_iff]
    exact Nat.pos_of_ne_zero (by simp)
  · have : (i == 0) = false := by simpa using h
    rw [this]
    simp only [Bool.false_eq_true, if_false]
    have h0 : i.natAbs ≠ 0 := by omega
    rw [← Nat.log2_lt h0]
    omega
theorem bt_lt (i : Int) : i.natAbs < 2 ^ bt i := bt_le.mp (Nat.le_refl _)
theorem pow_up {a n m : Nat} (h : a < 2 ^ n) (hm : n ≤ m) : a < 2 ^ m := Nat.lt_of_lt_of_le h (Nat.pow_le_pow_right (by omega) hm)
theorem bt_add {i j : Int} {n : Nat} (hi : bt i ≤ n) (hj : bt j ≤ n) : bt (i + j) ≤ n + 1 := by
  rw [bt_le] at hi hj ⊢
  rw [Nat.pow_succ]
  omega
theorem bt_sub {i j : Int} {n : Nat} (hi : bt i ≤ n) (hj : bt j ≤ n) : bt (i - j) ≤ n + 1 := by
  rw [bt_le] at hi hj ⊢
  rw [Nat.pow_succ]
  omega
theorem bt_mul (i j : Int) : bt (i * j) ≤ bt i + bt j := by
  rw [bt_le, Int.natAbs_mul, Nat.pow_add]
  exact Nat.mul_lt_mul'' (bt_lt i) (bt_lt j)
theorem bt_mod {i m : Int} (h : 0 < m) : bt (i % m) ≤ bt m := by
  rw [bt_le]
  have h1 := Int.emod_nonneg i (show m ≠ 0 by omega)
  have h2 := Int.emod_lt_of_pos i h
  have := bt_lt m
  omega
theorem bt_mono {i j : Int} (h : i.natAbs ≤ j.natAbs) : bt i ≤ bt j := by
  rw [bt_le]; exact Nat.lt_of_le_of_lt h (bt_lt j)
theorem op_mulB {X : Cx} : OpR X (binaryOp .Mult) (rI (fun i j => bt i + bt j ≤ 134217728) fun i j => .int (i * j)) := opI fun i j _ _ _ _ _ hc q => mul_int q (by
  have h : Builtin.Int.intTooBig (Builtin.Int.intBits i + Builtin.Int.intBits j) = false := by
    unfold Builtin.Int.intTooBig bitsLine
    have hc : bt i + bt j ≤ 134217728 := hc
    unfold bt at hc
    exact decide_eq_false (by omega)
  unfold IntMulOk
  rw [h]
  simp)
end MW

end
section
set_option Elab.async false
set_option linter.all false
set_option maxRecDepth 100000
set_option maxHeartbeats 4000000
namespace MW
open PySem PySem.Spec PyProof.Rows L2
section
variable {P : Program} {w : World} {K : PySem.W.Frag} {mg : Str → Option Value} {base : Heap}
theorem defOk_of {f : String} {st : Stmt} {a : Addr} {fdt : FuncData} {N ps : List Str} {fd : FDef} {dfl : Nat → List D} (F : Fun K (Str.ofString f) (Str.ofString f) st a fdt) (S : FnScope N ps (defScope st)) (b : Binds K fdt ps []) (hm : mg (Str.ofString f) = some (.ref a))
    (hp : fd.np = ps.length) (hn : fd.n = N.length) (ck : chkB N fd.body (defBody st) (defScope st) = true) (hd : ∀ j, dfl j = []) : DefOk P w K mg base dfl f fd :=
  ⟨a, fdt, N, ps, st, S, fun k sp len body => F.ok S len body, hm, F.kp, hp, hn, ck, fun j => ⟨[], [], b, .nil, fun ap F => by rw [hd j]; exact .nil⟩⟩
/-- a def with one default, the empty tuple -/
theorem defOk_ofD {f : String} {st : Stmt} {a : Addr} {fdt : FuncData} {N ps : List Str} {fd : FDef} {dfl : Nat → List D} {e : Addr} {o : Obj} {m : Nat} (F : FunD K (Str.ofString f) (Str.ofString f) (defArgs st) (defBody st) (defScope st) [.ref e] [] a fdt) (S : FnScope N ps (defScope st)) (hm : mg (Str.ofString f) = some (.ref a))
    (le : K.lookup e = some o) (oc : o.cls = .type "tuple") (od : o.data = .seq #[] m) (hp : fd.np = ps.length) (hn : fd.n = N.length) (ck : chkB N fd.body (defBody st) (defScope st) = true) (hd1 : dfl 1 = [.tup []]) (hd : ∀ j, j ≠ 1 → dfl j = []) {n : Nat} (hl : ps.length = n + 1)
    (h0 : ∀ (T : Addr) (kV doc pm : Value) (an : Option Addr) (cdv ct : Value) (us its : List Value), us.length = n + 1 → its.length = 1 → ∃ k, bindArgs (PySem.W.fnOf (Str.ofString f) (Str.ofString f) (defArgs st) (defBody st) (defScope st) (.ref T) kV doc pm an cdv ct) ⟨us, []⟩ = seqItems? (.ref T) >>= k ∧ k (some its.toArray) = pure (ps.zip (us ++ its.drop 1)))
    (h1 : ∀ (T : Addr) (kV doc pm : Value) (an : Option Addr) (cdv ct : Value) (us its : List Value), us.length = n → its.length = 1 → ∃ k, bindArgs (PySem.W.fnOf (Str.ofString f) (Str.ofString f) (defArgs st) (defBody st) (defScope st) (.ref T) kV doc pm an cdv ct) ⟨us, []⟩ = seqItems? (.ref T) >>= k ∧ k (some its.toArray) = pure (ps.zip (us ++ its.drop 0))) : DefOk P w K mg base dfl f fd := by
  refine ⟨a, fdt, N, ps, st, S, fun k sp len body => F.ok S len fun cdv A outer s H vs Q E hr h => ?_, hm, F.kp, hp, hn, ck, fun j => ?_⟩
  · obtain ⟨t, ht, q⟩ := body cdv A outer s H vs Q E hr h
    exact ⟨t, .nox ht, q⟩
  · by_cases z : j = 1
    · subst z
      obtain ⟨ds, r, b⟩ := F.binds1 n 0 (by simp) (by simp [hl]) h1
      refine ⟨ds, _, b, r, fun ap F => ?_⟩
      rw [hd1]
      exact .cons (.tup0 (.inr ⟨o, _, _, le, oc, od, Nat.zero_le _, .nil⟩)) .nil
    · obtain ⟨ds, r, b⟩ := F.binds1 (n + 1) 1 (by simp) (by simp [hl]) h0
      refine ⟨ds, _, b, r, fun ap F => ?_⟩
      rw [hd j z]
      exact .nil
theorem primOk_of {f : String} {st : Stmt} {a : Addr} {fdt : FuncData} {ps : List Str} {dfl : Nat → List D} {l : Nat} {cl : List Int → List D → G → Res D} (F : Fun K (Str.ofString f) (Str.ofString f) st a fdt) (Fn : FnOk P w K mg base CX0 l a fdt ps (spD K cl)) (b : Binds K fdt ps []) (hm : mg (Str.ofString f) = some (.ref a)) (hd : ∀ j, dfl j = []) :
    PrimOk P w K mg base dfl f l cl := ⟨a, fdt, ps, Fn, hm, F.kp, fun j => ⟨[], [], b, .nil, fun ap F => by rw [hd j]; exact .nil⟩⟩
theorem pss_ex {ι : Sort _} {X : Cx} {sts : List Stmt} {t : ι → TS} (h : ∀ i, PSs X sts (t i)) : PSs X sts (fun D σ H => ∃ i, t i D σ H) := ⟨fun pins s σ H D I ⟨i, q⟩ => (h i).run pins s σ H D I q⟩
def spPool (K : PySem.W.Frag) : Sp := fun vs H Q _ => ∃ (a : Addr) (scr : List Int), vs = [.ref a] ∧ SqL K H a (scr.map V.int) ∧ (∀ z ∈ scr, bt z ≤ 1048576) ∧ ∀ ap, H ap = none → Q (.ref ap) (upd H ap (.lst [.ref a, .int 0, .int (lawRest scr 0 0), .int 0]))
def spLaw (K : PySem.W.Frag) : Sp := fun vs H Q _ => ∃ (a : Addr) (ns : List Int), vs = [.ref a] ∧ SqL K H a (ns.map V.int) ∧ ns.length ≤ 63 ∧ (∀ z ∈ ns, bt z ≤ 1048576) ∧ ∀ H', Q (.bl true) H'
variable {defs : String → Option FDef} {dfl : String → Nat → List D} {const : String → Option D}
theorem law_ok (M : ModOk P w K mg base defs dfl const) {k : Nat} (hk : 3 ≤ k) {st : Stmt} {fL fP : Addr} {fdL fdP : FuncData} {N : List Str} {fd : FDef} {p1 p2 p3 p4 p5 : Pos} {rest : List Stmt} (F : Fun K "law" "law" st fL fdL) (S : FnScope N ["script"] (defScope st)) (h1 : N[1]? = some ("pool" : Str)) (hlen : fd.n = N.length)
    (hbody : defBody st = .Assign [.Name "pool" p1] (.Call (.Name "_law_pool" p2) [.Name "script" p3] [] p4) p5 :: rest) (hv : visB (defScope st) "script" = true) (hl : locB (defScope st) "pool" = true) (hg : glB (defScope st) "_law_pool" = true)
    (GP : FnOk P w K mg base CX0 3 fP fdP ["script"] (spPool K)) (gP : mg "_law_pool" = some (.ref fP)) (kP : PySem.W.keepIn K (.ref fP) = true) (bP : Binds K fdP ["script"] []) (ck : chkB N fd.body rest (defScope st) = true)
    (pure : ∀ scr : List Int, okScr scr = true → scr.length ≤ 63 → Acc (fun d _ => d = .bl true) noX (runLaw (prog defs dfl const scr) k scr fd)) : FnOk P w K mg base CX0 (k + 1) fL fdL ["script"] (spLaw K) := by
  refine F.ok S (fun vs H Q E h => ?_) (fun cdv A outer s H vs Q E hr h => ?_)
  · obtain ⟨a, scr, rfl, _⟩ := h; rfl
  · obtain ⟨a, scr, rfl, hS, hlen63, hb, q⟩ := h
    have h0 : N[0]? = some ("script" : Str) := by
      have := S.pre
      cases N with
      | nil => simp at this
      | cons x r => simp at this; rw [this]; rfl
    have good : ∀ ap (H' F' : Hp), GoodS ⟨K, ap, scr, H', F'⟩ ⟨run (prog defs dfl const scr) k, dfl, const⟩ N (defScope st) (cxOf CX0 P w K mg base N "law" (defScope st) fL cdv A outer s H E).nox := fun ap H' F' => good_at M (defs_ok M k) S hr
    have G0 := good 0 H H
    have okS : okScr scr = true := by
      unfold okScr
      rw [List.all_eq_true]
      exact fun z hz => decide_eq_true (hb z hz)
    obtain ⟨l1, l2⟩ := G0.loc "pool" hl
    rw [hbody]
    refine ⟨_, pss_cons (ps_set (i := 1) S.nd h1 l1 (pe_call GP (hr.mono hk) (G0.toGoodX.gl hg) gP kP bP .nil pass0 (pa_cons (pe_var (i := 0) h0 (G0.toGoodX.vis hv)) pa_nil)) (by rfl) l2)
      (pss_ex (ι := Addr × Hp × Hp) fun i => (allC (good i.1 i.2.1 i.2.2) fd.body).2 _ ck), ?_⟩
    have lenN : 2 ≤ N.length := by
      have := (List.getElem?_eq_some_iff.mp h1).1
      omega
    refine ⟨.ref a, ?_, a, scr, rfl, hS, hb, fun ap hap => ?_⟩
    · show (L2.start N [.ref a])[0]? = some (some (.ref a))
      simp [L2.start]
    refine ⟨(ap, upd H ap (.lst [.ref a, .int 0, .int (lawRest scr 0 0), .int 0]), H), [], H, (startE fd.n []).set 1 (.val .pool), poolNew scr, ?_, ?_⟩
    · have ex : ExF H (upd H ap (.lst [.ref a, .int 0, .int (lawRest scr 0 0), .int 0])) := fun b u z => by
        rw [upd_ne (fun e => by rw [e, hap] at z; cases z)]; exact .inl z
      refine ⟨ex, Ex.refl _, fun b o _ _ z => z, fun e he => (by cases he), fun b o z => .inl z, ?_, fun i s0 e => ?_, fun i j d e q z1 => ?_, ⟨hap, a, hS, upd_same⟩, fun b u od u' z1 z2 z3 => .inr z3⟩
      · simp [L2.start, startE, hlen]; omega
      · by_cases hi : i = 1
        · subst hi
          have : 1 < (startE fd.n []).length := by simp [startE, hlen]; omega
          rw [List.getElem?_set_self this] at e
          cases e
          refine ⟨.ref ap, ?_, .pool⟩
          rw [List.getElem?_set_self (by simp [L2.start]; omega)]
        · rw [List.getElem?_set_ne (Ne.symm hi)] at e
          have := List.mem_of_getElem? e
          simp [startE] at this
          rw [this.2]; trivial
      · exfalso
        by_cases hi : i = 1
        · subst hi
          have : 1 < (startE fd.n []).length := by simp [startE, hlen]; omega
          rw [List.getElem?_set_self this] at z1
          cases z1
        · rw [List.getElem?_set_ne (Ne.symm hi)] at z1
          have := List.mem_of_getElem? z1
          simp [startE] at this
    · have hp := pure scr okS hlen63
      unfold runLaw at hp
      cases z : evalC ⟨run (prog defs dfl const scr) k, (prog defs dfl const scr).dfl, (prog defs dfl const scr).const⟩ fd.body ((startE fd.n []).set 1 (.val .pool)) (poolNew scr) with
      | bad => rw [z] at hp; exact hp.elim
      | exc c fs g => rw [z] at hp; exact hp.elim
      | ok o g =>
        rw [z] at hp
        cases o with
        | rt d =>
          have hp : d = .bl true := hp
          subst hp
          intro v σ' ρ' H' F' I' e' r
          cases r
          exact q H'
        | nx ρ' => have hp : D.non = .bl true := hp; cases hp
        | bk ρ' => exact hp.elim
        | ct ρ' => exact hp.elim
end
/-- the end: how a row's walk is closed -/
theorem walk_end {l : PySem.W.OpenLaw} {k : Nat} {q : Program} {loose : List Str} {XP : (Str → Option Value) → Heap → Prop} {YP : World → Heap → Prop} {d : DefRec} {K : Params → PySem.W.Frag} (hn : l.most = some 63) (hdf : d.params.defaults = []) (hr : Room k callerA)
    (hY : ∀ (w : World) (h : Heap), YP w h → (K w.params).In h)
    (F : ∀ (w : World) (mg : Str → Option Value) (fa : Addr) (h : Heap), (K w.params).In h → h.Ns mainGlobals mg → mg d.name = some (.ref fa) →
      ∃ fd : FuncData, (∀ (s : Shared) (u : Value), BindsTo s fd ⟨[u], []⟩ [("script", u)]) ∧ ∀ base : Heap, (K w.params).In base → base.Ns mainGlobals mg → FnOk l.prog w (K w.params) mg base CX0 k fa fd ["script"] (spLaw (K w.params))) :
    PySem.W.WalkO q loose XP YP l.row.toRowW d [] (fun f vs => PySem.call f vs) :=
  L2.walk_ofB (n := 63) (k := k) (x := "script") (CX := fun _ => CX0) (sp := fun w => spLaw (K w.params)) hn (by decide) hdf hr hY F (fun _ _ a ns hl hbits _ hS => ⟨a, ns, rfl, hS, hl, hbits, fun _ => rfl⟩) fun _ _ _ _ _ z => z
end MW

end
section
set_option Elab.async false
set_option linter.all false
set_option maxRecDepth 100000
set_option maxHeartbeats 4000000
namespace MW
open PySem PySem.Spec PyProof.Rows L2
/-! ### the pool's defs, as they stand in the text -/
def topS (i : Nat) : Stmt := PySem.Challenge.pw_mapwise_k78_whole_names_over_scales.main.body.getD i (.Pass ⟨0, 0, 0, 0⟩)
abbrev sMixed : Stmt := topS 25
abbrev sRest : Stmt := topS 26
abbrev sPool : Stmt := topS 27
abbrev sNext : Stmt := topS 28
abbrev sDraw : Stmt := topS 29
theorem scMixed : FnScope ["number", "place", "first", "second", "third"] ["number", "place"] (defScope sMixed) := ⟨rfl, rfl, rfl, by decide +kernel, rfl, by decide +kernel, by decide +kernel⟩
theorem scRest : FnScope ["script", "place", "fills", "number"] ["script", "place", "fills"] (defScope sRest) := ⟨rfl, rfl, rfl, by decide +kernel, rfl, by decide +kernel, by decide +kernel⟩
theorem scPool : FnScope ["script"] ["script"] (defScope sPool) := ⟨rfl, rfl, rfl, by decide +kernel, rfl, by decide +kernel, by decide +kernel⟩
theorem scNext : FnScope ["pool"] ["pool"] (defScope sNext) := ⟨rfl, rfl, rfl, by decide +kernel, rfl, by decide +kernel, by decide +kernel⟩
theorem scDraw : FnScope ["pool", "limit", "value"] ["pool", "limit"] (defScope sDraw) := ⟨rfl, rfl, rfl, by decide +kernel, rfl, by decide +kernel, by decide +kernel⟩
section
variable {P : Program} {w : World} {K : PySem.W.Frag} {mg : Str → Option Value} {base : Heap}
def spMixed : Sp := fun vs H Q _ => ∃ n p, vs = [.int n, .int p] ∧ bt n ≤ 2000000 ∧ bt p ≤ 2000000 ∧ Q (.int (lawMixed n p)) H
theorem ok_mixed {f : Addr} {fd : FuncData} {k : Nat} (F : Fun K "_law_mixed" "_law_mixed" sMixed f fd) (mi : mg "int" = none) : FnOk P w K mg base CX0 (k + 1) f fd ["number", "place"] spMixed := by
  refine F.ok scMixed (fun vs H Q E h => ?_) (fun cdv A outer s H vs Q E hr h => ?_)
  · obtain ⟨n, p, rfl, _⟩ := h; rfl
  · obtain ⟨n, p, rfl, hn, hp, q⟩ := h
    refine ⟨_, pss_cons (ps_set (i := 2) scMixed.nd rfl (.inl rfl) (pe_op op_mod (pe_callTy call_int1 (by rfl) mi (boot_b1 .int) (pa_cons (pe_op op_add (pe_op op_add (pe_op op_mulB (pv 0) pe_int) (pe_op op_mulB (pv 1) pe_int)) pe_int) pa_nil)) pe_int))
      (pss_cons (ps_set (i := 3) scMixed.nd rfl (.inl rfl) (pe_op op_mod (pe_callTy call_int1 (by rfl) mi (boot_b1 .int) (pa_cons (pe_op op_add (pe_op op_add (pe_op op_mulB (pv 2) (pv 2)) (pe_op op_mulB pe_int (pv 2))) (pv 1)) pa_nil)) pe_int))
      (pss_cons (ps_set (i := 4) scMixed.nd rfl (.inl rfl) (pe_op op_mod (pe_callTy call_int1 (by rfl) mi (boot_b1 .int) (pa_cons (pe_op op_add (pe_op op_mulB (pv 3) (pv 3)) (pv 2)) pa_nil)) pe_int))
      (pss_one (ps_ret (pe_op op_add (pe_op op_mulB (pv 3) pe_int) (pv 4)))))), ?_⟩
    have b1 : bt 410338673998125441398711 ≤ 100 := by decide +kernel
    have b2 : bt 736418259301774563982039 ≤ 100 := by decide +kernel
    have b3 : bt 618970019642690137449562111 ≤ 100 := by decide +kernel
    have b4 : bt 162259276829213363391578010288127 ≤ 120 := by decide +kernel
    have b5 : bt 7 ≤ 100 := by decide +kernel
    have f1 : bt ((n * 410338673998125441398711 + p * 736418259301774563982039 + 295075153872261839517363) % 618970019642690137449562111) ≤ 100 := Nat.le_trans (bt_mod (by decide)) b3
    generalize hf : (n * 410338673998125441398711 + p * 736418259301774563982039 + 295075153872261839517363) % 618970019642690137449562111 = x1 at f1
    have f2 : bt ((x1 * x1 + 7 * x1 + p) % 162259276829213363391578010288127) ≤ 120 := Nat.le_trans (bt_mod (by decide)) b4
    generalize hs : (x1 * x1 + 7 * x1 + p) % 162259276829213363391578010288127 = x2 at f2
    refine ⟨_, rfl, _, _, rfl, rfl, by omega, ?_⟩
    refine ⟨_, rfl, _, _, rfl, rfl, by omega, ?_⟩
    refine ⟨_, _, rfl, rfl, ?_⟩
    refine ⟨_, _, rfl, rfl, .inl ⟨_, rfl, ?_⟩⟩
    refine ⟨_, _, rfl, rfl, (show (0 : Int) < 618970019642690137449562111 by decide), ?_⟩
    dsimp only
    rw [hf]
    refine ⟨_, rfl, _, rfl, _, _, rfl, rfl, by omega, ?_⟩
    refine ⟨_, rfl, _, _, rfl, rfl, by omega, ?_⟩
    refine ⟨_, _, rfl, rfl, ?_⟩
    refine ⟨_, rfl, _, _, rfl, rfl, .inl ⟨_, rfl, ?_⟩⟩
    refine ⟨_, _, rfl, rfl, (show (0 : Int) < 162259276829213363391578010288127 by decide), ?_⟩
    dsimp only
    rw [hs]
    refine ⟨_, rfl, _, rfl, _, _, rfl, rfl, by omega, ?_⟩
    refine ⟨_, rfl, _, _, rfl, rfl, .inl ⟨_, rfl, ?_⟩⟩
    refine ⟨_, _, rfl, rfl, (show (0 : Int) < 618970019642690137449562111 by decide), ?_⟩
    refine ⟨_, rfl, _, _, rfl, rfl, by omega, ?_⟩
    refine ⟨_, rfl, _, _, rfl, rfl, ?_⟩
    have e : lawMixed n p = x2 * 618970019642690137449562111 + (x2 * x2 + x1) % 618970019642690137449562111 := by
      unfold lawMixed
      simp only [hf, hs]
    rw [e] at q
    exact q
def spRest (K : PySem.W.Frag) : Sp := fun vs H Q _ => ∃ a scr place fills, vs = [.ref a, .int place, .int fills] ∧ SqL K H a (scr.map V.int) ∧ (∀ z ∈ scr, bt z ≤ 1048576) ∧ (0 ≤ place ∧ place ≤ 1099511627776) ∧ (0 ≤ fills ∧ fills ≤ 1099511627776) ∧ Q (.int (lawRest scr place fills)) H
theorem bt_40 {i : Int} (h0 : 0 ≤ i) (h1 : i ≤ 1099511627776) : bt i ≤ 60 := by
  rw [bt_le]
  have : (2 : Nat) ^ 60 = 1152921504606846976 := by decide
  omega
def lawR2 (len : Nat) (p fl n1 : Int) : Int :=
  let n2 := if n1 < 0 then 1 - 2 * n1 else n1
  if fl = 0 ∧ p < len ∧ 1000000000000000000 ≤ n2 then n2 - 1000000000000000000 else lawMixed (n2 + fl * 1000003) p
theorem lawRest_eq (scr : List Int) (p fl : Int) : lawRest scr p fl = lawR2 scr.length p fl (if 0 < scr.length then lawCell scr p else 0) := rfl
theorem cell_at {scr : List Int} {p : Int} (h : 0 < scr.length) : ∃ z, atI (scr.map V.int) (p % (scr.length : Int)) = some (.int z) ∧ lawCell scr p = z ∧ z ∈ scr := by
  have h1 := Int.emod_nonneg p (show (scr.length : Int) ≠ 0 by omega)
  have h2 := Int.emod_lt_of_pos p (show (0 : Int) < scr.length by omega)
  have h3 : (p % (scr.length : Int)).toNat < scr.length := by omega
  refine ⟨scr[(p % (scr.length : Int)).toNat], ?_, ?_, List.getElem_mem _⟩
  · have e : ((p % (scr.length : Int)).toNat : Int) = p % (scr.length : Int) := Int.toNat_of_nonneg h1
    have := atI_nat (xs := scr.map V.int) (j := (p % (scr.length : Int)).toNat) (v := .int scr[(p % (scr.length : Int)).toNat]) (by simp [h3])
    rw [e] at this
    exact this
  · unfold lawCell
    simp [List.getD, h3]
theorem ok_rest {f fM : Addr} {fd fdM : FuncData} {k : Nat} (F : Fun K "_law_rest" "_law_rest" sRest f fd) (FM : Fun K "_law_mixed" "_law_mixed" sMixed fM fdM) (bM : Binds K fdM ["number", "place"] []) (gM : mg "_law_mixed" = some (.ref fM)) (mi : mg "int" = none) (ml : mg "len" = none) :
    FnOk P w K mg base CX0 (k + 2) f fd ["script", "place", "fills"] (spRest K) := by
  have GM : FnOk P w K mg base CX0 (k + 1) fM fdM ["number", "place"] spMixed := ok_mixed FM mi
  refine F.ok scRest (fun vs H Q E h => ?_) (fun cdv A outer s H vs Q E hr h => ?_)
  · obtain ⟨a, scr, p, fl, rfl, _⟩ := h; rfl
  · obtain ⟨a, scr, p, fl, rfl, hS, hb, hp, hf, q⟩ := h
    refine ⟨_, pss_cons (ps_set (i := 3) scRest.nd rfl (.inl rfl) pe_int)
      (pss_cons (ps_if (pt_cmpR op_gt (pe_callB call_len_seq (by rfl) ml PySem.boot_len (pa_cons (pv 0) pa_nil)) pe_int (nomark _))
        (pss_one (ps_set (i := 3) scRest.nd rfl (.inl rfl) (pe_callTy call_int1 (by rfl) mi (boot_b1 .int) (pa_cons (pe_ix ix_list (pv 0) (pe_op op_mod (pe_callTy call_int1 (by rfl) mi (boot_b1 .int) (pa_cons (pv 1) pa_nil)) (pe_callB call_len_seq (by rfl) ml PySem.boot_len (pa_cons (pv 0) pa_nil))) (fun _ _ => rfl)) pa_nil)))) pss_nil)
      (pss_cons (ps_if (pt_cmpR op_lt (pv 3) pe_int (nomark _)) (pss_one (ps_set (i := 3) scRest.nd rfl (.inl rfl) (pe_op op_sub pe_int (pe_op op_mul pe_int (pv 3))))) pss_nil)
      (pss_cons (ps_if (pw_and (pt_cmp (pc_eqI (pv 2) pe_int)) (pw_and (pt_cmpR op_lt (pv 1) (pe_callB call_len_seq (by rfl) ml PySem.boot_len (pa_cons (pv 0) pa_nil)) (nomark _)) (pw_and1 (pt_cmpR op_ge (pv 3) (pe_op op_pow pe_int pe_int) (nomark _))))).pt
        (pss_one (ps_ret (pe_op op_sub (pv 3) (pe_op op_pow pe_int pe_int)))) pss_nil)
      (pss_one (ps_ret (pe_call GM hr (by rfl) gM FM.kp bM .nil pass0 (pa_cons (pe_op op_add (pv 3) (pe_op op_mulB (pv 2) pe_int)) (pa_cons (pv 1) pa_nil)))))))), ?_⟩
    rw [lawRest_eq] at q
    have p18 : ((10 : Int) ^ (18 : Int).toNat) = 1000000000000000000 := by decide
    have c1 : bt 1000003 ≤ 60 := by decide +kernel
    have hbp := bt_40 hp.1 hp.2
    have hbf := bt_40 hf.1 hf.2
    have tail : ∀ n1 n2 : Int, bt n1 ≤ 1048576 → n2 = (if n1 < 0 then 1 - 2 * n1 else n1) → bt n2 ≤ 1048580 := fun n1 n2 h e => by
      subst e
      split
      · refine Nat.le_trans (bt_sub (n := 1048578) (Nat.le_trans (show bt 1 ≤ 60 by decide +kernel) (by omega)) ?_) (by omega)
        have := bt_mul 2 n1
        have : bt 2 ≤ 2 := by decide +kernel
        omega
      · omega
    have back : ∀ {n2 : Int}, bt n2 ≤ 1048580 → Q (.int (if fl = 0 ∧ p < scr.length ∧ 1000000000000000000 ≤ n2 then n2 - 1000000000000000000 else lawMixed (n2 + fl * 1000003) p)) H →
        tSeq (tIfS (tAnd (tB (tEqI (tVar 2) (L2.tC (.int 0)))) (tAnd (tTest (tOp (rI0 fun i j => .bl (decide (i < j))) (tVar 1) (tCB (fun xs H Q => ∃ p ys, xs = [.ref p] ∧ (SqL K H p ys ∨ SqT K H p ys) ∧ Q (.int ys.length) H) (tCons (tVar 0) tNil)))) (tTest (tOp (rI0 fun i j => .bl (decide (j ≤ i))) (tVar 3) (tOp (rI CPow fun i j => .int (i ^ j.toNat)) (L2.tC (.int 10)) (L2.tC (.int 18)))))))
          (tRet (tOp (rI0 fun i j => .int (i - j)) (tVar 3) (tOp (rI CPow fun i j => .int (i ^ j.toNat)) (L2.tC (.int 10)) (L2.tC (.int 18))))) tNext)
          (tRet (tCall spMixed [] E0 (tCons (tOp (rI0 fun i j => .int (i + j)) (tVar 3) (tOp (rI (fun i j => bt i + bt j ≤ 134217728) fun i j => .int (i * j)) (tVar 2) (L2.tC (.int 1000003)))) (tCons (tVar 1) tNil)))) { nx := fun _ H' => Q .non H', rt := Q } [some (.ref a), some (.int p), some (.int fl), some (.int n2)] H := fun {n2} hb2 q => by
      have mx : Q (.int (lawMixed (n2 + fl * 1000003) p)) H → tRet (tCall spMixed [] E0 (tCons (tOp (rI0 fun i j => .int (i + j)) (tVar 3) (tOp (rI (fun i j => bt i + bt j ≤ 134217728) fun i j => .int (i * j)) (tVar 2) (L2.tC (.int 1000003)))) (tCons (tVar 1) tNil))) { nx := fun _ H' => Q .non H', rt := Q } [some (.ref a), some (.int p), some (.int fl), some (.int n2)] H := fun q => by
        have := bt_mul fl 1000003
        exact ⟨_, rfl, _, rfl, _, _, rfl, rfl, (by omega), _, _, rfl, rfl, _, rfl, _, _, rfl, Nat.le_trans (bt_add (n := 1048580) hb2 (by omega)) (by omega), (by omega), q⟩
      refine ⟨_, rfl, _, _, rfl, rfl, _, rfl, ite2 (fun e3 => ?_) (fun e3 => ?_)⟩
      · have e3 : fl = 0 := of_decide_eq_true e3
        refine ⟨_, rfl, .ref a, rfl, a, scr.map V.int, rfl, .inl hS, _, _, rfl, rfl, _, rfl, ite2 (fun e4 => ?_) (fun e4 => ?_)⟩
        · have e4 : p < scr.length := by simpa using of_decide_eq_true e4
          refine ⟨_, rfl, 10, 18, rfl, rfl, ⟨by decide, by decide, by decide⟩, _, _, rfl, rfl, _, rfl, ite2 (fun e5 => ?_) (fun e5 => ?_)⟩
          · have e5 : 1000000000000000000 ≤ n2 := by have := of_decide_eq_true e5; rw [p18] at this; exact this
            refine ⟨_, rfl, 10, 18, rfl, rfl, ⟨by decide, by decide, by decide⟩, _, _, rfl, rfl, ?_⟩
            rw [if_pos ⟨e3, e4, e5⟩] at q
            dsimp only
            rw [p18]
            exact q
          · have e5 : ¬ 1000000000000000000 ≤ n2 := fun h => e5 (decide_eq_true (by rw [p18]; exact h))
            rw [if_neg (fun z => e5 z.2.2)] at q
            exact mx q
        · have e4 : ¬ p < scr.length := fun h => e4 (decide_eq_true (by simpa using h))
          rw [if_neg (fun z => e4 z.2.1)] at q
          exact ite_ff (mx q)
      · have e3 : ¬ fl = 0 := fun h => e3 (decide_eq_true h)
        rw [if_neg (fun z => e3 z.1)] at q
        exact ite_ff (mx q)
    refine ⟨.ref a, rfl, a, scr.map V.int, rfl, .inl hS, _, _, rfl, rfl, _, rfl, ite2 (fun e => ?_) (fun e => ?_)⟩
    · have e0 : 0 < scr.length := by
        have := of_decide_eq_true e
        simpa using this
      obtain ⟨z, z1, z2, z3⟩ := cell_at (p := p) e0
      rw [if_pos e0, z2] at q
      have hz := hb z z3
      refine ⟨.ref a, rfl, .int p, rfl, .inl ⟨p, rfl, .ref a, rfl, a, scr.map V.int, rfl, .inl hS, p, _, rfl, rfl, ?_, a, scr.map V.int, _, .int z, rfl, rfl, hS, ?_, .inl ⟨z, rfl, ?_⟩⟩⟩
      · show (0 : Int) < ((scr.map V.int).length : Int)
        rw [List.length_map]; omega
      · rw [List.length_map]; exact z1
      clear z1 z2 z3 e
      refine ⟨_, rfl, _, _, rfl, rfl, _, rfl, ite2 (fun e2 => ?_) (fun e2 => ?_)⟩
      · refine ⟨_, rfl, _, _, rfl, rfl, .inl (by decide), _, _, rfl, rfl, ?_⟩
        have e2 : z < 0 := of_decide_eq_true e2
        have hn2 := tail z _ hz rfl
        rw [if_pos e2] at hn2
        exact back hn2 (by unfold lawR2 at q; rw [if_pos e2] at q; exact q)
      · have e2 : ¬ z < 0 := fun h => e2 (decide_eq_true h)
        have hn2 := tail z _ hz rfl
        rw [if_neg e2] at hn2
        exact back hn2 (by unfold lawR2 at q; rw [if_neg e2] at q; exact q)
    · have e0 : ¬ 0 < scr.length := fun h => e (decide_eq_true (by simpa using h))
      rw [if_neg e0] at q
      refine ⟨_, rfl, _, _, rfl, rfl, _, rfl, ite2 (fun e2 => ?_) (fun e2 => ?_)⟩
      · exact absurd (of_decide_eq_true e2) (by decide)
      · exact back (show bt 0 ≤ 1048580 by decide +kernel) (by unfold lawR2 at q; exact q)
end
end MW

end
section
set_option Elab.async false
set_option linter.all false
set_option maxRecDepth 100000
set_option maxHeartbeats 4000000
namespace MW
open PySem PySem.Spec PyProof.Rows L2
section
variable {P : Program} {w : World} {K : PySem.W.Frag} {mg : Str → Option Value} {base : Heap}
theorem ok_pool {f fR : Addr} {fd fdR : FuncData} {k : Nat} (F : Fun K "_law_pool" "_law_pool" sPool f fd) (FR : Fun K "_law_rest" "_law_rest" sRest fR fdR) (GR : FnOk P w K mg base CX0 (k + 2) fR fdR ["script", "place", "fills"] (spRest K)) (bR : Binds K fdR ["script", "place", "fills"] []) (gR : mg "_law_rest" = some (.ref fR)) :
    FnOk P w K mg base CX0 (k + 3) f fd ["script"] (spPool K) := by
  refine F.ok scPool (fun vs H Q E h => ?_) (fun cdv A outer s H vs Q E hr h => ?_)
  · obtain ⟨a, scr, rfl, _⟩ := h; rfl
  · obtain ⟨a, scr, rfl, hS, hb, q⟩ := h
    refine ⟨_, pss_one (ps_ret (pe_lst (pa_cons (pv 0) (pa_cons pe_int (pa_cons (pe_call GR hr (by rfl) gR FR.kp bR .nil pass0 (pa_cons (pv 0) (pa_cons pe_int (pa_cons pe_int pa_nil)))) (pa_cons pe_int pa_nil)))))), ?_⟩
    exact ⟨_, rfl, _, rfl, a, scr, 0, 0, rfl, hS, hb, ⟨by decide, by decide⟩, ⟨by decide, by decide⟩, (show 4 ≤ sizeLine by decide), q⟩
theorem poolIx1 {a : V} {i r f : Int} : ixN ([a, V.int i, V.int r, V.int f] : List V).length 1 = some 1 := rfl
theorem ok_next {f fR : Addr} {fd fdR : FuncData} {k : Nat} (F : Fun K "_law_next" "_law_next" sNext f fd) (FR : Fun K "_law_rest" "_law_rest" sRest fR fdR) (GR : FnOk P w K mg base CX0 (k + 2) fR fdR ["script", "place", "fills"] (spRest K)) (bR : Binds K fdR ["script", "place", "fills"] []) (gR : mg "_law_rest" = some (.ref fR)) :
    FnOk P w K mg base CX0 (k + 3) f fd ["pool"] (spD K primNext) := by
  have shape : ∀ {scr ds g} {Kk : D → G → Prop}, Acc Kk noX (primNext scr ds g) → ds = [.pool] ∧ okScr scr = true ∧ okG g = true ∧ Kk .non (poolNext scr g) := fun {scr ds g Kk} h => by
    unfold primNext at h
    split at h
    · split at h
      · rename_i hc
        rw [Bool.and_eq_true] at hc
        exact ⟨rfl, hc.1, hc.2, h⟩
      · exact h.elim
    · exact h.elim
  refine F.ok scNext (fun vs H Q E h => ?_) (fun cdv A outer s H vs Q E hr h => ?_)
  · obtain ⟨scr, ap, F, ds, g, ex, p, r, h⟩ := h
    obtain ⟨rfl, _⟩ := shape h
    cases r with | cons h1 h2 => cases h2; rfl
  · obtain ⟨scr, ap, F, ds, g, ex, ⟨p0, a, p1, p2⟩, r, h⟩ := h
    obtain ⟨rfl, hs, hg, h⟩ := shape h
    cases r with | cons r1 r2 =>
    cases r2
    cases r1
    have p2 : H ap = some (.lst [.ref a, .int g.1, .int g.2.1, .int g.2.2]) := p2
    have exU : ∀ o, ExF F (upd H ap o) := fun o b u q => by
      rw [upd_ne (fun z => by rw [z] at q; rw [show F ap = none from p0] at q; cases q)]
      exact ex b u q
    have sq : ∀ o, SqL K (upd H ap o) a (scr.map V.int) := fun o => (exU o).sqL p1
    have hb : ∀ z ∈ scr, bt z ≤ 1048576 := fun z hz => by
      have := List.all_eq_true.mp hs z hz
      exact of_decide_eq_true this
    simp only [okG, Bool.and_eq_true, decide_eq_true_eq] at hg
    obtain ⟨⟨⟨g1, g2⟩, g3⟩, g4⟩ := hg
    refine ⟨_, pss_cons (ps_asg (pe_op op_add (pe_ix ix_list (pv 0) pe_int (fun _ _ => rfl)) pe_int) (pg_sub (pv 0) pe_int set_list))
      (pss_cons (ps_asg (pe_call GR hr (by rfl) gR FR.kp bR .nil pass0 (pa_cons (pe_ix ix_list (pv 0) pe_int (fun _ _ => rfl)) (pa_cons (pe_ix ix_list (pv 0) pe_int (fun _ _ => rfl)) (pa_cons pe_int pa_nil)))) (pg_sub (pv 0) pe_int set_list))
      (pss_one (ps_asg pe_int (pg_sub (pv 0) pe_int set_list)))), ?_⟩
    refine ⟨_, rfl, _, _, _, _, rfl, rfl, SqL.of p2, rfl, _, _, rfl, rfl, ?_⟩
    refine ⟨_, rfl, _, _, _, 1, rfl, rfl, p2, rfl, ?_⟩
    have u1 : ∀ xs : List V, (upd H ap (.lst xs)) ap = some (.lst xs) := fun xs => upd_same
    refine ⟨_, rfl, _, _, _, _, rfl, rfl, SqL.of (u1 _), rfl, ?_⟩
    refine ⟨_, rfl, _, _, _, _, rfl, rfl, SqL.of (u1 _), rfl, ?_⟩
    refine ⟨a, scr, g.1 + 1, 0, rfl, sq _, hb, ⟨by omega, by omega⟩, ⟨by decide, by decide⟩, ?_⟩
    refine ⟨_, rfl, _, _, _, 2, rfl, rfl, u1 _, rfl, ?_⟩
    refine ⟨_, rfl, _, _, _, 3, rfl, rfl, upd_same, rfl, ?_⟩
    have e : upd (upd (upd H ap (.lst [.ref a, .int (g.1 + 1), .int g.2.1, .int g.2.2])) ap (.lst [.ref a, .int (g.1 + 1), .int (lawRest scr (g.1 + 1) 0), .int g.2.2])) ap (.lst [.ref a, .int (g.1 + 1), .int (lawRest scr (g.1 + 1) 0), .int 0]) = upd H ap (.lst [.ref a, .int (g.1 + 1), .int (lawRest scr (g.1 + 1) 0), .int 0]) := by
      funext b
      by_cases z : b = ap
      · subst z; rw [upd_same, upd_same]
      · rw [upd_ne z, upd_ne z, upd_ne z, upd_ne z]
    show Q .non (upd (upd (upd H ap (.lst [.ref a, .int (g.1 + 1), .int g.2.1, .int g.2.2])) ap (.lst [.ref a, .int (g.1 + 1), .int (lawRest scr (g.1 + 1) 0), .int g.2.2])) ap (.lst [.ref a, .int (g.1 + 1), .int (lawRest scr (g.1 + 1) 0), .int 0]))
    rw [e]
    refine h .non _ F (exU _) ⟨Ex.refl _, fun b o n q => by rw [upd_ne n]; exact q, fun b o n q => .inl q⟩ ⟨p0, a, p1, upd_same⟩ .non
theorem ok_draw {f fR : Addr} {fd fdR : FuncData} {k : Nat} (F : Fun K "_law_draw" "_law_draw" sDraw f fd) (FR : Fun K "_law_rest" "_law_rest" sRest fR fdR) (GR : FnOk P w K mg base CX0 (k + 2) fR fdR ["script", "place", "fills"] (spRest K)) (bR : Binds K fdR ["script", "place", "fills"] []) (gR : mg "_law_rest" = some (.ref fR)) (mi : mg "int" = none) :
    FnOk P w K mg base CX0 (k + 3) f fd ["pool", "limit"] (spD K primDraw) := by
  have shape : ∀ {scr ds g} {Kk : D → G → Prop}, Acc Kk noX (primDraw scr ds g) → ∃ lim, ds = [.pool, .int lim] ∧ okScr scr = true ∧ okG g = true ∧ 0 < lim ∧ lim < 1073741824 ∧ Kk (.int (poolDraw scr g lim).1) (poolDraw scr g lim).2 := fun {scr ds g Kk} h => by
    unfold primDraw at h
    split at h
    · split at h
      · rename_i hc
        simp only [Bool.and_eq_true, decide_eq_true_eq] at hc
        exact ⟨_, rfl, hc.1.1.1, hc.1.1.2, hc.1.2, hc.2, h⟩
      · exact h.elim
    · exact h.elim
  refine F.ok scDraw (fun vs H Q E h => ?_) (fun cdv A outer s H vs Q E hr h => ?_)
  · obtain ⟨scr, ap, F, ds, g, ex, p, r, h⟩ := h
    obtain ⟨lim, rfl, _⟩ := shape h
    cases r with | cons h1 h2 => cases h2 with | cons h3 h4 => cases h4; rfl
  · obtain ⟨scr, ap, F, ds, g, ex, ⟨p0, a, p1, p2⟩, r, h⟩ := h
    obtain ⟨lim, rfl, hs, hg, l1, l2, h⟩ := shape h
    cases r with | cons r1 r2 =>
    cases r2 with | cons r2 r3 =>
    cases r3
    cases r1
    cases r2
    have p2 : H ap = some (.lst [.ref a, .int g.1, .int g.2.1, .int g.2.2]) := p2
    have exU : ∀ o, ExF F (upd H ap o) := fun o b u q => by
      rw [upd_ne (fun z => by rw [z] at q; rw [show F ap = none from p0] at q; cases q)]
      exact ex b u q
    have sq : ∀ o, SqL K (upd H ap o) a (scr.map V.int) := fun o => (exU o).sqL p1
    have hb : ∀ z ∈ scr, bt z ≤ 1048576 := fun z hz => by
      have := List.all_eq_true.mp hs z hz
      exact of_decide_eq_true this
    simp only [okG, Bool.and_eq_true, decide_eq_true_eq] at hg
    obtain ⟨⟨⟨g1, g2⟩, g3⟩, g4⟩ := hg
    refine ⟨_, pss_cons (ps_if (pt_cmpR op_le (pe_ix ix_list (pv 0) pe_int (fun _ _ => rfl)) pe_int (nomark _))
        (pss_cons (ps_asg (pe_op op_add (pe_ix ix_list (pv 0) pe_int (fun _ _ => rfl)) pe_int) (pg_sub (pv 0) pe_int set_list))
        (pss_one (ps_asg (pe_call GR hr (by rfl) gR FR.kp bR .nil pass0 (pa_cons (pe_ix ix_list (pv 0) pe_int (fun _ _ => rfl)) (pa_cons (pe_ix ix_list (pv 0) pe_int (fun _ _ => rfl)) (pa_cons (pe_ix ix_list (pv 0) pe_int (fun _ _ => rfl)) pa_nil)))) (pg_sub (pv 0) pe_int set_list)))) pss_nil)
      (pss_cons (ps_set (i := 2) scDraw.nd rfl (.inl rfl) (pe_op op_mod (pe_callTy call_int1 (by rfl) mi (boot_b1 .int) (pa_cons (pe_ix ix_list (pv 0) pe_int (fun _ _ => rfl)) pa_nil)) (pv 1)))
      (pss_cons (ps_asg (pe_op op_fdiv (pe_callTy call_int1 (by rfl) mi (boot_b1 .int) (pa_cons (pe_ix ix_list (pv 0) pe_int (fun _ _ => rfl)) pa_nil)) (pv 1)) (pg_sub (pv 0) pe_int set_list))
      (pss_one (ps_ret (pv 2))))), ?_⟩
    have fin : ∀ (H1 : Hp) (i x fl : Int), H1 ap = some (.lst [.ref a, .int i, .int x, .int fl]) → (∀ b, b ≠ ap → H1 b = H b) → (i, x, fl) = poolFill scr g →
        tSeq (tAsg (tOp (rI (fun _ j => 0 < j) fun i j => .int (i % j)) (tCB (fun xs H Q => (∃ i, xs = [.int i] ∧ Q (.int i) H) ∨ ∃ k, xs = [.bl k] ∧ Q (.int (if k then 1 else 0)) H) (tCons (tOp (rIxL K) (tVar 0) (L2.tC (.int 2))) tNil)) (tVar 1)) (gName 2))
          (tSeq (tAsg (tOp (rI CDiv fun i j => .int (i / j)) (tCB (fun xs H Q => (∃ i, xs = [.int i] ∧ Q (.int i) H) ∨ ∃ k, xs = [.bl k] ∧ Q (.int (if k then 1 else 0)) H) (tCons (tOp (rIxL K) (tVar 0) (L2.tC (.int 2))) tNil)) (tVar 1)) (gSub (tVar 0) (L2.tC (.int 2)) rSetL)) (tRet (tVar 2)))
          { nx := fun _ H' => Q .non H', rt := Q } [some (.ref ap), some (.int lim), none] H1 := fun H1 i x fl q1 q2 q3 => by
      refine ⟨_, rfl, _, _, _, _, rfl, rfl, SqL.of q1, rfl, .inl ⟨_, rfl, ?_⟩⟩
      refine ⟨_, rfl, _, _, rfl, rfl, l1, ?_⟩
      refine ⟨_, rfl, _, _, _, _, rfl, rfl, SqL.of q1, rfl, .inl ⟨_, rfl, ?_⟩⟩
      refine ⟨_, rfl, _, _, rfl, rfl, ⟨l1, l2⟩, ?_⟩
      refine ⟨_, rfl, _, _, _, 2, rfl, rfl, q1, rfl, ?_⟩
      refine ⟨_, rfl, ?_⟩
      have e1 : (poolDraw scr g lim).1 = x % lim := by unfold poolDraw; rw [← q3]
      have e2 : (poolDraw scr g lim).2 = (i, x / lim, fl) := by unfold poolDraw; rw [← q3]
      rw [e1, e2] at h
      refine h _ _ F (fun b u q => ?_) ⟨Ex.refl _, fun b o n q => ?_, fun b o n q => .inl q⟩ ⟨p0, a, p1, upd_same⟩ (.int _)
      · have n : b ≠ ap := fun z => by rw [z] at q; rw [show F ap = none from p0] at q; cases q
        rw [upd_ne n, q2 b n]
        exact ex b u q
      · have n : b ≠ ap := n
        rw [upd_ne n, q2 b n]; exact q
    refine ⟨_, rfl, _, _, _, _, rfl, rfl, SqL.of p2, rfl, _, _, rfl, rfl, _, rfl, ite2 (fun e => ?_) (fun e => ?_)⟩
    · have e : g.2.1 ≤ 1 := of_decide_eq_true e
      have u1 : ∀ xs : List V, (upd H ap (.lst xs)) ap = some (.lst xs) := fun xs => upd_same
      refine ⟨_, rfl, _, _, _, _, rfl, rfl, SqL.of p2, rfl, _, _, rfl, rfl, ?_⟩
      refine ⟨_, rfl, _, _, _, 3, rfl, rfl, p2, rfl, ?_⟩
      refine ⟨_, rfl, _, _, _, _, rfl, rfl, SqL.of (u1 _), rfl, ?_⟩
      refine ⟨_, rfl, _, _, _, _, rfl, rfl, SqL.of (u1 _), rfl, ?_⟩
      refine ⟨_, rfl, _, _, _, _, rfl, rfl, SqL.of (u1 _), rfl, ?_⟩
      refine ⟨a, scr, g.1, g.2.2 + 1, rfl, sq _, hb, ⟨by omega, by omega⟩, ⟨by omega, by omega⟩, ?_⟩
      refine ⟨_, rfl, _, _, _, 2, rfl, rfl, u1 _, rfl, ?_⟩
      refine fin _ g.1 (lawRest scr g.1 (g.2.2 + 1)) (g.2.2 + 1) upd_same (fun b n => by rw [upd_ne n, upd_ne n]) ?_
      unfold poolFill
      rw [if_pos e]
    · have e : ¬ g.2.1 ≤ 1 := fun h => e (decide_eq_true h)
      refine fin H g.1 g.2.1 g.2.2 p2 (fun b n => rfl) ?_
      unfold poolFill
      rw [if_neg e]
end
end MW

end
section
set_option Elab.async false
set_option linter.all false
set_option maxRecDepth 100000
set_option maxHeartbeats 4000000
namespace MW
/-! ### texts -/
def s_east : S := [101, 97, 115, 116]
def s_west : S := [119, 101, 115, 116]
def s_north : S := [110, 111, 114, 116, 104]
def s_over : S := [111, 118, 101, 114]
def s_name : S := [110, 97, 109, 101]
def s_none : S := [110, 111, 110, 101]
def s_placed : S := [112, 108, 97, 99, 101, 100]
def s_branches : S := [98, 114, 97, 110, 99, 104, 101, 115]
def s_scale : S := [115, 99, 97, 108, 101]
def s_inn : S := [105, 110, 110]
def s_hill : S := [104, 105, 108, 108]
def s_go : S := [103, 111]
def s_fort : S := [102, 111, 114, 116]
def s_elm : S := [101, 108, 109]
def s_bay : S := [98, 97, 121]
def s_a : S := [97]
def s_lake : S := [108, 97, 107, 101]
def s_south : S := [115, 111, 117, 116, 104]
def s_zoo : S := [122, 111, 111]

/-! ### the defs -/
/- overlap: 0 one 1 other -/
def c_overlap : C :=
  (.seq (.ret (.and (.cmp .lt (.idx (.v 0) (.k (.int 0))) (.idx (.v 1) (.k (.int 1)))) (.and (.cmp .lt (.idx (.v 1) (.k (.int 0))) (.idx (.v 0) (.k (.int 1)))) (.and (.cmp .lt (.idx (.v 0) (.k (.int 2))) (.idx (.v 1) (.k (.int 3)))) (.cmp .lt (.idx (.v 1) (.k (.int 2))) (.idx (.v 0) (.k (.int 3))))))))
  .nil)
def fd_overlap : FDef := ⟨2, 2, c_overlap⟩
/- within: 0 one 1 other -/
def c_within : C :=
  (.seq (.ret (.and (.cmp .le (.idx (.v 1) (.k (.int 0))) (.idx (.v 0) (.k (.int 0)))) (.and (.cmp .le (.idx (.v 0) (.k (.int 1))) (.idx (.v 1) (.k (.int 1)))) (.and (.cmp .le (.idx (.v 1) (.k (.int 2))) (.idx (.v 0) (.k (.int 2)))) (.cmp .le (.idx (.v 0) (.k (.int 3))) (.idx (.v 1) (.k (.int 3))))))))
  .nil)
def fd_within : FDef := ⟨2, 2, c_within⟩
/- touch: 0 one 1 other 2 beside 3 above 4 across 5 along -/
def c_touch : C :=
  (.seq (.asg (.nm 2) (.or (.cmp .eq (.idx (.v 0) (.k (.int 1))) (.idx (.v 1) (.k (.int 0)))) (.cmp .eq (.idx (.v 1) (.k (.int 1))) (.idx (.v 0) (.k (.int 0))))))
  (.seq (.asg (.nm 3) (.or (.cmp .eq (.idx (.v 0) (.k (.int 3))) (.idx (.v 1) (.k (.int 2)))) (.cmp .eq (.idx (.v 1) (.k (.int 3))) (.idx (.v 0) (.k (.int 2))))))
  (.seq (.asg (.nm 4) (.and (.cmp .lt (.idx (.v 0) (.k (.int 0))) (.idx (.v 1) (.k (.int 1)))) (.cmp .lt (.idx (.v 1) (.k (.int 0))) (.idx (.v 0) (.k (.int 1))))))
  (.seq (.asg (.nm 5) (.and (.cmp .lt (.idx (.v 0) (.k (.int 2))) (.idx (.v 1) (.k (.int 3)))) (.cmp .lt (.idx (.v 1) (.k (.int 2))) (.idx (.v 0) (.k (.int 3))))))
  (.seq (.ret (.or (.and (.v 2) (.v 5)) (.and (.v 3) (.v 4))))
  .nil)))))
def fd_touch : FDef := ⟨2, 6, c_touch⟩
/- label_box: 0 box 1 side 2 size 3 west 4 east 5 south 6 north -/
def c_label_box : C :=
  (.seq (.asg (.tup (.tcons (.nm 3) (.tcons (.nm 4) (.tcons (.nm 5) (.tcons (.nm 6) .tnil))))) (.v 0))
  (.seq (.if_ (.cmp .eq (.v 1) (.k (.str s_east)))
  (.seq (.ret (.tup (.acons (.v 4) (.acons (.bin .add (.v 4) (.v 2)) (.acons (.v 5) (.acons (.bin .add (.v 5) (.k (.int 1))) .anil))))))
  .nil)
  .nil)
  (.seq (.if_ (.cmp .eq (.v 1) (.k (.str s_west)))
  (.seq (.ret (.tup (.acons (.bin .sub (.v 3) (.v 2)) (.acons (.v 3) (.acons (.v 5) (.acons (.bin .add (.v 5) (.k (.int 1))) .anil))))))
  .nil)
  .nil)
  (.seq (.if_ (.cmp .eq (.v 1) (.k (.str s_north)))
  (.seq (.ret (.tup (.acons (.v 3) (.acons (.bin .add (.v 3) (.v 2)) (.acons (.v 6) (.acons (.bin .add (.v 6) (.k (.int 1))) .anil))))))
  .nil)
  .nil)
  (.seq (.ret (.tup (.acons (.v 3) (.acons (.bin .add (.v 3) (.v 2)) (.acons (.bin .sub (.v 5) (.k (.int 1))) (.acons (.v 5) .anil))))))
  .nil)))))
def fd_label_box : FDef := ⟨3, 7, c_label_box⟩
/- places_for: 0 name 1 boxes 2 window 3 own 4 others 5 other 6 box 7 found 8 side 9 clear -/
def c_places_for : C :=
  (.seq (.asg (.nm 3) (.idx (.v 1) (.v 0)))
  (.seq (.asg (.nm 4) (.lc (.v 6) (.tup (.tcons (.nm 5) (.tcons (.nm 6) .tnil))) (.sitems (.v 1)) (.and (.cmp .ne (.v 5) (.v 0)) (.not (.call "within" (.acons (.v 3) (.acons (.v 6) .anil)) 0))) [5, 6]))
  (.seq (.own 7 (.lst .anil))
  (.seq (.for_ (.nm 8) (.gv "SIDES")
  (.seq (.asg (.nm 6) (.call "label_box" (.acons (.v 3) (.acons (.v 8) (.acons (.b1 .len (.v 0)) .anil))) 0))
  (.seq (.asg (.nm 9) (.not (.b1 .any (.lc (.or (.call "overlap" (.acons (.v 6) (.acons (.v 5) .anil)) 0) (.call "touch" (.acons (.v 6) (.acons (.v 5) .anil)) 0)) (.nm 5) (.v 4) (.k (.bl true)) [5]))))
  (.seq (.if_ (.and (.call "within" (.acons (.v 6) (.acons (.v 2) .anil)) 0) (.and (.v 9) (.not (.call "overlap" (.acons (.v 6) (.acons (.v 3) .anil)) 0))))
  (.seq (.app 7 (.tup (.acons (.v 8) (.acons (.v 6) .anil))))
  .nil)
  .nil)
  (.seq (.drop [6, 8, 9])
  .nil)))))
  (.seq (.drop [6, 8, 9])
  (.seq (.frz [7])
  (.seq (.ret (.v 7))
  .nil)))))))
def fd_places_for : FDef := ⟨3, 10, c_places_for⟩
/- together: 0 one 1 other -/
def c_together : C :=
  (.seq (.ret (.and (.not (.call "overlap" (.acons (.v 0) (.acons (.v 1) .anil)) 0)) (.not (.and (.cmp .eq (.slc (.v 0) (.k (.int 2)) .nth) (.slc (.v 1) (.k (.int 2)) .nth)) (.or (.cmp .eq (.idx (.v 0) (.k (.int 1))) (.idx (.v 1) (.k (.int 0)))) (.cmp .eq (.idx (.v 1) (.k (.int 1))) (.idx (.v 0) (.k (.int 0)))))))))
  .nil)
def fd_together : FDef := ⟨2, 2, c_together⟩
/- lots_of: 0 names 1 size 2 place 3 name 4 lot -/
def c_lots_of : C :=
  (.seq (.if_ (.cmp .eq (.v 1) (.k (.int 0)))
  (.seq (.ret (.lst (.acons (.tup .anil) .anil)))
  .nil)
  .nil)
  (.seq (.ret (.lc2 (.bin .add (.tup (.acons (.v 3) .anil)) (.v 4)) (.tup (.tcons (.nm 2) (.tcons (.nm 3) .tnil))) (.enum (.v 0)) (.k (.bl true)) (.nm 4) (.call "lots_of" (.acons (.slc (.v 0) (.bin .add (.v 2) (.k (.int 1))) .nth) (.acons (.bin .sub (.v 1) (.k (.int 1))) .anil)) 0) (.k (.bl true)) [2, 3, 4] [4]))
  .nil))
def fd_lots_of : FDef := ⟨2, 5, c_lots_of⟩
/- names_in: 0 boxes 1 told 2 name -/
def c_names_in : C :=
  (.seq (.ret (.b1 .sorted (.dcv (.v 2) (.k (.bl true)) 0 1 (.nm 2) [1, 2] [2])))
  .nil)
def fd_names_in : FDef := ⟨1, 3, c_names_in⟩
/- places_over: 0 boxes 1 windows 2 name 3 scales 4 scale 5 told 6 found 7 side -/
def c_places_over : C :=
  (.seq (.asg (.nm 3) (.lc (.v 4) (.nm 4) (.b1 .sorted (.v 0)) (.cmp .inn (.v 2) (.idx (.v 0) (.v 4))) [4]))
  (.seq (.asg (.nm 5) (.dc (.v 4) (.b1 .dict (.call "places_for" (.acons (.v 2) (.acons (.idx (.v 0) (.v 4)) (.acons (.idx (.v 1) (.v 4)) .anil))) 0)) (.nm 4) (.v 3) (.k (.bl true)) [4]))
  (.seq (.own 6 (.lst .anil))
  (.seq (.for_ (.nm 7) (.gv "SIDES")
  (.seq (.if_ (.b1 .all (.lc (.cmp .inn (.v 7) (.idx (.v 5) (.v 4))) (.nm 4) (.v 3) (.k (.bl true)) [4]))
  (.seq (.app 6 (.tup (.acons (.v 7) (.acons (.b1 .ptuple (.lc (.tup (.acons (.v 4) (.acons (.idx (.idx (.v 5) (.v 4)) (.v 7)) .anil))) (.nm 4) (.v 3) (.k (.bl true)) [4])) .anil))))
  .nil)
  .nil)
  (.seq (.drop [7])
  .nil)))
  (.seq (.drop [7])
  (.seq (.frz [6])
  (.seq (.ret (.v 6))
  .nil)))))))
def fd_places_over : FDef := ⟨3, 8, c_places_over⟩
/- all_over: 0 boxes 1 windows 2 name -/
def c_all_over : C :=
  (.seq (.ret (.dc (.v 2) (.call "places_over" (.acons (.v 0) (.acons (.v 1) (.acons (.v 2) .anil))) 0) (.nm 2) (.call "names_in" (.acons (.v 0) .anil) 0) (.k (.bl true)) [2]))
  .nil)
def fd_all_over : FDef := ⟨2, 3, c_all_over⟩
/- clash_at: 0 one 1 other 2 there 3 scale 4 box -/
def c_clash_at : C :=
  (.seq (.asg (.nm 2) (.b1 .dict (.idx (.v 1) (.k (.int 1)))))
  (.seq (.for_ (.tup (.tcons (.nm 3) (.tcons (.nm 4) .tnil))) (.idx (.v 0) (.k (.int 1)))
  (.seq (.if_ (.and (.cmp .inn (.v 3) (.v 2)) (.not (.call "together" (.acons (.v 4) (.acons (.idx (.v 2) (.v 3)) .anil)) 0)))
  (.seq (.ret (.v 3))
  .nil)
  .nil)
  (.seq (.drop [3, 4])
  .nil)))
  (.seq (.drop [3, 4])
  (.seq (.ret (.k .non))
  .nil))))
def fd_clash_at : FDef := ⟨2, 5, c_clash_at⟩
/- is_free: 0 places 1 taken 2 name 3 number 4 other 5 there -/
def c_is_free : C :=
  (.seq (.ret (.b1 .all (.lc (.cmp .is (.call "clash_at" (.acons (.idx (.idx (.v 0) (.v 2)) (.v 3)) (.acons (.idx (.idx (.v 0) (.v 4)) (.v 5)) .anil)) 0) (.k .non)) (.tup (.tcons (.nm 4) (.tcons (.nm 5) .tnil))) (.v 1) (.k (.bl true)) [4, 5])))
  .nil)
def fd_is_free : FDef := ⟨4, 6, c_is_free⟩
/- first_over: 0 places 1 names 2 taken 3 number 4 found -/
def c_first_over : C :=
  (.seq (.if_ (.not (.v 1))
  (.seq (.ret (.v 2))
  .nil)
  .nil)
  (.seq (.for_ (.nm 3) (.rng1 (.b1 .len (.idx (.v 0) (.idx (.v 1) (.k (.int 0))))))
  (.seq (.if_ (.call "is_free" (.acons (.v 0) (.acons (.v 2) (.acons (.idx (.v 1) (.k (.int 0))) (.acons (.v 3) .anil)))) 0)
  (.seq (.asg (.nm 4) (.call "first_over" (.acons (.v 0) (.acons (.slc (.v 1) (.k (.int 1)) .nth) (.acons (.bin .add (.v 2) (.tup (.acons (.tup (.acons (.idx (.v 1) (.k (.int 0))) (.acons (.v 3) .anil))) .anil))) .anil))) 0))
  (.seq (.if_ (.cmp .isn (.v 4) (.k .non))
  (.seq (.ret (.v 4))
  .nil)
  .nil)
  .nil))
  .nil)
  (.seq (.drop [4])
  (.seq (.drop [3, 4])
  .nil))))
  (.seq (.drop [3, 4])
  (.seq (.ret (.k .non))
  .nil))))
def fd_first_over : FDef := ⟨3, 5, c_first_over⟩
/- over_leaf: 0 places 1 taken 2 name 3 number 4 other 5 there 6 scale -/
def c_over_leaf : C :=
  (.seq (.for_ (.tup (.tcons (.nm 4) (.tcons (.nm 5) .tnil))) (.v 1)
  (.seq (.asg (.nm 6) (.call "clash_at" (.acons (.idx (.idx (.v 0) (.v 2)) (.v 3)) (.acons (.idx (.idx (.v 0) (.v 4)) (.v 5)) .anil)) 0))
  (.seq (.if_ (.cmp .isn (.v 6) (.k .non))
  (.seq (.ret (.tup (.acons (.k (.str s_over)) (.acons (.tup (.acons (.v 4) (.acons (.v 5) .anil))) (.acons (.v 6) .anil)))))
  .nil)
  .nil)
  (.seq (.drop [4, 5, 6])
  .nil))))
  (.seq (.drop [4, 5, 6])
  (.seq (.ret (.k .non))
  .nil)))
def fd_over_leaf : FDef := ⟨4, 7, c_over_leaf⟩
/- tree_over: 0 places 1 names 2 taken 3 name 4 branches 5 number -/
def c_tree_over : C :=
  (.seq (.asg (.nm 3) (.idx (.v 1) (.k (.int 0))))
  (.seq (.own 4 (.lst .anil))
  (.seq (.for_ (.nm 5) (.rng1 (.b1 .len (.idx (.v 0) (.v 3))))
  (.seq (.if_ (.call "is_free" (.acons (.v 0) (.acons (.v 2) (.acons (.v 3) (.acons (.v 5) .anil)))) 0)
  (.seq (.app 4 (.call "tree_over" (.acons (.v 0) (.acons (.slc (.v 1) (.k (.int 1)) .nth) (.acons (.bin .add (.v 2) (.tup (.acons (.tup (.acons (.v 3) (.acons (.v 5) .anil))) .anil))) .anil))) 0))
  .nil)
  (.seq (.app 4 (.call "over_leaf" (.acons (.v 0) (.acons (.v 2) (.acons (.v 3) (.acons (.v 5) .anil)))) 0))
  .nil))
  (.seq (.drop [5])
  .nil)))
  (.seq (.drop [5])
  (.seq (.ret (.tup (.acons (.k (.str s_name)) (.acons (.v 3) (.acons (.b1 .tuple (.v 4)) .anil)))))
  .nil)))))
def fd_tree_over : FDef := ⟨3, 6, c_tree_over⟩
/- placed_over: 0 places 1 names 2 found -/
def c_placed_over : C :=
  (.seq (.asg (.nm 2) (.call "first_over" (.acons (.v 0) (.acons (.b1 .tuple (.v 1)) (.acons (.tup .anil) .anil))) 0))
  (.seq (.ret (.ite (.cmp .is (.v 2) (.k .non)) (.tup (.acons (.k (.str s_none)) (.acons (.call "tree_over" (.acons (.v 0) (.acons (.b1 .tuple (.v 1)) (.acons (.tup .anil) .anil))) 0) .anil))) (.tup (.acons (.k (.str s_placed)) (.acons (.v 2) .anil)))))
  .nil))
def fd_placed_over : FDef := ⟨2, 3, c_placed_over⟩
/- fault_of_over: 0 places 1 names 2 told 3 taken 4 left 5 name 6 number 7 branch 8 fault -/
def c_fault_of_over : C :=
  (.seq (.if_ (.or (.cmp .ne (.idx (.v 2) (.k (.int 0))) (.k (.str s_name))) (.cmp .nin (.idx (.v 2) (.k (.int 1))) (.v 1)))
  (.seq (.ret (.k (.str s_name)))
  .nil)
  .nil)
  (.seq (.if_ (.cmp .ne (.b1 .len (.idx (.v 2) (.k (.int 2)))) (.b1 .len (.idx (.v 0) (.idx (.v 2) (.k (.int 1))))))
  (.seq (.ret (.k (.str s_branches)))
  .nil)
  .nil)
  (.seq (.asg (.nm 4) (.b1 .tuple (.lc (.v 5) (.nm 5) (.v 1) (.cmp .ne (.v 5) (.idx (.v 2) (.k (.int 1)))) [5])))
  (.seq (.for_ (.tup (.tcons (.nm 6) (.tcons (.nm 7) .tnil))) (.enum (.idx (.v 2) (.k (.int 2))))
  (.seq (.if_ (.cmp .ne (.idx (.v 7) (.k (.int 0))) (.k (.str s_over)))
  (.seq (.asg (.nm 8) (.call "fault_of_over" (.acons (.v 0) (.acons (.v 4) (.acons (.v 7) (.acons (.bin .add (.v 3) (.tup (.acons (.tup (.acons (.idx (.v 2) (.k (.int 1))) (.acons (.v 6) .anil))) .anil))) .anil)))) 0))
  (.seq (.if_ (.cmp .isn (.v 8) (.k .non))
  (.seq (.ret (.v 8))
  .nil)
  .nil)
  .nil))
  (.seq (.if_ (.cmp .nin (.idx (.v 7) (.k (.int 1))) (.v 3))
  (.seq (.ret (.k (.str s_over)))
  .nil)
  (.seq (.if_ (.not (.call "bars" (.acons (.idx (.idx (.v 0) (.idx (.v 2) (.k (.int 1)))) (.v 6)) (.acons (.idx (.idx (.v 0) (.idx (.idx (.v 7) (.k (.int 1))) (.k (.int 0)))) (.idx (.idx (.v 7) (.k (.int 1))) (.k (.int 1)))) (.acons (.idx (.v 7) (.k (.int 2))) .anil))) 0))
  (.seq (.ret (.k (.str s_scale)))
  .nil)
  .nil)
  .nil))
  .nil))
  (.seq (.drop [8])
  (.seq (.drop [6, 7, 8])
  .nil))))
  (.seq (.drop [6, 7, 8])
  (.seq (.ret (.k .non))
  .nil))))))
def fd_fault_of_over : FDef := ⟨4, 9, c_fault_of_over⟩
/- bars: 0 one 1 other 2 scale 3 here 4 there -/
def c_bars : C :=
  (.seq (.asg (.tup (.tcons (.nm 3) (.tcons (.nm 4) .tnil))) (.tup (.acons (.b1 .dict (.idx (.v 0) (.k (.int 1)))) (.acons (.b1 .dict (.idx (.v 1) (.k (.int 1)))) .anil))))
  (.seq (.ret (.and (.cmp .inn (.v 2) (.v 3)) (.and (.cmp .inn (.v 2) (.v 4)) (.not (.call "together" (.acons (.idx (.v 3) (.v 2)) (.acons (.idx (.v 4) (.v 2)) .anil)) 0)))))
  .nil))
def fd_bars : FDef := ⟨3, 5, c_bars⟩
/- most_over: 0 places 1 ranks 2 kept 3 lots 4 rank 5 name 6 names 7 lot -/
def c_most_over : C :=
  (.seq (.asg (.nm 2) (.tup .anil))
  (.seq (.own 3 (.lst .anil))
  (.seq (.for_ (.nm 4) (.b1 .sorted (.dc (.idx (.v 1) (.v 5)) (.k (.bl true)) (.nm 5) (.v 0) (.k (.bl true)) [5]))
  (.seq (.asg (.nm 6) (.b1 .tuple (.lc (.v 5) (.nm 5) (.b1 .sorted (.v 0)) (.cmp .eq (.idx (.v 1) (.v 5)) (.v 4)) [5])))
  (.seq (.asg (.nm 7) (.call "greatest_lot" (.acons (.v 0) (.acons (.v 2) (.acons (.v 6) .anil))) 0))
  (.seq (.app 3 (.tup (.acons (.v 4) (.acons (.v 7) .anil))))
  (.seq (.asg (.nm 2) (.bin .add (.v 2) (.v 7)))
  (.seq (.drop [4, 6, 7])
  .nil))))))
  (.seq (.drop [4, 6, 7])
  (.seq (.ret (.tup (.acons (.b1 .tuple (.v 3)) (.acons (.call "first_over" (.acons (.v 0) (.acons (.v 2) (.acons (.tup .anil) .anil))) 0) .anil))))
  .nil)))))
def fd_most_over : FDef := ⟨2, 8, c_most_over⟩
/- greatest_lot: 0 places 1 kept 2 names 3 size 4 lot -/
def c_greatest_lot : C :=
  (.seq (.for_ (.nm 3) (.rng3 (.b1 .len (.v 2)) (.k (.int 0)) (.neg (.k (.int 1))))
  (.seq (.for_ (.nm 4) (.call "lots_of" (.acons (.v 2) (.acons (.v 3) .anil)) 0)
  (.seq (.if_ (.cmp .isn (.call "first_over" (.acons (.v 0) (.acons (.bin .add (.v 1) (.v 4)) (.acons (.tup .anil) .anil))) 0) (.k .non))
  (.seq (.ret (.v 4))
  .nil)
  .nil)
  (.seq (.drop [4])
  .nil)))
  (.seq (.drop [4])
  (.seq (.drop [3, 4])
  .nil))))
  (.seq (.drop [3, 4])
  (.seq (.ret (.tup .anil))
  .nil)))
def fd_greatest_lot : FDef := ⟨3, 5, c_greatest_lot⟩
/- _law_boxes: 0 pool 1 many 2 found 3 words 4 k 5 west 6 south -/
def c_law_boxes : C :=
  (.seq (.own 2 (.dK))
  (.seq (.asg (.nm 3) (.lst (.acons (.k (.str s_a)) (.acons (.k (.str s_bay)) (.acons (.k (.str s_elm)) (.acons (.k (.str s_fort)) (.acons (.k (.str s_go)) (.acons (.k (.str s_hill)) (.acons (.k (.str s_inn)) .anil)))))))))
  (.seq (.for_ (.nm 4) (.rng1 (.v 1))
  (.seq (.ex (.call "_law_next" (.acons (.v 0) .anil) 0))
  (.seq (.asg (.nm 5) (.call "_law_draw" (.acons (.v 0) (.acons (.k (.int 7)) .anil)) 0))
  (.seq (.asg (.nm 6) (.call "_law_draw" (.acons (.v 0) (.acons (.k (.int 5)) .anil)) 0))
  (.seq (.put 2 (.idx (.v 3) (.v 4)) (.tup (.acons (.v 5) (.acons (.bin .add (.bin .add (.v 5) (.k (.int 1))) (.call "_law_draw" (.acons (.v 0) (.acons (.k (.int 2)) .anil)) 0)) (.acons (.v 6) (.acons (.bin .add (.bin .add (.v 6) (.k (.int 1))) (.call "_law_draw" (.acons (.v 0) (.acons (.k (.int 2)) .anil)) 0)) .anil))))))
  (.seq (.drop [4, 5, 6])
  .nil))))))
  (.seq (.drop [4, 5, 6])
  (.seq (.if_ (.cmp .eq (.call "_law_draw" (.acons (.v 0) (.acons (.k (.int 3)) .anil)) 0) (.k (.int 0)))
  (.seq (.put 2 (.k (.str s_lake)) (.tup (.acons (.k (.int 0)) (.acons (.k (.int 9)) (.acons (.k (.int 0)) (.acons (.k (.int 7)) .anil))))))
  .nil)
  .nil)
  (.seq (.frz [2])
  (.seq (.ret (.v 2))
  .nil)))))))
def fd_law_boxes : FDef := ⟨2, 7, c_law_boxes⟩
/- _law_squares: 0 box 1 found 2 x 3 y -/
def c_law_squares : C :=
  (.seq (.asg (.nm 1) (.lst .anil))
  (.seq (.for_ (.nm 2) (.rng2 (.idx (.v 0) (.k (.int 0))) (.idx (.v 0) (.k (.int 1))))
  (.seq (.asg (.nm 1) (.bin .add (.v 1) (.lc (.tup (.acons (.v 2) (.acons (.v 3) .anil))) (.nm 3) (.rng2 (.idx (.v 0) (.k (.int 2))) (.idx (.v 0) (.k (.int 3)))) (.k (.bl true)) [3])))
  (.seq (.drop [2])
  .nil)))
  (.seq (.drop [2])
  (.seq (.ret (.v 1))
  .nil))))
def fd_law_squares : FDef := ⟨1, 4, c_law_squares⟩
/- _law_near: 0 box 1 found 2 x 3 y -/
def c_law_near : C :=
  (.seq (.asg (.nm 1) (.lst .anil))
  (.seq (.for_ (.tup (.tcons (.nm 2) (.tcons (.nm 3) .tnil))) (.call "_law_squares" (.acons (.v 0) .anil) 0)
  (.seq (.asg (.nm 1) (.bin .add (.v 1) (.lst (.acons (.tup (.acons (.v 2) (.acons (.v 3) .anil))) (.acons (.tup (.acons (.bin .add (.v 2) (.k (.int 1))) (.acons (.v 3) .anil))) (.acons (.tup (.acons (.bin .sub (.v 2) (.k (.int 1))) (.acons (.v 3) .anil))) (.acons (.tup (.acons (.v 2) (.acons (.bin .add (.v 3) (.k (.int 1))) .anil))) (.acons (.tup (.acons (.v 2) (.acons (.bin .sub (.v 3) (.k (.int 1))) .anil))) .anil))))))))
  (.seq (.drop [2, 3])
  .nil)))
  (.seq (.drop [2, 3])
  (.seq (.ret (.v 1))
  .nil))))
def fd_law_near : FDef := ⟨1, 4, c_law_near⟩
/- _law_holds: 0 one 1 other 2 square -/
def c_law_holds : C :=
  (.seq (.ret (.cmp .eq (.b1 .len (.lc (.v 2) (.nm 2) (.call "_law_squares" (.acons (.v 1) .anil) 0) (.cmp .nin (.v 2) (.call "_law_squares" (.acons (.v 0) .anil) 0)) [2])) (.k (.int 0))))
  .nil)
def fd_law_holds : FDef := ⟨2, 3, c_law_holds⟩
/- _law_spots: 0 boxes 1 window 2 name 3 west 4 east 5 south 6 north 7 size 8 rows 9 found 10 side 11 x 12 y 13 box 14 good 15 other 16 square -/
def c_law_spots : C :=
  (.seq (.asg (.tup (.tcons (.nm 3) (.tcons (.nm 4) (.tcons (.nm 5) (.tcons (.nm 6) .tnil))))) (.idx (.v 0) (.v 2)))
  (.seq (.asg (.nm 7) (.b1 .len (.v 2)))
  (.seq (.asg (.nm 8) (.lst (.acons (.tup (.acons (.k (.str s_east)) (.acons (.v 4) (.acons (.v 5) .anil)))) (.acons (.tup (.acons (.k (.str s_north)) (.acons (.v 3) (.acons (.v 6) .anil)))) (.acons (.tup (.acons (.k (.str s_west)) (.acons (.bin .sub (.v 3) (.v 7)) (.acons (.v 5) .anil)))) (.acons (.tup (.acons (.k (.str s_south)) (.acons (.v 3) (.acons (.bin .sub (.v 5) (.k (.int 1))) .anil)))) .anil))))))
  (.seq (.own 9 (.lst .anil))
  (.seq (.for_ (.tup (.tcons (.nm 10) (.tcons (.nm 11) (.tcons (.nm 12) .tnil)))) (.v 8)
  (.seq (.asg (.nm 13) (.tup (.acons (.v 11) (.acons (.bin .add (.v 11) (.v 7)) (.acons (.v 12) (.acons (.bin .add (.v 12) (.k (.int 1))) .anil))))))
  (.seq (.asg (.nm 14) (.call "_law_holds" (.acons (.v 1) (.acons (.v 13) .anil)) 0))
  (.seq (.for_ (.nm 15) (.v 0)
  (.seq (.if_ (.and (.cmp .ne (.v 15) (.v 2)) (.not (.call "_law_holds" (.acons (.idx (.v 0) (.v 15)) (.acons (.idx (.v 0) (.v 2)) .anil)) 0)))
  (.seq (.if_ (.cmp .gt (.b1 .len (.lc (.v 16) (.nm 16) (.call "_law_squares" (.acons (.idx (.v 0) (.v 15)) .anil) 0) (.cmp .inn (.v 16) (.call "_law_near" (.acons (.v 13) .anil) 0)) [16])) (.k (.int 0)))
  (.seq (.asg (.nm 14) (.k (.bl false)))
  .nil)
  .nil)
  .nil)
  .nil)
  (.seq (.drop [15])
  .nil)))
  (.seq (.drop [15])
  (.seq (.if_ (.v 14)
  (.seq (.app 9 (.tup (.acons (.v 10) (.acons (.v 13) .anil))))
  .nil)
  .nil)
  (.seq (.drop [10, 11, 12, 13, 14, 15])
  .nil)))))))
  (.seq (.drop [10, 11, 12, 13, 14, 15])
  (.seq (.frz [9])
  (.seq (.ret (.v 9))
  .nil))))))))
def fd_law_spots : FDef := ⟨3, 17, c_law_spots⟩
/- _law_together: 0 one 1 other 2 square -/
def c_law_together : C :=
  (.seq (.if_ (.cmp .gt (.b1 .len (.lc (.v 2) (.nm 2) (.call "_law_squares" (.acons (.v 0) .anil) 0) (.cmp .inn (.v 2) (.call "_law_squares" (.acons (.v 1) .anil) 0)) [2])) (.k (.int 0)))
  (.seq (.ret (.k (.bl false)))
  .nil)
  .nil)
  (.seq (.ret (.or (.cmp .ne (.idx (.v 0) (.k (.int 2))) (.idx (.v 1) (.k (.int 2)))) (.and (.cmp .ne (.idx (.v 0) (.k (.int 1))) (.idx (.v 1) (.k (.int 0)))) (.cmp .ne (.idx (.v 1) (.k (.int 1))) (.idx (.v 0) (.k (.int 0)))))))
  .nil))
def fd_law_together : FDef := ⟨2, 3, c_law_together⟩
/- _law_over: 0 boxes 1 windows 2 name 3 scales 4 scale 5 found 6 side 7 rows 8 here 9 box -/
def c_law_over : C :=
  (.seq (.asg (.nm 3) (.lc (.v 4) (.nm 4) (.b1 .sorted (.v 0)) (.cmp .inn (.v 2) (.idx (.v 0) (.v 4))) [4]))
  (.seq (.own 5 (.lst .anil))
  (.seq (.for_ (.nm 6) (.lst (.acons (.k (.str s_east)) (.acons (.k (.str s_north)) (.acons (.k (.str s_west)) (.acons (.k (.str s_south)) .anil)))))
  (.seq (.asg (.nm 7) (.lst .anil))
  (.seq (.for_ (.nm 4) (.v 3)
  (.seq (.asg (.nm 7) (.bin .add (.v 7) (.lc (.tup (.acons (.v 4) (.acons (.v 9) .anil))) (.tup (.tcons (.nm 8) (.tcons (.nm 9) .tnil))) (.call "_law_spots" (.acons (.idx (.v 0) (.v 4)) (.acons (.idx (.v 1) (.v 4)) (.acons (.v 2) .anil))) 0) (.cmp .eq (.v 8) (.v 6)) [8, 9])))
  (.seq (.drop [4])
  .nil)))
  (.seq (.drop [4])
  (.seq (.if_ (.cmp .eq (.b1 .len (.v 7)) (.b1 .len (.v 3)))
  (.seq (.app 5 (.tup (.acons (.v 6) (.acons (.b1 .tuple (.v 7)) .anil))))
  .nil)
  .nil)
  (.seq (.drop [4, 6, 7])
  .nil))))))
  (.seq (.drop [4, 6, 7])
  (.seq (.frz [5])
  (.seq (.ret (.v 5))
  .nil))))))
def fd_law_over : FDef := ⟨3, 10, c_law_over⟩
/- _law_clash: 0 one 1 other 2 scale 3 box 4 number 5 there -/
def c_law_clash : C :=
  (.seq (.for_ (.tup (.tcons (.nm 2) (.tcons (.nm 3) .tnil))) (.idx (.v 0) (.k (.int 1)))
  (.seq (.if_ (.cmp .gt (.b1 .len (.lc (.v 5) (.tup (.tcons (.nm 4) (.tcons (.nm 5) .tnil))) (.idx (.v 1) (.k (.int 1))) (.and (.cmp .eq (.v 4) (.v 2)) (.not (.call "_law_together" (.acons (.v 3) (.acons (.v 5) .anil)) 0))) [4, 5])) (.k (.int 0)))
  (.seq (.ret (.v 2))
  .nil)
  .nil)
  (.seq (.drop [2, 3])
  .nil)))
  (.seq (.drop [2, 3])
  (.seq (.ret (.k .non))
  .nil)))
def fd_law_clash : FDef := ⟨2, 6, c_law_clash⟩
/- _law_all_ways: 0 places 1 names 2 found 3 name 4 further 5 rows 6 number 7 row -/
def c_law_all_ways : C :=
  (.seq (.asg (.nm 2) (.lst (.acons (.tup .anil) .anil)))
  (.seq (.for_ (.nm 3) (.v 1)
  (.seq (.own 4 (.lst .anil))
  (.seq (.for_ (.nm 5) (.v 2)
  (.seq (.for_ (.nm 6) (.rng1 (.b1 .len (.idx (.v 0) (.v 3))))
  (.seq (.if_ (.cmp .eq (.b1 .len (.lc (.v 7) (.nm 7) (.v 5) (.cmp .isn (.call "_law_clash" (.acons (.idx (.idx (.v 0) (.v 3)) (.v 6)) (.acons (.idx (.idx (.v 0) (.idx (.v 7) (.k (.int 0)))) (.idx (.v 7) (.k (.int 1)))) .anil)) 0) (.k .non)) [7])) (.k (.int 0)))
  (.seq (.app 4 (.bin .add (.v 5) (.tup (.acons (.tup (.acons (.v 3) (.acons (.v 6) .anil))) .anil))))
  .nil)
  .nil)
  (.seq (.drop [6])
  .nil)))
  (.seq (.drop [6])
  (.seq (.drop [5, 6])
  .nil))))
  (.seq (.drop [5, 6])
  (.seq (.frz [4])
  (.seq (.asg (.nm 2) (.v 4))
  (.seq (.drop [3, 4, 5, 6])
  .nil)))))))
  (.seq (.drop [3, 4, 5, 6])
  (.seq (.ret (.v 2))
  .nil))))
def fd_law_all_ways : FDef := ⟨2, 8, c_law_all_ways⟩
/- _law_fault: 0 places 1 names 2 tree 3 taken 4 left 5 name 6 number 7 branch 8 word 9 one 10 other -/
def c_law_fault : C :=
  (.seq (.if_ (.or (.cmp .ne (.idx (.v 2) (.k (.int 0))) (.k (.str s_name))) (.cmp .nin (.idx (.v 2) (.k (.int 1))) (.v 1)))
  (.seq (.ret (.k (.str s_name)))
  .nil)
  .nil)
  (.seq (.if_ (.cmp .ne (.b1 .len (.idx (.v 2) (.k (.int 2)))) (.b1 .len (.idx (.v 0) (.idx (.v 2) (.k (.int 1))))))
  (.seq (.ret (.k (.str s_branches)))
  .nil)
  .nil)
  (.seq (.asg (.nm 4) (.lc (.v 5) (.nm 5) (.v 1) (.cmp .ne (.v 5) (.idx (.v 2) (.k (.int 1)))) [5]))
  (.seq (.for_ (.nm 6) (.rng1 (.b1 .len (.idx (.v 2) (.k (.int 2)))))
  (.seq (.asg (.nm 7) (.idx (.idx (.v 2) (.k (.int 2))) (.v 6)))
  (.seq (.if_ (.cmp .ne (.idx (.v 7) (.k (.int 0))) (.k (.str s_over)))
  (.seq (.asg (.nm 8) (.call "_law_fault" (.acons (.v 0) (.acons (.v 4) (.acons (.v 7) (.acons (.bin .add (.v 3) (.lst (.acons (.tup (.acons (.idx (.v 2) (.k (.int 1))) (.acons (.v 6) .anil))) .anil))) .anil)))) 0))
  (.seq (.if_ (.cmp .isn (.v 8) (.k .non))
  (.seq (.ret (.v 8))
  .nil)
  .nil)
  .nil))
  (.seq (.if_ (.cmp .nin (.idx (.v 7) (.k (.int 1))) (.v 3))
  (.seq (.ret (.k (.str s_over)))
  .nil)
  (.seq (.asg (.nm 9) (.b1 .dict (.idx (.idx (.idx (.v 0) (.idx (.v 2) (.k (.int 1)))) (.v 6)) (.k (.int 1)))))
  (.seq (.asg (.nm 10) (.b1 .dict (.idx (.idx (.idx (.v 0) (.idx (.idx (.v 7) (.k (.int 1))) (.k (.int 0)))) (.idx (.idx (.v 7) (.k (.int 1))) (.k (.int 1)))) (.k (.int 1)))))
  (.seq (.if_ (.or (.cmp .nin (.idx (.v 7) (.k (.int 2))) (.v 9)) (.or (.cmp .nin (.idx (.v 7) (.k (.int 2))) (.v 10)) (.call "_law_together" (.acons (.idx (.v 9) (.idx (.v 7) (.k (.int 2)))) (.acons (.idx (.v 10) (.idx (.v 7) (.k (.int 2)))) .anil)) 0)))
  (.seq (.ret (.k (.str s_scale)))
  .nil)
  .nil)
  .nil))))
  (.seq (.drop [9, 10])
  .nil)))
  (.seq (.drop [8, 9, 10])
  (.seq (.drop [6, 7, 8, 9, 10])
  .nil)))))
  (.seq (.drop [6, 7, 8, 9, 10])
  (.seq (.ret (.k .non))
  .nil))))))
def fd_law_fault : FDef := ⟨4, 11, c_law_fault⟩
/- _law_lots: 0 names 1 size 2 found 3 name 4 lot -/
def c_law_lots : C :=
  (.seq (.asg (.nm 2) (.lst (.acons (.tup .anil) .anil)))
  (.seq (.for_ (.nm 3) (.v 0)
  (.seq (.asg (.nm 2) (.bin .add (.v 2) (.lc (.bin .add (.v 4) (.tup (.acons (.v 3) .anil))) (.nm 4) (.v 2) (.k (.bl true)) [4])))
  (.seq (.drop [3])
  .nil)))
  (.seq (.drop [3])
  (.seq (.ret (.b1 .sorted (.lc (.v 4) (.nm 4) (.v 2) (.cmp .eq (.b1 .len (.v 4)) (.v 1)) [4])))
  .nil))))
def fd_law_lots : FDef := ⟨2, 5, c_law_lots⟩
/- _law_most: 0 places 1 ranks 2 kept 3 lots 4 rank 5 name 6 names 7 best 8 size 9 good 10 lot -/
def c_law_most : C :=
  (.seq (.asg (.nm 2) (.tup .anil))
  (.seq (.own 3 (.lst .anil))
  (.seq (.for_ (.nm 4) (.b1 .sorted (.b1 .dict (.lc (.tup (.acons (.idx (.v 1) (.v 5)) (.acons (.k (.bl true)) .anil))) (.nm 5) (.v 1) (.k (.bl true)) [5])))
  (.seq (.asg (.nm 6) (.lc (.v 5) (.nm 5) (.b1 .sorted (.v 0)) (.cmp .eq (.idx (.v 1) (.v 5)) (.v 4)) [5]))
  (.seq (.asg (.nm 7) (.tup .anil))
  (.seq (.for_ (.nm 8) (.rng3 (.b1 .len (.v 6)) (.k (.int 0)) (.neg (.k (.int 1))))
  (.seq (.asg (.nm 9) (.lc (.v 10) (.nm 10) (.call "_law_lots" (.acons (.v 6) (.acons (.v 8) .anil)) 0) (.cmp .ne (.call "_law_all_ways" (.acons (.v 0) (.acons (.bin .add (.v 2) (.v 10)) .anil)) 0) (.lst .anil)) [10]))
  (.seq (.if_ (.and (.cmp .eq (.v 7) (.tup .anil)) (.cmp .ne (.v 9) (.lst .anil)))
  (.seq (.asg (.nm 7) (.idx (.v 9) (.k (.int 0))))
  .nil)
  .nil)
  (.seq (.drop [8, 9])
  .nil))))
  (.seq (.drop [8, 9])
  (.seq (.app 3 (.tup (.acons (.v 4) (.acons (.v 7) .anil))))
  (.seq (.asg (.nm 2) (.bin .add (.v 2) (.v 7)))
  (.seq (.drop [4, 6, 7, 8, 9])
  .nil))))))))
  (.seq (.drop [4, 6, 7, 8, 9])
  (.seq (.ret (.tup (.acons (.b1 .tuple (.v 3)) (.acons (.idx (.call "_law_all_ways" (.acons (.v 0) (.acons (.v 2) .anil)) 0) (.k (.int 0))) .anil))))
  .nil)))))
def fd_law_most : FDef := ⟨2, 11, c_law_most⟩
/- law: 0 script 1 pool 2 turn 3 boxes 4 windows 5 scale 6 names 7 name 8 places 9 ranks 10 other 11 ways 12 told 13 first 14 bent 15 tree -/
def c_law : C :=
  (.seq (.for_ (.nm 2) (.rng1 (.k (.int 2)))
  (.seq (.own 3 (.dK))
  (.seq (.own 4 (.dK))
  (.seq (.for_ (.nm 5) (.slc (.lst (.acons (.k (.int 1)) (.acons (.k (.int 2)) (.acons (.k (.int 4)) .anil)))) .nth (.bin .add (.k (.int 2)) (.call "_law_draw" (.acons (.v 1) (.acons (.k (.int 2)) .anil)) 0)))
  (.seq (.put 3 (.v 5) (.call "_law_boxes" (.acons (.v 1) (.acons (.bin .add (.k (.int 2)) (.call "_law_draw" (.acons (.v 1) (.acons (.k (.int 3)) .anil)) 0)) .anil)) 0))
  (.seq (.put 4 (.v 5) (.tup (.acons (.neg (.k (.int 1))) (.acons (.bin .add (.k (.int 7)) (.call "_law_draw" (.acons (.v 1) (.acons (.k (.int 5)) .anil)) 0)) (.acons (.neg (.k (.int 1))) (.acons (.k (.int 6)) .anil))))))
  (.seq (.drop [5])
  .nil))))
  (.seq (.drop [5])
  (.seq (.asg (.nm 6) (.lst .anil))
  (.seq (.frz [3])
  (.seq (.for_ (.nm 5) (.v 3)
  (.seq (.asg (.nm 6) (.bin .add (.v 6) (.lc (.v 7) (.nm 7) (.b1 .sorted (.idx (.v 3) (.v 5))) (.cmp .nin (.v 7) (.v 6)) [7])))
  (.seq (.drop [5])
  .nil)))
  (.seq (.drop [5])
  (.seq (.asg (.nm 6) (.b1 .sorted (.v 6)))
  (.seq (.frz [3, 4])
  (.seq (.asg (.nm 8) (.call "all_over" (.acons (.v 3) (.acons (.v 4) .anil)) 0))
  (.seq (.own 9 (.dK))
  (.seq (.if_ (.cmp .ne (.b1 .sorted (.v 8)) (.v 6))
  (.seq (.ret (.k (.bl false)))
  .nil)
  .nil)
  (.seq (.for_ (.nm 7) (.v 6)
  (.seq (.put 9 (.v 7) (.bin .add (.k (.int 1)) (.call "_law_draw" (.acons (.v 1) (.acons (.k (.int 2)) .anil)) 0)))
  (.seq (.frz [3, 4])
  (.seq (.if_ (.or (.cmp .ne (.idx (.v 8) (.v 7)) (.call "_law_over" (.acons (.v 3) (.acons (.v 4) (.acons (.v 7) .anil))) 0)) (.not (.isi (.idx (.v 8) (.v 7)) .list)))
  (.seq (.ret (.k (.bl false)))
  .nil)
  .nil)
  (.seq (.for_ (.nm 10) (.v 6)
  (.seq (.if_ (.and (.cmp .ne (.v 10) (.v 7)) (.and (.cmp .ne (.idx (.v 8) (.v 7)) (.lst .anil)) (.cmp .ne (.idx (.v 8) (.v 10)) (.lst .anil))))
  (.seq (.if_ (.cmp .ne (.call "clash_at" (.acons (.idx (.idx (.v 8) (.v 7)) (.k (.int 0))) (.acons (.idx (.idx (.v 8) (.v 10)) (.neg (.k (.int 1)))) .anil)) 0) (.call "_law_clash" (.acons (.idx (.idx (.v 8) (.v 7)) (.k (.int 0))) (.acons (.idx (.idx (.v 8) (.v 10)) (.neg (.k (.int 1)))) .anil)) 0))
  (.seq (.ret (.k (.bl false)))
  .nil)
  .nil)
  .nil)
  .nil)
  (.seq (.drop [10])
  .nil)))
  (.seq (.drop [10])
  (.seq (.drop [7, 10])
  .nil)))))))
  (.seq (.drop [7, 10])
  (.seq (.asg (.nm 11) (.call "_law_all_ways" (.acons (.v 8) (.acons (.v 6) .anil)) 0))
  (.seq (.asg (.nm 12) (.call "placed_over" (.acons (.v 8) (.acons (.b1 .tuple (.v 6)) .anil)) 0))
  (.seq (.if_ (.cmp .ne (.v 11) (.lst .anil))
  (.seq (.if_ (.cmp .ne (.v 12) (.tup (.acons (.k (.str s_placed)) (.acons (.idx (.v 11) (.k (.int 0))) .anil))))
  (.seq (.ret (.k (.bl false)))
  .nil)
  .nil)
  .nil)
  (.seq (.if_ (.or (.cmp .ne (.idx (.v 12) (.k (.int 0))) (.k (.str s_none))) (.cmp .isn (.call "_law_fault" (.acons (.v 8) (.acons (.v 6) (.acons (.idx (.v 12) (.k (.int 1))) (.acons (.lst .anil) .anil)))) 0) (.k .non)))
  (.seq (.ret (.k (.bl false)))
  .nil)
  .nil)
  (.seq (.asg (.nm 13) (.idx (.v 12) (.k (.int 1))))
  (.seq (.own 14 (.lst (.acons (.v 13) (.acons (.tup (.acons (.k (.str s_name)) (.acons (.k (.str s_zoo)) (.acons (.idx (.v 13) (.k (.int 2))) .anil)))) (.acons (.tup (.acons (.k (.str s_name)) (.acons (.idx (.v 13) (.k (.int 1))) (.acons (.slc (.idx (.v 13) (.k (.int 2))) (.k (.int 1)) .nth) .anil)))) .anil)))))
  (.seq (.if_ (.and (.cmp .ne (.idx (.v 13) (.k (.int 2))) (.tup .anil)) (.cmp .eq (.idx (.idx (.idx (.v 13) (.k (.int 2))) (.k (.int 0))) (.k (.int 0))) (.k (.str s_over))))
  (.seq (.app 14 (.tup (.acons (.k (.str s_name)) (.acons (.idx (.v 13) (.k (.int 1))) (.acons (.bin .add (.tup (.acons (.tup (.acons (.k (.str s_over)) (.acons (.idx (.idx (.idx (.v 13) (.k (.int 2))) (.k (.int 0))) (.k (.int 1))) (.acons (.k (.int 99)) .anil)))) .anil)) (.slc (.idx (.v 13) (.k (.int 2))) (.k (.int 1)) .nth)) .anil)))))
  .nil)
  .nil)
  (.seq (.frz [14])
  (.seq (.for_ (.nm 15) (.v 14)
  (.seq (.if_ (.cmp .ne (.call "fault_of_over" (.acons (.v 8) (.acons (.b1 .tuple (.v 6)) (.acons (.v 15) .anil))) 1) (.call "_law_fault" (.acons (.v 8) (.acons (.v 6) (.acons (.v 15) (.acons (.lst .anil) .anil)))) 0))
  (.seq (.ret (.k (.bl false)))
  .nil)
  .nil)
  (.seq (.drop [15])
  .nil)))
  (.seq (.drop [15])
  .nil))))))))
  (.seq (.drop [13, 14, 15])
  (.seq (.frz [9])
  (.seq (.if_ (.cmp .ne (.call "most_over" (.acons (.v 8) (.acons (.v 9) .anil)) 0) (.call "_law_most" (.acons (.v 8) (.acons (.v 9) .anil)) 0))
  (.seq (.ret (.k (.bl false)))
  .nil)
  .nil)
  (.seq (.drop [2, 3, 4, 5, 6, 7, 8, 9, 10, 11, 12, 13, 14, 15])
  .nil)))))))))))))))))))))))
  (.seq (.drop [2, 3, 4, 5, 6, 7, 8, 9, 10, 11, 12, 13, 14, 15])
  (.seq (.ret (.k (.bl true)))
  .nil)))
def fd_law : FDef := ⟨1, 16, c_law⟩
def defs_k78 : String → Option FDef := fun f =>
  if f = "overlap" then some fd_overlap else
  if f = "within" then some fd_within else
  if f = "touch" then some fd_touch else
  if f = "label_box" then some fd_label_box else
  if f = "places_for" then some fd_places_for else
  if f = "together" then some fd_together else
  if f = "lots_of" then some fd_lots_of else
  if f = "names_in" then some fd_names_in else
  if f = "places_over" then some fd_places_over else
  if f = "all_over" then some fd_all_over else
  if f = "clash_at" then some fd_clash_at else
  if f = "is_free" then some fd_is_free else
  if f = "first_over" then some fd_first_over else
  if f = "over_leaf" then some fd_over_leaf else
  if f = "tree_over" then some fd_tree_over else
  if f = "placed_over" then some fd_placed_over else
  if f = "fault_of_over" then some fd_fault_of_over else
  if f = "bars" then some fd_bars else
  if f = "most_over" then some fd_most_over else
  if f = "greatest_lot" then some fd_greatest_lot else
  if f = "_law_boxes" then some fd_law_boxes else
  if f = "_law_squares" then some fd_law_squares else
  if f = "_law_near" then some fd_law_near else
  if f = "_law_holds" then some fd_law_holds else
  if f = "_law_spots" then some fd_law_spots else
  if f = "_law_together" then some fd_law_together else
  if f = "_law_over" then some fd_law_over else
  if f = "_law_clash" then some fd_law_clash else
  if f = "_law_all_ways" then some fd_law_all_ways else
  if f = "_law_fault" then some fd_law_fault else
  if f = "_law_lots" then some fd_law_lots else
  if f = "_law_most" then some fd_law_most else
  none
def consts_k78 : String → Option D := fun f =>
  if f = "SIDES" then some (.ctup false [(.str s_east), (.str s_north), (.str s_west), (.str s_south)]) else
  none
def dfl_k78 : String → Nat → List D := fun f j =>
  if j = 1 ∧ f = "fault_of_over" then [(.tup [])] else
  []

end MW

end
section
set_option Elab.async false
set_option linter.all false
set_option maxRecDepth 100000
set_option maxHeartbeats 4000000
namespace MW
/-! ### the order of data, sorted lists -/
theorem tok_irr (a : Int ⊕ List Nat) : tokLt a a = false := by
  cases a with
  | inl i => simp [tokLt]
  | inr x => simp only [tokLt, decide_eq_false_iff_not]; exact List.lt_irrefl x
theorem tok_tri (a b : Int ⊕ List Nat) : tokLt a b = true ∨ a = b ∨ tokLt b a = true := by
  cases a with
  | inl i =>
    cases b with
    | inl j =>
      simp only [tokLt, decide_eq_true_eq, Sum.inl.injEq]
      omega
    | inr y => exact .inl rfl
  | inr x =>
    cases b with
    | inl j => exact .inr (.inr rfl)
    | inr y =>
      simp only [tokLt, decide_eq_true_eq, Sum.inr.injEq]
      by_cases h1 : x < y
      · exact .inl h1
      · by_cases h2 : y < x
        · exact .inr (.inr h2)
        · exact .inr (.inl (List.le_antisymm (List.not_lt.mp h2) (List.not_lt.mp h1)))
theorem tok_trans {a b c : Int ⊕ List Nat} (h1 : tokLt a b = true) (h2 : tokLt b c = true) : tokLt a c = true := by
  cases a <;> cases b <;> cases c <;> simp only [tokLt, decide_eq_true_eq, reduceCtorEq, Bool.false_eq_true] at h1 h2 ⊢
  · omega
  · exact List.lt_trans h1 h2
theorem tok_asymm {a b : Int ⊕ List Nat} (h : tokLt a b = true) : tokLt b a = false := by
  cases e : tokLt b a with
  | false => rfl
  | true =>
    have := tok_trans h e
    rw [tok_irr] at this
    cases this
theorem lex_irr : ∀ x : List (Int ⊕ List Nat), lexT x x = false
  | [] => rfl
  | a :: x => by simp [lexT, tok_irr, lex_irr x]
theorem lex_tri : ∀ x y : List (Int ⊕ List Nat), lexT x y = true ∨ x = y ∨ lexT y x = true
  | [], [] => .inr (.inl rfl)
  | [], _ :: _ => .inl rfl
  | _ :: _, [] => .inr (.inr rfl)
  | a :: x, b :: y => by
    rcases tok_tri a b with h | rfl | h
    · exact .inl (by simp [lexT, h])
    · rcases lex_tri x y with h | rfl | h
      · exact .inl (by simp [lexT, tok_irr, h])
      · exact .inr (.inl rfl)
      · exact .inr (.inr (by simp [lexT, tok_irr, h]))
    · exact .inr (.inr (by simp [lexT, h]))
theorem lex_cons {a b : Int ⊕ List Nat} {x y : List (Int ⊕ List Nat)} : lexT (a :: x) (b :: y) = true ↔ tokLt a b = true ∨ (a = b ∧ lexT x y = true) := by
  simp only [lexT, Bool.or_eq_true, Bool.and_eq_true, Bool.not_eq_true']
  constructor
  · rintro (h | ⟨h1, h2⟩)
    · exact .inl h
    · rcases tok_tri a b with h | rfl | h
      · exact .inl h
      · exact .inr ⟨rfl, h2⟩
      · rw [h] at h1; cases h1
  · rintro (h | ⟨rfl, h⟩)
    · exact .inl h
    · exact .inr ⟨tok_irr a, h⟩
theorem lex_trans : ∀ {x y z : List (Int ⊕ List Nat)}, lexT x y = true → lexT y z = true → lexT x z = true
  | x, [], _, h, _ => by cases x <;> simp [lexT] at h
  | [], _ :: _, [], _, h => by simp [lexT] at h
  | [], _ :: _, _ :: _, _, _ => rfl
  | _ :: _, _ :: _, [], _, h => by simp [lexT] at h
  | a :: x, b :: y, c :: z, h1, h2 => by
    rw [lex_cons] at h1 h2 ⊢
    rcases h1 with h1 | ⟨rfl, h1⟩
    · rcases h2 with h2 | ⟨rfl, h2⟩
      · exact .inl (tok_trans h1 h2)
      · exact .inl h1
    · rcases h2 with h2 | ⟨rfl, h2⟩
      · exact .inl h2
      · exact .inr ⟨rfl, lex_trans h1 h2⟩
theorem lex_asymm {x y : List (Int ⊕ List Nat)} (h : lexT x y = true) : lexT y x = false := by
  cases e : lexT y x with
  | false => rfl
  | true =>
    have := lex_trans h e
    rw [lex_irr] at this
    cases this
/-- not behind -/
def leD (a b : D) : Bool := !ltD b a
theorem leD_total (a b : D) : (leD a b || leD b a) = true := by
  simp only [leD, ltD, Bool.or_eq_true, Bool.not_eq_true']
  rcases lex_tri (toks a) (toks b) with h | h | h
  · exact .inl (lex_asymm h)
  · rw [h]; exact .inl (lex_irr _)
  · exact .inr (lex_asymm h)
theorem leD_trans (a b c : D) (h1 : leD a b = true) (h2 : leD b c = true) : leD a c = true := by
  simp only [leD, ltD, Bool.not_eq_true'] at h1 h2 ⊢
  cases e : lexT (toks c) (toks a) with
  | false => rfl
  | true =>
    exfalso
    rcases lex_tri (toks b) (toks a) with h | h | h
    · rw [h] at h1; cases h1
    · rw [h, e] at h2; cases h2
    · rw [lex_trans e h] at h2; cases h2
theorem leD_toks {a b : D} (h1 : leD a b = true) (h2 : leD b a = true) : toks a = toks b := by
  simp only [leD, ltD, Bool.not_eq_true'] at h1 h2
  rcases lex_tri (toks a) (toks b) with h | h | h
  · rw [h] at h2; cases h2
  · exact h
  · rw [h] at h1; cases h1
theorem sort_pw (ds : List D) : (ds.mergeSort fun a b => !ltD b a).Pairwise (fun a b => leD a b = true) := List.pairwise_mergeSort leD_trans leD_total ds
/-- two sorted lists with the same items -/
theorem pw_unique {α : Type} {le : α → α → Bool} (anti : ∀ a b, le a b = true → le b a = true → a = b) : ∀ {xs ys : List α}, xs.Perm ys → xs.Pairwise (fun a b => le a b = true) → ys.Pairwise (fun a b => le a b = true) → xs = ys
  | [], ys, h, _, _ => (List.nil_perm.mp h).symm
  | x :: xs, [], h, _, _ => (List.nil_perm.mp h.symm)
  | x :: xs, y :: ys, h, h1, h2 => by
    have e : x = y := by
      rw [List.pairwise_cons] at h1 h2
      have hx : x ∈ y :: ys := h.mem_iff.mp (List.mem_cons_self ..)
      have hy : y ∈ x :: xs := h.mem_iff.mpr (List.mem_cons_self ..)
      rcases List.mem_cons.mp hx with e | hx
      · exact e
      · rcases List.mem_cons.mp hy with e | hy
        · exact e.symm
        · exact anti _ _ (h1.1 _ hy) (h2.1 _ hx)
    subst e
    rw [pw_unique anti (List.Perm.cons_inv h) (List.pairwise_cons.mp h1).2 (List.pairwise_cons.mp h2).2]
theorem perm_of_map {α β : Type} {f : α → β} (inj : ∀ a b, f a = f b → a = b) {xs ys : List α} (h : (xs.map f).Perm (ys.map f)) : xs.Perm ys := by
  cases xs with
  | nil =>
    have := List.nil_perm.mp h
    rw [List.map_eq_nil_iff] at this
    rw [this]
  | cons x xs =>
    haveI : Nonempty α := ⟨x⟩
    let un : β → α := fun d => Classical.epsilon fun a => f a = d
    have hu : ∀ a, un (f a) = a := fun a => inj _ _ (Classical.epsilon_spec (p := fun b => f b = f a) ⟨a, rfl⟩)
    have := h.map un
    rw [List.map_map, List.map_map, show un ∘ f = id from funext hu, List.map_id, List.map_id] at this
    exact this
/-- sorted data of a type, by a decoding -/
theorem sort_enc {α : Type} {enc : α → D} (inj : ∀ a b, toks (enc a) = toks (enc b) → a = b) (ok : ∀ a, okD (enc a) = true) (al : ∀ a b, alikeD (enc a) (enc b) = true) (so : ∀ xs : List α, sortable (xs.map enc) = true) (xs : List α) :
    ∃ ys : List α, sortO (xs.map enc) = some (ys.map enc) ∧ ys.Perm xs ∧ ys.Pairwise (fun a b => leD (enc a) (enc b) = true) := by
  have pm := List.mergeSort_perm (xs.map enc) fun a b => !ltD b a
  have ex : ∀ ds : List D, (∀ d ∈ ds, ∃ a, d = enc a) → ∃ ys : List α, ds = ys.map enc := by
    intro ds
    induction ds with
    | nil => intro _; exact ⟨[], rfl⟩
    | cons d ds ih =>
      intro h
      obtain ⟨a, rfl⟩ := h d (List.mem_cons_self ..)
      obtain ⟨ys, rfl⟩ := ih fun d hd => h d (List.mem_cons_of_mem _ hd)
      exact ⟨a :: ys, rfl⟩
  obtain ⟨ys, hy⟩ := ex ((xs.map enc).mergeSort fun a b => !ltD b a) fun d hd => by
    obtain ⟨a, _, rfl⟩ := List.mem_map.mp (pm.mem_iff.mp hd)
    exact ⟨a, rfl⟩
  refine ⟨ys, ?_, ?_, ?_⟩
  · have okA : ((xs.map enc).all okD && allAlike (xs.map enc) && sortable (xs.map enc)) = true := by
      simp only [allAlike, Bool.and_eq_true, List.all_eq_true, List.mem_map]
      refine ⟨⟨?_, ?_⟩, so xs⟩
      · rintro _ ⟨a, _, rfl⟩; exact ok a
      · rintro _ ⟨a, _, rfl⟩ _ ⟨b, _, rfl⟩; exact al a b
    unfold sortO
    rw [if_pos okA, hy]
  · rw [hy] at pm
    have inj' : ∀ a b, enc a = enc b → a = b := fun a b e => inj a b (by rw [e])
    exact perm_of_map inj' pm
  · have := sort_pw (xs.map enc)
    rw [hy, List.pairwise_map] at this
    exact this
theorem sort_enc_unique {α : Type} {enc : α → D} (inj : ∀ a b, toks (enc a) = toks (enc b) → a = b) {xs ys : List α} (h : xs.Perm ys) (h1 : xs.Pairwise (fun a b => leD (enc a) (enc b) = true)) (h2 : ys.Pairwise (fun a b => leD (enc a) (enc b) = true)) : xs = ys :=
  pw_unique (le := fun a b => leD (enc a) (enc b)) (fun a b e1 e2 => inj a b (leD_toks e1 e2)) h h1 h2
/-- texts, sorted -/
theorem sort_strs (xs : List S) : ∃ ys : List S, sortO (xs.map .str) = some (ys.map .str) ∧ ys.Perm xs ∧ ys.Pairwise (fun a b => leD (.str a) (.str b) = true) :=
  sort_enc (fun a b h => by simpa [toks] using h) (fun _ => rfl) (fun _ _ => rfl) (fun xs => by
    simp only [sortable, Bool.or_eq_true, List.all_eq_true, List.mem_map]
    right
    rintro _ ⟨a, _, rfl⟩; rfl) xs
theorem strs_unique {xs ys : List S} (h : xs.Perm ys) (h1 : xs.Pairwise (fun a b => leD (.str a) (.str b) = true)) (h2 : ys.Pairwise (fun a b => leD (.str a) (.str b) = true)) : xs = ys := sort_enc_unique (fun a b h => by simpa [toks] using h) h h1 h2
/-- numbers, sorted -/
theorem sort_ints (xs : List Int) : ∃ ys : List Int, sortO (xs.map .int) = some (ys.map .int) ∧ ys.Perm xs ∧ ys.Pairwise (fun a b => leD (.int a) (.int b) = true) :=
  sort_enc (fun a b h => by simpa [toks] using h) (fun _ => rfl) (fun _ _ => rfl) (fun xs => by
    simp only [sortable, Bool.or_eq_true, List.all_eq_true, List.mem_map]
    right
    rintro _ ⟨a, _, rfl⟩; rfl) xs
theorem ints_unique {xs ys : List Int} (h : xs.Perm ys) (h1 : xs.Pairwise (fun a b => leD (.int a) (.int b) = true)) (h2 : ys.Pairwise (fun a b => leD (.int a) (.int b) = true)) : xs = ys := sort_enc_unique (fun a b h => by simpa [toks] using h) h h1 h2
end MW

end
section
set_option Elab.async false
set_option linter.all false
set_option maxRecDepth 100000
set_option maxHeartbeats 4000000
namespace MW
/-! ### data of a type: how they are compared -/
structure EqEnc {α : Type} [DecidableEq α] (enc : α → D) (n : Nat) : Prop where
  pl : ∀ a, plainD (enc a) = true
  dp : ∀ a, depD (enc a) ≤ n
  eq : ∀ a b, eqD (enc a) (enc b) = decide (a = b)
theorem EqEnc.int : EqEnc D.int 0 := ⟨fun _ => rfl, fun _ => Nat.le_refl _, fun a b => by rw [Bool.eq_iff_iff]; simp [eqD]⟩
theorem EqEnc.str : EqEnc D.str 0 := ⟨fun _ => rfl, fun _ => Nat.le_refl _, fun a b => by rw [Bool.eq_iff_iff]; simp [eqD]⟩
section
variable {α β : Type} [DecidableEq α] [DecidableEq β] {enc : α → D} {enb : β → D} {n m : Nat}
theorem EqEnc.parts (h : EqEnc enc n) : ∀ xs : List α, plainL (xs.map enc) = true ∧ depL (xs.map enc) ≤ n
  | [] => ⟨rfl, Nat.zero_le _⟩
  | x :: xs => by
    obtain ⟨h1, h2⟩ := h.parts xs
    have h3 := h.dp x
    simp only [List.map_cons, plainL, depL, h.pl, h1, Bool.and_self, true_and]
    omega
theorem EqEnc.eqs (h : EqEnc enc n) : ∀ xs ys : List α, eqL (xs.map enc) (ys.map enc) = decide (xs = ys)
  | [], [] => rfl
  | [], _ :: _ => rfl
  | _ :: _, [] => rfl
  | x :: xs, y :: ys => by
    simp only [List.map_cons, eqL, h.eq, h.eqs xs ys, List.cons.injEq]
    rw [Bool.eq_iff_iff]; simp
theorem EqEnc.lst (h : EqEnc enc n) : EqEnc (fun xs : List α => D.lst (xs.map enc)) (n + 1) :=
  ⟨fun xs => (h.parts xs).1, fun xs => by have := (h.parts xs).2; simp only [depD]; omega, fun xs ys => h.eqs xs ys⟩
theorem EqEnc.tup (h : EqEnc enc n) : EqEnc (fun xs : List α => D.tup (xs.map enc)) (n + 1) :=
  ⟨fun xs => (h.parts xs).1, fun xs => by have := (h.parts xs).2; simp only [depD]; omega, fun xs ys => h.eqs xs ys⟩
theorem EqEnc.ctup {p : Bool} (h : EqEnc enc n) : EqEnc (fun xs : List α => D.ctup p (xs.map enc)) (n + 1) :=
  ⟨fun xs => (h.parts xs).1, fun xs => by have := (h.parts xs).2; simp only [depD]; omega, fun xs ys => h.eqs xs ys⟩
theorem EqEnc.pair (h : EqEnc enc n) (k : EqEnc enb m) : EqEnc (fun p : α × β => D.tup [enc p.1, enb p.2]) (max n m + 1) :=
  ⟨fun p => by simp [plainD, plainL, h.pl, k.pl], fun p => by
    have h1 := h.dp p.1
    have h2 := k.dp p.2
    simp only [depD, depL]
    omega, fun p q => by
    simp only [eqD, eqL, h.eq, k.eq, Bool.and_true]
    rw [Bool.eq_iff_iff, Bool.and_eq_true, decide_eq_true_eq, decide_eq_true_eq, decide_eq_true_eq]
    exact ⟨fun e => Prod.ext e.1 e.2, fun e => by rw [e]; exact ⟨rfl, rfl⟩⟩⟩
theorem EqEnc.ok (h : EqEnc enc n) (hn : n ≤ 60) (a : α) : okD (enc a) = true := by
  have := h.dp a
  simp only [okD, h.pl, Bool.true_and, decide_eq_true_eq]
  omega
theorem EqEnc.cmp (h : EqEnc enc n) (hn : n ≤ 60) (a b : α) : cmpD .eq (enc a) (enc b) = some (decide (a = b)) := by
  simp only [cmpD, eqO, h.ok hn, Bool.and_self, if_true, h.eq]
theorem EqEnc.cmpN (h : EqEnc enc n) (hn : n ≤ 60) (a b : α) : cmpD .ne (enc a) (enc b) = some (!decide (a = b)) := by
  simp only [cmpD, eqO, h.ok hn, Bool.and_self, if_true, h.eq, Option.map]
theorem EqEnc.inn (h : EqEnc enc n) (hn : n + 1 ≤ 60) (a : α) (xs : List α) : inO (enc a) (.lst (xs.map enc)) = some (decide (a ∈ xs)) := by
  have e : (xs.map enc).any (fun y => eqD y (enc a)) = decide (a ∈ xs) := by
    rw [Bool.eq_iff_iff, decide_eq_true_eq, List.any_map, List.any_eq_true]
    constructor
    · rintro ⟨y, hy, e⟩
      rw [Function.comp, h.eq, decide_eq_true_eq] at e
      rw [← e]; exact hy
    · intro ha
      exact ⟨a, ha, by rw [Function.comp, h.eq]; simp⟩
  simp only [inO, h.ok (by omega), h.lst.ok hn xs, Bool.and_self, if_true, e]
theorem EqEnc.innT (h : EqEnc enc n) (hn : n + 1 ≤ 60) (a : α) (xs : List α) : inO (enc a) (.tup (xs.map enc)) = some (decide (a ∈ xs)) := by
  have := h.inn hn a xs
  simp only [inO, h.ok (show n ≤ 60 by omega), h.lst.ok hn xs, h.tup.ok hn xs] at this ⊢
  exact this
end
section
variable {P : Ctx} {ρ ρ1 : Env} {g g1 g2 g3 : G} {a b c t : E} {x y z d : D} {i : Nat}
/-! ### and, or that stop early -/
theorem ev_andS {v w : Bool} (ha : evalE P a ρ g = .ok (.bl v) g1) (hb : v = true → evalE P b ρ g1 = .ok (.bl w) g1) : evalE P (.and a b) ρ g = .ok (.bl (v && w)) g1 := by
  simp only [evalE, ha, Res.bind, truth]
  cases v
  · rfl
  · exact hb rfl
theorem ev_orS {v w : Bool} (ha : evalE P a ρ g = .ok (.bl v) g1) (hb : v = false → evalE P b ρ g1 = .ok (.bl w) g1) : evalE P (.or a b) ρ g = .ok (.bl (v || w)) g1 := by
  simp only [evalE, ha, Res.bind, truth]
  cases v
  · exact hb rfl
  · rfl
theorem ev_iteT (ha : evalE P t ρ g = .ok x g1) (hx : truth x = some true) (hb : evalE P a ρ g1 = .ok z g2) : evalE P (.ite t a b) ρ g = .ok z g2 := by
  simp only [evalE, ev_brw ha, Res.bind, hx, hb]
theorem ev_iteF (ha : evalE P t ρ g = .ok x g1) (hx : truth x = some false) (hb : evalE P b ρ g1 = .ok z g2) : evalE P (.ite t a b) ρ g = .ok z g2 := by
  simp only [evalE, ev_brw ha, Res.bind, hx, hb]
theorem ev_rng3 {n m : Int} {cc : E} (ha : evalE P a ρ g = .ok (.int n) g1) (hb : evalE P b ρ g1 = .ok (.int m) g2) (hc : evalE P cc ρ g2 = .ok (.int (-1)) g3) (h1 : -4611686018427387904 ≤ n ∧ n < 4611686018427387904) (h2 : -4611686018427387904 ≤ m ∧ m < 4611686018427387904) (h3 : (n - m).toNat ≤ 16777216) :
    evalE P (.rng3 a b cc) ρ g = .ok (.lst ((List.range (n - m).toNat).map fun (k : Nat) => D.int (n - (k : Int)))) g3 := by
  simp only [evalE, ha, hb, hc, Res.bind]
  rw [if_pos]
  simp [h1.1, h1.2, h2.1, h2.2, h3]
theorem ev_slc {l h : Option Int} {lo hi : E} {dl dh : D} (ha : evalE P a ρ g = .ok x g1) (hl : evalE P lo ρ g1 = .ok dl g2) (hh : evalE P hi ρ g2 = .ok dh g3) (el : intE lo dl = some l) (eh : intE hi dh = some h) (hz : slcD x l h = some z) : evalE P (.slc a lo hi) ρ g = .ok z g3 := by
  simp only [evalE, ev_brw ha, hl, hh, Res.bind, el, eh, hz, ofO]
theorem ev_nth : evalE P .nth ρ g = .ok .non g := by simp only [evalE]
theorem ev_dK : evalE P .dK ρ g = .ok (.dct false [] []) g := by simp only [evalE]
theorem ev_enum {xs : List D} (ha : evalE P a ρ g = .ok (.lst xs) g1) : evalE P (.enum a) ρ g = .ok (.lst (enumL 0 xs)) g1 := by
  simp only [evalE, ha, Res.bind]
theorem ev_enumT {xs : List D} (ha : evalE P a ρ g = .ok (.tup xs) g1) : evalE P (.enum a) ρ g = .ok (.lst (enumL 0 xs)) g1 := by
  simp only [evalE, ha, Res.bind]
theorem ev_enumC {xs : List D} {p : Bool} (ha : evalE P a ρ g = .ok (.ctup p xs) g1) : evalE P (.enum a) ρ g = .ok (.lst (enumL 0 xs)) g1 := by
  simp only [evalE, ha, Res.bind]
theorem ev_call0 {f : String} {xs : List D} (ha : evalE P a ρ g = .ok (.lst xs) g1) (hd : P.dfl f 0 = []) (h : P.call f xs g1 = .ok z g2) : evalE P (.call f a 0) ρ g = .ok z g2 := by
  simp only [evalE, ha, Res.bind, hd, List.append_nil, h]
/-! ### loops that may end early -/
/-- each turn leaves all as it was, or hands back a value -/
theorem for_first {α : Type} {enc : α → D} {f : α → Option D} {tg : T} {body : Env → G → Res Out} : ∀ {xs : List α}, (∀ x ∈ xs, ∃ ρ1, bindT tg (enc x) ρ = some ρ1 ∧ body ρ1 g = match f x with | some d => .ok (.rt d) g | none => .ok (.nx ρ) g) →
    forL tg body (xs.map enc) ρ g = match xs.findSome? f with | some d => .ok (.rt d) g | none => .ok (.nx ρ) g
  | [], _ => rfl
  | x :: xs, h => by
    obtain ⟨ρ1, h1, h2⟩ := h x (List.mem_cons_self ..)
    have ih := for_first (xs := xs) fun y hy => h y (List.mem_cons_of_mem _ hy)
    simp only [List.map_cons, forL, h1, h2, List.findSome?_cons]
    cases f x with
    | none => simp only [Res.bind, ih]
    | some d => simp only [Res.bind]
/-- a fold -/
theorem for_fold {α σ : Type} {enc : α → D} {st : σ → Env} {f : σ → α → σ} {tg : T} {body : Env → G → Res Out} : ∀ {xs : List α} {s : σ}, (∀ s x, x ∈ xs → ∃ ρ1, bindT tg (enc x) (st s) = some ρ1 ∧ body ρ1 g = .ok (.nx (st (f s x))) g) →
    forL tg body (xs.map enc) (st s) g = .ok (.nx (st (xs.foldl f s))) g
  | [], _, _ => rfl
  | x :: xs, s, h => by
    obtain ⟨ρ1, h1, h2⟩ := h s x (List.mem_cons_self ..)
    simp only [List.map_cons, forL, h1, h2, Res.bind, List.foldl_cons]
    exact for_fold fun s y hy => h s y (List.mem_cons_of_mem _ hy)
/-- a fold with what is known of the state -/
theorem for_foldI {α σ : Type} {enc : α → D} {st : σ → Env} {f : σ → α → σ} {I : σ → Prop} {tg : T} {body : Env → G → Res Out} : ∀ {xs : List α} {s : σ}, I s → (∀ s x, I s → x ∈ xs → ∃ ρ1, bindT tg (enc x) (st s) = some ρ1 ∧ body ρ1 g = .ok (.nx (st (f s x))) g ∧ I (f s x)) →
    forL tg body (xs.map enc) (st s) g = .ok (.nx (st (xs.foldl f s))) g ∧ I (xs.foldl f s)
  | [], _, hI, _ => ⟨rfl, hI⟩
  | x :: xs, s, hI, h => by
    obtain ⟨ρ1, h1, h2, h3⟩ := h s x hI (List.mem_cons_self ..)
    simp only [List.map_cons, forL, h1, h2, Res.bind, List.foldl_cons]
    exact for_foldI h3 fun s y hs hy => h s y hs (List.mem_cons_of_mem _ hy)
variable {e : E} {r c1 c2 : C}
theorem seq_ift2 (h : evalE P e ρ g = .ok x g1) (hx : truth x = some true) (hc : evalC P c1 ρ g1 = .ok (.nx ρ1) g2) : evalC P (.seq (.if_ e c1 c2) r) ρ g = evalC P r ρ1 g2 := by
  refine seq_nx ?_
  rw [st_if h hx, if_pos rfl, hc]
theorem seq_first {o : Option D} {ρ0 : Env} {g0 : G} (h : evalC P c1 ρ0 g0 = match o with | some d => .ok (.rt d) g | none => .ok (.nx ρ) g) : evalC P (.seq c1 r) ρ0 g0 = match (generalizing := false) o with | some d => .ok (.rt d) g | none => evalC P r ρ g := by
  cases o with
  | none => exact seq_nx h
  | some d => exact seq_rt h
theorem ev_inn {v : Bool} (ha : evalE P a ρ g = .ok x g1) (hb : evalE P b ρ g1 = .ok y g2) (h : inO x y = some v) : evalE P (.cmp .inn a b) ρ g = .ok (.bl v) g2 := ev_cmp ha hb h
theorem ev_nin {v : Bool} (ha : evalE P a ρ g = .ok x g1) (hb : evalE P b ρ g1 = .ok y g2) (h : inO x y = some v) : evalE P (.cmp .nin a b) ρ g = .ok (.bl (!v)) g2 := ev_cmp ha hb (by simp only [cmpD, h, Option.map])
theorem ev_isN (ha : evalE P a ρ g = .ok x g1) (hb : evalE P b ρ g1 = .ok .non g2) : evalE P (.cmp .is a b) ρ g = .ok (.bl (isNon x)) g2 := ev_cmp ha hb rfl
theorem ev_isnN (ha : evalE P a ρ g = .ok x g1) (hb : evalE P b ρ g1 = .ok .non g2) : evalE P (.cmp .isn a b) ρ g = .ok (.bl (!isNon x)) g2 := ev_cmp ha hb rfl
theorem any_bl2 (bs : List Bool) : b1D .all (.lst (bs.map .bl)) = some (.bl (bs.all id)) := by
  have : boolsD (bs.map .bl) = some bs := by
    induction bs with
    | nil => rfl
    | cons b bs ih => simp only [List.map_cons, boolsD, ih, Option.map]
  simp only [b1D, this, Option.map]
theorem bind_mono {α β : Type} {r : Res α} {f : α → G → Res β} {a : α} (h : r = .ok a g) : r.bind f = f a g := by rw [h]; rfl
/-- a comprehension of two clauses that leaves the pool as it is -/
theorem lcF_okM {α : Type} {tg : T} {test : Env → G → Res D} {inner : Env → G → Res (List D)} {enc : α → D} {f : α → List D} : ∀ {xs : List α}, (∀ x ∈ xs, ∃ ρ1, bindT tg (enc x) ρ = some ρ1 ∧ test ρ1 g = .ok (.bl true) g ∧ inner ρ1 g = .ok (f x) g) → lcF tg test inner (xs.map enc) ρ g = .ok (xs.flatMap f) g
  | [], _ => rfl
  | x :: xs, h => by
    obtain ⟨ρ1, h1, h2, h3⟩ := h x (List.mem_cons_self ..)
    have ih := lcF_okM (xs := xs) fun y hy => h y (List.mem_cons_of_mem _ hy)
    simp only [List.map_cons, lcF, h1, h2, h3, Res.bind, truth, ih, List.flatMap_cons]
theorem ev_lc2M {α β : Type} {enc : α → D} {enb : α → β → D} {xs : List α} {ys : α → List β} {elt it it1 : E} {tg tg1 : T} {own own1 : List Nat} {f : α → β → D} (hi : evalE P it ρ g = .ok x g1) (hd : itemsE it x = some (xs.map enc)) (hz : (xs.flatMap fun a => (ys a).map (f a)).length ≤ 16777216)
    (h : ∀ a ∈ xs, ∃ ρ1 x1, bindT tg (enc a) (wipeE own ρ) = some ρ1 ∧ evalE P it1 ρ1 g1 = .ok x1 g1 ∧ itemsE .nth x1 = some ((ys a).map (enb a)) ∧ ∀ b ∈ ys a, ∃ ρ2, bindT tg1 (enb a b) (wipeE own1 ρ1) = some ρ2 ∧ evalE P elt ρ2 g1 = .ok (f a b) g1) :
    evalE P (.lc2 elt tg it (.k (.bl true)) tg1 it1 (.k (.bl true)) own own1) ρ g = .ok (.lst (xs.flatMap fun a => (ys a).map (f a))) g1 := by
  simp only [evalE, ev_brwI hi, Res.bind, hd]
  rw [lcF_okM (f := fun a => (ys a).map (f a)) (xs := xs) (enc := enc)]
  · simp only [Res.noexc, Res.bind]
    rw [if_pos (decide_eq_true hz)]
  · intro a ha
    obtain ⟨ρ1, x1, h1, h2, h3, h4⟩ := h a ha
    refine ⟨ρ1, h1, rfl, ?_⟩
    simp only [h2, Res.bind, h3]
    have := lcL_okM (ρ := wipeE own1 ρ1) (g := g1) (tg := tg1) (test := fun _ g => .ok (.bl true) g) (elt := fun ρ g => evalE P elt ρ g) (enc := enb a) (p := fun _ => true) (f := f a) (xs := ys a) fun b hb => by
      obtain ⟨ρ2, k1, k2⟩ := h4 b hb
      exact ⟨ρ2, k1, rfl, fun _ => k2⟩
    rw [filter_yes] at this
    exact this
end
end MW

end
section
set_option Elab.async false
set_option linter.all false
set_option maxRecDepth 100000
set_option maxHeartbeats 4000000
namespace MW
/-! ### keys of dicts -/
structure KeyEnc {κ : Type} [DecidableEq κ] (kk : κ → D) : Prop where
  same : ∀ a b, sameD (kk a) (kk b) = decide (a = b)
  ok : ∀ a, keyOk false (kk a) = true
theorem KeyEnc.int : KeyEnc D.int := ⟨fun a b => by rw [Bool.eq_iff_iff]; simp [sameD], fun _ => rfl⟩
theorem KeyEnc.str : KeyEnc D.str := ⟨fun a b => by rw [Bool.eq_iff_iff]; simp [sameD], fun _ => rfl⟩
def lkp {κ β : Type} [DecidableEq κ] (xs : List (κ × β)) (n : κ) : Option β := (xs.find? fun p => decide (p.1 = n)).map (·.2)
section
variable {κ β : Type} [DecidableEq κ] {kk : κ → D} {ev : β → D}
/-- a dict by its pairs -/
def encDK (kk : κ → D) (ev : β → D) (xs : List (κ × β)) : D := .dct false (xs.map fun p => kk p.1) (xs.map fun p => ev p.2)
theorem KeyEnc.get (h : KeyEnc kk) (n : κ) : ∀ xs : List (κ × β), dget (kk n) (xs.map fun p => kk p.1) (xs.map fun p => ev p.2) = (lkp xs n).map ev
  | [] => rfl
  | p :: xs => by
    have ih := h.get n xs
    simp only [lkp] at ih ⊢
    simp only [List.map_cons, dget, h.same, List.find?_cons]
    by_cases e : p.1 = n
    · simp [e]
    · simp [e, ih]
theorem KeyEnc.idx (h : KeyEnc kk) {n : κ} {xs : List (κ × β)} {b : β} (e : lkp xs n = some b) : idxD (encDK kk ev xs) (kk n) = some (ev b) := by
  have : keyOk false (kk n) = true := h.ok n
  simp only [idxD, encDK, this, if_true, h.get, e, Option.map]
theorem KeyEnc.inn (h : KeyEnc kk) (n : κ) (xs : List (κ × β)) : inO (kk n) (encDK kk ev xs) = some (lkp xs n).isSome := by
  simp only [inO, encDK, h.ok, if_true, h.get, Option.isSome_map]
theorem lkp_mem {xs : List (κ × β)} {n : κ} {b : β} (h : lkp xs n = some b) : (n, b) ∈ xs := by
  unfold lkp at h
  obtain ⟨p, h1, rfl⟩ := Option.map_eq_some_iff.mp h
  have h2 := List.find?_some h1
  have h3 := List.mem_of_find?_eq_some h1
  simp at h2
  subst h2
  exact h3
theorem lkp_nd {xs : List (κ × β)} (nd : (xs.map (·.1)).Nodup) {p : κ × β} (h : p ∈ xs) : lkp xs p.1 = some p.2 := by
  induction xs with
  | nil => cases h
  | cons q xs ih =>
    simp only [List.map_cons, List.nodup_cons] at nd
    simp only [lkp, List.find?_cons]
    rcases List.mem_cons.mp h with rfl | h
    · simp
    · have : q.1 ≠ p.1 := fun e => nd.1 (List.mem_map.mpr ⟨p, h, e.symm⟩)
      simp only [this, decide_false]
      exact ih nd.2 h
theorem lkp_some {xs : List (κ × β)} {n : κ} (h : n ∈ xs.map (·.1)) : ∃ b, lkp xs n = some b := by
  induction xs with
  | nil => cases h
  | cons q xs ih =>
    simp only [lkp, List.find?_cons]
    by_cases e : q.1 = n
    · exact ⟨q.2, by simp [e]⟩
    · simp only [e, decide_false]
      refine ih ?_
      rcases List.mem_cons.mp h with h | h
      · exact absurd h.symm e
      · exact h
theorem lkp_none {xs : List (κ × β)} {n : κ} (h : n ∉ xs.map (·.1)) : lkp xs n = none := by
  cases e : lkp xs n with
  | none => rfl
  | some b => exact absurd (List.mem_map.mpr ⟨_, lkp_mem e, rfl⟩) h
theorem KeyEnc.fresh (h : KeyEnc kk) {n : κ} {v : D} : ∀ {ys : List κ} {vs : List D}, n ∉ ys → dput (kk n) v (ys.map kk) vs = ((ys ++ [n]).map kk, vs ++ [v]) := by
  intro ys vs hn
  have : ∀ ys : List κ, n ∉ ys → (ys.map kk).any (fun a => sameD a (kk n)) = false := by
    intro ys
    induction ys with
    | nil => intro _; rfl
    | cons y ys ih =>
      intro hy
      simp only [List.mem_cons, not_or] at hy
      simp only [List.map_cons, List.any_cons, h.same, ih hy.2, Bool.or_false, decide_eq_false_iff_not]
      exact fun e => hy.1 e.symm
  unfold dput
  rw [this ys hn]
  simp
/-- a dict made of pairs with different keys -/
theorem KeyEnc.pairs (h : KeyEnc kk) {ep : κ × β → D} (he : ∀ p, pairD (ep p) = some (kk p.1, ev p.2)) : ∀ {xs : List (κ × β)} {ys : List κ} {vs : List D}, (ys ++ xs.map (·.1)).Nodup → pairsD (xs.map ep) (ys.map kk, vs) = some ((ys ++ xs.map (·.1)).map kk, vs ++ xs.map fun p => ev p.2)
  | [], ys, vs, _ => by simp [pairsD]
  | p :: xs, ys, vs, nd => by
    have hn : p.1 ∉ ys := fun hm => by
      rw [List.nodup_append] at nd
      exact nd.2.2 p.1 hm p.1 (List.mem_cons_self ..) rfl
    simp only [List.map_cons, pairsD, he, h.ok, if_true]
    rw [h.fresh hn]
    have := h.pairs he (xs := xs) (ys := ys ++ [p.1]) (vs := vs ++ [ev p.2]) (by simpa using nd)
    simpa using this
theorem KeyEnc.dictL (h : KeyEnc kk) {ep : κ × β → D} (he : ∀ p, pairD (ep p) = some (kk p.1, ev p.2)) {xs : List (κ × β)} (nd : (xs.map (·.1)).Nodup) : b1D .dict (.lst (xs.map ep)) = some (encDK kk ev xs) := by
  have := h.pairs he (xs := xs) (ys := []) (vs := []) (by simpa using nd)
  simp only [b1D, List.map_nil] at this ⊢
  rw [this]
  simp [encDK, List.map_map, Function.comp]
theorem KeyEnc.dictT (h : KeyEnc kk) {ep : κ × β → D} (he : ∀ p, pairD (ep p) = some (kk p.1, ev p.2)) {xs : List (κ × β)} (nd : (xs.map (·.1)).Nodup) : b1D .dict (.ctup true (xs.map ep)) = some (encDK kk ev xs) := by
  have := h.pairs he (xs := xs) (ys := []) (vs := []) (by simpa using nd)
  simp only [b1D, List.map_nil] at this ⊢
  rw [this]
  simp [encDK, List.map_map, Function.comp]
/-- a dict comprehension with different keys -/
theorem KeyEnc.dcL (h : KeyEnc kk) {α : Type} {ρ : Env} {g : G} {tg : T} {test key val : Env → G → Res D} {enc : α → D} {fk : α → κ} {fv : α → D} : ∀ {xs : List α} {ys : List κ} {vs : List D}, (ys ++ xs.map fk).Nodup → (∀ a ∈ xs, ∃ ρ1, bindT tg (enc a) ρ = some ρ1 ∧ test ρ1 g = .ok (.bl true) g ∧ key ρ1 g = .ok (kk (fk a)) g ∧ val ρ1 g = .ok (fv a) g) →
    MW.dcL tg test key val (xs.map enc) ρ g (ys.map kk, vs) = .ok ((ys ++ xs.map fk).map kk, vs ++ xs.map fv) g
  | [], ys, vs, _, _ => by simp [MW.dcL]
  | a :: xs, ys, vs, nd, hh => by
    obtain ⟨ρ1, h1, h2, h3, h4⟩ := hh a (List.mem_cons_self ..)
    have hn : fk a ∉ ys := fun hm => by
      rw [List.nodup_append] at nd
      exact nd.2.2 (fk a) hm (fk a) (List.mem_cons_self ..) rfl
    simp only [List.map_cons, MW.dcL, h1, h2, h3, h4, Res.bind, truth, h.ok, if_true]
    rw [h.fresh hn]
    have := h.dcL (xs := xs) (ys := ys ++ [fk a]) (vs := vs ++ [fv a]) (fk := fk) (fv := fv) (by simpa using nd) fun b hb => hh b (List.mem_cons_of_mem _ hb)
    simpa using this
theorem KeyEnc.dc (h : KeyEnc kk) {α : Type} {P : Ctx} {ρ : Env} {g g1 : G} {x : D} {enc : α → D} {xs : List α} {key val it test : E} {tg : T} {own : List Nat} {fk : α → κ} {fv : α → D} (hi : evalE P it ρ g = .ok x g1) (hd : itemsE it x = some (xs.map enc)) (hz : xs.length ≤ 16777216) (nd : (xs.map fk).Nodup)
    (hh : ∀ a ∈ xs, ∃ ρ1, bindT tg (enc a) (wipeE own ρ) = some ρ1 ∧ evalE P test ρ1 g1 = .ok (.bl true) g1 ∧ evalE P key ρ1 g1 = .ok (kk (fk a)) g1 ∧ evalE P val ρ1 g1 = .ok (fv a) g1) : evalE P (.dc key val tg it test own) ρ g = .ok (.dct false (xs.map fun a => kk (fk a)) (xs.map fv)) g1 := by
  simp only [evalE, ev_brwI hi, Res.bind, hd]
  rw [if_pos (decide_eq_true (by simpa using hz))]
  have := h.dcL (tg := tg) (test := fun ρ g => evalE P test ρ g) (key := fun ρ g => evalE P key ρ g) (val := fun ρ g => evalE P val ρ g) (fk := fk) (fv := fv) (xs := xs) (ys := []) (vs := []) (ρ := wipeE own ρ) (g := g1) (enc := enc) (by simpa using nd) hh
  simp only [List.map_nil, List.nil_append] at this
  rw [this]
  simp [Res.noexc, Res.bind, List.map_map, Function.comp]
end
end MW

end
section
set_option Elab.async false
set_option linter.all false
set_option maxRecDepth 100000
set_option maxHeartbeats 4000000
namespace MW
theorem cmp_lt (a b : Int) : cmpD .lt (.int a) (.int b) = some (decide (a < b)) := by
  simp [cmpD, ltO, okD, plainD, depD, alikeD, isNon, ltD, toks, lexT, tokLt]
theorem cmp_gt (a b : Int) : cmpD .gt (.int a) (.int b) = some (decide (b < a)) := by
  simp [cmpD, ltO, okD, plainD, depD, alikeD, isNon, ltD, toks, lexT, tokLt]
theorem cmp_le (a b : Int) : cmpD .le (.int a) (.int b) = some (decide (a ≤ b)) := by
  simp [cmpD, ltO, okD, plainD, depD, alikeD, isNon, ltD, toks, lexT, tokLt]
  by_cases h : a ≤ b
  · simp [h, Int.not_lt.mpr h]
  · simp [h, Int.not_le.mp h]
theorem cmp_ge (a b : Int) : cmpD .ge (.int a) (.int b) = some (decide (b ≤ a)) := by
  simp [cmpD, ltO, okD, plainD, depD, alikeD, isNon, ltD, toks, lexT, tokLt]
  by_cases h : b ≤ a
  · simp [h, Int.not_lt.mpr h]
  · simp [h, Int.not_le.mp h]
theorem cmp_eq (a b : Int) : cmpD .eq (.int a) (.int b) = some (decide (a = b)) := by
  simp [cmpD, eqO, okD, plainD, depD, eqD]
  by_cases h : a = b <;> simp [h]
theorem cmp_ne (a b : Int) : cmpD .ne (.int a) (.int b) = some (!decide (a = b)) := by
  simp [cmpD, eqO, okD, plainD, depD, eqD]
  by_cases h : a = b <;> simp [h]
structure Bx where
  w : Int
  e : Int
  s : Int
  n : Int
  deriving DecidableEq
def encB (b : Bx) : D := .tup [.int b.w, .int b.e, .int b.s, .int b.n]
theorem ix0 (b : Bx) : idxD (encB b) (.int 0) = some (.int b.w) := rfl
theorem ix1 (b : Bx) : idxD (encB b) (.int 1) = some (.int b.e) := rfl
theorem ix2 (b : Bx) : idxD (encB b) (.int 2) = some (.int b.s) := rfl
theorem ix3 (b : Bx) : idxD (encB b) (.int 3) = some (.int b.n) := rfl
def overlapB (a b : Bx) : Bool := decide (a.w < b.e) && (decide (b.w < a.e) && (decide (a.s < b.n) && decide (b.s < a.n)))
def withinB (a b : Bx) : Bool := decide (b.w ≤ a.w) && (decide (a.e ≤ b.e) && (decide (b.s ≤ a.s) && decide (a.n ≤ b.n)))
def touchB (a b : Bx) : Bool := ((decide (a.e = b.w) || decide (b.e = a.w)) && (decide (a.s < b.n) && decide (b.s < a.n))) || ((decide (a.n = b.s) || decide (b.n = a.s)) && (decide (a.w < b.e) && decide (b.w < a.e)))
abbrev P78 (scr : List Int) : Prog := prog defs_k78 dfl_k78 consts_k78 scr
theorem run_def {scr : List Int} {k : Nat} {f : String} {ds : List D} {g : G} {fd : FDef} (hp : prims scr f = none) (hf : defs_k78 f = some fd) (hl : ds.length = fd.np) :
    run (P78 scr) (k + 1) f ds g = fin (evalC ⟨run (P78 scr) k, dfl_k78, consts_k78⟩ fd.body (startE fd.n ds) g) := by
  simp only [run, prog, hp, hf, hl, if_true]
theorem ev_lt {P : Ctx} {ρ : Env} {g g1 g2 : G} {a b : E} {x y : Int} (ha : evalE P a ρ g = .ok (.int x) g1) (hb : evalE P b ρ g1 = .ok (.int y) g2) : evalE P (.cmp .lt a b) ρ g = .ok (.bl (decide (x < y))) g2 := ev_cmp ha hb (cmp_lt x y)
theorem ev_le {P : Ctx} {ρ : Env} {g g1 g2 : G} {a b : E} {x y : Int} (ha : evalE P a ρ g = .ok (.int x) g1) (hb : evalE P b ρ g1 = .ok (.int y) g2) : evalE P (.cmp .le a b) ρ g = .ok (.bl (decide (x ≤ y))) g2 := ev_cmp ha hb (cmp_le x y)
theorem ev_eqI {P : Ctx} {ρ : Env} {g g1 g2 : G} {a b : E} {x y : Int} (ha : evalE P a ρ g = .ok (.int x) g1) (hb : evalE P b ρ g1 = .ok (.int y) g2) : evalE P (.cmp .eq a b) ρ g = .ok (.bl (decide (x = y))) g2 := ev_cmp ha hb (cmp_eq x y)
local macro_rules | `(tactic| trivial) => `(tactic| first
  | ((with_reducible apply ev_v); (focus rfl); done)
  | with_reducible exact ev_k
  | with_reducible exact ev_anil
  | ((with_reducible apply ev_and); (focus trivial); (focus trivial); done)
  | ((with_reducible apply ev_or); (focus trivial); (focus trivial); done)
  | ((with_reducible apply ev_idx); (focus trivial); (focus trivial); (focus rfl); done)
  | ((with_reducible apply ev_lt); (focus trivial); (focus trivial); done)
  | ((with_reducible apply ev_le); (focus trivial); (focus trivial); done)
  | ((with_reducible apply ev_eqI); (focus trivial); (focus trivial); done)
  | ((with_reducible apply ev_bin); (focus trivial); (focus trivial); (focus rfl); done)
  | ((with_reducible apply ev_acons); (focus trivial); (focus trivial); done)
  | ((with_reducible apply ev_tup); (focus trivial); (focus rfl); done))
theorem run_overlap (scr : List Int) (k : Nat) (a b : Bx) (g : G) : run (P78 scr) (k + 1) "overlap" [encB a, encB b] g = .ok (.bl (overlapB a b)) g := by
  rw [run_def (by rfl) (fd := fd_overlap) (by rfl) rfl]
  unfold fd_overlap c_overlap
  rw [seq_rt (st_ret (by trivial))]
  rfl
theorem run_within (scr : List Int) (k : Nat) (a b : Bx) (g : G) : run (P78 scr) (k + 1) "within" [encB a, encB b] g = .ok (.bl (withinB a b)) g := by
  rw [run_def (by rfl) (fd := fd_within) (by rfl) rfl]
  unfold fd_within c_within
  rw [seq_rt (st_ret (by trivial))]
  rfl
theorem run_touch (scr : List Int) (k : Nat) (a b : Bx) (g : G) : run (P78 scr) (k + 1) "touch" [encB a, encB b] g = .ok (.bl (touchB a b)) g := by
  rw [run_def (by rfl) (fd := fd_touch) (by rfl) rfl]
  unfold fd_touch c_touch
  rw [seq_nx (st_asg (by trivial) rfl), seq_nx (st_asg (by trivial) rfl), seq_nx (st_asg (by trivial) rfl), seq_nx (st_asg (by trivial) rfl), seq_rt (st_ret (by trivial))]
  rfl
end MW

end
section
set_option Elab.async false
set_option linter.all false
set_option maxRecDepth 100000
set_option maxHeartbeats 4000000
namespace MW
local macro_rules | `(tactic| trivial) => `(tactic| first
  | ((with_reducible apply ev_v); (focus rfl); done)
  | with_reducible exact ev_k
  | with_reducible exact ev_anil
  | ((with_reducible apply ev_and); (focus trivial); (focus trivial); done)
  | ((with_reducible apply ev_or); (focus trivial); (focus trivial); done)
  | ((with_reducible apply ev_idx); (focus trivial); (focus trivial); (focus rfl); done)
  | ((with_reducible apply ev_lt); (focus trivial); (focus trivial); done)
  | ((with_reducible apply ev_le); (focus trivial); (focus trivial); done)
  | ((with_reducible apply ev_eqI); (focus trivial); (focus trivial); done)
  | ((with_reducible apply ev_bin); (focus trivial); (focus trivial); (focus rfl); done)
  | ((with_reducible apply ev_acons); (focus trivial); (focus trivial); done)
  | ((with_reducible apply ev_tup); (focus trivial); (focus rfl); done))

/-! ### labels -/
def labE (b : Bx) (k : Int) : Bx := ⟨b.e, b.e + k, b.s, b.s + 1⟩
def labW (b : Bx) (k : Int) : Bx := ⟨b.w - k, b.w, b.s, b.s + 1⟩
def labN (b : Bx) (k : Int) : Bx := ⟨b.w, b.w + k, b.n, b.n + 1⟩
def labS (b : Bx) (k : Int) : Bx := ⟨b.w, b.w + k, b.s - 1, b.s⟩
theorem cmp_strs (x y : S) : cmpD .eq (.str x) (.str y) = some (x == y) := by
  simp [cmpD, eqO, okD, plainD, depD, eqD]
theorem cmp_strn (x y : S) : cmpD .ne (.str x) (.str y) = some (!(x == y)) := by
  simp [cmpD, eqO, okD, plainD, depD, eqD]
theorem run_label (scr : List Int) (k : Nat) (b : Bx) (j : Int) (g : G) :
    run (P78 scr) (k + 1) "label_box" [encB b, .str s_east, .int j] g = .ok (encB (labE b j)) g ∧
    run (P78 scr) (k + 1) "label_box" [encB b, .str s_west, .int j] g = .ok (encB (labW b j)) g ∧
    run (P78 scr) (k + 1) "label_box" [encB b, .str s_north, .int j] g = .ok (encB (labN b j)) g ∧
    run (P78 scr) (k + 1) "label_box" [encB b, .str s_south, .int j] g = .ok (encB (labS b j)) g := by
  refine ⟨?_, ?_, ?_, ?_⟩
  · rw [run_def (by rfl) (fd := fd_label_box) (by rfl) rfl]
    unfold fd_label_box c_label_box
    rw [seq_nx (st_asg (ev_v rfl) rfl), seq_ift (ev_cmp (ev_v rfl) ev_k (cmp_strs _ _)) (by rfl) (seq_rt (st_ret (by trivial)))]
    rfl
  · rw [run_def (by rfl) (fd := fd_label_box) (by rfl) rfl]
    unfold fd_label_box c_label_box
    rw [seq_nx (st_asg (ev_v rfl) rfl), seq_ifn (ev_cmp (ev_v rfl) ev_k (cmp_strs _ _)) (by rfl) st_nil, seq_ift (ev_cmp (ev_v rfl) ev_k (cmp_strs _ _)) (by rfl) (seq_rt (st_ret (by trivial)))]
    rfl
  · rw [run_def (by rfl) (fd := fd_label_box) (by rfl) rfl]
    unfold fd_label_box c_label_box
    rw [seq_nx (st_asg (ev_v rfl) rfl), seq_ifn (ev_cmp (ev_v rfl) ev_k (cmp_strs _ _)) (by rfl) st_nil, seq_ifn (ev_cmp (ev_v rfl) ev_k (cmp_strs _ _)) (by rfl) st_nil, seq_ift (ev_cmp (ev_v rfl) ev_k (cmp_strs _ _)) (by rfl) (seq_rt (st_ret (by trivial)))]
    rfl
  · rw [run_def (by rfl) (fd := fd_label_box) (by rfl) rfl]
    unfold fd_label_box c_label_box
    rw [seq_nx (st_asg (ev_v rfl) rfl), seq_ifn (ev_cmp (ev_v rfl) ev_k (cmp_strs _ _)) (by rfl) st_nil, seq_ifn (ev_cmp (ev_v rfl) ev_k (cmp_strs _ _)) (by rfl) st_nil, seq_ifn (ev_cmp (ev_v rfl) ev_k (cmp_strs _ _)) (by rfl) st_nil, seq_rt (st_ret (by trivial))]
    rfl
/-! ### boxes by name -/
abbrev NB := List (S × Bx)
def encN (nb : NB) : D := .dct false (nb.map fun p => .str p.1) (nb.map fun p => encB p.2)
def lk (nb : NB) (n : S) : Option Bx := (nb.find? fun p => p.1 == n).map (·.2)
theorem dget_nb (n : S) : ∀ nb : NB, dget (.str n) (nb.map fun p => .str p.1) (nb.map fun p => encB p.2) = (lk nb n).map encB
  | [] => rfl
  | p :: nb => by
    by_cases h : p.1 = n
    · simp [dget, sameD, lk, List.find?_cons, h]
    · have h' : (p.1 == n) = false := by simpa using h
      have ih := dget_nb n nb
      simp only [lk] at ih
      simp [dget, sameD, lk, List.find?_cons, h', ih]
theorem idx_nb {nb : NB} {n : S} {b : Bx} (h : lk nb n = some b) : idxD (encN nb) (.str n) = some (encB b) := by
  simp only [idxD, encN, keyOk, Bool.not_false, if_true, dget_nb, h, Option.map]
structure Valid (nb : NB) : Prop where
  nd : (nb.map (·.1)).Nodup
  ne : ∀ p ∈ nb, p.1 ≠ [] ∧ p.1.length ≤ 1000
  ok : ∀ p ∈ nb, p.2.w < p.2.e ∧ p.2.s < p.2.n
  len : nb.length ≤ 1000
theorem lk_mem {nb : NB} (h : (nb.map (·.1)).Nodup) {p : S × Bx} (hp : p ∈ nb) : lk nb p.1 = some p.2 := by
  induction nb with
  | nil => cases hp
  | cons q nb ih =>
    simp only [List.map_cons, List.nodup_cons] at h
    simp only [lk, List.find?_cons]
    rcases List.mem_cons.mp hp with rfl | hp
    · simp
    · have : (q.1 == p.1) = false := by
        simp only [beq_eq_false_iff_ne]
        intro e
        exact h.1 (List.mem_map.mpr ⟨p, hp, e.symm⟩)
      rw [this]
      exact ih h.2 hp
theorem lk_some {nb : NB} {n : S} (h : n ∈ nb.map (·.1)) : ∃ b, lk nb n = some b ∧ (n, b) ∈ nb := by
  induction nb with
  | nil => simp at h
  | cons q nb ih =>
    simp only [lk, List.find?_cons]
    cases e : q.1 == n with
    | true =>
      have e : q.1 = n := by simpa using e
      subst e
      exact ⟨q.2, rfl, List.mem_cons_self ..⟩
    | false =>
      have hn : n ∈ nb.map (·.1) := by
        simp only [List.map_cons, List.mem_cons] at h
        rcases h with h | h
        · rw [h] at e; simp at e
        · exact h
      obtain ⟨b, h1, h2⟩ := ih hn
      exact ⟨b, h1, List.mem_cons_of_mem _ h2⟩
noncomputable def sn (nb : NB) : List S := (sort_str (nb.map fun p => p.1)).choose
theorem sn_sort (nb : NB) : sortO (nb.map fun p => .str p.1) = some ((sn nb).map .str) := by
  have e : (nb.map fun p => D.str p.1) = (nb.map fun p => p.1).map D.str := by rw [List.map_map]; rfl
  exact (congrArg sortO e).trans (sort_str (nb.map fun p => p.1)).choose_spec.1
theorem sn_perm (nb : NB) : (sn nb).Perm (nb.map (·.1)) := by
  unfold sn
  exact (sort_str _).choose_spec.2
theorem b1_sorted (nb : NB) : b1D .sorted (encN nb) = some (.lst ((sn nb).map .str)) := by
  simp only [b1D, encN, sn_sort, Option.map]
theorem sn_mem {nb : NB} {n : S} : n ∈ sn nb ↔ n ∈ nb.map (·.1) := (sn_perm nb).mem_iff
theorem sn_len (nb : NB) : (sn nb).length = nb.length := by rw [(sn_perm nb).length_eq]; simp
def getB (nb : NB) (n : S) : Bx := (lk nb n).getD ⟨0, 0, 0, 0⟩
theorem lk_get {nb : NB} {n : S} (h : n ∈ nb.map (·.1)) : lk nb n = some (getB nb n) := by
  obtain ⟨b, h1, _⟩ := lk_some h
  rw [getB, h1]; rfl
end MW

end
section
set_option Elab.async false
set_option linter.all false
set_option maxRecDepth 100000
set_option maxHeartbeats 4000000
namespace MW
theorem forL_cons {t : T} {body : Env → G → Res Out} {d : D} {ds : List D} {ρ ρ1 ρ2 : Env} {g g2 : G} (h1 : bindT t d ρ = some ρ1) (h2 : body ρ1 g = .ok (.nx ρ2) g2) : forL t body (d :: ds) ρ g = forL t body ds ρ2 g2 := by
  simp only [forL, h1, h2, Res.bind]
theorem forL_nil {t : T} {body : Env → G → Res Out} {ρ : Env} {g : G} : forL t body [] ρ g = .ok (.nx ρ) g := rfl
/-! ### sorted pairs -/
def encP (p : S × Bx) : D := .tup [.str p.1, encB p.2]
theorem zip_nb (nb : NB) : zipL (nb.map fun p => .str p.1) (nb.map fun p => encB p.2) = nb.map encP := by
  induction nb with
  | nil => rfl
  | cons p nb ih => simp only [List.map_cons, zipL, ih, encP]
theorem sort_pairs (nb : NB) : ∃ si : NB, sortO (nb.map encP) = some (si.map encP) ∧ si.Perm nb := by
  have ok : ((nb.map encP).all okD && allAlike (nb.map encP) && sortable (nb.map encP)) = true := by
    simp only [allAlike, sortable, Bool.and_eq_true, Bool.or_eq_true, List.all_eq_true, List.mem_map]
    refine ⟨⟨?_, ?_⟩, .inl ?_⟩
    · rintro _ ⟨a, _, rfl⟩; rfl
    · rintro _ ⟨a, _, rfl⟩ _ ⟨b, _, rfl⟩; rfl
    · rintro _ ⟨a, _, rfl⟩; rfl
  have pm := List.mergeSort_perm (nb.map encP) fun a b => !ltD b a
  let un : D → S × Bx := fun d => match d with
    | .tup [.str s, .tup [.int w, .int e, .int so, .int n]] => (s, ⟨w, e, so, n⟩)
    | _ => ([], ⟨0, 0, 0, 0⟩)
  have hun : ∀ p, un (encP p) = p := fun p => rfl
  refine ⟨((nb.map encP).mergeSort fun a b => !ltD b a).map un, ?_, ?_⟩
  · unfold sortO
    rw [if_pos ok, List.map_map]
    congr 1
    refine (List.map_id' _).symm.trans (List.map_congr_left fun d hd => ?_)
    obtain ⟨p, _, rfl⟩ := List.mem_map.mp (pm.mem_iff.mp hd)
    show encP p = encP (un (encP p))
    rw [hun]
  · have := pm.map un
    rw [List.map_map] at this
    refine this.trans ?_
    rw [show (un ∘ encP) = id from funext hun, List.map_id]
noncomputable def si (nb : NB) : NB := (sort_pairs nb).choose
theorem si_sort (nb : NB) : sortO (zipL (nb.map fun p => .str p.1) (nb.map fun p => encB p.2)) = some ((si nb).map encP) := by
  rw [zip_nb]; exact (sort_pairs nb).choose_spec.1
theorem si_perm (nb : NB) : (si nb).Perm nb := (sort_pairs nb).choose_spec.2
/-! ### places -/
noncomputable def othersL (nb : NB) (n : S) : List Bx := ((si nb).filter fun p => !(p.1 == n) && !withinB (getB nb n) p.2).map (·.2)
noncomputable def okLab (nb : NB) (n : S) (win b : Bx) : Bool := withinB b win && (!((othersL nb n).map fun c => overlapB b c || touchB b c).any id && !overlapB b (getB nb n))
noncomputable def labs (nb : NB) (n : S) : List (S × Bx) := [(s_east, labE (getB nb n) n.length), (s_north, labN (getB nb n) n.length), (s_west, labW (getB nb n) n.length), (s_south, labS (getB nb n) n.length)]
noncomputable def placesL (nb : NB) (n : S) (win : Bx) : List (S × Bx) := (labs nb n).filter fun p => okLab nb n win p.2
def bodyPl : C := match c_places_for with
  | .seq _ (.seq _ (.seq _ (.seq (.for_ _ _ b) _))) => b
  | _ => .nil
noncomputable def stP (nb : NB) (n : S) (win : Bx) (found : List (S × Bx)) (x : Slot) : Env :=
  [.val (.str n), .val (encN nb), .val (encB win), .val (encB (getB nb n)), .val (.lst ((othersL nb n).map encB)), .no, .no, .own (.lst (found.map encP)), x, .no]
theorem others_len (nb : NB) (n : S) : (othersL nb n).length ≤ nb.length := by
  unfold othersL
  rw [List.length_map, ← (si_perm nb).length_eq]
  exact List.length_filter_le _ _
theorem places_body (scr : List Int) (k : Nat) (nb : NB) (n : S) (win : Bx) (found : List (S × Bx)) (side : S) (b : Bx) (g : G) (hl : nb.length ≤ 1000) (hn : n.length ≤ 1000) (hf : found.length ≤ 10)
    (hlab : run (P78 scr) (k + 1) "label_box" [encB (getB nb n), .str side, .int n.length] g = .ok (encB b) g) :
    evalC ⟨run (P78 scr) (k + 1), dfl_k78, consts_k78⟩ bodyPl (stP nb n win found (.val (.str side))) g = .ok (.nx (stP nb n win (found ++ if okLab nb n win b then [(side, b)] else []) .no)) g := by
  have lo : (othersL nb n).length ≤ 16777216 := Nat.le_trans (others_len nb n) (by omega)
  show evalC _ (.seq (.asg (.nm 6) (.call "label_box" (.acons (.v 3) (.acons (.v 8) (.acons (.b1 .len (.v 0)) .anil))) 0))
    (.seq (.asg (.nm 9) (.not (.b1 .any (.lc (.or (.call "overlap" (.acons (.v 6) (.acons (.v 5) .anil)) 0) (.call "touch" (.acons (.v 6) (.acons (.v 5) .anil)) 0)) (.nm 5) (.v 4) (.k (.bl true)) [5]))))
    (.seq (.if_ (.and (.call "within" (.acons (.v 6) (.acons (.v 2) .anil)) 0) (.and (.v 9) (.not (.call "overlap" (.acons (.v 6) (.acons (.v 3) .anil)) 0))))
      (.seq (.app 7 (.tup (.acons (.v 8) (.acons (.v 6) .anil)))) .nil) .nil)
    (.seq (.drop [6, 8, 9]) .nil)))) _ _ = _
  have hlen : b1D .len (.str n) = some (.int n.length) := by
    simp only [b1D]
    rw [if_pos (decide_eq_true (by omega))]
  rw [seq_nx (st_asg (ev_call (ev_acons (ev_v rfl) (ev_acons (ev_v rfl) (ev_acons (ev_b1 (ev_v rfl) hlen) ev_anil))) hlab) rfl)]
  have e9 : evalE ⟨run (P78 scr) (k + 1), dfl_k78, consts_k78⟩ (.not (.b1 .any (.lc (.or (.call "overlap" (.acons (.v 6) (.acons (.v 5) .anil)) 0) (.call "touch" (.acons (.v 6) (.acons (.v 5) .anil)) 0)) (.nm 5) (.v 4) (.k (.bl true)) [5])))
      [.val (.str n), .val (encN nb), .val (encB win), .val (encB (getB nb n)), .val (.lst ((othersL nb n).map encB)), .no, .val (encB b), .own (.lst (found.map encP)), .val (.str side), .no] g = .ok (.bl (!((othersL nb n).map fun c => overlapB b c || touchB b c).any id)) g := by
    refine ev_not (x := .bl (((othersL nb n).map fun c => overlapB b c || touchB b c).any id)) (ev_b1 (x := .lst (((othersL nb n).map fun c => overlapB b c || touchB b c).map .bl)) ?_ (any_bl _)) rfl
    have := ev_lcM (P := ⟨run (P78 scr) (k + 1), dfl_k78, consts_k78⟩) (enc := encB) (xs := othersL nb n) (p := fun _ => true) (f := fun c => D.bl (overlapB b c || touchB b c)) (g1 := g) (g := g) (x := .lst ((othersL nb n).map encB)) (it := .v 4)
      (ρ := [.val (.str n), .val (encN nb), .val (encB win), .val (encB (getB nb n)), .val (.lst ((othersL nb n).map encB)), .no, .val (encB b), .own (.lst (found.map encP)), .val (.str side), .no]) (elt := .or (.call "overlap" (.acons (.v 6) (.acons (.v 5) .anil)) 0) (.call "touch" (.acons (.v 6) (.acons (.v 5) .anil)) 0)) (tg := .nm 5) (test := .k (.bl true)) (own := [5]) (ev_v rfl) rfl lo
      fun c hc => ⟨_, rfl, ev_k, fun _ => ev_or (ev_call (ev_acons (ev_v rfl) (ev_acons (ev_v rfl) ev_anil)) (run_overlap scr k b c g)) (ev_call (ev_acons (ev_v rfl) (ev_acons (ev_v rfl) ev_anil)) (run_touch scr k b c g))⟩
    rw [filter_yes] at this
    rw [List.map_map]
    exact this
  refine (seq_nx (st_asg e9 rfl)).trans ?_
  have et : evalE ⟨run (P78 scr) (k + 1), dfl_k78, consts_k78⟩ (.and (.call "within" (.acons (.v 6) (.acons (.v 2) .anil)) 0) (.and (.v 9) (.not (.call "overlap" (.acons (.v 6) (.acons (.v 3) .anil)) 0))))
      [.val (.str n), .val (encN nb), .val (encB win), .val (encB (getB nb n)), .val (.lst ((othersL nb n).map encB)), .no, .val (encB b), .own (.lst (found.map encP)), .val (.str side), .val (.bl (!((othersL nb n).map fun c => overlapB b c || touchB b c).any id))] g = .ok (.bl (okLab nb n win b)) g :=
    ev_and (ev_call (ev_acons (ev_v rfl) (ev_acons (ev_v rfl) ev_anil)) (run_within scr k b win g)) (ev_and (ev_v rfl) (ev_not (ev_call (ev_acons (ev_v rfl) (ev_acons (ev_v rfl) ev_anil)) (run_overlap scr k b _ g)) rfl))
  cases hk : okLab nb n win b with
  | true =>
    rw [hk] at et
    refine (seq_ify et rfl ((seq_nx (st_app (ev_tup (ev_acons (ev_v rfl) (ev_acons (ev_v rfl) ev_anil)) rfl) rfl (by simp; omega))).trans st_nil)).trans ?_
    rw [seq_nx st_drop, st_nil]
    simp [stP, wipeE, encP]
  | false =>
    rw [hk] at et
    refine (seq_ifn et rfl st_nil).trans ?_
    rw [seq_nx st_drop, st_nil]
    simp [stP, wipeE]
end MW

end
section
set_option Elab.async false
set_option linter.all false
set_option maxRecDepth 100000
set_option maxHeartbeats 4000000
namespace MW
theorem run_places (scr : List Int) (k : Nat) (nb : NB) (n : S) (win : Bx) (g : G) (hl : nb.length ≤ 1000) (hn : n.length ≤ 1000) (hm : n ∈ nb.map (·.1)) :
    run (P78 scr) (k + 2) "places_for" [.str n, encN nb, encB win] g = .ok (.lst ((placesL nb n win).map encP)) g := by
  rw [run_def (by rfl) (fd := fd_places_for) (by rfl) rfl]
  have ls : (si nb).length ≤ 16777216 := by rw [(si_perm nb).length_eq]; omega
  have hcomp : evalE ⟨run (P78 scr) (k + 1), dfl_k78, consts_k78⟩ (.lc (.v 6) (.tup (.tcons (.nm 5) (.tcons (.nm 6) .tnil))) (.sitems (.v 1)) (.and (.cmp .ne (.v 5) (.v 0)) (.not (.call "within" (.acons (.v 3) (.acons (.v 6) .anil)) 0))) [5, 6])
      [.val (.str n), .val (encN nb), .val (encB win), .val (encB (getB nb n)), .no, .no, .no, .no, .no, .no] g = .ok (.lst ((othersL nb n).map encB)) g := by
    have := ev_lcM (P := ⟨run (P78 scr) (k + 1), dfl_k78, consts_k78⟩) (enc := encP) (xs := si nb) (p := fun p => !(p.1 == n) && !withinB (getB nb n) p.2) (f := fun p => encB p.2) (g1 := g) (g := g) (x := .lst ((si nb).map encP)) (it := .sitems (.v 1))
      (ρ := [.val (.str n), .val (encN nb), .val (encB win), .val (encB (getB nb n)), .no, .no, .no, .no, .no, .no]) (elt := .v 6) (tg := .tup (.tcons (.nm 5) (.tcons (.nm 6) .tnil))) (test := .and (.cmp .ne (.v 5) (.v 0)) (.not (.call "within" (.acons (.v 3) (.acons (.v 6) .anil)) 0))) (own := [5, 6]) (ev_sitems (ev_v rfl) (si_sort nb)) rfl ls
      fun p hp => ⟨_, rfl, ev_and (ev_cmp (ev_v rfl) (ev_v rfl) (cmp_strn _ _)) (ev_not (ev_call (ev_acons (ev_v rfl) (ev_acons (ev_v rfl) ev_anil)) (run_within scr k _ p.2 g)) rfl), fun _ => ev_v rfl⟩
    rw [this]
    unfold othersL
    rw [List.map_map]
    rfl
  show fin (evalC _ (.seq (.asg (.nm 3) (.idx (.v 1) (.v 0))) (.seq (.asg (.nm 4) (.lc (.v 6) (.tup (.tcons (.nm 5) (.tcons (.nm 6) .tnil))) (.sitems (.v 1)) (.and (.cmp .ne (.v 5) (.v 0)) (.not (.call "within" (.acons (.v 3) (.acons (.v 6) .anil)) 0))) [5, 6]))
    (.seq (.own 7 (.lst .anil)) (.seq (.for_ (.nm 8) (.gv "SIDES") bodyPl) (.seq (.drop [6, 8, 9]) (.seq (.frz [7]) (.seq (.ret (.v 7)) .nil))))))) _ _) = _
  rw [seq_nx (st_asg (ev_idx (ev_v rfl) (ev_v rfl) (idx_nb (lk_get hm))) rfl)]
  have hfor : forL (.nm 8) (fun ρ g => evalC ⟨run (P78 scr) (k + 1), dfl_k78, consts_k78⟩ bodyPl ρ g) [.str s_east, .str s_north, .str s_west, .str s_south] (stP nb n win [] .no) g = .ok (.nx (stP nb n win (placesL nb n win) .no)) g := by
    obtain ⟨h1, h2, h3, h4⟩ := run_label scr k (getB nb n) n.length g
    have B := fun found side b hf hlab => places_body scr k nb n win found side b g hl hn hf hlab
    have c1 : ∀ b : Bool, ∀ x : S × Bx, (if b = true then [x] else []).length ≤ 1 := fun b x => by cases b <;> simp
    have d1 := c1 (okLab nb n win (labE (getB nb n) n.length)) (s_east, labE (getB nb n) n.length)
    have d2 := c1 (okLab nb n win (labN (getB nb n) n.length)) (s_north, labN (getB nb n) n.length)
    have d3 := c1 (okLab nb n win (labW (getB nb n) n.length)) (s_west, labW (getB nb n) n.length)
    refine (forL_cons (ρ1 := stP nb n win [] (.val (.str s_east))) rfl (B [] s_east _ (by simp) h1)).trans ?_
    refine (forL_cons (ρ1 := stP nb n win _ (.val (.str s_north))) rfl (B _ s_north _ (by rw [List.length_append]; exact Nat.le_trans (Nat.add_le_add (Nat.le_refl 0) d1) (by decide)) h3)).trans ?_
    refine (forL_cons (ρ1 := stP nb n win _ (.val (.str s_west))) rfl (B _ s_west _ (by rw [List.length_append, List.length_append]; exact Nat.le_trans (Nat.add_le_add (Nat.add_le_add (Nat.le_refl 0) d1) d2) (by decide)) h2)).trans ?_
    refine (forL_cons (ρ1 := stP nb n win _ (.val (.str s_south))) rfl (B _ s_south _ (by rw [List.length_append, List.length_append, List.length_append]; exact Nat.le_trans (Nat.add_le_add (Nat.add_le_add (Nat.add_le_add (Nat.le_refl 0) d1) d2) d3) (by decide)) h4)).trans ?_
    refine forL_nil.trans ?_
    congr 2
    unfold placesL labs
    congr 1
    simp only [List.filter_cons, List.filter_nil, List.nil_append]
    cases okLab nb n win (labE (getB nb n) n.length) <;> cases okLab nb n win (labN (getB nb n) n.length) <;> cases okLab nb n win (labW (getB nb n) n.length) <;> cases okLab nb n win (labS (getB nb n) n.length) <;> rfl
  refine (congrArg fin (seq_nx (st_asg hcomp rfl))).trans ?_
  refine (congrArg fin (seq_nx (st_ownL (ev_lst ev_anil rfl) (show 7 < 10 by decide)))).trans ?_
  refine (congrArg fin (seq_nx ((st_for (ds := [.str s_east, .str s_north, .str s_west, .str s_south]) (ev_gv rfl) rfl).trans hfor))).trans ?_
  rw [seq_nx st_drop, seq_nx st_frz, seq_rt (st_ret (ev_v rfl))]
  rfl
end MW

end
section
set_option Elab.async false
set_option linter.all false
set_option maxRecDepth 100000
set_option maxHeartbeats 4000000
namespace MW
/-! ### the law's own squares -/
def sqL (b : Bx) : List (Int × Int) := (List.range (b.e - b.w).toNat).flatMap fun (i : Nat) => (List.range (b.n - b.s).toNat).map fun (j : Nat) => (b.w + (i : Int), b.s + (j : Int))
def encQ (q : Int × Int) : D := .tup [.int q.1, .int q.2]
theorem sq_mem {b : Bx} {x y : Int} : (x, y) ∈ sqL b ↔ (b.w ≤ x ∧ x < b.e) ∧ b.s ≤ y ∧ y < b.n := by
  unfold sqL
  simp only [List.mem_flatMap, List.mem_map, List.mem_range, Prod.mk.injEq]
  constructor
  · rintro ⟨i, hi, j, hj, rfl, rfl⟩
    omega
  · rintro ⟨⟨h1, h2⟩, h3, h4⟩
    exact ⟨(x - b.w).toNat, by omega, (y - b.s).toNat, by omega, by omega, by omega⟩
def nearQ (q : Int × Int) : List (Int × Int) := [(q.1, q.2), (q.1 + 1, q.2), (q.1 - 1, q.2), (q.1, q.2 + 1), (q.1, q.2 - 1)]
def nearS (b : Bx) : List (Int × Int) := (sqL b).flatMap nearQ
/-- some square of c is near b: they overlap or touch -/
theorem near_iff {b c : Bx} (hb : b.w < b.e ∧ b.s < b.n) (hc : c.w < c.e ∧ c.s < c.n) : (∃ q ∈ sqL c, q ∈ nearS b) ↔ (overlapB b c || touchB b c) = true := by
  unfold nearS nearQ
  simp only [List.mem_flatMap, overlapB, touchB, Bool.or_eq_true, Bool.and_eq_true, decide_eq_true_eq]
  constructor
  · rintro ⟨⟨x, y⟩, h1, ⟨u, v⟩, h2, h3⟩
    rw [sq_mem] at h1 h2
    simp only [List.mem_cons, Prod.mk.injEq, List.not_mem_nil, or_false] at h3
    omega
  · intro h
    have mk : ∀ x y u v : Int, (c.w ≤ x ∧ x < c.e ∧ c.s ≤ y ∧ y < c.n) → (b.w ≤ u ∧ u < b.e ∧ b.s ≤ v ∧ v < b.n) → ((x = u ∧ y = v) ∨ (x = u + 1 ∧ y = v) ∨ (x = u - 1 ∧ y = v) ∨ (x = u ∧ y = v + 1) ∨ (x = u ∧ y = v - 1)) →
        ∃ q, q ∈ sqL c ∧ ∃ a, a ∈ sqL b ∧ q ∈ [(a.1, a.2), (a.1 + 1, a.2), (a.1 - 1, a.2), (a.1, a.2 + 1), (a.1, a.2 - 1)] := fun x y u v h1 h2 h3 =>
      ⟨(x, y), sq_mem.mpr ⟨⟨h1.1, h1.2.1⟩, h1.2.2.1, h1.2.2.2⟩, (u, v), sq_mem.mpr ⟨⟨h2.1, h2.2.1⟩, h2.2.2.1, h2.2.2.2⟩, by simpa [Prod.mk.injEq] using h3⟩
    have mx1 := Int.le_max_left b.w c.w
    have mx2 := Int.le_max_right b.w c.w
    have my1 := Int.le_max_left b.s c.s
    have my2 := Int.le_max_right b.s c.s
    have mc : max b.w c.w = b.w ∨ max b.w c.w = c.w := by omega
    have md : max b.s c.s = b.s ∨ max b.s c.s = c.s := by omega
    rcases h with h | ⟨h | h, h'⟩ | ⟨h | h, h'⟩
    · exact mk (max b.w c.w) (max b.s c.s) (max b.w c.w) (max b.s c.s) (by omega) (by omega) (.inl ⟨rfl, rfl⟩)
    · exact mk c.w (max b.s c.s) (b.e - 1) (max b.s c.s) (by omega) (by omega) (by omega)
    · exact mk (c.e - 1) (max b.s c.s) b.w (max b.s c.s) (by omega) (by omega) (by omega)
    · exact mk (max b.w c.w) c.s (max b.w c.w) (b.n - 1) (by omega) (by omega) (by omega)
    · exact mk (max b.w c.w) (c.n - 1) (max b.w c.w) b.s (by omega) (by omega) (by omega)
/-- all squares of c are b's: c is within b -/
theorem holds_iff {b c : Bx} (hc : c.w < c.e ∧ c.s < c.n) : (∀ q ∈ sqL c, q ∈ sqL b) ↔ withinB c b = true := by
  simp only [withinB, Bool.and_eq_true, decide_eq_true_eq]
  constructor
  · intro h
    have h1 := sq_mem.mp (h (c.w, c.s) (sq_mem.mpr (by omega)))
    have h2 := sq_mem.mp (h (c.e - 1, c.n - 1) (sq_mem.mpr (by omega)))
    omega
  · rintro h ⟨x, y⟩ hq
    rw [sq_mem] at hq ⊢
    omega
end MW

end
section
set_option Elab.async false
set_option linter.all false
set_option maxRecDepth 100000
set_option maxHeartbeats 4000000
namespace MW
/-- small boxes -/
structure Sm (b : Bx) : Prop where
  w1 : -1000 ≤ b.w
  w2 : b.w ≤ 1000
  e1 : -1000 ≤ b.e
  e2 : b.e ≤ 1000
  s1 : -1000 ≤ b.s
  s2 : b.s ≤ 1000
  n1 : -1000 ≤ b.n
  n2 : b.n ≤ 1000
def row (b : Bx) (i : Nat) : List (Int × Int) := (List.range (b.n - b.s).toNat).map fun (j : Nat) => (b.w + (i : Int), b.s + (j : Int))
def rows (b : Bx) (k : Nat) : List (Int × Int) := (List.range k).flatMap (row b)
theorem rows_succ (b : Bx) (k : Nat) : rows b (k + 1) = rows b k ++ row b k := by
  unfold rows
  rw [List.range_succ, List.flatMap_append]
  simp
theorem row_len (b : Bx) (k : Nat) (h : Sm b) : (row b k).length ≤ 2000 := by
  unfold row
  have := h.n2; have := h.s1
  simp; omega
theorem rows_len (b : Bx) (h : Sm b) : ∀ k : Nat, (rows b k).length ≤ 2000 * k
  | 0 => by simp [rows]
  | k + 1 => by
    rw [rows_succ, List.length_append]
    have := rows_len b h k
    have := row_len b k h
    omega
theorem sqL_rows (b : Bx) : sqL b = rows b (b.e - b.w).toNat := rfl
theorem sq_len (b : Bx) (h : Sm b) : (sqL b).length ≤ 4000000 := by
  rw [sqL_rows]
  have := rows_len b h (b.e - b.w).toNat
  have := h.e2; have := h.w1
  omega
theorem rng_get {lo : Int} {n j : Nat} {d : D} (h : (rngL lo n)[j]? = some d) : j < n ∧ d = .int (lo + j) := by
  have hj : j < n := by
    have := (List.getElem?_eq_some_iff.mp h).1
    simpa [rngL] using this
  simp [rngL, List.getElem?_range hj] at h
  exact ⟨hj, h.symm⟩
theorem run_squares (scr : List Int) (k : Nat) (b : Bx) (g : G) (h : Sm b) : run (P78 scr) (k + 1) "_law_squares" [encB b] g = .ok (.lst ((sqL b).map encQ)) g := by
  rw [run_def (by rfl) (fd := fd_law_squares) (by rfl) rfl]
  obtain ⟨h1, h2, h3, h4, h5, h6, h7, h8⟩ := h
  have hs : Sm b := ⟨h1, h2, h3, h4, h5, h6, h7, h8⟩
  unfold fd_law_squares c_law_squares
  have hin : ∀ (x : Int) (i : Nat) (f : List (Int × Int)), x = b.w + i → evalE ⟨run (P78 scr) k, dfl_k78, consts_k78⟩ (.lc (.tup (.acons (.v 2) (.acons (.v 3) .anil))) (.nm 3) (.rng2 (.idx (.v 0) (.k (.int 2))) (.idx (.v 0) (.k (.int 3)))) (.k (.bl true)) [3])
      [.val (encB b), .val (.lst (f.map encQ)), .val (.int x), .no] g = .ok (.lst ((row b i).map encQ)) g := fun x i f hx => by
    subst hx
    have := ev_lcM (P := ⟨run (P78 scr) k, dfl_k78, consts_k78⟩) (enc := fun (j : Nat) => D.int (b.s + (j : Int))) (xs := List.range (b.n - b.s).toNat) (p := fun _ => true) (f := fun (j : Nat) => encQ (b.w + (i : Int), b.s + (j : Int))) (g := g) (g1 := g) (x := .lst (rngL b.s (b.n - b.s).toNat))
      (it := .rng2 (.idx (.v 0) (.k (.int 2))) (.idx (.v 0) (.k (.int 3)))) (ρ := [.val (encB b), .val (.lst (f.map encQ)), .val (.int (b.w + i)), .no]) (elt := .tup (.acons (.v 2) (.acons (.v 3) .anil))) (tg := .nm 3) (test := .k (.bl true)) (own := [3])
      (ev_rng2 (ev_idx (ev_v rfl) ev_k (ix2 b)) (ev_idx (ev_v rfl) ev_k (ix3 b)) (by omega) (by omega) (by omega)) rfl (by simp; omega)
      fun j hj => ⟨_, rfl, ev_k, fun _ => ev_tup (ev_acons (ev_v rfl) (ev_acons (ev_v rfl) ev_anil)) rfl⟩
    rw [filter_yes] at this
    rw [this]
    unfold row
    rw [List.map_map]
    rfl
  obtain ⟨ρ', g', hf, hρ, hg⟩ := for_inv (t := .nm 2) (body := fun ρ g => evalC ⟨run (P78 scr) k, dfl_k78, consts_k78⟩ (.seq (.asg (.nm 1) (.bin .add (.v 1) (.lc (.tup (.acons (.v 2) (.acons (.v 3) .anil))) (.nm 3) (.rng2 (.idx (.v 0) (.k (.int 2))) (.idx (.v 0) (.k (.int 3)))) (.k (.bl true)) [3]))) (.seq (.drop [2]) .nil)) ρ g)
    (I := fun i ρ g' => ρ = [.val (encB b), .val (.lst ((rows b i).map encQ)), .no, .no] ∧ g' = g) (ds := rngL b.w (b.e - b.w).toNat) 0 (ρ := [.val (encB b), .val (.lst []), .no, .no]) (g := g) ⟨rfl, rfl⟩
    (fun j d ρ g0 hd hI => by
      obtain ⟨rfl, rfl⟩ := hI
      obtain ⟨hj, rfl⟩ := rng_get hd
      rw [Nat.zero_add]
      refine ⟨_, rfl, _, _, .inl ?_, rfl, rfl⟩
      refine (seq_nx (st_asg (ev_bin (ev_v rfl) (hin _ j _ rfl) (z := .lst ((rows b (j + 1)).map encQ)) ?_) rfl)).trans ((seq_nx st_drop).trans st_nil)
      have l1 := rows_len b hs j
      have l2 := row_len b j hs
      simp only [binD]
      rw [if_pos (decide_eq_true (by rw [List.length_map, List.length_map]; omega)), rows_succ, List.map_append])
  subst hρ; subst hg
  rw [seq_nx (st_asg (ev_lst ev_anil rfl) rfl)]
  refine (congrArg fin (seq_nx ((st_for (ds := rngL b.w (b.e - b.w).toNat) (ev_rng2 (ev_idx (ev_v rfl) ev_k (ix0 b)) (ev_idx (ev_v rfl) ev_k (ix1 b)) (by omega) (by omega) (by omega)) rfl).trans hf))).trans ?_
  rw [seq_nx st_drop, seq_rt (st_ret (ev_v rfl)), Nat.zero_add, show (rngL b.w (b.e - b.w).toNat).length = (b.e - b.w).toNat by simp [rngL]]
  rfl
end MW

end
section
set_option Elab.async false
set_option linter.all false
set_option maxRecDepth 100000
set_option maxHeartbeats 4000000
namespace MW
theorem take_succ_at {α : Type} {xs : List α} {j : Nat} {x : α} (h : xs[j]? = some x) : xs.take (j + 1) = xs.take j ++ [x] := by
  rw [List.take_add_one, h]; rfl
theorem near_lenQ (qs : List (Int × Int)) : (qs.flatMap nearQ).length = 5 * qs.length := by
  induction qs with
  | nil => rfl
  | cons q qs ih => rw [List.flatMap_cons, List.length_append, ih]; simp [nearQ]; omega
theorem run_near (scr : List Int) (k : Nat) (b : Bx) (g : G) (h : Sm b) (hz : (sqL b).length ≤ 1000000) : run (P78 scr) (k + 2) "_law_near" [encB b] g = .ok (.lst ((nearS b).map encQ)) g := by
  rw [run_def (by rfl) (fd := fd_law_near) (by rfl) rfl]
  unfold fd_law_near c_law_near
  obtain ⟨ρ', g', hf, hρ, hg⟩ := for_inv (t := .tup (.tcons (.nm 2) (.tcons (.nm 3) .tnil))) (body := fun ρ g => evalC ⟨run (P78 scr) (k + 1), dfl_k78, consts_k78⟩ (.seq (.asg (.nm 1) (.bin .add (.v 1) (.lst (.acons (.tup (.acons (.v 2) (.acons (.v 3) .anil))) (.acons (.tup (.acons (.bin .add (.v 2) (.k (.int 1))) (.acons (.v 3) .anil))) (.acons (.tup (.acons (.bin .sub (.v 2) (.k (.int 1))) (.acons (.v 3) .anil))) (.acons (.tup (.acons (.v 2) (.acons (.bin .add (.v 3) (.k (.int 1))) .anil))) (.acons (.tup (.acons (.v 2) (.acons (.bin .sub (.v 3) (.k (.int 1))) .anil))) .anil)))))))) (.seq (.drop [2, 3]) .nil)) ρ g)
    (I := fun i ρ g' => ρ = [.val (encB b), .val (.lst ((((sqL b).take i).flatMap nearQ).map encQ)), .no, .no] ∧ g' = g) (ds := (sqL b).map encQ) 0 (ρ := [.val (encB b), .val (.lst []), .no, .no]) (g := g) ⟨rfl, rfl⟩
    (fun j d ρ g0 hd hI => by
      obtain ⟨rfl, rfl⟩ := hI
      rw [List.getElem?_map] at hd
      obtain ⟨q, hq, rfl⟩ := Option.map_eq_some_iff.mp hd
      rw [Nat.zero_add]
      have hl : ((sqL b).take j).length ≤ 1000000 := Nat.le_trans (by simp; omega) hz
      refine ⟨_, rfl, _, _, .inl ?_, rfl, rfl⟩
      refine (seq_nx (st_asg (ev_bin (ev_v rfl) (ev_lst (ev_acons (ev_tup (ev_acons (ev_v rfl) (ev_acons (ev_v rfl) ev_anil)) rfl) (ev_acons (ev_tup (ev_acons (ev_bin (ev_v rfl) ev_k rfl) (ev_acons (ev_v rfl) ev_anil)) rfl) (ev_acons (ev_tup (ev_acons (ev_bin (ev_v rfl) ev_k rfl) (ev_acons (ev_v rfl) ev_anil)) rfl)
        (ev_acons (ev_tup (ev_acons (ev_v rfl) (ev_acons (ev_bin (ev_v rfl) ev_k rfl) ev_anil)) rfl) (ev_acons (ev_tup (ev_acons (ev_v rfl) (ev_acons (ev_bin (ev_v rfl) ev_k rfl) ev_anil)) rfl) ev_anil))))) rfl) (z := .lst ((((sqL b).take (j + 1)).flatMap nearQ).map encQ)) ?_) rfl)).trans ((seq_nx st_drop).trans st_nil)
      simp only [binD]
      rw [if_pos (decide_eq_true (by rw [List.length_map, near_lenQ]; simp only [List.length_cons, List.length_nil]; omega)), take_succ_at hq, List.flatMap_append, List.map_append]
      simp [nearQ, encQ])
  subst hρ; subst hg
  rw [seq_nx (st_asg (ev_lst ev_anil rfl) rfl)]
  refine (congrArg fin (seq_nx ((st_for (ds := (sqL b).map encQ) (ev_call (ev_acons (ev_v rfl) ev_anil) (run_squares scr k b _ h)) rfl).trans hf))).trans ?_
  rw [seq_nx st_drop, seq_rt (st_ret (ev_v rfl)), Nat.zero_add, List.length_map, List.take_length]
  rfl
/-! membership of squares -/
theorem okQ (q : Int × Int) : okD (encQ q) = true := rfl
theorem eqQ (q r : Int × Int) : eqD (encQ q) (encQ r) = decide (q = r) := by
  obtain ⟨a, b⟩ := q
  obtain ⟨c, d⟩ := r
  by_cases h : a = c <;> by_cases h' : b = d <;> simp [encQ, eqD, eqL, h, h']
theorem okLQ (qs : List (Int × Int)) : okD (.lst (qs.map encQ)) = true := by
  have h : plainL (qs.map encQ) = true ∧ depL (qs.map encQ) ≤ 1 := by
    induction qs with
    | nil => exact ⟨rfl, Nat.zero_le _⟩
    | cons r qs ih =>
      have h1 : depD (encQ r) = 1 := rfl
      have h2 : plainD (encQ r) = true := rfl
      have := ih.2
      simp only [List.map_cons, plainL, depL, ih.1, h1, h2]
      exact ⟨rfl, by omega⟩
  simp only [okD, plainD, depD, h.1, Bool.true_and]
  have := h.2
  exact decide_eq_true (by omega)
theorem inQ (q : Int × Int) (qs : List (Int × Int)) : inO (encQ q) (.lst (qs.map encQ)) = some (decide (q ∈ qs)) := by
  unfold inO
  simp only [okQ, okLQ, Bool.and_self, if_true]
  congr 1
  induction qs with
  | nil => rfl
  | cons r qs ih =>
    simp only [List.map_cons, List.any_cons, eqQ, ih]
    by_cases h : r = q
    · simp [h]
    · simp [h, Ne.symm h]
end MW

end
section
set_option Elab.async false
set_option linter.all false
set_option maxRecDepth 100000
set_option maxHeartbeats 4000000
namespace MW
theorem run_lholds (scr : List Int) (k : Nat) (b c : Bx) (g : G) (hb : Sm b) (hc : Sm c) (h2 : c.w < c.e ∧ c.s < c.n) : run (P78 scr) (k + 2) "_law_holds" [encB b, encB c] g = .ok (.bl (withinB c b)) g := by
  rw [run_def (by rfl) (fd := fd_law_holds) (by rfl) rfl]
  unfold fd_law_holds c_law_holds
  have lc := sq_len c hc
  have h := ev_lcM (P := ⟨run (P78 scr) (k + 1), dfl_k78, consts_k78⟩) (enc := encQ) (xs := sqL c) (p := fun q => !decide (q ∈ sqL b)) (f := encQ) (g := g) (g1 := g) (x := .lst ((sqL c).map encQ)) (it := .call "_law_squares" (.acons (.v 1) .anil) 0) (ρ := [.val (encB b), .val (encB c), .no]) (elt := .v 2) (tg := .nm 2)
    (test := .cmp .nin (.v 2) (.call "_law_squares" (.acons (.v 0) .anil) 0)) (own := [2]) (ev_call (ev_acons (ev_v rfl) ev_anil) (run_squares scr k c g hc)) rfl (by omega)
    fun q hq => ⟨_, rfl, ev_cmp (ev_v rfl) (ev_call (ev_acons (ev_v rfl) ev_anil) (run_squares scr k b g hb)) (by simp only [cmpD, inQ, Option.map]), fun _ => ev_v rfl⟩
  have hl : b1D .len (.lst (((sqL c).filter fun q => !decide (q ∈ sqL b)).map encQ)) = some (.int ((sqL c).filter fun q => !decide (q ∈ sqL b)).length) := by
    simp only [b1D, List.length_map]
  refine (congrArg fin (seq_rt (st_ret (ev_cmp (ev_b1 h hl) ev_k (cmp_eq _ _))))).trans ?_
  show Res.ok (D.bl (decide ((((sqL c).filter fun q => !decide (q ∈ sqL b)).length : Int) = 0))) g = _
  congr 2
  rw [Bool.eq_iff_iff, decide_eq_true_eq, ← holds_iff h2]
  rw [Int.natCast_eq_zero, List.length_eq_zero_iff, List.filter_eq_nil_iff]
  simp
end MW

end
section
set_option Elab.async false
set_option linter.all false
set_option maxRecDepth 100000
set_option maxHeartbeats 4000000
namespace MW
structure Fine (nb : NB) : Prop extends Valid nb where
  sm : ∀ p ∈ nb, Sm p.2
  sq : ∀ p ∈ nb, (sqL p.2).length ≤ 1000000
theorem Fine.get {nb : NB} (v : Fine nb) {n : S} (h : n ∈ nb.map (·.1)) : Sm (getB nb n) ∧ ((getB nb n).w < (getB nb n).e ∧ (getB nb n).s < (getB nb n).n) ∧ (sqL (getB nb n)).length ≤ 1000000 := by
  obtain ⟨b, h1, h2⟩ := lk_some h
  have e : getB nb n = b := by rw [getB, h1]; rfl
  rw [e]
  exact ⟨v.sm _ h2, v.ok _ h2, v.sq _ h2⟩

/-- how far the pool has gone -/
structure GB (n : Nat) (g : G) : Prop where
  a0 : 0 ≤ g.1
  a1 : g.1 ≤ n
  b0 : 0 ≤ g.2.2
  b1 : g.2.2 ≤ n
theorem GB.ok {n : Nat} {g : G} (h : GB n g) (hn : n ≤ 100000) : okG g = true := by
  obtain ⟨h1, h2, h3, h4⟩ := h
  simp only [okG, Bool.and_eq_true, decide_eq_true_eq]
  omega
theorem run_next {scr : List Int} {k n : Nat} {g : G} (hs : okScr scr = true) (h : GB n g) (hn : n ≤ 100000) : ∃ g', run (P78 scr) (k + 3) "_law_next" [.pool] g = .ok .non g' ∧ GB (n + 1) g' := by
  refine ⟨poolNext scr g, ?_, ?_⟩
  · have hp : prims scr "_law_next" = some (3, primNext scr) := rfl
    have hl : 3 ≤ k + 2 + 1 := by omega
    simp only [run, prog, hp, hl, if_true]
    unfold primNext
    dsimp only
    rw [if_pos (by rw [hs, h.ok hn]; rfl)]
  · obtain ⟨h1, h2, h3, h4⟩ := h
    exact ⟨by show 0 ≤ g.1 + 1; omega, by show g.1 + 1 ≤ _; omega, by show (0 : Int) ≤ 0; omega, by show (0 : Int) ≤ _; omega⟩
theorem run_draw {scr : List Int} {k n : Nat} {g : G} {lim : Int} (hs : okScr scr = true) (h : GB n g) (hn : n ≤ 100000) (l1 : 0 < lim) (l2 : lim < 1073741824) : ∃ v g', run (P78 scr) (k + 3) "_law_draw" [.pool, .int lim] g = .ok (.int v) g' ∧ (0 ≤ v ∧ v < lim) ∧ GB (n + 1) g' := by
  refine ⟨(poolDraw scr g lim).1, (poolDraw scr g lim).2, ?_, ?_, ?_⟩
  · have hp : prims scr "_law_draw" = some (3, primDraw scr) := rfl
    have hl : 3 ≤ k + 2 + 1 := by omega
    simp only [run, prog, hp, hl, if_true]
    unfold primDraw
    dsimp only
    rw [if_pos (by rw [hs, h.ok hn]; simp [l1, l2])]
  · exact ⟨Int.emod_nonneg _ (by omega), Int.emod_lt_of_pos _ l1⟩
  · obtain ⟨h1, h2, h3, h4⟩ := h
    unfold poolDraw poolFill
    dsimp only
    split
    · exact ⟨h1, by show g.1 ≤ _; omega, by show 0 ≤ g.2.2 + 1; omega, by show g.2.2 + 1 ≤ _; omega⟩
    · exact ⟨h1, by show g.1 ≤ _; omega, h3, by show g.2.2 ≤ _; omega⟩
end MW

end
section
set_option Elab.async false
set_option linter.all false
set_option maxRecDepth 100000
set_option maxHeartbeats 4000000
namespace MW
def wordL : List S := [s_a, s_bay, s_elm, s_fort, s_go, s_hill, s_inn]
structure BxOk (b : Bx) : Prop where
  w1 : 0 ≤ b.w
  w2 : b.w ≤ 6
  e1 : b.w < b.e
  e2 : b.e ≤ 9
  s1 : 0 ≤ b.s
  s2 : b.s ≤ 4
  n1 : b.s < b.n
  n2 : b.n ≤ 7
theorem sq_card (b : Bx) : (sqL b).length = (b.e - b.w).toNat * (b.n - b.s).toNat := by
  unfold sqL
  generalize (b.e - b.w).toNat = k
  induction k with
  | zero => simp
  | succ k ih => rw [List.range_succ, List.flatMap_append, List.length_append, ih]; simp [Nat.succ_mul]
theorem fine_of {nb : NB} (nd : (nb.map (·.1)).Nodup) (len : nb.length ≤ 100) (h : ∀ p ∈ nb, BxOk p.2 ∧ p.1 ≠ [] ∧ p.1.length ≤ 5) : Fine nb := by
  refine ⟨⟨nd, fun p hp => ⟨(h p hp).2.1, by have := (h p hp).2.2; omega⟩, fun p hp => ?_, by omega⟩, fun p hp => ?_, fun p hp => ?_⟩
  · obtain ⟨⟨w1, w2, e1, e2, s1, s2, n1, n2⟩, _⟩ := h p hp
    omega
  · obtain ⟨⟨w1, w2, e1, e2, s1, s2, n1, n2⟩, _⟩ := h p hp
    constructor <;> omega
  · obtain ⟨⟨w1, w2, e1, e2, s1, s2, n1, n2⟩, _⟩ := h p hp
    rw [sq_card]
    have a1 : (p.2.e - p.2.w).toNat ≤ 100 := by omega
    have a2 : (p.2.n - p.2.s).toNat ≤ 100 := by omega
    exact Nat.le_trans (Nat.mul_le_mul a1 a2) (by decide)
abbrev Q78C (scr : List Int) (k : Nat) : Ctx := ⟨run (P78 scr) k, dfl_k78, consts_k78⟩
theorem ev_draw {scr : List Int} {k n : Nat} {g : G} {lim : Int} {ρ : Env} {i : Nat} (hs : okScr scr = true) (h : GB n g) (hn : n ≤ 100000) (l1 : 0 < lim) (l2 : lim < 1073741824) (hp : ρ[i]? = some (.val .pool)) :
    ∃ v g', evalE (Q78C scr (k + 3)) (.call "_law_draw" (.acons (.v i) (.acons (.k (.int lim)) .anil)) 0) ρ g = .ok (.int v) g' ∧ (0 ≤ v ∧ v < lim) ∧ GB (n + 1) g' := by
  obtain ⟨v, g', h1, h2, h3⟩ := run_draw (k := k) hs h hn l1 l2
  exact ⟨v, g', ev_call (ev_acons (ev_v hp) (ev_acons ev_k ev_anil)) h1, h2, h3⟩
theorem encN_put {nb : NB} {n : S} {b : Bx} (h : n ∉ nb.map (·.1)) : D.dct false (dput (.str n) (encB b) (nb.map fun p => .str p.1) (nb.map fun p => encB p.2)).1 (dput (.str n) (encB b) (nb.map fun p => .str p.1) (nb.map fun p => encB p.2)).2 = encN (nb ++ [(n, b)]) := by
  have := dput_fresh (n := n) (v := encB b) (ys := nb.map (·.1)) (vs := nb.map fun p => encB p.2) h
  rw [List.map_map] at this
  rw [show (nb.map fun p => D.str p.1) = nb.map (D.str ∘ fun x => x.1) from rfl, this]
  simp [encN, Function.comp]
def wordsD : D := .lst (wordL.map .str)
def bodyBx : C := match c_law_boxes with
  | .seq _ (.seq _ (.seq (.for_ _ _ b) _)) => b
  | _ => .nil
theorem boxes_turn {scr : List Int} {k n j : Nat} {g : G} {nb : NB} {many : Int} (hs : okScr scr = true) (h : GB n g) (hn : n ≤ 50000) (hj : j < 7) (hl : nb.length = j) {w : S} (hw : wordL[j]? = some w) (fr : w ∉ nb.map (·.1)) :
    ∃ b g', evalC (Q78C scr (k + 3)) bodyBx [.val .pool, .val (.int many), .own (encN nb), .val wordsD, .val (.int j), .no, .no] g = .ok (.nx [.val .pool, .val (.int many), .own (encN (nb ++ [(w, b)])), .val wordsD, .no, .no, .no]) g' ∧ GB (n + 5) g' ∧ BxOk b := by
  obtain ⟨g1, r1, h1⟩ := run_next (k := k) hs h (by omega)
  obtain ⟨x, g2, r2, b2, h2⟩ := ev_draw (k := k) (lim := 7) (ρ := [.val .pool, .val (.int many), .own (encN nb), .val wordsD, .val (.int j), .no, .no]) (i := 0) hs h1 (by omega) (by decide) (by decide) rfl
  obtain ⟨y, g3, r3, b3, h3⟩ := ev_draw (k := k) (lim := 5) (ρ := [.val .pool, .val (.int many), .own (encN nb), .val wordsD, .val (.int j), .val (.int x), .no]) (i := 0) hs h2 (by omega) (by decide) (by decide) rfl
  obtain ⟨u, g4, r4, b4, h4⟩ := ev_draw (k := k) (lim := 2) (ρ := [.val .pool, .val (.int many), .own (encN nb), .val wordsD, .val (.int j), .val (.int x), .val (.int y)]) (i := 0) hs h3 (by omega) (by decide) (by decide) rfl
  obtain ⟨v, g5, r5, b5, h5⟩ := ev_draw (k := k) (lim := 2) (ρ := [.val .pool, .val (.int many), .own (encN nb), .val wordsD, .val (.int j), .val (.int x), .val (.int y)]) (i := 0) hs h4 (by omega) (by decide) (by decide) rfl
  refine ⟨⟨x, x + 1 + u, y, y + 1 + v⟩, g5, ?_, h5, ⟨by show 0 ≤ x; omega, by show x ≤ 6; omega, by show x < x + 1 + u; omega, by show x + 1 + u ≤ 9; omega, by show 0 ≤ y; omega, by show y ≤ 4; omega, by show y < y + 1 + v; omega, by show y + 1 + v ≤ 7; omega⟩⟩
  unfold bodyBx c_law_boxes
  refine (seq_nx (st_ex (ev_call (ev_acons (ev_v rfl) ev_anil) r1))).trans ?_
  refine (seq_nx (st_asg r2 rfl)).trans ?_
  refine (seq_nx (st_asg r3 rfl)).trans ?_
  have hv : evalE (Q78C scr (k + 3)) (.tup (.acons (.v 5) (.acons (.bin .add (.bin .add (.v 5) (.k (.int 1))) (.call "_law_draw" (.acons (.v 0) (.acons (.k (.int 2)) .anil)) 0)) (.acons (.v 6) (.acons (.bin .add (.bin .add (.v 6) (.k (.int 1))) (.call "_law_draw" (.acons (.v 0) (.acons (.k (.int 2)) .anil)) 0)) .anil)))))
      [.val .pool, .val (.int many), .own (encN nb), .val wordsD, .val (.int j), .val (.int x), .val (.int y)] g3 = .ok (encB ⟨x, x + 1 + u, y, y + 1 + v⟩) g5 :=
    ev_tup (ev_acons (ev_v rfl) (ev_acons (ev_bin (ev_bin (ev_v rfl) ev_k rfl) r4 rfl) (ev_acons (ev_v rfl) (ev_acons (ev_bin (ev_bin (ev_v rfl) ev_k rfl) r5 rfl) ev_anil)))) rfl
  have hk : evalE (Q78C scr (k + 3)) (.idx (.v 3) (.v 4)) [.val .pool, .val (.int many), .own (encN nb), .val wordsD, .val (.int j), .val (.int x), .val (.int y)] g5 = .ok (.str w) g5 := by
    refine ev_idx (ev_v rfl) (ev_v rfl) ?_
    unfold wordsD
    simp only [idxD, seqIx, List.length_map]
    rw [if_pos (by omega), if_pos (by show (j : Int) < ((7 : Nat) : Int); omega)]
    simp [hw]
  refine (seq_nx (st_put hv hk rfl rfl (by rw [List.length_map]; omega))).trans ?_
  rw [encN_put fr]
  rfl
end MW

end
section
set_option Elab.async false
set_option linter.all false
set_option maxRecDepth 100000
set_option maxHeartbeats 4000000
namespace MW
theorem wordL_inj : ∀ i < 7, ∀ j < 7, wordL[i]? = wordL[j]? → i = j := by decide
structure BxI (nb : NB) (j : Nat) : Prop where
  nm : nb.map (·.1) = wordL.take j
  ok : ∀ p ∈ nb, BxOk p.2
theorem wordL_nd : wordL.Nodup := by decide
theorem wordL_ok : ∀ w ∈ wordL, w ≠ [] ∧ w.length ≤ 5 ∧ w ≠ s_lake := by decide
theorem BxI.fine {nb : NB} {j : Nat} (h : BxI nb j) (hj : j ≤ 7) : Fine nb := by
  have hl : nb.length = (wordL.take j).length := by rw [← h.nm]; simp
  refine fine_of ?_ ?_ fun p hp => ?_
  · rw [h.nm]; exact wordL_nd.sublist (List.take_sublist _ _)
  · rw [hl, List.length_take]; omega
  · have : p.1 ∈ wordL.take j := by rw [← h.nm]; exact List.mem_map_of_mem hp
    have := wordL_ok p.1 (List.mem_of_mem_take this)
    exact ⟨h.ok p hp, this.1, this.2.1⟩
theorem BxI.fineL {nb : NB} {j : Nat} (h : BxI nb j) (hj : j ≤ 7) : Fine (nb ++ [(s_lake, ⟨0, 9, 0, 7⟩)]) := by
  have hl : nb.length = (wordL.take j).length := by rw [← h.nm]; simp
  have F := h.fine hj
  refine fine_of ?_ ?_ fun p hp => ?_
  · rw [List.map_append, List.nodup_append]
    refine ⟨F.nd, by simp, fun a ha b hb => ?_⟩
    rw [h.nm] at ha
    have := wordL_ok a (List.mem_of_mem_take ha)
    simp at hb
    subst hb
    exact this.2.2
  · rw [List.length_append, hl, List.length_take]; simp; omega
  · rcases List.mem_append.mp hp with hp | hp
    · have : p.1 ∈ wordL.take j := by rw [← h.nm]; exact List.mem_map_of_mem hp
      have := wordL_ok p.1 (List.mem_of_mem_take this)
      exact ⟨h.ok p hp, this.1, this.2.1⟩
    · simp at hp
      subst hp
      exact ⟨⟨by decide, by decide, by decide, by decide, by decide, by decide, by decide, by decide⟩, by decide, by decide⟩
theorem boxes_loop {scr : List Int} {k n : Nat} {g : G} {many : Int} (hs : okScr scr = true) (h : GB n g) (hn : n ≤ 40000) (hm : 0 ≤ many ∧ many ≤ 7) :
    ∃ ρ' g', forL (.nm 4) (fun ρ g => evalC (Q78C scr (k + 3)) bodyBx ρ g) (rngL 0 many.toNat) [.val .pool, .val (.int many), .own (encN []), .val wordsD, .no, .no, .no] g = .ok (.nx ρ') g' ∧
      ∃ nb, ρ' = [.val .pool, .val (.int many), .own (encN nb), .val wordsD, .no, .no, .no] ∧ BxI nb many.toNat ∧ GB (n + 5 * many.toNat) g' := by
  have hlen : (rngL 0 many.toNat).length = many.toNat := by simp [rngL]
  obtain ⟨ρ', g', h1, h2⟩ := for_inv (t := .nm 4) (body := fun ρ g => evalC (Q78C scr (k + 3)) bodyBx ρ g) (ds := rngL 0 many.toNat)
    (I := fun j ρ g => ∃ nb, ρ = [.val .pool, .val (.int many), .own (encN nb), .val wordsD, .no, .no, .no] ∧ BxI nb j ∧ GB (n + 5 * j) g) 0 (ρ := [.val .pool, .val (.int many), .own (encN []), .val wordsD, .no, .no, .no]) (g := g) ⟨[], rfl, ⟨rfl, fun _ h => by cases h⟩, h⟩
    (fun j d ρ g hd hI => by
      obtain ⟨nb, rfl, hb, hg⟩ := hI
      rw [Nat.zero_add] at hb hg ⊢
      obtain ⟨hj, rfl⟩ := rng_get hd
      have hl : nb.length = j := by
        have := congrArg List.length hb.nm
        rw [List.length_map, List.length_take, show wordL.length = 7 from rfl] at this
        omega
      have hw : wordL[j]? = some (wordL[j]'(by show j < 7; omega)) := List.getElem?_eq_getElem _
      have fr : (wordL[j]'(by show j < 7; omega)) ∉ nb.map (·.1) := by
        rw [hb.nm]
        intro hm'
        rw [List.mem_take_iff_getElem] at hm'
        obtain ⟨i, hi, e⟩ := hm'
        have := wordL_inj i (by omega) j (by omega) (by rw [List.getElem?_eq_getElem (by omega), List.getElem?_eq_getElem (by show j < 7; omega), e])
        omega
      obtain ⟨b, g', t1, t2, t3⟩ := boxes_turn (k := k) (many := many) hs hg (by omega) (by omega) hl hw fr
      rw [Int.zero_add]
      refine ⟨_, rfl, _, g', .inl t1, nb ++ [(_, b)], rfl, ⟨?_, fun p hp => ?_⟩, by rw [show n + 5 * (j + 1) = n + 5 * j + 5 by omega]; exact t2⟩
      · rw [take_succ_at hw, List.map_append, hb.nm]; rfl
      · rcases List.mem_append.mp hp with hp | hp
        · exact hb.ok p hp
        · simp at hp; subst hp; exact t3)
  rw [hlen, Nat.zero_add] at h2
  exact ⟨ρ', g', h1, h2⟩
/-- the boxes of a run -/
def BxR (nb : NB) (j : Nat) : Prop := ∃ nb0, BxI nb0 j ∧ (nb = nb0 ∨ nb = nb0 ++ [(s_lake, ⟨0, 9, 0, 7⟩)])
theorem run_boxes {scr : List Int} {k n : Nat} {g : G} {many : Int} (hs : okScr scr = true) (h : GB n g) (hn : n ≤ 40000) (hm : 0 ≤ many ∧ many ≤ 7) :
    ∃ nb g', run (P78 scr) (k + 4) "_law_boxes" [.pool, .int many] g = .ok (encN nb) g' ∧ Fine nb ∧ GB (n + 100) g' ∧ BxR nb many.toNat := by
  rw [run_def (by rfl) (fd := fd_law_boxes) (by rfl) rfl]
  unfold fd_law_boxes c_law_boxes
  obtain ⟨ρ', g', h1, nb, rfl, hb, hg⟩ := boxes_loop (k := k) hs h hn hm
  obtain ⟨v, g2, r2, b2, h2⟩ := ev_draw (k := k) (lim := 3) (ρ := [.val .pool, .val (.int many), .own (encN nb), .val wordsD, .no, .no, .no]) (i := 0) hs hg (by omega) (by decide) (by decide) rfl
  have wk : ∀ {m : Nat} {g : G}, GB m g → m ≤ n + 100 → GB (n + 100) g := fun h hm => ⟨h.a0, by have := h.a1; omega, h.b0, by have := h.b1; omega⟩
  have fr : s_lake ∉ nb.map (·.1) := by
    rw [hb.nm]
    intro hm'
    exact (wordL_ok _ (List.mem_of_mem_take hm')).2.2 rfl
  have tst := ev_eqI r2 (b := .k (.int 0)) ev_k
  have start : ∀ r : C, fin (evalC (Q78C scr (k + 3)) (.seq (.own 2 .dK) (.seq (.asg (.nm 3) (.lst (.acons (.k (.str s_a)) (.acons (.k (.str s_bay)) (.acons (.k (.str s_elm)) (.acons (.k (.str s_fort)) (.acons (.k (.str s_go)) (.acons (.k (.str s_hill)) (.acons (.k (.str s_inn)) .anil)))))))))
      (.seq (.for_ (.nm 4) (.rng1 (.v 1)) bodyBx) (.seq (.drop [4, 5, 6]) r)))) (startE 7 [.pool, .int many]) g) = fin (evalC (Q78C scr (k + 3)) r [.val .pool, .val (.int many), .own (encN nb), .val wordsD, .no, .no, .no] g') := fun r => by
    refine congrArg fin ?_
    refine (seq_nx (st_ownD (by simp only [evalE]; rfl) (show 2 < 7 by decide))).trans ?_
    refine (seq_nx (st_asg (ev_lst (ev_acons ev_k (ev_acons ev_k (ev_acons ev_k (ev_acons ev_k (ev_acons ev_k (ev_acons ev_k (ev_acons ev_k ev_anil))))))) rfl) rfl)).trans ?_
    refine (seq_nx ((st_for (ev_rng1 (ev_v rfl) (by omega) (by omega)) rfl).trans h1)).trans ?_
    exact seq_nx st_drop
  by_cases hv : v = 0
  · refine ⟨nb ++ [(s_lake, ⟨0, 9, 0, 7⟩)], g2, ?_, hb.fineL (by omega), wk h2 (by omega), ⟨nb, hb, .inr rfl⟩⟩
    refine (start _).trans ?_
    have hput : evalC (Q78C scr (k + 3)) (.put 2 (.k (.str s_lake)) (.tup (.acons (.k (.int 0)) (.acons (.k (.int 9)) (.acons (.k (.int 0)) (.acons (.k (.int 7)) .anil)))))) [.val .pool, .val (.int many), .own (encN nb), .val wordsD, .no, .no, .no] g2
        = .ok (.nx [.val .pool, .val (.int many), .own (encN (nb ++ [(s_lake, ⟨0, 9, 0, 7⟩)])), .val wordsD, .no, .no, .no]) g2 := by
      refine (st_put (d := encB ⟨0, 9, 0, 7⟩) (ev_tup (ev_acons ev_k (ev_acons ev_k (ev_acons ev_k (ev_acons ev_k ev_anil)))) rfl) ev_k rfl rfl (by
        have := (hb.fine (by omega)).len
        rw [List.length_map]; omega)).trans ?_
      rw [encN_put fr]
      rfl
    refine (congrArg fin (seq_ify tst (by simp [hv, truth]) ((seq_nx hput).trans st_nil))).trans ?_
    rw [seq_nx st_frz, seq_rt (st_ret (ev_v rfl))]
    rfl
  · refine ⟨nb, g2, ?_, hb.fine (by omega), wk h2 (by omega), ⟨nb, hb, .inl rfl⟩⟩
    refine (start _).trans ?_
    refine (congrArg fin (seq_ifn tst (by simp [hv, truth]) st_nil)).trans ?_
    rw [seq_nx st_frz, seq_rt (st_ret (ev_v rfl))]
    rfl
end MW

end
section
set_option Elab.async false
set_option linter.all false
set_option maxRecDepth 100000
set_option maxHeartbeats 4000000
namespace MW
theorem EqEnc.box : EqEnc encB 1 := ⟨fun _ => rfl, fun _ => Nat.le_refl _, fun a b => by
  cases a; cases b
  rw [Bool.eq_iff_iff]
  simp [encB, eqD, eqL]⟩
theorem EqEnc.rowE : EqEnc encP 2 := EqEnc.pair EqEnc.str EqEnc.box
/-! ### labels that stand together -/
def togB (a b : Bx) : Bool := !overlapB a b && !(decide (a.s = b.s ∧ a.n = b.n) && (decide (a.e = b.w) || decide (b.e = a.w)))
theorem slc2 (b : Bx) : slcD (encB b) (some 2) none = some (.tup [.int b.s, .int b.n]) := rfl
theorem cmp_tail (a b : Bx) : cmpD .eq (.tup [.int a.s, .int a.n]) (.tup [.int b.s, .int b.n]) = some (decide (a.s = b.s ∧ a.n = b.n)) := by
  have := (EqEnc.pair EqEnc.int EqEnc.int).cmp (by decide) (a.s, a.n) (b.s, b.n)
  rw [this]
  congr 1
  rw [Bool.eq_iff_iff]; simp
theorem run_together (scr : List Int) (k : Nat) (a b : Bx) (g : G) : run (P78 scr) (k + 2) "together" [encB a, encB b] g = .ok (.bl (togB a b)) g := by
  rw [run_def (by rfl) (fd := fd_together) (by rfl) rfl]
  unfold fd_together c_together
  rw [seq_rt (st_ret (ev_and (ev_not (ev_call (ev_acons (ev_v rfl) (ev_acons (ev_v rfl) ev_anil)) (run_overlap scr k a b g)) rfl)
    (ev_not (ev_and (ev_cmp (ev_slc (ev_v rfl) ev_k ev_nth rfl rfl (slc2 a)) (ev_slc (ev_v rfl) ev_k ev_nth rfl rfl (slc2 b)) (cmp_tail a b))
      (ev_or (ev_eqI (ev_idx (ev_v rfl) ev_k rfl) (ev_idx (ev_v rfl) ev_k rfl)) (ev_eqI (ev_idx (ev_v rfl) ev_k rfl) (ev_idx (ev_v rfl) ev_k rfl)))) rfl)))]
  rfl
/-- a label's box: of height one -/
structure Lb (b : Bx) : Prop where
  sm : Sm b
  w : b.w < b.e
  h : b.n = b.s + 1
theorem Lb.sq {b : Bx} (h : Lb b) : (sqL b).length ≤ 1000000 := by
  rw [sq_card, h.h]
  have := h.sm.w1; have := h.sm.e2
  have e : (b.s + 1 - b.s).toNat = 1 := by omega
  rw [e]
  omega
def ltogB (a b : Bx) : Bool := decide (¬ ∃ q ∈ sqL a, q ∈ sqL b) && (!decide (a.s = b.s) || (!decide (a.e = b.w) && !decide (b.e = a.w)))
theorem tog_eq {a b : Bx} (ha : Lb a) (hb : Lb b) : ltogB a b = togB a b := by
  have h1 : (∃ q ∈ sqL a, q ∈ sqL b) ↔ overlapB a b = true := by
    simp only [overlapB, Bool.and_eq_true, decide_eq_true_eq]
    have := ha.h; have := hb.h; have := ha.w; have := hb.w
    constructor
    · rintro ⟨⟨x, y⟩, p, q⟩
      rw [sq_mem] at p q
      omega
    · intro h
      refine ⟨(max a.w b.w, a.s), sq_mem.mpr ?_, sq_mem.mpr ?_⟩ <;> omega
  have e1 : decide (¬ ∃ q ∈ sqL a, q ∈ sqL b) = !overlapB a b := by
    cases ho : overlapB a b with
    | true => exact decide_eq_false fun h => h (h1.mpr ho)
    | false => exact decide_eq_true fun h => by rw [h1.mp h] at ho; cases ho
  have e2 : decide (a.s = b.s ∧ a.n = b.n) = decide (a.s = b.s) := by
    have := ha.h; have := hb.h
    rw [Bool.eq_iff_iff, decide_eq_true_eq, decide_eq_true_eq]
    omega
  unfold ltogB togB
  rw [e1, e2]
  cases overlapB a b <;> cases decide (a.s = b.s) <;> cases decide (a.e = b.w) <;> cases decide (b.e = a.w) <;> rfl
theorem run_ltogether (scr : List Int) (k : Nat) (a b : Bx) (g : G) (ha : Lb a) (hb : Lb b) : run (P78 scr) (k + 2) "_law_together" [encB a, encB b] g = .ok (.bl (togB a b)) g := by
  rw [run_def (by rfl) (fd := fd_law_together) (by rfl) rfl, ← tog_eq ha hb]
  unfold fd_law_together c_law_together
  have la := ha.sq
  have h := ev_lcM (P := ⟨run (P78 scr) (k + 1), dfl_k78, consts_k78⟩) (enc := encQ) (xs := sqL a) (p := fun q => decide (q ∈ sqL b)) (f := encQ) (g := g) (g1 := g) (x := .lst ((sqL a).map encQ)) (it := .call "_law_squares" (.acons (.v 0) .anil) 0)
    (ρ := [.val (encB a), .val (encB b), .no]) (elt := .v 2) (tg := .nm 2) (test := .cmp .inn (.v 2) (.call "_law_squares" (.acons (.v 1) .anil) 0)) (own := [2])
    (ev_call (ev_acons (ev_v rfl) ev_anil) (run_squares scr k _ g ha.sm)) rfl (by omega)
    fun q hq => ⟨_, rfl, ev_cmp (ev_v rfl) (ev_call (ev_acons (ev_v rfl) ev_anil) (run_squares scr k _ g hb.sm)) (inQ q _), fun _ => ev_v rfl⟩
  have hl : b1D .len (.lst (((sqL a).filter fun q => decide (q ∈ sqL b)).map encQ)) = some (.int ((sqL a).filter fun q => decide (q ∈ sqL b)).length) := by
    simp only [b1D, List.length_map]
  have ht := ev_cmp (P := ⟨run (P78 scr) (k + 1), dfl_k78, consts_k78⟩) (ev_b1 h hl) (ev_k (d := .int 0)) (cmp_gt _ _)
  have hex : decide ((0 : Int) < ((sqL a).filter fun q => decide (q ∈ sqL b)).length) = decide (∃ q ∈ sqL a, q ∈ sqL b) := by
    rw [Bool.eq_iff_iff, decide_eq_true_eq, decide_eq_true_eq]
    constructor
    · intro hp
      have : ((sqL a).filter fun q => decide (q ∈ sqL b)) ≠ [] := fun e => by rw [e] at hp; simp at hp
      obtain ⟨q, hq⟩ := List.exists_mem_of_ne_nil _ this
      rw [List.mem_filter] at hq
      exact ⟨q, hq.1, of_decide_eq_true hq.2⟩
    · rintro ⟨q, h5, h6⟩
      have := List.length_pos_of_mem (List.mem_filter (p := fun q => decide (q ∈ sqL b)) |>.mpr ⟨h5, decide_eq_true h6⟩)
      omega
  rw [hex] at ht
  by_cases hx : ∃ q ∈ sqL a, q ∈ sqL b
  · rw [decide_eq_true hx] at ht
    refine (congrArg fin (seq_ift ht rfl (seq_rt (st_ret ev_k)))).trans ?_
    unfold ltogB
    rw [decide_eq_false (fun h => h hx)]
    rfl
  · rw [decide_eq_false hx] at ht
    refine (congrArg fin (seq_ifn ht rfl st_nil)).trans ?_
    rw [seq_rt (st_ret (ev_or (ev_cmp (ev_idx (ev_v rfl) ev_k rfl) (ev_idx (ev_v rfl) ev_k rfl) (cmp_ne _ _)) (ev_and (ev_cmp (ev_idx (ev_v rfl) ev_k rfl) (ev_idx (ev_v rfl) ev_k rfl) (cmp_ne _ _)) (ev_cmp (ev_idx (ev_v rfl) ev_k rfl) (ev_idx (ev_v rfl) ev_k rfl) (cmp_ne _ _)))))]
    unfold ltogB
    rw [decide_eq_true hx]
    rfl
end MW

end
section
set_option Elab.async false
set_option linter.all false
set_option maxRecDepth 100000
set_option maxHeartbeats 4000000
namespace MW
/-! ### places over scales -/
abbrev PRow := S × List (Int × Bx)
def encI (r : Int × Bx) : D := .tup [.int r.1, encB r.2]
def encR (p : PRow) : D := .tup [.str p.1, .ctup true (p.2.map encI)]
structure PRok (p : PRow) : Prop where
  nd : (p.2.map (·.1)).Nodup
  lb : ∀ r ∈ p.2, Lb r.2
  len : p.2.length ≤ 1000
def encOI : Option Int → D
  | none => .non
  | some s => .int s
def clashAt (q : PRow) (r : Int × Bx) : Option Int := match lkp q.2 r.1 with
  | some b => if togB r.2 b = true then none else some r.1
  | none => none
def clash (p q : PRow) : Option Int := p.2.findSome? (clashAt q)
theorem pairI (r : Int × Bx) : pairD (encI r) = some (.int r.1, encB r.2) := rfl
theorem dictR {q : PRow} (h : PRok q) : b1D .dict (.ctup true (q.2.map encI)) = some (encDK D.int encB q.2) := KeyEnc.int.dictT pairI h.nd
theorem idxR1 (p : PRow) : idxD (encR p) (.int 1) = some (.ctup true (p.2.map encI)) := rfl
abbrev Q78P (scr : List Int) (k : Nat) : Ctx := ⟨run (P78 scr) k, dfl_k78, consts_k78⟩
theorem run_clash (scr : List Int) (k : Nat) (p q : PRow) (g : G) (hq : PRok q) : run (P78 scr) (k + 3) "clash_at" [encR p, encR q] g = .ok (encOI (clash p q)) g := by
  rw [run_def (by rfl) (fd := fd_clash_at) (by rfl) rfl]
  unfold fd_clash_at c_clash_at
  refine (congrArg fin (seq_nx (st_asg (ev_b1 (ev_idx (ev_v rfl) ev_k (idxR1 q)) (dictR hq)) rfl))).trans ?_
  have hf := for_first (ρ := [.val (encR p), .val (encR q), .val (encDK D.int encB q.2), .no, .no]) (g := g) (enc := encI) (xs := p.2) (f := fun r => (clashAt q r).map D.int) (tg := .tup (.tcons (.nm 3) (.tcons (.nm 4) .tnil)))
    (body := fun ρ g => evalC (Q78P scr (k + 2)) (.seq (.if_ (.and (.cmp .inn (.v 3) (.v 2)) (.not (.call "together" (.acons (.v 4) (.acons (.idx (.v 2) (.v 3)) .anil)) 0)))
      (.seq (.ret (.v 3)) .nil) .nil) (.seq (.drop [3, 4]) .nil)) ρ g) fun r hr => by
      refine ⟨_, rfl, ?_⟩
      have hin := KeyEnc.int.inn (ev := encB) r.1 q.2
      cases hb : lkp q.2 r.1 with
      | none =>
        have e : clashAt q r = none := by simp only [clashAt, hb]
        rw [e]
        rw [hb] at hin
        exact (seq_ifn (ev_andS (v := false) (w := false) (ev_inn (ev_v rfl) (ev_v rfl) hin) (fun h => by cases h)) rfl st_nil).trans ((seq_nx st_drop).trans st_nil)
      | some b =>
        rw [hb] at hin
        have t := ev_andS (P := Q78P scr (k + 2)) (ρ := [.val (encR p), .val (encR q), .val (encDK D.int encB q.2), .val (.int r.1), .val (encB r.2)]) (ev_inn (ev_v (i := 3) rfl) (ev_v (i := 2) rfl) hin) (fun _ => ev_not (ev_call0 (f := "together") (ev_acons (ev_v (i := 4) rfl) (ev_acons (ev_idx (ev_v (i := 2) rfl) (ev_v (i := 3) rfl) (KeyEnc.int.idx hb)) ev_anil)) rfl (run_together scr k r.2 b g)) rfl)
        cases ht : togB r.2 b with
        | true =>
          have e : clashAt q r = none := by simp only [clashAt, hb, ht, if_true]
          rw [e]
          rw [ht] at t
          exact (seq_ifn t rfl st_nil).trans ((seq_nx st_drop).trans st_nil)
        | false =>
          have e : clashAt q r = some r.1 := by simp [clashAt, hb, ht]
          rw [e]
          rw [ht] at t
          exact seq_ift t rfl (seq_rt (st_ret (ev_v rfl)))
  refine (congrArg fin (seq_first ((st_for (ev_idx (ev_v rfl) ev_k (idxR1 p)) rfl).trans hf))).trans ?_
  have : p.2.findSome? (fun r => (clashAt q r).map D.int) = (clash p q).map D.int := by
    unfold clash
    rw [List.map_findSome?]
    rfl
  rw [this]
  cases clash p q with
  | none =>
    show fin (evalC _ _ _ _) = _
    rw [seq_nx st_drop, seq_rt (st_ret ev_k)]
    rfl
  | some i => rfl
end MW

end
section
set_option Elab.async false
set_option linter.all false
set_option maxRecDepth 100000
set_option maxHeartbeats 4000000
namespace MW
def lclashAt (q : PRow) (r : Int × Bx) : Option Int := if (q.2.filter fun t => decide (t.1 = r.1) && !togB r.2 t.2) ≠ [] then some r.1 else none
theorem lclash_eq {q : PRow} (h : PRok q) (r : Int × Bx) : lclashAt q r = clashAt q r := by
  unfold lclashAt clashAt
  cases e : lkp q.2 r.1 with
  | none =>
    rw [if_neg]
    simp only [ne_eq, Decidable.not_not, List.filter_eq_nil_iff]
    intro t ht hc
    simp only [Bool.and_eq_true, decide_eq_true_eq] at hc
    have := lkp_nd h.nd ht
    rw [hc.1, e] at this
    cases this
  | some b =>
    have hm := lkp_mem e
    cases ht : togB r.2 b with
    | true =>
      rw [if_neg]
      · simp [ht]
      · simp only [ne_eq, Decidable.not_not, List.filter_eq_nil_iff]
        intro t ht' hc
        simp only [Bool.and_eq_true, decide_eq_true_eq, Bool.not_eq_true'] at hc
        have := lkp_nd h.nd ht'
        rw [hc.1, e] at this
        cases this
        rw [ht] at hc; cases hc.2
    | false =>
      rw [if_pos]
      · simp [ht]
      · intro hn
        rw [List.filter_eq_nil_iff] at hn
        exact hn _ hm (by simp [ht])
theorem run_lclash (scr : List Int) (k : Nat) (p q : PRow) (g : G) (hp : PRok p) (hq : PRok q) : run (P78 scr) (k + 3) "_law_clash" [encR p, encR q] g = .ok (encOI (clash p q)) g := by
  rw [run_def (by rfl) (fd := fd_law_clash) (by rfl) rfl]
  unfold fd_law_clash c_law_clash
  have hf := for_first (ρ := [.val (encR p), .val (encR q), .no, .no, .no, .no]) (g := g) (enc := encI) (xs := p.2) (f := fun r => (lclashAt q r).map D.int) (tg := .tup (.tcons (.nm 2) (.tcons (.nm 3) .tnil)))
    (body := fun ρ g => evalC (Q78P scr (k + 2)) (.seq (.if_ (.cmp .gt (.b1 .len (.lc (.v 5) (.tup (.tcons (.nm 4) (.tcons (.nm 5) .tnil))) (.idx (.v 1) (.k (.int 1))) (.and (.cmp .eq (.v 4) (.v 2)) (.not (.call "_law_together" (.acons (.v 3) (.acons (.v 5) .anil)) 0))) [4, 5])) (.k (.int 0)))
      (.seq (.ret (.v 2)) .nil) .nil) (.seq (.drop [2, 3]) .nil)) ρ g) fun r hr => by
      refine ⟨_, rfl, ?_⟩
      have hl := ev_lcM (P := Q78P scr (k + 2)) (enc := encI) (xs := q.2) (p := fun t => decide (t.1 = r.1) && !togB r.2 t.2) (f := fun t => encB t.2) (g := g) (g1 := g) (x := .ctup true (q.2.map encI)) (it := .idx (.v 1) (.k (.int 1)))
        (ρ := [.val (encR p), .val (encR q), .val (.int r.1), .val (encB r.2), .no, .no]) (elt := .v 5) (tg := .tup (.tcons (.nm 4) (.tcons (.nm 5) .tnil))) (own := [4, 5]) (test := .and (.cmp .eq (.v 4) (.v 2)) (.not (.call "_law_together" (.acons (.v 3) (.acons (.v 5) .anil)) 0)))
        (ev_idx (ev_v rfl) ev_k (idxR1 q)) rfl (by have := hq.len; omega) fun t ht =>
          ⟨_, rfl, ev_and (ev_eqI (ev_v rfl) (ev_v rfl)) (ev_not (ev_call0 (ev_acons (ev_v rfl) (ev_acons (ev_v rfl) ev_anil)) rfl (run_ltogether scr k r.2 t.2 g (hp.lb r hr) (hq.lb t ht))) rfl), fun _ => ev_v rfl⟩
      have hlen : b1D .len (.lst ((q.2.filter fun t => decide (t.1 = r.1) && !togB r.2 t.2).map fun t => encB t.2)) = some (.int (q.2.filter fun t => decide (t.1 = r.1) && !togB r.2 t.2).length) := by
        simp only [b1D, List.length_map]
      have t := ev_cmp (P := Q78P scr (k + 2)) (ev_b1 hl hlen) (ev_k (d := .int 0)) (cmp_gt _ _)
      by_cases hc : (q.2.filter fun t => decide (t.1 = r.1) && !togB r.2 t.2) ≠ []
      · have e : lclashAt q r = some r.1 := if_pos hc
        rw [e]
        rw [decide_eq_true (by have := List.length_pos_iff.mpr hc; omega)] at t
        exact seq_ift t rfl (seq_rt (st_ret (ev_v rfl)))
      · have e : lclashAt q r = none := if_neg hc
        rw [e]
        rw [decide_eq_false (by simp only [ne_eq, Decidable.not_not] at hc; rw [hc]; simp)] at t
        exact (seq_ifn t rfl st_nil).trans ((seq_nx st_drop).trans st_nil)
  refine (congrArg fin (seq_first ((st_for (ev_idx (ev_v rfl) ev_k (idxR1 p)) rfl).trans hf))).trans ?_
  have : p.2.findSome? (fun r => (lclashAt q r).map D.int) = (clash p q).map D.int := by
    unfold clash
    rw [List.map_findSome?, show (lclashAt q) = clashAt q from funext (lclash_eq hq)]
    rfl
  simp only [lclash_eq hq] at this ⊢
  rw [this]
  cases clash p q with
  | none =>
    show fin (evalC _ _ _ _) = _
    rw [seq_nx st_drop, seq_rt (st_ret ev_k)]
    rfl
  | some i => rfl
/-! ### taken rows -/
abbrev PL := List (S × List PRow)
def encRows (rs : List PRow) : D := .lst (rs.map encR)
def encPL (pl : PL) : D := encDK D.str encRows pl
def encT (r : S × Nat) : D := .tup [.str r.1, .int r.2]
def encTk (t : List (S × Nat)) : D := .tup (t.map encT)
theorem EqEnc.taken : EqEnc encT 1 := ⟨fun _ => rfl, fun _ => Nat.le_refl _, fun a b => by
  rw [Bool.eq_iff_iff]
  simp only [encT, eqD, eqL, Bool.and_true, Bool.and_eq_true, beq_iff_eq, decide_eq_true_eq, Int.natCast_inj]
  exact ⟨fun e => Prod.ext e.1 e.2, fun e => by rw [e]; exact ⟨rfl, rfl⟩⟩⟩
def rowsOf (pl : PL) (n : S) : List PRow := (lkp pl n).getD []
def gp (pl : PL) (r : S × Nat) : PRow := (rowsOf pl r.1).getD r.2 ([], [])
structure VPL (pl : PL) : Prop where
  nd : (pl.map (·.1)).Nodup
  ok : ∀ q ∈ pl, ∀ r ∈ q.2, PRok r
  len : pl.length ≤ 1000
  rlen : ∀ q ∈ pl, q.2.length ≤ 4
/-- a row that is one of the places -/
structure Rok (pl : PL) (r : S × Nat) : Prop where
  nm : r.1 ∈ pl.map (·.1)
  lt : r.2 < (rowsOf pl r.1).length
theorem VPL.rows {pl : PL} {n : S} (h : n ∈ pl.map (·.1)) : lkp pl n = some (rowsOf pl n) := by
  obtain ⟨b, e⟩ := lkp_some h
  simp [rowsOf, e]
theorem VPL.mem {pl : PL} {n : S} (h : n ∈ pl.map (·.1)) : (n, rowsOf pl n) ∈ pl := lkp_mem (VPL.rows h)
theorem VPL.rok {pl : PL} (v : VPL pl) {r : S × Nat} (h : Rok pl r) : PRok (gp pl r) ∧ (rowsOf pl r.1)[r.2]? = some (gp pl r) := by
  have e : (rowsOf pl r.1)[r.2]? = some (gp pl r) := by
    simp [gp, List.getD, List.getElem?_eq_getElem h.lt]
  exact ⟨v.ok _ (VPL.mem h.nm) _ (List.mem_of_getElem? e), e⟩
theorem VPL.rowlen {pl : PL} (v : VPL pl) {n : S} (h : n ∈ pl.map (·.1)) : (rowsOf pl n).length ≤ 4 := v.rlen _ (VPL.mem h)
theorem idx_rows {pl : PL} {n : S} (h : n ∈ pl.map (·.1)) : idxD (encPL pl) (.str n) = some (encRows (rowsOf pl n)) := KeyEnc.str.idx (VPL.rows h)
theorem idx_nat {xs : List D} {k : Nat} {d : D} (h : xs[k]? = some d) : idxD (.lst xs) (.int k) = some d := by
  have hk := (List.getElem?_eq_some_iff.mp h).1
  simp only [idxD, seqIx]
  rw [if_pos (by omega), if_pos (by omega)]
  simp [h]
theorem idx_row {pl : PL} (v : VPL pl) {r : S × Nat} (h : Rok pl r) : idxD (encRows (rowsOf pl r.1)) (.int r.2) = some (encR (gp pl r)) := idx_nat (by rw [List.getElem?_map, (v.rok h).2]; rfl)
theorem ev_gp {P : Ctx} {ρ : Env} {g : G} {a b c : E} {pl : PL} (v : VPL pl) {r : S × Nat} (h : Rok pl r) (ha : evalE P a ρ g = .ok (encPL pl) g) (hb : evalE P b ρ g = .ok (.str r.1) g) (hc : evalE P c ρ g = .ok (.int r.2) g) : evalE P (.idx (.idx a b) c) ρ g = .ok (encR (gp pl r)) g :=
  ev_idx (ev_idx ha hb (idx_rows h.nm)) hc (idx_row v h)
def isFree (pl : PL) (taken : List (S × Nat)) (r : S × Nat) : Bool := taken.all fun t => (clash (gp pl r) (gp pl t)).isNone
theorem isNon_OI (o : Option Int) : isNon (encOI o) = o.isNone := by cases o <;> rfl
theorem run_free (scr : List Int) (k : Nat) (pl : PL) (taken : List (S × Nat)) (r : S × Nat) (g : G) (v : VPL pl) (ht : ∀ t ∈ taken, Rok pl t) (hr : Rok pl r) (hz : taken.length ≤ 1000) :
    run (P78 scr) (k + 4) "is_free" [encPL pl, encTk taken, .str r.1, .int r.2] g = .ok (.bl (isFree pl taken r)) g := by
  rw [run_def (by rfl) (fd := fd_is_free) (by rfl) rfl]
  unfold fd_is_free c_is_free
  have hl := ev_lcM (P := Q78P scr (k + 3)) (enc := encT) (xs := taken) (p := fun _ => true) (f := fun t => D.bl (clash (gp pl r) (gp pl t)).isNone) (g := g) (g1 := g) (x := encTk taken) (it := .v 1)
    (ρ := [.val (encPL pl), .val (encTk taken), .val (.str r.1), .val (.int r.2), .no, .no]) (elt := .cmp .is (.call "clash_at" (.acons (.idx (.idx (.v 0) (.v 2)) (.v 3)) (.acons (.idx (.idx (.v 0) (.v 4)) (.v 5)) .anil)) 0) (.k .non)) (tg := .tup (.tcons (.nm 4) (.tcons (.nm 5) .tnil))) (own := [4, 5]) (test := .k (.bl true))
    (ev_v rfl) rfl (by omega) fun t h => ⟨_, rfl, ev_k, fun _ => by
      have := ev_isN (P := Q78P scr (k + 3)) (ρ := [.val (encPL pl), .val (encTk taken), .val (.str r.1), .val (.int r.2), .val (.str t.1), .val (.int t.2)]) (ev_call0 (f := "clash_at") (ev_acons (ev_gp (a := .v 0) (b := .v 2) (c := .v 3) v hr (ev_v rfl) (ev_v rfl) (ev_v rfl)) (ev_acons (ev_gp (a := .v 0) (b := .v 4) (c := .v 5) v (ht t h) (ev_v rfl) (ev_v rfl) (ev_v rfl)) ev_anil)) rfl (run_clash scr k (gp pl r) (gp pl t) g (v.rok (ht t h)).1)) (ev_k (g := g))
      rw [isNon_OI] at this
      exact this⟩
  rw [filter_yes, show taken.map (fun t => D.bl (clash (gp pl r) (gp pl t)).isNone) = (taken.map fun t => (clash (gp pl r) (gp pl t)).isNone).map D.bl by rw [List.map_map]; rfl] at hl
  refine (congrArg fin (seq_rt (st_ret (ev_b1 hl (any_bl2 _))))).trans ?_
  have : (taken.map fun t => (clash (gp pl r) (gp pl t)).isNone).all id = isFree pl taken r := by
    unfold isFree
    rw [List.all_map]
    rfl
  rw [this]
  rfl
end MW

end
section
set_option Elab.async false
set_option linter.all false
set_option maxRecDepth 100000
set_option maxHeartbeats 4000000
namespace MW
theorem slc_tail (x : D) (xs : List D) : slcD (.tup (x :: xs)) (some 1) none = some (.tup xs) := by
  have : cutL (x :: xs) (some 1) none = xs := by
    unfold cutL sIx
    simp
  simp only [slcD, this]
theorem idx_head (x : D) (xs : List D) : idxD (.tup (x :: xs)) (.int 0) = some x := by
  simp only [idxD, seqIx, List.length_cons]
  rw [if_pos (by omega), if_pos (by omega)]
  rfl
theorem idx_headL (x : D) (xs : List D) : idxD (.lst (x :: xs)) (.int 0) = some x := by
  simp only [idxD, seqIx, List.length_cons]
  rw [if_pos (by omega), if_pos (by omega)]
  rfl
theorem add_tup {xs ys : List D} (h : xs.length + ys.length ≤ 16777216) : binD .add (.tup xs) (.tup ys) = some (.tup (xs ++ ys)) := by
  simp only [binD]
  rw [if_pos (decide_eq_true h)]
theorem rngL0 (n : Nat) : rngL 0 n = (List.range n).map fun (i : Nat) => D.int (i : Int) := by
  unfold rngL
  refine List.map_congr_left fun i _ => ?_
  rw [Int.zero_add]
/-! ### the first way -/
def firstO (pl : PL) : List S → List (S × Nat) → Option (List (S × Nat))
  | [], taken => some taken
  | n :: ns, taken => (List.range (rowsOf pl n).length).findSome? fun k => if isFree pl taken (n, k) = true then firstO pl ns (taken ++ [(n, k)]) else none
def encOT : Option (List (S × Nat)) → D
  | none => .non
  | some t => encTk t
theorem isNon_OT (o : Option (List (S × Nat))) : isNon (encOT o) = o.isNone := by cases o <;> rfl
theorem encTk_app (t : List (S × Nat)) (r : S × Nat) (h : t.length ≤ 10000) : binD .add (encTk t) (.tup [.tup [.str r.1, .int r.2]]) = some (encTk (t ++ [r])) := by
  unfold encTk
  rw [add_tup (by simp; omega)]
  simp [encT]
theorem lenR {rs : List PRow} : b1D .len (encRows rs) = some (.int rs.length) := by simp only [b1D, encRows, List.length_map]
theorem run_first (scr : List Int) (k : Nat) (pl : PL) (g : G) (v : VPL pl) : ∀ (names : List S) (taken : List (S × Nat)), (∀ n ∈ names, n ∈ pl.map (·.1)) → (∀ t ∈ taken, Rok pl t) → taken.length + names.length ≤ 1000 →
    run (P78 scr) (k + 5 + names.length) "first_over" [encPL pl, .tup (names.map .str), encTk taken] g = .ok (encOT (firstO pl names taken)) g
  | [], taken, _, ht, hz => by
    show run (P78 scr) (k + 4 + 1) _ _ _ = _
    rw [run_def (by rfl) (fd := fd_first_over) (by rfl) rfl]
    unfold fd_first_over c_first_over
    refine (congrArg fin (seq_ift (ev_not (x := .tup []) (ev_v rfl) (by rfl)) rfl (seq_rt (st_ret (ev_v rfl))))).trans ?_
    rfl
  | n :: ns, taken, hn, ht, hz => by
    show run (P78 scr) (k + 5 + ns.length + 1) _ _ _ = _
    rw [run_def (by rfl) (fd := fd_first_over) (by rfl) rfl]
    have hnm : n ∈ pl.map (·.1) := hn n (List.mem_cons_self ..)
    have hrl := v.rowlen hnm
    simp only [List.length_cons] at hz
    refine (congrArg fin (seq_ifn (ev_not (x := .tup ((n :: ns).map .str)) (ev_v rfl) (by rfl)) rfl st_nil)).trans ?_
    have hf := for_first (ρ := [.val (encPL pl), .val (.tup ((n :: ns).map .str)), .val (encTk taken), .no, .no]) (g := g) (enc := fun (i : Nat) => D.int (i : Int)) (xs := List.range (rowsOf pl n).length)
      (f := fun i => (if isFree pl taken (n, i) = true then firstO pl ns (taken ++ [(n, i)]) else none).map encTk) (tg := .nm 3)
      (body := fun ρ g => evalC (Q78P scr (k + 5 + ns.length)) (.seq (.if_ (.call "is_free" (.acons (.v 0) (.acons (.v 2) (.acons (.idx (.v 1) (.k (.int 0))) (.acons (.v 3) .anil)))) 0)
  (.seq (.asg (.nm 4) (.call "first_over" (.acons (.v 0) (.acons (.slc (.v 1) (.k (.int 1)) .nth) (.acons (.bin .add (.v 2) (.tup (.acons (.tup (.acons (.idx (.v 1) (.k (.int 0))) (.acons (.v 3) .anil))) .anil))) .anil))) 0))
  (.seq (.if_ (.cmp .isn (.v 4) (.k .non))
  (.seq (.ret (.v 4))
  .nil)
  .nil)
  .nil))
  .nil)
  (.seq (.drop [4])
  (.seq (.drop [3, 4])
  .nil))) ρ g) fun i hi => by
      refine ⟨_, rfl, ?_⟩
      have hr : Rok pl (n, i) := ⟨hnm, List.mem_range.mp hi⟩
      have hfr := run_free scr (k + 1 + ns.length) pl taken (n, i) g v ht hr (by omega)
      rw [show k + 1 + ns.length + 4 = k + 5 + ns.length by omega] at hfr
      have t : evalE (Q78P scr (k + 5 + ns.length)) (.call "is_free" (.acons (.v 0) (.acons (.v 2) (.acons (.idx (.v 1) (.k (.int 0))) (.acons (.v 3) .anil)))) 0) [.val (encPL pl), .val (.tup ((n :: ns).map .str)), .val (encTk taken), .val (.int i), .no] g = .ok (.bl (isFree pl taken (n, i))) g :=
        ev_call0 (ev_acons (ev_v rfl) (ev_acons (ev_v rfl) (ev_acons (ev_idx (ev_v rfl) ev_k (idx_head _ _)) (ev_acons (ev_v rfl) ev_anil)))) rfl hfr
      cases hfree : isFree pl taken (n, i) with
      | false =>
        rw [hfree] at t
        exact (seq_ifn t rfl st_nil).trans ((seq_nx st_drop).trans ((seq_nx st_drop).trans st_nil))
      | true =>
        rw [hfree] at t
        have ih := run_first scr k pl g v ns (taken ++ [(n, i)]) (fun m hm => hn m (List.mem_cons_of_mem _ hm)) (fun t h => by
          rcases List.mem_append.mp h with h | h
          · exact ht t h
          · simp at h; subst h; exact hr) (by simp; omega)
        have hc : evalE (Q78P scr (k + 5 + ns.length)) (.call "first_over" (.acons (.v 0) (.acons (.slc (.v 1) (.k (.int 1)) .nth) (.acons (.bin .add (.v 2) (.tup (.acons (.tup (.acons (.idx (.v 1) (.k (.int 0))) (.acons (.v 3) .anil))) .anil))) .anil))) 0)
            [.val (encPL pl), .val (.tup ((n :: ns).map .str)), .val (encTk taken), .val (.int i), .no] g = .ok (encOT (firstO pl ns (taken ++ [(n, i)]))) g :=
          ev_call0 (ev_acons (ev_v rfl) (ev_acons (ev_slc (ev_v rfl) ev_k ev_nth rfl rfl (slc_tail _ _)) (ev_acons (ev_bin (ev_v rfl) (ev_tup (ev_acons (ev_tup (ev_acons (ev_idx (ev_v rfl) ev_k (idx_head _ _)) (ev_acons (ev_v rfl) ev_anil)) rfl) ev_anil) rfl) (encTk_app taken (n, i) (by omega))) ev_anil))) rfl ih
        simp only [if_true]
        cases ho : firstO pl ns (taken ++ [(n, i)]) with
        | none =>
          rw [ho] at hc
          have hin : evalC (Q78P scr (k + 5 + ns.length)) (.seq (.asg (.nm 4) (.call "first_over" (.acons (.v 0) (.acons (.slc (.v 1) (.k (.int 1)) .nth) (.acons (.bin .add (.v 2) (.tup (.acons (.tup (.acons (.idx (.v 1) (.k (.int 0))) (.acons (.v 3) .anil))) .anil))) .anil))) 0))
              (.seq (.if_ (.cmp .isn (.v 4) (.k .non)) (.seq (.ret (.v 4)) .nil) .nil) .nil)) [.val (encPL pl), .val (.tup ((n :: ns).map .str)), .val (encTk taken), .val (.int i), .no] g = .ok (.nx [.val (encPL pl), .val (.tup ((n :: ns).map .str)), .val (encTk taken), .val (.int i), .val .non]) g :=
            (seq_nx (st_asg hc rfl)).trans ((seq_ifn (ev_isnN (ev_v rfl) ev_k) rfl st_nil).trans st_nil)
          exact (seq_ify t rfl hin).trans ((seq_nx st_drop).trans ((seq_nx st_drop).trans st_nil))
        | some w =>
          rw [ho] at hc
          have hin : evalC (Q78P scr (k + 5 + ns.length)) (.seq (.asg (.nm 4) (.call "first_over" (.acons (.v 0) (.acons (.slc (.v 1) (.k (.int 1)) .nth) (.acons (.bin .add (.v 2) (.tup (.acons (.tup (.acons (.idx (.v 1) (.k (.int 0))) (.acons (.v 3) .anil))) .anil))) .anil))) 0))
              (.seq (.if_ (.cmp .isn (.v 4) (.k .non)) (.seq (.ret (.v 4)) .nil) .nil) .nil)) [.val (encPL pl), .val (.tup ((n :: ns).map .str)), .val (encTk taken), .val (.int i), .no] g = .ok (.rt (encTk w)) g :=
            (seq_nx (st_asg hc rfl)).trans (seq_ift (ev_isnN (ev_v rfl) ev_k) rfl (seq_rt (st_ret (ev_v rfl))))
          exact seq_ift t rfl hin
    have hrng : evalE (Q78P scr (k + 5 + ns.length)) (.rng1 (.b1 .len (.idx (.v 0) (.idx (.v 1) (.k (.int 0)))))) [.val (encPL pl), .val (.tup ((n :: ns).map .str)), .val (encTk taken), .no, .no] g = .ok (.lst ((List.range (rowsOf pl n).length).map fun (i : Nat) => D.int (i : Int))) g := by
      have := ev_rng1 (P := Q78P scr (k + 5 + ns.length)) (ρ := [.val (encPL pl), .val (.tup ((n :: ns).map .str)), .val (encTk taken), .no, .no]) (ev_b1 (ev_idx (a := .v 0) (ev_v rfl) (ev_idx (a := .v 1) (ev_v rfl) (ev_k (d := .int 0)) (idx_head _ _)) (idx_rows hnm)) lenR) (g := g) (by omega) (by omega)
      rw [Int.toNat_natCast, rngL0] at this
      exact this
    refine (congrArg fin (seq_first ((st_for hrng rfl).trans hf))).trans ?_
    have e : (List.range (rowsOf pl n).length).findSome? (fun i => (if isFree pl taken (n, i) = true then firstO pl ns (taken ++ [(n, i)]) else none).map encTk) = (firstO pl (n :: ns) taken).map encTk := by
      rw [firstO, List.map_findSome?]
      rfl
    rw [e]
    cases firstO pl (n :: ns) taken with
    | none =>
      show fin (evalC _ _ _ _) = _
      rw [seq_nx st_drop, seq_rt (st_ret ev_k)]
      rfl
    | some i => rfl
end MW

end
section
set_option Elab.async false
set_option linter.all false
set_option maxRecDepth 100000
set_option maxHeartbeats 4000000
namespace MW
inductive Tr where
  | name (n : S) (bs : List Tr)
  | over (r : S × Nat) (s : Int)
  deriving Inhabited
mutual
def encTr : Tr → D
  | .name n bs => .tup [.str s_name, .str n, .tup (encTrs bs)]
  | .over r s => .tup [.str s_over, encT r, .int s]
def encTrs : List Tr → List D
  | [] => []
  | b :: bs => encTr b :: encTrs bs
end
theorem encTrs_map : ∀ bs : List Tr, encTrs bs = bs.map encTr
  | [] => rfl
  | b :: bs => by simp [encTrs, encTrs_map bs]
def overLeaf (pl : PL) (taken : List (S × Nat)) (r : S × Nat) : Option Tr := taken.findSome? fun t => (clash (gp pl r) (gp pl t)).map (Tr.over t)
def treeO (pl : PL) : List S → List (S × Nat) → Tr
  | [], _ => default
  | n :: ns, taken => .name n ((List.range (rowsOf pl n).length).map fun k => if isFree pl taken (n, k) = true then treeO pl ns (taken ++ [(n, k)]) else (overLeaf pl taken (n, k)).getD default)
theorem over_some {pl : PL} {taken : List (S × Nat)} {r : S × Nat} (h : isFree pl taken r = false) : ∃ t s, t ∈ taken ∧ clash (gp pl r) (gp pl t) = some s ∧ overLeaf pl taken r = some (.over t s) := by
  unfold isFree at h
  unfold overLeaf
  induction taken with
  | nil => simp at h
  | cons t ts ih =>
    simp only [List.all_cons, Bool.and_eq_false_iff] at h
    simp only [List.findSome?_cons]
    cases e : clash (gp pl r) (gp pl t) with
    | some s => exact ⟨t, s, List.mem_cons_self .., e, rfl⟩
    | none =>
      rw [e] at h
      simp at h
      obtain ⟨t', s, h1, h2, h3⟩ := ih (by simpa using h)
      exact ⟨t', s, List.mem_cons_of_mem _ h1, h2, h3⟩
theorem run_over (scr : List Int) (k : Nat) (pl : PL) (taken : List (S × Nat)) (r : S × Nat) (g : G) (v : VPL pl) (ht : ∀ t ∈ taken, Rok pl t) (hr : Rok pl r) (hf : isFree pl taken r = false) :
    run (P78 scr) (k + 4) "over_leaf" [encPL pl, encTk taken, .str r.1, .int r.2] g = .ok (encTr ((overLeaf pl taken r).getD default)) g := by
  rw [run_def (by rfl) (fd := fd_over_leaf) (by rfl) rfl]
  unfold fd_over_leaf c_over_leaf
  have hl := for_first (ρ := [.val (encPL pl), .val (encTk taken), .val (.str r.1), .val (.int r.2), .no, .no, .no]) (g := g) (enc := encT) (xs := taken) (f := fun t => (clash (gp pl r) (gp pl t)).map fun s => encTr (.over t s)) (tg := .tup (.tcons (.nm 4) (.tcons (.nm 5) .tnil)))
    (body := fun ρ g => evalC (Q78P scr (k + 3)) (.seq (.asg (.nm 6) (.call "clash_at" (.acons (.idx (.idx (.v 0) (.v 2)) (.v 3)) (.acons (.idx (.idx (.v 0) (.v 4)) (.v 5)) .anil)) 0))
  (.seq (.if_ (.cmp .isn (.v 6) (.k .non))
  (.seq (.ret (.tup (.acons (.k (.str s_over)) (.acons (.tup (.acons (.v 4) (.acons (.v 5) .anil))) (.acons (.v 6) .anil)))))
  .nil)
  .nil)
  (.seq (.drop [4, 5, 6])
  .nil))) ρ g) fun t h => by
      refine ⟨_, rfl, ?_⟩
      refine (seq_nx (st_asg (ev_call0 (f := "clash_at") (ev_acons (ev_gp (a := .v 0) (b := .v 2) (c := .v 3) v hr (ev_v rfl) (ev_v rfl) (ev_v rfl)) (ev_acons (ev_gp (a := .v 0) (b := .v 4) (c := .v 5) v (ht t h) (ev_v rfl) (ev_v rfl) (ev_v rfl)) ev_anil)) rfl (run_clash scr k (gp pl r) (gp pl t) g (v.rok (ht t h)).1)) rfl)).trans ?_
      cases hc : clash (gp pl r) (gp pl t) with
      | none => exact (seq_ifn (ev_isnN (ev_v rfl) ev_k) rfl st_nil).trans ((seq_nx st_drop).trans st_nil)
      | some s => exact seq_ift (ev_isnN (ev_v rfl) ev_k) rfl (seq_rt (st_ret (ev_tup (ev_acons ev_k (ev_acons (ev_tup (ev_acons (ev_v rfl) (ev_acons (ev_v rfl) ev_anil)) rfl) (ev_acons (ev_v rfl) ev_anil))) rfl)))
  refine (congrArg fin (seq_first ((st_for (ev_v rfl) rfl).trans hl))).trans ?_
  have e : taken.findSome? (fun t => (clash (gp pl r) (gp pl t)).map fun s => encTr (.over t s)) = (overLeaf pl taken r).map encTr := by
    unfold overLeaf
    rw [List.map_findSome?]
    congr 1
    funext t
    simp only [Function.comp, Option.map_map]
    rfl
  rw [e]
  obtain ⟨t, s, _, _, h3⟩ := over_some hf
  rw [h3]
  rfl
theorem first_none {pl : PL} {n : S} {ns : List S} {taken : List (S × Nat)} (h : firstO pl (n :: ns) taken = none) {i : Nat} (hi : i < (rowsOf pl n).length) (hf : isFree pl taken (n, i) = true) : firstO pl ns (taken ++ [(n, i)]) = none := by
  rw [firstO, List.findSome?_eq_none_iff] at h
  have := h i (List.mem_range.mpr hi)
  rwa [if_pos hf] at this
theorem run_tree (scr : List Int) (k : Nat) (pl : PL) (g : G) (v : VPL pl) : ∀ (names : List S) (taken : List (S × Nat)), firstO pl names taken = none → (∀ n ∈ names, n ∈ pl.map (·.1)) → (∀ t ∈ taken, Rok pl t) → taken.length + names.length ≤ 1000 →
    run (P78 scr) (k + 5 + names.length) "tree_over" [encPL pl, .tup (names.map .str), encTk taken] g = .ok (encTr (treeO pl names taken)) g
  | [], taken, h0, _, _, _ => by rw [firstO] at h0; cases h0
  | n :: ns, taken, h0, hn, ht, hz => by
    show run (P78 scr) (k + 5 + ns.length + 1) _ _ _ = _
    rw [run_def (by rfl) (fd := fd_tree_over) (by rfl) rfl]
    have hnm : n ∈ pl.map (·.1) := hn n (List.mem_cons_self ..)
    have hrl := v.rowlen hnm
    simp only [List.length_cons] at hz
    generalize hbr : (fun k => if isFree pl taken (n, k) = true then treeO pl ns (taken ++ [(n, k)]) else (overLeaf pl taken (n, k)).getD default) = br
    obtain ⟨ρ', g', hf, hρ, hg⟩ := for_inv (t := .nm 5) (body := fun ρ g => evalC (Q78P scr (k + 5 + ns.length)) (.seq (.if_ (.call "is_free" (.acons (.v 0) (.acons (.v 2) (.acons (.v 3) (.acons (.v 5) .anil)))) 0)
  (.seq (.app 4 (.call "tree_over" (.acons (.v 0) (.acons (.slc (.v 1) (.k (.int 1)) .nth) (.acons (.bin .add (.v 2) (.tup (.acons (.tup (.acons (.v 3) (.acons (.v 5) .anil))) .anil))) .anil))) 0))
  .nil)
  (.seq (.app 4 (.call "over_leaf" (.acons (.v 0) (.acons (.v 2) (.acons (.v 3) (.acons (.v 5) .anil)))) 0))
  .nil))
  (.seq (.drop [5])
  .nil)) ρ g) (I := fun i ρ g' => ρ = [.val (encPL pl), .val (.tup ((n :: ns).map .str)), .val (encTk taken), .val (.str n), .own (.lst (((List.range i).map br).map encTr)), .no] ∧ g' = g) (ds := (List.range (rowsOf pl n).length).map fun (i : Nat) => D.int (i : Int)) 0
      (ρ := [.val (encPL pl), .val (.tup ((n :: ns).map .str)), .val (encTk taken), .val (.str n), .own (.lst []), .no]) (g := g) ⟨rfl, rfl⟩ (fun i d ρ g0 hd hI => by
        obtain ⟨rfl, rfl⟩ := hI
        rw [Nat.zero_add]
        rw [List.getElem?_map] at hd
        obtain ⟨i', hi', rfl⟩ := Option.map_eq_some_iff.mp hd
        have hlt : i < (rowsOf pl n).length := by
          have := (List.getElem?_eq_some_iff.mp hi').1
          simpa using this
        rw [List.getElem?_range hlt] at hi'
        cases hi'
        have hr : Rok pl (n, i) := ⟨hnm, hlt⟩
        have hfr := run_free scr (k + 1 + ns.length) pl taken (n, i) g0 v ht hr (by omega)
        rw [show k + 1 + ns.length + 4 = k + 5 + ns.length by omega] at hfr
        have t : evalE (Q78P scr (k + 5 + ns.length)) (.call "is_free" (.acons (.v 0) (.acons (.v 2) (.acons (.v 3) (.acons (.v 5) .anil)))) 0) [.val (encPL pl), .val (.tup ((n :: ns).map .str)), .val (encTk taken), .val (.str n), .own (.lst (((List.range i).map br).map encTr)), .val (.int i)] g0 = .ok (.bl (isFree pl taken (n, i))) g0 :=
          ev_call0 (ev_acons (ev_v rfl) (ev_acons (ev_v rfl) (ev_acons (ev_v rfl) (ev_acons (ev_v rfl) ev_anil)))) rfl hfr
        refine ⟨_, rfl, [.val (encPL pl), .val (.tup ((n :: ns).map .str)), .val (encTk taken), .val (.str n), .own (.lst (((List.range (i + 1)).map br).map encTr)), .no], g0, .inl ?_, rfl, rfl⟩
        rw [show ((List.range (i + 1)).map br).map encTr = ((List.range i).map br).map encTr ++ [encTr (br i)] by rw [List.range_succ]; simp]
        have sz : (((List.range i).map br).map encTr).length < 16777216 := by simp; omega
        cases hfree : isFree pl taken (n, i) with
        | true =>
          rw [hfree] at t
          have ih := run_tree scr k pl g0 v ns (taken ++ [(n, i)]) (first_none h0 hlt hfree) (fun m hm => hn m (List.mem_cons_of_mem _ hm)) (fun t h => by
            rcases List.mem_append.mp h with h | h
            · exact ht t h
            · simp at h; subst h; exact hr) (by simp; omega)
          have hb : br i = treeO pl ns (taken ++ [(n, i)]) := by rw [← hbr]; simp [hfree]
          rw [hb]
          exact (seq_ify t rfl ((seq_nx (st_app (ev_call0 (f := "tree_over") (ev_acons (ev_v rfl) (ev_acons (ev_slc (ev_v rfl) ev_k ev_nth rfl rfl (slc_tail _ _)) (ev_acons (ev_bin (ev_v rfl) (ev_tup (ev_acons (ev_tup (ev_acons (ev_v rfl) (ev_acons (ev_v rfl) ev_anil)) rfl) ev_anil) rfl) (encTk_app taken (n, i) (by omega))) ev_anil))) rfl ih) rfl sz)).trans st_nil)).trans ((seq_nx st_drop).trans st_nil)
        | false =>
          rw [hfree] at t
          have hov := run_over scr (k + 1 + ns.length) pl taken (n, i) g0 v ht hr hfree
          rw [show k + 1 + ns.length + 4 = k + 5 + ns.length by omega] at hov
          have hb : br i = (overLeaf pl taken (n, i)).getD default := by rw [← hbr]; simp [hfree]
          rw [hb]
          exact (seq_ifn t rfl ((seq_nx (st_app (ev_call0 (f := "over_leaf") (ev_acons (ev_v rfl) (ev_acons (ev_v rfl) (ev_acons (ev_v rfl) (ev_acons (ev_v rfl) ev_anil)))) rfl hov) rfl sz)).trans st_nil)).trans ((seq_nx st_drop).trans st_nil))
    rw [List.length_map, List.length_range, Nat.zero_add] at hρ
    subst hg
    have hrng : evalE (Q78P scr (k + 5 + ns.length)) (.rng1 (.b1 .len (.idx (.v 0) (.v 3)))) [.val (encPL pl), .val (.tup ((n :: ns).map .str)), .val (encTk taken), .val (.str n), .own (.lst []), .no] g' = .ok (.lst ((List.range (rowsOf pl n).length).map fun (i : Nat) => D.int (i : Int))) g' := by
      have := ev_rng1 (P := Q78P scr (k + 5 + ns.length)) (ρ := [.val (encPL pl), .val (.tup ((n :: ns).map .str)), .val (encTk taken), .val (.str n), .own (.lst []), .no]) (ev_b1 (ev_idx (a := .v 0) (ev_v rfl) (b := .v 3) (ev_v rfl) (idx_rows hnm)) lenR) (g := g') (by omega) (by omega)
      rw [Int.toNat_natCast, rngL0] at this
      exact this
    refine (congrArg fin (seq_nx (st_asg (ev_idx (ev_v rfl) ev_k (idx_head _ _)) rfl))).trans ?_
    refine (congrArg fin (seq_nx (st_ownL (ev_lst ev_anil rfl) (show 4 < 6 by decide)))).trans ?_
    refine (congrArg fin (seq_nx ((st_for hrng rfl).trans hf))).trans ?_
    rw [hρ, seq_nx st_drop]
    have hown : evalE (Q78P scr (k + 5 + ns.length)) (.b1 .tuple (.v 4)) [.val (encPL pl), .val (.tup ((n :: ns).map .str)), .val (encTk taken), .val (.str n), .own (.lst (((List.range (rowsOf pl n).length).map br).map encTr)), .no] g' = .ok (.tup (((List.range (rowsOf pl n).length).map br).map encTr)) g' := by
      simp only [evalE, brw]
      rfl
    refine (congrArg fin (seq_rt (st_ret (ev_tup (ev_acons ev_k (ev_acons (ev_v rfl) (ev_acons hown ev_anil))) rfl)))).trans ?_
    rw [treeO, encTr, encTrs_map, hbr]
    rfl
theorem run_placed (scr : List Int) (k : Nat) (pl : PL) (g : G) (v : VPL pl) (names : List S) (hn : ∀ n ∈ names, n ∈ pl.map (·.1)) (hz : names.length ≤ 1000) :
    run (P78 scr) (k + 6 + names.length) "placed_over" [encPL pl, .tup (names.map .str)] g = .ok (match firstO pl names [] with | none => .tup [.str s_none, encTr (treeO pl names [])] | some w => .tup [.str s_placed, encTk w]) g := by
  rw [show k + 6 + names.length = k + 5 + names.length + 1 by omega]
  rw [run_def (by rfl) (fd := fd_placed_over) (by rfl) rfl]
  have h1 := run_first scr k pl g v names [] hn (fun _ h => by cases h) (by simpa using hz)
  refine (congrArg fin (seq_nx (st_asg (ev_call0 (f := "first_over") (ev_acons (ev_v rfl) (ev_acons (ev_b1 (ev_v rfl) rfl) (ev_acons (ev_tup ev_anil rfl) ev_anil))) rfl h1) rfl))).trans ?_
  cases ho : firstO pl names [] with
  | some w =>
    refine (congrArg fin (seq_rt (st_ret (ev_iteF (ev_isN (ev_v rfl) ev_k) rfl (ev_tup (ev_acons ev_k (ev_acons (ev_v rfl) ev_anil)) rfl))))).trans ?_
    rfl
  | none =>
    have h2 := run_tree scr k pl g v names [] ho hn (fun _ h => by cases h) (by simpa using hz)
    refine (congrArg fin (seq_rt (st_ret (ev_iteT (ev_isN (ev_v rfl) ev_k) rfl (ev_tup (ev_acons ev_k (ev_acons (ev_call0 (f := "tree_over") (ev_acons (ev_v rfl) (ev_acons (ev_b1 (ev_v rfl) rfl) (ev_acons (ev_tup ev_anil rfl) ev_anil))) rfl h2) ev_anil)) rfl))))).trans ?_
    rfl
end MW

end
section
set_option Elab.async false
set_option linter.all false
set_option maxRecDepth 100000
set_option maxHeartbeats 4000000
namespace MW
/-! ### all ways -/
abbrev Way := List (S × Nat)
def ext (pl : PL) (n : S) (w : Way) : List Way := ((List.range (rowsOf pl n).length).filter fun k => isFree pl w (n, k)).map fun k => w ++ [(n, k)]
def waysL (pl : PL) (found : List Way) (names : List S) : List Way := names.foldl (fun f n => f.flatMap (ext pl n)) found
theorem ways_app (pl : PL) : ∀ (names : List S) (xs ys : List Way), waysL pl (xs ++ ys) names = waysL pl xs names ++ waysL pl ys names
  | [], _, _ => rfl
  | n :: ns, xs, ys => by
    simp only [waysL, List.foldl_cons, List.flatMap_append]
    exact ways_app pl ns _ _
theorem ways_nil (pl : PL) : ∀ names : List S, waysL pl [] names = []
  | [] => rfl
  | n :: ns => ways_nil pl ns
/-- the first of all ways is the first way -/
theorem ways_head (pl : PL) : ∀ (names : List S) (w : Way), (waysL pl [w] names).head? = firstO pl names w
  | [], w => rfl
  | n :: ns, w => by
    rw [firstO]
    show (waysL pl ([w].flatMap (ext pl n)) ns).head? = _
    simp only [List.flatMap_cons, List.flatMap_nil, List.append_nil, ext]
    generalize List.range (rowsOf pl n).length = ks
    induction ks with
    | nil => simp [ways_nil]
    | cons k ks ih =>
      simp only [List.filter_cons, List.findSome?_cons]
      cases hf : isFree pl w (n, k) with
      | false => simpa using ih
      | true =>
        simp only [if_true, List.map_cons]
        rw [show (w ++ [(n, k)]) :: ((ks.filter fun k => isFree pl w (n, k)).map fun k => w ++ [(n, k)]) = [w ++ [(n, k)]] ++ ((ks.filter fun k => isFree pl w (n, k)).map fun k => w ++ [(n, k)]) from rfl, ways_app, List.head?_append, ways_head pl ns, ih]
        cases firstO pl ns (w ++ [(n, k)]) <;> rfl
/-- ways whose rows are places -/
structure Wok (pl : PL) (m : Nat) (w : Way) : Prop where
  ok : ∀ t ∈ w, Rok pl t
  len : w.length ≤ m
theorem ext_ok {pl : PL} {n : S} {m : Nat} (hn : n ∈ pl.map (·.1)) {w : Way} (h : Wok pl m w) : ∀ u ∈ ext pl n w, Wok pl (m + 1) u := by
  intro u hu
  unfold ext at hu
  obtain ⟨k, hk, rfl⟩ := List.mem_map.mp hu
  obtain ⟨h1, h2⟩ := List.mem_filter.mp hk
  refine ⟨fun t ht => ?_, by simp; have := h.len; omega⟩
  rcases List.mem_append.mp ht with ht | ht
  · exact h.ok t ht
  · simp at ht; subst ht; exact ⟨hn, List.mem_range.mp h1⟩
theorem ext_len {pl : PL} (v : VPL pl) {n : S} (hn : n ∈ pl.map (·.1)) (w : Way) : (ext pl n w).length ≤ 4 := by
  unfold ext
  rw [List.length_map]
  refine Nat.le_trans (List.length_filter_le _ _) ?_
  rw [List.length_range]
  exact v.rowlen hn
theorem flat_len {pl : PL} (v : VPL pl) {n : S} (hn : n ∈ pl.map (·.1)) : ∀ f : List Way, (f.flatMap (ext pl n)).length ≤ 4 * f.length
  | [] => by simp
  | w :: f => by
    have := ext_len v hn w
    have := flat_len v hn f
    simp only [List.flatMap_cons, List.length_append, List.length_cons]
    omega
theorem ways_ok {pl : PL} (v : VPL pl) : ∀ (names : List S) (f : List Way) (m : Nat), (∀ n ∈ names, n ∈ pl.map (·.1)) → (∀ w ∈ f, Wok pl m w) → (∀ w ∈ waysL pl f names, Wok pl (m + names.length) w) ∧ (waysL pl f names).length ≤ 4 ^ names.length * f.length
  | [], f, m, _, h => ⟨h, by simp [waysL]⟩
  | n :: ns, f, m, hn, h => by
    have hnm := hn n (List.mem_cons_self ..)
    obtain ⟨h1, h2⟩ := ways_ok v ns (f.flatMap (ext pl n)) (m + 1) (fun a ha => hn a (List.mem_cons_of_mem _ ha)) (fun u hu => by
      obtain ⟨w, hw, hu⟩ := List.mem_flatMap.mp hu
      exact ext_ok hnm (h w hw) u hu)
    refine ⟨fun w hw => by rw [List.length_cons, show m + (ns.length + 1) = m + 1 + ns.length by omega]; exact h1 w hw, ?_⟩
    show (waysL pl (f.flatMap (ext pl n)) ns).length ≤ _
    have := flat_len v hnm f
    refine Nat.le_trans h2 ?_
    rw [List.length_cons, Nat.pow_succ, Nat.mul_assoc]
    exact Nat.mul_le_mul_left _ this
def encW (ws : List Way) : D := .lst (ws.map encTk)
theorem free_iff (pl : PL) (w : Way) (r : S × Nat) : decide ((((w.filter fun t => !(clash (gp pl r) (gp pl t)).isNone).length : Nat) : Int) = 0) = isFree pl w r := by
  rw [Bool.eq_iff_iff, decide_eq_true_eq]
  unfold isFree
  rw [List.all_eq_true]
  constructor
  · intro h t ht
    have : (w.filter fun t => !(clash (gp pl r) (gp pl t)).isNone) = [] := List.eq_nil_of_length_eq_zero (by omega)
    rw [List.filter_eq_nil_iff] at this
    have := this t ht
    simpa using this
  · intro h
    have : (w.filter fun t => !(clash (gp pl r) (gp pl t)).isNone) = [] := by
      rw [List.filter_eq_nil_iff]
      intro t ht
      simpa using h t ht
    rw [this]; rfl
/-- the innermost loop -/
theorem ways_in (scr : List Int) (k : Nat) (pl : PL) (g : G) (v : VPL pl) (nd fd : D) (n : S) (w : Way) (acc : List Way) (hn : n ∈ pl.map (·.1)) (hw : Wok pl 1000 w) (hz : acc.length ≤ 8000000) :
    forL (.nm 6) (fun ρ g => evalC (Q78P scr (k + 3)) (.seq (.if_ (.cmp .eq (.b1 .len (.lc (.v 7) (.nm 7) (.v 5) (.cmp .isn (.call "_law_clash" (.acons (.idx (.idx (.v 0) (.v 3)) (.v 6)) (.acons (.idx (.idx (.v 0) (.idx (.v 7) (.k (.int 0)))) (.idx (.v 7) (.k (.int 1)))) .anil)) 0) (.k .non)) [7])) (.k (.int 0)))
  (.seq (.app 4 (.bin .add (.v 5) (.tup (.acons (.tup (.acons (.v 3) (.acons (.v 6) .anil))) .anil))))
  .nil)
  .nil)
  (.seq (.drop [6])
  .nil)) ρ g) ((List.range (rowsOf pl n).length).map fun (i : Nat) => D.int (i : Int)) [.val (encPL pl), .val nd, .val fd, .val (.str n), .own (encW acc), .val (encTk w), .no, .no] g = .ok (.nx [.val (encPL pl), .val nd, .val fd, .val (.str n), .own (encW (acc ++ ext pl n w)), .val (encTk w), .no, .no]) g := by
  have hrl := v.rowlen hn
  obtain ⟨ρ', g', hf, hρ, hg⟩ := for_inv (t := .nm 6) (body := fun ρ g => evalC (Q78P scr (k + 3)) (.seq (.if_ (.cmp .eq (.b1 .len (.lc (.v 7) (.nm 7) (.v 5) (.cmp .isn (.call "_law_clash" (.acons (.idx (.idx (.v 0) (.v 3)) (.v 6)) (.acons (.idx (.idx (.v 0) (.idx (.v 7) (.k (.int 0)))) (.idx (.v 7) (.k (.int 1)))) .anil)) 0) (.k .non)) [7])) (.k (.int 0)))
  (.seq (.app 4 (.bin .add (.v 5) (.tup (.acons (.tup (.acons (.v 3) (.acons (.v 6) .anil))) .anil))))
  .nil)
  .nil)
  (.seq (.drop [6])
  .nil)) ρ g) (I := fun i ρ g' => ρ = [.val (encPL pl), .val nd, .val fd, .val (.str n), .own (encW (acc ++ (((List.range i).filter fun k => isFree pl w (n, k)).map fun k => w ++ [(n, k)]))), .val (encTk w), .no, .no] ∧ g' = g) (ds := (List.range (rowsOf pl n).length).map fun (i : Nat) => D.int (i : Int)) 0
    (ρ := [.val (encPL pl), .val nd, .val fd, .val (.str n), .own (encW acc), .val (encTk w), .no, .no]) (g := g) ⟨by simp, rfl⟩ (fun i d ρ g0 hd hI => by
      obtain ⟨rfl, rfl⟩ := hI
      rw [Nat.zero_add]
      rw [List.getElem?_map] at hd
      obtain ⟨i', hi', rfl⟩ := Option.map_eq_some_iff.mp hd
      have hlt : i < (rowsOf pl n).length := by
        have := (List.getElem?_eq_some_iff.mp hi').1
        simpa using this
      rw [List.getElem?_range hlt] at hi'
      cases hi'
      have hr : Rok pl (n, i) := ⟨hn, hlt⟩
      have hl := ev_lcM (P := Q78P scr (k + 3)) (enc := encT) (xs := w) (p := fun t => !(clash (gp pl (n, i)) (gp pl t)).isNone) (f := encT) (g := g0) (g1 := g0) (x := encTk w) (it := .v 5)
        (ρ := [.val (encPL pl), .val nd, .val fd, .val (.str n), .own (encW (acc ++ (((List.range i).filter fun k => isFree pl w (n, k)).map fun k => w ++ [(n, k)]))), .val (encTk w), .val (.int i), .no]) (elt := .v 7) (tg := .nm 7) (own := [7])
        (test := .cmp .isn (.call "_law_clash" (.acons (.idx (.idx (.v 0) (.v 3)) (.v 6)) (.acons (.idx (.idx (.v 0) (.idx (.v 7) (.k (.int 0)))) (.idx (.v 7) (.k (.int 1)))) .anil)) 0) (.k .non))
        (ev_v rfl) rfl (by have := hw.len; omega) fun t ht => ⟨_, rfl, by
          have hc := ev_isnN (P := Q78P scr (k + 3)) (ρ := [.val (encPL pl), .val nd, .val fd, .val (.str n), .own (encW (acc ++ (((List.range i).filter fun k => isFree pl w (n, k)).map fun k => w ++ [(n, k)]))), .val (encTk w), .val (.int i), .val (encT t)]) (g := g0)
            (ev_call0 (f := "_law_clash") (ev_acons (ev_gp (a := .v 0) (b := .v 3) (c := .v 6) v hr (ev_v rfl) (ev_v rfl) (ev_v rfl)) (ev_acons (ev_gp (a := .v 0) (b := .idx (.v 7) (.k (.int 0))) (c := .idx (.v 7) (.k (.int 1))) v (hw.ok t ht) (ev_v rfl) (ev_idx (ev_v rfl) ev_k rfl) (ev_idx (ev_v rfl) ev_k rfl)) ev_anil)) rfl
              (run_lclash scr k (gp pl (n, i)) (gp pl t) g0 (v.rok hr).1 (v.rok (hw.ok t ht)).1)) (ev_k (g := g0))
          rw [isNon_OI] at hc
          exact hc, fun _ => ev_v rfl⟩
      have hlen : b1D .len (.lst ((w.filter fun t => !(clash (gp pl (n, i)) (gp pl t)).isNone).map encT)) = some (.int (w.filter fun t => !(clash (gp pl (n, i)) (gp pl t)).isNone).length) := by
        simp only [b1D, List.length_map]
      have t := ev_eqI (P := Q78P scr (k + 3)) (ev_b1 hl hlen) (ev_k (d := .int 0))
      rw [free_iff] at t
      refine ⟨_, rfl, [.val (encPL pl), .val nd, .val fd, .val (.str n), .own (encW (acc ++ (((List.range (i + 1)).filter fun k => isFree pl w (n, k)).map fun k => w ++ [(n, k)]))), .val (encTk w), .no, .no], g0, .inl ?_, rfl, rfl⟩
      have hsz : (acc ++ (((List.range i).filter fun k => isFree pl w (n, k)).map fun k => w ++ [(n, k)])).length < 16777216 := by
        rw [List.length_append, List.length_map]
        have := List.length_filter_le (fun k => isFree pl w (n, k)) (List.range i)
        rw [List.length_range] at this
        omega
      cases hfree : isFree pl w (n, i) with
      | false =>
        rw [hfree] at t
        refine (seq_ifn t rfl st_nil).trans ((seq_nx st_drop).trans (st_nil.trans ?_))
        rw [List.range_succ, List.filter_append]
        simp [hfree, wipeE]
      | true =>
        rw [hfree] at t
        refine (seq_ify t rfl ((seq_nx (st_app (ev_bin (ev_v rfl) (ev_tup (ev_acons (ev_tup (ev_acons (ev_v rfl) (ev_acons (ev_v rfl) ev_anil)) rfl) ev_anil) rfl) (encTk_app w (n, i) (by have := hw.len; omega))) rfl (by rw [List.length_map]; exact hsz))).trans st_nil)).trans ((seq_nx st_drop).trans (st_nil.trans ?_))
        rw [List.range_succ, List.filter_append]
        simp [hfree, wipeE, encW])
  rw [List.length_map, List.length_range, Nat.zero_add] at hρ
  subst hg
  rw [hf, hρ]
  rfl
end MW

end
section
set_option Elab.async false
set_option linter.all false
set_option maxRecDepth 100000
set_option maxHeartbeats 4000000
namespace MW
theorem wmap_take {pl : PL} {n : S} {found : List Way} {j : Nat} {w : Way} (h : found[j]? = some w) : (found.take (j + 1)).flatMap (ext pl n) = (found.take j).flatMap (ext pl n) ++ ext pl n w := by
  rw [take_succ_at h, List.flatMap_append]
  simp
def innB : C := match c_law_all_ways with
  | .seq _ (.seq (.for_ _ _ (.seq _ (.seq (.for_ _ _ b) _))) _) => b
  | _ => .nil
theorem ways_mid (scr : List Int) (k : Nat) (pl : PL) (g : G) (v : VPL pl) (nd : D) (n : S) (found : List Way) (hn : n ∈ pl.map (·.1)) (hw : ∀ w ∈ found, Wok pl 1000 w) (hz : found.length ≤ 2000000) :
    forL (.nm 5) (fun ρ g => evalC (Q78P scr (k + 3)) innB ρ g) (found.map encTk) [.val (encPL pl), .val nd, .val (encW found), .val (.str n), .own (encW []), .no, .no, .no] g = .ok (.nx [.val (encPL pl), .val nd, .val (encW found), .val (.str n), .own (encW (found.flatMap (ext pl n))), .no, .no, .no]) g := by
  have hrl := v.rowlen hn
  obtain ⟨ρ', g', hf, hρ, hg⟩ := for_inv (t := .nm 5) (body := fun ρ g => evalC (Q78P scr (k + 3)) innB ρ g) (I := fun i ρ g' => ρ = [.val (encPL pl), .val nd, .val (encW found), .val (.str n), .own (encW ((found.take i).flatMap (ext pl n))), .no, .no, .no] ∧ g' = g) (ds := found.map encTk) 0
    (ρ := [.val (encPL pl), .val nd, .val (encW found), .val (.str n), .own (encW []), .no, .no, .no]) (g := g) ⟨by simp, rfl⟩ (fun i d ρ g0 hd hI => by
      obtain ⟨rfl, rfl⟩ := hI
      rw [Nat.zero_add]
      rw [List.getElem?_map] at hd
      obtain ⟨w, hwi, rfl⟩ := Option.map_eq_some_iff.mp hd
      have hwok := hw w (List.mem_of_getElem? hwi)
      have hsz : ((found.take i).flatMap (ext pl n)).length ≤ 8000000 := by
        have h1 := flat_len v hn (found.take i)
        have h2 : (found.take i).length ≤ found.length := by simp; omega
        omega
      refine ⟨_, rfl, [.val (encPL pl), .val nd, .val (encW found), .val (.str n), .own (encW ((found.take (i + 1)).flatMap (ext pl n))), .no, .no, .no], g0, .inl ?_, rfl, rfl⟩
      rw [wmap_take hwi]
      have hrng : evalE (Q78P scr (k + 3)) (.rng1 (.b1 .len (.idx (.v 0) (.v 3)))) [.val (encPL pl), .val nd, .val (encW found), .val (.str n), .own (encW ((found.take i).flatMap (ext pl n))), .val (encTk w), .no, .no] g0 = .ok (.lst ((List.range (rowsOf pl n).length).map fun (i : Nat) => D.int (i : Int))) g0 := by
        have := ev_rng1 (P := Q78P scr (k + 3)) (ρ := [.val (encPL pl), .val nd, .val (encW found), .val (.str n), .own (encW ((found.take i).flatMap (ext pl n))), .val (encTk w), .no, .no]) (ev_b1 (ev_idx (a := .v 0) (ev_v rfl) (b := .v 3) (ev_v rfl) (idx_rows hn)) lenR) (g := g0) (by omega) (by omega)
        rw [Int.toNat_natCast, rngL0] at this
        exact this
      refine (seq_nx ((st_for hrng rfl).trans (ways_in scr k pl g0 v nd (encW found) n w _ hn hwok hsz))).trans ?_
      exact (seq_nx st_drop).trans ((seq_nx st_drop).trans st_nil))
  rw [List.length_map, Nat.zero_add, List.take_length] at hρ
  subst hg
  rw [hf, hρ]
theorem run_ways (scr : List Int) (k : Nat) (pl : PL) (g : G) (v : VPL pl) (nd : D) (names : List S) (hd : itemsE (.v 1) nd = some (names.map .str)) (hn : ∀ n ∈ names, n ∈ pl.map (·.1)) (hz : names.length ≤ 10) :
    run (P78 scr) (k + 4) "_law_all_ways" [encPL pl, nd] g = .ok (encW (waysL pl [[]] names)) g := by
  rw [run_def (by rfl) (fd := fd_law_all_ways) (by rfl) rfl]
  obtain ⟨ρ', g', hf, hρ, hg⟩ := for_inv (t := .nm 3) (body := fun ρ g => evalC (Q78P scr (k + 3)) (.seq (.own 4 (.lst .anil))
  (.seq (.for_ (.nm 5) (.v 2) innB)
  (.seq (.drop [5, 6])
  (.seq (.frz [4])
  (.seq (.asg (.nm 2) (.v 4))
  (.seq (.drop [3, 4, 5, 6])
  .nil)))))) ρ g) (I := fun i ρ g' => ρ = [.val (encPL pl), .val nd, .val (encW (waysL pl [[]] (names.take i))), .no, .no, .no, .no, .no] ∧ g' = g) (ds := names.map .str) 0
    (ρ := [.val (encPL pl), .val nd, .val (encW [[]]), .no, .no, .no, .no, .no]) (g := g) ⟨by simp [waysL], rfl⟩ (fun i d ρ g0 hd hI => by
      obtain ⟨rfl, rfl⟩ := hI
      rw [Nat.zero_add]
      rw [List.getElem?_map] at hd
      obtain ⟨n, hni, rfl⟩ := Option.map_eq_some_iff.mp hd
      have hnm := hn n (List.mem_of_getElem? hni)
      have hil : i < names.length := (List.getElem?_eq_some_iff.mp hni).1
      obtain ⟨w1, w2⟩ := ways_ok v (names.take i) [[]] 0 (fun a ha => hn a (List.mem_of_mem_take ha)) (fun w hw => by simp at hw; subst hw; exact ⟨fun _ h => (by cases h), Nat.le_refl _⟩)
      have htl : (names.take i).length = i := by simp; omega
      rw [htl] at w1 w2
      have hp : 4 ^ i ≤ 4 ^ 10 := Nat.pow_le_pow_right (by decide) (by omega)
      have hsz : (waysL pl [[]] (names.take i)).length ≤ 2000000 := by
        simp at w2
        have : (4 : Nat) ^ 10 = 1048576 := by decide
        omega
      have hwk : ∀ w ∈ waysL pl [[]] (names.take i), Wok pl 1000 w := fun w hw => ⟨(w1 w hw).ok, by have := (w1 w hw).len; omega⟩
      refine ⟨_, rfl, [.val (encPL pl), .val nd, .val (encW (waysL pl [[]] (names.take (i + 1)))), .no, .no, .no, .no, .no], g0, .inl ?_, rfl, rfl⟩
      have ew : waysL pl [[]] (names.take (i + 1)) = (waysL pl [[]] (names.take i)).flatMap (ext pl n) := by
        rw [take_succ_at hni]
        simp [waysL, List.foldl_append]
      rw [ew]
      refine (seq_nx (st_ownL (ev_lst ev_anil rfl) (show 4 < 8 by decide))).trans ?_
      refine (seq_nx ((st_for (ds := (waysL pl [[]] (names.take i)).map encTk) (ev_v rfl) rfl).trans (ways_mid scr k pl g0 v nd n _ hnm hwk hsz))).trans ?_
      rw [seq_nx st_drop, seq_nx st_frz, seq_nx (st_asg (ev_v rfl) rfl), seq_nx st_drop, st_nil]
      rfl)
  rw [List.length_map, Nat.zero_add, List.take_length] at hρ
  subst hg
  unfold fd_law_all_ways c_law_all_ways
  refine (congrArg fin (seq_nx (st_asg (d := encW [[]]) (ev_lst (ev_acons (ev_tup ev_anil rfl) ev_anil) rfl) rfl))).trans ?_
  refine (congrArg fin (seq_nx ((st_for (ev_v rfl) hd).trans hf))).trans ?_
  rw [hρ, seq_nx st_drop, seq_rt (st_ret (ev_v rfl))]
  rfl
end MW

end
section
set_option Elab.async false
set_option linter.all false
set_option maxRecDepth 100000
set_option maxHeartbeats 4000000
namespace MW
/-! ### faults of trees -/
theorem seq_ifrn (h : evalE P e ρ g = .ok x g1) (hx : truth x = some false) (hc : evalC P c2 ρ g1 = .ok (.rt d) g2) : evalC P (.seq (.if_ e c1 c2) r) ρ g = .ok (.rt d) g2 := by
  refine seq_rt ?_
  rw [st_if h hx]
  simpa using hc
def barsT (p q : PRow) (s : Int) : Bool := match lkp p.2 s, lkp q.2 s with
  | some a, some b => !togB a b
  | _, _ => false
theorem run_bars (scr : List Int) (k : Nat) (p q : PRow) (s : Int) (g : G) (hp : PRok p) (hq : PRok q) : run (P78 scr) (k + 3) "bars" [encR p, encR q, .int s] g = .ok (.bl (barsT p q s)) g := by
  rw [run_def (by rfl) (fd := fd_bars) (by rfl) rfl]
  unfold fd_bars c_bars
  refine (congrArg fin (seq_nx (st_asg (ev_tup (ev_acons (ev_b1 (ev_idx (ev_v rfl) ev_k (idxR1 p)) (dictR hp)) (ev_acons (ev_b1 (ev_idx (ev_v rfl) ev_k (idxR1 q)) (dictR hq)) ev_anil)) rfl) rfl))).trans ?_
  have h1 := KeyEnc.int.inn (ev := encB) s p.2
  have h2 := KeyEnc.int.inn (ev := encB) s q.2
  unfold barsT
  cases e1 : lkp p.2 s with
  | none =>
    rw [e1] at h1
    exact congrArg fin (seq_rt (st_ret (ev_andS (v := false) (w := false) (ev_inn (ev_v rfl) (ev_v rfl) h1) (fun h => by cases h))))
  | some a =>
    rw [e1] at h1
    cases e2 : lkp q.2 s with
    | none =>
      rw [e2] at h2
      exact congrArg fin (seq_rt (st_ret (ev_andS (v := true) (w := false) (ev_inn (ev_v rfl) (ev_v rfl) h1) (fun _ => ev_andS (v := false) (w := false) (ev_inn (ev_v rfl) (ev_v rfl) h2) (fun h => by cases h)))))
    | some b =>
      rw [e2] at h2
      exact congrArg fin (seq_rt (st_ret (ev_andS (v := true) (ev_inn (ev_v rfl) (ev_v rfl) h1) (fun _ => ev_andS (v := true) (ev_inn (ev_v rfl) (ev_v rfl) h2) (fun _ => ev_not (ev_call0 (f := "together") (ev_acons (ev_idx (ev_v rfl) (ev_v rfl) (KeyEnc.int.idx e1)) (ev_acons (ev_idx (ev_v rfl) (ev_v rfl) (KeyEnc.int.idx e2)) ev_anil)) rfl (run_together scr k a b g)) rfl)))))
def ixs {α : Type} : Nat → List α → List (Nat × α)
  | _, [] => []
  | i, x :: xs => (i, x) :: ixs (i + 1) xs
theorem ixs_enum {α : Type} (enc : α → D) : ∀ (i : Nat) (xs : List α), enumL i (xs.map enc) = (ixs i xs).map fun p => D.tup [.int p.1, enc p.2]
  | _, [] => rfl
  | i, x :: xs => by simp only [List.map_cons, enumL, ixs, ixs_enum enc (i + 1) xs]
theorem ixs_fst {α : Type} : ∀ (i : Nat) (xs : List α), (ixs i xs).map (·.1) = List.range' i xs.length
  | _, [] => rfl
  | i, x :: xs => by simp only [ixs, List.map_cons, ixs_fst (i + 1) xs, List.length_cons, List.range'_succ]
theorem ixs_get {α : Type} : ∀ (i : Nat) (xs : List α) (p : Nat × α), p ∈ ixs i xs → i ≤ p.1 ∧ xs[p.1 - i]? = some p.2
  | i, [], p, h => by cases h
  | i, x :: xs, p, h => by
    rcases List.mem_cons.mp h with rfl | h
    · exact ⟨Nat.le_refl _, by simp⟩
    · obtain ⟨h1, h2⟩ := ixs_get (i + 1) xs p h
      refine ⟨by omega, ?_⟩
      rw [show p.1 - i = (p.1 - (i + 1)) + 1 by omega]
      simpa using h2
theorem ixs_len {α : Type} : ∀ (i : Nat) (xs : List α), (ixs i xs).length = xs.length
  | _, [] => rfl
  | i, x :: xs => by simp [ixs, ixs_len (i + 1) xs]
def fltB (pl : PL) (taken : List (S × Nat)) (n : S) (rec : List (S × Nat) → Tr → Option S) (p : Nat × Tr) : Option S := match p.2 with
  | .name m bs => rec (taken ++ [(n, p.1)]) (.name m bs)
  | .over r s => if r ∉ taken then some s_over else if barsT (gp pl (n, p.1)) (gp pl r) s = true then none else some s_scale
def faultT (pl : PL) : Nat → List S → List (S × Nat) → Tr → Option S
  | 0, _, _, _ => some s_name
  | _ + 1, _, _, .over _ _ => some s_name
  | m + 1, names, taken, .name n bs => if n ∉ names then some s_name else if bs.length ≠ (rowsOf pl n).length then some s_branches else
    (ixs 0 bs).findSome? (fltB pl taken n (faultT pl m (names.filter fun a => !decide (a = n))))
def encOS : Option S → D
  | none => .non
  | some w => .str w
theorem isNon_OS (o : Option S) : isNon (encOS o) = o.isNone := by cases o <;> rfl
def fltC : C := match c_fault_of_over with
  | .seq _ (.seq _ (.seq _ (.seq (.for_ _ _ b) _))) => b
  | _ => .nil
def lfltC : C := match c_law_fault with
  | .seq _ (.seq _ (.seq _ (.seq (.for_ _ _ b) _))) => b
  | _ => .nil
theorem filt_lt {n : S} : ∀ {names : List S}, n ∈ names → (names.filter fun a => !decide (a = n)).length < names.length
  | [], h => by cases h
  | a :: names, h => by
    simp only [List.filter_cons]
    by_cases e : a = n
    · simp only [e, decide_true, Bool.not_true, List.length_cons]
      have := List.length_filter_le (fun a => !decide (a = n)) names
      simp only [Bool.false_eq_true, if_false]
      omega
    · have := filt_lt ((List.mem_cons.mp h).resolve_left fun q => e q.symm)
      simp only [e, decide_false, Bool.not_false, if_true, List.length_cons]
      omega
theorem lenT (xs : List D) : b1D .len (.tup xs) = some (.int xs.length) := rfl
theorem cmp_neI (a b : Int) : cmpD .ne (.int a) (.int b) = some (!decide (a = b)) := EqEnc.int.cmpN (by decide) a b
theorem run_fault (scr : List Int) (k : Nat) (pl : PL) (g : G) (v : VPL pl) : ∀ (m : Nat) (names : List S) (taken : List (S × Nat)) (t : Tr), names.length ≤ m → (∀ n ∈ names, n ∈ pl.map (·.1)) → (∀ t ∈ taken, Rok pl t) → taken.length + m ≤ 1000 →
    run (P78 scr) (k + 5 + m) "fault_of_over" [encPL pl, .tup (names.map .str), encTr t, encTk taken] g = .ok (encOS (faultT pl m names taken t)) g := by
  intro m
  induction m with
  | zero =>
    intro names taken t hl hn ht hz
    have e : names = [] := List.eq_nil_of_length_eq_zero (by omega)
    subst e
    show run (P78 scr) (k + 4 + 1) _ _ _ = _
    rw [run_def (by rfl) (fd := fd_fault_of_over) (by rfl) rfl]
    cases t with
    | over r s =>
      exact congrArg fin (seq_ift (ev_orS (v := true) (w := true) (ev_cmp (ev_idx (z := .str s_over) (ev_v rfl) ev_k rfl) ev_k (EqEnc.str.cmpN (by decide) _ _)) (fun h => by cases h)) rfl (seq_rt (st_ret ev_k)))
    | name n bs =>
      exact congrArg fin (seq_ift (ev_orS (v := false) (w := true) (ev_cmp (ev_idx (z := .str s_name) (ev_v rfl) ev_k rfl) ev_k (EqEnc.str.cmpN (by decide) _ _)) (fun _ => ev_nin (v := false) (ev_idx (z := .str n) (ev_v rfl) ev_k rfl) (ev_v rfl) (EqEnc.str.innT (by decide) n []))) rfl (seq_rt (st_ret ev_k)))
  | succ m ih =>
    intro names taken t hl hn ht hz
    show run (P78 scr) (k + 5 + m + 1) _ _ _ = _
    rw [run_def (by rfl) (fd := fd_fault_of_over) (by rfl) rfl]
    cases t with
    | over r s =>
      exact congrArg fin (seq_ift (ev_orS (v := true) (w := true) (ev_cmp (ev_idx (z := .str s_over) (ev_v rfl) ev_k rfl) ev_k (EqEnc.str.cmpN (by decide) _ _)) (fun h => by cases h)) rfl (seq_rt (st_ret ev_k)))
    | name n bs =>
      have t1 := ev_orS (P := Q78P scr (k + 5 + m)) (ρ := [.val (encPL pl), .val (.tup (names.map .str)), .val (encTr (.name n bs)), .val (encTk taken), .no, .no, .no, .no, .no]) (g := g) (v := false) (ev_cmp (ev_idx (a := .v 2) (z := .str s_name) (ev_v rfl) (ev_k (d := .int 0)) rfl) (ev_k (d := .str s_name)) (EqEnc.str.cmpN (by decide) _ _)) (fun _ => ev_nin (ev_idx (a := .v 2) (z := .str n) (ev_v rfl) (ev_k (d := .int 1)) rfl) (ev_v (i := 1) rfl) (EqEnc.str.innT (by decide) n names))
      rw [faultT]
      by_cases hm : n ∈ names
      · rw [if_neg (not_not_intro hm)]
        simp only [hm, decide_true, Bool.not_true, Bool.or_false] at t1
        have hnm := hn n hm
        have t2 := ev_cmp (P := Q78P scr (k + 5 + m)) (ρ := [.val (encPL pl), .val (.tup (names.map .str)), .val (encTr (.name n bs)), .val (encTk taken), .no, .no, .no, .no, .no]) (g := g) (ev_b1 (ev_idx (a := .v 2) (z := .tup (encTrs bs)) (ev_v rfl) (ev_k (d := .int 2)) rfl) (lenT _)) (ev_b1 (ev_idx (a := .v 0) (ev_v rfl) (ev_idx (a := .v 2) (z := .str n) (ev_v rfl) (ev_k (d := .int 1)) rfl) (idx_rows hnm)) lenR) (cmp_neI _ _)
        rw [encTrs_map, List.length_map] at t2
        by_cases hb : bs.length = (rowsOf pl n).length
        · rw [if_neg (not_not_intro hb)]
          rw [hb, decide_eq_true rfl] at t2
          refine (congrArg fin (seq_ifn t1 rfl st_nil)).trans ?_
          refine (congrArg fin (seq_ifn t2 rfl st_nil)).trans ?_
          have hlc := ev_lcM (P := Q78P scr (k + 5 + m)) (enc := D.str) (xs := names) (p := fun a => !decide (a = n)) (f := D.str) (g := g) (g1 := g) (x := .tup (names.map .str)) (it := .v 1)
            (ρ := [.val (encPL pl), .val (.tup (names.map .str)), .val (encTr (.name n bs)), .val (encTk taken), .no, .no, .no, .no, .no]) (elt := .v 5) (tg := .nm 5) (own := [5])
            (test := .cmp .ne (.v 5) (.idx (.v 2) (.k (.int 1)))) (ev_v rfl) rfl (by omega) fun a ha => ⟨_, rfl, ev_cmp (ev_v rfl) (ev_idx (z := .str n) (ev_v rfl) ev_k rfl) (EqEnc.str.cmpN (by decide) a n), fun _ => ev_v rfl⟩
          have htup : b1D .tuple (.lst ((names.filter fun a => !decide (a = n)).map D.str)) = some (.tup ((names.filter fun a => !decide (a = n)).map D.str)) := rfl
          refine (congrArg fin (seq_nx (st_asg (ev_b1 hlc htup) rfl))).trans ?_
          have hleft : (names.filter fun a => !decide (a = n)).length ≤ m := by have := filt_lt hm; omega
          generalize hL : (names.filter fun a => !decide (a = n)) = left at hleft
          have hf := for_first (ρ := [.val (encPL pl), .val (.tup (names.map .str)), .val (encTr (.name n bs)), .val (encTk taken), .val (.tup (left.map .str)), .no, .no, .no, .no]) (g := g) (enc := fun p : Nat × Tr => D.tup [.int p.1, encTr p.2]) (xs := ixs 0 bs)
            (f := fun p => (fltB pl taken n (faultT pl m left) p).map D.str) (tg := .tup (.tcons (.nm 6) (.tcons (.nm 7) .tnil))) (body := fun ρ g => evalC (Q78P scr (k + 5 + m)) fltC ρ g) fun p hp => by
              refine ⟨_, rfl, ?_⟩
              obtain ⟨_, hpi⟩ := ixs_get 0 bs p hp
              have hil : p.1 < bs.length := (List.getElem?_eq_some_iff.mp hpi).1
              have hr : Rok pl (n, p.1) := ⟨hnm, by show p.1 < (rowsOf pl n).length; omega⟩
              obtain ⟨i, b⟩ := p
              cases b with
              | name m' cs =>
                have ih1 := ih left (taken ++ [(n, i)]) (.name m' cs) hleft (fun a ha => hn a (by rw [← hL] at ha; exact (List.mem_filter.mp ha).1)) (fun t h => by
                  rcases List.mem_append.mp h with h | h
                  · exact ht t h
                  · simp at h; subst h; exact hr) (by simp; omega)
                have hc : evalE (Q78P scr (k + 5 + m)) (.call "fault_of_over" (.acons (.v 0) (.acons (.v 4) (.acons (.v 7) (.acons (.bin .add (.v 3) (.tup (.acons (.tup (.acons (.idx (.v 2) (.k (.int 1))) (.acons (.v 6) .anil))) .anil))) .anil)))) 0)
                    [.val (encPL pl), .val (.tup (names.map .str)), .val (encTr (.name n bs)), .val (encTk taken), .val (.tup (left.map .str)), .no, .val (.int i), .val (encTr (.name m' cs)), .no] g = .ok (encOS (faultT pl m left (taken ++ [(n, i)]) (.name m' cs))) g :=
                  ev_call0 (ev_acons (ev_v rfl) (ev_acons (ev_v rfl) (ev_acons (ev_v rfl) (ev_acons (ev_bin (ev_v rfl) (ev_tup (ev_acons (ev_tup (ev_acons (ev_idx (z := .str n) (ev_v rfl) ev_k rfl) (ev_acons (ev_v rfl) ev_anil)) rfl) ev_anil) rfl) (encTk_app taken (n, i) (by omega))) ev_anil)))) rfl ih1
                have tt := ev_cmp (P := Q78P scr (k + 5 + m)) (ρ := [.val (encPL pl), .val (.tup (names.map .str)), .val (encTr (.name n bs)), .val (encTk taken), .val (.tup (left.map .str)), .no, .val (.int i), .val (encTr (.name m' cs)), .no]) (g := g) (ev_idx (a := .v 7) (z := .str s_name) (ev_v rfl) (ev_k (d := .int 0)) rfl) (ev_k (d := .str s_over)) (EqEnc.str.cmpN (by decide) s_name s_over)
                rw [show fltB pl taken n (faultT pl m left) (i, .name m' cs) = faultT pl m left (taken ++ [(n, i)]) (.name m' cs) from rfl]
                cases ho : faultT pl m left (taken ++ [(n, i)]) (.name m' cs) with
                | none =>
                  rw [ho] at hc
                  exact (seq_ify tt rfl ((seq_nx (st_asg hc rfl)).trans ((seq_ifn (ev_isnN (ev_v rfl) ev_k) rfl st_nil).trans st_nil))).trans ((seq_nx st_drop).trans ((seq_nx st_drop).trans st_nil))
                | some w =>
                  rw [ho] at hc
                  exact seq_ift tt rfl ((seq_nx (st_asg hc rfl)).trans (seq_ift (ev_isnN (ev_v rfl) ev_k) rfl (seq_rt (st_ret (ev_v rfl)))))
              | over r s =>
                have tt := ev_cmp (P := Q78P scr (k + 5 + m)) (ρ := [.val (encPL pl), .val (.tup (names.map .str)), .val (encTr (.name n bs)), .val (encTk taken), .val (.tup (left.map .str)), .no, .val (.int i), .val (encTr (.over r s)), .no]) (g := g) (ev_idx (a := .v 7) (z := .str s_over) (ev_v rfl) (ev_k (d := .int 0)) rfl) (ev_k (d := .str s_over)) (EqEnc.str.cmpN (by decide) s_over s_over)
                have tin := ev_nin (P := Q78P scr (k + 5 + m)) (ρ := [.val (encPL pl), .val (.tup (names.map .str)), .val (encTr (.name n bs)), .val (encTk taken), .val (.tup (left.map .str)), .no, .val (.int i), .val (encTr (.over r s)), .no]) (g := g) (ev_idx (a := .v 7) (z := encT r) (ev_v rfl) (ev_k (d := .int 1)) rfl) (ev_v (i := 3) rfl) (EqEnc.taken.innT (by decide) r taken)
                rw [show fltB pl taken n (faultT pl m left) (i, .over r s) = (if r ∉ taken then some s_over else if barsT (gp pl (n, i)) (gp pl r) s = true then none else some s_scale) from rfl]
                by_cases hrt : r ∈ taken
                · rw [if_neg (not_not_intro hrt)]
                  simp only [hrt, decide_true, Bool.not_true] at tin
                  have hrr := ht r hrt
                  have tb := ev_not (P := Q78P scr (k + 5 + m)) (ρ := [.val (encPL pl), .val (.tup (names.map .str)), .val (encTr (.name n bs)), .val (encTk taken), .val (.tup (left.map .str)), .no, .val (.int i), .val (encTr (.over r s)), .no]) (g := g)
                    (ev_call0 (f := "bars") (ev_acons (ev_gp (a := .v 0) (b := .idx (.v 2) (.k (.int 1))) (c := .v 6) v hr (ev_v rfl) (ev_idx (z := .str n) (ev_v rfl) ev_k rfl) (ev_v rfl)) (ev_acons (ev_gp (a := .v 0) (b := .idx (.idx (.v 7) (.k (.int 1))) (.k (.int 0))) (c := .idx (.idx (.v 7) (.k (.int 1))) (.k (.int 1))) v hrr (ev_v rfl) (ev_idx (ev_idx (z := encT r) (ev_v rfl) ev_k rfl) ev_k rfl) (ev_idx (ev_idx (z := encT r) (ev_v rfl) ev_k rfl) ev_k rfl)) (ev_acons (ev_idx (a := .v 7) (z := .int s) (ev_v rfl) (ev_k (d := .int 2)) rfl) ev_anil))) rfl
                      (show run (P78 scr) (k + 5 + m) _ _ _ = _ from by
                        have := run_bars scr (k + 2 + m) (gp pl (n, i)) (gp pl r) s g (v.rok hr).1 (v.rok hrr).1
                        rw [show k + 2 + m + 3 = k + 5 + m by omega] at this
                        exact this)) (v := barsT (gp pl (n, i)) (gp pl r) s) rfl
                  cases hbt : barsT (gp pl (n, i)) (gp pl r) s with
                  | true =>
                    rw [hbt] at tb
                    exact (seq_ifn tt rfl ((seq_ifn tin rfl ((seq_ifn tb rfl st_nil).trans st_nil)).trans st_nil)).trans ((seq_nx st_drop).trans ((seq_nx st_drop).trans st_nil))
                  | false =>
                    rw [hbt] at tb
                    exact seq_ifrn tt rfl (seq_ifrn tin rfl (seq_ift tb rfl (seq_rt (st_ret ev_k))))
                · simp only [hrt, decide_false, Bool.not_false] at tin
                  rw [if_pos hrt]
                  exact seq_ifrn tt rfl (seq_ift tin rfl (seq_rt (st_ret ev_k)))
          have hit : evalE (Q78P scr (k + 5 + m)) (.enum (.idx (.v 2) (.k (.int 2)))) [.val (encPL pl), .val (.tup (names.map .str)), .val (encTr (.name n bs)), .val (encTk taken), .val (.tup (left.map .str)), .no, .no, .no, .no] g = .ok (.lst ((ixs 0 bs).map fun p : Nat × Tr => D.tup [.int p.1, encTr p.2])) g := by
            rw [← ixs_enum, ← encTrs_map]
            exact ev_enumT (ev_idx (z := .tup (encTrs bs)) (ev_v rfl) ev_k rfl)
          refine (congrArg fin (seq_first ((st_for hit rfl).trans hf))).trans ?_
          have em : (ixs 0 bs).findSome? (fun p => (fltB pl taken n (faultT pl m left) p).map D.str) = ((ixs 0 bs).findSome? (fltB pl taken n (faultT pl m left))).map D.str := by
            rw [List.map_findSome?]; rfl
          rw [em]
          cases (ixs 0 bs).findSome? (fltB pl taken n (faultT pl m left)) with
          | none =>
            show fin (evalC _ _ _ _) = _
            rw [seq_nx st_drop, seq_rt (st_ret ev_k)]
            rfl
          | some i => rfl
        · rw [if_pos hb]
          rw [decide_eq_false (by omega)] at t2
          refine (congrArg fin (seq_ifn t1 rfl st_nil)).trans ?_
          exact congrArg fin (seq_ift t2 rfl (seq_rt (st_ret ev_k)))
      · rw [if_pos hm]
        simp only [hm, decide_false, Bool.not_false, Bool.or_true] at t1
        exact congrArg fin (seq_ift t1 rfl (seq_rt (st_ret ev_k)))
end MW

end
section
set_option Elab.async false
set_option linter.all false
set_option maxRecDepth 100000
set_option maxHeartbeats 4000000
namespace MW
theorem idx_natT {xs : List D} {k : Nat} {d : D} (h : xs[k]? = some d) : idxD (.tup xs) (.int k) = some d := by
  have hk := (List.getElem?_eq_some_iff.mp h).1
  simp only [idxD, seqIx]
  rw [if_pos (by omega), if_pos (by omega)]
  simp [h]
theorem lstT_app (t : List (S × Nat)) (r : S × Nat) (h : t.length ≤ 10000) : binD .add (.lst (t.map encT)) (.lst [.tup [.str r.1, .int r.2]]) = some (.lst ((t ++ [r]).map encT)) := by
  simp only [binD]
  rw [if_pos (decide_eq_true (by simp; omega))]
  simp [encT]
theorem run_lfault (scr : List Int) (k : Nat) (pl : PL) (g : G) (v : VPL pl) : ∀ (m : Nat) (names : List S) (taken : List (S × Nat)) (t : Tr), names.length ≤ m → (∀ n ∈ names, n ∈ pl.map (·.1)) → (∀ t ∈ taken, Rok pl t) → taken.length + m ≤ 1000 →
    run (P78 scr) (k + 5 + m) "_law_fault" [encPL pl, .lst (names.map .str), encTr t, .lst (taken.map encT)] g = .ok (encOS (faultT pl m names taken t)) g := by
  intro m
  induction m with
  | zero =>
    intro names taken t hl hn ht hz
    have e : names = [] := List.eq_nil_of_length_eq_zero (by omega)
    subst e
    show run (P78 scr) (k + 4 + 1) _ _ _ = _
    rw [run_def (by rfl) (fd := fd_law_fault) (by rfl) rfl]
    cases t with
    | over r s =>
      exact congrArg fin (seq_ift (ev_orS (v := true) (w := true) (ev_cmp (ev_idx (z := .str s_over) (ev_v rfl) ev_k rfl) ev_k (EqEnc.str.cmpN (by decide) _ _)) (fun h => by cases h)) rfl (seq_rt (st_ret ev_k)))
    | name n bs =>
      exact congrArg fin (seq_ift (ev_orS (v := false) (w := true) (ev_cmp (ev_idx (z := .str s_name) (ev_v rfl) ev_k rfl) ev_k (EqEnc.str.cmpN (by decide) _ _)) (fun _ => ev_nin (v := false) (ev_idx (z := .str n) (ev_v rfl) ev_k rfl) (ev_v rfl) (EqEnc.str.inn (by decide) n []))) rfl (seq_rt (st_ret ev_k)))
  | succ m ih =>
    intro names taken t hl hn ht hz
    show run (P78 scr) (k + 5 + m + 1) _ _ _ = _
    rw [run_def (by rfl) (fd := fd_law_fault) (by rfl) rfl]
    cases t with
    | over r s =>
      exact congrArg fin (seq_ift (ev_orS (v := true) (w := true) (ev_cmp (ev_idx (z := .str s_over) (ev_v rfl) ev_k rfl) ev_k (EqEnc.str.cmpN (by decide) _ _)) (fun h => by cases h)) rfl (seq_rt (st_ret ev_k)))
    | name n bs =>
      have t1 := ev_orS (P := Q78P scr (k + 5 + m)) (ρ := [.val (encPL pl), .val (.lst (names.map .str)), .val (encTr (.name n bs)), .val (.lst (taken.map encT)), .no, .no, .no, .no, .no, .no, .no]) (g := g) (v := false) (ev_cmp (ev_idx (a := .v 2) (z := .str s_name) (ev_v rfl) (ev_k (d := .int 0)) rfl) (ev_k (d := .str s_name)) (EqEnc.str.cmpN (by decide) _ _)) (fun _ => ev_nin (ev_idx (a := .v 2) (z := .str n) (ev_v rfl) (ev_k (d := .int 1)) rfl) (ev_v (i := 1) rfl) (EqEnc.str.inn (by decide) n names))
      rw [faultT]
      by_cases hm : n ∈ names
      · rw [if_neg (not_not_intro hm)]
        simp only [hm, decide_true, Bool.not_true, Bool.or_false] at t1
        have hnm := hn n hm
        have t2 := ev_cmp (P := Q78P scr (k + 5 + m)) (ρ := [.val (encPL pl), .val (.lst (names.map .str)), .val (encTr (.name n bs)), .val (.lst (taken.map encT)), .no, .no, .no, .no, .no, .no, .no]) (g := g) (ev_b1 (ev_idx (a := .v 2) (z := .tup (encTrs bs)) (ev_v rfl) (ev_k (d := .int 2)) rfl) (lenT _)) (ev_b1 (ev_idx (a := .v 0) (ev_v rfl) (ev_idx (a := .v 2) (z := .str n) (ev_v rfl) (ev_k (d := .int 1)) rfl) (idx_rows hnm)) lenR) (cmp_neI _ _)
        rw [encTrs_map, List.length_map] at t2
        by_cases hb : bs.length = (rowsOf pl n).length
        · rw [if_neg (not_not_intro hb)]
          rw [hb, decide_eq_true rfl] at t2
          refine (congrArg fin (seq_ifn t1 rfl st_nil)).trans ?_
          refine (congrArg fin (seq_ifn t2 rfl st_nil)).trans ?_
          have hlc := ev_lcM (P := Q78P scr (k + 5 + m)) (enc := D.str) (xs := names) (p := fun a => !decide (a = n)) (f := D.str) (g := g) (g1 := g) (x := .lst (names.map .str)) (it := .v 1)
            (ρ := [.val (encPL pl), .val (.lst (names.map .str)), .val (encTr (.name n bs)), .val (.lst (taken.map encT)), .no, .no, .no, .no, .no, .no, .no]) (elt := .v 5) (tg := .nm 5) (own := [5])
            (test := .cmp .ne (.v 5) (.idx (.v 2) (.k (.int 1)))) (ev_v rfl) rfl (by omega) fun a ha => ⟨_, rfl, ev_cmp (ev_v rfl) (ev_idx (z := .str n) (ev_v rfl) ev_k rfl) (EqEnc.str.cmpN (by decide) a n), fun _ => ev_v rfl⟩
          refine (congrArg fin (seq_nx (st_asg hlc rfl))).trans ?_
          have hleft : (names.filter fun a => !decide (a = n)).length ≤ m := by have := filt_lt hm; omega
          generalize hL : (names.filter fun a => !decide (a = n)) = left at hleft
          have hf := for_first (ρ := [.val (encPL pl), .val (.lst (names.map .str)), .val (encTr (.name n bs)), .val (.lst (taken.map encT)), .val (.lst (left.map .str)), .no, .no, .no, .no, .no, .no]) (g := g) (enc := fun p : Nat × Tr => D.int p.1) (xs := ixs 0 bs)
            (f := fun p => (fltB pl taken n (faultT pl m left) p).map D.str) (tg := .nm 6) (body := fun ρ g => evalC (Q78P scr (k + 5 + m)) lfltC ρ g) fun p hp => by
              refine ⟨_, rfl, ?_⟩
              obtain ⟨_, hpi⟩ := ixs_get 0 bs p hp
              have hil : p.1 < bs.length := (List.getElem?_eq_some_iff.mp hpi).1
              have hr : Rok pl (n, p.1) := ⟨hnm, by show p.1 < (rowsOf pl n).length; omega⟩
              obtain ⟨i, b⟩ := p
              have hbi : evalE (Q78P scr (k + 5 + m)) (.idx (.idx (.v 2) (.k (.int 2))) (.v 6)) [.val (encPL pl), .val (.lst (names.map .str)), .val (encTr (.name n bs)), .val (.lst (taken.map encT)), .val (.lst (left.map .str)), .no, .val (.int i), .no, .no, .no, .no] g = .ok (encTr b) g :=
                ev_idx (ev_idx (z := .tup (encTrs bs)) (ev_v rfl) ev_k rfl) (ev_v rfl) (idx_natT (by rw [encTrs_map, List.getElem?_map]; simp only [Nat.sub_zero] at hpi; rw [hpi]; rfl))
              cases b with
              | name m' cs =>
                have ih1 := ih left (taken ++ [(n, i)]) (.name m' cs) hleft (fun a ha => hn a (by rw [← hL] at ha; exact (List.mem_filter.mp ha).1)) (fun t h => by
                  rcases List.mem_append.mp h with h | h
                  · exact ht t h
                  · simp at h; subst h; exact hr) (by simp; omega)
                have hc : evalE (Q78P scr (k + 5 + m)) (.call "_law_fault" (.acons (.v 0) (.acons (.v 4) (.acons (.v 7) (.acons (.bin .add (.v 3) (.lst (.acons (.tup (.acons (.idx (.v 2) (.k (.int 1))) (.acons (.v 6) .anil))) .anil))) .anil)))) 0)
                    [.val (encPL pl), .val (.lst (names.map .str)), .val (encTr (.name n bs)), .val (.lst (taken.map encT)), .val (.lst (left.map .str)), .no, .val (.int i), .val (encTr (.name m' cs)), .no, .no, .no] g = .ok (encOS (faultT pl m left (taken ++ [(n, i)]) (.name m' cs))) g :=
                  ev_call0 (ev_acons (ev_v rfl) (ev_acons (ev_v rfl) (ev_acons (ev_v rfl) (ev_acons (ev_bin (ev_v rfl) (ev_lst (ev_acons (ev_tup (ev_acons (ev_idx (z := .str n) (ev_v rfl) ev_k rfl) (ev_acons (ev_v rfl) ev_anil)) rfl) ev_anil) rfl) (lstT_app taken (n, i) (by omega))) ev_anil)))) rfl ih1
                have tt := ev_cmp (P := Q78P scr (k + 5 + m)) (ρ := [.val (encPL pl), .val (.lst (names.map .str)), .val (encTr (.name n bs)), .val (.lst (taken.map encT)), .val (.lst (left.map .str)), .no, .val (.int i), .val (encTr (.name m' cs)), .no, .no, .no]) (g := g) (ev_idx (a := .v 7) (z := .str s_name) (ev_v rfl) (ev_k (d := .int 0)) rfl) (ev_k (d := .str s_over)) (EqEnc.str.cmpN (by decide) s_name s_over)
                rw [show fltB pl taken n (faultT pl m left) (i, .name m' cs) = faultT pl m left (taken ++ [(n, i)]) (.name m' cs) from rfl]
                cases ho : faultT pl m left (taken ++ [(n, i)]) (.name m' cs) with
                | none =>
                  rw [ho] at hc
                  exact (seq_nx (st_asg hbi rfl)).trans <| (seq_ify tt rfl ((seq_nx (st_asg hc rfl)).trans ((seq_ifn (ev_isnN (ev_v rfl) ev_k) rfl st_nil).trans st_nil))).trans ((seq_nx st_drop).trans ((seq_nx st_drop).trans st_nil))
                | some w =>
                  rw [ho] at hc
                  exact (seq_nx (st_asg hbi rfl)).trans <| seq_ift tt rfl ((seq_nx (st_asg hc rfl)).trans (seq_ift (ev_isnN (ev_v rfl) ev_k) rfl (seq_rt (st_ret (ev_v rfl)))))
              | over r s =>
                have tt := ev_cmp (P := Q78P scr (k + 5 + m)) (ρ := [.val (encPL pl), .val (.lst (names.map .str)), .val (encTr (.name n bs)), .val (.lst (taken.map encT)), .val (.lst (left.map .str)), .no, .val (.int i), .val (encTr (.over r s)), .no, .no, .no]) (g := g) (ev_idx (a := .v 7) (z := .str s_over) (ev_v rfl) (ev_k (d := .int 0)) rfl) (ev_k (d := .str s_over)) (EqEnc.str.cmpN (by decide) s_over s_over)
                have tin := ev_nin (P := Q78P scr (k + 5 + m)) (ρ := [.val (encPL pl), .val (.lst (names.map .str)), .val (encTr (.name n bs)), .val (.lst (taken.map encT)), .val (.lst (left.map .str)), .no, .val (.int i), .val (encTr (.over r s)), .no, .no, .no]) (g := g) (ev_idx (a := .v 7) (z := encT r) (ev_v rfl) (ev_k (d := .int 1)) rfl) (ev_v (i := 3) rfl) (EqEnc.taken.inn (by decide) r taken)
                rw [show fltB pl taken n (faultT pl m left) (i, .over r s) = (if r ∉ taken then some s_over else if barsT (gp pl (n, i)) (gp pl r) s = true then none else some s_scale) from rfl]
                by_cases hrt : r ∈ taken
                · rw [if_neg (not_not_intro hrt)]
                  simp only [hrt, decide_true, Bool.not_true] at tin
                  have hrr := ht r hrt
                  have hd1 : evalE (Q78P scr (k + 5 + m)) (.b1 .dict (.idx (.idx (.idx (.v 0) (.idx (.v 2) (.k (.int 1)))) (.v 6)) (.k (.int 1)))) [.val (encPL pl), .val (.lst (names.map .str)), .val (encTr (.name n bs)), .val (.lst (taken.map encT)), .val (.lst (left.map .str)), .no, .val (.int i), .val (encTr (.over r s)), .no, .no, .no] g = .ok (encDK D.int encB (gp pl (n, i)).2) g :=
                    ev_b1 (ev_idx (ev_gp (a := .v 0) (b := .idx (.v 2) (.k (.int 1))) (c := .v 6) v hr (ev_v rfl) (ev_idx (z := .str n) (ev_v rfl) ev_k rfl) (ev_v rfl)) ev_k (idxR1 _)) (dictR (v.rok hr).1)
                  have hd2 : evalE (Q78P scr (k + 5 + m)) (.b1 .dict (.idx (.idx (.idx (.v 0) (.idx (.idx (.v 7) (.k (.int 1))) (.k (.int 0)))) (.idx (.idx (.v 7) (.k (.int 1))) (.k (.int 1)))) (.k (.int 1)))) [.val (encPL pl), .val (.lst (names.map .str)), .val (encTr (.name n bs)), .val (.lst (taken.map encT)), .val (.lst (left.map .str)), .no, .val (.int i), .val (encTr (.over r s)), .no, .val (encDK D.int encB (gp pl (n, i)).2), .no] g = .ok (encDK D.int encB (gp pl r).2) g :=
                    ev_b1 (ev_idx (ev_gp (a := .v 0) (b := .idx (.idx (.v 7) (.k (.int 1))) (.k (.int 0))) (c := .idx (.idx (.v 7) (.k (.int 1))) (.k (.int 1))) v hrr (ev_v rfl) (ev_idx (ev_idx (z := encT r) (ev_v rfl) ev_k rfl) ev_k rfl) (ev_idx (ev_idx (z := encT r) (ev_v rfl) ev_k rfl) ev_k rfl)) ev_k (idxR1 _)) (dictR (v.rok hrr).1)
                  have tb : evalE (Q78P scr (k + 5 + m)) (.or (.cmp .nin (.idx (.v 7) (.k (.int 2))) (.v 9)) (.or (.cmp .nin (.idx (.v 7) (.k (.int 2))) (.v 10)) (.call "_law_together" (.acons (.idx (.v 9) (.idx (.v 7) (.k (.int 2)))) (.acons (.idx (.v 10) (.idx (.v 7) (.k (.int 2)))) .anil)) 0)))
                      [.val (encPL pl), .val (.lst (names.map .str)), .val (encTr (.name n bs)), .val (.lst (taken.map encT)), .val (.lst (left.map .str)), .no, .val (.int i), .val (encTr (.over r s)), .no, .val (encDK D.int encB (gp pl (n, i)).2), .val (encDK D.int encB (gp pl r).2)] g = .ok (.bl (!barsT (gp pl (n, i)) (gp pl r) s)) g := by
                    have q1 := KeyEnc.int.inn (ev := encB) s (gp pl (n, i)).2
                    have q2 := KeyEnc.int.inn (ev := encB) s (gp pl r).2
                    unfold barsT
                    cases e1 : lkp (gp pl (n, i)).2 s with
                    | none =>
                      rw [e1] at q1
                      exact ev_orS (v := true) (w := true) (ev_nin (ev_idx (a := .v 7) (z := .int s) (ev_v rfl) ev_k rfl) (ev_v rfl) q1) (fun h => by cases h)
                    | some a =>
                      rw [e1] at q1
                      cases e2 : lkp (gp pl r).2 s with
                      | none =>
                        rw [e2] at q2
                        exact ev_orS (v := false) (w := true) (ev_nin (ev_idx (a := .v 7) (z := .int s) (ev_v rfl) ev_k rfl) (ev_v rfl) q1) (fun _ => ev_orS (v := true) (w := true) (ev_nin (ev_idx (a := .v 7) (z := .int s) (ev_v rfl) ev_k rfl) (ev_v rfl) q2) (fun h => by cases h))
                      | some b =>
                        rw [e2] at q2
                        have ht1 := run_ltogether scr (k + 3 + m) a b g ((v.rok hr).1.lb _ (lkp_mem e1)) ((v.rok hrr).1.lb _ (lkp_mem e2))
                        rw [show k + 3 + m + 2 = k + 5 + m by omega] at ht1
                        have := ev_orS (P := Q78P scr (k + 5 + m)) (ρ := [.val (encPL pl), .val (.lst (names.map .str)), .val (encTr (.name n bs)), .val (.lst (taken.map encT)), .val (.lst (left.map .str)), .no, .val (.int i), .val (encTr (.over r s)), .no, .val (encDK D.int encB (gp pl (n, i)).2), .val (encDK D.int encB (gp pl r).2)]) (g := g) (v := false) (ev_nin (ev_idx (a := .v 7) (z := .int s) (ev_v rfl) (ev_k (d := .int 2)) rfl) (ev_v (i := 9) rfl) q1) (fun _ => ev_orS (v := false) (ev_nin (ev_idx (a := .v 7) (z := .int s) (ev_v rfl) (ev_k (d := .int 2)) rfl) (ev_v (i := 10) rfl) q2) (fun _ => ev_call0 (f := "_law_together") (ev_acons (ev_idx (ev_v (i := 9) rfl) (ev_idx (a := .v 7) (z := .int s) (ev_v rfl) (ev_k (d := .int 2)) rfl) (KeyEnc.int.idx e1)) (ev_acons (ev_idx (ev_v (i := 10) rfl) (ev_idx (a := .v 7) (z := .int s) (ev_v rfl) (ev_k (d := .int 2)) rfl) (KeyEnc.int.idx e2)) ev_anil)) rfl ht1))
                        simpa using this
                  refine (seq_nx (st_asg hbi rfl)).trans ?_
                  cases hbt : barsT (gp pl (n, i)) (gp pl r) s with
                  | true =>
                    rw [hbt] at tb
                    exact (seq_ifn tt rfl ((seq_ifn tin rfl ((seq_nx (st_asg hd1 rfl)).trans ((seq_nx (st_asg hd2 rfl)).trans ((seq_ifn tb rfl st_nil).trans st_nil)))).trans ((seq_nx st_drop).trans st_nil))).trans ((seq_nx st_drop).trans ((seq_nx st_drop).trans st_nil))
                  | false =>
                    rw [hbt] at tb
                    exact seq_ifrn tt rfl (seq_ifrn tin rfl ((seq_nx (st_asg hd1 rfl)).trans ((seq_nx (st_asg hd2 rfl)).trans (seq_ift tb rfl (seq_rt (st_ret ev_k))))))
                · simp only [hrt, decide_false, Bool.not_false] at tin
                  rw [if_pos hrt]
                  exact (seq_nx (st_asg hbi rfl)).trans <| seq_ifrn tt rfl (seq_ift tin rfl (seq_rt (st_ret ev_k)))
          have hit : evalE (Q78P scr (k + 5 + m)) (.rng1 (.b1 .len (.idx (.v 2) (.k (.int 2))))) [.val (encPL pl), .val (.lst (names.map .str)), .val (encTr (.name n bs)), .val (.lst (taken.map encT)), .val (.lst (left.map .str)), .no, .no, .no, .no, .no, .no] g = .ok (.lst ((ixs 0 bs).map fun p : Nat × Tr => D.int p.1)) g := by
            have hrl := v.rowlen hnm
            have := ev_rng1 (P := Q78P scr (k + 5 + m)) (ρ := [.val (encPL pl), .val (.lst (names.map .str)), .val (encTr (.name n bs)), .val (.lst (taken.map encT)), .val (.lst (left.map .str)), .no, .no, .no, .no, .no, .no]) (ev_b1 (ev_idx (a := .v 2) (z := .tup (encTrs bs)) (ev_v rfl) (ev_k (d := .int 2)) rfl) (lenT _)) (g := g) (by omega) (by rw [encTrs_map, List.length_map]; omega)
            rw [Int.toNat_natCast, rngL0, encTrs_map, List.length_map] at this
            rw [show (ixs 0 bs).map (fun p : Nat × Tr => D.int p.1) = ((ixs 0 bs).map (·.1)).map fun (i : Nat) => D.int (i : Int) by rw [List.map_map]; rfl, ixs_fst, ← List.range_eq_range']
            exact this
          refine (congrArg fin (seq_first ((st_for hit rfl).trans hf))).trans ?_
          have em : (ixs 0 bs).findSome? (fun p => (fltB pl taken n (faultT pl m left) p).map D.str) = ((ixs 0 bs).findSome? (fltB pl taken n (faultT pl m left))).map D.str := by
            rw [List.map_findSome?]; rfl
          rw [em]
          cases (ixs 0 bs).findSome? (fltB pl taken n (faultT pl m left)) with
          | none =>
            show fin (evalC _ _ _ _) = _
            rw [seq_nx st_drop, seq_rt (st_ret ev_k)]
            rfl
          | some i => rfl
        · rw [if_pos hb]
          rw [decide_eq_false (by omega)] at t2
          refine (congrArg fin (seq_ifn t1 rfl st_nil)).trans ?_
          exact congrArg fin (seq_ift t2 rfl (seq_rt (st_ret ev_k)))
      · rw [if_pos hm]
        simp only [hm, decide_false, Bool.not_false, Bool.or_true] at t1
        exact congrArg fin (seq_ift t1 rfl (seq_rt (st_ret ev_k)))
end MW

end
section
set_option Elab.async false
set_option linter.all false
set_option maxRecDepth 100000
set_option maxHeartbeats 4000000
namespace MW
theorem clash_bars {p q : PRow} {s : Int} (hp : PRok p) (h : clash p q = some s) : barsT p q s = true := by
  unfold clash at h
  obtain ⟨r, hr, h⟩ := List.exists_of_findSome?_eq_some h
  unfold clashAt at h
  unfold barsT
  cases e : lkp q.2 r.1 with
  | none => rw [e] at h; cases h
  | some b =>
    rw [e] at h
    simp only at h
    cases ht : togB r.2 b with
    | true => rw [ht] at h; simp at h
    | false =>
      rw [ht] at h
      simp at h
      subst h
      rw [lkp_nd hp.nd hr, e]
      simp [ht]
theorem filt_self {n : S} {ns : List S} (h : (n :: ns).Nodup) : ((n :: ns).filter fun a => !decide (a = n)) = ns := by
  rw [List.nodup_cons] at h
  rw [List.filter_cons]
  simp only [decide_true, Bool.not_true, Bool.false_eq_true, if_false]
  rw [List.filter_eq_self]
  intro a ha
  have : a ≠ n := fun e => h.1 (e ▸ ha)
  simp [this]
/-- the tree of names that have no way is without fault -/
theorem tree_ok (pl : PL) (v : VPL pl) : ∀ (names : List S) (taken : List (S × Nat)) (m : Nat), names.length ≤ m → names.Nodup → firstO pl names taken = none → (∀ n ∈ names, n ∈ pl.map (·.1)) → (∀ t ∈ taken, Rok pl t) → faultT pl m names taken (treeO pl names taken) = none
  | [], taken, m, _, _, h0, _, _ => by rw [firstO] at h0; cases h0
  | n :: ns, taken, 0, hm, _, _, _, _ => by simp at hm
  | n :: ns, taken, m + 1, hm, nd, h0, hn, ht => by
    have hnm : n ∈ pl.map (·.1) := hn n (List.mem_cons_self ..)
    rw [treeO, faultT, if_neg (by simp), if_neg (by simp), filt_self nd, List.findSome?_eq_none_iff]
    intro p hp
    obtain ⟨_, hpi⟩ := ixs_get 0 _ p hp
    obtain ⟨i, b⟩ := p
    simp only [Nat.sub_zero] at hpi
    rw [List.getElem?_map] at hpi
    obtain ⟨i', hi', hb⟩ := Option.map_eq_some_iff.mp hpi
    have hlt : i < (rowsOf pl n).length := by
      have := (List.getElem?_eq_some_iff.mp hi').1
      simpa using this
    rw [List.getElem?_range hlt] at hi'
    cases hi'
    have hr : Rok pl (n, i) := ⟨hnm, hlt⟩
    cases hf : isFree pl taken (n, i) with
    | true =>
      rw [hf] at hb
      simp only [if_true] at hb
      have h1 := first_none h0 hlt hf
      have ih := tree_ok pl v ns (taken ++ [(n, i)]) m (by simp at hm; exact hm) (List.nodup_cons.mp nd).2 h1 (fun a ha => hn a (List.mem_cons_of_mem _ ha)) (fun t h => by
        rcases List.mem_append.mp h with h | h
        · exact ht t h
        · simp at h; subst h; exact hr)
      rw [hb] at ih
      cases ns with
      | nil => rw [firstO] at h1; cases h1
      | cons n' ns' =>
        rw [treeO] at hb
        rw [← hb] at ih ⊢
        exact ih
    | false =>
      rw [hf] at hb
      obtain ⟨t, s, h1, h2, h3⟩ := over_some hf
      rw [h3] at hb
      simp at hb
      subst hb
      simp only [fltB]
      rw [if_neg (not_not_intro h1), if_pos (clash_bars (v.rok hr).1 h2)]
/-! ### trees as data -/
theorem plainL_map {α : Type} {f : α → D} : ∀ {xs : List α}, (∀ x ∈ xs, plainD (f x) = true) → plainL (xs.map f) = true
  | [], _ => rfl
  | x :: xs, h => by simp only [List.map_cons, plainL, h x (List.mem_cons_self ..), plainL_map fun y hy => h y (List.mem_cons_of_mem _ hy), Bool.and_true]
theorem depL_map {α : Type} {f : α → D} {m : Nat} : ∀ {xs : List α}, (∀ x ∈ xs, depD (f x) ≤ m) → depL (xs.map f) ≤ m
  | [], _ => Nat.zero_le _
  | x :: xs, h => by
    simp only [List.map_cons, depL]
    exact Nat.max_le.mpr ⟨h x (List.mem_cons_self ..), depL_map fun y hy => h y (List.mem_cons_of_mem _ hy)⟩
theorem leaf_data {pl : PL} {taken : List (S × Nat)} {r : S × Nat} : plainD (encTr ((overLeaf pl taken r).getD default)) = true ∧ depD (encTr ((overLeaf pl taken r).getD default)) ≤ 2 := by
  cases h : overLeaf pl taken r with
  | none => exact ⟨rfl, by decide⟩
  | some t =>
    unfold overLeaf at h
    obtain ⟨t', _, h⟩ := List.exists_of_findSome?_eq_some h
    obtain ⟨s, _, rfl⟩ := Option.map_eq_some_iff.mp h
    exact ⟨rfl, Nat.le_refl _⟩
theorem tree_data (pl : PL) : ∀ (names : List S) (taken : List (S × Nat)), plainD (encTr (treeO pl names taken)) = true ∧ depD (encTr (treeO pl names taken)) ≤ 2 * names.length + 2
  | [], _ => by rw [treeO]; exact ⟨rfl, by decide⟩
  | n :: ns, taken => by
    have ih := tree_data pl ns
    rw [treeO, encTr, encTrs_map, List.map_map]
    have hp : ∀ i : Nat, plainD (encTr (if isFree pl taken (n, i) = true then treeO pl ns (taken ++ [(n, i)]) else (overLeaf pl taken (n, i)).getD default)) = true ∧ depD (encTr (if isFree pl taken (n, i) = true then treeO pl ns (taken ++ [(n, i)]) else (overLeaf pl taken (n, i)).getD default)) ≤ 2 * ns.length + 2 := fun i => by
      cases isFree pl taken (n, i) with
      | true => exact ih _
      | false => exact ⟨leaf_data.1, Nat.le_trans leaf_data.2 (by omega)⟩
    constructor
    · simp only [plainD, plainL, Bool.and_true, Bool.true_and]
      exact plainL_map fun i _ => (hp i).1
    · simp only [depD, depL, List.length_cons]
      have := depL_map (f := encTr ∘ fun k => if isFree pl taken (n, k) = true then treeO pl ns (taken ++ [(n, k)]) else (overLeaf pl taken (n, k)).getD default) (xs := List.range (rowsOf pl n).length) fun i _ => (hp i).2
      omega
theorem tree_okD (pl : PL) (names : List S) (taken : List (S × Nat)) (h : names.length ≤ 20) {n : S} {bs : List Tr} (e : treeO pl names taken = .name n bs) : okD (.tup (bs.map encTr)) = true := by
  obtain ⟨h1, h2⟩ := tree_data pl names taken
  rw [e, encTr, encTrs_map] at h1 h2
  simp only [plainD, plainL, Bool.and_true, Bool.true_and] at h1
  simp only [depD, depL] at h2
  have h3 := Nat.le_max_left (depL (bs.map encTr) + 1) 0
  have h4 := Nat.le_max_right 0 (max (depL (bs.map encTr) + 1) 0)
  have h5 := Nat.le_max_right 0 (max 0 (max (depL (bs.map encTr) + 1) 0))
  have h6 : depL (bs.map encTr) + 1 ≤ 60 := by omega
  simp only [okD, plainD, depD, h1, Bool.true_and, decide_eq_true_eq]
  exact decide_eq_true h6
end MW

end
section
set_option Elab.async false
set_option linter.all false
set_option maxRecDepth 100000
set_option maxHeartbeats 4000000
namespace MW
/-! ### lots of names -/
def encL (l : List S) : D := .tup (l.map .str)
def lotsOf : List S → Nat → List (List S)
  | _, 0 => [[]]
  | [], _ + 1 => []
  | n :: ns, k + 1 => (lotsOf ns k).map (fun l => n :: l) ++ lotsOf ns (k + 1)
theorem lots0 (ns : List S) : lotsOf ns 0 = [[]] := by cases ns <;> rfl
theorem lots_len : ∀ (ns : List S) (k : Nat), (lotsOf ns k).length ≤ 2 ^ ns.length
  | ns, 0 => by rw [lots0]; exact Nat.one_le_two_pow
  | [], k + 1 => by simp [lotsOf]
  | n :: ns, k + 1 => by
    have h1 := lots_len ns k
    have h2 := lots_len ns (k + 1)
    simp only [lotsOf, List.length_append, List.length_map, List.length_cons, Nat.pow_succ]
    omega
theorem lots_mem : ∀ (ns : List S) (k : Nat) (l : List S), l ∈ lotsOf ns k → l.length = k ∧ ∀ n ∈ l, n ∈ ns
  | ns, 0, l, h => by rw [lots0] at h; simp at h; subst h; simp
  | [], k + 1, l, h => by simp [lotsOf] at h
  | n :: ns, k + 1, l, h => by
    simp only [lotsOf, List.mem_append, List.mem_map] at h
    rcases h with ⟨l', h, rfl⟩ | h
    · obtain ⟨h1, h2⟩ := lots_mem ns k l' h
      refine ⟨by simp [h1], fun a ha => ?_⟩
      rcases List.mem_cons.mp ha with rfl | ha
      · exact List.mem_cons_self ..
      · exact List.mem_cons_of_mem _ (h2 a ha)
    · obtain ⟨h1, h2⟩ := lots_mem ns (k + 1) l h
      exact ⟨h1, fun a ha => List.mem_cons_of_mem _ (h2 a ha)⟩
theorem lots_le : ∀ (ns : List S) (k : Nat) (l : List S), l ∈ lotsOf ns k → l.length ≤ ns.length
  | ns, 0, l, h => by rw [lots0] at h; simp at h; subst h; simp
  | [], k + 1, l, h => by simp [lotsOf] at h
  | n :: ns, k + 1, l, h => by
    simp only [lotsOf, List.mem_append, List.mem_map] at h
    rcases h with ⟨l', h, rfl⟩ | h
    · have := lots_le ns k l' h
      simp; omega
    · have := lots_le ns (k + 1) l h
      simp; omega
theorem lots_flat (k : Nat) : ∀ (ns pre : List S), (ixs pre.length ns).flatMap (fun p => (lotsOf ((pre ++ ns).drop (p.1 + 1)) k).map fun l => p.2 :: l) = lotsOf ns (k + 1)
  | [], pre => rfl
  | n :: ns, pre => by
    have ih := lots_flat k ns (pre ++ [n])
    simp only [ixs, List.flatMap_cons, lotsOf]
    rw [List.length_append, List.length_singleton, List.append_assoc] at ih
    rw [show [n] ++ ns = n :: ns from rfl] at ih
    rw [ih]
    congr 2
    rw [show pre.length + 1 = (pre ++ [n]).length by simp, show pre ++ n :: ns = (pre ++ [n]) ++ ns by simp, List.drop_left]
theorem slc_drop (xs : List D) (i : Nat) : slcD (.tup xs) (some ((i : Int) + 1)) none = some (.tup (xs.drop (i + 1))) := by
  have : cutL xs (some ((i : Int) + 1)) none = xs.drop (i + 1) := by
    unfold cutL sIx
    simp only
    rw [if_pos (by omega)]
    rw [List.take_of_length_le (by rw [List.length_drop]; omega)]
    by_cases h : i + 1 ≤ xs.length
    · congr 1; omega
    · rw [List.drop_of_length_le (by omega), List.drop_of_length_le (by omega)]
  simp only [slcD, this]
theorem run_lots (scr : List Int) (k : Nat) (g : G) : ∀ (m : Nat) (ns : List S), ns.length ≤ 10 → run (P78 scr) (k + 1 + m) "lots_of" [.tup (ns.map .str), .int m] g = .ok (.lst ((lotsOf ns m).map encL)) g := by
  intro m
  induction m with
  | zero =>
    intro ns hz
    rw [lots0]
    show run (P78 scr) (k + 1) _ _ _ = _
    rw [run_def (by rfl) (fd := fd_lots_of) (by rfl) rfl]
    exact congrArg fin (seq_ift (ev_eqI (ev_v (i := 1) (d := .int ((0 : Nat) : Int)) rfl) ev_k) rfl (seq_rt (st_ret (ev_lst (ev_acons (ev_tup ev_anil rfl) ev_anil) rfl))))
  | succ m ih =>
    intro ns hz
    show run (P78 scr) (k + 1 + m + 1) _ _ _ = _
    rw [run_def (by rfl) (fd := fd_lots_of) (by rfl) rfl]
    have t1 := ev_eqI (P := Q78P scr (k + 1 + m)) (ρ := [.val (.tup (ns.map .str)), .val (.int ((m + 1 : Nat) : Int)), .no, .no, .no]) (g := g) (ev_v (i := 1) rfl) (ev_k (d := .int 0))
    rw [decide_eq_false (by omega)] at t1
    refine (congrArg fin (seq_ifn t1 rfl st_nil)).trans ?_
    have hit : evalE (Q78P scr (k + 1 + m)) (.enum (.v 0)) [.val (.tup (ns.map .str)), .val (.int ((m + 1 : Nat) : Int)), .no, .no, .no] g = .ok (.lst ((ixs 0 ns).map fun p => D.tup [.int p.1, .str p.2])) g := by
      rw [← ixs_enum]
      exact ev_enumT (ev_v rfl)
    have hfl := lots_flat m ns []
    simp only [List.length_nil, List.nil_append] at hfl
    have hl := ev_lc2M (P := Q78P scr (k + 1 + m)) (ρ := [.val (.tup (ns.map .str)), .val (.int ((m + 1 : Nat) : Int)), .no, .no, .no]) (g := g) (enc := fun p : Nat × S => D.tup [.int p.1, .str p.2]) (xs := ixs 0 ns)
      (ys := fun p => lotsOf (ns.drop (p.1 + 1)) m) (enb := fun _ => encL) (f := fun p l => encL (p.2 :: l)) (elt := .bin .add (.tup (.acons (.v 3) .anil)) (.v 4)) (tg := .tup (.tcons (.nm 2) (.tcons (.nm 3) .tnil))) (tg1 := .nm 4) (own := [2, 3, 4]) (own1 := [4])
      (it := .enum (.v 0)) (it1 := .call "lots_of" (.acons (.slc (.v 0) (.bin .add (.v 2) (.k (.int 1))) .nth) (.acons (.bin .sub (.v 1) (.k (.int 1))) .anil)) 0) hit rfl
      (by
        have := lots_len ns (m + 1)
        have h2 : 2 ^ ns.length ≤ 2 ^ 10 := Nat.pow_le_pow_right (by decide) hz
        rw [← hfl] at this
        have e : ((ixs 0 ns).flatMap fun a => (lotsOf (ns.drop (a.1 + 1)) m).map fun l => encL (a.2 :: l)).length = ((ixs 0 ns).flatMap fun p => (lotsOf (ns.drop (p.1 + 1)) m).map fun l => p.2 :: l).length := by
          simp only [List.length_flatMap, List.length_map]
        rw [e]
        omega)
      fun p hp => ⟨_, .lst ((lotsOf (ns.drop (p.1 + 1)) m).map encL), rfl, by
        have h1 := ih (ns.drop (p.1 + 1)) (by rw [List.length_drop]; omega)
        refine ev_call0 (f := "lots_of") (ev_acons (ev_slc (ev_v rfl) (ev_bin (ev_v rfl) ev_k rfl) ev_nth rfl rfl (slc_drop _ _)) (ev_acons (ev_bin (z := .int m) (ev_v rfl) ev_k ?_) ev_anil)) rfl ?_
        · simp only [binD]; congr 2; omega
        · rw [← List.map_drop]; exact h1, rfl, fun l hl => ⟨_, rfl, by
        refine ev_bin (ev_tup (ev_acons (ev_v rfl) ev_anil) rfl) (ev_v rfl) (add_tup ?_)
        have h3 := lots_le _ _ _ hl
        rw [List.length_drop] at h3
        simp
        omega⟩⟩
    refine (congrArg fin (seq_rt (st_ret hl))).trans ?_
    rw [← hfl, List.map_flatMap]
    simp only [List.map_map]
    rfl
end MW

end
section
set_option Elab.async false
set_option linter.all false
set_option maxRecDepth 100000
set_option maxHeartbeats 4000000
namespace MW
/-- sorted data of a type, with the condition for these alone -/
theorem sort_enc1 {α : Type} {enc : α → D} (inj : ∀ a b, toks (enc a) = toks (enc b) → a = b) (ok : ∀ a, okD (enc a) = true) (al : ∀ a b, alikeD (enc a) (enc b) = true) (xs : List α) (so : sortable (xs.map enc) = true) :
    ∃ ys : List α, sortO (xs.map enc) = some (ys.map enc) ∧ ys.Perm xs ∧ ys.Pairwise (fun a b => leD (enc a) (enc b) = true) := by
  have pm := List.mergeSort_perm (xs.map enc) fun a b => !ltD b a
  have ex : ∀ ds : List D, (∀ d ∈ ds, ∃ a, d = enc a) → ∃ ys : List α, ds = ys.map enc := by
    intro ds
    induction ds with
    | nil => intro _; exact ⟨[], rfl⟩
    | cons d ds ih =>
      intro h
      obtain ⟨a, rfl⟩ := h d (List.mem_cons_self ..)
      obtain ⟨ys, rfl⟩ := ih fun d hd => h d (List.mem_cons_of_mem _ hd)
      exact ⟨a :: ys, rfl⟩
  obtain ⟨ys, hy⟩ := ex ((xs.map enc).mergeSort fun a b => !ltD b a) fun d hd => by
    obtain ⟨a, _, rfl⟩ := List.mem_map.mp (pm.mem_iff.mp hd)
    exact ⟨a, rfl⟩
  refine ⟨ys, ?_, ?_, ?_⟩
  · have okA : ((xs.map enc).all okD && allAlike (xs.map enc) && sortable (xs.map enc)) = true := by
      simp only [allAlike, Bool.and_eq_true, List.all_eq_true, List.mem_map]
      refine ⟨⟨?_, ?_⟩, so⟩
      · rintro _ ⟨a, _, rfl⟩; exact ok a
      · rintro _ ⟨a, _, rfl⟩ _ ⟨b, _, rfl⟩; exact al a b
    unfold sortO
    rw [if_pos okA, hy]
  · rw [hy] at pm
    have inj' : ∀ a b, enc a = enc b → a = b := fun a b e => inj a b (by rw [e])
    exact perm_of_map inj' pm
  · have := sort_pw (xs.map enc)
    rw [hy, List.pairwise_map] at this
    exact this
/-! ### lots, sorted -/
theorem toksL_inj : ∀ {a b : List S}, toksL (a.map .str) = toksL (b.map .str) → a = b
  | [], [], _ => rfl
  | [], y :: b, h => by simp [toksL] at h
  | x :: a, [], h => by simp [toksL] at h
  | x :: a, y :: b, h => by
    simp only [List.map_cons, toksL, toks, List.cons_append, List.nil_append, List.cons.injEq, Sum.inr.injEq] at h
    rw [h.2.1, toksL_inj h.2.2]
theorem encL_inj (a b : List S) (h : toks (encL a) = toks (encL b)) : a = b := toksL_inj h
theorem alikeStrs : ∀ a b : List S, alikeL (a.map .str) (b.map .str) = true
  | [], _ => rfl
  | _ :: _, [] => rfl
  | x :: a, y :: b => by simp only [List.map_cons, alikeL, alikeD, alikeStrs a b, Bool.and_self]
theorem le_same (n : S) (a b : List S) : leD (encL (n :: a)) (encL (n :: b)) = leD (encL a) (encL b) := by
  simp only [leD, ltD, encL, List.map_cons, toks, toksL, List.cons_append, List.nil_append, lexT, tok_irr, Bool.not_false, Bool.true_and, Bool.false_or]
theorem le_less {n m : S} (h : leD (.str n) (.str m) = true) (hne : n ≠ m) (a b : List S) : leD (encL (n :: a)) (encL (m :: b)) = true := by
  have h1 : tokLt (.inr m) (.inr n) = false := by
    simp only [leD, ltD, toks, lexT, Bool.and_false, Bool.or_false] at h
    simpa using h
  have h2 : tokLt (.inr n) (.inr m) = true := by
    rcases tok_tri (.inr n) (.inr m) with h | h | h
    · exact h
    · cases h; exact absurd rfl hne
    · rw [h1] at h; cases h
  simp only [leD, ltD, encL, List.map_cons, toks, toksL, List.cons_append, List.nil_append, lexT, tok_irr, Bool.not_false, Bool.true_and, Bool.false_or, h1, h2]
  rfl
def strsLe (a b : S) : Prop := leD (.str a) (.str b) = true
theorem lots_sorted : ∀ (ns : List S) (k : Nat), ns.Pairwise strsLe → ns.Nodup → (lotsOf ns k).Pairwise (fun a b => leD (encL a) (encL b) = true)
  | ns, 0, _, _ => by rw [lots0]; simp
  | [], k + 1, _, _ => by simp [lotsOf]
  | n :: ns, k + 1, h, nd => by
    rw [List.pairwise_cons] at h
    rw [List.nodup_cons] at nd
    simp only [lotsOf]
    rw [List.pairwise_append]
    refine ⟨?_, lots_sorted ns (k + 1) h.2 nd.2, ?_⟩
    · rw [List.pairwise_map]
      exact (lots_sorted ns k h.2 nd.2).imp fun e => by rw [le_same]; exact e
    · intro a ha b hb
      obtain ⟨a', ha', rfl⟩ := List.mem_map.mp ha
      obtain ⟨h1, h2⟩ := lots_mem ns (k + 1) b hb
      cases b with
      | nil => simp at h1
      | cons m b =>
        have hm := h2 m (List.mem_cons_self ..)
        exact le_less (h.1 m hm) (fun e => nd.1 (e ▸ hm)) a' b
/-! ### the law's lots -/
def subsL (found : List (List S)) (ns : List S) : List (List S) := ns.foldl (fun f n => f ++ f.map fun l => l ++ [n]) found
theorem subs_app : ∀ (ns : List S) (xs ys : List (List S)), (subsL (xs ++ ys) ns).Perm (subsL xs ns ++ subsL ys ns)
  | [], xs, ys => .refl _
  | n :: ns, xs, ys => by
    have h : ((xs ++ ys) ++ (xs ++ ys).map fun l => l ++ [n]).Perm ((xs ++ xs.map fun l => l ++ [n]) ++ (ys ++ ys.map fun l => l ++ [n])) := by
      rw [List.map_append, List.append_assoc, List.append_assoc]
      refine .append_left _ ?_
      rw [← List.append_assoc, ← List.append_assoc]
      exact .append_right _ List.perm_append_comm
    exact (subs_perm ns h).trans (subs_app ns _ _)
where
  subs_perm : ∀ (ns : List S) {xs ys : List (List S)}, xs.Perm ys → (subsL xs ns).Perm (subsL ys ns)
  | [], _, _, h => h
  | n :: ns, _, _, h => subs_perm ns (h.append (h.map _))
theorem subs_pre (a : S) : ∀ (ns : List S) (xs : List (List S)), subsL (xs.map fun l => a :: l) ns = (subsL xs ns).map fun l => a :: l
  | [], xs => rfl
  | n :: ns, xs => by
    have := subs_pre a ns (xs ++ xs.map fun l => l ++ [n])
    simp only [subsL, List.foldl_cons] at this ⊢
    rw [← this]
    rw [List.map_append, List.map_map, List.map_map]
    rfl
theorem subs_cons (n : S) (ns : List S) : (subsL [[]] (n :: ns)).Perm (subsL [[]] ns ++ (subsL [[]] ns).map fun l => n :: l) := by
  have h := subs_app ns [[]] [[n]]
  have e := subs_pre n ns [[]]
  rw [← e]
  exact h
theorem lots_perm : ∀ (ns : List S) (k : Nat), ((subsL [[]] ns).filter fun l => decide (l.length = k)).Perm (lotsOf ns k)
  | [], 0 => by simp [subsL, lotsOf]
  | [], k + 1 => by simp [subsL, lotsOf]
  | n :: ns, 0 => by
    have h := (subs_cons n ns).filter fun l => decide (l.length = 0)
    refine h.trans ?_
    rw [List.filter_append]
    have e : ((subsL [[]] ns).map fun l => n :: l).filter (fun l => decide (l.length = 0)) = [] := by
      rw [List.filter_eq_nil_iff]
      intro l hl
      obtain ⟨l', _, rfl⟩ := List.mem_map.mp hl
      simp
    rw [e, List.append_nil, lots0]
    have := lots_perm ns 0
    rw [lots0] at this
    exact this
  | n :: ns, k + 1 => by
    have h := (subs_cons n ns).filter fun l => decide (l.length = k + 1)
    refine h.trans ?_
    rw [List.filter_append, lotsOf]
    have e : ((subsL [[]] ns).map fun l => n :: l).filter (fun l => decide (l.length = k + 1)) = ((subsL [[]] ns).filter fun l => decide (l.length = k)).map fun l => n :: l := by
      rw [List.filter_map]
      congr 1
      refine List.filter_congr fun l _ => ?_
      simp
    rw [e]
    exact List.perm_append_comm.trans (((lots_perm ns k).map _).append (lots_perm ns (k + 1)))
theorem subs_len : ∀ (ns : List S) (xs : List (List S)), (subsL xs ns).length = 2 ^ ns.length * xs.length
  | [], xs => by simp [subsL]
  | n :: ns, xs => by
    have := subs_len ns (xs ++ xs.map fun l => l ++ [n])
    show (subsL (xs ++ xs.map fun l => l ++ [n]) ns).length = _
    rw [this, List.length_append, List.length_map, List.length_cons, Nat.pow_succ]
    rw [Nat.mul_assoc, ← Nat.two_mul]
theorem subs_le : ∀ (ns : List S) (xs : List (List S)) (m : Nat), (∀ l ∈ xs, l.length ≤ m) → ∀ l ∈ subsL xs ns, l.length ≤ m + ns.length
  | [], xs, m, h, l, hl => h l hl
  | n :: ns, xs, m, h, l, hl => by
    have := subs_le ns (xs ++ xs.map fun l => l ++ [n]) (m + 1) (fun l hl => by
      rcases List.mem_append.mp hl with hl | hl
      · exact Nat.le_succ_of_le (h l hl)
      · obtain ⟨l', h1, rfl⟩ := List.mem_map.mp hl
        have := h l' h1
        simp; omega) l hl
    simp; omega
end MW

end
section
set_option Elab.async false
set_option linter.all false
set_option maxRecDepth 100000
set_option maxHeartbeats 4000000
namespace MW
theorem subs_snoc (ns : List S) (n : S) (xs : List (List S)) : subsL xs (ns ++ [n]) = subsL xs ns ++ (subsL xs ns).map fun l => l ++ [n] := by
  simp only [subsL, List.foldl_append, List.foldl_cons, List.foldl_nil]
theorem subs_lim {ns : List S} (h : ns.length ≤ 10) : (subsL [[]] ns).length ≤ 1024 := by
  rw [subs_len]
  have : 2 ^ ns.length ≤ 2 ^ 10 := Nat.pow_le_pow_right (by decide) h
  simp; omega
theorem run_llots (scr : List Int) (k : Nat) (g : G) (m : Nat) (ns : List S) (hz : ns.length ≤ 10) (so : ns.Pairwise strsLe) (nd : ns.Nodup) :
    run (P78 scr) (k + 1) "_law_lots" [.lst (ns.map .str), .int ((m + 1 : Nat) : Int)] g = .ok (.lst ((lotsOf ns (m + 1)).map encL)) g := by
  rw [run_def (by rfl) (fd := fd_law_lots) (by rfl) rfl]
  obtain ⟨ρ', g', hf, hρ, hg⟩ := for_inv (t := .nm 3) (body := fun ρ g => evalC (Q78P scr k) (.seq (.asg (.nm 2) (.bin .add (.v 2) (.lc (.bin .add (.v 4) (.tup (.acons (.v 3) .anil))) (.nm 4) (.v 2) (.k (.bl true)) [4])))
  (.seq (.drop [3])
  .nil)) ρ g) (I := fun i ρ g' => ρ = [.val (.lst (ns.map .str)), .val (.int ((m + 1 : Nat) : Int)), .val (.lst ((subsL [[]] (ns.take i)).map encL)), .no, .no] ∧ g' = g) (ds := ns.map .str) 0
    (ρ := [.val (.lst (ns.map .str)), .val (.int ((m + 1 : Nat) : Int)), .val (.lst ([[]].map encL)), .no, .no]) (g := g) ⟨by simp [subsL], rfl⟩ (fun i d ρ g0 hd hI => by
      obtain ⟨rfl, rfl⟩ := hI
      rw [Nat.zero_add]
      rw [List.getElem?_map] at hd
      obtain ⟨n, hni, rfl⟩ := Option.map_eq_some_iff.mp hd
      have hsub := subs_lim (ns := ns.take i) (by rw [List.length_take]; omega)
      refine ⟨_, rfl, [.val (.lst (ns.map .str)), .val (.int ((m + 1 : Nat) : Int)), .val (.lst ((subsL [[]] (ns.take (i + 1))).map encL)), .no, .no], g0, .inl ?_, rfl, rfl⟩
      have hle := subs_le (ns.take i) [[]] 0 (fun l h => by simp at h; subst h; simp)
      have htk : (ns.take i).length ≤ 10 := by rw [List.length_take]; omega
      rw [take_succ_at hni, subs_snoc]
      generalize subsL [[]] (ns.take i) = found at hsub hle
      have hl := ev_lcM (P := Q78P scr k) (enc := encL) (xs := found) (p := fun _ => true) (f := fun l => encL (l ++ [n])) (g := g0) (g1 := g0) (x := .lst (found.map encL)) (it := .v 2)
        (ρ := [.val (.lst (ns.map .str)), .val (.int ((m + 1 : Nat) : Int)), .val (.lst (found.map encL)), .val (.str n), .no]) (elt := .bin .add (.v 4) (.tup (.acons (.v 3) .anil))) (tg := .nm 4) (own := [4]) (test := .k (.bl true))
        (ev_v rfl) rfl (by omega) fun l hl => ⟨_, rfl, ev_k, fun _ => by
          refine (ev_bin (ev_v rfl) (ev_tup (ev_acons (ev_v rfl) ev_anil) rfl) (add_tup ?_)).trans ?_
          · have := hle l hl
            simp; omega
          · rw [encL, List.map_append]; rfl⟩
      rw [filter_yes] at hl
      have hadd : binD .add (.lst (found.map encL)) (.lst (found.map fun l => encL (l ++ [n]))) = some (.lst ((found ++ found.map fun l => l ++ [n]).map encL)) := by
        simp only [binD]
        rw [if_pos (decide_eq_true (by simp; omega))]
        simp
      exact (seq_nx (st_asg (ev_bin (ev_v rfl) hl hadd) rfl)).trans ((seq_nx st_drop).trans st_nil))
  rw [List.length_map, Nat.zero_add, List.take_length] at hρ
  subst hg
  refine (congrArg fin (seq_nx (st_asg (d := .lst ([[]].map encL)) (ev_lst (ev_acons (ev_tup ev_anil rfl) ev_anil) rfl) rfl))).trans ?_
  refine (congrArg fin (seq_nx ((st_for (ds := ns.map .str) (ev_v rfl) rfl).trans hf))).trans ?_
  rw [hρ, seq_nx st_drop]
  have hsub := subs_lim hz
  have hperm := lots_perm ns (m + 1)
  generalize subsL [[]] ns = found at hsub hperm
  have hl := ev_lcM (P := Q78P scr k) (enc := encL) (xs := found) (p := fun l => decide (l.length = m + 1)) (f := encL) (g := g') (g1 := g') (x := .lst (found.map encL)) (it := .v 2)
    (ρ := wipeE [3] [.val (.lst (ns.map .str)), .val (.int ((m + 1 : Nat) : Int)), .val (.lst (found.map encL)), .no, .no]) (elt := .v 4) (tg := .nm 4) (own := [4]) (test := .cmp .eq (.b1 .len (.v 4)) (.v 1))
    (ev_v rfl) rfl (by omega) fun l hl => ⟨_, rfl, by
      have := ev_eqI (P := Q78P scr k) (ρ := [.val (.lst (ns.map .str)), .val (.int ((m + 1 : Nat) : Int)), .val (.lst (found.map encL)), .no, .val (encL l)]) (g := g') (ev_b1 (a := .v 4) (ev_v rfl) (lenT _)) (ev_v (i := 1) rfl)
      rw [List.length_map] at this
      have e : decide (((l.length : Nat) : Int) = ((m + 1 : Nat) : Int)) = decide (l.length = m + 1) := by
        rw [Bool.eq_iff_iff, decide_eq_true_eq, decide_eq_true_eq]; omega
      rw [e] at this
      exact this, fun _ => ev_v rfl⟩
  obtain ⟨ys, h1, h2, h3⟩ := sort_enc1 (enc := encL) encL_inj (fun a => EqEnc.str.tup.ok (by decide) a) (fun a b => alikeStrs a b) (found.filter fun l => decide (l.length = m + 1)) (by
    simp only [sortable, Bool.or_eq_true, List.all_eq_true, List.mem_map]
    left
    rintro _ ⟨a, ha, rfl⟩
    have := of_decide_eq_true (List.mem_filter.mp ha).2
    cases a with
    | nil => simp at this
    | cons x a => rfl)
  have e : ys = lotsOf ns (m + 1) := sort_enc_unique encL_inj (h2.trans hperm) h3 (lots_sorted ns (m + 1) so nd)
  subst e
  exact congrArg fin (seq_rt (st_ret (ev_b1 hl (by simp only [b1D, h1, Option.map]))))
end MW

end
section
set_option Elab.async false
set_option linter.all false
set_option maxRecDepth 100000
set_option maxHeartbeats 4000000
namespace MW
/-! ### the greatest lot -/
def downs : Nat → List Nat
  | 0 => []
  | n + 1 => n :: downs n
theorem downs_eq : ∀ n : Nat, (List.range n).map (fun (i : Nat) => D.int ((n : Int) - (i : Int))) = (downs n).map fun (d : Nat) => D.int ((d + 1 : Nat) : Int)
  | 0 => rfl
  | n + 1 => by
    rw [List.range_succ_eq_map, List.map_cons, List.map_map, downs, List.map_cons, ← downs_eq n]
    congr 1
    refine List.map_congr_left fun i _ => ?_
    simp only [Function.comp]
    congr 1
    omega
theorem downs_lt : ∀ (n d : Nat), d ∈ downs n → d < n
  | 0, d, h => by cases h
  | n + 1, d, h => by
    rcases List.mem_cons.mp h with rfl | h
    · exact Nat.lt_succ_self _
    · exact Nat.lt_succ_of_lt (downs_lt n d h)
theorem ev_downs {P : Ctx} {ρ : Env} {g : G} {a : E} {n : Nat} (ha : evalE P a ρ g = .ok (.int n) g) (hn : n ≤ 1000) : evalE P (.rng3 a (.k (.int 0)) (.neg (.k (.int 1)))) ρ g = .ok (.lst ((downs n).map fun (d : Nat) => D.int ((d + 1 : Nat) : Int))) g := by
  have := ev_rng3 ha (ev_k (d := .int 0)) (ev_neg (n := 1) ev_k) (g3 := g) (by omega) (by omega) (by omega)
  rw [this, ← downs_eq, show ((n : Int) - 0).toNat = n by omega]
def goodL (pl : PL) (kept lot : List S) : Bool := (firstO pl (kept ++ lot) []).isSome
def bestO (pl : PL) (kept names : List S) : Option (List S) := (downs names.length).findSome? fun d => (lotsOf names (d + 1)).find? (goodL pl kept)
theorem best_some {pl : PL} {kept names l : List S} (h : bestO pl kept names = some l) : l ≠ [] ∧ l.length ≤ names.length ∧ (∀ n ∈ l, n ∈ names) ∧ goodL pl kept l = true := by
  unfold bestO at h
  obtain ⟨d, hd, h⟩ := List.exists_of_findSome?_eq_some h
  have h1 := List.mem_of_find?_eq_some h
  have h2 := List.find?_some h
  obtain ⟨h3, h4⟩ := lots_mem _ _ _ h1
  exact ⟨fun e => by rw [e] at h3; simp at h3, lots_le _ _ _ h1, h4, h2⟩
def innG : C := match c_greatest_lot with
  | .seq (.for_ _ _ (.seq (.for_ _ _ b) _)) _ => b
  | _ => .nil
theorem first_eq_find {α β : Type} (p : α → Bool) (f : α → β) : ∀ xs : List α, xs.findSome? (fun x => if p x = true then some (f x) else none) = (xs.find? p).map f
  | [] => rfl
  | x :: xs => by
    simp only [List.findSome?_cons, List.find?_cons]
    cases h : p x with
    | true => simp
    | false => simpa using first_eq_find p f xs
theorem run_great (scr : List Int) (k : Nat) (pl : PL) (g : G) (v : VPL pl) (kept names : List S) (hk : ∀ n ∈ kept, n ∈ pl.map (·.1)) (hn : ∀ n ∈ names, n ∈ pl.map (·.1)) (hz : kept.length + names.length ≤ 10) :
    run (P78 scr) (k + 20) "greatest_lot" [encPL pl, encL kept, encL names] g = .ok (encL ((bestO pl kept names).getD [])) g := by
  rw [run_def (by rfl) (fd := fd_greatest_lot) (by rfl) rfl]
  have hin : ∀ d ∈ downs names.length, evalC (Q78P scr (k + 19)) (.seq (.for_ (.nm 4) (.call "lots_of" (.acons (.v 2) (.acons (.v 3) .anil)) 0) innG) (.seq (.drop [4]) (.seq (.drop [3, 4]) .nil))) [.val (encPL pl), .val (encL kept), .val (encL names), .val (.int ((d + 1 : Nat) : Int)), .no] g =
      match ((lotsOf names (d + 1)).find? (goodL pl kept)).map encL with | some d => .ok (.rt d) g | none => .ok (.nx [.val (encPL pl), .val (encL kept), .val (encL names), .no, .no]) g := fun d hd => by
    have hdl := downs_lt _ _ hd
    have hlots := run_lots scr (k + 17 - d) g (d + 1) names (by omega)
    rw [show k + 17 - d + 1 + (d + 1) = k + 19 by omega] at hlots
    have hf := for_first (ρ := [.val (encPL pl), .val (encL kept), .val (encL names), .val (.int ((d + 1 : Nat) : Int)), .no]) (g := g) (enc := encL) (xs := lotsOf names (d + 1)) (f := fun l => if goodL pl kept l = true then some (encL l) else none) (tg := .nm 4)
      (body := fun ρ g => evalC (Q78P scr (k + 19)) innG ρ g) fun l hl => by
        refine ⟨_, rfl, ?_⟩
        have hll := lots_le _ _ _ hl
        have hln := (lots_mem _ _ _ hl).2
        have hfirst := run_first scr (k + 14 - (kept ++ l).length) pl g v (kept ++ l) [] (fun a ha => by
          rcases List.mem_append.mp ha with ha | ha
          · exact hk a ha
          · exact hn a (hln a ha)) (fun _ h => by cases h) (by simp; omega)
        have hkl : (kept ++ l).length ≤ 10 := by simp; omega
        rw [show k + 14 - (kept ++ l).length + 5 + (kept ++ l).length = k + 19 by omega] at hfirst
        have hadd : binD .add (encL kept) (encL l) = some (.tup ((kept ++ l).map .str)) := by
          unfold encL
          rw [add_tup (by simp at hkl ⊢; omega), List.map_append]
        have t := ev_isnN (P := Q78P scr (k + 19)) (ρ := [.val (encPL pl), .val (encL kept), .val (encL names), .val (.int ((d + 1 : Nat) : Int)), .val (encL l)]) (g := g) (ev_call0 (f := "first_over") (ev_acons (ev_v (i := 0) rfl) (ev_acons (ev_bin (ev_v (i := 1) rfl) (ev_v (i := 4) rfl) hadd) (ev_acons (ev_tup ev_anil rfl) ev_anil))) rfl hfirst) (ev_k (g := g))
        rw [isNon_OT] at t
        unfold goodL
        cases ho : firstO pl (kept ++ l) [] with
        | some w =>
          rw [ho] at t
          exact seq_ift t rfl (seq_rt (st_ret (ev_v rfl)))
        | none =>
          rw [ho] at t
          exact (seq_ifn t rfl st_nil).trans ((seq_nx st_drop).trans st_nil)
    refine (seq_first ((st_for (ds := (lotsOf names (d + 1)).map encL) (ev_call0 (f := "lots_of") (ev_acons (ev_v rfl) (ev_acons (ev_v rfl) ev_anil)) rfl hlots) rfl).trans hf)).trans ?_
    rw [first_eq_find]
    cases (lotsOf names (d + 1)).find? (goodL pl kept) with
    | some l => rfl
    | none => exact (seq_nx st_drop).trans ((seq_nx st_drop).trans st_nil)
  have hf := for_first (ρ := [.val (encPL pl), .val (encL kept), .val (encL names), .no, .no]) (g := g) (enc := fun (d : Nat) => D.int ((d + 1 : Nat) : Int)) (xs := downs names.length) (f := fun d => ((lotsOf names (d + 1)).find? (goodL pl kept)).map encL) (tg := .nm 3)
    (body := fun ρ g => evalC (Q78P scr (k + 19)) (.seq (.for_ (.nm 4) (.call "lots_of" (.acons (.v 2) (.acons (.v 3) .anil)) 0) innG) (.seq (.drop [4]) (.seq (.drop [3, 4]) .nil))) ρ g) fun d hd => ⟨_, rfl, hin d hd⟩
  have hlen : b1D .len (encL names) = some (.int names.length) := by rw [encL, lenT, List.length_map]
  refine (congrArg fin (seq_first ((st_for (ev_downs (ev_b1 (ev_v (i := 2) rfl) hlen) (by omega)) rfl).trans hf))).trans ?_
  have e : (downs names.length).findSome? (fun d => ((lotsOf names (d + 1)).find? (goodL pl kept)).map encL) = (bestO pl kept names).map encL := by
    unfold bestO
    rw [List.map_findSome?]
    rfl
  rw [e]
  cases bestO pl kept names with
  | some l => rfl
  | none =>
    show fin (evalC _ _ _ _) = _
    rw [seq_nx st_drop, seq_rt (st_ret (ev_tup ev_anil rfl))]
    rfl
end MW

end
section
set_option Elab.async false
set_option linter.all false
set_option maxRecDepth 100000
set_option maxHeartbeats 4000000
namespace MW
/-! ### the ranks there are -/
def putK (ks : List Int) (r : Int) : List Int := if r ∈ ks then ks else ks ++ [r]
theorem anyK (r : Int) : ∀ ks : List Int, (ks.map D.int).any (fun a => sameD a (.int r)) = decide (r ∈ ks)
  | [] => rfl
  | k :: ks => by
    simp only [List.map_cons, List.any_cons, anyK r ks, KeyEnc.int.same]
    rw [Bool.eq_iff_iff]
    simp only [Bool.or_eq_true, decide_eq_true_eq, List.mem_cons]
    exact ⟨fun h => h.imp (fun e => e.symm) id, fun h => h.imp (fun e => e.symm) id⟩
theorem dsetK (k : D) : ∀ ks : List D, dset k (.bl true) ks (List.replicate ks.length (.bl true)) = List.replicate ks.length (.bl true)
  | [] => rfl
  | a :: ks => by simp only [List.length_cons, List.replicate_succ, dset, dsetK k ks, ite_self]
theorem dputK (r : Int) (ks : List Int) : dput (.int r) (.bl true) (ks.map .int) (List.replicate ks.length (.bl true)) = ((putK ks r).map .int, List.replicate (putK ks r).length (.bl true)) := by
  unfold dput putK
  rw [anyK]
  by_cases h : r ∈ ks
  · have := dsetK (.int r) (ks.map .int)
    rw [List.length_map] at this
    simp [h, this]
  · simp [h, List.replicate_succ']
theorem dcL_K {ρ : Env} {g : G} {tg : T} {test key val : Env → G → Res D} {f : S → Int} : ∀ {xs : List S} {ks : List Int}, (∀ n ∈ xs, ∃ ρ1, bindT tg (.str n) ρ = some ρ1 ∧ test ρ1 g = .ok (.bl true) g ∧ key ρ1 g = .ok (.int (f n)) g ∧ val ρ1 g = .ok (.bl true) g) →
    dcL tg test key val (xs.map .str) ρ g (ks.map .int, List.replicate ks.length (.bl true)) = .ok (((xs.map f).foldl putK ks).map .int, List.replicate ((xs.map f).foldl putK ks).length (.bl true)) g
  | [], ks, _ => by simp [dcL]
  | n :: xs, ks, h => by
    obtain ⟨ρ1, h1, h2, h3, h4⟩ := h n (List.mem_cons_self ..)
    simp only [List.map_cons, dcL, h1, h2, h3, h4, Res.bind, truth, KeyEnc.int.ok, if_true, dputK, List.foldl_cons]
    exact dcL_K fun m hm => h m (List.mem_cons_of_mem _ hm)
theorem ev_dcK {P : Ctx} {ρ : Env} {g : G} {x : D} {key val it test : E} {tg : T} {own : List Nat} {f : S → Int} {ns : List S} (hi : evalE P it ρ g = .ok x g) (hd : itemsE it x = some (ns.map .str)) (hz : ns.length ≤ 16777216)
    (hh : ∀ n ∈ ns, ∃ ρ1, bindT tg (.str n) (wipeE own ρ) = some ρ1 ∧ evalE P test ρ1 g = .ok (.bl true) g ∧ evalE P key ρ1 g = .ok (.int (f n)) g ∧ evalE P val ρ1 g = .ok (.bl true) g) :
    evalE P (.dc key val tg it test own) ρ g = .ok (.dct false (((ns.map f).foldl putK []).map .int) (List.replicate ((ns.map f).foldl putK []).length (.bl true))) g := by
  simp only [evalE, ev_brwI hi, Res.bind, hd]
  rw [if_pos (decide_eq_true (by simpa using hz))]
  have := dcL_K (tg := tg) (test := fun ρ g => evalE P test ρ g) (key := fun ρ g => evalE P key ρ g) (val := fun ρ g => evalE P val ρ g) (f := f) (xs := ns) (ks := []) (ρ := wipeE own ρ) (g := g) hh
  simp only [List.map_nil, List.length_nil, List.replicate_zero] at this
  rw [this]
  simp [Res.noexc, Res.bind]
theorem pairsK : ∀ (rs : List Int) (ks : List Int), pairsD (rs.map fun r => .tup [.int r, .bl true]) (ks.map .int, List.replicate ks.length (.bl true)) = some ((rs.foldl putK ks).map .int, List.replicate (rs.foldl putK ks).length (.bl true))
  | [], ks => by simp [pairsD]
  | r :: rs, ks => by
    simp only [List.map_cons, pairsD, pairD, KeyEnc.int.ok, if_true, dputK, List.foldl_cons]
    exact pairsK rs _
/-- two ranks at most -/
theorem rank_le : ∀ (rs : List Int), (∀ r ∈ rs, r = 1 ∨ r = 2) → ∀ ks : List Int, (ks = [] ∨ ks = [1] ∨ ks = [2] ∨ ks = [1, 2] ∨ ks = [2, 1]) → (rs.foldl putK ks).length ≤ 2
  | [], _, ks, h => by rcases h with rfl | rfl | rfl | rfl | rfl <;> decide
  | r :: rs, hr, ks, h => by
    refine rank_le rs (fun x hx => hr x (List.mem_cons_of_mem _ hx)) _ ?_
    have := hr r (List.mem_cons_self ..)
    rcases this with rfl | rfl <;> rcases h with rfl | rfl | rfl | rfl | rfl <;> simp [putK]
/-! ### most -/
def rkOf (rk : List (S × Int)) (n : S) : Int := (lkp rk n).getD 0
def namesAt (rk : List (S × Int)) (ns : List S) (r : Int) : List S := ns.filter fun n => decide (rkOf rk n = r)
abbrev MSt := List S × List (Int × List S)
def mostS (pl : PL) (rk : List (S × Int)) (ns : List S) (st : MSt) (r : Int) : MSt := (st.1 ++ (bestO pl st.1 (namesAt rk ns r)).getD [], st.2 ++ [(r, (bestO pl st.1 (namesAt rk ns r)).getD [])])
structure MOk (pl : PL) (ns : List S) (m : Nat) (st : MSt) : Prop where
  sub : ∀ n ∈ st.1, n ∈ ns
  len : st.1.length ≤ 5 * m
  lots : st.2.length = m
  way : (firstO pl st.1 []).isSome = true
theorem most_step {pl : PL} {rk : List (S × Int)} {ns : List S} {m : Nat} {st : MSt} (hz : ns.length ≤ 5) (h : MOk pl ns m st) (r : Int) : MOk pl ns (m + 1) (mostS pl rk ns st r) := by
  unfold mostS
  have hl : (namesAt rk ns r).length ≤ ns.length := List.length_filter_le _ _
  cases e : bestO pl st.1 (namesAt rk ns r) with
  | none => exact ⟨fun n hn => h.sub n (by simpa using hn), by have := h.len; simp; omega, by simp [h.lots], by simpa using h.way⟩
  | some l =>
    obtain ⟨h1, h2, h3, h4⟩ := best_some e
    refine ⟨fun n hn => ?_, by have := h.len; simp; omega, by simp [h.lots], h4⟩
    rcases List.mem_append.mp hn with hn | hn
    · exact h.sub n hn
    · exact (List.mem_filter.mp (h3 n hn)).1
theorem most_all {pl : PL} {rk : List (S × Int)} {ns : List S} (hz : ns.length ≤ 5) : ∀ (rs : List Int) (m : Nat) (st : MSt), MOk pl ns m st → MOk pl ns (m + rs.length) (rs.foldl (mostS pl rk ns) st)
  | [], m, st, h => h
  | r :: rs, m, st, h => by
    have := most_all (rk := rk) hz rs (m + 1) _ (most_step (rk := rk) hz h r)
    rw [List.length_cons, show m + (rs.length + 1) = m + 1 + rs.length by omega]
    exact this
theorem MOk.start {pl : PL} {ns : List S} : MOk pl ns 0 ([], []) := ⟨fun n h => (by cases h), Nat.le_refl _, rfl, by rw [firstO]; rfl⟩
def encLt (p : Int × List S) : D := .tup [.int p.1, encL p.2]
/-- ranks for all of the places -/
structure RkOk (pl : PL) (rk : List (S × Int)) (ns : List S) : Prop where
  pk : pl.map (·.1) = ns
  rkk : rk.map (·.1) = ns
  nd : ns.Nodup
  so : ns.Pairwise strsLe
  len : ns.length ≤ 5
  two : ∀ p ∈ rk, p.2 = 1 ∨ p.2 = 2
theorem RkOk.lk {pl : PL} {rk : List (S × Int)} {ns : List S} (h : RkOk pl rk ns) {n : S} (hn : n ∈ ns) : lkp rk n = some (rkOf rk n) := by
  obtain ⟨b, e⟩ := lkp_some (xs := rk) (n := n) (by rw [h.rkk]; exact hn)
  simp [rkOf, e]
theorem RkOk.idx {pl : PL} {rk : List (S × Int)} {ns : List S} (h : RkOk pl rk ns) {n : S} (hn : n ∈ ns) : idxD (encDK D.str D.int rk) (.str n) = some (.int (rkOf rk n)) := KeyEnc.str.idx (h.lk hn)
theorem RkOk.keys {pl : PL} {rk : List (S × Int)} {ns : List S} (h : RkOk pl rk ns) : ∃ ks, encPL pl = .dct false (ns.map .str) ks := ⟨pl.map fun p => encRows p.2, by
  unfold encPL encDK
  rw [← h.pk, List.map_map]; rfl⟩
theorem RkOk.rkeys {pl : PL} {rk : List (S × Int)} {ns : List S} (h : RkOk pl rk ns) : ∃ ks, encDK D.str D.int rk = .dct false (ns.map .str) ks := ⟨rk.map fun p => .int p.2, by
  unfold encDK
  rw [← h.rkk, List.map_map]; rfl⟩
theorem sorted_self {ns : List S} (so : ns.Pairwise strsLe) : sortO (ns.map .str) = some (ns.map .str) := by
  obtain ⟨ys, h1, h2, h3⟩ := sort_strs ns
  rw [h1, strs_unique h2 h3 so]
def rksOf (rk : List (S × Int)) (ns : List S) : List Int := (ns.map (rkOf rk)).foldl putK []
theorem RkOk.two' {pl : PL} {rk : List (S × Int)} {ns : List S} (h : RkOk pl rk ns) : (rksOf rk ns).length ≤ 2 := by
  refine rank_le _ (fun r hr => ?_) _ (.inl rfl)
  obtain ⟨n, hn, rfl⟩ := List.mem_map.mp hr
  exact h.two _ (lkp_mem (h.lk hn))
theorem callQ {scr : List Int} {k : Nat} {f : String} {xs : List D} {g : G} {r : Res D} (h : run (P78 scr) k f xs g = r) : (Q78P scr k).call f xs g = r := h
def mstC : C := match c_most_over with
  | .seq _ (.seq _ (.seq (.for_ _ _ b) _)) => b
  | _ => .nil
theorem ev_namesAt {P : Ctx} {ρ : Env} {g : G} {pl : PL} {rk : List (S × Int)} {ns : List S} (h : RkOk pl rk ns) {own : List Nat} (r : Int) (h0 : ρ[0]? = some (.val (encPL pl))) (hw : ∀ n, ∃ ρ1, bindT (.nm 5) (.str n) (wipeE own ρ) = some ρ1 ∧ ρ1[5]? = some (.val (.str n)) ∧ ρ1[1]? = some (.val (encDK D.str D.int rk)) ∧ ρ1[4]? = some (.val (.int r))) :
    evalE P (.lc (.v 5) (.nm 5) (.b1 .sorted (.v 0)) (.cmp .eq (.idx (.v 1) (.v 5)) (.v 4)) own) ρ g = .ok (.lst ((namesAt rk ns r).map .str)) g := by
  obtain ⟨ks, hks⟩ := h.keys
  have hs : evalE P (.b1 .sorted (.v 0)) ρ g = .ok (.lst (ns.map .str)) g := ev_b1 (ev_v h0) (by rw [hks]; simp only [b1D, sorted_self h.so, Option.map])
  exact ev_lcM (enc := D.str) (xs := ns) (p := fun n => decide (rkOf rk n = r)) (f := D.str) hs rfl (by have := h.len; omega) fun n hn => by
    obtain ⟨ρ1, h1, h2, h3, h4⟩ := hw n
    exact ⟨ρ1, h1, ev_eqI (ev_idx (ev_v h3) (ev_v h2) (h.idx hn)) (ev_v h4), fun _ => ev_v h2⟩
theorem run_most (scr : List Int) (k : Nat) (pl : PL) (rk : List (S × Int)) (ns : List S) (g : G) (v : VPL pl) (h : RkOk pl rk ns) {ys : List Int} (hy : sortO ((rksOf rk ns).map .int) = some (ys.map .int)) (hyl : ys.length ≤ 2) :
    run (P78 scr) (k + 21) "most_over" [encPL pl, encDK D.str D.int rk] g = .ok (.tup [.tup (((ys.foldl (mostS pl rk ns) ([], [])).2).map encLt), encOT (firstO pl (ys.foldl (mostS pl rk ns) ([], [])).1 [])]) g := by
  rw [run_def (by rfl) (fd := fd_most_over) (by rfl) rfl]
  obtain ⟨ks, hks⟩ := h.keys
  obtain ⟨ρ', g', hf, hρ, hg⟩ := for_inv (t := .nm 4) (body := fun ρ g => evalC (Q78P scr (k + 20)) mstC ρ g) (I := fun i ρ g' => ρ = [.val (encPL pl), .val (encDK D.str D.int rk), .val (encL ((ys.take i).foldl (mostS pl rk ns) ([], [])).1), .own (.lst (((ys.take i).foldl (mostS pl rk ns) ([], [])).2.map encLt)), .no, .no, .no, .no] ∧ g' = g) (ds := ys.map .int) 0
    (ρ := [.val (encPL pl), .val (encDK D.str D.int rk), .val (encL []), .own (.lst []), .no, .no, .no, .no]) (g := g) ⟨rfl, rfl⟩ (fun i d ρ g0 hd hI => by
      obtain ⟨rfl, rfl⟩ := hI
      rw [Nat.zero_add]
      rw [List.getElem?_map] at hd
      obtain ⟨r, hri, rfl⟩ := Option.map_eq_some_iff.mp hd
      have hil : i < ys.length := (List.getElem?_eq_some_iff.mp hri).1
      have mok := most_all (rk := rk) h.len (ys.take i) 0 ([], []) (MOk.start (pl := pl))
      rw [Nat.zero_add, List.length_take, Nat.min_eq_left (by omega)] at mok
      refine ⟨_, rfl, [.val (encPL pl), .val (encDK D.str D.int rk), .val (encL ((ys.take (i + 1)).foldl (mostS pl rk ns) ([], [])).1), .own (.lst (((ys.take (i + 1)).foldl (mostS pl rk ns) ([], [])).2.map encLt)), .no, .no, .no, .no], g0, .inl ?_, rfl, rfl⟩
      rw [take_succ_at hri, List.foldl_append, List.foldl_cons, List.foldl_nil]
      generalize (ys.take i).foldl (mostS pl rk ns) ([], []) = st at mok
      obtain ⟨kept, lots⟩ := st
      have hkl := mok.len
      have hlo := mok.lots
      simp only at hkl hlo
      have hna : (namesAt rk ns r).length ≤ ns.length := List.length_filter_le _ _
      have hgr := run_great scr k pl g0 v kept (namesAt rk ns r) (fun n hn => by rw [h.pk]; exact mok.sub n hn) (fun n hn => by rw [h.pk]; exact (List.mem_filter.mp hn).1) (by have := h.len; omega)
      have hbl : ((bestO pl kept (namesAt rk ns r)).getD []).length ≤ 5 := by
        cases e : bestO pl kept (namesAt rk ns r) with
        | none => simp
        | some l => have := (best_some e).2.1; have := h.len; simp; omega
      simp only [mostS]
      generalize (bestO pl kept (namesAt rk ns r)).getD [] = b at hgr hbl
      have hadd : binD .add (encL kept) (encL b) = some (encL (kept ++ b)) := by
        unfold encL
        rw [add_tup (by simp; omega), List.map_append]
      refine (seq_nx (st_asg (ev_b1 (ev_namesAt h r rfl fun n => ⟨_, rfl, rfl, rfl, rfl⟩) (show b1D .tuple (.lst ((namesAt rk ns r).map .str)) = some (encL (namesAt rk ns r)) from rfl)) rfl)).trans ?_
      have hc : evalE (Q78P scr (k + 20)) (.call "greatest_lot" (.acons (.v 0) (.acons (.v 2) (.acons (.v 6) .anil))) 0) [.val (encPL pl), .val (encDK D.str D.int rk), .val (encL kept), .own (.lst (lots.map encLt)), .val (.int r), .no, .val (encL (namesAt rk ns r)), .no] g0 = .ok (encL b) g0 :=
        ev_call0 (f := "greatest_lot") (ev_acons (ev_v rfl) (ev_acons (ev_v rfl) (ev_acons (ev_v rfl) ev_anil))) rfl (callQ hgr)
      refine (seq_nx (st_asg hc rfl)).trans ?_
      refine (seq_nx (st_app (ev_tup (ev_acons (ev_v rfl) (ev_acons (ev_v rfl) ev_anil)) rfl) rfl (by rw [List.length_map]; omega))).trans ?_
      refine (seq_nx (st_asg (ev_bin (ev_v rfl) (ev_v rfl) hadd) rfl)).trans ?_
      rw [seq_nx st_drop, st_nil]
      simp [wipeE, encLt])
  rw [List.length_map, Nat.zero_add, List.take_length] at hρ
  subst hg
  have mok := most_all (rk := rk) h.len ys 0 ([], []) (MOk.start (pl := pl))
  generalize ys.foldl (mostS pl rk ns) ([], []) = st at hρ mok
  obtain ⟨kept, lots⟩ := st
  have hkl := mok.len
  simp only at hkl
  have hdc : evalE (Q78P scr (k + 20)) (.dc (.idx (.v 1) (.v 5)) (.k (.bl true)) (.nm 5) (.v 0) (.k (.bl true)) [5]) [.val (encPL pl), .val (encDK D.str D.int rk), .val (encL []), .own (.lst []), .no, .no, .no, .no] g' = .ok (.dct false ((rksOf rk ns).map .int) (List.replicate (rksOf rk ns).length (.bl true))) g' := by
    have hit : itemsE (.v 0) (encPL pl) = some (ns.map .str) := by rw [hks]; rfl
    exact ev_dcK (ev_v rfl) hit (by have := h.len; omega) fun n hn => ⟨_, rfl, ev_k, ev_idx (ev_v rfl) (ev_v rfl) (h.idx hn), ev_k⟩
  refine (congrArg fin (seq_nx (st_asg (ev_tup ev_anil rfl) rfl))).trans ?_
  refine (congrArg fin (seq_nx (st_ownL (ev_lst ev_anil rfl) (show 3 < 8 by decide)))).trans ?_
  refine (congrArg fin (seq_nx ((st_for (ds := ys.map .int) (ev_b1 (z := .lst (ys.map .int)) hdc (by simp only [b1D, hy, Option.map])) rfl).trans hf))).trans ?_
  rw [hρ, seq_nx st_drop]
  have hfirst := run_first scr (k + 15 - kept.length) pl g' v kept [] (fun n hn => by rw [h.pk]; exact mok.sub n hn) (fun _ h => by cases h) (by simp; omega)
  rw [show k + 15 - kept.length + 5 + kept.length = k + 20 by omega] at hfirst
  have hown : evalE (Q78P scr (k + 20)) (.b1 .tuple (.v 3)) (wipeE [4, 6, 7] [.val (encPL pl), .val (encDK D.str D.int rk), .val (encL kept), .own (.lst (lots.map encLt)), .no, .no, .no, .no]) g' = .ok (.tup (lots.map encLt)) g' := by
    simp only [evalE, brw]
    rfl
  refine (congrArg fin (seq_rt (st_ret (ev_tup (ev_acons hown (ev_acons (ev_call0 (P := Q78P scr (k + 20)) (f := "first_over") (ev_acons (ev_v rfl) (ev_acons (ev_v rfl) (ev_acons (ev_tup ev_anil rfl) ev_anil))) rfl (callQ hfirst)) ev_anil)) rfl)))).trans ?_
  rfl
end MW

end
section
set_option Elab.async false
set_option linter.all false
set_option maxRecDepth 100000
set_option maxHeartbeats 4000000
namespace MW
def lmstC : C := match c_law_most with
  | .seq _ (.seq _ (.seq (.for_ _ _ b) _)) => b
  | _ => .nil
def lmszC : C := match lmstC with
  | .seq _ (.seq _ (.seq (.for_ _ _ b) _)) => b
  | _ => .nil
theorem fold_best (f : Nat → Option (List S)) : ∀ (ds : List Nat) (b : List S), (∀ d l, f d = some l → l ≠ []) → ds.foldl (fun b d => if b = [] then (f d).getD [] else b) b = if b = [] then (ds.findSome? f).getD [] else b
  | [], b, _ => by
    by_cases h : b = []
    · simp [h]
    · simp [h]
  | d :: ds, b, hne => by
    rw [List.foldl_cons, fold_best f ds _ hne]
    by_cases h : b = []
    · simp only [h, if_true, List.findSome?_cons]
      cases e : f d with
      | none => simp
      | some l =>
        have := hne d l e
        simp [this]
    · simp [h]
theorem ways_ne (pl : PL) (ns : List S) : (!decide (waysL pl [[]] ns = [])) = (firstO pl ns []).isSome := by
  have h := ways_head pl ns []
  cases e : waysL pl [[]] ns with
  | nil => rw [e] at h; simp at h; rw [← h]; rfl
  | cons w ws => rw [e] at h; simp at h; rw [← h]; rfl
theorem head_find (p : List S → Bool) : ∀ xs : List (List S), (xs.filter p).head? = xs.find? p
  | [] => rfl
  | x :: xs => by
    simp only [List.filter_cons, List.find?_cons]
    cases p x with
    | true => rfl
    | false => simpa using head_find p xs
theorem run_lmost (scr : List Int) (k : Nat) (pl : PL) (rk : List (S × Int)) (ns : List S) (g : G) (v : VPL pl) (h : RkOk pl rk ns) {ys : List Int} (hy : sortO ((rksOf rk ns).map .int) = some (ys.map .int)) (hyl : ys.length ≤ 2) :
    ∃ w, firstO pl (ys.foldl (mostS pl rk ns) ([], [])).1 [] = some w ∧ run (P78 scr) (k + 21) "_law_most" [encPL pl, encDK D.str D.int rk] g = .ok (.tup [.tup (((ys.foldl (mostS pl rk ns) ([], [])).2).map encLt), encTk w]) g := by
  rw [run_def (by rfl) (fd := fd_law_most) (by rfl) rfl]
  obtain ⟨ks, hks⟩ := h.keys
  obtain ⟨ks2, hks2⟩ := h.rkeys
  have hways := fun (n2 : List S) (h1 : ∀ n ∈ n2, n ∈ pl.map (·.1)) (h2 : n2.length ≤ 10) => run_ways scr (k + 16) pl g v (encL n2) n2 rfl h1 h2
  obtain ⟨ρ', g', hf, hρ, hg⟩ := for_inv (t := .nm 4) (body := fun ρ g => evalC (Q78P scr (k + 20)) lmstC ρ g) (I := fun i ρ g' => ρ = [.val (encPL pl), .val (encDK D.str D.int rk), .val (encL ((ys.take i).foldl (mostS pl rk ns) ([], [])).1), .own (.lst (((ys.take i).foldl (mostS pl rk ns) ([], [])).2.map encLt)), .no, .no, .no, .no, .no, .no, .no] ∧ g' = g) (ds := ys.map .int) 0
    (ρ := [.val (encPL pl), .val (encDK D.str D.int rk), .val (encL []), .own (.lst []), .no, .no, .no, .no, .no, .no, .no]) (g := g) ⟨rfl, rfl⟩ (fun i d ρ g0 hd hI => by
      obtain ⟨rfl, rfl⟩ := hI
      rw [Nat.zero_add]
      rw [List.getElem?_map] at hd
      obtain ⟨r, hri, rfl⟩ := Option.map_eq_some_iff.mp hd
      have hil : i < ys.length := (List.getElem?_eq_some_iff.mp hri).1
      have mok := most_all (rk := rk) h.len (ys.take i) 0 ([], []) (MOk.start (pl := pl))
      rw [Nat.zero_add, List.length_take, Nat.min_eq_left (by omega)] at mok
      refine ⟨_, rfl, [.val (encPL pl), .val (encDK D.str D.int rk), .val (encL ((ys.take (i + 1)).foldl (mostS pl rk ns) ([], [])).1), .own (.lst (((ys.take (i + 1)).foldl (mostS pl rk ns) ([], [])).2.map encLt)), .no, .no, .no, .no, .no, .no, .no], g0, .inl ?_, rfl, rfl⟩
      rw [take_succ_at hri, List.foldl_append, List.foldl_cons, List.foldl_nil]
      generalize (ys.take i).foldl (mostS pl rk ns) ([], []) = st at mok
      obtain ⟨kept, lots⟩ := st
      have hkl := mok.len
      have hlo := mok.lots
      simp only at hkl hlo
      have hna : (namesAt rk ns r).length ≤ ns.length := List.length_filter_le _ _
      have hns : ∀ n ∈ namesAt rk ns r, n ∈ pl.map (·.1) := fun n hn => by rw [h.pk]; exact (List.mem_filter.mp hn).1
      have hks' : ∀ n ∈ kept, n ∈ pl.map (·.1) := fun n hn => by rw [h.pk]; exact mok.sub n hn
      have hlen5 := h.len
      have hlots := fun d => run_llots scr (k + 19) g0 d (namesAt rk ns r) (by omega) (h.so.sublist List.filter_sublist) (h.nd.sublist List.filter_sublist)
      have hbl : ((bestO pl kept (namesAt rk ns r)).getD []).length ≤ 5 := by
        cases e : bestO pl kept (namesAt rk ns r) with
        | none => simp
        | some l => have := (best_some e).2.1; simp; omega
      -- the sizes
      have hsz : forL (.nm 8) (fun ρ g => evalC (Q78P scr (k + 20)) lmszC ρ g) ((downs (namesAt rk ns r).length).map fun (d : Nat) => D.int ((d + 1 : Nat) : Int)) [.val (encPL pl), .val (encDK D.str D.int rk), .val (encL kept), .own (.lst (lots.map encLt)), .val (.int r), .no, .val (.lst ((namesAt rk ns r).map .str)), .val (encL []), .no, .no, .no] g0 =
          .ok (.nx [.val (encPL pl), .val (encDK D.str D.int rk), .val (encL kept), .own (.lst (lots.map encLt)), .val (.int r), .no, .val (.lst ((namesAt rk ns r).map .str)), .val (encL ((bestO pl kept (namesAt rk ns r)).getD [])), .no, .no, .no]) g0 := by
        have hfo := for_fold (st := fun b : List S => [.val (encPL pl), .val (encDK D.str D.int rk), .val (encL kept), .own (.lst (lots.map encLt)), .val (.int r), .no, .val (.lst ((namesAt rk ns r).map .str)), .val (encL b), .no, .no, .no]) (g := g0) (enc := fun (d : Nat) => D.int ((d + 1 : Nat) : Int)) (xs := downs (namesAt rk ns r).length) (s := [])
          (f := fun b d => if b = [] then ((lotsOf (namesAt rk ns r) (d + 1)).find? (goodL pl kept)).getD [] else b) (tg := .nm 8) (body := fun ρ g => evalC (Q78P scr (k + 20)) lmszC ρ g) fun b d hd => by
            refine ⟨_, rfl, ?_⟩
            have hl2 := lots_len (namesAt rk ns r) (d + 1)
            have hp2 : 2 ^ (namesAt rk ns r).length ≤ 2 ^ 5 := Nat.pow_le_pow_right (by decide) (by omega)
            have hl := ev_lcM (P := Q78P scr (k + 20)) (enc := encL) (xs := lotsOf (namesAt rk ns r) (d + 1)) (p := goodL pl kept) (f := encL) (g := g0) (g1 := g0) (x := .lst ((lotsOf (namesAt rk ns r) (d + 1)).map encL)) (it := .call "_law_lots" (.acons (.v 6) (.acons (.v 8) .anil)) 0)
              (ρ := [.val (encPL pl), .val (encDK D.str D.int rk), .val (encL kept), .own (.lst (lots.map encLt)), .val (.int r), .no, .val (.lst ((namesAt rk ns r).map .str)), .val (encL b), .val (.int ((d + 1 : Nat) : Int)), .no, .no]) (elt := .v 10) (tg := .nm 10) (own := [10])
              (test := .cmp .ne (.call "_law_all_ways" (.acons (.v 0) (.acons (.bin .add (.v 2) (.v 10)) .anil)) 0) (.lst .anil))
              (ev_call0 (f := "_law_lots") (ev_acons (ev_v rfl) (ev_acons (ev_v rfl) ev_anil)) rfl (callQ (hlots d))) rfl (by omega) fun l hl => ⟨_, rfl, by
                have hll := lots_le _ _ _ hl
                have hln := (lots_mem _ _ _ hl).2
                have hadd : binD .add (encL kept) (encL l) = some (encL (kept ++ l)) := by
                  unfold encL
                  rw [add_tup (by simp; omega), List.map_append]
                have hw := hways (kept ++ l) (fun a ha => by
                  rcases List.mem_append.mp ha with ha | ha
                  · exact hks' a ha
                  · exact hns a (hln a ha)) (by simp; omega)
                have := ev_cmp (P := Q78P scr (k + 20)) (ρ := [.val (encPL pl), .val (encDK D.str D.int rk), .val (encL kept), .own (.lst (lots.map encLt)), .val (.int r), .no, .val (.lst ((namesAt rk ns r).map .str)), .val (encL b), .val (.int ((d + 1 : Nat) : Int)), .no, .val (encL l)]) (g := g0) (ev_call0 (f := "_law_all_ways") (ev_acons (ev_v (i := 0) rfl) (ev_acons (ev_bin (ev_v (i := 2) rfl) (ev_v (i := 10) rfl) hadd) ev_anil)) rfl (callQ hw)) (ev_lst ev_anil rfl) (EqEnc.taken.tup.lst.cmpN (by decide) (waysL pl [[]] (kept ++ l)) [])
                rw [ways_ne] at this
                exact this, fun _ => ev_v rfl⟩
            refine (seq_nx (st_asg hl rfl)).trans ?_
            have hfind := head_find (goodL pl kept) (lotsOf (namesAt rk ns r) (d + 1))
            generalize (lotsOf (namesAt rk ns r) (d + 1)).filter (goodL pl kept) = good at hfind
            have t := ev_and (P := Q78P scr (k + 20)) (ρ := [.val (encPL pl), .val (encDK D.str D.int rk), .val (encL kept), .own (.lst (lots.map encLt)), .val (.int r), .no, .val (.lst ((namesAt rk ns r).map .str)), .val (encL b), .val (.int ((d + 1 : Nat) : Int)), .val (.lst (good.map encL)), .no]) (g := g0)
              (ev_cmp (ev_v (i := 7) rfl) (ev_tup ev_anil rfl) (EqEnc.str.tup.cmp (by decide) b [])) (ev_cmp (ev_v (i := 9) rfl) (ev_lst ev_anil rfl) (EqEnc.str.tup.lst.cmpN (by decide) good []))
            rw [← hfind]
            by_cases hb : b = []
            · cases good with
              | nil =>
                have t' : evalE (Q78P scr (k + 20)) (.and (.cmp .eq (.v 7) (.tup .anil)) (.cmp .ne (.v 9) (.lst .anil))) [.val (encPL pl), .val (encDK D.str D.int rk), .val (encL kept), .own (.lst (lots.map encLt)), .val (.int r), .no, .val (.lst ((namesAt rk ns r).map .str)), .val (encL b), .val (.int ((d + 1 : Nat) : Int)), .val (.lst (([] : List (List S)).map encL)), .no] g0 = .ok (.bl false) g0 := t.trans (by simp)
                subst hb
                exact (seq_ifn t' rfl st_nil).trans ((seq_nx st_drop).trans st_nil)
              | cons x xs =>
                have t' : evalE (Q78P scr (k + 20)) (.and (.cmp .eq (.v 7) (.tup .anil)) (.cmp .ne (.v 9) (.lst .anil))) [.val (encPL pl), .val (encDK D.str D.int rk), .val (encL kept), .own (.lst (lots.map encLt)), .val (.int r), .no, .val (.lst ((namesAt rk ns r).map .str)), .val (encL b), .val (.int ((d + 1 : Nat) : Int)), .val (.lst ((x :: xs).map encL)), .no] g0 = .ok (.bl true) g0 := t.trans (by simp [hb])
                subst hb
                exact (seq_ify t' rfl ((seq_nx (st_asg (ev_idx (ev_v rfl) ev_k (idx_headL _ _)) rfl)).trans st_nil)).trans ((seq_nx st_drop).trans st_nil)
            · have t' : evalE (Q78P scr (k + 20)) (.and (.cmp .eq (.v 7) (.tup .anil)) (.cmp .ne (.v 9) (.lst .anil))) [.val (encPL pl), .val (encDK D.str D.int rk), .val (encL kept), .own (.lst (lots.map encLt)), .val (.int r), .no, .val (.lst ((namesAt rk ns r).map .str)), .val (encL b), .val (.int ((d + 1 : Nat) : Int)), .val (.lst (good.map encL)), .no] g0 = .ok (.bl false) g0 := t.trans (by simp [hb])
              rw [if_neg hb]
              exact (seq_ifn t' rfl st_nil).trans ((seq_nx st_drop).trans st_nil)
        rw [fold_best (fun d => (lotsOf (namesAt rk ns r) (d + 1)).find? (goodL pl kept)) _ _ fun d l e he => by
          subst he
          have h1 := (lots_mem _ _ _ (List.mem_of_find?_eq_some e)).1
          simp at h1, if_pos rfl] at hfo
        exact hfo
      simp only [mostS]
      generalize (bestO pl kept (namesAt rk ns r)).getD [] = b at hsz hbl
      have hadd : binD .add (encL kept) (encL b) = some (encL (kept ++ b)) := by
        unfold encL
        rw [add_tup (by simp; omega), List.map_append]
      refine (seq_nx (st_asg (ev_namesAt h r rfl fun n => ⟨_, rfl, rfl, rfl, rfl⟩) rfl)).trans ?_
      refine (seq_nx (st_asg (ev_tup ev_anil rfl) rfl)).trans ?_
      have hlen : b1D .len (.lst ((namesAt rk ns r).map .str)) = some (.int (namesAt rk ns r).length) := by simp only [b1D, List.length_map]
      refine (seq_nx ((st_for (ev_downs (ev_b1 (ev_v (i := 6) rfl) hlen) (by omega)) rfl).trans hsz)).trans ?_
      refine (seq_nx st_drop).trans ?_
      refine (seq_nx (st_app (ev_tup (ev_acons (ev_v rfl) (ev_acons (ev_v rfl) ev_anil)) rfl) rfl (by rw [List.length_map]; omega))).trans ?_
      refine (seq_nx (st_asg (ev_bin (ev_v rfl) (ev_v rfl) hadd) rfl)).trans ?_
      rw [seq_nx st_drop, st_nil]
      simp [wipeE, encLt])
  rw [List.length_map, Nat.zero_add, List.take_length] at hρ
  subst hg
  have mok := most_all (rk := rk) h.len ys 0 ([], []) (MOk.start (pl := pl))
  generalize ys.foldl (mostS pl rk ns) ([], []) = st at hρ mok
  obtain ⟨kept, lots⟩ := st
  have hkl := mok.len
  simp only at hkl
  obtain ⟨w, hw⟩ := Option.isSome_iff_exists.mp mok.way
  refine ⟨w, hw, ?_⟩
  have hdc : evalE (Q78P scr (k + 20)) (.b1 .dict (.lc (.tup (.acons (.idx (.v 1) (.v 5)) (.acons (.k (.bl true)) .anil))) (.nm 5) (.v 1) (.k (.bl true)) [5])) [.val (encPL pl), .val (encDK D.str D.int rk), .val (encL []), .own (.lst []), .no, .no, .no, .no, .no, .no, .no] g' = .ok (.dct false ((rksOf rk ns).map .int) (List.replicate (rksOf rk ns).length (.bl true))) g' := by
    have hit : itemsE (.v 1) (encDK D.str D.int rk) = some (ns.map .str) := by rw [hks2]; rfl
    have hl := ev_lcM (P := Q78P scr (k + 20)) (enc := D.str) (xs := ns) (p := fun _ => true) (f := fun n => D.tup [.int (rkOf rk n), .bl true]) (g := g') (g1 := g') (x := encDK D.str D.int rk) (it := .v 1)
      (ρ := [.val (encPL pl), .val (encDK D.str D.int rk), .val (encL []), .own (.lst []), .no, .no, .no, .no, .no, .no, .no]) (elt := .tup (.acons (.idx (.v 1) (.v 5)) (.acons (.k (.bl true)) .anil))) (tg := .nm 5) (own := [5]) (test := .k (.bl true))
      (ev_v rfl) hit (by have := h.len; omega) fun n hn => ⟨_, rfl, ev_k, fun _ => ev_tup (ev_acons (ev_idx (ev_v rfl) (ev_v rfl) (h.idx hn)) (ev_acons ev_k ev_anil)) rfl⟩
    rw [filter_yes] at hl
    refine ev_b1 hl ?_
    have hp := pairsK (ns.map (rkOf rk)) []
    simp only [List.map_map, List.map_nil, List.length_nil, List.replicate_zero] at hp
    simp only [b1D]
    rw [show ns.map (fun n => D.tup [.int (rkOf rk n), .bl true]) = ns.map ((fun r => D.tup [.int r, .bl true]) ∘ rkOf rk) from rfl, hp]
    rfl
  refine (congrArg fin (seq_nx (st_asg (ev_tup ev_anil rfl) rfl))).trans ?_
  refine (congrArg fin (seq_nx (st_ownL (ev_lst ev_anil rfl) (show 3 < 11 by decide)))).trans ?_
  refine (congrArg fin (seq_nx ((st_for (ds := ys.map .int) (ev_b1 (z := .lst (ys.map .int)) hdc (by simp only [b1D, hy, Option.map])) rfl).trans hf))).trans ?_
  rw [hρ, seq_nx st_drop]
  have hkin : ∀ n ∈ kept, n ∈ pl.map (·.1) := fun n hn => by rw [h.pk]; exact mok.sub n hn
  have hw2 := hways kept hkin (by omega)
  have hh := ways_head pl kept []
  rw [hw] at hh
  have hown : evalE (Q78P scr (k + 20)) (.b1 .tuple (.v 3)) (wipeE [4, 6, 7, 8, 9] [.val (encPL pl), .val (encDK D.str D.int rk), .val (encL kept), .own (.lst (lots.map encLt)), .no, .no, .no, .no, .no, .no, .no]) g' = .ok (.tup (lots.map encLt)) g' := by
    simp only [evalE, brw]
    rfl
  have hix : idxD (encW (waysL pl [[]] kept)) (.int 0) = some (encTk w) := by
    cases e : waysL pl [[]] kept with
    | nil => rw [e] at hh; cases hh
    | cons x xs =>
      rw [e] at hh
      cases hh
      exact idx_headL _ _
  refine (congrArg fin (seq_rt (st_ret (ev_tup (ev_acons hown (ev_acons (ev_idx (ev_call0 (P := Q78P scr (k + 20)) (f := "_law_all_ways") (ev_acons (ev_v rfl) (ev_acons (ev_v rfl) ev_anil)) rfl (callQ hw2)) ev_k hix) ev_anil)) rfl)))).trans ?_
  rfl
end MW

end
section
set_option Elab.async false
set_option linter.all false
set_option maxRecDepth 100000
set_option maxHeartbeats 4000000
namespace MW
/-! ### the law's spots -/
def rowsXY (b : Bx) (k : Int) : List (S × Int × Int) := [(s_east, b.e, b.s), (s_north, b.w, b.n), (s_west, b.w - k, b.s), (s_south, b.w, b.s - 1)]
def toBx (k : Int) (r : S × Int × Int) : S × Bx := (r.1, ⟨r.2.1, r.2.1 + k, r.2.2, r.2.2 + 1⟩)
def encXY (r : S × Int × Int) : D := .tup [.str r.1, .int r.2.1, .int r.2.2]
theorem rows_labs (nb : NB) (n : S) : (rowsXY (getB nb n) n.length).map (toBx n.length) = labs nb n := by
  simp only [rowsXY, toBx, labs, labE, labN, labW, labS, List.map_cons, List.map_nil, List.cons.injEq, Prod.mk.injEq, Bx.mk.injEq, true_and, and_true]
  omega
def badB (nb : NB) (n : S) (b : Bx) (m : S) : Bool := (!(m == n) && !withinB (getB nb n) (getB nb m)) && (overlapB b (getB nb m) || touchB b (getB nb m))
def spotOk (nb : NB) (n : S) (win b : Bx) : Bool := (nb.map (·.1)).foldl (fun good m => if badB nb n b m = true then false else good) (withinB b win)
theorem spot_fold (nb : NB) (n : S) (b : Bx) : ∀ (ms : List S) (g : Bool), ms.foldl (fun good m => if badB nb n b m = true then false else good) g = (g && !ms.any (badB nb n b))
  | [], g => by simp
  | m :: ms, g => by
    rw [List.foldl_cons, spot_fold nb n b ms, List.any_cons]
    cases badB nb n b m <;> cases g <;> simp
theorem labs_off {nb : NB} {n : S} {p : S × Bx} (h : p ∈ labs nb n) : overlapB p.2 (getB nb n) = false := by
  unfold labs at h
  simp only [List.mem_cons, List.not_mem_nil, or_false] at h
  have key : ¬ (overlapB p.2 (getB nb n) = true) := by
    simp only [overlapB, Bool.and_eq_true, decide_eq_true_eq]
    rcases h with rfl | rfl | rfl | rfl <;> simp only [labE, labN, labW, labS] <;> omega
  simpa using key
theorem spot_eq {nb : NB} (v : Valid nb) {n : S} {win : Bx} {p : S × Bx} (h : p ∈ labs nb n) : spotOk nb n win p.2 = okLab nb n win p.2 := by
  unfold spotOk okLab
  rw [spot_fold, labs_off h, Bool.not_false, Bool.and_true]
  congr 2
  rw [Bool.eq_iff_iff, List.any_eq_true, List.any_eq_true]
  unfold othersL
  constructor
  · rintro ⟨m, hm, hb⟩
    obtain ⟨q, hq, rfl⟩ := List.mem_map.mp hm
    have e : getB nb q.1 = q.2 := by rw [getB, lk_mem v.nd hq]; rfl
    simp only [badB, e, Bool.and_eq_true] at hb
    refine ⟨_, List.mem_map.mpr ⟨q.2, List.mem_map.mpr ⟨q, List.mem_filter.mpr ⟨(si_perm nb).mem_iff.mpr hq, ?_⟩, rfl⟩, rfl⟩, hb.2⟩
    simp only [Bool.and_eq_true]
    exact hb.1
  · rintro ⟨x, hx, hb⟩
    obtain ⟨c, hc, rfl⟩ := List.mem_map.mp hx
    obtain ⟨q, hq, rfl⟩ := List.mem_map.mp hc
    obtain ⟨h1, h2⟩ := List.mem_filter.mp hq
    have hq' := (si_perm nb).mem_iff.mp h1
    have e : getB nb q.1 = q.2 := by rw [getB, lk_mem v.nd hq']; rfl
    refine ⟨q.1, List.mem_map.mpr ⟨q, hq', rfl⟩, ?_⟩
    simp only [badB, e, Bool.and_eq_true]
    simp only [Bool.and_eq_true] at h2
    exact ⟨h2, hb⟩
theorem spots_places {nb : NB} (v : Valid nb) (n : S) (win : Bx) : (((rowsXY (getB nb n) n.length).map (toBx n.length)).filter fun p => spotOk nb n win p.2) = placesL nb n win := by
  rw [rows_labs]
  unfold placesL
  exact List.filter_congr fun p hp => spot_eq v hp
/-- boxes as drawn -/
structure FineB (nb : NB) : Prop extends Fine nb where
  bx : ∀ p ∈ nb, BxOk p.2 ∧ p.1 ≠ [] ∧ p.1.length ≤ 5
structure WinOk (b : Bx) : Prop where
  w : b.w = -1
  e : 7 ≤ b.e ∧ b.e ≤ 11
  s : b.s = -1
  n : b.n = 6
theorem FineB.get {nb : NB} (v : FineB nb) {n : S} (h : n ∈ nb.map (·.1)) : BxOk (getB nb n) ∧ n ≠ [] ∧ n.length ≤ 5 := by
  obtain ⟨b, h1, h2⟩ := lk_some h
  have e : getB nb n = b := by rw [getB, h1]; rfl
  rw [e]
  exact v.bx _ h2
def spinC : C := match c_law_spots with
  | .seq _ (.seq _ (.seq _ (.seq _ (.seq (.for_ _ _ (.seq _ (.seq _ (.seq (.for_ _ _ b) _)))) _)))) => b
  | _ => .nil
def spoutC : C := match c_law_spots with
  | .seq _ (.seq _ (.seq _ (.seq _ (.seq (.for_ _ _ b) _)))) => b
  | _ => .nil
noncomputable def spE (nb : NB) (win : Bx) (n : S) (found : List (S × Bx)) (x10 x11 x12 x13 x14 x15 : Slot) : Env :=
  [.val (encN nb), .val (encB win), .val (.str n), .val (.int (getB nb n).w), .val (.int (getB nb n).e), .val (.int (getB nb n).s), .val (.int (getB nb n).n), .val (.int n.length), .val (.lst ((rowsXY (getB nb n) n.length).map encXY)), .own (.lst (found.map encP)), x10, x11, x12, x13, x14, x15, .no]
theorem spots_in (scr : List Int) (k : Nat) (nb : NB) (win : Bx) (n : S) (g : G) (v : FineB nb) (hn : n ∈ nb.map (·.1)) (b : Bx) (sm : Sm b) (hb : b.w < b.e ∧ b.s < b.n) (hz : (sqL b).length ≤ 1000000) (found : List (S × Bx)) (x10 x11 x12 : Slot) (g0 : Bool) :
    forL (.nm 15) (fun ρ g => evalC (Q78P scr (k + 2)) spinC ρ g) ((nb.map (·.1)).map .str) (spE nb win n found x10 x11 x12 (.val (encB b)) (.val (.bl g0)) .no) g =
      .ok (.nx (spE nb win n found x10 x11 x12 (.val (encB b)) (.val (.bl ((nb.map (·.1)).foldl (fun good m => if badB nb n b m = true then false else good) g0))) .no)) g := by
  refine for_fold (st := fun good : Bool => spE nb win n found x10 x11 x12 (.val (encB b)) (.val (.bl good)) .no) (enc := D.str) (f := fun good m => if badB nb n b m = true then false else good) fun good m hm => ⟨_, rfl, ?_⟩
  obtain ⟨m1, m2, m3⟩ := v.toFine.get hm
  obtain ⟨n1, n2, n3⟩ := v.toFine.get hn
  have t1 := ev_and (P := Q78P scr (k + 2)) (ρ := spE nb win n found x10 x11 x12 (.val (encB b)) (.val (.bl good)) (.val (.str m))) (g := g) (ev_cmp (ev_v (i := 15) rfl) (ev_v (i := 2) rfl) (cmp_strn m n))
    (ev_not (ev_call0 (f := "_law_holds") (ev_acons (ev_idx (ev_v (i := 0) rfl) (ev_v (i := 15) rfl) (idx_nb (lk_get hm))) (ev_acons (ev_idx (ev_v (i := 0) rfl) (ev_v (i := 2) rfl) (idx_nb (lk_get hn))) ev_anil)) rfl (callQ (run_lholds scr k _ _ g m1 n1 n2))) rfl)
  have hl := ev_lcM (P := Q78P scr (k + 2)) (enc := encQ) (xs := sqL (getB nb m)) (p := fun q => decide (q ∈ nearS b)) (f := encQ) (g := g) (g1 := g) (x := .lst ((sqL (getB nb m)).map encQ)) (it := .call "_law_squares" (.acons (.idx (.v 0) (.v 15)) .anil) 0)
    (ρ := spE nb win n found x10 x11 x12 (.val (encB b)) (.val (.bl good)) (.val (.str m))) (elt := .v 16) (tg := .nm 16) (own := [16]) (test := .cmp .inn (.v 16) (.call "_law_near" (.acons (.v 13) .anil) 0))
    (ev_call0 (f := "_law_squares") (ev_acons (ev_idx (ev_v rfl) (ev_v rfl) (idx_nb (lk_get hm))) ev_anil) rfl (callQ (run_squares scr (k + 1) _ g m1))) rfl (by omega)
    fun q hq => ⟨_, rfl, ev_inn (ev_v rfl) (ev_call0 (f := "_law_near") (ev_acons (ev_v rfl) ev_anil) rfl (callQ (run_near scr k b g sm hz))) (inQ q _), fun _ => ev_v rfl⟩
  have hlen : b1D .len (.lst (((sqL (getB nb m)).filter fun q => decide (q ∈ nearS b)).map encQ)) = some (.int ((sqL (getB nb m)).filter fun q => decide (q ∈ nearS b)).length) := by
    simp only [b1D, List.length_map]
  have t2 := ev_cmp (P := Q78P scr (k + 2)) (ev_b1 hl hlen) (ev_k (d := .int 0)) (cmp_gt _ _)
  have hex : decide ((0 : Int) < ((sqL (getB nb m)).filter fun q => decide (q ∈ nearS b)).length) = (overlapB b (getB nb m) || touchB b (getB nb m)) := by
    rw [Bool.eq_iff_iff, decide_eq_true_eq, ← near_iff hb m2]
    constructor
    · intro hp
      have : ((sqL (getB nb m)).filter fun q => decide (q ∈ nearS b)) ≠ [] := fun e => by rw [e] at hp; simp at hp
      obtain ⟨q, hq⟩ := List.exists_mem_of_ne_nil _ this
      rw [List.mem_filter] at hq
      exact ⟨q, hq.1, of_decide_eq_true hq.2⟩
    · rintro ⟨q, h5, h6⟩
      have : q ∈ (sqL (getB nb m)).filter fun q => decide (q ∈ nearS b) := List.mem_filter.mpr ⟨h5, decide_eq_true h6⟩
      have := List.length_pos_iff.mpr (List.ne_nil_of_mem this)
      omega
  rw [hex] at t2
  unfold badB
  cases hc : (!(m == n) && !withinB (getB nb n) (getB nb m)) with
  | false =>
    rw [hc] at t1
    exact (seq_ifn t1 rfl st_nil).trans ((seq_nx st_drop).trans st_nil)
  | true =>
    rw [hc] at t1
    cases ht : (overlapB b (getB nb m) || touchB b (getB nb m)) with
    | false =>
      rw [ht] at t2
      exact (seq_ify t1 rfl ((seq_ifn t2 rfl st_nil).trans st_nil)).trans ((seq_nx st_drop).trans st_nil)
    | true =>
      rw [ht] at t2
      exact (seq_ify t1 rfl ((seq_ify t2 rfl ((seq_nx (st_asg ev_k rfl)).trans st_nil)).trans st_nil)).trans ((seq_nx st_drop).trans st_nil)
theorem run_spots (scr : List Int) (k : Nat) (nb : NB) (win : Bx) (n : S) (g : G) (v : FineB nb) (hw : WinOk win) (hn : n ∈ nb.map (·.1)) :
    run (P78 scr) (k + 3) "_law_spots" [encN nb, encB win, .str n] g = .ok (.lst ((placesL nb n win).map encP)) g := by
  rw [run_def (by rfl) (fd := fd_law_spots) (by rfl) rfl]
  obtain ⟨n1, n2, n3⟩ := v.get hn
  have hnl := List.length_pos_iff.mpr n2
  have hlenN : b1D .len (.str n) = some (.int n.length) := by
    simp only [b1D]
    rw [if_pos (decide_eq_true (by omega))]
  generalize hks : ((n.length : Nat) : Int) = ks at hlenN
  have hk1 : 1 ≤ ks ∧ ks ≤ 5 := by omega
  obtain ⟨ρ', g', hf, hρ, hg⟩ := for_inv (t := .tup (.tcons (.nm 10) (.tcons (.nm 11) (.tcons (.nm 12) .tnil)))) (body := fun ρ g => evalC (Q78P scr (k + 2)) spoutC ρ g) (I := fun i ρ g' => ρ = spE nb win n ((((rowsXY (getB nb n) n.length).take i).map (toBx n.length)).filter fun p => spotOk nb n win p.2) .no .no .no .no .no .no ∧ g' = g) (ds := (rowsXY (getB nb n) n.length).map encXY) 0
    (ρ := spE nb win n [] .no .no .no .no .no .no) (g := g) ⟨rfl, rfl⟩ (fun i d ρ g0 hd hI => by
      obtain ⟨rfl, rfl⟩ := hI
      rw [Nat.zero_add]
      rw [List.getElem?_map] at hd
      obtain ⟨r, hri, rfl⟩ := Option.map_eq_some_iff.mp hd
      have hil : i < 4 := (List.getElem?_eq_some_iff.mp hri).1
      have hmem := List.mem_of_getElem? hri
      have hlab : toBx n.length r ∈ labs nb n := by rw [← rows_labs]; exact List.mem_map_of_mem hmem
      have sm : Sm (toBx n.length r).2 := by
        obtain ⟨w1, w2, e1, e2, s1, s2, q1, q2⟩ := n1
        simp only [rowsXY, List.mem_cons, List.not_mem_nil, or_false] at hmem
        rcases hmem with rfl | rfl | rfl | rfl <;> constructor <;> simp only [toBx] <;> omega
      have lb : Lb (toBx n.length r).2 := ⟨sm, by simp only [toBx]; omega, rfl⟩
      have hb : (toBx n.length r).2.w < (toBx n.length r).2.e ∧ (toBx n.length r).2.s < (toBx n.length r).2.n := ⟨lb.w, by simp only [toBx]; omega⟩
      refine ⟨_, rfl, spE nb win n ((((rowsXY (getB nb n) n.length).take (i + 1)).map (toBx n.length)).filter fun p => spotOk nb n win p.2) .no .no .no .no .no .no, g0, .inl ?_, rfl, rfl⟩
      rw [take_succ_at hri, List.map_append, List.filter_append]
      generalize hfo : (((rowsXY (getB nb n) n.length).take i).map (toBx n.length)).filter (fun p => spotOk nb n win p.2) = found
      have hfl : found.length ≤ 4 := by
        rw [← hfo]
        refine Nat.le_trans (List.length_filter_le _ _) ?_
        rw [List.length_map, List.length_take]
        exact Nat.min_le_right _ _
      have hin := fun g1 => spots_in scr k nb win n g0 v hn _ sm hb (Lb.sq lb) found (.val (.str r.1)) (.val (.int r.2.1)) (.val (.int r.2.2)) g1
      have hbox : evalE (Q78P scr (k + 2)) (.tup (.acons (.v 11) (.acons (.bin .add (.v 11) (.v 7)) (.acons (.v 12) (.acons (.bin .add (.v 12) (.k (.int 1))) .anil))))) (spE nb win n found (.val (.str r.1)) (.val (.int r.2.1)) (.val (.int r.2.2)) .no .no .no) g0 = .ok (encB (toBx n.length r).2) g0 :=
        ev_tup (ev_acons (ev_v rfl) (ev_acons (ev_bin (ev_v rfl) (ev_v rfl) rfl) (ev_acons (ev_v rfl) (ev_acons (ev_bin (ev_v rfl) ev_k rfl) ev_anil)))) rfl
      have hws : Sm win := by
        have := hw.w; have := hw.e; have := hw.s; have := hw.n
        constructor <;> omega
      have hholds : evalE (Q78P scr (k + 2)) (.call "_law_holds" (.acons (.v 1) (.acons (.v 13) .anil)) 0) (spE nb win n found (.val (.str r.1)) (.val (.int r.2.1)) (.val (.int r.2.2)) (.val (encB (toBx n.length r).2)) .no .no) g0 = .ok (.bl (withinB (toBx n.length r).2 win)) g0 :=
        ev_call0 (f := "_law_holds") (ev_acons (ev_v rfl) (ev_acons (ev_v rfl) ev_anil)) rfl (callQ (run_lholds scr k _ _ g0 hws sm hb))
      refine (seq_nx (st_asg hbox rfl)).trans ?_
      refine (seq_nx (st_asg hholds rfl)).trans ?_
      have hit : itemsE (.v 0) (encN nb) = some ((nb.map (·.1)).map .str) := by simp [itemsE, encN, Function.comp]
      refine (seq_nx ((st_for (ev_v (i := 0) rfl) hit).trans (hin _))).trans ?_
      refine (seq_nx st_drop).trans ?_
      show evalC (Q78P scr (k + 2)) _ (spE nb win n found (.val (.str r.1)) (.val (.int r.2.1)) (.val (.int r.2.2)) (.val (encB (toBx n.length r).2)) (.val (.bl (spotOk nb n win (toBx n.length r).2))) .no) g0 = _
      cases hsp : spotOk nb n win (toBx n.length r).2 with
      | false =>
        refine (seq_ifn (ev_v (i := 14) rfl) rfl st_nil).trans ((seq_nx st_drop).trans (st_nil.trans ?_))
        simp [hsp, spE, wipeE]
      | true =>
        refine (seq_ify (ev_v (i := 14) rfl) rfl ((seq_nx (st_app (ev_tup (ev_acons (ev_v rfl) (ev_acons (ev_v rfl) ev_anil)) rfl) rfl (by rw [List.length_map]; omega))).trans st_nil)).trans ((seq_nx st_drop).trans (st_nil.trans ?_))
        have e : ([r].map (toBx n.length)).filter (fun p => spotOk nb n win p.2) = [toBx n.length r] := by
          rw [List.map_cons, List.map_nil, List.filter_cons]
          simp only [hsp, if_true, List.filter_nil]
        rw [e]
        simp only [spE, List.map_append]
        rfl)
  rw [List.length_map, Nat.zero_add, List.take_length, spots_places v.toValid] at hρ
  subst hg
  unfold fd_law_spots c_law_spots
  refine (congrArg fin (seq_nx (st_asg (ev_idx (ev_v (i := 0) rfl) (ev_v (i := 2) rfl) (idx_nb (lk_get hn))) rfl))).trans ?_
  refine (congrArg fin (seq_nx (st_asg (ev_b1 (ev_v (i := 2) rfl) hlenN) rfl))).trans ?_
  subst hks
  refine (congrArg fin (seq_nx (st_asg (d := .lst ((rowsXY (getB nb n) n.length).map encXY)) (ev_lst (ev_acons (ev_tup (ev_acons ev_k (ev_acons (ev_v rfl) (ev_acons (ev_v rfl) ev_anil))) rfl) (ev_acons (ev_tup (ev_acons ev_k (ev_acons (ev_v rfl) (ev_acons (ev_v rfl) ev_anil))) rfl) (ev_acons (ev_tup (ev_acons ev_k (ev_acons (ev_bin (ev_v rfl) (ev_v rfl) rfl) (ev_acons (ev_v rfl) ev_anil))) rfl) (ev_acons (ev_tup (ev_acons ev_k (ev_acons (ev_v rfl) (ev_acons (ev_bin (ev_v rfl) ev_k rfl) ev_anil))) rfl) ev_anil)))) rfl) rfl))).trans ?_
  refine (congrArg fin (seq_nx (st_ownL (ev_lst ev_anil rfl) (show 9 < 17 by decide)))).trans ?_
  refine (congrArg fin (seq_nx ((st_for (ds := (rowsXY (getB nb n) n.length).map encXY) (ev_v (i := 8) rfl) rfl).trans hf))).trans ?_
  rw [hρ, seq_nx st_drop, seq_nx st_frz, seq_rt (st_ret (ev_v rfl))]
  rfl
end MW

end
section
set_option Elab.async false
set_option linter.all false
set_option maxRecDepth 100000
set_option maxHeartbeats 4000000
namespace MW
/-! ### boxes of scales -/
abbrev BM := List (Int × NB)
abbrev WM := List (Int × Bx)
def encBM (bm : BM) : D := encDK D.int encN bm
def encWM (wm : WM) : D := encDK D.int encB wm
def five : List S := [s_a, s_bay, s_elm, s_fort, s_lake]
structure BMok (bm : BM) (wm : WM) : Prop where
  so : (bm.map (·.1)).Pairwise (fun a b => leD (.int a) (.int b) = true)
  nd : (bm.map (·.1)).Nodup
  len : bm.length ≤ 3
  fb : ∀ p ∈ bm, FineB p.2
  wk : ∀ p ∈ bm, ∃ b, lkp wm p.1 = some b ∧ WinOk b
  nms : ∀ p ∈ bm, ∀ n ∈ p.2.map (·.1), n ∈ five
def winOf (wm : WM) (s : Int) : Bx := (lkp wm s).getD ⟨0, 0, 0, 0⟩
theorem BMok.win {bm : BM} {wm : WM} (h : BMok bm wm) {p : Int × NB} (hp : p ∈ bm) : lkp wm p.1 = some (winOf wm p.1) ∧ WinOk (winOf wm p.1) := by
  obtain ⟨b, e, w⟩ := h.wk p hp
  have : winOf wm p.1 = b := by rw [winOf, e]; rfl
  rw [this]; exact ⟨e, w⟩
theorem BMok.lk {bm : BM} {wm : WM} (h : BMok bm wm) {p : Int × NB} (hp : p ∈ bm) : lkp bm p.1 = some p.2 := lkp_nd h.nd hp
theorem BMok.idx {bm : BM} {wm : WM} (h : BMok bm wm) {p : Int × NB} (hp : p ∈ bm) : idxD (encBM bm) (.int p.1) = some (encN p.2) := KeyEnc.int.idx (h.lk hp)
theorem BMok.widx {bm : BM} {wm : WM} (h : BMok bm wm) {p : Int × NB} (hp : p ∈ bm) : idxD (encWM wm) (.int p.1) = some (encB (winOf wm p.1)) := KeyEnc.int.idx (h.win hp).1
theorem lkp_isSome {κ β : Type} [DecidableEq κ] (xs : List (κ × β)) (n : κ) [Decidable (n ∈ xs.map (·.1))] : (lkp xs n).isSome = decide (n ∈ xs.map (·.1)) := by
  by_cases h : n ∈ xs.map (·.1)
  · obtain ⟨b, e⟩ := lkp_some h
    rw [e, decide_eq_true h]; rfl
  · rw [lkp_none h, decide_eq_false h]; rfl
def hasN (n : S) (p : Int × NB) : Bool := (lkp p.2 n).isSome
theorem hasN_iff {n : S} {p : Int × NB} : hasN n p = true ↔ n ∈ p.2.map (·.1) := by
  unfold hasN
  rw [lkp_isSome]
  exact decide_eq_true_iff
theorem inn_nb (n : S) (p : Int × NB) : inO (.str n) (encN p.2) = some (hasN n p) := KeyEnc.str.inn (ev := encB) n p.2
def scOf (bm : BM) (n : S) : BM := bm.filter (hasN n)
theorem sorted_bm {bm : BM} {wm : WM} (h : BMok bm wm) : b1D .sorted (encBM bm) = some (.lst (bm.map fun p => .int p.1)) := by
  obtain ⟨ys, h1, h2, h3⟩ := sort_ints (bm.map (·.1))
  have e : ys = bm.map (·.1) := ints_unique h2 h3 h.so
  rw [e, List.map_map] at h1
  simp only [encBM, encDK, b1D]
  rw [show (bm.map fun p => D.int p.1) = bm.map (D.int ∘ fun x => x.1) from rfl, h1]
  rfl
/-- the scales of a name -/
theorem ev_scales {P : Ctx} {ρ : Env} {g : G} {bm : BM} {wm : WM} (h : BMok bm wm) (n : S) {own : List Nat} (h0 : ρ[0]? = some (.val (encBM bm))) (hw : ∀ s : Int, ∃ ρ1, bindT (.nm 4) (.int s) (wipeE own ρ) = some ρ1 ∧ ρ1[0]? = some (.val (encBM bm)) ∧ ρ1[2]? = some (.val (.str n)) ∧ ρ1[4]? = some (.val (.int s))) :
    evalE P (.lc (.v 4) (.nm 4) (.b1 .sorted (.v 0)) (.cmp .inn (.v 2) (.idx (.v 0) (.v 4))) own) ρ g = .ok (.lst ((scOf bm n).map fun p => .int p.1)) g := by
  refine ev_lcM (enc := fun p : Int × NB => D.int p.1) (xs := bm) (p := hasN n) (f := fun p => D.int p.1) (ev_b1 (ev_v h0) (sorted_bm h)) rfl (by have := h.len; omega) fun p hp => ?_
  obtain ⟨ρ1, h1, h2, h3, h4⟩ := hw p.1
  exact ⟨ρ1, h1, ev_inn (ev_v h3) (ev_idx (ev_v h2) (ev_v h4) (h.idx hp)) (inn_nb n p), fun _ => ev_v h4⟩
noncomputable def plOf (wm : WM) (n : S) (p : Int × NB) : List (S × Bx) := placesL p.2 n (winOf wm p.1)
noncomputable def sideF (bm : BM) (wm : WM) (n sd : S) : Option PRow := if (scOf bm n).all (fun p => (lkp (plOf wm n p) sd).isSome) = true then some (sd, (scOf bm n).map fun p => (p.1, (lkp (plOf wm n p) sd).getD ⟨0, 0, 0, 0⟩)) else none
def sidesL : List S := [s_east, s_north, s_west, s_south]
noncomputable def overL (bm : BM) (wm : WM) (n : S) : List PRow := sidesL.filterMap (sideF bm wm n)
theorem sides_nd : sidesL.Nodup := by decide
theorem labs_sides (nb : NB) (n : S) : (labs nb n).map (·.1) = sidesL := rfl
theorem places_nd (nb : NB) (n : S) (win : Bx) : ((placesL nb n win).map (·.1)).Nodup := by
  have : ((placesL nb n win).map (·.1)).Sublist sidesL := by
    rw [← labs_sides nb n]
    exact List.filter_sublist.map _
  exact sides_nd.sublist this
theorem pairP (r : S × Bx) : pairD (encP r) = some (.str r.1, encB r.2) := rfl
theorem sc_mem {bm : BM} {n : S} {p : Int × NB} (h : p ∈ scOf bm n) : p ∈ bm ∧ n ∈ p.2.map (·.1) := ⟨(List.mem_filter.mp h).1, hasN_iff.mp (List.mem_filter.mp h).2⟩
theorem sc_nd {bm : BM} {wm : WM} (h : BMok bm wm) (n : S) : ((scOf bm n).map (·.1)).Nodup := h.nd.sublist (List.filter_sublist.map _)
noncomputable def encTold (bm : BM) (wm : WM) (n : S) : D := encDK D.int (encDK D.str encB) ((scOf bm n).map fun p => (p.1, plOf wm n p))
theorem told_idx {bm : BM} {wm : WM} (h : BMok bm wm) {n : S} {p : Int × NB} (hp : p ∈ scOf bm n) : idxD (encTold bm wm n) (.int p.1) = some (encDK D.str encB (plOf wm n p)) := by
  refine KeyEnc.int.idx ?_
  exact lkp_nd (xs := (scOf bm n).map fun p => (p.1, plOf wm n p)) (p := (p.1, plOf wm n p)) (by
    rw [List.map_map]; exact sc_nd h n) (List.mem_map.mpr ⟨p, hp, rfl⟩)
theorem sc_len {bm : BM} {wm : WM} (h : BMok bm wm) (n : S) : (scOf bm n).length ≤ 3 := Nat.le_trans (List.length_filter_le _ _) h.len
def poC : C := match c_places_over with
  | .seq _ (.seq _ (.seq _ (.seq (.for_ _ _ b) _))) => b
  | _ => .nil
theorem run_over_places (scr : List Int) (k : Nat) (bm : BM) (wm : WM) (n : S) (g : G) (h : BMok bm wm) :
    run (P78 scr) (k + 3) "places_over" [encBM bm, encWM wm, .str n] g = .ok (.lst ((overL bm wm n).map encR)) g := by
  rw [run_def (by rfl) (fd := fd_places_over) (by rfl) rfl]
  have hsl := sc_len h n
  -- the dicts
  have hd : evalE (Q78P scr (k + 2)) (.dc (.v 4) (.b1 .dict (.call "places_for" (.acons (.v 2) (.acons (.idx (.v 0) (.v 4)) (.acons (.idx (.v 1) (.v 4)) .anil))) 0)) (.nm 4) (.v 3) (.k (.bl true)) [4])
      [.val (encBM bm), .val (encWM wm), .val (.str n), .val (.lst ((scOf bm n).map fun p => .int p.1)), .no, .no, .no, .no] g = .ok (encTold bm wm n) g := by
    have := KeyEnc.int.dc (P := Q78P scr (k + 2)) (ρ := [.val (encBM bm), .val (encWM wm), .val (.str n), .val (.lst ((scOf bm n).map fun p => .int p.1)), .no, .no, .no, .no]) (g := g) (enc := fun p : Int × NB => D.int p.1) (xs := scOf bm n) (fk := fun p => p.1) (fv := fun p => encDK D.str encB (plOf wm n p))
      (key := .v 4) (val := .b1 .dict (.call "places_for" (.acons (.v 2) (.acons (.idx (.v 0) (.v 4)) (.acons (.idx (.v 1) (.v 4)) .anil))) 0)) (tg := .nm 4) (it := .v 3) (test := .k (.bl true)) (own := [4]) (ev_v rfl) rfl (by omega) (sc_nd h n) fun p hp => by
        obtain ⟨hpb, hpn⟩ := sc_mem hp
        have fb := h.fb p hpb
        refine ⟨_, rfl, ev_k, ev_v rfl, ?_⟩
        exact ev_b1 (ev_call0 (f := "places_for") (ev_acons (ev_v rfl) (ev_acons (ev_idx (ev_v rfl) (ev_v rfl) (h.idx hpb)) (ev_acons (ev_idx (ev_v rfl) (ev_v rfl) (h.widx hpb)) ev_anil))) rfl
          (callQ (run_places scr k p.2 n _ g fb.len (by have := (fb.get hpn).2.2; omega) hpn))) (KeyEnc.str.dictL pairP (places_nd _ _ _))
    rw [this]
    simp [encTold, encDK, List.map_map, Function.comp]
  obtain ⟨ρ', g', hf, hρ, hg⟩ := for_inv (t := .nm 7) (body := fun ρ g => evalC (Q78P scr (k + 2)) poC ρ g) (I := fun i ρ g' => ρ = [.val (encBM bm), .val (encWM wm), .val (.str n), .val (.lst ((scOf bm n).map fun p => .int p.1)), .no, .val (encTold bm wm n), .own (.lst (((sidesL.take i).filterMap (sideF bm wm n)).map encR)), .no] ∧ g' = g) (ds := sidesL.map .str) 0
    (ρ := [.val (encBM bm), .val (encWM wm), .val (.str n), .val (.lst ((scOf bm n).map fun p => .int p.1)), .no, .val (encTold bm wm n), .own (.lst []), .no]) (g := g) ⟨rfl, rfl⟩ (fun i d ρ g0 hdd hI => by
      obtain ⟨rfl, rfl⟩ := hI
      rw [Nat.zero_add]
      rw [List.getElem?_map] at hdd
      obtain ⟨sd, hri, rfl⟩ := Option.map_eq_some_iff.mp hdd
      have hil : i < 4 := (List.getElem?_eq_some_iff.mp hri).1
      refine ⟨_, rfl, [.val (encBM bm), .val (encWM wm), .val (.str n), .val (.lst ((scOf bm n).map fun p => .int p.1)), .no, .val (encTold bm wm n), .own (.lst (((sidesL.take (i + 1)).filterMap (sideF bm wm n)).map encR)), .no], g0, .inl ?_, rfl, rfl⟩
      rw [take_succ_at hri, List.filterMap_append]
      have hfl : ((sidesL.take i).filterMap (sideF bm wm n)).length ≤ 4 := by
        refine Nat.le_trans (List.length_filterMap_le _ _) ?_
        rw [List.length_take]; omega
      generalize (sidesL.take i).filterMap (sideF bm wm n) = found at hfl
      have hall := ev_lcM (P := Q78P scr (k + 2)) (enc := fun p : Int × NB => D.int p.1) (xs := scOf bm n) (p := fun _ => true) (f := fun p => D.bl (lkp (plOf wm n p) sd).isSome) (g := g0) (g1 := g0) (x := .lst ((scOf bm n).map fun p => .int p.1)) (it := .v 3)
        (ρ := [.val (encBM bm), .val (encWM wm), .val (.str n), .val (.lst ((scOf bm n).map fun p => .int p.1)), .no, .val (encTold bm wm n), .own (.lst (found.map encR)), .val (.str sd)]) (elt := .cmp .inn (.v 7) (.idx (.v 5) (.v 4))) (tg := .nm 4) (own := [4]) (test := .k (.bl true))
        (ev_v rfl) rfl (by omega) fun p hp => ⟨_, rfl, ev_k, fun _ => ev_inn (ev_v rfl) (ev_idx (ev_v rfl) (ev_v rfl) (told_idx h hp)) (KeyEnc.str.inn sd (plOf wm n p))⟩
      rw [filter_yes, show (scOf bm n).map (fun p => D.bl (lkp (plOf wm n p) sd).isSome) = ((scOf bm n).map fun p => (lkp (plOf wm n p) sd).isSome).map D.bl by rw [List.map_map]; rfl] at hall
      have t := ev_b1 hall (any_bl2 _)
      rw [List.all_map] at t
      have et : (scOf bm n).all (id ∘ fun p => (lkp (plOf wm n p) sd).isSome) = (scOf bm n).all fun p => (lkp (plOf wm n p) sd).isSome := rfl
      rw [et] at t
      cases hA : (scOf bm n).all fun p => (lkp (plOf wm n p) sd).isSome with
      | false =>
        rw [hA] at t
        have e : sideF bm wm n sd = none := by unfold sideF; rw [hA]; rfl
        refine (seq_ifn t rfl st_nil).trans ((seq_nx st_drop).trans (st_nil.trans ?_))
        simp [e, wipeE]
      | true =>
        rw [hA] at t
        have e : sideF bm wm n sd = some (sd, (scOf bm n).map fun p => (p.1, (lkp (plOf wm n p) sd).getD ⟨0, 0, 0, 0⟩)) := by unfold sideF; rw [hA]; rfl
        have hrow := ev_lcM (P := Q78P scr (k + 2)) (enc := fun p : Int × NB => D.int p.1) (xs := scOf bm n) (p := fun _ => true) (f := fun p => encI (p.1, (lkp (plOf wm n p) sd).getD ⟨0, 0, 0, 0⟩)) (g := g0) (g1 := g0) (x := .lst ((scOf bm n).map fun p => .int p.1)) (it := .v 3)
          (ρ := [.val (encBM bm), .val (encWM wm), .val (.str n), .val (.lst ((scOf bm n).map fun p => .int p.1)), .no, .val (encTold bm wm n), .own (.lst (found.map encR)), .val (.str sd)]) (elt := .tup (.acons (.v 4) (.acons (.idx (.idx (.v 5) (.v 4)) (.v 7)) .anil))) (tg := .nm 4) (own := [4]) (test := .k (.bl true))
          (ev_v rfl) rfl (by omega) fun p hp => ⟨_, rfl, ev_k, fun _ => by
            have hs := List.all_eq_true.mp hA p hp
            obtain ⟨b, hb⟩ := Option.isSome_iff_exists.mp hs
            have := ev_tup (P := Q78P scr (k + 2)) (ρ := [.val (encBM bm), .val (encWM wm), .val (.str n), .val (.lst ((scOf bm n).map fun p => .int p.1)), .val (.int p.1), .val (encTold bm wm n), .own (.lst (found.map encR)), .val (.str sd)]) (g := g0) (ev_acons (ev_v (i := 4) rfl) (ev_acons (ev_idx (ev_idx (ev_v (i := 5) rfl) (ev_v (i := 4) rfl) (told_idx h hp)) (ev_v (i := 7) rfl) (KeyEnc.str.idx hb)) ev_anil)) rfl
            rw [hb]
            exact this⟩
        rw [filter_yes] at hrow
        have hpt : b1D .ptuple (.lst ((scOf bm n).map fun p => encI (p.1, (lkp (plOf wm n p) sd).getD ⟨0, 0, 0, 0⟩))) = some (.ctup true ((scOf bm n).map fun p => encI (p.1, (lkp (plOf wm n p) sd).getD ⟨0, 0, 0, 0⟩))) := rfl
        refine (seq_ify t rfl ((seq_nx (st_app (ev_tup (ev_acons (ev_v rfl) (ev_acons (ev_b1 hrow hpt) ev_anil)) rfl) rfl (by rw [List.length_map]; omega))).trans st_nil)).trans ((seq_nx st_drop).trans (st_nil.trans ?_))
        simp [e, wipeE, encR, Function.comp])
  rw [List.length_map, Nat.zero_add, List.take_length] at hρ
  subst hg
  refine (congrArg fin (seq_nx (st_asg (ev_scales h n rfl fun s => ⟨_, rfl, rfl, rfl, rfl⟩) rfl))).trans ?_
  refine (congrArg fin (seq_nx (st_asg hd rfl))).trans ?_
  refine (congrArg fin (seq_nx (st_ownL (ev_lst ev_anil rfl) (show 6 < 8 by decide)))).trans ?_
  refine (congrArg fin (seq_nx ((st_for (ds := sidesL.map .str) (ev_gv rfl) rfl).trans hf))).trans ?_
  rw [hρ, seq_nx st_drop, seq_nx st_frz, seq_rt (st_ret (ev_v rfl))]
  rfl
end MW

end
section
set_option Elab.async false
set_option linter.all false
set_option maxRecDepth 100000
set_option maxHeartbeats 4000000
namespace MW
/-! ### the law's places over scales -/
def encRT (p : PRow) : D := .tup [.str p.1, .tup (p.2.map encI)]
theorem filt_side {sd : S} : ∀ {xs : List (S × Bx)}, (xs.map (·.1)).Nodup → (xs.filter fun q => q.1 == sd).map (·.2) = (lkp xs sd).toList
  | [], _ => rfl
  | x :: xs, nd => by
    simp only [List.map_cons, List.nodup_cons] at nd
    have ih := filt_side (sd := sd) nd.2
    simp only [lkp, List.find?_cons] at ih ⊢
    rw [List.filter_cons]
    by_cases e : x.1 = sd
    · simp only [e, beq_self_eq_true, if_true, decide_true, List.map_cons, Option.map_some, Option.toList_some]
      have : (xs.filter fun q => q.1 == sd) = [] := by
        rw [List.filter_eq_nil_iff]
        intro q hq hc
        exact nd.1 (by rw [e, ← eq_of_beq hc]; exact List.mem_map_of_mem hq)
      rw [this]; rfl
    · have e' : (x.1 == sd) = false := by simpa using e
      simp only [e', Bool.false_eq_true, if_false, e, decide_false]
      exact ih
def rowsF (f : Int × NB → Option Bx) (ps : List (Int × NB)) : List (Int × Bx) := ps.flatMap fun p => (f p).toList.map fun b => (p.1, b)
section
variable {f : Int × NB → Option Bx} {p : Int × NB} {ps : List (Int × NB)} {b : Bx}
theorem rowsF_none (h : f p = none) : rowsF f (p :: ps) = rowsF f ps := by simp [rowsF, h]
theorem rowsF_some (h : f p = some b) : rowsF f (p :: ps) = (p.1, b) :: rowsF f ps := by simp [rowsF, h]
end
theorem rowsF_le (f : Int × NB → Option Bx) : ∀ ps, (rowsF f ps).length ≤ ps.length
  | [] => Nat.le_refl _
  | p :: ps => by
    have := rowsF_le f ps
    cases e : f p with
    | none => rw [rowsF_none e, List.length_cons]; omega
    | some b => rw [rowsF_some e, List.length_cons, List.length_cons]; omega
theorem rowsF_all (f : Int × NB → Option Bx) : ∀ ps, ps.all (fun p => (f p).isSome) = true → rowsF f ps = ps.map fun p => (p.1, (f p).getD ⟨0, 0, 0, 0⟩)
  | [], _ => rfl
  | p :: ps, h => by
    simp only [List.all_cons, Bool.and_eq_true] at h
    have ih := rowsF_all f ps h.2
    obtain ⟨b, hb⟩ := Option.isSome_iff_exists.mp h.1
    rw [rowsF_some hb, ih, List.map_cons, hb]; rfl
theorem rowsF_len (f : Int × NB → Option Bx) : ∀ ps, decide ((((rowsF f ps).length : Nat) : Int) = ((ps.length : Nat) : Int)) = ps.all fun p => (f p).isSome
  | [] => rfl
  | p :: ps => by
    have ih := rowsF_len f ps
    have le := rowsF_le f ps
    rw [Bool.eq_iff_iff, decide_eq_true_eq] at ih ⊢
    rw [List.all_cons, Bool.and_eq_true, ← ih]
    cases e : f p with
    | none =>
      rw [rowsF_none e, List.length_cons]
      simp only [Option.isSome_none, Bool.false_eq_true, false_and, iff_false]
      omega
    | some b =>
      rw [rowsF_some e, List.length_cons, List.length_cons]
      simp only [Option.isSome_some, true_and]
      omega
def loC : C := match c_law_over with
  | .seq _ (.seq _ (.seq (.for_ _ _ b) _)) => b
  | _ => .nil
def loiC : C := match loC with
  | .seq _ (.seq (.for_ _ _ b) _) => b
  | _ => .nil
theorem run_law_over (scr : List Int) (k : Nat) (bm : BM) (wm : WM) (n : S) (g : G) (h : BMok bm wm) :
    run (P78 scr) (k + 4) "_law_over" [encBM bm, encWM wm, .str n] g = .ok (.lst ((overL bm wm n).map encRT)) g := by
  rw [run_def (by rfl) (fd := fd_law_over) (by rfl) rfl]
  have hsl := sc_len h n
  have hin : ∀ (sd : S) (found : List PRow), forL (.nm 4) (fun ρ g => evalC (Q78P scr (k + 3)) loiC ρ g) ((scOf bm n).map fun p => .int p.1) [.val (encBM bm), .val (encWM wm), .val (.str n), .val (.lst ((scOf bm n).map fun p => .int p.1)), .no, .own (.lst (found.map encRT)), .val (.str sd), .val (.lst []), .no, .no] g =
      .ok (.nx [.val (encBM bm), .val (encWM wm), .val (.str n), .val (.lst ((scOf bm n).map fun p => .int p.1)), .no, .own (.lst (found.map encRT)), .val (.str sd), .val (.lst ((rowsF (fun p => lkp (plOf wm n p) sd) (scOf bm n)).map encI)), .no, .no]) g := fun sd found => by
    obtain ⟨ρ', g', hf, hρ, hg⟩ := for_inv (t := .nm 4) (body := fun ρ g => evalC (Q78P scr (k + 3)) loiC ρ g) (I := fun i ρ g' => ρ = [.val (encBM bm), .val (encWM wm), .val (.str n), .val (.lst ((scOf bm n).map fun p => .int p.1)), .no, .own (.lst (found.map encRT)), .val (.str sd), .val (.lst ((rowsF (fun p => lkp (plOf wm n p) sd) ((scOf bm n).take i)).map encI)), .no, .no] ∧ g' = g) (ds := (scOf bm n).map fun p => .int p.1) 0
      (ρ := [.val (encBM bm), .val (encWM wm), .val (.str n), .val (.lst ((scOf bm n).map fun p => .int p.1)), .no, .own (.lst (found.map encRT)), .val (.str sd), .val (.lst []), .no, .no]) (g := g) ⟨rfl, rfl⟩ (fun i d ρ g0 hdd hI => by
        obtain ⟨rfl, rfl⟩ := hI
        rw [Nat.zero_add]
        rw [List.getElem?_map] at hdd
        obtain ⟨p, hpi, rfl⟩ := Option.map_eq_some_iff.mp hdd
        have hp := List.mem_of_getElem? hpi
        obtain ⟨hpb, hpn⟩ := sc_mem hp
        have fb := h.fb p hpb
        refine ⟨_, rfl, [.val (encBM bm), .val (encWM wm), .val (.str n), .val (.lst ((scOf bm n).map fun p => .int p.1)), .no, .own (.lst (found.map encRT)), .val (.str sd), .val (.lst ((rowsF (fun p => lkp (plOf wm n p) sd) ((scOf bm n).take (i + 1))).map encI)), .no, .no], g0, .inl ?_, rfl, rfl⟩
        rw [take_succ_at hpi, show rowsF (fun p => lkp (plOf wm n p) sd) ((scOf bm n).take i ++ [p]) = rowsF (fun p => lkp (plOf wm n p) sd) ((scOf bm n).take i) ++ (lkp (plOf wm n p) sd).toList.map fun b => (p.1, b) by
          simp [rowsF, List.flatMap_append]]
        have hle := rowsF_le (fun p => lkp (plOf wm n p) sd) ((scOf bm n).take i)
        rw [List.length_take] at hle
        generalize rowsF (fun p => lkp (plOf wm n p) sd) ((scOf bm n).take i) = rows at hle
        have hll : (plOf wm n p).length ≤ 4 := List.length_filter_le _ _
        have hl := ev_lcM (P := Q78P scr (k + 3)) (enc := encP) (xs := plOf wm n p) (p := fun q => q.1 == sd) (f := fun q => encI (p.1, q.2)) (g := g0) (g1 := g0) (x := .lst ((plOf wm n p).map encP)) (it := .call "_law_spots" (.acons (.idx (.v 0) (.v 4)) (.acons (.idx (.v 1) (.v 4)) (.acons (.v 2) .anil))) 0)
          (ρ := [.val (encBM bm), .val (encWM wm), .val (.str n), .val (.lst ((scOf bm n).map fun p => .int p.1)), .val (.int p.1), .own (.lst (found.map encRT)), .val (.str sd), .val (.lst (rows.map encI)), .no, .no]) (elt := .tup (.acons (.v 4) (.acons (.v 9) .anil))) (tg := .tup (.tcons (.nm 8) (.tcons (.nm 9) .tnil))) (own := [8, 9]) (test := .cmp .eq (.v 8) (.v 6))
          (ev_call0 (f := "_law_spots") (ev_acons (ev_idx (ev_v rfl) (ev_v rfl) (h.idx hpb)) (ev_acons (ev_idx (ev_v rfl) (ev_v rfl) (h.widx hpb)) (ev_acons (ev_v rfl) ev_anil))) rfl (callQ (run_spots scr k p.2 _ n g0 fb (h.win hpb).2 hpn))) rfl (by omega)
          fun q hq => ⟨_, rfl, ev_cmp (ev_v rfl) (ev_v rfl) (cmp_strs q.1 sd), fun _ => ev_tup (ev_acons (ev_v rfl) (ev_acons (ev_v rfl) ev_anil)) rfl⟩
        have e : ((plOf wm n p).filter fun q => q.1 == sd).map (fun q => encI (p.1, q.2)) = ((lkp (plOf wm n p) sd).toList.map fun b => (p.1, b)).map encI := by
          have hfs := filt_side (sd := sd) (places_nd p.2 n (winOf wm p.1))
          rw [show plOf wm n p = placesL p.2 n (winOf wm p.1) from rfl, ← hfs, List.map_map, List.map_map]
          rfl
        rw [e] at hl
        have hadd : binD .add (.lst (rows.map encI)) (.lst (((lkp (plOf wm n p) sd).toList.map fun b => (p.1, b)).map encI)) = some (.lst ((rows ++ (lkp (plOf wm n p) sd).toList.map fun b => (p.1, b)).map encI)) := by
          simp only [binD]
          rw [if_pos (decide_eq_true (by
            have : (lkp (plOf wm n p) sd).toList.length ≤ 1 := by cases lkp (plOf wm n p) sd <;> simp
            simp only [List.length_map]
            omega)), List.map_append]
        exact (seq_nx (st_asg (ev_bin (ev_v rfl) hl hadd) rfl)).trans ((seq_nx st_drop).trans st_nil))
    rw [List.length_map, Nat.zero_add, List.take_length] at hρ
    subst hg
    rw [hf, hρ]
  obtain ⟨ρ', g', hf, hρ, hg⟩ := for_inv (t := .nm 6) (body := fun ρ g => evalC (Q78P scr (k + 3)) loC ρ g) (I := fun i ρ g' => ρ = [.val (encBM bm), .val (encWM wm), .val (.str n), .val (.lst ((scOf bm n).map fun p => .int p.1)), .no, .own (.lst (((sidesL.take i).filterMap (sideF bm wm n)).map encRT)), .no, .no, .no, .no] ∧ g' = g) (ds := sidesL.map .str) 0
    (ρ := [.val (encBM bm), .val (encWM wm), .val (.str n), .val (.lst ((scOf bm n).map fun p => .int p.1)), .no, .own (.lst []), .no, .no, .no, .no]) (g := g) ⟨rfl, rfl⟩ (fun i d ρ g0 hdd hI => by
      obtain ⟨rfl, rfl⟩ := hI
      rw [Nat.zero_add]
      rw [List.getElem?_map] at hdd
      obtain ⟨sd, hri, rfl⟩ := Option.map_eq_some_iff.mp hdd
      have hil : i < 4 := (List.getElem?_eq_some_iff.mp hri).1
      refine ⟨_, rfl, [.val (encBM bm), .val (encWM wm), .val (.str n), .val (.lst ((scOf bm n).map fun p => .int p.1)), .no, .own (.lst (((sidesL.take (i + 1)).filterMap (sideF bm wm n)).map encRT)), .no, .no, .no, .no], g0, .inl ?_, rfl, rfl⟩
      rw [take_succ_at hri, List.filterMap_append]
      have hfl : ((sidesL.take i).filterMap (sideF bm wm n)).length ≤ 4 := by
        refine Nat.le_trans (List.length_filterMap_le _ _) ?_
        rw [List.length_take]; omega
      generalize (sidesL.take i).filterMap (sideF bm wm n) = found at hfl
      refine (seq_nx (st_asg (ev_lst ev_anil rfl) rfl)).trans ?_
      refine (seq_nx ((st_for (ds := (scOf bm n).map fun p => .int p.1) (ev_v (i := 3) rfl) rfl).trans (hin sd found))).trans ?_
      refine (seq_nx st_drop).trans ?_
      have l1 : b1D .len (.lst ((rowsF (fun p => lkp (plOf wm n p) sd) (scOf bm n)).map encI)) = some (.int (rowsF (fun p => lkp (plOf wm n p) sd) (scOf bm n)).length) := by simp only [b1D, List.length_map]
      have l2 : b1D .len (.lst ((scOf bm n).map fun p => D.int p.1)) = some (.int (scOf bm n).length) := by simp only [b1D, List.length_map]
      have t := ev_eqI (P := Q78P scr (k + 3)) (ρ := [.val (encBM bm), .val (encWM wm), .val (.str n), .val (.lst ((scOf bm n).map fun p => .int p.1)), .no, .own (.lst (found.map encRT)), .val (.str sd), .val (.lst ((rowsF (fun p => lkp (plOf wm n p) sd) (scOf bm n)).map encI)), .no, .no]) (g := g0) (ev_b1 (ev_v (i := 7) rfl) l1) (ev_b1 (ev_v (i := 3) rfl) l2)
      rw [rowsF_len] at t
      cases hA : (scOf bm n).all fun p => (lkp (plOf wm n p) sd).isSome with
      | false =>
        rw [hA] at t
        have e : sideF bm wm n sd = none := by unfold sideF; rw [hA]; rfl
        refine (seq_ifn t rfl st_nil).trans ((seq_nx st_drop).trans (st_nil.trans ?_))
        simp [e, wipeE]
      | true =>
        rw [hA] at t
        have e : sideF bm wm n sd = some (sd, (scOf bm n).map fun p => (p.1, (lkp (plOf wm n p) sd).getD ⟨0, 0, 0, 0⟩)) := by unfold sideF; rw [hA]; rfl
        have hr := rowsF_all _ _ hA
        rw [hr] at t ⊢
        have htp : b1D .tuple (.lst (((scOf bm n).map fun p => (p.1, (lkp (plOf wm n p) sd).getD ⟨0, 0, 0, 0⟩)).map encI)) = some (.tup (((scOf bm n).map fun p => (p.1, (lkp (plOf wm n p) sd).getD ⟨0, 0, 0, 0⟩)).map encI)) := rfl
        refine (seq_ify t rfl ((seq_nx (st_app (ev_tup (ev_acons (ev_v rfl) (ev_acons (ev_b1 (ev_v (i := 7) rfl) htp) ev_anil)) rfl) rfl (by rw [List.length_map]; omega))).trans st_nil)).trans ((seq_nx st_drop).trans (st_nil.trans ?_))
        simp [e, wipeE, encRT, Function.comp])
  rw [List.length_map, Nat.zero_add, List.take_length] at hρ
  subst hg
  refine (congrArg fin (seq_nx (st_asg (ev_scales h n rfl fun s => ⟨_, rfl, rfl, rfl, rfl⟩) rfl))).trans ?_
  refine (congrArg fin (seq_nx (st_ownL (ev_lst ev_anil rfl) (show 5 < 10 by decide)))).trans ?_
  refine (congrArg fin (seq_nx ((st_for (ds := sidesL.map .str) (ev_lst (ev_acons ev_k (ev_acons ev_k (ev_acons ev_k (ev_acons ev_k ev_anil)))) rfl) rfl).trans hf))).trans ?_
  rw [hρ, seq_nx st_drop, seq_nx st_frz, seq_rt (st_ret (ev_v rfl))]
  rfl
end MW

end
section
set_option Elab.async false
set_option linter.all false
set_option maxRecDepth 100000
set_option maxHeartbeats 4000000
namespace MW
/-! ### all names -/
def putS (ks : List S) (r : S) : List S := if r ∈ ks then ks else ks ++ [r]
theorem anyS (r : S) : ∀ ks : List S, (ks.map D.str).any (fun a => sameD a (.str r)) = decide (r ∈ ks)
  | [] => rfl
  | k :: ks => by
    simp only [List.map_cons, List.any_cons, anyS r ks, KeyEnc.str.same]
    rw [Bool.eq_iff_iff]
    simp only [Bool.or_eq_true, decide_eq_true_eq, List.mem_cons]
    exact ⟨fun h => h.imp (fun e => e.symm) id, fun h => h.imp (fun e => e.symm) id⟩
theorem dputS (r : S) (ks : List S) : dput (.str r) (.bl true) (ks.map .str) (List.replicate ks.length (.bl true)) = ((putS ks r).map .str, List.replicate (putS ks r).length (.bl true)) := by
  unfold dput putS
  rw [anyS]
  by_cases h : r ∈ ks
  · have := dsetK (.str r) (ks.map .str)
    rw [List.length_map] at this
    simp [h, this]
  · simp [h, List.replicate_succ']
theorem putS_ok : ∀ (rs ks : List S), ks.Nodup → (rs.foldl putS ks).Nodup ∧ ∀ a, a ∈ rs.foldl putS ks ↔ a ∈ ks ∨ a ∈ rs
  | [], ks, nd => ⟨nd, fun a => by simp⟩
  | r :: rs, ks, nd => by
    have nd' : (putS ks r).Nodup := by
      unfold putS
      by_cases h : r ∈ ks
      · rw [if_pos h]; exact nd
      · rw [if_neg h, List.nodup_append]
        exact ⟨nd, by simp, fun a ha b hb => by simp at hb; subst hb; exact fun e => h (e ▸ ha)⟩
    obtain ⟨h1, h2⟩ := putS_ok rs _ nd'
    refine ⟨h1, fun a => ?_⟩
    rw [List.foldl_cons, h2]
    have : a ∈ putS ks r ↔ a ∈ ks ∨ a = r := by
      unfold putS
      by_cases h : r ∈ ks
      · rw [if_pos h]; exact ⟨.inl, fun e => e.elim id fun e => e ▸ h⟩
      · rw [if_neg h]; simp
    rw [this, List.mem_cons, or_assoc]
theorem dcL_S {ρ : Env} {g : G} {tg : T} {test key val : Env → G → Res D} : ∀ {xs : List S} {ks : List S}, (∀ n ∈ xs, ∃ ρ1, bindT tg (.str n) ρ = some ρ1 ∧ test ρ1 g = .ok (.bl true) g ∧ key ρ1 g = .ok (.str n) g ∧ val ρ1 g = .ok (.bl true) g) →
    dcL tg test key val (xs.map .str) ρ g (ks.map .str, List.replicate ks.length (.bl true)) = .ok ((xs.foldl putS ks).map .str, List.replicate (xs.foldl putS ks).length (.bl true)) g
  | [], ks, _ => by simp [dcL]
  | n :: xs, ks, h => by
    obtain ⟨ρ1, h1, h2, h3, h4⟩ := h n (List.mem_cons_self ..)
    simp only [List.map_cons, dcL, h1, h2, h3, h4, Res.bind, truth, KeyEnc.str.ok, if_true, dputS, List.foldl_cons]
    exact dcL_S fun m hm => h m (List.mem_cons_of_mem _ hm)
def namesAll (bm : BM) : List S := bm.flatMap fun p => p.2.map (·.1)
theorem dcF_S {ρ : Env} {g : G} {tg : T} {inner : Env → G → List D × List D → Res (List D × List D)} : ∀ {ps : BM} {ks : List S}, (∀ p ∈ ps, ∃ ρ1, bindT tg (encN p.2) ρ = some ρ1 ∧ ∀ ks : List S, inner ρ1 g (ks.map .str, List.replicate ks.length (.bl true)) = .ok (((p.2.map (·.1)).foldl putS ks).map .str, List.replicate ((p.2.map (·.1)).foldl putS ks).length (.bl true)) g) →
    dcF tg inner (ps.map fun p => encN p.2) ρ g (ks.map .str, List.replicate ks.length (.bl true)) = .ok (((namesAll ps).foldl putS ks).map .str, List.replicate ((namesAll ps).foldl putS ks).length (.bl true)) g
  | [], ks, _ => by simp [dcF, namesAll]
  | p :: ps, ks, h => by
    obtain ⟨ρ1, h1, h2⟩ := h p (List.mem_cons_self ..)
    simp only [List.map_cons, dcF, h1, h2, Res.bind, namesAll, List.flatMap_cons, List.foldl_append]
    exact dcF_S fun m hm => h m (List.mem_cons_of_mem _ hm)
/-- the names of all scales, sorted -/
structure NsOk (bm : BM) (ns : List S) : Prop where
  so : ns.Pairwise strsLe
  nd : ns.Nodup
  mem : ∀ n, n ∈ ns ↔ n ∈ namesAll bm
theorem NsOk.uniq {bm : BM} {ns ms : List S} (h : NsOk bm ns) (k : NsOk bm ms) : ns = ms :=
  strs_unique ((List.perm_ext_iff_of_nodup h.nd k.nd).mpr fun a => (h.mem a).trans (k.mem a).symm) h.so k.so
theorem NsOk.of_nd {bm : BM} {xs : List S} (nd : xs.Nodup) (mem : ∀ n, n ∈ xs ↔ n ∈ namesAll bm) : ∃ ns, sortO (xs.map .str) = some (ns.map .str) ∧ NsOk bm ns := by
  obtain ⟨ys, h1, h2, h3⟩ := sort_strs xs
  exact ⟨ys, h1, h3, h2.nodup_iff.mpr nd, fun n => h2.mem_iff.trans (mem n)⟩
theorem NsOk.len {bm : BM} {wm : WM} {ns : List S} (h : NsOk bm ns) (b : BMok bm wm) : ns.length ≤ 5 :=
  List.Nodup.length_le_of_subset (l₂ := five) h.nd fun n hn => by
    obtain ⟨p, hp, hn⟩ := List.mem_flatMap.mp ((h.mem n).mp hn)
    exact b.nms p hp n hn
theorem run_names (scr : List Int) (k : Nat) (bm : BM) (wm : WM) (g : G) (h : BMok bm wm) : ∃ ns, NsOk bm ns ∧ run (P78 scr) (k + 1) "names_in" [encBM bm] g = .ok (.lst (ns.map .str)) g := by
  obtain ⟨nd, mem⟩ := putS_ok (namesAll bm) [] List.nodup_nil
  obtain ⟨ns, h1, h2⟩ := NsOk.of_nd (bm := bm) nd fun n => by rw [mem n]; simp
  refine ⟨ns, h2, ?_⟩
  have hl : ((namesAll bm).foldl putS []).length < 16777216 := by
    have := List.Nodup.length_le_of_subset (l₂ := five) nd fun n hn => by
      obtain ⟨p, hp, hn⟩ := List.mem_flatMap.mp (((mem n).mp hn).resolve_left (by simp))
      exact h.nms p hp n hn
    have e : five.length = 5 := rfl
    omega
  rw [run_def (by rfl) (fd := fd_names_in) (by rfl) rfl]
  have hd : evalE (Q78P scr k) (.dcv (.v 2) (.k (.bl true)) 0 1 (.nm 2) [1, 2] [2]) [.val (encBM bm), .no, .no] g = .ok (.dct false (((namesAll bm).foldl putS []).map .str) (List.replicate ((namesAll bm).foldl putS []).length (.bl true))) g := by
    have hf := dcF_S (ρ := wipeE [1, 2] [.val (encBM bm), .no, .no]) (g := g) (tg := .nm 1) (inner := fun (ρ : Env) (g : G) (acc : List D × List D) => match ρ[1]? with
        | some (Slot.val (D.dct false ks1 _)) => dcL (.nm 2) (fun _ g => .ok (.bl true) g) (fun ρ g => evalE (Q78P scr k) (.v 2) ρ g) (fun ρ g => evalE (Q78P scr k) (.k (.bl true)) ρ g) ks1 (wipeE [2] ρ) g acc
        | _ => .bad) (ps := bm) (ks := []) fun p hp => ⟨_, rfl, fun ks => by
          have := dcL_S (ρ := wipeE [2] [.val (encBM bm), .val (encN p.2), .no]) (g := g) (tg := .nm 2) (test := fun _ g => .ok (.bl true) g) (key := fun ρ g => evalE (Q78P scr k) (.v 2) ρ g) (val := fun ρ g => evalE (Q78P scr k) (.k (.bl true)) ρ g) (xs := p.2.map (·.1)) (ks := ks) fun n hn => ⟨_, rfl, rfl, ev_v rfl, ev_k⟩
          rw [List.map_map] at this
          exact this⟩
    simp only [List.map_nil, List.length_nil, List.replicate_zero] at hf
    have e : evalE (Q78P scr k) (.dcv (.v 2) (.k (.bl true)) 0 1 (.nm 2) [1, 2] [2]) [.val (encBM bm), .no, .no] g = ((dcF (.nm 1) (fun (ρ : Env) (g : G) (acc : List D × List D) => match ρ[1]? with
        | some (Slot.val (D.dct false ks1 _)) => dcL (.nm 2) (fun _ g => .ok (.bl true) g) (fun ρ g => evalE (Q78P scr k) (.v 2) ρ g) (fun ρ g => evalE (Q78P scr k) (.k (.bl true)) ρ g) ks1 (wipeE [2] ρ) g acc
        | _ => .bad) (bm.map fun p => encN p.2) (wipeE [1, 2] [.val (encBM bm), .no, .no]) g ([], [])).noexc.bind fun p g2 => if decide (p.1.length < 16777216) then .ok (.dct false p.1 p.2) g2 else .bad) := by
      rw [evalE]
      rfl
    rw [e, hf]
    simp only [Res.noexc, Res.bind]
    rw [if_pos (decide_eq_true (by rw [List.length_map]; exact hl))]
  refine (congrArg fin (seq_rt (st_ret (ev_b1 hd (by simp only [b1D, h1, Option.map]; rfl))))).trans ?_
  rfl
noncomputable def plAll (bm : BM) (wm : WM) (ns : List S) : PL := ns.map fun n => (n, overL bm wm n)
theorem pl_keys (bm : BM) (wm : WM) (ns : List S) : (plAll bm wm ns).map (·.1) = ns := by
  unfold plAll
  rw [List.map_map]
  exact List.map_id _
theorem run_all (scr : List Int) (k : Nat) (bm : BM) (wm : WM) (g : G) (h : BMok bm wm) : ∃ ns, NsOk bm ns ∧ run (P78 scr) (k + 4) "all_over" [encBM bm, encWM wm] g = .ok (encPL (plAll bm wm ns)) g := by
  obtain ⟨ns, h1, h2⟩ := run_names scr (k + 2) bm wm g h
  refine ⟨ns, h1, ?_⟩
  rw [run_def (by rfl) (fd := fd_all_over) (by rfl) rfl]
  have hd := KeyEnc.str.dc (P := Q78P scr (k + 3)) (ρ := [.val (encBM bm), .val (encWM wm), .no]) (g := g) (enc := D.str) (xs := ns) (fk := fun n => n) (fv := fun n => encRows (overL bm wm n)) (key := .v 2) (val := .call "places_over" (.acons (.v 0) (.acons (.v 1) (.acons (.v 2) .anil))) 0) (tg := .nm 2)
    (it := .call "names_in" (.acons (.v 0) .anil) 0) (test := .k (.bl true)) (own := [2]) (ev_call0 (f := "names_in") (ev_acons (ev_v rfl) ev_anil) rfl (callQ h2)) rfl (by have := h1.len h; omega) (by simpa using h1.nd) fun n hn =>
      ⟨_, rfl, ev_k, ev_v rfl, ev_call0 (f := "places_over") (ev_acons (ev_v rfl) (ev_acons (ev_v rfl) (ev_acons (ev_v rfl) ev_anil))) rfl (callQ (run_over_places scr k bm wm n g h))⟩
  refine (congrArg fin (seq_rt (st_ret hd))).trans ?_
  simp only [encPL, encDK, plAll, List.map_map]
  rfl
/-! ### what the places are -/
theorem labs_lb {nb : NB} {n : S} (v : FineB nb) (hn : n ∈ nb.map (·.1)) {q : S × Bx} (h : q ∈ labs nb n) : Lb q.2 := by
  obtain ⟨n1, n2, n3⟩ := v.get hn
  have hnl := List.length_pos_iff.mpr n2
  generalize hks : ((n.length : Nat) : Int) = ks
  have hk1 : 1 ≤ ks ∧ ks ≤ 5 := by omega
  rw [← rows_labs, hks] at h
  obtain ⟨r, hr, rfl⟩ := List.mem_map.mp h
  have sm : Sm (toBx ks r).2 := by
    obtain ⟨w1, w2, e1, e2, s1, s2, q1, q2⟩ := n1
    simp only [rowsXY, List.mem_cons, List.not_mem_nil, or_false] at hr
    rcases hr with rfl | rfl | rfl | rfl <;> constructor <;> simp only [toBx] <;> omega
  exact ⟨sm, by simp only [toBx]; omega, rfl⟩
theorem over_ok {bm : BM} {wm : WM} (h : BMok bm wm) (n : S) : (∀ r ∈ overL bm wm n, PRok r) ∧ (overL bm wm n).length ≤ 4 := by
  refine ⟨fun r hr => ?_, List.length_filterMap_le _ _⟩
  obtain ⟨sd, _, hs⟩ := List.mem_filterMap.mp hr
  unfold sideF at hs
  split at hs
  · rename_i hA
    cases hs
    refine ⟨?_, fun q hq => ?_, ?_⟩
    · rw [List.map_map]
      exact sc_nd h n
    · obtain ⟨p, hp, rfl⟩ := List.mem_map.mp hq
      obtain ⟨hpb, hpn⟩ := sc_mem hp
      obtain ⟨b, hb⟩ := Option.isSome_iff_exists.mp (List.all_eq_true.mp hA p hp)
      simp only [hb, Option.getD_some]
      exact labs_lb (q := (sd, b)) (h.fb p hpb) hpn (List.mem_filter.mp (lkp_mem hb)).1
    · rw [List.length_map]; have := sc_len h n; omega
  · cases hs
theorem VPL.all {bm : BM} {wm : WM} (h : BMok bm wm) {ns : List S} (hn : NsOk bm ns) : VPL (plAll bm wm ns) := by
  refine ⟨by rw [pl_keys]; exact hn.nd, fun q hq r hr => ?_, by unfold plAll; rw [List.length_map]; have := hn.len h; omega, fun q hq => ?_⟩
  · obtain ⟨n, _, rfl⟩ := List.mem_map.mp hq
    exact (over_ok h n).1 r hr
  · obtain ⟨n, _, rfl⟩ := List.mem_map.mp hq
    exact (over_ok h n).2
theorem rows_all (bm : BM) (wm : WM) {ns : List S} {n : S} (hn : n ∈ ns) : rowsOf (plAll bm wm ns) n = overL bm wm n := by
  unfold rowsOf plAll
  induction ns with
  | nil => cases hn
  | cons m ns ih =>
    simp only [List.map_cons, lkp, List.find?_cons] at ih ⊢
    by_cases e : m = n
    · simp [e]
    · have : n ∈ ns := (List.mem_cons.mp hn).resolve_left fun q => e q.symm
      simp only [e, decide_false]
      exact ih this
/-! ### rows as the program and as the law has them -/
theorem EqEnc.encI : EqEnc encI 2 := EqEnc.pair EqEnc.int EqEnc.box
theorem rows_okR (rs : List PRow) : okD (.lst (rs.map encR)) = true := by
  have h1 : plainL (rs.map encR) = true := plainL_map fun r _ => by simp [encR, plainD, plainL, (EqEnc.encI.parts r.2).1]
  have h2 : depL (rs.map encR) ≤ 5 := depL_map fun r _ => by
    have := (EqEnc.encI.parts r.2).2
    simp only [encR, depD, depL]; omega
  simp only [okD, plainD, depD, h1, Bool.true_and, decide_eq_true_eq]
  exact decide_eq_true (by omega : depL (rs.map encR) + 1 ≤ 60)
theorem rows_okT (rs : List PRow) : okD (.lst (rs.map encRT)) = true := by
  have h1 : plainL (rs.map encRT) = true := plainL_map fun r _ => by simp [encRT, plainD, plainL, (EqEnc.encI.parts r.2).1]
  have h2 : depL (rs.map encRT) ≤ 5 := depL_map fun r _ => by
    have := (EqEnc.encI.parts r.2).2
    simp only [encRT, depD, depL]; omega
  simp only [okD, plainD, depD, h1, Bool.true_and, decide_eq_true_eq]
  exact decide_eq_true (by omega : depL (rs.map encRT) + 1 ≤ 60)
theorem rows_eqT : ∀ rs : List PRow, eqL (rs.map encR) (rs.map encRT) = true
  | [] => rfl
  | r :: rs => by
    have := EqEnc.encI.eqs r.2 r.2
    simp only [List.map_cons, eqL, rows_eqT rs, encR, encRT, eqD, this, beq_self_eq_true, decide_true, Bool.and_self]
theorem rows_ne (rs : List PRow) : cmpD .ne (.lst (rs.map encR)) (.lst (rs.map encRT)) = some false := by
  simp only [cmpD, eqO, rows_okR, rows_okT, Bool.and_self, if_true, eqD, rows_eqT, Option.map]
  rfl
end MW

end
section
set_option Elab.async false
set_option linter.all false
set_option maxRecDepth 100000
set_option maxHeartbeats 4000000
namespace MW
/-! ### a turn of the law: the scales -/
def hdC : C → C
  | .seq c _ => c
  | _ => .nil
def tlC : C → C
  | .seq _ r => r
  | _ => .nil
def forB : C → C
  | .for_ _ _ b => b
  | _ => .nil
def turnC : C := forB (hdC c_law)
def scC : C := forB (hdC (tlC (tlC turnC)))
def nmC : C := forB (hdC (tlC (tlC (tlC (tlC (tlC (tlC turnC)))))))
def e78 (x2 x3 x4 x5 x6 x7 x8 x9 x10 x11 x12 x13 x14 x15 : Slot) : Env := [.no, .val .pool, x2, x3, x4, x5, x6, x7, x8, x9, x10, x11, x12, x13, x14, x15]
theorem GB.wk {n m : Nat} {g : G} (h : GB n g) (hm : n ≤ m) : GB m g := ⟨h.a0, by have := h.a1; omega, h.b0, by have := h.b1; omega⟩
theorem BxR.fine {nb : NB} {j : Nat} (h : BxR nb j) (hj : j ≤ 4) (f : Fine nb) : FineB nb ∧ ∀ n ∈ nb.map (·.1), n ∈ five := by
  obtain ⟨nb0, hb, e⟩ := h
  have key : ∀ p ∈ nb, (BxOk p.2 ∧ p.1 ≠ [] ∧ p.1.length ≤ 5) ∧ p.1 ∈ five := by
    have k0 : ∀ p ∈ nb0, (BxOk p.2 ∧ p.1 ≠ [] ∧ p.1.length ≤ 5) ∧ p.1 ∈ five := fun p hp => by
      have hm : p.1 ∈ wordL.take j := by rw [← hb.nm]; exact List.mem_map_of_mem hp
      have w := wordL_ok p.1 (List.mem_of_mem_take hm)
      refine ⟨⟨hb.ok p hp, w.1, w.2.1⟩, ?_⟩
      have h4 : p.1 ∈ wordL.take 4 := by
        rw [List.mem_take_iff_getElem] at hm ⊢
        obtain ⟨i, hi, e⟩ := hm
        exact ⟨i, by omega, e⟩
      have : wordL.take 4 = [s_a, s_bay, s_elm, s_fort] := rfl
      rw [this] at h4
      simp only [five, List.mem_cons, List.not_mem_nil, or_false] at h4 ⊢
      rcases h4 with h | h | h | h <;> simp [h]
    rcases e with rfl | rfl
    · exact k0
    · intro p hp
      rcases List.mem_append.mp hp with hp | hp
      · exact k0 p hp
      · simp at hp
        subst hp
        exact ⟨⟨⟨by decide, by decide, by decide, by decide, by decide, by decide, by decide, by decide⟩, by decide, by decide⟩, by decide⟩
  refine ⟨⟨f, fun p hp => (key p hp).1⟩, fun n hn => ?_⟩
  obtain ⟨p, hp, rfl⟩ := List.mem_map.mp hn
  exact (key p hp).2
structure BMI (bm : BM) (wm : WM) (scs : List Int) : Prop where
  bk : bm.map (·.1) = scs
  wk : wm.map (·.1) = scs
  fb : ∀ p ∈ bm, FineB p.2 ∧ ∀ n ∈ p.2.map (·.1), n ∈ five
  wo : ∀ q ∈ wm, WinOk q.2
def scsL : List Int := [1, 2, 4]
theorem BMI.ok {bm : BM} {wm : WM} {j : Nat} (h : BMI bm wm (scsL.take j)) : BMok bm wm := by
  have hso : scsL.Pairwise (fun a b => leD (.int a) (.int b) = true) := by decide +kernel
  have hnd : scsL.Nodup := by decide
  refine ⟨by rw [h.bk]; exact hso.sublist (List.take_sublist _ _), by rw [h.bk]; exact hnd.sublist (List.take_sublist _ _), ?_, fun p hp => (h.fb p hp).1, fun p hp => ?_, fun p hp => (h.fb p hp).2⟩
  · have := congrArg List.length h.bk
    rw [List.length_map, List.length_take] at this
    have e : scsL.length = 3 := rfl
    omega
  · have : p.1 ∈ wm.map (·.1) := by rw [h.wk, ← h.bk]; exact List.mem_map_of_mem hp
    obtain ⟨b, e⟩ := lkp_some this
    exact ⟨b, e, h.wo _ (lkp_mem e)⟩
theorem put_int {β : Type} {ev : β → D} {xs : List (Int × β)} {s : Int} {b : β} (h : s ∉ xs.map (·.1)) : D.dct false (dput (.int s) (ev b) (xs.map fun p => .int p.1) (xs.map fun p => ev p.2)).1 (dput (.int s) (ev b) (xs.map fun p => .int p.1) (xs.map fun p => ev p.2)).2 = encDK D.int ev (xs ++ [(s, b)]) := by
  have := KeyEnc.int.fresh (n := s) (v := ev b) (ys := xs.map (·.1)) (vs := xs.map fun p => ev p.2) h
  rw [List.map_map] at this
  rw [show (xs.map fun p => D.int p.1) = xs.map (D.int ∘ fun x => x.1) from rfl, this]
  simp [encDK, Function.comp]
theorem scales_loop {scr : List Int} {k c j : Nat} {g : G} (hs : okScr scr = true) (h : GB c g) (hc : c ≤ 30000) (hj : j ≤ 3) (x2 : Slot) :
    ∃ bm wm g', forL (.nm 5) (fun ρ g => evalC (Q78P scr (k + 4)) scC ρ g) ((scsL.take j).map .int) (e78 x2 (.own (encBM [])) (.own (encWM [])) .no .no .no .no .no .no .no .no .no .no .no) g = .ok (.nx (e78 x2 (.own (encBM bm)) (.own (encWM wm)) .no .no .no .no .no .no .no .no .no .no .no)) g' ∧ BMI bm wm (scsL.take j) ∧ GB (c + 102 * j) g' := by
  obtain ⟨ρ', g', hf, bm, wm, rfl, hb, hg⟩ := for_inv (t := .nm 5) (body := fun ρ g => evalC (Q78P scr (k + 4)) scC ρ g) (I := fun i ρ g => ∃ bm wm, ρ = e78 x2 (.own (encBM bm)) (.own (encWM wm)) .no .no .no .no .no .no .no .no .no .no .no ∧ BMI bm wm ((scsL.take j).take i) ∧ GB (c + 102 * i) g) (ds := (scsL.take j).map .int) 0
    (ρ := e78 x2 (.own (encBM [])) (.own (encWM [])) .no .no .no .no .no .no .no .no .no .no .no) (g := g) ⟨[], [], rfl, ⟨rfl, rfl, fun _ h => (by cases h), fun _ h => (by cases h)⟩, h⟩ (fun i d ρ g hd hI => by
      obtain ⟨bm, wm, rfl, hb, hg⟩ := hI
      rw [Nat.zero_add] at hb hg ⊢
      rw [List.getElem?_map] at hd
      obtain ⟨s, hsi, rfl⟩ := Option.map_eq_some_iff.mp hd
      have hil : i < (scsL.take j).length := (List.getElem?_eq_some_iff.mp hsi).1
      have hl3 : (scsL.take j).length ≤ 3 := by rw [List.length_take]; exact Nat.min_le_right _ _
      have hnd : (scsL.take j).Nodup := (show scsL.Nodup by decide).sublist (List.take_sublist _ _)
      have fr : s ∉ (scsL.take j).take i := by
        intro hm
        rw [List.mem_take_iff_getElem] at hm
        obtain ⟨i', hi', e⟩ := hm
        obtain ⟨hlt, e2⟩ := List.getElem?_eq_some_iff.mp hsi
        exact List.pairwise_iff_getElem.mp hnd i' i (by omega) hlt (by omega) (e.trans e2.symm)
      obtain ⟨m, g1, r1, b1, h1⟩ := ev_draw (k := k + 1) (lim := 3) (ρ := e78 x2 (.own (encBM bm)) (.own (encWM wm)) (.val (.int s)) .no .no .no .no .no .no .no .no .no .no) (i := 1) hs hg (by omega) (by decide) (by decide) rfl
      obtain ⟨nb, g2, r2, f2, h2, x2'⟩ := run_boxes (k := k) (many := 2 + m) hs h1 (by omega) (by omega)
      obtain ⟨fb, fn⟩ := x2'.fine (by omega) f2
      have bl : bm.length ≤ 3 := by
        have := congrArg List.length hb.bk
        rw [List.length_map, List.length_take] at this
        omega
      have wl : wm.length ≤ 3 := by
        have := congrArg List.length hb.wk
        rw [List.length_map, List.length_take] at this
        omega
      obtain ⟨u, g3, r3, b3, h3⟩ := ev_draw (k := k + 1) (lim := 5) (ρ := e78 x2 (.own (encBM (bm ++ [(s, nb)]))) (.own (encWM wm)) (.val (.int s)) .no .no .no .no .no .no .no .no .no .no) (i := 1) hs h2 (by omega) (by decide) (by decide) rfl
      refine ⟨_, rfl, e78 x2 (.own (encBM (bm ++ [(s, nb)]))) (.own (encWM (wm ++ [(s, ⟨-1, 7 + u, -1, 6⟩)]))) .no .no .no .no .no .no .no .no .no .no .no, g3, .inl ?_, bm ++ [(s, nb)], wm ++ [(s, ⟨-1, 7 + u, -1, 6⟩)], rfl, ⟨?_, ?_, ?_, ?_⟩, h3.wk (by omega)⟩
      · have hv : evalE (Q78P scr (k + 4)) (.call "_law_boxes" (.acons (.v 1) (.acons (.bin .add (.k (.int 2)) (.call "_law_draw" (.acons (.v 1) (.acons (.k (.int 3)) .anil)) 0)) .anil)) 0) (e78 x2 (.own (encBM bm)) (.own (encWM wm)) (.val (.int s)) .no .no .no .no .no .no .no .no .no .no) g = .ok (encN nb) g2 :=
          ev_call0 (f := "_law_boxes") (ev_acons (ev_v rfl) (ev_acons (ev_bin ev_k r1 rfl) ev_anil)) rfl (callQ r2)
        refine (seq_nx (st_put (k := .v 5) hv (ev_v rfl) rfl rfl (by rw [List.length_map]; omega))).trans ?_
        rw [put_int (ev := encN) (by rw [hb.bk]; exact fr)]
        have hw : evalE (Q78P scr (k + 4)) (.tup (.acons (.neg (.k (.int 1))) (.acons (.bin .add (.k (.int 7)) (.call "_law_draw" (.acons (.v 1) (.acons (.k (.int 5)) .anil)) 0)) (.acons (.neg (.k (.int 1))) (.acons (.k (.int 6)) .anil))))) (e78 x2 (.own (encBM (bm ++ [(s, nb)]))) (.own (encWM wm)) (.val (.int s)) .no .no .no .no .no .no .no .no .no .no) g2 = .ok (encB ⟨-1, 7 + u, -1, 6⟩) g3 :=
          ev_tup (ev_acons (ev_neg ev_k) (ev_acons (ev_bin ev_k r3 rfl) (ev_acons (ev_neg ev_k) (ev_acons ev_k ev_anil)))) rfl
        refine (seq_nx (st_put (k := .v 5) hw (ev_v rfl) rfl rfl (by rw [List.length_map]; omega))).trans ?_
        rw [put_int (ev := encB) (by rw [hb.wk]; exact fr)]
        exact (seq_nx st_drop).trans st_nil
      · rw [take_succ_at hsi, List.map_append, hb.bk]; rfl
      · rw [take_succ_at hsi, List.map_append, hb.wk]; rfl
      · intro p hp
        rcases List.mem_append.mp hp with hp | hp
        · exact hb.fb p hp
        · simp at hp; subst hp; exact ⟨fb, fn⟩
      · intro p hp
        rcases List.mem_append.mp hp with hp | hp
        · exact hb.wo p hp
        · simp at hp; subst hp; exact ⟨rfl, by show 7 ≤ 7 + u ∧ 7 + u ≤ 11; omega, rfl, rfl⟩)
  rw [List.length_map, Nat.zero_add] at hb hg
  rw [List.take_length] at hb
  refine ⟨bm, wm, g', hf, hb, hg.wk ?_⟩
  have : (scsL.take j).length ≤ j := by rw [List.length_take]; exact Nat.min_le_left _ _
  omega
/-- the names, scale by scale -/
theorem names_loop {scr : List Int} {k : Nat} {g : G} {bm : BM} {wm : WM} (h : BMok bm wm) (x2 x4 : Slot) :
    ∃ L : List S, forL (.nm 5) (fun ρ g => evalC (Q78P scr k) nmC ρ g) (bm.map fun p => .int p.1) (e78 x2 (.val (encBM bm)) x4 .no (.val (.lst [])) .no .no .no .no .no .no .no .no .no) g = .ok (.nx (e78 x2 (.val (encBM bm)) x4 .no (.val (.lst (L.map .str))) .no .no .no .no .no .no .no .no .no)) g ∧ L.Nodup ∧ ∀ n, n ∈ L ↔ n ∈ namesAll bm := by
  obtain ⟨ρ', g', hf, ⟨L, rfl, nd, mem⟩, hg⟩ := for_inv (t := .nm 5) (body := fun ρ g => evalC (Q78P scr k) nmC ρ g) (I := fun i ρ g' => (∃ L : List S, ρ = e78 x2 (.val (encBM bm)) x4 .no (.val (.lst (L.map .str))) .no .no .no .no .no .no .no .no .no ∧ L.Nodup ∧ ∀ n, n ∈ L ↔ n ∈ namesAll (bm.take i)) ∧ g' = g) (ds := bm.map fun p => .int p.1) 0
    (ρ := e78 x2 (.val (encBM bm)) x4 .no (.val (.lst [])) .no .no .no .no .no .no .no .no .no) (g := g) ⟨⟨[], rfl, List.nodup_nil, fun n => by simp [namesAll]⟩, rfl⟩ (fun i d ρ g0 hd hI => by
      obtain ⟨⟨L, rfl, nd, mem⟩, rfl⟩ := hI
      rw [Nat.zero_add] at mem ⊢
      rw [List.getElem?_map] at hd
      obtain ⟨p, hpi, rfl⟩ := Option.map_eq_some_iff.mp hd
      have hp := List.mem_of_getElem? hpi
      have fb := h.fb p hp
      have hL5 : L.length ≤ 5 := List.Nodup.length_le_of_subset (l₂ := five) nd fun n hn => by
        obtain ⟨q, hq, hn⟩ := List.mem_flatMap.mp ((mem n).mp hn)
        exact h.nms q (List.mem_of_mem_take hq) n hn
      have hsl : (sn p.2).length ≤ 1000 := by rw [sn_len]; exact fb.len
      have hl := ev_lcM (P := Q78P scr k) (enc := D.str) (xs := sn p.2) (p := fun n => !decide (n ∈ L)) (f := D.str) (g := g0) (g1 := g0) (x := .lst ((sn p.2).map .str)) (it := .b1 .sorted (.idx (.v 3) (.v 5)))
        (ρ := e78 x2 (.val (encBM bm)) x4 (.val (.int p.1)) (.val (.lst (L.map .str))) .no .no .no .no .no .no .no .no .no) (elt := .v 7) (tg := .nm 7) (own := [7]) (test := .cmp .nin (.v 7) (.v 6))
        (ev_b1 (ev_idx (ev_v rfl) (ev_v rfl) (h.idx hp)) (b1_sorted p.2)) rfl (by omega) fun n hn => ⟨_, rfl, by
          have := ev_nin (P := Q78P scr k) (ρ := e78 x2 (.val (encBM bm)) x4 (.val (.int p.1)) (.val (.lst (L.map .str))) (.val (.str n)) .no .no .no .no .no .no .no .no) (g := g0) (ev_v (i := 7) rfl) (ev_v (i := 6) rfl) (EqEnc.str.inn (by decide) n L)
          exact this.trans (by by_cases hh : n ∈ L <;> simp [hh]), fun _ => ev_v rfl⟩
      have hadd : binD .add (.lst (L.map .str)) (.lst (((sn p.2).filter fun n => !decide (n ∈ L)).map .str)) = some (.lst ((L ++ (sn p.2).filter fun n => !decide (n ∈ L)).map .str)) := by
        simp only [binD]
        have := List.length_filter_le (fun n => !decide (n ∈ L)) (sn p.2)
        rw [if_pos (decide_eq_true (by simp only [List.length_map]; omega)), List.map_append]
      refine ⟨_, rfl, _, g0, .inl ((seq_nx (st_asg (ev_bin (ev_v rfl) hl hadd) rfl)).trans ((seq_nx st_drop).trans st_nil)), ⟨L ++ (sn p.2).filter fun n => !decide (n ∈ L), rfl, ?_, fun n => ?_⟩, rfl⟩
      · rw [List.nodup_append]
        refine ⟨nd, ((sn_perm p.2).nodup_iff.mpr fb.nd).sublist List.filter_sublist, fun a ha b hb e => ?_⟩
        subst e
        have := (List.mem_filter.mp hb).2
        simp [ha] at this
      · rw [take_succ_at hpi]
        simp only [namesAll, List.flatMap_append, List.flatMap_cons, List.flatMap_nil, List.append_nil, List.mem_append, List.mem_filter, sn_mem] at mem ⊢
        rw [← mem n]
        by_cases hh : n ∈ L <;> simp [hh])
  rw [List.length_map, Nat.zero_add, List.take_length] at mem
  subst hg
  exact ⟨L, hf, nd, mem⟩
end MW

end
section
set_option Elab.async false
set_option linter.all false
set_option maxRecDepth 100000
set_option maxHeartbeats 4000000
namespace MW
/-! ### a turn of the law: ranks, and rows that clash -/
def rkC : C := forB (hdC (tlC (tlC (tlC (tlC (tlC (tlC (tlC (tlC (tlC (tlC (tlC (tlC (tlC turnC))))))))))))))
def clC : C := forB (hdC (tlC (tlC (tlC rkC))))
theorem for_same {t : T} {body : Env → G → Res Out} {ρ : Env} {g : G} : ∀ {ds : List D}, (∀ d ∈ ds, ∃ ρ1, bindT t d ρ = some ρ1 ∧ body ρ1 g = .ok (.nx ρ) g) → forL t body ds ρ g = .ok (.nx ρ) g
  | [], _ => rfl
  | d :: ds, h => by
    obtain ⟨ρ1, h1, h2⟩ := h d (List.mem_cons_self ..)
    rw [forL_cons h1 h2]
    exact for_same fun d hd => h d (List.mem_cons_of_mem _ hd)
theorem rows_nil (rs : List PRow) : cmpD .ne (.lst (rs.map encR)) (.lst []) = some (!decide (rs = [])) := by
  have : okD (.lst []) = true := rfl
  simp only [cmpD, eqO, rows_okR, this, Bool.and_self, if_true, Option.map]
  cases rs with
  | nil => rfl
  | cons r rs => rfl
theorem idx_last {rs : List PRow} (h : rs ≠ []) : ∃ r ∈ rs, idxD (.lst (rs.map encR)) (.int (-1)) = some (encR r) := by
  have hl := List.length_pos_iff.mpr h
  have e : rs[rs.length - 1]? = some (rs[rs.length - 1]'(by omega)) := List.getElem?_eq_getElem _
  refine ⟨_, List.mem_of_getElem? e, ?_⟩
  simp only [idxD, seqIx, List.length_map]
  rw [if_neg (by decide), if_pos (by omega)]
  show (rs.map encR)[((-1 : Int) + (rs.length : Int)).toNat]? = _
  rw [show ((-1 : Int) + (rs.length : Int)).toNat = rs.length - 1 by omega, List.getElem?_map, e]
  rfl
theorem idx_first {rs : List PRow} (h : rs ≠ []) : ∃ r ∈ rs, idxD (.lst (rs.map encR)) (.int 0) = some (encR r) := by
  cases rs with
  | nil => exact absurd rfl h
  | cons r rs => exact ⟨r, List.mem_cons_self .., idx_headL _ _⟩
def encOIe (o : Option Int) : okD (encOI o) = true := by cases o <;> rfl
theorem oi_ne (o : Option Int) : cmpD .ne (encOI o) (encOI o) = some false := by
  cases o with
  | none => rfl
  | some i => exact (EqEnc.int.cmpN (by decide) i i).trans (by simp)
theorem clash_turn {scr : List Int} {k : Nat} {g : G} {bm : BM} {wm : WM} {ns : List S} (h : BMok bm wm) (hn : NsOk bm ns) {n m : S} (h1 : n ∈ ns) (h2 : m ∈ ns) (x2 x3 x4 x9 : Slot) :
    evalC (Q78P scr (k + 4)) clC (e78 x2 x3 x4 .no (.val (.lst (ns.map .str))) (.val (.str n)) (.val (encPL (plAll bm wm ns))) x9 (.val (.str m)) .no .no .no .no .no) g = .ok (.nx (e78 x2 x3 x4 .no (.val (.lst (ns.map .str))) (.val (.str n)) (.val (encPL (plAll bm wm ns))) x9 .no .no .no .no .no .no)) g := by
  have v := VPL.all h hn
  have i1 : idxD (encPL (plAll bm wm ns)) (.str n) = some (encRows (rowsOf (plAll bm wm ns) n)) := idx_rows (by rw [pl_keys]; exact h1)
  have i2 : idxD (encPL (plAll bm wm ns)) (.str m) = some (encRows (rowsOf (plAll bm wm ns) m)) := idx_rows (by rw [pl_keys]; exact h2)
  have m1 := VPL.mem (pl := plAll bm wm ns) (n := n) (by rw [pl_keys]; exact h1)
  have m2 := VPL.mem (pl := plAll bm wm ns) (n := m) (by rw [pl_keys]; exact h2)
  generalize rowsOf (plAll bm wm ns) n = rn at i1 m1
  generalize rowsOf (plAll bm wm ns) m = rm at i2 m2
  have t := ev_and (P := Q78P scr (k + 4)) (ρ := e78 x2 x3 x4 .no (.val (.lst (ns.map .str))) (.val (.str n)) (.val (encPL (plAll bm wm ns))) x9 (.val (.str m)) .no .no .no .no .no) (g := g) (ev_cmp (ev_v (i := 10) rfl) (ev_v (i := 7) rfl) (cmp_strn m n))
    (ev_and (ev_cmp (ev_idx (ev_v (i := 8) rfl) (ev_v (i := 7) rfl) i1) (ev_lst ev_anil rfl) (rows_nil rn)) (ev_cmp (ev_idx (ev_v (i := 8) rfl) (ev_v (i := 10) rfl) i2) (ev_lst ev_anil rfl) (rows_nil rm)))
  cases hc : (!(m == n) && (!decide (rn = []) && !decide (rm = []))) with
  | false =>
    rw [hc] at t
    exact (seq_ifn t rfl st_nil).trans ((seq_nx st_drop).trans st_nil)
  | true =>
    rw [hc] at t
    simp only [Bool.and_eq_true, Bool.not_eq_true', decide_eq_false_iff_not] at hc
    obtain ⟨r1, q1, e1⟩ := idx_first hc.2.1
    obtain ⟨r2, q2, e2⟩ := idx_last hc.2.2
    have p1 := v.ok _ m1 _ q1
    have p2 := v.ok _ m2 _ q2
    have ea := ev_idx (P := Q78P scr (k + 4)) (ρ := e78 x2 x3 x4 .no (.val (.lst (ns.map .str))) (.val (.str n)) (.val (encPL (plAll bm wm ns))) x9 (.val (.str m)) .no .no .no .no .no) (g := g) (ev_idx (ev_v (i := 8) rfl) (ev_v (i := 7) rfl) i1) (ev_k (d := .int 0)) e1
    have eb := ev_idx (P := Q78P scr (k + 4)) (ρ := e78 x2 x3 x4 .no (.val (.lst (ns.map .str))) (.val (.str n)) (.val (encPL (plAll bm wm ns))) x9 (.val (.str m)) .no .no .no .no .no) (g := g) (ev_idx (ev_v (i := 8) rfl) (ev_v (i := 10) rfl) i2) (ev_neg (n := 1) ev_k) e2
    have t2 := ev_cmp (ev_call0 (f := "clash_at") (ev_acons ea (ev_acons eb ev_anil)) rfl (callQ (run_clash scr (k + 1) r1 r2 g p2))) (ev_call0 (f := "_law_clash") (ev_acons ea (ev_acons eb ev_anil)) rfl (callQ (run_lclash scr (k + 1) r1 r2 g p1 p2))) (oi_ne _)
    exact (seq_ify t rfl ((seq_ifn t2 rfl st_nil).trans st_nil)).trans ((seq_nx st_drop).trans st_nil)
structure RKI (rk : List (S × Int)) (ns : List S) : Prop where
  ks : rk.map (·.1) = ns
  two : ∀ p ∈ rk, p.2 = 1 ∨ p.2 = 2
theorem put_str {xs : List (S × Int)} {s : S} {b : Int} (h : s ∉ xs.map (·.1)) : D.dct false (dput (.str s) (.int b) (xs.map fun p => .str p.1) (xs.map fun p => .int p.2)).1 (dput (.str s) (.int b) (xs.map fun p => .str p.1) (xs.map fun p => .int p.2)).2 = encDK D.str D.int (xs ++ [(s, b)]) := by
  have := KeyEnc.str.fresh (n := s) (v := .int b) (ys := xs.map (·.1)) (vs := xs.map fun p => .int p.2) h
  rw [List.map_map] at this
  rw [show (xs.map fun p => D.str p.1) = xs.map (D.str ∘ fun x => x.1) from rfl, this]
  simp [encDK, Function.comp]
theorem ranks_loop {scr : List Int} {k c : Nat} {g : G} {bm : BM} {wm : WM} {ns : List S} (hs : okScr scr = true) (hg : GB c g) (hc : c ≤ 50000) (h : BMok bm wm) (hn : NsOk bm ns) (x2 : Slot) :
    ∃ rk g', forL (.nm 7) (fun ρ g => evalC (Q78P scr (k + 4)) rkC ρ g) (ns.map .str) (e78 x2 (.val (encBM bm)) (.val (encWM wm)) .no (.val (.lst (ns.map .str))) .no (.val (encPL (plAll bm wm ns))) (.own (encDK D.str D.int [])) .no .no .no .no .no .no) g =
      .ok (.nx (e78 x2 (.val (encBM bm)) (.val (encWM wm)) .no (.val (.lst (ns.map .str))) .no (.val (encPL (plAll bm wm ns))) (.own (encDK D.str D.int rk)) .no .no .no .no .no .no)) g' ∧ RKI rk ns ∧ GB (c + ns.length) g' := by
  obtain ⟨ρ', g', hf, rk, rfl, hb, hg'⟩ := for_inv (t := .nm 7) (body := fun ρ g => evalC (Q78P scr (k + 4)) rkC ρ g) (I := fun i ρ g => ∃ rk, ρ = e78 x2 (.val (encBM bm)) (.val (encWM wm)) .no (.val (.lst (ns.map .str))) .no (.val (encPL (plAll bm wm ns))) (.own (encDK D.str D.int rk)) .no .no .no .no .no .no ∧ RKI rk (ns.take i) ∧ GB (c + i) g) (ds := ns.map .str) 0
    (ρ := e78 x2 (.val (encBM bm)) (.val (encWM wm)) .no (.val (.lst (ns.map .str))) .no (.val (encPL (plAll bm wm ns))) (.own (encDK D.str D.int [])) .no .no .no .no .no .no) (g := g) ⟨[], rfl, ⟨rfl, fun _ h => (by cases h)⟩, hg⟩ (fun i d ρ g hd hI => by
      obtain ⟨rk, rfl, hb, hg⟩ := hI
      rw [Nat.zero_add] at hb hg ⊢
      rw [List.getElem?_map] at hd
      obtain ⟨n, hni, rfl⟩ := Option.map_eq_some_iff.mp hd
      have hnm := List.mem_of_getElem? hni
      have hl5 := hn.len h
      have hil : i < ns.length := (List.getElem?_eq_some_iff.mp hni).1
      have fr : n ∉ ns.take i := by
        intro hm
        rw [List.mem_take_iff_getElem] at hm
        obtain ⟨i', hi', e⟩ := hm
        obtain ⟨hlt, e2⟩ := List.getElem?_eq_some_iff.mp hni
        exact List.pairwise_iff_getElem.mp hn.nd i' i (by omega) hlt (by omega) (e.trans e2.symm)
      have rl : rk.length ≤ 5 := by
        have := congrArg List.length hb.ks
        rw [List.length_map, List.length_take] at this
        omega
      obtain ⟨u, g1, r1, b1, h1⟩ := ev_draw (k := k + 1) (lim := 2) (ρ := e78 x2 (.val (encBM bm)) (.val (encWM wm)) .no (.val (.lst (ns.map .str))) (.val (.str n)) (.val (encPL (plAll bm wm ns))) (.own (encDK D.str D.int rk)) .no .no .no .no .no .no) (i := 1) hs hg (by omega) (by decide) (by decide) rfl
      refine ⟨_, rfl, e78 x2 (.val (encBM bm)) (.val (encWM wm)) .no (.val (.lst (ns.map .str))) .no (.val (encPL (plAll bm wm ns))) (.own (encDK D.str D.int (rk ++ [(n, 1 + u)]))) .no .no .no .no .no .no, g1, .inl ?_, rk ++ [(n, 1 + u)], rfl, ⟨?_, ?_⟩, h1⟩
      · refine (seq_nx (st_put (k := .v 7) (ev_bin (z := .int (1 + u)) (ev_k (d := .int 1)) r1 rfl) (ev_v rfl) rfl rfl (by rw [List.length_map]; omega))).trans ?_
        rw [put_str (by rw [hb.ks]; exact fr)]
        refine (seq_nx st_frz).trans ?_
        have i1 : idxD (encPL (plAll bm wm ns)) (.str n) = some (encRows (rowsOf (plAll bm wm ns) n)) := idx_rows (by rw [pl_keys]; exact hnm)
        rw [rows_all bm wm hnm] at i1
        have t := ev_or (P := Q78P scr (k + 4)) (ρ := e78 x2 (.val (encBM bm)) (.val (encWM wm)) .no (.val (.lst (ns.map .str))) (.val (.str n)) (.val (encPL (plAll bm wm ns))) (.own (encDK D.str D.int (rk ++ [(n, 1 + u)]))) .no .no .no .no .no .no) (g := g1)
          (ev_cmp (ev_idx (ev_v (i := 8) rfl) (ev_v (i := 7) rfl) i1) (ev_call0 (f := "_law_over") (ev_acons (ev_v (i := 3) rfl) (ev_acons (ev_v (i := 4) rfl) (ev_acons (ev_v (i := 7) rfl) ev_anil))) rfl (callQ (run_law_over scr k bm wm n g1 h))) (rows_ne _))
          (ev_not (ev_isi (t := .list) (v := true) (ev_idx (ev_v (i := 8) rfl) (ev_v (i := 7) rfl) i1) rfl) rfl)
        refine (seq_ifn t rfl st_nil).trans ?_
        have hf := for_same (t := .nm 10) (g := g1) (ds := ns.map .str) (ρ := e78 x2 (.val (encBM bm)) (.val (encWM wm)) .no (.val (.lst (ns.map .str))) (.val (.str n)) (.val (encPL (plAll bm wm ns))) (.own (encDK D.str D.int (rk ++ [(n, 1 + u)]))) .no .no .no .no .no .no) (body := fun ρ g => evalC (Q78P scr (k + 4)) clC ρ g) fun d hd => by
            obtain ⟨m, hm, rfl⟩ := List.mem_map.mp hd
            exact ⟨_, rfl, clash_turn h hn hnm hm _ _ _ _⟩
        refine (seq_nx ((st_for (ds := ns.map .str) (ev_v (i := 6) rfl) rfl).trans hf)).trans ?_
        exact (seq_nx st_drop).trans ((seq_nx st_drop).trans st_nil)
      · rw [take_succ_at hni, List.map_append, hb.ks]; rfl
      · intro p hp
        rcases List.mem_append.mp hp with hp | hp
        · exact hb.two p hp
        · simp at hp; subst hp; show 1 + u = 1 ∨ 1 + u = 2; omega)
  rw [List.length_map, Nat.zero_add] at hb hg'
  rw [List.take_length] at hb
  exact ⟨rk, g', hf, hb, hg'⟩
end MW

end
section
set_option Elab.async false
set_option linter.all false
set_option maxRecDepth 100000
set_option maxHeartbeats 4000000
namespace MW
/-! ### a turn of the law: ways or a tree -/
def t17 : C := tlC (tlC (tlC (tlC (tlC (tlC (tlC (tlC (tlC (tlC (tlC (tlC (tlC (tlC (tlC (tlC (tlC turnC))))))))))))))))
def wayIf : C := hdC t17
def elsB : C → C
  | .if_ _ _ c => c
  | _ => .nil
def elC : C := elsB wayIf
def btC : C := forB (hdC (tlC (tlC (tlC (tlC (tlC elC))))))
theorem dfl1 : dfl_k78 "fault_of_over" 1 = [.tup []] := by simp [dfl_k78]
theorem os_ne (o : Option S) : cmpD .ne (encOS o) (encOS o) = some false := by
  cases o with
  | none => rfl
  | some i => exact (EqEnc.str.cmpN (by decide) i i).trans (by simp)
section
variable {scr : List Int} {g : G} {pl : PL} {ns : List S}
theorem bent_turn (v : VPL pl) (hk : pl.map (·.1) = ns) (hl : ns.length ≤ 5) (t : Tr) (x2 x3 x4 x9 x11 x12 x13 x14 : Slot) :
    evalC (Q78P scr 29) btC (e78 x2 x3 x4 .no (.val (.lst (ns.map .str))) .no (.val (encPL pl)) x9 .no x11 x12 x13 x14 (.val (encTr t))) g = .ok (.nx (e78 x2 x3 x4 .no (.val (.lst (ns.map .str))) .no (.val (encPL pl)) x9 .no x11 x12 x13 x14 .no)) g := by
  have f1 := run_fault scr (24 - ns.length) pl g v ns.length ns [] t (Nat.le_refl _) (fun n hn => by rw [hk]; exact hn) (fun _ h => by cases h) (by simp; omega)
  have f2 := run_lfault scr (24 - ns.length) pl g v ns.length ns [] t (Nat.le_refl _) (fun n hn => by rw [hk]; exact hn) (fun _ h => by cases h) (by simp; omega)
  rw [show 24 - ns.length + 5 + ns.length = 29 by omega] at f1 f2
  have c1 : evalE (Q78P scr 29) (.call "fault_of_over" (.acons (.v 8) (.acons (.b1 .tuple (.v 6)) (.acons (.v 15) .anil))) 1) (e78 x2 x3 x4 .no (.val (.lst (ns.map .str))) .no (.val (encPL pl)) x9 .no x11 x12 x13 x14 (.val (encTr t))) g = .ok (encOS (faultT pl ns.length ns [] t)) g := by
    refine ev_call (ev_acons (ev_v (i := 8) rfl) (ev_acons (ev_b1 (ev_v (i := 6) rfl) (show b1D .tuple (.lst (ns.map .str)) = some (.tup (ns.map .str)) from rfl)) (ev_acons (ev_v (i := 15) rfl) ev_anil))) ?_
    show run (P78 scr) 29 "fault_of_over" ([encPL pl, .tup (ns.map .str), encTr t] ++ dfl_k78 "fault_of_over" 1) g = _
    rw [dfl1]
    exact f1
  have c2 : evalE (Q78P scr 29) (.call "_law_fault" (.acons (.v 8) (.acons (.v 6) (.acons (.v 15) (.acons (.lst .anil) .anil)))) 0) (e78 x2 x3 x4 .no (.val (.lst (ns.map .str))) .no (.val (encPL pl)) x9 .no x11 x12 x13 x14 (.val (encTr t))) g = .ok (encOS (faultT pl ns.length ns [] t)) g :=
    ev_call0 (f := "_law_fault") (ev_acons (ev_v rfl) (ev_acons (ev_v rfl) (ev_acons (ev_v rfl) (ev_acons (ev_lst ev_anil rfl) ev_anil)))) rfl (callQ f2)
  exact (seq_ifn (ev_cmp c1 c2 (os_ne _)) rfl st_nil).trans ((seq_nx st_drop).trans st_nil)
theorem strs_ne1 {a b : S} (h : a = b) : cmpD .ne (.str a) (.str b) = some false := by
  rw [h]; exact (EqEnc.str.cmpN (by decide) b b).trans (by simp)
theorem tup_ne0 {xs : List D} (h : okD (.tup xs) = true) : cmpD .ne (.tup xs) (.tup []) = some (!xs.isEmpty) := by
  have : okD (.tup []) = true := rfl
  simp only [cmpD, eqO, h, this, Bool.and_self, if_true, Option.map]
  cases xs <;> rfl
/-- the trees that the law tries -/
theorem els_part (v : VPL pl) (hk : pl.map (·.1) = ns) (nd : ns.Nodup) (hl : ns.length ≤ 5) (h0 : firstO pl ns [] = none) (x2 x3 x4 x9 x11 : Slot) :
    ∃ x13 x14, evalC (Q78P scr 29) elC (e78 x2 x3 x4 .no (.val (.lst (ns.map .str))) .no (.val (encPL pl)) x9 .no x11 (.val (.tup [.str s_none, encTr (treeO pl ns [])])) .no .no .no) g =
      .ok (.nx (e78 x2 x3 x4 .no (.val (.lst (ns.map .str))) .no (.val (encPL pl)) x9 .no x11 (.val (.tup [.str s_none, encTr (treeO pl ns [])])) x13 x14 .no)) g := by
  have hok := tree_ok pl v ns [] ns.length (Nat.le_refl _) nd h0 (fun n hn => by rw [hk]; exact hn) (fun _ h => by cases h)
  have hdat := fun n bs => tree_okD pl ns [] (n := n) (bs := bs) (by omega)
  have hname : ∃ n bs, treeO pl ns [] = .name n bs ∧ bs.length ≤ 4 := by
    cases ns with
    | nil => rw [firstO] at h0; cases h0
    | cons n ns => exact ⟨_, _, by rw [treeO], by
        rw [List.length_map, List.length_range]
        exact v.rowlen (by rw [hk]; exact List.mem_cons_self ..)⟩
  obtain ⟨n0, bs, ht, hz4⟩ := hname
  have hdat := hdat n0 bs ht
  rw [ht] at hok ⊢
  have f2 := run_lfault scr (24 - ns.length) pl g v ns.length ns [] (.name n0 bs) (Nat.le_refl _) (fun n hn => by rw [hk]; exact hn) (fun _ h => by cases h) (by simp; omega)
  rw [show 24 - ns.length + 5 + ns.length = 29 by omega, hok] at f2
  have t1 := ev_or (P := Q78P scr 29) (ρ := e78 x2 x3 x4 .no (.val (.lst (ns.map .str))) .no (.val (encPL pl)) x9 .no x11 (.val (.tup [.str s_none, encTr (.name n0 bs)])) .no .no .no) (g := g)
    (ev_cmp (ev_idx (a := .v 12) (z := .str s_none) (ev_v rfl) (ev_k (d := .int 0)) rfl) (ev_k (d := .str s_none)) (strs_ne1 rfl))
    (ev_isnN (ev_call0 (f := "_law_fault") (ev_acons (ev_v (i := 8) rfl) (ev_acons (ev_v (i := 6) rfl) (ev_acons (ev_idx (a := .v 12) (z := encTr (.name n0 bs)) (ev_v rfl) (ev_k (d := .int 1)) rfl) (ev_acons (ev_lst ev_anil rfl) ev_anil)))) rfl (callQ f2)) ev_k)
  have hcut : slcD (.tup (encTrs bs)) (some 1) none = some (.tup (encTrs (bs.drop 1))) := by
    have := slc_drop (encTrs bs) 0
    simp only [Nat.zero_add, Int.natCast_zero, Int.zero_add] at this
    rw [encTrs_map, encTrs_map, List.map_drop] at *
    exact this
  -- the list of trees
  have hbent : ∀ (trees : List Tr) (x13 : Slot), forL (.nm 15) (fun ρ g => evalC (Q78P scr 29) btC ρ g) (trees.map encTr) (e78 x2 x3 x4 .no (.val (.lst (ns.map .str))) .no (.val (encPL pl)) x9 .no x11 (.val (.tup [.str s_none, encTr (.name n0 bs)])) x13 (.val (.lst (trees.map encTr))) .no) g =
      .ok (.nx (e78 x2 x3 x4 .no (.val (.lst (ns.map .str))) .no (.val (encPL pl)) x9 .no x11 (.val (.tup [.str s_none, encTr (.name n0 bs)])) x13 (.val (.lst (trees.map encTr))) .no)) g := fun trees x13 =>
    for_same fun d hd => by
      obtain ⟨t, _, rfl⟩ := List.mem_map.mp hd
      exact ⟨_, rfl, bent_turn v hk hl t _ _ _ _ _ _ _ _⟩
  have hend : ∀ (trees : List Tr) (x13 : Slot), evalC (Q78P scr 29) (tlC (tlC (tlC (tlC elC)))) (e78 x2 x3 x4 .no (.val (.lst (ns.map .str))) .no (.val (encPL pl)) x9 .no x11 (.val (.tup [.str s_none, encTr (.name n0 bs)])) x13 (.own (.lst (trees.map encTr))) .no) g =
      .ok (.nx (e78 x2 x3 x4 .no (.val (.lst (ns.map .str))) .no (.val (encPL pl)) x9 .no x11 (.val (.tup [.str s_none, encTr (.name n0 bs)])) x13 (.val (.lst (trees.map encTr))) .no)) g := fun trees x13 =>
    (seq_nx st_frz).trans ((seq_nx ((st_for (x := .lst (trees.map encTr)) (ev_v (i := 14) rfl) rfl).trans (hbent trees x13))).trans ((seq_nx st_drop).trans st_nil))
  have hown : evalE (Q78P scr 29) (.lst (.acons (.v 13) (.acons (.tup (.acons (.k (.str s_name)) (.acons (.k (.str s_zoo)) (.acons (.idx (.v 13) (.k (.int 2))) .anil)))) (.acons (.tup (.acons (.k (.str s_name)) (.acons (.idx (.v 13) (.k (.int 1))) (.acons (.slc (.idx (.v 13) (.k (.int 2))) (.k (.int 1)) .nth) .anil)))) .anil))))
      (e78 x2 x3 x4 .no (.val (.lst (ns.map .str))) .no (.val (encPL pl)) x9 .no x11 (.val (.tup [.str s_none, encTr (.name n0 bs)])) (.val (encTr (.name n0 bs))) .no .no) g = .ok (.lst ([.name n0 bs, .name s_zoo bs, .name n0 (bs.drop 1)].map encTr)) g :=
    ev_lst (ev_acons (ev_v rfl) (ev_acons (ev_tup (ev_acons ev_k (ev_acons ev_k (ev_acons (ev_idx (z := .tup (encTrs bs)) (ev_v rfl) ev_k rfl) ev_anil))) rfl) (ev_acons (ev_tup (ev_acons ev_k (ev_acons (ev_idx (z := .str n0) (ev_v rfl) ev_k rfl) (ev_acons (ev_slc (ev_idx (z := .tup (encTrs bs)) (ev_v rfl) ev_k rfl) ev_k ev_nth rfl rfl hcut) ev_anil))) rfl) ev_anil))) rfl
  have start : ∀ r, evalC (Q78P scr 29) (tlC (tlC (tlC elC))) (e78 x2 x3 x4 .no (.val (.lst (ns.map .str))) .no (.val (encPL pl)) x9 .no x11 (.val (.tup [.str s_none, encTr (.name n0 bs)])) (.val (encTr (.name n0 bs))) (.own (.lst ([.name n0 bs, .name s_zoo bs, .name n0 (bs.drop 1)].map encTr))) .no) g = r →
      evalC (Q78P scr 29) elC (e78 x2 x3 x4 .no (.val (.lst (ns.map .str))) .no (.val (encPL pl)) x9 .no x11 (.val (.tup [.str s_none, encTr (.name n0 bs)])) .no .no .no) g = r := fun r hr =>
    (seq_ifn t1 rfl st_nil).trans ((seq_nx (st_asg (ev_idx (a := .v 12) (z := encTr (.name n0 bs)) (ev_v rfl) (ev_k (d := .int 1)) rfl) rfl)).trans ((seq_nx (st_ownL hown (show 14 < 16 by decide))).trans hr))
  have c1 : evalE (Q78P scr 29) (.cmp .ne (.idx (.v 13) (.k (.int 2))) (.tup .anil)) (e78 x2 x3 x4 .no (.val (.lst (ns.map .str))) .no (.val (encPL pl)) x9 .no x11 (.val (.tup [.str s_none, encTr (.name n0 bs)])) (.val (encTr (.name n0 bs))) (.own (.lst ([.name n0 bs, .name s_zoo bs, .name n0 (bs.drop 1)].map encTr))) .no) g = .ok (.bl (!(encTrs bs).isEmpty)) g :=
    ev_cmp (ev_idx (z := .tup (encTrs bs)) (ev_v (i := 13) rfl) ev_k rfl) (ev_tup ev_anil rfl) (tup_ne0 (by rw [encTrs_map]; exact hdat))
  cases bs with
  | nil =>
    refine ⟨.val (encTr (.name n0 [])), .val (.lst ([Tr.name n0 [], Tr.name s_zoo [], Tr.name n0 (([] : List Tr).drop 1)].map encTr)), start _ ?_⟩
    exact (seq_ifn (ev_andS (v := false) (w := false) c1 (fun h => by cases h)) rfl st_nil).trans (hend _ _)
  | cons b bs =>
    have hb0 : evalE (Q78P scr 29) (.idx (.idx (.v 13) (.k (.int 2))) (.k (.int 0))) (e78 x2 x3 x4 .no (.val (.lst (ns.map .str))) .no (.val (encPL pl)) x9 .no x11 (.val (.tup [.str s_none, encTr (.name n0 (b :: bs))])) (.val (encTr (.name n0 (b :: bs)))) (.own (.lst ([.name n0 (b :: bs), .name s_zoo (b :: bs), .name n0 ((b :: bs).drop 1)].map encTr))) .no) g = .ok (encTr b) g :=
      ev_idx (ev_idx (z := .tup (encTrs (b :: bs))) (ev_v rfl) ev_k rfl) ev_k (idx_head _ _)
    cases b with
    | name m cs =>
      refine ⟨.val (encTr (.name n0 (.name m cs :: bs))), .val (.lst ([Tr.name n0 (.name m cs :: bs), Tr.name s_zoo (.name m cs :: bs), Tr.name n0 ((Tr.name m cs :: bs).drop 1)].map encTr)), start _ ?_⟩
      exact (seq_ifn (ev_andS (v := true) (w := false) c1 (fun _ => ev_cmp (ev_idx (z := .str s_name) hb0 ev_k rfl) ev_k ((cmp_strs s_name s_over).trans rfl))) rfl st_nil).trans (hend _ _)
    | over r s =>
      refine ⟨.val (encTr (.name n0 (.over r s :: bs))), .val (.lst ([.name n0 (.over r s :: bs), .name s_zoo (.over r s :: bs), .name n0 ((Tr.over r s :: bs).drop 1), .name n0 (.over r 99 :: bs)].map encTr)), start _ ?_⟩
      have happ : evalE (Q78P scr 29) (.tup (.acons (.k (.str s_name)) (.acons (.idx (.v 13) (.k (.int 1))) (.acons (.bin .add (.tup (.acons (.tup (.acons (.k (.str s_over)) (.acons (.idx (.idx (.idx (.v 13) (.k (.int 2))) (.k (.int 0))) (.k (.int 1))) (.acons (.k (.int 99)) .anil)))) .anil)) (.slc (.idx (.v 13) (.k (.int 2))) (.k (.int 1)) .nth)) .anil))))
          (e78 x2 x3 x4 .no (.val (.lst (ns.map .str))) .no (.val (encPL pl)) x9 .no x11 (.val (.tup [.str s_none, encTr (.name n0 (.over r s :: bs))])) (.val (encTr (.name n0 (.over r s :: bs)))) (.own (.lst ([.name n0 (.over r s :: bs), .name s_zoo (.over r s :: bs), .name n0 ((Tr.over r s :: bs).drop 1)].map encTr))) .no) g = .ok (encTr (.name n0 (.over r 99 :: bs))) g := by
        have hz : bs.length ≤ 1000 := by simp at hz4; omega
        exact ev_tup (ev_acons ev_k (ev_acons (ev_idx (z := .str n0) (ev_v rfl) ev_k rfl) (ev_acons (ev_bin (z := .tup (encTrs (.over r 99 :: bs))) (ev_tup (ev_acons (ev_tup (ev_acons ev_k (ev_acons (ev_idx (z := encT r) hb0 ev_k rfl) (ev_acons ev_k ev_anil))) rfl) ev_anil) rfl) (ev_slc (ev_idx (z := .tup (encTrs (.over r s :: bs))) (ev_v rfl) ev_k rfl) ev_k ev_nth rfl rfl hcut) (add_tup (by simp [encTrs_map]; omega))) ev_anil))) rfl
      exact (seq_ify (ev_andS (v := true) (w := true) c1 (fun _ => ev_cmp (ev_idx (z := .str s_over) hb0 ev_k rfl) ev_k ((cmp_strs s_over s_over).trans rfl))) rfl ((seq_nx (st_app (xs := [Tr.name n0 (.over r s :: bs), Tr.name s_zoo (.over r s :: bs), Tr.name n0 ((Tr.over r s :: bs).drop 1)].map encTr) happ rfl (show 3 < 16777216 by decide))).trans st_nil)).trans (hend [Tr.name n0 (.over r s :: bs), Tr.name s_zoo (.over r s :: bs), Tr.name n0 ((Tr.over r s :: bs).drop 1), Tr.name n0 (.over r 99 :: bs)] _)
end
end MW

end
section
set_option Elab.async false
set_option linter.all false
set_option maxRecDepth 100000
set_option maxHeartbeats 4000000
namespace MW
/-- ways, or a tree without fault -/
theorem way_part {scr : List Int} {g : G} {pl : PL} {ns : List S} (v : VPL pl) (hk : pl.map (·.1) = ns) (nd : ns.Nodup) (hl : ns.length ≤ 5) (x2 x3 x4 x9 : Slot) :
    ∃ x12 x13 x14, evalC (Q78P scr 29) (tlC (tlC (tlC (tlC (tlC (tlC (tlC (tlC (tlC (tlC (tlC (tlC (tlC (tlC (tlC turnC))))))))))))))) (e78 x2 x3 x4 .no (.val (.lst (ns.map .str))) .no (.val (encPL pl)) x9 .no .no .no .no .no .no) g =
      evalC (Q78P scr 29) (tlC t17) (e78 x2 x3 x4 .no (.val (.lst (ns.map .str))) .no (.val (encPL pl)) x9 .no (.val (encW (waysL pl [[]] ns))) x12 x13 x14 .no) g := by
  have hkn : ∀ n ∈ ns, n ∈ pl.map (·.1) := fun n hn => by rw [hk]; exact hn
  have h1 := run_ways scr 25 pl g v (.lst (ns.map .str)) ns rfl hkn (by omega)
  have h2 := run_placed scr (23 - ns.length) pl g v ns hkn (by omega)
  rw [show 23 - ns.length + 6 + ns.length = 29 by omega] at h2
  have hh := ways_head pl ns []
  have c1 : evalC (Q78P scr 29) (hdC (tlC (tlC (tlC (tlC (tlC (tlC (tlC (tlC (tlC (tlC (tlC (tlC (tlC (tlC (tlC turnC)))))))))))))))) (e78 x2 x3 x4 .no (.val (.lst (ns.map .str))) .no (.val (encPL pl)) x9 .no .no .no .no .no .no) g =
      .ok (.nx (e78 x2 x3 x4 .no (.val (.lst (ns.map .str))) .no (.val (encPL pl)) x9 .no (.val (encW (waysL pl [[]] ns))) .no .no .no .no)) g :=
    st_asg (ev_call0 (f := "_law_all_ways") (ev_acons (ev_v rfl) (ev_acons (ev_v rfl) ev_anil)) rfl (callQ h1)) rfl
  have c2 : ∀ d, run (P78 scr) 29 "placed_over" [encPL pl, .tup (ns.map .str)] g = .ok d g → evalC (Q78P scr 29) (hdC (tlC (tlC (tlC (tlC (tlC (tlC (tlC (tlC (tlC (tlC (tlC (tlC (tlC (tlC (tlC (tlC turnC))))))))))))))))) (e78 x2 x3 x4 .no (.val (.lst (ns.map .str))) .no (.val (encPL pl)) x9 .no (.val (encW (waysL pl [[]] ns))) .no .no .no .no) g =
      .ok (.nx (e78 x2 x3 x4 .no (.val (.lst (ns.map .str))) .no (.val (encPL pl)) x9 .no (.val (encW (waysL pl [[]] ns))) (.val d) .no .no .no)) g := fun d hd =>
    st_asg (ev_call0 (f := "placed_over") (ev_acons (ev_v rfl) (ev_acons (ev_b1 (ev_v (i := 6) rfl) (show b1D .tuple (.lst (ns.map .str)) = some (.tup (ns.map .str)) from rfl)) ev_anil)) rfl (callQ hd)) rfl
  have t : ∀ d, evalE (Q78P scr 29) (.cmp .ne (.v 11) (.lst .anil)) (e78 x2 x3 x4 .no (.val (.lst (ns.map .str))) .no (.val (encPL pl)) x9 .no (.val (encW (waysL pl [[]] ns))) (.val d) .no .no .no) g = .ok (.bl (firstO pl ns []).isSome) g := fun d => by
    have := ev_cmp (P := Q78P scr 29) (ρ := e78 x2 x3 x4 .no (.val (.lst (ns.map .str))) .no (.val (encPL pl)) x9 .no (.val (encW (waysL pl [[]] ns))) (.val d) .no .no .no) (g := g) (ev_v (i := 11) rfl) (ev_lst ev_anil rfl) (EqEnc.taken.tup.lst.cmpN (by decide) (waysL pl [[]] ns) [])
    rw [ways_ne] at this
    exact this
  cases ho : firstO pl ns [] with
  | some w =>
    rw [ho] at h2 hh
    have t' := t (.tup [.str s_placed, encTk w])
    rw [ho] at t'
    refine ⟨.val (.tup [.str s_placed, encTk w]), .no, .no, ?_⟩
    refine (seq_nx c1).trans ((seq_nx (c2 _ h2)).trans ?_)
    have hix : idxD (encW (waysL pl [[]] ns)) (.int 0) = some (encTk w) := by
      cases e : waysL pl [[]] ns with
      | nil => rw [e] at hh; cases hh
      | cons x xs => rw [e] at hh; cases hh; exact idx_headL _ _
    have t2 := ev_cmp (P := Q78P scr 29) (ρ := e78 x2 x3 x4 .no (.val (.lst (ns.map .str))) .no (.val (encPL pl)) x9 .no (.val (encW (waysL pl [[]] ns))) (.val (.tup [.str s_placed, encTk w])) .no .no .no) (g := g) (ev_v (i := 12) rfl) (ev_tup (ev_acons (ev_k (d := .str s_placed)) (ev_acons (ev_idx (ev_v (i := 11) rfl) (ev_k (d := .int 0)) hix) ev_anil)) rfl) ((EqEnc.pair EqEnc.str EqEnc.taken.tup).cmpN (by decide) (s_placed, w) (s_placed, w))
    have t3 : evalE (Q78P scr 29) (.cmp .ne (.v 12) (.tup (.acons (.k (.str s_placed)) (.acons (.idx (.v 11) (.k (.int 0))) .anil)))) (e78 x2 x3 x4 .no (.val (.lst (ns.map .str))) .no (.val (encPL pl)) x9 .no (.val (encW (waysL pl [[]] ns))) (.val (.tup [.str s_placed, encTk w])) .no .no .no) g = .ok (.bl false) g := t2.trans (by simp)
    exact seq_ify t' rfl ((seq_ifn t3 rfl st_nil).trans st_nil)
  | none =>
    rw [ho] at h2
    have t' := t (.tup [.str s_none, encTr (treeO pl ns [])])
    rw [ho] at t'
    obtain ⟨x13, x14, he⟩ := els_part (scr := scr) (g := g) v hk nd hl ho x2 x3 x4 x9 (.val (encW (waysL pl [[]] ns)))
    refine ⟨.val (.tup [.str s_none, encTr (treeO pl ns [])]), x13, x14, ?_⟩
    refine (seq_nx c1).trans ((seq_nx (c2 _ h2)).trans ?_)
    exact seq_ifn t' rfl he
theorem turn_all {scr : List Int} {c : Nat} {g : G} (hs : okScr scr = true) (h : GB c g) (hc : c ≤ 20000) (x2 : Slot) :
    ∃ g', evalC (Q78P scr 29) turnC (e78 x2 .no .no .no .no .no .no .no .no .no .no .no .no .no) g = .ok (.nx (e78 .no .no .no .no .no .no .no .no .no .no .no .no .no .no)) g' ∧ GB (c + 400) g' := by
  obtain ⟨d, g1, r1, b1, h1⟩ := ev_draw (k := 26) (lim := 2) (ρ := e78 x2 (.own (encBM [])) (.own (encWM [])) .no .no .no .no .no .no .no .no .no .no .no) (i := 1) hs h (by omega) (by decide) (by decide) rfl
  have hj : ∃ j : Nat, j ≤ 3 ∧ slcD (.lst (scsL.map .int)) none (some (2 + d)) = some (.lst ((scsL.take j).map .int)) := by
    have : d = 0 ∨ d = 1 := by omega
    rcases this with rfl | rfl
    · exact ⟨2, by decide, rfl⟩
    · exact ⟨3, by decide, rfl⟩
  obtain ⟨j, hj3, hslc⟩ := hj
  obtain ⟨bm, wm, g2, f2, hb, h2⟩ := scales_loop (k := 25) hs h1 (by omega) hj3 x2
  have hbm := hb.ok
  obtain ⟨L, fL, ndL, memL⟩ := names_loop (scr := scr) (k := 29) (g := g2) hbm x2 (.own (encWM wm))
  obtain ⟨ns, hsort, hns⟩ := NsOk.of_nd (bm := bm) ndL memL
  obtain ⟨ns', hns', hall⟩ := run_all scr 25 bm wm g2 hbm
  have e := hns'.uniq hns
  subst e
  have hl5 := hns.len hbm
  have v := VPL.all hbm hns
  have hkeys : (plAll bm wm ns').map (·.1) = ns' := pl_keys bm wm ns'
  obtain ⟨rk, g3, f3, hrk, h3⟩ := ranks_loop (k := 25) hs h2 (by omega) hbm hns x2
  obtain ⟨x12, x13, x14, hway⟩ := way_part (scr := scr) (g := g3) v hkeys hns.nd hl5 x2 (.val (encBM bm)) (.val (encWM wm)) (.own (encDK D.str D.int rk))
  have RK : RkOk (plAll bm wm ns') rk ns' := ⟨hkeys, hrk.ks, hns.nd, hns.so, hl5, hrk.two⟩
  obtain ⟨ys, hy, hyp, _⟩ := sort_ints (rksOf rk ns')
  have hyl : ys.length ≤ 2 := by rw [hyp.length_eq]; exact RK.two'
  have hm1 := run_most scr 8 (plAll bm wm ns') rk ns' g3 v RK hy hyl
  obtain ⟨w, hw, hm2⟩ := run_lmost scr 8 (plAll bm wm ns') rk ns' g3 v RK hy hyl
  rw [hw] at hm1
  refine ⟨g3, ?_, h3.wk (by omega)⟩
  refine (seq_nx (st_ownD ev_dK (show 3 < 16 by decide))).trans ?_
  refine (seq_nx (st_ownD ev_dK (show 4 < 16 by decide))).trans ?_
  have hsl : evalE (Q78P scr 29) (.slc (.lst (.acons (.k (.int 1)) (.acons (.k (.int 2)) (.acons (.k (.int 4)) .anil)))) .nth (.bin .add (.k (.int 2)) (.call "_law_draw" (.acons (.v 1) (.acons (.k (.int 2)) .anil)) 0))) (e78 x2 (.own (encBM [])) (.own (encWM [])) .no .no .no .no .no .no .no .no .no .no .no) g = .ok (.lst ((scsL.take j).map .int)) g1 :=
    ev_slc (x := .lst (scsL.map .int)) (l := none) (h := some (2 + d)) (ev_lst (ev_acons ev_k (ev_acons ev_k (ev_acons ev_k ev_anil))) rfl) ev_nth (ev_bin (z := .int (2 + d)) ev_k r1 rfl) rfl rfl hslc
  refine (seq_nx ((st_for (ds := (scsL.take j).map .int) hsl rfl).trans f2)).trans ?_
  refine (seq_nx st_drop).trans ?_
  refine (seq_nx (st_asg (d := .lst []) (ev_lst ev_anil rfl) rfl)).trans ?_
  refine (seq_nx st_frz).trans ?_
  have hit : itemsE (.v 3) (encBM bm) = some (bm.map fun p => .int p.1) := rfl
  refine (seq_nx ((st_for (x := encBM bm) (ev_v (i := 3) rfl) hit).trans fL)).trans ?_
  refine (seq_nx st_drop).trans ?_
  refine (seq_nx (st_asg (d := .lst (ns'.map .str)) (ev_b1 (x := .lst (L.map .str)) (ev_v (i := 6) rfl) (by simp only [b1D, hsort, Option.map])) rfl)).trans ?_
  refine (seq_nx st_frz).trans ?_
  refine (seq_nx (st_asg (d := encPL (plAll bm wm ns')) (ev_call0 (P := Q78P scr 29) (f := "all_over") (ev_acons (ev_v (i := 3) rfl) (ev_acons (ev_v (i := 4) rfl) ev_anil)) rfl (callQ hall)) rfl)).trans ?_
  refine (seq_nx (st_ownD ev_dK (show 9 < 16 by decide))).trans ?_
  obtain ⟨ks, hks⟩ := RK.keys
  have hso : b1D .sorted (encPL (plAll bm wm ns')) = some (.lst (ns'.map .str)) := by
    rw [hks]; simp only [b1D, sorted_self hns.so, Option.map]
  have t8 : evalE (Q78P scr 29) (.cmp .ne (.b1 .sorted (.v 8)) (.v 6)) (e78 x2 (.val (encBM bm)) (.val (encWM wm)) .no (.val (.lst (ns'.map .str))) .no (.val (encPL (plAll bm wm ns'))) (.own (encDK D.str D.int [])) .no .no .no .no .no .no) g2 = .ok (.bl false) g2 :=
    (ev_cmp (ev_b1 (ev_v (i := 8) rfl) hso) (ev_v (i := 6) rfl) (EqEnc.str.lst.cmpN (by decide) ns' ns')).trans (by simp)
  refine (seq_ifn t8 rfl st_nil).trans ?_
  refine (seq_nx ((st_for (ds := ns'.map .str) (ev_v (i := 6) rfl) rfl).trans f3)).trans ?_
  refine (seq_nx st_drop).trans ?_
  refine hway.trans ?_
  refine (seq_nx st_drop).trans ?_
  refine (seq_nx st_frz).trans ?_
  have t20 : evalE (Q78P scr 29) (.cmp .ne (.call "most_over" (.acons (.v 8) (.acons (.v 9) .anil)) 0) (.call "_law_most" (.acons (.v 8) (.acons (.v 9) .anil)) 0)) (e78 x2 (.val (encBM bm)) (.val (encWM wm)) .no (.val (.lst (ns'.map .str))) .no (.val (encPL (plAll bm wm ns'))) (.val (encDK D.str D.int rk)) .no (.val (encW (waysL (plAll bm wm ns') [[]] ns'))) x12 .no .no .no) g3 = .ok (.bl false) g3 :=
    (ev_cmp (ev_call0 (f := "most_over") (ev_acons (ev_v (i := 8) rfl) (ev_acons (ev_v (i := 9) rfl) ev_anil)) rfl (callQ hm1)) (ev_call0 (f := "_law_most") (ev_acons (ev_v (i := 8) rfl) (ev_acons (ev_v (i := 9) rfl) ev_anil)) rfl (callQ hm2))
      ((EqEnc.pair (EqEnc.pair EqEnc.int EqEnc.str.tup).tup EqEnc.taken.tup).cmpN (by decide) ((ys.foldl (mostS (plAll bm wm ns') rk ns') ([], [])).2, w) ((ys.foldl (mostS (plAll bm wm ns') rk ns') ([], [])).2, w))).trans (by simp)
  refine (seq_ifn t20 rfl st_nil).trans ?_
  rw [seq_nx st_drop, st_nil]
  rfl
theorem law_runs {scr : List Int} (hs : okScr scr = true) : ∃ g', runLaw (P78 scr) 29 scr fd_law = .ok (.bl true) g' := by
  have h0 : GB 0 (poolNew scr) := ⟨Int.le_refl _, Int.le_refl _, Int.le_refl _, Int.le_refl _⟩
  obtain ⟨ρ', g', h1, h2, h3⟩ := for_inv (t := .nm 2) (ds := rngL 0 2) (body := fun ρ g => evalC (Q78P scr 29) turnC ρ g) (I := fun j ρ g => ρ = e78 .no .no .no .no .no .no .no .no .no .no .no .no .no .no ∧ GB (0 + 400 * j) g) 0 (ρ := e78 .no .no .no .no .no .no .no .no .no .no .no .no .no .no) (g := poolNew scr) ⟨rfl, h0⟩
    (fun j d ρ g hd hI => by
      obtain ⟨rfl, hg⟩ := hI
      obtain ⟨hj, rfl⟩ := rng_get hd
      rw [Nat.zero_add] at hg ⊢
      obtain ⟨g', t1, t2⟩ := turn_all hs hg (by omega) (.val (.int (0 + j)))
      exact ⟨_, rfl, _, g', .inl t1, rfl, t2.wk (by omega)⟩)
  subst h2
  refine ⟨g', ?_⟩
  unfold runLaw
  show fin (evalC (Q78P scr 29) c_law (e78 .no .no .no .no .no .no .no .no .no .no .no .no .no .no) (poolNew scr)) = _
  refine (congrArg fin (seq_nx ((st_for (ev_rng1 ev_k (by decide) (by decide)) rfl).trans h1))).trans ?_
  rw [seq_nx st_drop, seq_rt (st_ret ev_k)]
  rfl
end MW

end
section
set_option Elab.async false
set_option linter.all false
set_option maxRecDepth 100000
set_option maxHeartbeats 4000000
namespace MW
open PySem PySem.Spec PyProof.Rows L2
theorem pure_law : ∀ scr : List Int, okScr scr = true → scr.length ≤ 63 → Acc (fun d _ => d = .bl true) noX (runLaw (prog defs_k78 dfl_k78 consts_k78 scr) 29 scr fd_law) := by
  intro scr hs _
  obtain ⟨g', h⟩ := law_runs hs
  rw [h]
  rfl
abbrev st_overlap : Stmt := topS 2
abbrev n_overlap : List Str := ["one", "other"]
theorem sc_overlap : FnScope n_overlap ["one", "other"] (defScope st_overlap) := ⟨rfl, rfl, rfl, by decide +kernel, rfl, by decide +kernel, by decide +kernel⟩
theorem ck_overlap : chkB n_overlap fd_overlap.body (defBody st_overlap) (defScope st_overlap) = true := by decide +kernel
abbrev st_within : Stmt := topS 3
abbrev n_within : List Str := ["one", "other"]
theorem sc_within : FnScope n_within ["one", "other"] (defScope st_within) := ⟨rfl, rfl, rfl, by decide +kernel, rfl, by decide +kernel, by decide +kernel⟩
theorem ck_within : chkB n_within fd_within.body (defBody st_within) (defScope st_within) = true := by decide +kernel
abbrev st_touch : Stmt := topS 4
abbrev n_touch : List Str := ["one", "other", "beside", "above", "across", "along"]
theorem sc_touch : FnScope n_touch ["one", "other"] (defScope st_touch) := ⟨rfl, rfl, rfl, by decide +kernel, rfl, by decide +kernel, by decide +kernel⟩
theorem ck_touch : chkB n_touch fd_touch.body (defBody st_touch) (defScope st_touch) = true := by decide +kernel
abbrev st_label_box : Stmt := topS 5
abbrev n_label_box : List Str := ["box", "side", "size", "west", "east", "south", "north"]
theorem sc_label_box : FnScope n_label_box ["box", "side", "size"] (defScope st_label_box) := ⟨rfl, rfl, rfl, by decide +kernel, rfl, by decide +kernel, by decide +kernel⟩
theorem ck_label_box : chkB n_label_box fd_label_box.body (defBody st_label_box) (defScope st_label_box) = true := by decide +kernel
abbrev st_places_for : Stmt := topS 6
abbrev n_places_for : List Str := ["name", "boxes", "window", "own", "others", "other", "box", "found", "side", "clear"]
theorem sc_places_for : FnScope n_places_for ["name", "boxes", "window"] (defScope st_places_for) := ⟨rfl, rfl, rfl, by decide +kernel, rfl, by decide +kernel, by decide +kernel⟩
theorem ck_places_for : chkB n_places_for fd_places_for.body (defBody st_places_for) (defScope st_places_for) = true := by decide +kernel
abbrev st_together : Stmt := topS 7
abbrev n_together : List Str := ["one", "other"]
theorem sc_together : FnScope n_together ["one", "other"] (defScope st_together) := ⟨rfl, rfl, rfl, by decide +kernel, rfl, by decide +kernel, by decide +kernel⟩
theorem ck_together : chkB n_together fd_together.body (defBody st_together) (defScope st_together) = true := by decide +kernel
abbrev st_lots_of : Stmt := topS 9
abbrev n_lots_of : List Str := ["names", "size", "place", "name", "lot"]
theorem sc_lots_of : FnScope n_lots_of ["names", "size"] (defScope st_lots_of) := ⟨rfl, rfl, rfl, by decide +kernel, rfl, by decide +kernel, by decide +kernel⟩
theorem ck_lots_of : chkB n_lots_of fd_lots_of.body (defBody st_lots_of) (defScope st_lots_of) = true := by decide +kernel
abbrev st_names_in : Stmt := topS 11
abbrev n_names_in : List Str := ["boxes", "told", "name"]
theorem sc_names_in : FnScope n_names_in ["boxes"] (defScope st_names_in) := ⟨rfl, rfl, rfl, by decide +kernel, rfl, by decide +kernel, by decide +kernel⟩
theorem ck_names_in : chkB n_names_in fd_names_in.body (defBody st_names_in) (defScope st_names_in) = true := by decide +kernel
abbrev st_places_over : Stmt := topS 12
abbrev n_places_over : List Str := ["boxes", "windows", "name", "scales", "scale", "told", "found", "side"]
theorem sc_places_over : FnScope n_places_over ["boxes", "windows", "name"] (defScope st_places_over) := ⟨rfl, rfl, rfl, by decide +kernel, rfl, by decide +kernel, by decide +kernel⟩
theorem ck_places_over : chkB n_places_over fd_places_over.body (defBody st_places_over) (defScope st_places_over) = true := by decide +kernel
abbrev st_all_over : Stmt := topS 13
abbrev n_all_over : List Str := ["boxes", "windows", "name"]
theorem sc_all_over : FnScope n_all_over ["boxes", "windows"] (defScope st_all_over) := ⟨rfl, rfl, rfl, by decide +kernel, rfl, by decide +kernel, by decide +kernel⟩
theorem ck_all_over : chkB n_all_over fd_all_over.body (defBody st_all_over) (defScope st_all_over) = true := by decide +kernel
abbrev st_clash_at : Stmt := topS 14
abbrev n_clash_at : List Str := ["one", "other", "there", "scale", "box"]
theorem sc_clash_at : FnScope n_clash_at ["one", "other"] (defScope st_clash_at) := ⟨rfl, rfl, rfl, by decide +kernel, rfl, by decide +kernel, by decide +kernel⟩
theorem ck_clash_at : chkB n_clash_at fd_clash_at.body (defBody st_clash_at) (defScope st_clash_at) = true := by decide +kernel
abbrev st_is_free : Stmt := topS 15
abbrev n_is_free : List Str := ["places", "taken", "name", "number", "other", "there"]
theorem sc_is_free : FnScope n_is_free ["places", "taken", "name", "number"] (defScope st_is_free) := ⟨rfl, rfl, rfl, by decide +kernel, rfl, by decide +kernel, by decide +kernel⟩
theorem ck_is_free : chkB n_is_free fd_is_free.body (defBody st_is_free) (defScope st_is_free) = true := by decide +kernel
abbrev st_first_over : Stmt := topS 16
abbrev n_first_over : List Str := ["places", "names", "taken", "number", "found"]
theorem sc_first_over : FnScope n_first_over ["places", "names", "taken"] (defScope st_first_over) := ⟨rfl, rfl, rfl, by decide +kernel, rfl, by decide +kernel, by decide +kernel⟩
theorem ck_first_over : chkB n_first_over fd_first_over.body (defBody st_first_over) (defScope st_first_over) = true := by decide +kernel
abbrev st_over_leaf : Stmt := topS 17
abbrev n_over_leaf : List Str := ["places", "taken", "name", "number", "other", "there", "scale"]
theorem sc_over_leaf : FnScope n_over_leaf ["places", "taken", "name", "number"] (defScope st_over_leaf) := ⟨rfl, rfl, rfl, by decide +kernel, rfl, by decide +kernel, by decide +kernel⟩
theorem ck_over_leaf : chkB n_over_leaf fd_over_leaf.body (defBody st_over_leaf) (defScope st_over_leaf) = true := by decide +kernel
abbrev st_tree_over : Stmt := topS 18
abbrev n_tree_over : List Str := ["places", "names", "taken", "name", "branches", "number"]
theorem sc_tree_over : FnScope n_tree_over ["places", "names", "taken"] (defScope st_tree_over) := ⟨rfl, rfl, rfl, by decide +kernel, rfl, by decide +kernel, by decide +kernel⟩
theorem ck_tree_over : chkB n_tree_over fd_tree_over.body (defBody st_tree_over) (defScope st_tree_over) = true := by decide +kernel
abbrev st_placed_over : Stmt := topS 19
abbrev n_placed_over : List Str := ["places", "names", "found"]
theorem sc_placed_over : FnScope n_placed_over ["places", "names"] (defScope st_placed_over) := ⟨rfl, rfl, rfl, by decide +kernel, rfl, by decide +kernel, by decide +kernel⟩
theorem ck_placed_over : chkB n_placed_over fd_placed_over.body (defBody st_placed_over) (defScope st_placed_over) = true := by decide +kernel
abbrev st_fault_of_over : Stmt := topS 20
abbrev n_fault_of_over : List Str := ["places", "names", "told", "taken", "left", "name", "number", "branch", "fault"]
theorem sc_fault_of_over : FnScope n_fault_of_over ["places", "names", "told", "taken"] (defScope st_fault_of_over) := ⟨rfl, rfl, rfl, by decide +kernel, rfl, by decide +kernel, by decide +kernel⟩
theorem ck_fault_of_over : chkB n_fault_of_over fd_fault_of_over.body (defBody st_fault_of_over) (defScope st_fault_of_over) = true := by decide +kernel
abbrev st_bars : Stmt := topS 21
abbrev n_bars : List Str := ["one", "other", "scale", "here", "there"]
theorem sc_bars : FnScope n_bars ["one", "other", "scale"] (defScope st_bars) := ⟨rfl, rfl, rfl, by decide +kernel, rfl, by decide +kernel, by decide +kernel⟩
theorem ck_bars : chkB n_bars fd_bars.body (defBody st_bars) (defScope st_bars) = true := by decide +kernel
abbrev st_most_over : Stmt := topS 22
abbrev n_most_over : List Str := ["places", "ranks", "kept", "lots", "rank", "name", "names", "lot"]
theorem sc_most_over : FnScope n_most_over ["places", "ranks"] (defScope st_most_over) := ⟨rfl, rfl, rfl, by decide +kernel, rfl, by decide +kernel, by decide +kernel⟩
theorem ck_most_over : chkB n_most_over fd_most_over.body (defBody st_most_over) (defScope st_most_over) = true := by decide +kernel
abbrev st_greatest_lot : Stmt := topS 23
abbrev n_greatest_lot : List Str := ["places", "kept", "names", "size", "lot"]
theorem sc_greatest_lot : FnScope n_greatest_lot ["places", "kept", "names"] (defScope st_greatest_lot) := ⟨rfl, rfl, rfl, by decide +kernel, rfl, by decide +kernel, by decide +kernel⟩
theorem ck_greatest_lot : chkB n_greatest_lot fd_greatest_lot.body (defBody st_greatest_lot) (defScope st_greatest_lot) = true := by decide +kernel
abbrev st_law_boxes : Stmt := topS 30
abbrev n_law_boxes : List Str := ["pool", "many", "found", "words", "k", "west", "south"]
theorem sc_law_boxes : FnScope n_law_boxes ["pool", "many"] (defScope st_law_boxes) := ⟨rfl, rfl, rfl, by decide +kernel, rfl, by decide +kernel, by decide +kernel⟩
theorem ck_law_boxes : chkB n_law_boxes fd_law_boxes.body (defBody st_law_boxes) (defScope st_law_boxes) = true := by decide +kernel
abbrev st_law_squares : Stmt := topS 31
abbrev n_law_squares : List Str := ["box", "found", "x", "y"]
theorem sc_law_squares : FnScope n_law_squares ["box"] (defScope st_law_squares) := ⟨rfl, rfl, rfl, by decide +kernel, rfl, by decide +kernel, by decide +kernel⟩
theorem ck_law_squares : chkB n_law_squares fd_law_squares.body (defBody st_law_squares) (defScope st_law_squares) = true := by decide +kernel
abbrev st_law_near : Stmt := topS 32
abbrev n_law_near : List Str := ["box", "found", "x", "y"]
theorem sc_law_near : FnScope n_law_near ["box"] (defScope st_law_near) := ⟨rfl, rfl, rfl, by decide +kernel, rfl, by decide +kernel, by decide +kernel⟩
theorem ck_law_near : chkB n_law_near fd_law_near.body (defBody st_law_near) (defScope st_law_near) = true := by decide +kernel
abbrev st_law_holds : Stmt := topS 33
abbrev n_law_holds : List Str := ["one", "other", "square"]
theorem sc_law_holds : FnScope n_law_holds ["one", "other"] (defScope st_law_holds) := ⟨rfl, rfl, rfl, by decide +kernel, rfl, by decide +kernel, by decide +kernel⟩
theorem ck_law_holds : chkB n_law_holds fd_law_holds.body (defBody st_law_holds) (defScope st_law_holds) = true := by decide +kernel
abbrev st_law_spots : Stmt := topS 34
abbrev n_law_spots : List Str := ["boxes", "window", "name", "west", "east", "south", "north", "size", "rows", "found", "side", "x", "y", "box", "good", "other", "square"]
theorem sc_law_spots : FnScope n_law_spots ["boxes", "window", "name"] (defScope st_law_spots) := ⟨rfl, rfl, rfl, by decide +kernel, rfl, by decide +kernel, by decide +kernel⟩
theorem ck_law_spots : chkB n_law_spots fd_law_spots.body (defBody st_law_spots) (defScope st_law_spots) = true := by decide +kernel
abbrev st_law_together : Stmt := topS 35
abbrev n_law_together : List Str := ["one", "other", "square"]
theorem sc_law_together : FnScope n_law_together ["one", "other"] (defScope st_law_together) := ⟨rfl, rfl, rfl, by decide +kernel, rfl, by decide +kernel, by decide +kernel⟩
theorem ck_law_together : chkB n_law_together fd_law_together.body (defBody st_law_together) (defScope st_law_together) = true := by decide +kernel
abbrev st_law_over : Stmt := topS 36
abbrev n_law_over : List Str := ["boxes", "windows", "name", "scales", "scale", "found", "side", "rows", "here", "box"]
theorem sc_law_over : FnScope n_law_over ["boxes", "windows", "name"] (defScope st_law_over) := ⟨rfl, rfl, rfl, by decide +kernel, rfl, by decide +kernel, by decide +kernel⟩
theorem ck_law_over : chkB n_law_over fd_law_over.body (defBody st_law_over) (defScope st_law_over) = true := by decide +kernel
abbrev st_law_clash : Stmt := topS 37
abbrev n_law_clash : List Str := ["one", "other", "scale", "box", "number", "there"]
theorem sc_law_clash : FnScope n_law_clash ["one", "other"] (defScope st_law_clash) := ⟨rfl, rfl, rfl, by decide +kernel, rfl, by decide +kernel, by decide +kernel⟩
theorem ck_law_clash : chkB n_law_clash fd_law_clash.body (defBody st_law_clash) (defScope st_law_clash) = true := by decide +kernel
abbrev st_law_all_ways : Stmt := topS 38
abbrev n_law_all_ways : List Str := ["places", "names", "found", "name", "further", "rows", "number", "row"]
theorem sc_law_all_ways : FnScope n_law_all_ways ["places", "names"] (defScope st_law_all_ways) := ⟨rfl, rfl, rfl, by decide +kernel, rfl, by decide +kernel, by decide +kernel⟩
theorem ck_law_all_ways : chkB n_law_all_ways fd_law_all_ways.body (defBody st_law_all_ways) (defScope st_law_all_ways) = true := by decide +kernel
abbrev st_law_fault : Stmt := topS 39
abbrev n_law_fault : List Str := ["places", "names", "tree", "taken", "left", "name", "number", "branch", "word", "one", "other"]
theorem sc_law_fault : FnScope n_law_fault ["places", "names", "tree", "taken"] (defScope st_law_fault) := ⟨rfl, rfl, rfl, by decide +kernel, rfl, by decide +kernel, by decide +kernel⟩
theorem ck_law_fault : chkB n_law_fault fd_law_fault.body (defBody st_law_fault) (defScope st_law_fault) = true := by decide +kernel
abbrev st_law_lots : Stmt := topS 40
abbrev n_law_lots : List Str := ["names", "size", "found", "name", "lot"]
theorem sc_law_lots : FnScope n_law_lots ["names", "size"] (defScope st_law_lots) := ⟨rfl, rfl, rfl, by decide +kernel, rfl, by decide +kernel, by decide +kernel⟩
theorem ck_law_lots : chkB n_law_lots fd_law_lots.body (defBody st_law_lots) (defScope st_law_lots) = true := by decide +kernel
abbrev st_law_most : Stmt := topS 41
abbrev n_law_most : List Str := ["places", "ranks", "kept", "lots", "rank", "name", "names", "best", "size", "good", "lot"]
theorem sc_law_most : FnScope n_law_most ["places", "ranks"] (defScope st_law_most) := ⟨rfl, rfl, rfl, by decide +kernel, rfl, by decide +kernel, by decide +kernel⟩
theorem ck_law_most : chkB n_law_most fd_law_most.body (defBody st_law_most) (defScope st_law_most) = true := by decide +kernel
abbrev st_law : Stmt := topS 42
abbrev n_law : List Str := ["script", "pool", "turn", "boxes", "windows", "scale", "names", "name", "places", "ranks", "other", "ways", "told", "first", "bent", "tree"]
theorem sc_law : FnScope n_law ["script"] (defScope st_law) := ⟨rfl, rfl, rfl, by decide +kernel, rfl, by decide +kernel, by decide +kernel⟩
theorem ck_law : chkB n_law fd_law.body ((defBody st_law).drop 1) (defScope st_law) = true := by decide +kernel
theorem all_mk {l : PySem.W.OpenLaw} {w : World} {K : PySem.W.Frag} {h : Heap} {mg : Str → Option Value} {fa f0 f1 f2 f3 f4 f5 f6 f7 f8 f9 f10 f11 f12 f13 f14 f15 f16 f17 f18 f19 f20 f21 f22 f23 f24 f25 f26 f27 f28 f29 f30 f31 f32 f33 f34 f35 f36 f37 : Addr} (X : K.In h) (G : h.Ns mainGlobals mg) (hfa : mg "law" = some (.ref fa))
    {od0 an0 : Option Addr} {sl0 : Array (Option Value)} {oc0 kV0 dc0 pm0 cd0 ct0 : Value}
    {od1 an1 : Option Addr} {sl1 : Array (Option Value)} {oc1 kV1 dc1 pm1 cd1 ct1 : Value}
    {od2 an2 : Option Addr} {sl2 : Array (Option Value)} {oc2 kV2 dc2 pm2 cd2 ct2 : Value}
    {od3 an3 : Option Addr} {sl3 : Array (Option Value)} {oc3 kV3 dc3 pm3 cd3 ct3 : Value}
    {od4 an4 : Option Addr} {sl4 : Array (Option Value)} {oc4 kV4 dc4 pm4 cd4 ct4 : Value}
    {od5 an5 : Option Addr} {sl5 : Array (Option Value)} {oc5 kV5 dc5 pm5 cd5 ct5 : Value}
    {od6 an6 : Option Addr} {sl6 : Array (Option Value)} {oc6 kV6 dc6 pm6 cd6 ct6 : Value}
    {od7 an7 : Option Addr} {sl7 : Array (Option Value)} {oc7 kV7 dc7 pm7 cd7 ct7 : Value}
    {od8 an8 : Option Addr} {sl8 : Array (Option Value)} {oc8 kV8 dc8 pm8 cd8 ct8 : Value}
    {od9 an9 : Option Addr} {sl9 : Array (Option Value)} {oc9 kV9 dc9 pm9 cd9 ct9 : Value}
    {od10 an10 : Option Addr} {sl10 : Array (Option Value)} {oc10 kV10 dc10 pm10 cd10 ct10 : Value}
    {od11 an11 : Option Addr} {sl11 : Array (Option Value)} {oc11 kV11 dc11 pm11 cd11 ct11 : Value}
    {od12 an12 : Option Addr} {sl12 : Array (Option Value)} {oc12 kV12 dc12 pm12 cd12 ct12 : Value}
    {od13 an13 : Option Addr} {sl13 : Array (Option Value)} {oc13 kV13 dc13 pm13 cd13 ct13 : Value}
    {od14 an14 : Option Addr} {sl14 : Array (Option Value)} {oc14 kV14 dc14 pm14 cd14 ct14 : Value}
    {od15 an15 : Option Addr} {sl15 : Array (Option Value)} {oc15 kV15 dc15 pm15 cd15 ct15 : Value}
    {od16 an16 : Option Addr} {sl16 : Array (Option Value)} {oc16 kV16 dc16 pm16 cd16 ct16 : Value}
    {od17 an17 : Option Addr} {sl17 : Array (Option Value)} {oc17 kV17 dc17 pm17 cd17 ct17 : Value}
    {od18 an18 : Option Addr} {sl18 : Array (Option Value)} {oc18 kV18 dc18 pm18 cd18 ct18 : Value}
    {od19 an19 : Option Addr} {sl19 : Array (Option Value)} {oc19 kV19 dc19 pm19 cd19 ct19 : Value}
    {od20 an20 : Option Addr} {sl20 : Array (Option Value)} {oc20 kV20 dc20 pm20 cd20 ct20 : Value}
    {od21 an21 odt21 ode21 : Option Addr} {td21 ed21 : Addr} {nt21 ne21 : Nat} {sl21 slt21 sle21 : Array (Option Value)} {oc21 kV21 dc21 pm21 cd21 ct21 : Value}
    {od22 an22 : Option Addr} {sl22 : Array (Option Value)} {oc22 kV22 dc22 pm22 cd22 ct22 : Value}
    {od23 an23 : Option Addr} {sl23 : Array (Option Value)} {oc23 kV23 dc23 pm23 cd23 ct23 : Value}
    {od24 an24 : Option Addr} {sl24 : Array (Option Value)} {oc24 kV24 dc24 pm24 cd24 ct24 : Value}
    {od25 an25 : Option Addr} {sl25 : Array (Option Value)} {oc25 kV25 dc25 pm25 cd25 ct25 : Value}
    {od26 an26 : Option Addr} {sl26 : Array (Option Value)} {oc26 kV26 dc26 pm26 cd26 ct26 : Value}
    {od27 an27 : Option Addr} {sl27 : Array (Option Value)} {oc27 kV27 dc27 pm27 cd27 ct27 : Value}
    {od28 an28 : Option Addr} {sl28 : Array (Option Value)} {oc28 kV28 dc28 pm28 cd28 ct28 : Value}
    {od29 an29 : Option Addr} {sl29 : Array (Option Value)} {oc29 kV29 dc29 pm29 cd29 ct29 : Value}
    {od30 an30 : Option Addr} {sl30 : Array (Option Value)} {oc30 kV30 dc30 pm30 cd30 ct30 : Value}
    {od31 an31 : Option Addr} {sl31 : Array (Option Value)} {oc31 kV31 dc31 pm31 cd31 ct31 : Value}
    {od32 an32 : Option Addr} {sl32 : Array (Option Value)} {oc32 kV32 dc32 pm32 cd32 ct32 : Value}
    {od33 an33 : Option Addr} {sl33 : Array (Option Value)} {oc33 kV33 dc33 pm33 cd33 ct33 : Value}
    {od34 an34 : Option Addr} {sl34 : Array (Option Value)} {oc34 kV34 dc34 pm34 cd34 ct34 : Value}
    {od35 an35 : Option Addr} {sl35 : Array (Option Value)} {oc35 kV35 dc35 pm35 cd35 ct35 : Value}
    {od36 an36 : Option Addr} {sl36 : Array (Option Value)} {oc36 kV36 dc36 pm36 cd36 ct36 : Value}
    {od37 an37 : Option Addr} {sl37 : Array (Option Value)} {oc37 kV37 dc37 pm37 cd37 ct37 : Value}
    {b_SIDES : Addr} {t_SIDES0 t_SIDES1 t_SIDES2 t_SIDES3 : Tok} {od_SIDES : Option Addr} {n_SIDES : Nat} {sl_SIDES : Array (Option Value)}
    (a0 : PySem.W.nsIn K mainGlobals "_law_mixed" = some (some (.ref f0))) (l0 : K.lookup f0 = some ⟨oc0, od0, .func (PySem.W.fnOf "_law_mixed" "_law_mixed" (defArgs sMixed) (defBody sMixed) (defScope sMixed) .none kV0 dc0 pm0 an0 cd0 ct0), sl0⟩) (c0 : PySem.W.codeIn K cd0 "_law_mixed" = true) (k0 : PySem.W.keepIn K (.ref f0) = true)
    (a1 : PySem.W.nsIn K mainGlobals "_law_rest" = some (some (.ref f1))) (l1 : K.lookup f1 = some ⟨oc1, od1, .func (PySem.W.fnOf "_law_rest" "_law_rest" (defArgs sRest) (defBody sRest) (defScope sRest) .none kV1 dc1 pm1 an1 cd1 ct1), sl1⟩) (c1 : PySem.W.codeIn K cd1 "_law_rest" = true) (k1 : PySem.W.keepIn K (.ref f1) = true)
    (a2 : PySem.W.nsIn K mainGlobals "_law_pool" = some (some (.ref f2))) (l2 : K.lookup f2 = some ⟨oc2, od2, .func (PySem.W.fnOf "_law_pool" "_law_pool" (defArgs sPool) (defBody sPool) (defScope sPool) .none kV2 dc2 pm2 an2 cd2 ct2), sl2⟩) (c2 : PySem.W.codeIn K cd2 "_law_pool" = true) (k2 : PySem.W.keepIn K (.ref f2) = true)
    (a3 : PySem.W.nsIn K mainGlobals "_law_next" = some (some (.ref f3))) (l3 : K.lookup f3 = some ⟨oc3, od3, .func (PySem.W.fnOf "_law_next" "_law_next" (defArgs sNext) (defBody sNext) (defScope sNext) .none kV3 dc3 pm3 an3 cd3 ct3), sl3⟩) (c3 : PySem.W.codeIn K cd3 "_law_next" = true) (k3 : PySem.W.keepIn K (.ref f3) = true)
    (a4 : PySem.W.nsIn K mainGlobals "_law_draw" = some (some (.ref f4))) (l4 : K.lookup f4 = some ⟨oc4, od4, .func (PySem.W.fnOf "_law_draw" "_law_draw" (defArgs sDraw) (defBody sDraw) (defScope sDraw) .none kV4 dc4 pm4 an4 cd4 ct4), sl4⟩) (c4 : PySem.W.codeIn K cd4 "_law_draw" = true) (k4 : PySem.W.keepIn K (.ref f4) = true)
    (a5 : PySem.W.nsIn K mainGlobals "overlap" = some (some (.ref f5))) (l5 : K.lookup f5 = some ⟨oc5, od5, .func (PySem.W.fnOf "overlap" "overlap" (defArgs st_overlap) (defBody st_overlap) (defScope st_overlap) .none kV5 dc5 pm5 an5 cd5 ct5), sl5⟩) (c5 : PySem.W.codeIn K cd5 "overlap" = true) (k5 : PySem.W.keepIn K (.ref f5) = true)
    (a6 : PySem.W.nsIn K mainGlobals "within" = some (some (.ref f6))) (l6 : K.lookup f6 = some ⟨oc6, od6, .func (PySem.W.fnOf "within" "within" (defArgs st_within) (defBody st_within) (defScope st_within) .none kV6 dc6 pm6 an6 cd6 ct6), sl6⟩) (c6 : PySem.W.codeIn K cd6 "within" = true) (k6 : PySem.W.keepIn K (.ref f6) = true)
    (a7 : PySem.W.nsIn K mainGlobals "touch" = some (some (.ref f7))) (l7 : K.lookup f7 = some ⟨oc7, od7, .func (PySem.W.fnOf "touch" "touch" (defArgs st_touch) (defBody st_touch) (defScope st_touch) .none kV7 dc7 pm7 an7 cd7 ct7), sl7⟩) (c7 : PySem.W.codeIn K cd7 "touch" = true) (k7 : PySem.W.keepIn K (.ref f7) = true)
    (a8 : PySem.W.nsIn K mainGlobals "label_box" = some (some (.ref f8))) (l8 : K.lookup f8 = some ⟨oc8, od8, .func (PySem.W.fnOf "label_box" "label_box" (defArgs st_label_box) (defBody st_label_box) (defScope st_label_box) .none kV8 dc8 pm8 an8 cd8 ct8), sl8⟩) (c8 : PySem.W.codeIn K cd8 "label_box" = true) (k8 : PySem.W.keepIn K (.ref f8) = true)
    (a9 : PySem.W.nsIn K mainGlobals "places_for" = some (some (.ref f9))) (l9 : K.lookup f9 = some ⟨oc9, od9, .func (PySem.W.fnOf "places_for" "places_for" (defArgs st_places_for) (defBody st_places_for) (defScope st_places_for) .none kV9 dc9 pm9 an9 cd9 ct9), sl9⟩) (c9 : PySem.W.codeIn K cd9 "places_for" = true) (k9 : PySem.W.keepIn K (.ref f9) = true)
    (a10 : PySem.W.nsIn K mainGlobals "together" = some (some (.ref f10))) (l10 : K.lookup f10 = some ⟨oc10, od10, .func (PySem.W.fnOf "together" "together" (defArgs st_together) (defBody st_together) (defScope st_together) .none kV10 dc10 pm10 an10 cd10 ct10), sl10⟩) (c10 : PySem.W.codeIn K cd10 "together" = true) (k10 : PySem.W.keepIn K (.ref f10) = true)
    (a11 : PySem.W.nsIn K mainGlobals "lots_of" = some (some (.ref f11))) (l11 : K.lookup f11 = some ⟨oc11, od11, .func (PySem.W.fnOf "lots_of" "lots_of" (defArgs st_lots_of) (defBody st_lots_of) (defScope st_lots_of) .none kV11 dc11 pm11 an11 cd11 ct11), sl11⟩) (c11 : PySem.W.codeIn K cd11 "lots_of" = true) (k11 : PySem.W.keepIn K (.ref f11) = true)
    (a12 : PySem.W.nsIn K mainGlobals "names_in" = some (some (.ref f12))) (l12 : K.lookup f12 = some ⟨oc12, od12, .func (PySem.W.fnOf "names_in" "names_in" (defArgs st_names_in) (defBody st_names_in) (defScope st_names_in) .none kV12 dc12 pm12 an12 cd12 ct12), sl12⟩) (c12 : PySem.W.codeIn K cd12 "names_in" = true) (k12 : PySem.W.keepIn K (.ref f12) = true)
    (a13 : PySem.W.nsIn K mainGlobals "places_over" = some (some (.ref f13))) (l13 : K.lookup f13 = some ⟨oc13, od13, .func (PySem.W.fnOf "places_over" "places_over" (defArgs st_places_over) (defBody st_places_over) (defScope st_places_over) .none kV13 dc13 pm13 an13 cd13 ct13), sl13⟩) (c13 : PySem.W.codeIn K cd13 "places_over" = true) (k13 : PySem.W.keepIn K (.ref f13) = true)
    (a14 : PySem.W.nsIn K mainGlobals "all_over" = some (some (.ref f14))) (l14 : K.lookup f14 = some ⟨oc14, od14, .func (PySem.W.fnOf "all_over" "all_over" (defArgs st_all_over) (defBody st_all_over) (defScope st_all_over) .none kV14 dc14 pm14 an14 cd14 ct14), sl14⟩) (c14 : PySem.W.codeIn K cd14 "all_over" = true) (k14 : PySem.W.keepIn K (.ref f14) = true)
    (a15 : PySem.W.nsIn K mainGlobals "clash_at" = some (some (.ref f15))) (l15 : K.lookup f15 = some ⟨oc15, od15, .func (PySem.W.fnOf "clash_at" "clash_at" (defArgs st_clash_at) (defBody st_clash_at) (defScope st_clash_at) .none kV15 dc15 pm15 an15 cd15 ct15), sl15⟩) (c15 : PySem.W.codeIn K cd15 "clash_at" = true) (k15 : PySem.W.keepIn K (.ref f15) = true)
    (a16 : PySem.W.nsIn K mainGlobals "is_free" = some (some (.ref f16))) (l16 : K.lookup f16 = some ⟨oc16, od16, .func (PySem.W.fnOf "is_free" "is_free" (defArgs st_is_free) (defBody st_is_free) (defScope st_is_free) .none kV16 dc16 pm16 an16 cd16 ct16), sl16⟩) (c16 : PySem.W.codeIn K cd16 "is_free" = true) (k16 : PySem.W.keepIn K (.ref f16) = true)
    (a17 : PySem.W.nsIn K mainGlobals "first_over" = some (some (.ref f17))) (l17 : K.lookup f17 = some ⟨oc17, od17, .func (PySem.W.fnOf "first_over" "first_over" (defArgs st_first_over) (defBody st_first_over) (defScope st_first_over) .none kV17 dc17 pm17 an17 cd17 ct17), sl17⟩) (c17 : PySem.W.codeIn K cd17 "first_over" = true) (k17 : PySem.W.keepIn K (.ref f17) = true)
    (a18 : PySem.W.nsIn K mainGlobals "over_leaf" = some (some (.ref f18))) (l18 : K.lookup f18 = some ⟨oc18, od18, .func (PySem.W.fnOf "over_leaf" "over_leaf" (defArgs st_over_leaf) (defBody st_over_leaf) (defScope st_over_leaf) .none kV18 dc18 pm18 an18 cd18 ct18), sl18⟩) (c18 : PySem.W.codeIn K cd18 "over_leaf" = true) (k18 : PySem.W.keepIn K (.ref f18) = true)
    (a19 : PySem.W.nsIn K mainGlobals "tree_over" = some (some (.ref f19))) (l19 : K.lookup f19 = some ⟨oc19, od19, .func (PySem.W.fnOf "tree_over" "tree_over" (defArgs st_tree_over) (defBody st_tree_over) (defScope st_tree_over) .none kV19 dc19 pm19 an19 cd19 ct19), sl19⟩) (c19 : PySem.W.codeIn K cd19 "tree_over" = true) (k19 : PySem.W.keepIn K (.ref f19) = true)
    (a20 : PySem.W.nsIn K mainGlobals "placed_over" = some (some (.ref f20))) (l20 : K.lookup f20 = some ⟨oc20, od20, .func (PySem.W.fnOf "placed_over" "placed_over" (defArgs st_placed_over) (defBody st_placed_over) (defScope st_placed_over) .none kV20 dc20 pm20 an20 cd20 ct20), sl20⟩) (c20 : PySem.W.codeIn K cd20 "placed_over" = true) (k20 : PySem.W.keepIn K (.ref f20) = true)
    (a21 : PySem.W.nsIn K mainGlobals "fault_of_over" = some (some (.ref f21))) (l21 : K.lookup f21 = some ⟨oc21, od21, .func (PySem.W.fnOf "fault_of_over" "fault_of_over" (defArgs st_fault_of_over) (defBody st_fault_of_over) (defScope st_fault_of_over) (.ref td21) kV21 dc21 pm21 an21 cd21 ct21), sl21⟩) (lt21 : K.lookup td21 = some ⟨.type "tuple", odt21, .seq #[.ref ed21] nt21, slt21⟩) (le21 : K.lookup ed21 = some ⟨.type "tuple", ode21, .seq #[] ne21, sle21⟩) (c21 : PySem.W.codeIn K cd21 "fault_of_over" = true) (k21 : PySem.W.keepIn K (.ref f21) = true)
    (a22 : PySem.W.nsIn K mainGlobals "bars" = some (some (.ref f22))) (l22 : K.lookup f22 = some ⟨oc22, od22, .func (PySem.W.fnOf "bars" "bars" (defArgs st_bars) (defBody st_bars) (defScope st_bars) .none kV22 dc22 pm22 an22 cd22 ct22), sl22⟩) (c22 : PySem.W.codeIn K cd22 "bars" = true) (k22 : PySem.W.keepIn K (.ref f22) = true)
    (a23 : PySem.W.nsIn K mainGlobals "most_over" = some (some (.ref f23))) (l23 : K.lookup f23 = some ⟨oc23, od23, .func (PySem.W.fnOf "most_over" "most_over" (defArgs st_most_over) (defBody st_most_over) (defScope st_most_over) .none kV23 dc23 pm23 an23 cd23 ct23), sl23⟩) (c23 : PySem.W.codeIn K cd23 "most_over" = true) (k23 : PySem.W.keepIn K (.ref f23) = true)
    (a24 : PySem.W.nsIn K mainGlobals "greatest_lot" = some (some (.ref f24))) (l24 : K.lookup f24 = some ⟨oc24, od24, .func (PySem.W.fnOf "greatest_lot" "greatest_lot" (defArgs st_greatest_lot) (defBody st_greatest_lot) (defScope st_greatest_lot) .none kV24 dc24 pm24 an24 cd24 ct24), sl24⟩) (c24 : PySem.W.codeIn K cd24 "greatest_lot" = true) (k24 : PySem.W.keepIn K (.ref f24) = true)
    (a25 : PySem.W.nsIn K mainGlobals "_law_boxes" = some (some (.ref f25))) (l25 : K.lookup f25 = some ⟨oc25, od25, .func (PySem.W.fnOf "_law_boxes" "_law_boxes" (defArgs st_law_boxes) (defBody st_law_boxes) (defScope st_law_boxes) .none kV25 dc25 pm25 an25 cd25 ct25), sl25⟩) (c25 : PySem.W.codeIn K cd25 "_law_boxes" = true) (k25 : PySem.W.keepIn K (.ref f25) = true)
    (a26 : PySem.W.nsIn K mainGlobals "_law_squares" = some (some (.ref f26))) (l26 : K.lookup f26 = some ⟨oc26, od26, .func (PySem.W.fnOf "_law_squares" "_law_squares" (defArgs st_law_squares) (defBody st_law_squares) (defScope st_law_squares) .none kV26 dc26 pm26 an26 cd26 ct26), sl26⟩) (c26 : PySem.W.codeIn K cd26 "_law_squares" = true) (k26 : PySem.W.keepIn K (.ref f26) = true)
    (a27 : PySem.W.nsIn K mainGlobals "_law_near" = some (some (.ref f27))) (l27 : K.lookup f27 = some ⟨oc27, od27, .func (PySem.W.fnOf "_law_near" "_law_near" (defArgs st_law_near) (defBody st_law_near) (defScope st_law_near) .none kV27 dc27 pm27 an27 cd27 ct27), sl27⟩) (c27 : PySem.W.codeIn K cd27 "_law_near" = true) (k27 : PySem.W.keepIn K (.ref f27) = true)
    (a28 : PySem.W.nsIn K mainGlobals "_law_holds" = some (some (.ref f28))) (l28 : K.lookup f28 = some ⟨oc28, od28, .func (PySem.W.fnOf "_law_holds" "_law_holds" (defArgs st_law_holds) (defBody st_law_holds) (defScope st_law_holds) .none kV28 dc28 pm28 an28 cd28 ct28), sl28⟩) (c28 : PySem.W.codeIn K cd28 "_law_holds" = true) (k28 : PySem.W.keepIn K (.ref f28) = true)
    (a29 : PySem.W.nsIn K mainGlobals "_law_spots" = some (some (.ref f29))) (l29 : K.lookup f29 = some ⟨oc29, od29, .func (PySem.W.fnOf "_law_spots" "_law_spots" (defArgs st_law_spots) (defBody st_law_spots) (defScope st_law_spots) .none kV29 dc29 pm29 an29 cd29 ct29), sl29⟩) (c29 : PySem.W.codeIn K cd29 "_law_spots" = true) (k29 : PySem.W.keepIn K (.ref f29) = true)
    (a30 : PySem.W.nsIn K mainGlobals "_law_together" = some (some (.ref f30))) (l30 : K.lookup f30 = some ⟨oc30, od30, .func (PySem.W.fnOf "_law_together" "_law_together" (defArgs st_law_together) (defBody st_law_together) (defScope st_law_together) .none kV30 dc30 pm30 an30 cd30 ct30), sl30⟩) (c30 : PySem.W.codeIn K cd30 "_law_together" = true) (k30 : PySem.W.keepIn K (.ref f30) = true)
    (a31 : PySem.W.nsIn K mainGlobals "_law_over" = some (some (.ref f31))) (l31 : K.lookup f31 = some ⟨oc31, od31, .func (PySem.W.fnOf "_law_over" "_law_over" (defArgs st_law_over) (defBody st_law_over) (defScope st_law_over) .none kV31 dc31 pm31 an31 cd31 ct31), sl31⟩) (c31 : PySem.W.codeIn K cd31 "_law_over" = true) (k31 : PySem.W.keepIn K (.ref f31) = true)
    (a32 : PySem.W.nsIn K mainGlobals "_law_clash" = some (some (.ref f32))) (l32 : K.lookup f32 = some ⟨oc32, od32, .func (PySem.W.fnOf "_law_clash" "_law_clash" (defArgs st_law_clash) (defBody st_law_clash) (defScope st_law_clash) .none kV32 dc32 pm32 an32 cd32 ct32), sl32⟩) (c32 : PySem.W.codeIn K cd32 "_law_clash" = true) (k32 : PySem.W.keepIn K (.ref f32) = true)
    (a33 : PySem.W.nsIn K mainGlobals "_law_all_ways" = some (some (.ref f33))) (l33 : K.lookup f33 = some ⟨oc33, od33, .func (PySem.W.fnOf "_law_all_ways" "_law_all_ways" (defArgs st_law_all_ways) (defBody st_law_all_ways) (defScope st_law_all_ways) .none kV33 dc33 pm33 an33 cd33 ct33), sl33⟩) (c33 : PySem.W.codeIn K cd33 "_law_all_ways" = true) (k33 : PySem.W.keepIn K (.ref f33) = true)
    (a34 : PySem.W.nsIn K mainGlobals "_law_fault" = some (some (.ref f34))) (l34 : K.lookup f34 = some ⟨oc34, od34, .func (PySem.W.fnOf "_law_fault" "_law_fault" (defArgs st_law_fault) (defBody st_law_fault) (defScope st_law_fault) .none kV34 dc34 pm34 an34 cd34 ct34), sl34⟩) (c34 : PySem.W.codeIn K cd34 "_law_fault" = true) (k34 : PySem.W.keepIn K (.ref f34) = true)
    (a35 : PySem.W.nsIn K mainGlobals "_law_lots" = some (some (.ref f35))) (l35 : K.lookup f35 = some ⟨oc35, od35, .func (PySem.W.fnOf "_law_lots" "_law_lots" (defArgs st_law_lots) (defBody st_law_lots) (defScope st_law_lots) .none kV35 dc35 pm35 an35 cd35 ct35), sl35⟩) (c35 : PySem.W.codeIn K cd35 "_law_lots" = true) (k35 : PySem.W.keepIn K (.ref f35) = true)
    (a36 : PySem.W.nsIn K mainGlobals "_law_most" = some (some (.ref f36))) (l36 : K.lookup f36 = some ⟨oc36, od36, .func (PySem.W.fnOf "_law_most" "_law_most" (defArgs st_law_most) (defBody st_law_most) (defScope st_law_most) .none kV36 dc36 pm36 an36 cd36 ct36), sl36⟩) (c36 : PySem.W.codeIn K cd36 "_law_most" = true) (k36 : PySem.W.keepIn K (.ref f36) = true)
    (a37 : PySem.W.nsIn K mainGlobals "law" = some (some (.ref f37))) (l37 : K.lookup f37 = some ⟨oc37, od37, .func (PySem.W.fnOf "law" "law" (defArgs st_law) (defBody st_law) (defScope st_law) .none kV37 dc37 pm37 an37 cd37 ct37), sl37⟩) (c37 : PySem.W.codeIn K cd37 "law" = true) (k37 : PySem.W.keepIn K (.ref f37) = true)
    (z_len : PySem.W.nsIn K mainGlobals "len" = some none)
    (z_sorted : PySem.W.nsIn K mainGlobals "sorted" = some none)
    (z_tuple : PySem.W.nsIn K mainGlobals "tuple" = some none)
    (z_list : PySem.W.nsIn K mainGlobals "list" = some none)
    (z_int : PySem.W.nsIn K mainGlobals "int" = some none)
    (z_abs : PySem.W.nsIn K mainGlobals "abs" = some none)
    (z_str : PySem.W.nsIn K mainGlobals "str" = some none)
    (z_bool : PySem.W.nsIn K mainGlobals "bool" = some none)
    (z_any : PySem.W.nsIn K mainGlobals "any" = some none)
    (z_all : PySem.W.nsIn K mainGlobals "all" = some none)
    (z_sum : PySem.W.nsIn K mainGlobals "sum" = some none)
    (z_min : PySem.W.nsIn K mainGlobals "min" = some none)
    (z_max : PySem.W.nsIn K mainGlobals "max" = some none)
    (z_dict : PySem.W.nsIn K mainGlobals "dict" = some none)
    (z_isinstance : PySem.W.nsIn K mainGlobals "isinstance" = some none)
    (z_range : PySem.W.nsIn K mainGlobals "range" = some none)
    (z_enumerate : PySem.W.nsIn K mainGlobals "enumerate" = some none)
    (z_zip : PySem.W.nsIn K mainGlobals "zip" = some none)
    (a_SIDES : PySem.W.nsIn K mainGlobals "SIDES" = some (some (.ref b_SIDES))) (l_SIDES : K.lookup b_SIDES = some ⟨.type "tuple", od_SIDES, .seq #[.str "east" t_SIDES0, .str "north" t_SIDES1, .str "west" t_SIDES2, .str "south" t_SIDES3] n_SIDES, sl_SIDES⟩) :
    ∃ fd : FuncData, (∀ (s : Shared) (v : Value), BindsTo s fd ⟨[v], []⟩ [("script", v)]) ∧ ∀ base : Heap, K.In base → base.Ns mainGlobals mg → FnOk l.prog w K mg base CX0 30 fa fd ["script"] (spLaw K) := by
  have e := hfa.symm.trans (PySem.W.mg_of X G a37)
  cases e
  have F0 := fun_mk (st := sMixed) l0 c0 k0
  have B0 := F0.binds (ps := ["number", "place"]) fun _ _ _ _ _ _ us hl => match us, hl with | [_, _], _ => rfl
  have F1 := fun_mk (st := sRest) l1 c1 k1
  have B1 := F1.binds (ps := ["script", "place", "fills"]) fun _ _ _ _ _ _ us hl => match us, hl with | [_, _, _], _ => rfl
  have F2 := fun_mk (st := sPool) l2 c2 k2
  have B2 := F2.binds (ps := ["script"]) fun _ _ _ _ _ _ us hl => match us, hl with | [_], _ => rfl
  have F3 := fun_mk (st := sNext) l3 c3 k3
  have B3 := F3.binds (ps := ["pool"]) fun _ _ _ _ _ _ us hl => match us, hl with | [_], _ => rfl
  have F4 := fun_mk (st := sDraw) l4 c4 k4
  have B4 := F4.binds (ps := ["pool", "limit"]) fun _ _ _ _ _ _ us hl => match us, hl with | [_, _], _ => rfl
  have F5 := fun_mk (st := st_overlap) l5 c5 k5
  have B5 := F5.binds (ps := ["one", "other"]) fun _ _ _ _ _ _ us hl => match us, hl with | [_, _], _ => rfl
  have F6 := fun_mk (st := st_within) l6 c6 k6
  have B6 := F6.binds (ps := ["one", "other"]) fun _ _ _ _ _ _ us hl => match us, hl with | [_, _], _ => rfl
  have F7 := fun_mk (st := st_touch) l7 c7 k7
  have B7 := F7.binds (ps := ["one", "other"]) fun _ _ _ _ _ _ us hl => match us, hl with | [_, _], _ => rfl
  have F8 := fun_mk (st := st_label_box) l8 c8 k8
  have B8 := F8.binds (ps := ["box", "side", "size"]) fun _ _ _ _ _ _ us hl => match us, hl with | [_, _, _], _ => rfl
  have F9 := fun_mk (st := st_places_for) l9 c9 k9
  have B9 := F9.binds (ps := ["name", "boxes", "window"]) fun _ _ _ _ _ _ us hl => match us, hl with | [_, _, _], _ => rfl
  have F10 := fun_mk (st := st_together) l10 c10 k10
  have B10 := F10.binds (ps := ["one", "other"]) fun _ _ _ _ _ _ us hl => match us, hl with | [_, _], _ => rfl
  have F11 := fun_mk (st := st_lots_of) l11 c11 k11
  have B11 := F11.binds (ps := ["names", "size"]) fun _ _ _ _ _ _ us hl => match us, hl with | [_, _], _ => rfl
  have F12 := fun_mk (st := st_names_in) l12 c12 k12
  have B12 := F12.binds (ps := ["boxes"]) fun _ _ _ _ _ _ us hl => match us, hl with | [_], _ => rfl
  have F13 := fun_mk (st := st_places_over) l13 c13 k13
  have B13 := F13.binds (ps := ["boxes", "windows", "name"]) fun _ _ _ _ _ _ us hl => match us, hl with | [_, _, _], _ => rfl
  have F14 := fun_mk (st := st_all_over) l14 c14 k14
  have B14 := F14.binds (ps := ["boxes", "windows"]) fun _ _ _ _ _ _ us hl => match us, hl with | [_, _], _ => rfl
  have F15 := fun_mk (st := st_clash_at) l15 c15 k15
  have B15 := F15.binds (ps := ["one", "other"]) fun _ _ _ _ _ _ us hl => match us, hl with | [_, _], _ => rfl
  have F16 := fun_mk (st := st_is_free) l16 c16 k16
  have B16 := F16.binds (ps := ["places", "taken", "name", "number"]) fun _ _ _ _ _ _ us hl => match us, hl with | [_, _, _, _], _ => rfl
  have F17 := fun_mk (st := st_first_over) l17 c17 k17
  have B17 := F17.binds (ps := ["places", "names", "taken"]) fun _ _ _ _ _ _ us hl => match us, hl with | [_, _, _], _ => rfl
  have F18 := fun_mk (st := st_over_leaf) l18 c18 k18
  have B18 := F18.binds (ps := ["places", "taken", "name", "number"]) fun _ _ _ _ _ _ us hl => match us, hl with | [_, _, _, _], _ => rfl
  have F19 := fun_mk (st := st_tree_over) l19 c19 k19
  have B19 := F19.binds (ps := ["places", "names", "taken"]) fun _ _ _ _ _ _ us hl => match us, hl with | [_, _, _], _ => rfl
  have F20 := fun_mk (st := st_placed_over) l20 c20 k20
  have B20 := F20.binds (ps := ["places", "names"]) fun _ _ _ _ _ _ us hl => match us, hl with | [_, _], _ => rfl
  have F21 : FunD K (Str.ofString "fault_of_over") (Str.ofString "fault_of_over") (defArgs st_fault_of_over) (defBody st_fault_of_over) (defScope st_fault_of_over) [.ref ed21] [] f21 _ := ⟨⟨oc21, od21, .ref td21, kV21, dc21, pm21, an21, cd21, ct21, sl21, rfl, l21, c21, .inr ⟨by simp, td21, _, [.ref ed21], nt21, rfl, lt21, rfl, .cons rfl .nil⟩, .inl rfl⟩, k21⟩
  have F22 := fun_mk (st := st_bars) l22 c22 k22
  have B22 := F22.binds (ps := ["one", "other", "scale"]) fun _ _ _ _ _ _ us hl => match us, hl with | [_, _, _], _ => rfl
  have F23 := fun_mk (st := st_most_over) l23 c23 k23
  have B23 := F23.binds (ps := ["places", "ranks"]) fun _ _ _ _ _ _ us hl => match us, hl with | [_, _], _ => rfl
  have F24 := fun_mk (st := st_greatest_lot) l24 c24 k24
  have B24 := F24.binds (ps := ["places", "kept", "names"]) fun _ _ _ _ _ _ us hl => match us, hl with | [_, _, _], _ => rfl
  have F25 := fun_mk (st := st_law_boxes) l25 c25 k25
  have B25 := F25.binds (ps := ["pool", "many"]) fun _ _ _ _ _ _ us hl => match us, hl with | [_, _], _ => rfl
  have F26 := fun_mk (st := st_law_squares) l26 c26 k26
  have B26 := F26.binds (ps := ["box"]) fun _ _ _ _ _ _ us hl => match us, hl with | [_], _ => rfl
  have F27 := fun_mk (st := st_law_near) l27 c27 k27
  have B27 := F27.binds (ps := ["box"]) fun _ _ _ _ _ _ us hl => match us, hl with | [_], _ => rfl
  have F28 := fun_mk (st := st_law_holds) l28 c28 k28
  have B28 := F28.binds (ps := ["one", "other"]) fun _ _ _ _ _ _ us hl => match us, hl with | [_, _], _ => rfl
  have F29 := fun_mk (st := st_law_spots) l29 c29 k29
  have B29 := F29.binds (ps := ["boxes", "window", "name"]) fun _ _ _ _ _ _ us hl => match us, hl with | [_, _, _], _ => rfl
  have F30 := fun_mk (st := st_law_together) l30 c30 k30
  have B30 := F30.binds (ps := ["one", "other"]) fun _ _ _ _ _ _ us hl => match us, hl with | [_, _], _ => rfl
  have F31 := fun_mk (st := st_law_over) l31 c31 k31
  have B31 := F31.binds (ps := ["boxes", "windows", "name"]) fun _ _ _ _ _ _ us hl => match us, hl with | [_, _, _], _ => rfl
  have F32 := fun_mk (st := st_law_clash) l32 c32 k32
  have B32 := F32.binds (ps := ["one", "other"]) fun _ _ _ _ _ _ us hl => match us, hl with | [_, _], _ => rfl
  have F33 := fun_mk (st := st_law_all_ways) l33 c33 k33
  have B33 := F33.binds (ps := ["places", "names"]) fun _ _ _ _ _ _ us hl => match us, hl with | [_, _], _ => rfl
  have F34 := fun_mk (st := st_law_fault) l34 c34 k34
  have B34 := F34.binds (ps := ["places", "names", "tree", "taken"]) fun _ _ _ _ _ _ us hl => match us, hl with | [_, _, _, _], _ => rfl
  have F35 := fun_mk (st := st_law_lots) l35 c35 k35
  have B35 := F35.binds (ps := ["names", "size"]) fun _ _ _ _ _ _ us hl => match us, hl with | [_, _], _ => rfl
  have F36 := fun_mk (st := st_law_most) l36 c36 k36
  have B36 := F36.binds (ps := ["places", "ranks"]) fun _ _ _ _ _ _ us hl => match us, hl with | [_, _], _ => rfl
  have F37 := fun_mk (st := st_law) l37 c37 k37
  have B37 := F37.binds (ps := ["script"]) fun _ _ _ _ _ _ us hl => match us, hl with | [_], _ => rfl
  have mi := PySem.W.mg_none_of X G z_int
  have ml := PySem.W.mg_none_of X G z_len
  refine ⟨PySem.W.fnOf "law" "law" (defArgs st_law) (defBody st_law) (defScope st_law) .none kV37 dc37 pm37 an37 cd37 ct37, fun s v => .of_eq rfl, fun base _ _ => ?_⟩
  have GR : FnOk l.prog w K mg base CX0 2 f1 _ ["script", "place", "fills"] (spRest K) := ok_rest (k := 0) F1 F0 B0 (PySem.W.mg_of X G a0) mi ml
  have gR := PySem.W.mg_of X G a1
  have GP : FnOk l.prog w K mg base CX0 3 f2 _ ["script"] (spPool K) := ok_pool (k := 0) F2 F1 GR B1 gR
  have M : ModOk l.prog w K mg base defs_k78 dfl_k78 consts_k78 := by
    refine ⟨fun x hx => ?_, fun x d hd => ?_, fun f fd hf => ?_, primOk_of F3 (ok_next (k := 0) F3 F1 GR B1 gR) B3 (PySem.W.mg_of X G a3) (fun _ => by first | rfl | simp [dfl_k78]), primOk_of F4 (ok_draw (k := 0) F4 F1 GR B1 gR mi) B4 (PySem.W.mg_of X G a4) (fun _ => by first | rfl | simp [dfl_k78])⟩
    · simp only [bnames, List.mem_cons, List.not_mem_nil, or_false] at hx
      rcases hx with rfl | rfl | rfl | rfl | rfl | rfl | rfl | rfl | rfl | rfl | rfl | rfl | rfl | rfl | rfl | rfl | rfl | rfl
      · exact PySem.W.mg_none_of X G z_len
      · exact PySem.W.mg_none_of X G z_sorted
      · exact PySem.W.mg_none_of X G z_tuple
      · exact PySem.W.mg_none_of X G z_list
      · exact PySem.W.mg_none_of X G z_int
      · exact PySem.W.mg_none_of X G z_abs
      · exact PySem.W.mg_none_of X G z_str
      · exact PySem.W.mg_none_of X G z_bool
      · exact PySem.W.mg_none_of X G z_any
      · exact PySem.W.mg_none_of X G z_all
      · exact PySem.W.mg_none_of X G z_sum
      · exact PySem.W.mg_none_of X G z_min
      · exact PySem.W.mg_none_of X G z_max
      · exact PySem.W.mg_none_of X G z_dict
      · exact PySem.W.mg_none_of X G z_isinstance
      · exact PySem.W.mg_none_of X G z_range
      · exact PySem.W.mg_none_of X G z_enumerate
      · exact PySem.W.mg_none_of X G z_zip
    · unfold consts_k78 at hd
      by_cases e : x = "SIDES"
      · rw [if_pos e] at hd
        subst e
        obtain rfl := Option.some.inj hd
        refine ⟨_, .ref b_SIDES, PySem.W.mg_of X G a_SIDES, rfl, fun ap F => .ctup (vs := [.str "east", .str "north", .str "west", .str "south"]) (.inr ⟨_, _, _, l_SIDES, rfl, rfl, (show 4 ≤ sizeLine by decide), .cons ⟨t_SIDES0, rfl⟩ (.cons ⟨t_SIDES1, rfl⟩ (.cons ⟨t_SIDES2, rfl⟩ (.cons ⟨t_SIDES3, rfl⟩ (.nil))))⟩) (fun z => by cases z) (.cons (.str [101, 97, 115, 116]) (.cons (.str [110, 111, 114, 116, 104]) (.cons (.str [119, 101, 115, 116]) (.cons (.str [115, 111, 117, 116, 104]) (.nil)))))⟩
      rw [if_neg e] at hd; clear e
      cases hd
    · unfold defs_k78 at hf
      by_cases e : f = "overlap"
      · rw [if_pos e] at hf
        subst e
        obtain rfl := Option.some.inj hf
        exact defOk_of (N := n_overlap) F5 sc_overlap B5 (PySem.W.mg_of X G a5) rfl rfl ck_overlap (fun _ => by first | rfl | simp [dfl_k78])
      rw [if_neg e] at hf; clear e
      by_cases e : f = "within"
      · rw [if_pos e] at hf
        subst e
        obtain rfl := Option.some.inj hf
        exact defOk_of (N := n_within) F6 sc_within B6 (PySem.W.mg_of X G a6) rfl rfl ck_within (fun _ => by first | rfl | simp [dfl_k78])
      rw [if_neg e] at hf; clear e
      by_cases e : f = "touch"
      · rw [if_pos e] at hf
        subst e
        obtain rfl := Option.some.inj hf
        exact defOk_of (N := n_touch) F7 sc_touch B7 (PySem.W.mg_of X G a7) rfl rfl ck_touch (fun _ => by first | rfl | simp [dfl_k78])
      rw [if_neg e] at hf; clear e
      by_cases e : f = "label_box"
      · rw [if_pos e] at hf
        subst e
        obtain rfl := Option.some.inj hf
        exact defOk_of (N := n_label_box) F8 sc_label_box B8 (PySem.W.mg_of X G a8) rfl rfl ck_label_box (fun _ => by first | rfl | simp [dfl_k78])
      rw [if_neg e] at hf; clear e
      by_cases e : f = "places_for"
      · rw [if_pos e] at hf
        subst e
        obtain rfl := Option.some.inj hf
        exact defOk_of (N := n_places_for) F9 sc_places_for B9 (PySem.W.mg_of X G a9) rfl rfl ck_places_for (fun _ => by first | rfl | simp [dfl_k78])
      rw [if_neg e] at hf; clear e
      by_cases e : f = "together"
      · rw [if_pos e] at hf
        subst e
        obtain rfl := Option.some.inj hf
        exact defOk_of (N := n_together) F10 sc_together B10 (PySem.W.mg_of X G a10) rfl rfl ck_together (fun _ => by first | rfl | simp [dfl_k78])
      rw [if_neg e] at hf; clear e
      by_cases e : f = "lots_of"
      · rw [if_pos e] at hf
        subst e
        obtain rfl := Option.some.inj hf
        exact defOk_of (N := n_lots_of) F11 sc_lots_of B11 (PySem.W.mg_of X G a11) rfl rfl ck_lots_of (fun _ => by first | rfl | simp [dfl_k78])
      rw [if_neg e] at hf; clear e
      by_cases e : f = "names_in"
      · rw [if_pos e] at hf
        subst e
        obtain rfl := Option.some.inj hf
        exact defOk_of (N := n_names_in) F12 sc_names_in B12 (PySem.W.mg_of X G a12) rfl rfl ck_names_in (fun _ => by first | rfl | simp [dfl_k78])
      rw [if_neg e] at hf; clear e
      by_cases e : f = "places_over"
      · rw [if_pos e] at hf
        subst e
        obtain rfl := Option.some.inj hf
        exact defOk_of (N := n_places_over) F13 sc_places_over B13 (PySem.W.mg_of X G a13) rfl rfl ck_places_over (fun _ => by first | rfl | simp [dfl_k78])
      rw [if_neg e] at hf; clear e
      by_cases e : f = "all_over"
      · rw [if_pos e] at hf
        subst e
        obtain rfl := Option.some.inj hf
        exact defOk_of (N := n_all_over) F14 sc_all_over B14 (PySem.W.mg_of X G a14) rfl rfl ck_all_over (fun _ => by first | rfl | simp [dfl_k78])
      rw [if_neg e] at hf; clear e
      by_cases e : f = "clash_at"
      · rw [if_pos e] at hf
        subst e
        obtain rfl := Option.some.inj hf
        exact defOk_of (N := n_clash_at) F15 sc_clash_at B15 (PySem.W.mg_of X G a15) rfl rfl ck_clash_at (fun _ => by first | rfl | simp [dfl_k78])
      rw [if_neg e] at hf; clear e
      by_cases e : f = "is_free"
      · rw [if_pos e] at hf
        subst e
        obtain rfl := Option.some.inj hf
        exact defOk_of (N := n_is_free) F16 sc_is_free B16 (PySem.W.mg_of X G a16) rfl rfl ck_is_free (fun _ => by first | rfl | simp [dfl_k78])
      rw [if_neg e] at hf; clear e
      by_cases e : f = "first_over"
      · rw [if_pos e] at hf
        subst e
        obtain rfl := Option.some.inj hf
        exact defOk_of (N := n_first_over) F17 sc_first_over B17 (PySem.W.mg_of X G a17) rfl rfl ck_first_over (fun _ => by first | rfl | simp [dfl_k78])
      rw [if_neg e] at hf; clear e
      by_cases e : f = "over_leaf"
      · rw [if_pos e] at hf
        subst e
        obtain rfl := Option.some.inj hf
        exact defOk_of (N := n_over_leaf) F18 sc_over_leaf B18 (PySem.W.mg_of X G a18) rfl rfl ck_over_leaf (fun _ => by first | rfl | simp [dfl_k78])
      rw [if_neg e] at hf; clear e
      by_cases e : f = "tree_over"
      · rw [if_pos e] at hf
        subst e
        obtain rfl := Option.some.inj hf
        exact defOk_of (N := n_tree_over) F19 sc_tree_over B19 (PySem.W.mg_of X G a19) rfl rfl ck_tree_over (fun _ => by first | rfl | simp [dfl_k78])
      rw [if_neg e] at hf; clear e
      by_cases e : f = "placed_over"
      · rw [if_pos e] at hf
        subst e
        obtain rfl := Option.some.inj hf
        exact defOk_of (N := n_placed_over) F20 sc_placed_over B20 (PySem.W.mg_of X G a20) rfl rfl ck_placed_over (fun _ => by first | rfl | simp [dfl_k78])
      rw [if_neg e] at hf; clear e
      by_cases e : f = "fault_of_over"
      · rw [if_pos e] at hf
        subst e
        obtain rfl := Option.some.inj hf
        exact defOk_ofD (N := n_fault_of_over) (ps := ["places", "names", "told", "taken"]) F21 sc_fault_of_over (PySem.W.mg_of X G a21) le21 rfl rfl rfl rfl ck_fault_of_over rfl (fun j h => by simp only [dfl_k78]; rw [if_neg (by simp [h])]) (n := 3) rfl (fun T kV doc pm an cdv ct us its h1 h2 => match us, its, h1, h2 with | [_, _, _, _], [_], _, _ => ⟨_, rfl, rfl⟩) (fun T kV doc pm an cdv ct us its h1 h2 => match us, its, h1, h2 with | [_, _, _], [_], _, _ => ⟨_, rfl, rfl⟩)
      rw [if_neg e] at hf; clear e
      by_cases e : f = "bars"
      · rw [if_pos e] at hf
        subst e
        obtain rfl := Option.some.inj hf
        exact defOk_of (N := n_bars) F22 sc_bars B22 (PySem.W.mg_of X G a22) rfl rfl ck_bars (fun _ => by first | rfl | simp [dfl_k78])
      rw [if_neg e] at hf; clear e
      by_cases e : f = "most_over"
      · rw [if_pos e] at hf
        subst e
        obtain rfl := Option.some.inj hf
        exact defOk_of (N := n_most_over) F23 sc_most_over B23 (PySem.W.mg_of X G a23) rfl rfl ck_most_over (fun _ => by first | rfl | simp [dfl_k78])
      rw [if_neg e] at hf; clear e
      by_cases e : f = "greatest_lot"
      · rw [if_pos e] at hf
        subst e
        obtain rfl := Option.some.inj hf
        exact defOk_of (N := n_greatest_lot) F24 sc_greatest_lot B24 (PySem.W.mg_of X G a24) rfl rfl ck_greatest_lot (fun _ => by first | rfl | simp [dfl_k78])
      rw [if_neg e] at hf; clear e
      by_cases e : f = "_law_boxes"
      · rw [if_pos e] at hf
        subst e
        obtain rfl := Option.some.inj hf
        exact defOk_of (N := n_law_boxes) F25 sc_law_boxes B25 (PySem.W.mg_of X G a25) rfl rfl ck_law_boxes (fun _ => by first | rfl | simp [dfl_k78])
      rw [if_neg e] at hf; clear e
      by_cases e : f = "_law_squares"
      · rw [if_pos e] at hf
        subst e
        obtain rfl := Option.some.inj hf
        exact defOk_of (N := n_law_squares) F26 sc_law_squares B26 (PySem.W.mg_of X G a26) rfl rfl ck_law_squares (fun _ => by first | rfl | simp [dfl_k78])
      rw [if_neg e] at hf; clear e
      by_cases e : f = "_law_near"
      · rw [if_pos e] at hf
        subst e
        obtain rfl := Option.some.inj hf
        exact defOk_of (N := n_law_near) F27 sc_law_near B27 (PySem.W.mg_of X G a27) rfl rfl ck_law_near (fun _ => by first | rfl | simp [dfl_k78])
      rw [if_neg e] at hf; clear e
      by_cases e : f = "_law_holds"
      · rw [if_pos e] at hf
        subst e
        obtain rfl := Option.some.inj hf
        exact defOk_of (N := n_law_holds) F28 sc_law_holds B28 (PySem.W.mg_of X G a28) rfl rfl ck_law_holds (fun _ => by first | rfl | simp [dfl_k78])
      rw [if_neg e] at hf; clear e
      by_cases e : f = "_law_spots"
      · rw [if_pos e] at hf
        subst e
        obtain rfl := Option.some.inj hf
        exact defOk_of (N := n_law_spots) F29 sc_law_spots B29 (PySem.W.mg_of X G a29) rfl rfl ck_law_spots (fun _ => by first | rfl | simp [dfl_k78])
      rw [if_neg e] at hf; clear e
      by_cases e : f = "_law_together"
      · rw [if_pos e] at hf
        subst e
        obtain rfl := Option.some.inj hf
        exact defOk_of (N := n_law_together) F30 sc_law_together B30 (PySem.W.mg_of X G a30) rfl rfl ck_law_together (fun _ => by first | rfl | simp [dfl_k78])
      rw [if_neg e] at hf; clear e
      by_cases e : f = "_law_over"
      · rw [if_pos e] at hf
        subst e
        obtain rfl := Option.some.inj hf
        exact defOk_of (N := n_law_over) F31 sc_law_over B31 (PySem.W.mg_of X G a31) rfl rfl ck_law_over (fun _ => by first | rfl | simp [dfl_k78])
      rw [if_neg e] at hf; clear e
      by_cases e : f = "_law_clash"
      · rw [if_pos e] at hf
        subst e
        obtain rfl := Option.some.inj hf
        exact defOk_of (N := n_law_clash) F32 sc_law_clash B32 (PySem.W.mg_of X G a32) rfl rfl ck_law_clash (fun _ => by first | rfl | simp [dfl_k78])
      rw [if_neg e] at hf; clear e
      by_cases e : f = "_law_all_ways"
      · rw [if_pos e] at hf
        subst e
        obtain rfl := Option.some.inj hf
        exact defOk_of (N := n_law_all_ways) F33 sc_law_all_ways B33 (PySem.W.mg_of X G a33) rfl rfl ck_law_all_ways (fun _ => by first | rfl | simp [dfl_k78])
      rw [if_neg e] at hf; clear e
      by_cases e : f = "_law_fault"
      · rw [if_pos e] at hf
        subst e
        obtain rfl := Option.some.inj hf
        exact defOk_of (N := n_law_fault) F34 sc_law_fault B34 (PySem.W.mg_of X G a34) rfl rfl ck_law_fault (fun _ => by first | rfl | simp [dfl_k78])
      rw [if_neg e] at hf; clear e
      by_cases e : f = "_law_lots"
      · rw [if_pos e] at hf
        subst e
        obtain rfl := Option.some.inj hf
        exact defOk_of (N := n_law_lots) F35 sc_law_lots B35 (PySem.W.mg_of X G a35) rfl rfl ck_law_lots (fun _ => by first | rfl | simp [dfl_k78])
      rw [if_neg e] at hf; clear e
      by_cases e : f = "_law_most"
      · rw [if_pos e] at hf
        subst e
        obtain rfl := Option.some.inj hf
        exact defOk_of (N := n_law_most) F36 sc_law_most B36 (PySem.W.mg_of X G a36) rfl rfl ck_law_most (fun _ => by first | rfl | simp [dfl_k78])
      rw [if_neg e] at hf; clear e
      cases hf
  exact law_ok M (k := 29) (by decide) F37 sc_law rfl rfl rfl (by decide +kernel) (by decide +kernel) (by decide +kernel) GP (PySem.W.mg_of X G a2) F2.kp B2 ck_law pure_law
end MW
open PySem PySem.W PyProof.Rows in
set_option maxRecDepth 100000 in
set_option maxHeartbeats 0 in
theorem PySem.Challenge.cw_mapwise_k78_whole_names_over_scales_holds : PySem.Challenge.rw_mapwise_k78_whole_names_over_scales.Holds := by
  w_on; o_law; k_head; (case hw => w_witness2)
  k_fill
  refine MW.walk_end (l := PySem.Challenge.rw_mapwise_k78_whole_names_over_scales) (k := 30) rfl rfl ⟨rfl, by decide, by decide⟩ (fun w h Y => PySem.W.kIn_of Y) ?F
  case F =>
    intro w mg fa h KX G hmg
    refine' MW.all_mk KX G hmg ?a0 ?l0 ?c0 ?k0 ?a1 ?l1 ?c1 ?k1 ?a2 ?l2 ?c2 ?k2 ?a3 ?l3 ?c3 ?k3 ?a4 ?l4 ?c4 ?k4 ?a5 ?l5 ?c5 ?k5 ?a6 ?l6 ?c6 ?k6 ?a7 ?l7 ?c7 ?k7 ?a8 ?l8 ?c8 ?k8 ?a9 ?l9 ?c9 ?k9 ?a10 ?l10 ?c10 ?k10 ?a11 ?l11 ?c11 ?k11 ?a12 ?l12 ?c12 ?k12 ?a13 ?l13 ?c13 ?k13 ?a14 ?l14 ?c14 ?k14 ?a15 ?l15 ?c15 ?k15 ?a16 ?l16 ?c16 ?k16 ?a17 ?l17 ?c17 ?k17 ?a18 ?l18 ?c18 ?k18 ?a19 ?l19 ?c19 ?k19 ?a20 ?l20 ?c20 ?k20 ?a21 ?l21 ?lt21 ?le21 ?c21 ?k21 ?a22 ?l22 ?c22 ?k22 ?a23 ?l23 ?c23 ?k23 ?a24 ?l24 ?c24 ?k24 ?a25 ?l25 ?c25 ?k25 ?a26 ?l26 ?c26 ?k26 ?a27 ?l27 ?c27 ?k27 ?a28 ?l28 ?c28 ?k28 ?a29 ?l29 ?c29 ?k29 ?a30 ?l30 ?c30 ?k30 ?a31 ?l31 ?c31 ?k31 ?a32 ?l32 ?c32 ?k32 ?a33 ?l33 ?c33 ?k33 ?a34 ?l34 ?c34 ?k34 ?a35 ?l35 ?c35 ?k35 ?a36 ?l36 ?c36 ?k36 ?a37 ?l37 ?c37 ?k37 ?z_len ?z_sorted ?z_tuple ?z_list ?z_int ?z_abs ?z_str ?z_bool ?z_any ?z_all ?z_sum ?z_min ?z_max ?z_dict ?z_isinstance ?z_range ?z_enumerate ?z_zip ?a_SIDES ?l_SIDES
    (case a0 => k_is)
    (case l0 => k_is)
    (case c0 => k_is)
    (case k0 => k_is)
    (case a1 => k_is)
    (case l1 => k_is)
    (case c1 => k_is)
    (case k1 => k_is)
    (case a2 => k_is)
    (case l2 => k_is)
    (case c2 => k_is)
    (case k2 => k_is)
    (case a3 => k_is)
    (case l3 => k_is)
    (case c3 => k_is)
    (case k3 => k_is)
    (case a4 => k_is)
    (case l4 => k_is)
    (case c4 => k_is)
    (case k4 => k_is)
    (case a5 => k_is)
    (case l5 => k_is)
    (case c5 => k_is)
    (case k5 => k_is)
    (case a6 => k_is)
    (case l6 => k_is)
    (case c6 => k_is)
    (case k6 => k_is)
    (case a7 => k_is)
    (case l7 => k_is)
    (case c7 => k_is)
    (case k7 => k_is)
    (case a8 => k_is)
    (case l8 => k_is)
    (case c8 => k_is)
    (case k8 => k_is)
    (case a9 => k_is)
    (case l9 => k_is)
    (case c9 => k_is)
    (case k9 => k_is)
    (case a10 => k_is)
    (case l10 => k_is)
    (case c10 => k_is)
    (case k10 => k_is)
    (case a11 => k_is)
    (case l11 => k_is)
    (case c11 => k_is)
    (case k11 => k_is)
    (case a12 => k_is)
    (case l12 => k_is)
    (case c12 => k_is)
    (case k12 => k_is)
    (case a13 => k_is)
    (case l13 => k_is)
    (case c13 => k_is)
    (case k13 => k_is)
    (case a14 => k_is)
    (case l14 => k_is)
    (case c14 => k_is)
    (case k14 => k_is)
    (case a15 => k_is)
    (case l15 => k_is)
    (case c15 => k_is)
    (case k15 => k_is)
    (case a16 => k_is)
    (case l16 => k_is)
    (case c16 => k_is)
    (case k16 => k_is)
    (case a17 => k_is)
    (case l17 => k_is)
    (case c17 => k_is)
    (case k17 => k_is)
    (case a18 => k_is)
    (case l18 => k_is)
    (case c18 => k_is)
    (case k18 => k_is)
    (case a19 => k_is)
    (case l19 => k_is)
    (case c19 => k_is)
    (case k19 => k_is)
    (case a20 => k_is)
    (case l20 => k_is)
    (case c20 => k_is)
    (case k20 => k_is)
    (case a21 => k_is)
    (case l21 => k_is)
    (case lt21 => k_is)
    (case le21 => k_is)
    (case c21 => k_is)
    (case k21 => k_is)
    (case a22 => k_is)
    (case l22 => k_is)
    (case c22 => k_is)
    (case k22 => k_is)
    (case a23 => k_is)
    (case l23 => k_is)
    (case c23 => k_is)
    (case k23 => k_is)
    (case a24 => k_is)
    (case l24 => k_is)
    (case c24 => k_is)
    (case k24 => k_is)
    (case a25 => k_is)
    (case l25 => k_is)
    (case c25 => k_is)
    (case k25 => k_is)
    (case a26 => k_is)
    (case l26 => k_is)
    (case c26 => k_is)
    (case k26 => k_is)
    (case a27 => k_is)
    (case l27 => k_is)
    (case c27 => k_is)
    (case k27 => k_is)
    (case a28 => k_is)
    (case l28 => k_is)
    (case c28 => k_is)
    (case k28 => k_is)
    (case a29 => k_is)
    (case l29 => k_is)
    (case c29 => k_is)
    (case k29 => k_is)
    (case a30 => k_is)
    (case l30 => k_is)
    (case c30 => k_is)
    (case k30 => k_is)
    (case a31 => k_is)
    (case l31 => k_is)
    (case c31 => k_is)
    (case k31 => k_is)
    (case a32 => k_is)
    (case l32 => k_is)
    (case c32 => k_is)
    (case k32 => k_is)
    (case a33 => k_is)
    (case l33 => k_is)
    (case c33 => k_is)
    (case k33 => k_is)
    (case a34 => k_is)
    (case l34 => k_is)
    (case c34 => k_is)
    (case k34 => k_is)
    (case a35 => k_is)
    (case l35 => k_is)
    (case c35 => k_is)
    (case k35 => k_is)
    (case a36 => k_is)
    (case l36 => k_is)
    (case c36 => k_is)
    (case k36 => k_is)
    (case a37 => k_is)
    (case l37 => k_is)
    (case c37 => k_is)
    (case k37 => k_is)
    (case z_len => k_is)
    (case z_sorted => k_is)
    (case z_tuple => k_is)
    (case z_list => k_is)
    (case z_int => k_is)
    (case z_abs => k_is)
    (case z_str => k_is)
    (case z_bool => k_is)
    (case z_any => k_is)
    (case z_all => k_is)
    (case z_sum => k_is)
    (case z_min => k_is)
    (case z_max => k_is)
    (case z_dict => k_is)
    (case z_isinstance => k_is)
    (case z_range => k_is)
    (case z_enumerate => k_is)
    (case z_zip => k_is)
    (case a_SIDES => k_is)
    (case l_SIDES => k_is)

end
